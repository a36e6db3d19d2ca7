import PyProof.Rows.All
import Wide.All
import OpenK.AllK
import Wide.FinOn
import HandS.ForMost
import HandS.ForExc
import HandS.CallSlots
import HandS.TupAny
import HandS.TupMul
import HandS.TupLe
import HandS.Conv
import HandS.Deep
import HandS.Wide
import HandS.Flow
import HandS.Style
import HandS.IsInst
import HandS.Zip
import HandS.Walk
import HandS.Defaults
import KE.KIntText
import KE.KStateDown
import Lean
import HandS.Ends
import HandS.More
import HandS.Words
import HandS.WordsExc
import HandS.Head0
import HandS.Head1
import HandS.Head2
import HandS.HeadEnd
import HandS.HeadHook1
import HandS.HeadHook2
import HandS.Text
import PySem.Challenge.RW_collectedwords_k40_whole_words_of_texts
set_option Elab.async false
set_option linter.all false
set_option maxRecDepth 100000
/-! The small machine: values without addresses, a frame's own objects, an evaluator. -/
namespace VM
open PySem L2

abbrev DKey := Sum Key (List Key)

inductive U where
  | non | bl (b : Bool) | int (i : Int) | str (x : Str)
  | tup (xs : List U) | lst (xs : List U) | frz (xs : List U) | dct (kvs : List (DKey × U)) | fn (f : Nat)

/-- an instance's field: a value, or a dict of its own -/
inductive Fl where
  | v (u : U) | d (kvs : List (DKey × U))

/-- a frame's own objects -/
inductive MO where
  | lst (xs : List U) | lck (xs : List U) | dct (kvs : List (DKey × U)) | ins (c : Nat) (fs : List (Nat × Fl)) | dead

/-- a slot, an argument -/
inductive S where
  | v (u : U) | r (n : Nat)
/-- a result: a value, an own object, a new object -/
inductive RV where
  | v (u : U) | r (n : Nat) | nw (o : MO)

structure Ex where
  c : Nat
  fs : List U

inductive Rs (α : Type) where
  | ok (a : α) (h : List MO) | ex (e : Ex) (h : List MO) | bad

abbrev Rho := List (Option S)
abbrev Hs := List MO

inductive SR where
  | nx (ρ : Rho) (h : Hs) | bk (ρ : Rho) (h : Hs) | ct (ρ : Rho) (h : Hs) | rt (r : RV) (h : Hs) | ex (e : Ex) (ρ : Rho) (h : Hs) | bad

inductive BO where
  | add | sub | mul | fdiv | mod | pow
inductive CO where
  | eq | ne | lt | le | gt | ge | is | isn | «in» | nin
/-- built-in functions and types called -/
inductive BI where
  | len | tuple | list | all | any | sum | min | max | abs | int | str | sorted | range | intL
inductive Ty where
  | int | bool | str | list | tuple | cls (c : Nat)
/-- methods of built-in types -/
inductive ME where
  | append | extend | pop | index | join | split

mutual
inductive IE where
  | var (i : Nat)
  | c (u : U)
  | gl (x : Str) (u : U)
  | fn (x : Str) (f : Nat)
  | bin (o : BO) (a b : IE)
  | neg (a : IE)
  | nt (a : IE)
  | cmp (o : CO) (a b : IE)
  | ch (o p : CO) (a b c : IE)
  | and (a b : IE)
  | or (a b : IE)
  | ife (c a b : IE)
  | tup (es : IEs)
  | lst (es : IEs)
  | idx (a b : IE)
  | slc (a : IE) (lo hi : IO)
  | rev (a : IE)
  | nr (a : IE)
  | call (f : Nat) (es : IEs) (ks : List (Str × Nat)) (kes : IEs)
  | cv (i : Nat) (es : IEs)
  | bi (b : BI) (es : IEs)
  | isi (a : IE) (ts : List Ty)
  | met (m : ME) (o : IE) (es : IEs)
  | lc (t : Tg) (it : II) (c : IO) (e : IE) (own : List (Str × Nat))
  | xx
inductive IEs where
  | nil | cons (e : IE) (es : IEs)
inductive IO where
  | none | some (e : IE)
/-- what a loop walks -/
inductive II where
  | val (e : IE) | rng (es : IEs) | enm (e : IE) | zip (a b : IE)
/-- targets -/
inductive Tg where
  | nm (i : Nat) | tp (ts : Tgs) | sub (o i : IE)
inductive Tgs where
  | nil | cons (t : Tg) (ts : Tgs)
end

/-- what an except suite stores -/
inductive IH where
  | isi | lst (xs : List (Option Str)) | ife (a b : Str)

mutual
inductive IS where
  | asg (t : Tg) (e : IE)
  | par (is : List Nat) (es : IEs)
  | aug (i : Nat) (o : BO) (e : IE)
  | ex (e : IE)
  | ifs (c : IE) (a b : ISs)
  | fors (t : Tg) (it : II) (b : ISs)
  | whl (c : IE) (b : ISs)
  | ret (e : IE)
  | brk
  | cnt
  | rse (c : Nat) (x : Str) (es : IEs)
  | tr (b : ISs) (hs : List (Nat × Nat × Nat × IH))
  | fz (i : Nat)
  | xx
inductive ISs where
  | nil | cons (s : IS) (ss : ISs)
end

/-! ### values -/
def Rs.bind {α β : Type} : Rs α → (α → Hs → Rs β) → Rs β
  | .ok a h, f => f a h
  | .ex e h, _ => .ex e h
  | .bad, _ => .bad

/-- as an argument, an item: a new list is a value -/
def RV.s : RV → Option S
  | .v u => some (.v u)
  | .r n => some (.r n)
  | .nw (.lst xs) => some (.v (.lst xs))
  | .nw (.dct kvs) => some (.v (.dct kvs))
  | .nw _ => none
def S.u : S → Option U
  | .v u => some u
  | .r _ => none
def RV.u (r : RV) : Option U := r.s.bind S.u
def allU : List S → Option (List U)
  | [] => some []
  | s :: r => match s.u, allU r with
    | some u, some us => some (u :: us)
    | _, _ => none

/-- a list or a tuple, its items -/
def seqS (h : Hs) : S → Option (Bool × List U)
  | .v (.tup xs) => some (false, xs)
  | .v (.lst xs) => some (true, xs)
  | .v _ => none
  | .r n => match h[n]? with
    | some (.lst xs) => some (true, xs)
    | some (.lck xs) => some (true, xs)
    | _ => none

mutual
/-- how deep, at most n -/
def U.dp : U → Nat
  | .tup xs => dpL xs + 1
  | .lst xs => dpL xs + 1
  | _ => 0
def dpL : List U → Nat
  | [] => 0
  | x :: xs => max x.dp (dpL xs)
end
mutual
/-- data that == looks through -/
def U.dat : U → Bool
  | .tup xs => datL xs
  | .lst xs => datL xs
  | .frz _ => false
  | .dct _ => false
  | .fn _ => false
  | .str x => x.cps.all (· < 0x110000)
  | _ => true
def datL : List U → Bool
  | [] => true
  | x :: xs => x.dat && datL xs
end
def b2i (b : Bool) : Int := if b then 1 else 0
mutual
def eqU : U → U → Bool
  | .non, .non => true
  | .bl a, .bl b => a == b
  | .bl a, .int i => b2i a == i
  | .int i, .bl a => i == b2i a
  | .int i, .int j => i == j
  | .str x, .str y => decide (x = y)
  | .tup xs, .tup ys => eqL xs ys
  | .lst xs, .lst ys => eqL xs ys
  | _, _ => false
def eqL : List U → List U → Bool
  | [], [] => true
  | x :: xs, y :: ys => eqU x y && eqL xs ys
  | _, _ => false
end
/-- shallow enough data -/
def U.shp (u : U) : Bool := u.dat && Nat.ble u.dp 40

def truU : U → Option Bool
  | .non => some false
  | .bl b => some b
  | .int i => some (i != 0)
  | .str x => if x.length ≤ 16777216 then some ((x.length : Int) != 0) else none
  | .tup xs => some (!xs.isEmpty)
  | .lst xs => some (!xs.isEmpty)
  | _ => none
def truS (h : Hs) : S → Option Bool
  | .v u => truU u
  | .r n => (seqS h (.r n)).map fun p => !p.2.isEmpty

def lim : Nat := 16777216
def small64 (i : Int) : Bool := decide (-18446744073709551616 < i) && decide (i < 18446744073709551616)
def mulOk (i j : Int) : Bool := small64 i || small64 j || Nat.ble (i.natAbs.log2 + j.natAbs.log2) 900000

def rep {α : Type} (xs : List α) (k : Int) : List α := (List.replicate k.toNat xs).flatten

def binS (o : BO) (h : Hs) (x y : S) : Option RV :=
  match o, x, y with
  | .add, .v (.int i), .v (.int j) => some (.v (.int (i + j)))
  | .add, .v (.str a), .v (.str b) => if a.length + b.length ≤ lim then some (.v (.str (a ++ b))) else none
  | .sub, .v (.int i), .v (.int j) => some (.v (.int (i - j)))
  | .mul, .v (.int i), .v (.int j) => if mulOk i j then some (.v (.int (i * j))) else none
  | .fdiv, .v (.int i), .v (.int j) => if 0 < j ∧ j.natAbs.log2 < 8000 then some (.v (.int (i / j))) else none
  | .mod, .v (.int i), .v (.int j) => if 0 < j then some (.v (.int (i % j))) else none
  | .pow, .v (.int i), .v (.int j) => if 0 ≤ j ∧ j ≤ 1000 ∧ i.natAbs < 1000000 then some (.v (.int (i ^ j.toNat))) else none
  | .add, a, b => match seqS h a, seqS h b with
    | some (false, xs), some (false, ys) => if xs.length + ys.length ≤ lim then some (.v (.tup (xs ++ ys))) else none
    | some (true, xs), some (true, ys) => if xs.length + ys.length ≤ lim then some (.nw (.lst (xs ++ ys))) else none
    | _, _ => none
  | .mul, .v (.str a), .v (.int k) => if -1000000 ≤ k ∧ k ≤ 1000000 ∧ a.length * k.toNat ≤ lim then some (.v (.str ⟨(rep a.cps.toList k).toArray⟩)) else none
  | .mul, a, .v (.int k) => match seqS h a with
    | some (false, xs) => if -1000000 ≤ k ∧ k ≤ 1000 ∧ xs.length ≤ 1000 then some (.v (.tup (rep xs k))) else none
    | some (true, xs) => if -1000000 ≤ k ∧ k ≤ 1000000 ∧ xs.length * k.toNat ≤ lim then some (.nw (.lst (rep xs k))) else none
    | none => none
  | _, _, _ => none

def cmpI : CO → Int → Int → Option Bool
  | .eq, i, j => some (decide (i = j))
  | .ne, i, j => some (!decide (i = j))
  | .lt, i, j => some (decide (i < j))
  | .le, i, j => some (decide (i ≤ j))
  | .gt, i, j => some (decide (j < i))
  | .ge, i, j => some (decide (j ≤ i))
  | _, _, _ => none

def strLt (a b : Str) : Bool := decide (a.cps.toList < b.cps.toList)
/-- one sign within a text -/
def signIn (x z : Str) : Option Bool := match x.cps.toList with
  | [c] => some (decide (c ∈ z.cps.toList))
  | _ => none
def isNon : U → Bool
  | .non => true
  | _ => false
def cmpS (o : CO) (h : Hs) (x y : S) : Option Bool :=
  match o, x, y with
  | .is, .v a, .v .non => some (isNon a)
  | .is, .r n, .v .non => (seqS h (.r n)).map fun _ => false
  | .isn, .v a, .v .non => some (!isNon a)
  | .isn, .r n, .v .non => (seqS h (.r n)).map fun _ => true
  | .in, .v (.str a), .v (.str z) => signIn a z
  | .nin, .v (.str a), .v (.str z) => (signIn a z).map (!·)
  | .in, .v a, z => match seqS h z with
    | some (true, ys) => if a.shp && (U.lst ys).shp then some (ys.any fun y => eqU y a) else none
    | some (false, ys) => if a.shp && (U.tup ys).shp then some (ys.any fun y => eqU y a) else none
    | none => none
  | .nin, .v a, z => match seqS h z with
    | some (true, ys) => if a.shp && (U.lst ys).shp then some (!ys.any fun y => eqU y a) else none
    | some (false, ys) => if a.shp && (U.tup ys).shp then some (!ys.any fun y => eqU y a) else none
    | none => none
  | o, .v (.int i), .v (.int j) => cmpI o i j
  | .lt, .v (.str a), .v (.str b) => some (strLt a b)
  | .le, .v (.str a), .v (.str b) => some (!strLt b a)
  | .gt, .v (.str a), .v (.str b) => some (strLt b a)
  | .ge, .v (.str a), .v (.str b) => some (!strLt a b)
  | .eq, .v (.str a), .v (.str b) => some (decide (a = b))
  | .ne, .v (.str a), .v (.str b) => some (!decide (a = b))
  | .eq, .v a, .v b => if a.shp && b.shp then some (eqU a b) else none
  | .ne, .v a, .v b => if a.shp && b.shp then some (!eqU a b) else none
  | _, _, _ => none

/-- the place that i names among n -/
def ixU (n : Nat) (i : Int) : Option Nat := if 0 ≤ i then (if i < n then some i.toNat else none) else if -(n : Int) ≤ i then some (i + n).toNat else none
def idxS (h : Hs) (x : S) (i : S) : Option RV :=
  match x, i with
  | .v (.str z), .v (.int i) => if z.length ≤ lim then match ixU z.cps.toList.length i with
      | some j => (z.cps.toList[j]?).map fun c => .v (.str ⟨#[c]⟩)
      | none => none
    else none
  | .v (.frz xs), .v (.int i) => match ixU xs.length i with
    | some j => (xs[j]?).map .v
    | none => none
  | x, .v (.int i) => match seqS h x with
    | some (_, xs) => match ixU xs.length i with
      | some j => (xs[j]?).map .v
      | none => none
    | none => none
  | _, _ => none

def sIx (n d : Nat) : Option Int → Nat
  | none => d
  | some v => if v < 0 then (v + (n : Int)).toNat else min v.toNat n
def cut {α : Type} (xs : List α) (lo hi : Option Int) : List α := (xs.drop (sIx xs.length 0 lo)).take (sIx xs.length xs.length hi - sIx xs.length 0 lo)
def slcS (h : Hs) (x : S) (lo hi : Option Int) : Option RV :=
  match x with
  | .v (.str z) => if z.length ≤ lim then some (.v (.str ⟨(cut z.cps.toList lo hi).toArray⟩)) else none
  | .v (.frz xs) => some (.nw (.lst (cut xs lo hi)))
  | x => match seqS h x with
    | some (true, xs) => some (.nw (.lst (cut xs lo hi)))
    | some (false, xs) => some (.v (.tup (cut xs lo hi)))
    | none => none
def revS (h : Hs) (x : S) : Option RV :=
  match seqS h x with
  | some (true, xs) => some (.nw (.lst xs.reverse))
  | _ => none

def intsU : List U → Option (List Int)
  | [] => some []
  | .int i :: r => (intsU r).map (i :: ·)
  | _ => none
def blsU : List U → Option (List Bool)
  | [] => some []
  | .bl i :: r => (blsU r).map (i :: ·)
  | _ => none
def strsU : List U → Option (List Str)
  | [] => some []
  | .str i :: r => (strsU r).map (i :: ·)
  | _ => none
def maxI (i : Int) : List Int → Int
  | [] => i
  | j :: r => maxI (if i < j then j else i) r
def minI (i : Int) : List Int → Int
  | [] => i
  | j :: r => minI (if j < i then j else i) r

def seqAll (h : Hs) (x : S) : Option (Bool × List U) := match x with
  | .v (.frz xs) => some (true, xs)
  | x => seqS h x
def one1 {α : Type} (f : S → Option α) : List S → Option α
  | [x] => f x
  | _ => none
def lenB (h : Hs) : S → Option RV
  | .v (.str x) => if x.length ≤ lim then some (.v (.int x.length)) else none
  | x => (seqAll h x).map fun p => .v (.int p.2.length)
def blsB (h : Hs) (f : List Bool → Bool) (x : S) : Option RV := match seqS h x with
  | some (true, xs) => (blsU xs).map fun bs => .v (.bl (f bs))
  | _ => none
def extB (h : Hs) (f : Int → List Int → Int) (x : S) : Option RV := match seqS h x with
  | some (true, xs) => match intsU xs with
    | some (i :: r) => some (.v (.int (f i r)))
    | _ => none
  | _ => none
def two2 (f : S → Option RV) (g : Int → Int → Int) : List S → Option RV
  | [x] => f x
  | [x, y] => match x, y with
    | .v (.int i), .v (.int j) => some (.v (.int (g i j)))
    | _, _ => none
  | _ => none
def absB : S → Option RV
  | .v (.int i) => some (.v (.int (if i < 0 then -i else i)))
  | _ => none
def intB : S → Option RV
  | .v (.int i) => some (.v (.int i))
  | .v (.bl b) => some (.v (.int (if b then 1 else 0)))
  | .v (.str x) => if x.length ≤ 640 then (PySem.intText? x).map fun n => .v (.int n) else none
  | _ => none
/-- of a long text -/
def intLB : S → Option RV
  | .v (.str x) => if x.length ≤ lim then (PySem.intText? x).map fun n => .v (.int n) else none
  | _ => none
def strB : S → Option RV
  | .v (.int i) => if i.natAbs.log2 < 1920 then some (.v (.str (toString i))) else none
  | _ => none
def bltS (b : BI) (h : Hs) (ss : List S) : Option RV :=
  match b with
  | .len => one1 (lenB h) ss
  | .tuple => one1 (fun x => (seqS h x).map fun p => .v (.tup p.2)) ss
  | .list => one1 (fun x => (seqS h x).map fun p => .nw (.lst p.2)) ss
  | .all => one1 (blsB h fun bs => bs.all id) ss
  | .any => one1 (blsB h fun bs => bs.any id) ss
  | .sum => one1 (fun x => match seqS h x with
    | some (true, xs) => (intsU xs).map fun bs => .v (.int bs.sum)
    | _ => none) ss
  | .max => two2 (extB h maxI) (fun i j => if j > i then j else i) ss
  | .min => two2 (extB h minI) (fun i j => if j < i then j else i) ss
  | .abs => one1 absB ss
  | .int => one1 intB ss
  | .str => one1 strB ss
  | .intL => one1 intLB ss
  | .sorted => none
  | .range => none

def setAt (h : Hs) (n : Nat) (o : MO) : Hs := h.set n o
def onL (h : Hs) (o : S) (f : Nat → List U → Option (RV × Hs)) : Option (RV × Hs) := match o with
  | .r n => match h[n]? with
    | some (.lst xs) => f n xs
    | _ => none
  | _ => none
def appM (h : Hs) (o : S) : List S → Option (RV × Hs)
  | [.v u] => onL h o fun n xs => if xs.length < lim then some (.v .non, h.set n (.lst (xs ++ [u]))) else none
  | _ => none
def extM (h : Hs) (o : S) : List S → Option (RV × Hs)
  | [s] => onL h o fun n xs => match seqS h s with
    | some (true, ys) => if xs.length + ys.length ≤ lim then some (.v .non, h.set n (.lst (xs ++ ys))) else none
    | _ => none
  | _ => none
def popM (h : Hs) (o : S) : List S → Option (RV × Hs)
  | [] => onL h o fun n xs => match xs[xs.length - 1]? with
    | some u => some (.v u, h.set n (.lst xs.dropLast))
    | none => none
  | [.v (.int i)] => onL h o fun n xs => if xs.length ≤ lim then match ixU xs.length i with
      | some j => match xs[j]? with
        | some u => some (.v u, h.set n (.lst (xs.eraseIdx j)))
        | none => none
      | none => none else none
  | _ => none
def findU (u : U) : List U → Option Nat
  | [] => none
  | y :: ys => if eqU y u then some 0 else (findU u ys).map (· + 1)
def idxM (h : Hs) (o : S) : List S → Option (RV × Hs)
  | [.v u] => match seqS h o with
    | some (true, xs) => if u.shp && (U.lst xs).shp then (findU u xs).map fun j => (.v (.int j), h) else none
    | _ => none
  | _ => none
def joinM (h : Hs) (o : S) : List S → Option (RV × Hs)
  | [s] => match o with
    | .v (.str a) => match seqS h s with
      | some (_, xs) => match strsU xs with
        | some ys => if (ys.map (·.length)).sum + ys.length * a.length ≤ lim then some (.v (.str (Txt.join a ys)), h) else none
        | none => none
      | none => none
    | _ => none
  | _ => none
def splM (h : Hs) (o : S) : List S → Option (RV × Hs)
  | [.v (.str b)] => match o with
    | .v (.str a) => if (b.length == 0) = false ∧ a.length + 2 ≤ lim then some (.nw (.lst ((Txt.split a b).map .str)), h) else none
    | _ => none
  | _ => none
def metS (m : ME) (h : Hs) (o : S) (ss : List S) : Option (RV × Hs) :=
  match m with
  | .append => appM h o ss
  | .extend => extM h o ss
  | .pop => popM h o ss
  | .index => idxM h o ss
  | .join => joinM h o ss
  | .split => splM h o ss

/-- the receiver fits -/
def metT (m : ME) (h : Hs) (o : S) : Bool := match m with
  | .join => match o with
    | .v (.str _) => true
    | _ => false
  | .split => match o with
    | .v (.str _) => true
    | _ => false
  | _ => match seqS h o with
    | some (true, _) => true
    | _ => false
/-- the built-in type: None 0, bool 1, int 2, str 3, tuple 4, list 5 -/
def tyS (h : Hs) : S → Option Nat
  | .v .non => some 0
  | .v (.bl _) => some 1
  | .v (.int _) => some 2
  | .v (.str _) => some 3
  | .v (.tup _) => some 4
  | .v (.lst _) => some 5
  | .v _ => none
  | .r n => (seqS h (.r n)).map fun _ => 5
def isTy (t : Nat) : Ty → Bool
  | .int => t == 2 || t == 1
  | .bool => t == 1
  | .str => t == 3
  | .tuple => t == 4
  | .list => t == 5
  | .cls _ => false

/-! ### calls -/
structure CC where
  call : Nat → List S → Hs → Rs RV
  np : Nat → Nat
  df : Nat → List U

def refsOf : List S → List Nat
  | [] => []
  | .v _ :: r => refsOf r
  | .r n :: r => n :: refsOf r
def pick (h : Hs) : List Nat → Option Hs
  | [] => some []
  | n :: r => match h[n]?, pick h r with
    | some .dead, _ => none
    | some o, some os => some (o :: os)
    | _, _ => none
def renum (k : Nat) : List S → List S
  | [] => []
  | .v u :: r => .v u :: renum k r
  | .r _ :: r => .r k :: renum (k + 1) r
def putBack {α : Type} (h : List α) : List Nat → List α → List α
  | n :: ns, o :: os => putBack (h.set n o) ns os
  | _, _ => h
def ndup : List Nat → Bool
  | [] => true
  | n :: r => !r.contains n && ndup r
/-- what a call hands back, in the caller's numbers -/
def backR (ns : List Nat) (h : Hs) : RV → Rs RV
  | .v u => .ok (.v u) h
  | .r k => match ns[k]? with
    | some n => .ok (.r n) h
    | none => .bad
  | .nw (.ins c fs) => .ok (.r h.length) (h ++ [.ins c fs])
  | .nw o => .ok (.nw o) h
def doCall (c : CC) (f : Nat) (ss : List S) (h : Hs) : Rs RV :=
  if ndup (refsOf ss) then match pick h (refsOf ss) with
    | some os => match c.call f (renum 0 ss) os with
      | .ok rv os' => if os'.length = (refsOf ss).length then backR (refsOf ss) (putBack h (refsOf ss) os') rv else .bad
      | .ex e os' => if os'.length = (refsOf ss).length then .ex e (putBack h (refsOf ss) os') else .bad
      | .bad => .bad
    | none => .bad
  else .bad
def mapO {α β : Type} (f : α → Option β) : List α → Option (List β)
  | [] => some []
  | a :: r => match f a, mapO f r with
    | some b, some bs => some (b :: bs)
    | _, _ => none
/-- the parameters' values: from the left, then by names, then what stands by itself -/
def arrJ {α : Type} (np : Nat) (us : List α) (ks : List Nat) (ws ds : List α) (j : Nat) : Option α := match us[j]? with
  | some s => some s
  | none => match ks.idxOf? j with
    | some q => ws[q]?
    | none => if np - ds.length ≤ j then ds[j - (np - ds.length)]? else none
def arrG {α : Type} (np : Nat) (us : List α) (ks : List Nat) (ws ds : List α) : Option (List α) := if us.length ≤ np then mapO (arrJ np us ks ws ds) (List.range np) else none
def argsOf (c : CC) (f : Nat) (ss : List S) (ks : List Nat) (kss : List S) : Option (List S) := arrG (c.np f) ss ks kss ((c.df f).map .v)

def wipeR (ρ : Rho) : List Nat → Rho
  | [] => ρ
  | v :: vs => (wipeR ρ vs).set v none
def rngN (lo hi st : Int) : Option Nat :=
  if -1000000 ≤ lo ∧ lo ≤ 16000000 ∧ -1000000 ≤ hi ∧ hi ≤ 16000000 then (if st = 1 then some (hi - lo).toNat else if st = -1 then some (lo - hi).toNat else none) else none
/-- what is walked: an item at each turn, as it stands then -/
inductive Src where
  | seq (s : S) | str (z : Str) | enm (s : S) | zip (s t : S) | rng (lo st : Int) (n : Nat)
def srcAt (h : Hs) : Src → Nat → Option U
  | .seq s, i => match seqAll h s with
    | some (_, us) => us[i]?
    | none => none
  | .str z, i => (z.cps.toList[i]?).map fun c => .str ⟨#[c]⟩
  | .enm s, i => match seqAll h s with
    | some (_, us) => (us[i]?).map fun u => .tup [.int i, u]
    | none => none
  | .zip s t, i => match seqAll h s, seqAll h t with
    | some (_, us), some (_, ws) => match us[i]?, ws[i]? with
      | some u, some w => some (.tup [u, w])
      | _, _ => none
    | _, _ => none
  | .rng lo st n, i => if i < n then some (.int (lo + i * st)) else none
/-- it stops at turn i -/
def srcEnd (h : Hs) : Src → Nat → Bool
  | .seq s, i => match seqAll h s with
    | some (_, us) => Nat.ble us.length i
    | none => false
  | .str z, i => Nat.ble z.cps.toList.length i
  | .enm s, i => match seqAll h s with
    | some (_, us) => Nat.ble us.length i
    | none => false
  | .zip s t, i => match seqAll h s, seqAll h t with
    | some (_, us), some (_, ws) => Nat.ble us.length i || Nat.ble ws.length i
    | _, _ => false
  | .rng _ _ n, i => Nat.ble n i

/-! ### the evaluator -/
abbrev EvE := Rho → Hs → Rs RV
abbrev EvL := Rho → Hs → Rs (List S)
/-- what is walked, how many turns -/
abbrev EvI := Rho → Hs → Rs (Src × Nat)
abbrev EvG := RV → Rho → Hs → Rs Rho
abbrev EvGs := List U → Rho → Hs → Rs Rho

def ofO {α : Type} (h : Hs) : Option α → Rs α
  | some a => .ok a h
  | none => .bad
def ofP {α : Type} : Option (α × Hs) → Rs α
  | some (a, h) => .ok a h
  | none => .bad
def oneS (h : Hs) (r : RV) : Rs S := ofO h r.s
/-- e as an item -/
def sE (f : EvE) : Rho → Hs → Rs S := fun ρ h => (f ρ h).bind fun r h => oneS h r
def vBin (o : BO) (f g : EvE) : EvE := fun ρ h => (sE f ρ h).bind fun x h => (sE g ρ h).bind fun y h => ofO h (binS o h x y)
def vCmp (o : CO) (f g : EvE) : EvE := fun ρ h => (sE f ρ h).bind fun x h => (sE g ρ h).bind fun y h => ofO h ((cmpS o h x y).map fun b => .v (.bl b))
def vCh (o p : CO) (f g k : EvE) : EvE := fun ρ h => (sE f ρ h).bind fun x h => (sE g ρ h).bind fun y h => match cmpS o h x y with
  | some true => (sE k ρ h).bind fun z h => ofO h ((cmpS p h y z).map fun b => .v (.bl b))
  | some false => .ok (.v (.bl false)) h
  | none => .bad
/-- a test -/
def tE (f : EvE) : Rho → Hs → Rs Bool := fun ρ h => (sE f ρ h).bind fun x h => ofO h (truS h x)
def vNt (f : EvE) : EvE := fun ρ h => (tE f ρ h).bind fun b h => .ok (.v (.bl !b)) h
def vAnd (f g : EvE) : EvE := fun ρ h => (f ρ h).bind fun r h => match r.s with
  | some x => match truS h x with
    | some true => g ρ h
    | some false => .ok r h
    | none => .bad
  | none => .bad
def vOr (f g : EvE) : EvE := fun ρ h => (f ρ h).bind fun r h => match r.s with
  | some x => match truS h x with
    | some true => .ok r h
    | some false => g ρ h
    | none => .bad
  | none => .bad
def vIf (c f g : EvE) : EvE := fun ρ h => (tE c ρ h).bind fun b h => if b = true then f ρ h else g ρ h
def vVar (i : Nat) : EvE := fun ρ h => match ρ[i]? with
  | some (some (.v u)) => .ok (.v u) h
  | some (some (.r n)) => .ok (.r n) h
  | _ => .bad
/-- the items as values -/
def usE (f : EvL) : Rho → Hs → Rs (List U) := fun ρ h => (f ρ h).bind fun ss h => ofO h (allU ss)
def vTup (f : EvL) : EvE := fun ρ h => (usE f ρ h).bind fun us h => if us.length ≤ lim then .ok (.v (.tup us)) h else .bad
def vLst (f : EvL) : EvE := fun ρ h => (usE f ρ h).bind fun us h => if us.length ≤ lim then .ok (.nw (.lst us)) h else .bad
def intO : S → Option (Option Int)
  | .v (.int i) => some (some i)
  | _ => none
abbrev EvO := Rho → Hs → Rs (Option Int)
def vCall (c : CC) (f : Nat) (es : EvL) (ks : List Nat) (kes : EvL) : EvE := fun ρ h => (es ρ h).bind fun ss h => (kes ρ h).bind fun kss h => match argsOf c f ss ks kss with
  | some as => doCall c f as h
  | none => .bad
def vCv (c : CC) (i : Nat) (es : EvL) : EvE := fun ρ h => match ρ[i]? with
  | some (some (.v (.fn f))) => if c.np f = 0 then .bad else (es ρ h).bind fun ss h => if ss.length = c.np f then doCall c f ss h else .bad
  | _ => .bad
/-- the turns of a comprehension: what is made so far, how many come, which is on -/
def compL (src : Src) (g : EvGs) (k : Rho → Hs → Rs Bool) (f : EvE) (ρ : Rho) : Nat → Nat → List U → Hs → Rs (List U)
  | 0, i, acc, h => if srcEnd h src i = true then .ok acc h else .bad
  | n + 1, i, acc, h => match srcAt h src i with
    | none => .bad
    | some x => (g [x] ρ h).bind fun ρ1 h => (k ρ1 h).bind fun b h => if b = true then
      (sE f ρ1 h).bind fun s h => match s.u with
        | some u => if acc.length < lim then compL src g k f ρ n (i + 1) (acc ++ [u]) h else .bad
        | none => .bad
      else compL src g k f ρ n (i + 1) acc h
def vLc (g : EvGs) (it : EvI) (k : Rho → Hs → Rs Bool) (f : EvE) (own : List Nat) : EvE := fun ρ h => (it ρ h).bind fun p h => match compL p.1 g k f (wipeR ρ own) p.2 0 [] h with
  | .ok us h => .ok (.nw (.lst us)) h
  | _ => .bad
/-- targets that hold one value -/
def gNm (i : Nat) : EvG := fun r ρ h => match r.s with
  | some s => .ok (ρ.set i (some s)) h
  | none => .bad
def gTp (g : EvGs) : EvG := fun r ρ h => match r with
  | .v (.tup us) => g us ρ h
  | _ => .bad
def gSubS (h : Hs) (o i : S) (u : U) : Option Hs := match o, i with
  | .r n, .v (.int i) => match h[n]? with
    | some (.lst xs) => match ixU xs.length i with
      | some j => some (h.set n (.lst (xs.set j u)))
      | none => none
    | _ => none
  | _, _ => none
def noEx {α : Type} : Rs α → Rs α
  | .ex _ _ => .bad
  | r => r
def gSub (o i : EvE) : EvG := fun r ρ h => match r.u with
  | some u => noEx ((sE o ρ h).bind fun o h => (sE i ρ h).bind fun i h => match gSubS h o i u with
    | some h => .ok ρ h
    | none => .bad)
  | none => .bad

def vNr (f : EvE) : EvE := fun ρ h => (f ρ h).bind fun r h => match r with
  | .nw o => .ok (.r h.length) (h ++ [o])
  | .r n => .ok (.r n) h
  | .v _ => .bad
def vNeg (f : EvE) : EvE := fun ρ h => (sE f ρ h).bind fun x h => match x with
  | .v (.int i) => .ok (.v (.int (-i))) h
  | _ => .bad
def vIdx (f k : EvE) : EvE := fun ρ h => (sE f ρ h).bind fun x h => (sE k ρ h).bind fun y h => ofO h (idxS h x y)
def vSlc (f : EvE) (lo hi : EvO) : EvE := fun ρ h => (sE f ρ h).bind fun x h => (lo ρ h).bind fun l h => (hi ρ h).bind fun u h => ofO h (slcS h x l u)
def vRev (f : EvE) : EvE := fun ρ h => (sE f ρ h).bind fun x h => ofO h (revS h x)
def vBi (b : BI) (es : EvL) : EvE := fun ρ h => (es ρ h).bind fun ss h => ofO h (bltS b h ss)
def vIsi (f : EvE) (ts : List Ty) : EvE := fun ρ h => (sE f ρ h).bind fun x h => ofO h ((tyS h x).map fun t => .v (.bl (ts.any (isTy t))))
def vMet (m : ME) (f : EvE) (es : EvL) : EvE := fun ρ h => (sE f ρ h).bind fun x h => if metT m h x = true then (es ρ h).bind fun ss h => ofP (metS m h x ss) else .bad
def vO (f : EvE) : EvO := fun ρ h => (sE f ρ h).bind fun s h => ofO h (intO s)
def vNil : EvL := fun _ h => .ok [] h
def vCons (f : EvE) (es : EvL) : EvL := fun ρ h => (sE f ρ h).bind fun s h => (es ρ h).bind fun ss h => .ok (s :: ss) h

def iVal (f : EvE) : EvI := fun ρ h => (sE f ρ h).bind fun s h => match s with
  | .v (.str z) => .ok (.str z, z.cps.toList.length) h
  | s => match seqAll h s with
    | some (_, us) => .ok (.seq s, us.length) h
    | none => .bad
def iRng (f : EvL) : EvI := fun ρ h => (f ρ h).bind fun ss h => match ss with
  | [.v (.int n)] => ofO h ((rngN 0 n 1).map fun k => (.rng 0 1 k, k))
  | [.v (.int a), .v (.int b)] => ofO h ((rngN a b 1).map fun k => (.rng a 1 k, k))
  | [.v (.int a), .v (.int b), .v (.int d)] => ofO h ((rngN a b d).map fun k => (.rng a d k, k))
  | _ => .bad
def iEnm (f : EvE) : EvI := fun ρ h => (sE f ρ h).bind fun s h => match seqAll h s with
  | some (true, us) => .ok (.enm s, us.length) h
  | _ => .bad
def iZp (f k : EvE) : EvI := fun ρ h => (sE f ρ h).bind fun s h => (sE k ρ h).bind fun t h => match seqAll h s, seqAll h t with
  | some (b, us), some (d, ws) => if b = d then .ok (.zip s t, min us.length ws.length) h else .bad
  | _, _ => .bad

mutual
def evE (c : CC) : IE → EvE
  | .var i => vVar i
  | .c u => fun _ h => .ok (.v u) h
  | .gl _ u => fun _ h => .ok (.v u) h
  | .fn _ f => fun _ h => .ok (.v (.fn f)) h
  | .bin o a b => vBin o (evE c a) (evE c b)
  | .neg a => vNeg (evE c a)
  | .nt a => vNt (evE c a)
  | .cmp o a b => vCmp o (evE c a) (evE c b)
  | .ch o p a b d => vCh o p (evE c a) (evE c b) (evE c d)
  | .and a b => vAnd (evE c a) (evE c b)
  | .or a b => vOr (evE c a) (evE c b)
  | .ife t a b => vIf (evE c t) (evE c a) (evE c b)
  | .tup es => vTup (evL c es)
  | .lst es => vLst (evL c es)
  | .idx a b => vIdx (evE c a) (evE c b)
  | .slc a lo hi => vSlc (evE c a) (evO c lo) (evO c hi)
  | .rev a => vRev (evE c a)
  | .nr a => vNr (evE c a)
  | .call f es ks kes => vCall c f (evL c es) (ks.map (·.2)) (evL c kes)
  | .cv i es => vCv c i (evL c es)
  | .bi b es => vBi b (evL c es)
  | .isi a ts => vIsi (evE c a) ts
  | .met m o es => vMet m (evE c o) (evL c es)
  | .lc t it k e own => vLc (evT1 c t) (evI c it) (evK c k) (evE c e) (own.map (·.2))
  | .xx => fun _ _ => .bad
def evL (c : CC) : IEs → EvL
  | .nil => vNil
  | .cons e es => vCons (evE c e) (evL c es)
def evO (c : CC) : IO → EvO
  | .none => fun _ h => .ok none h
  | .some e => vO (evE c e)
def evK (c : CC) : IO → Rho → Hs → Rs Bool
  | .none => fun _ h => .ok true h
  | .some e => tE (evE c e)
def evI (c : CC) : II → EvI
  | .val e => iVal (evE c e)
  | .rng es => iRng (evL c es)
  | .enm e => iEnm (evE c e)
  | .zip a b => iZp (evE c a) (evE c b)
/-- a target that takes one value, as a list of one -/
def evT1 (c : CC) : Tg → EvGs
  | .nm i => fun us ρ h => match us with
    | [u] => .ok (ρ.set i (some (.v u))) h
    | _ => .bad
  | .tp ts => fun us ρ h => match us with
    | [.tup xs] => evTs c ts xs ρ h
    | _ => .bad
  | _ => fun _ _ _ => .bad
def evTs (c : CC) : Tgs → EvGs
  | .nil => fun us ρ h => match us with
    | [] => .ok ρ h
    | _ => .bad
  | .cons t ts => fun us ρ h => match us with
    | u :: us => (evG c t (.v u) ρ h).bind fun ρ h => evTs c ts us ρ h
    | [] => .bad
def evG (c : CC) : Tg → EvG
  | .nm i => gNm i
  | .tp ts => gTp (evTs c ts)
  | .sub o i => gSub (evE c o) (evE c i)
end

/-! ### statements -/
abbrev EvS := Rho → Hs → SR
def SR.ofRs {α : Type} (ρ : Rho) : Rs α → (α → Hs → SR) → SR
  | .ok a h, f => f a h
  | .ex e h, _ => .ex e ρ h
  | .bad, _ => .bad
def SR.andThen : SR → (Rho → Hs → SR) → SR
  | .nx ρ h, f => f ρ h
  | r, _ => r
/-- the turns of a for -/
def forL (src : Src) (g : EvGs) (b : EvS) : Nat → Nat → EvS
  | 0, i => fun ρ h => if srcEnd h src i = true then .nx ρ h else .bad
  | n + 1, i => fun ρ h => match srcAt h src i with
    | none => .bad
    | some x => match g [x] ρ h with
      | .ok ρ h => match b ρ h with
        | .nx ρ h => forL src g b n (i + 1) ρ h
        | .ct ρ h => forL src g b n (i + 1) ρ h
        | .bk ρ h => .nx ρ h
        | r => r
      | _ => .bad
def whlL (t : Rho → Hs → Rs Bool) (b : EvS) : Nat → EvS
  | 0 => fun _ _ => .bad
  | k + 1 => fun ρ h => SR.ofRs ρ (t ρ h) fun c h => if c = true then match b ρ h with
      | .nx ρ h => whlL t b k ρ h
      | .ct ρ h => whlL t b k ρ h
      | .bk ρ h => .nx ρ h
      | r => r
    else .nx ρ h
def setMany (ρ : Rho) : List Nat → List S → Option Rho
  | [], [] => some ρ
  | i :: is, s :: ss => setMany (ρ.set i (some s)) is ss
  | _, _ => none
/-- an exception's class against a clause's, or a built-in one above it -/
abbrev Sub := Nat → Nat → Bool
def hxU (e : Ex) (isv : Bool) : IH → Option RV
  | .isi => some (.v (.bl isv))
  | .lst xs => some (.nw (.lst (xs.map fun x => match x with
    | some z => .str z
    | none => .bl isv)))
  | .ife a b => some (.v (.str (if isv then a else b)))
def catchS (ρ : Rho) (h : Hs) (e : Ex) : List (Nat × Nat × Nat × IH) → SR
  | [] => .ex e ρ h
  | (c, i, j, x) :: r => if e.c = c then match (hxU e true x).bind RV.s with
      | some s => .nx ((ρ.set j (some s)).set i none) h
      | none => .bad
    else catchS ρ h e r

mutual
def evS (c : CC) (k : Nat) : IS → EvS
  | .asg t e => fun ρ h => SR.ofRs ρ (evE c e ρ h) fun r h => SR.ofRs ρ (noEx (evG c t r ρ h)) .nx
  | .par is es => fun ρ h => SR.ofRs ρ (evL c es ρ h) fun ss h => match setMany ρ is ss with
    | some ρ => .nx ρ h
    | none => .bad
  | .aug i o e => fun ρ h => match ρ[i]? with
    | some (some x) => SR.ofRs ρ (sE (evE c e) ρ h) fun y h => match x, y with
      | .v (.int _), .v (.int _) => match (binS o h x y).bind RV.s with
        | some s => .nx (ρ.set i (some s)) h
        | none => .bad
      | _, _ => .bad
    | _ => .bad
  | .ex e => fun ρ h => SR.ofRs ρ (evE c e ρ h) fun _ h => .nx ρ h
  | .ifs t a b => fun ρ h => SR.ofRs ρ (tE (evE c t) ρ h) fun d h => if d = true then evSs c k a ρ h else evSs c k b ρ h
  | .fors t it b => fun ρ h => SR.ofRs ρ (evI c it ρ h) fun p h => forL p.1 (evT1 c t) (evSs c k b) p.2 0 ρ h
  | .whl t b => fun ρ h => whlL (tE (evE c t)) (evSs c k b) k ρ h
  | .ret e => fun ρ h => SR.ofRs ρ (evE c e ρ h) .rt
  | .brk => .bk
  | .cnt => .ct
  | .rse d _ es => fun ρ h => SR.ofRs ρ (usE (evL c es) ρ h) fun us h => .ex ⟨d, us⟩ ρ h
  | .tr b hs => fun ρ h => match evSs c k b ρ h with
    | .ex e ρ h => catchS ρ h e hs
    | r => r
  | .fz i => fun ρ h => match ρ[i]? with
    | some (some (.r n)) => match h[n]? with
      | some (.lst xs) => .nx (ρ.set i (some (.v (.lst xs)))) (h.set n .dead)
      | _ => .bad
    | _ => .bad
  | .xx => fun _ _ => .bad
def evSs (c : CC) (k : Nat) : ISs → EvS
  | .nil => .nx
  | .cons s ss => fun ρ h => (evS c k s ρ h).andThen (evSs c k ss)
end

/-! ### defs -/
structure FD where
  np : Nat
  ns : Nat
  df : List U
  body : ISs
abbrev Prog := List FD
/-- what leaves a def: its own new object goes out as a new one -/
def leave (n : Nat) : RV → Hs → Rs RV
  | .r k, h => if k < n then .ok (.r k) (h.take n) else match h[k]? with
    | some (.lst xs) => .ok (.nw (.lst xs)) (h.take n)
    | some (.dct xs) => .ok (.nw (.dct xs)) (h.take n)
    | some (.ins c fs) => .ok (.nw (.ins c fs)) (h.take n)
    | _ => .bad
  | r, h => .ok r (h.take n)
def runF (c : CC) (k : Nat) (d : FD) (as : List S) (os : Hs) : Rs RV :=
  if as.length = d.np then match evSs c k d.body (as.map some ++ List.replicate (d.ns - d.np) none) os with
    | .nx _ h => .ok (.v .non) (h.take os.length)
    | .rt r h => leave os.length r h
    | .ex e _ h => .ex e (h.take os.length)
    | _ => .bad
  else .bad
/-- the machine of a program at a fuel -/
def cc (P : Prog) : Nat → CC
  | 0 => { call := fun _ _ _ => .bad, np := fun f => (P[f]?.map FD.np).getD 0, df := fun f => (P[f]?.map FD.df).getD [] }
  | n + 1 => { call := fun f as os => (match P[f]? with
      | some d => runF (cc P n) 1000000 d as os
      | none => .bad), np := fun f => (P[f]?.map FD.np).getD 0, df := fun f => (P[f]?.map FD.df).getD [] }
end VM

/-! The small machine against the model: what a value, a frame's objects stand for. -/
namespace VM
open PySem PySem.Spec PyProof.Rows L2

/-- what is written of the program: where defs, classes stand -/
structure GS where
  K : PySem.W.Frag
  fa : Nat → Addr
  ca : Nat → Addr
  fld : Nat → Str

abbrev OA := List Addr
abbrev Phi := List (Option OA)
def own (φ : Phi) (a : Addr) : Prop := ∃ l, some l ∈ φ ∧ a ∈ l

/-- a tuple | a list that is not the frame's own -/
def TupA (K : PySem.W.Frag) (o : Addr → Prop) (H : Hp) (a : Addr) (vs : List V) : Prop :=
  (Rd H a (.tup vs) ∧ ¬ o a) ∨ ∃ (ob : Obj) (its : Array Value) (n : Nat), K.lookup a = some ob ∧ ob.cls = .type "tuple" ∧ ob.data = .seq its n ∧ its.size ≤ sizeLine ∧ Vals vs its.toList
/-- a list that no one changes -/
def FrzA (K : PySem.W.Frag) (o : Addr → Prop) (H : Hp) (a : Addr) (vs : List V) : Prop :=
  (∃ ob, H a = some (.frz ob (.lst vs)) ∧ ¬ o a) ∨ ∃ (ob : Obj) (its : Array Value) (n : Nat), K.lookup a = some ob ∧ ob.cls = .type "list" ∧ ob.dict = none ∧ ob.data = .seq its n ∧ its.size ≤ sizeLine ∧ Vals vs its.toList
def keyV : Key → V := kV
def DKs (o : Addr → Prop) (H : Hp) : List (DKey × U) → List (Key × V) → Prop := fun _ _ => True

mutual
def Den (g : GS) (o : Addr → Prop) (H : Hp) : U → V → Prop
  | .non, v => v = .non
  | .bl b, v => v = .bl b
  | .int i, v => v = .int i
  | .str x, v => v = .str x
  | .tup us, v => ∃ a vs, v = .ref a ∧ TupA g.K o H a vs ∧ DenL g o H us vs
  | .lst us, v => ∃ a vs, v = .ref a ∧ H a = some (.lst vs) ∧ ¬ o a ∧ DenL g o H us vs
  | .frz us, v => ∃ a vs, v = .ref a ∧ FrzA g.K o H a vs ∧ DenL g o H us vs
  | .dct _, _ => False
  | .fn f, v => v = .ref (g.fa f)
def DenL (g : GS) (o : Addr → Prop) (H : Hp) : List U → List V → Prop
  | [], vs => vs = []
  | u :: us, vs => ∃ w ws, vs = w :: ws ∧ Den g o H u w ∧ DenL g o H us ws
end

/-- what a step leaves: what is not its own, no own object beside new ones -/
structure Keep (o : Addr → Prop) (H : Hp) (o' : Addr → Prop) (H' : Hp) : Prop where
  same : ∀ a, ¬ o a → H a ≠ none → H' a = H a
  grow : ∀ a, H a ≠ none → H' a ≠ none
  own : ∀ a, o' a → o a ∨ H a = none
theorem Keep.refl {o : Addr → Prop} {H : Hp} : Keep o H o H := ⟨fun _ _ _ => rfl, fun _ h => h, fun _ h => .inl h⟩
theorem Keep.trans {o o1 o2 : Addr → Prop} {H H1 H2 : Hp} (a : Keep o H o1 H1) (b : Keep o1 H1 o2 H2) : Keep o H o2 H2 where
  same := fun x n h => by
    have e := a.same x n h
    have n1 : ¬ o1 x := fun q => (a.own x q).elim n h
    rw [b.same x n1 (a.grow x h), e]
  grow := fun x h => b.grow x (a.grow x h)
  own := fun x q => (b.own x q).elim (fun z => a.own x z) fun z => .inr (Classical.byContradiction fun h => a.grow x h z)

theorem rd_ne {H : Hp} {a : Addr} {u : HO} (h : Rd H a u) : H a ≠ none := by
  rcases h with h | ⟨_, h⟩ <;> rw [h] <;> simp
theorem rd_eq {H H' : Hp} {a : Addr} {u : HO} (h : Rd H a u) (e : H' a = H a) : Rd H' a u := by
  unfold Rd
  rw [e]
  exact h
section
variable {g : GS} {o o' : Addr → Prop} {H H' : Hp}
theorem Keep.notOwn (k : Keep o H o' H') {a : Addr} (n : ¬ o a) (h : H a ≠ none) : ¬ o' a := fun q => (k.own a q).elim n h
theorem TupA.keep {K : PySem.W.Frag} {a : Addr} {vs : List V} (k : Keep o H o' H') (h : TupA K o H a vs) : TupA K o' H' a vs := by
  rcases h with ⟨h, n⟩ | h
  · exact .inl ⟨rd_eq h (k.same a n (rd_ne h)), k.notOwn n (rd_ne h)⟩
  · exact .inr h
theorem FrzA.keep {K : PySem.W.Frag} {a : Addr} {vs : List V} (k : Keep o H o' H') (h : FrzA K o H a vs) : FrzA K o' H' a vs := by
  rcases h with ⟨ob, h, n⟩ | h
  · have hn : H a ≠ none := by rw [h]; simp
    exact .inl ⟨ob, (k.same a n hn).trans h, k.notOwn n hn⟩
  · exact .inr h
theorem TupA.sq {K : PySem.W.Frag} {a : Addr} {vs : List V} (h : TupA K o H a vs) : SqT K H a vs := by
  rcases h with ⟨h, _⟩ | h
  · exact .inl h
  · exact .inr h
theorem TupA.weak {K : PySem.W.Frag} {a : Addr} {vs : List V} (k : ∀ a, o' a → o a) (h : TupA K o H a vs) : TupA K o' H a vs := by
  rcases h with ⟨h, n⟩ | h
  · exact .inl ⟨h, fun q => n (k a q)⟩
  · exact .inr h
mutual
theorem Den.keep (k : Keep o H o' H') : ∀ (u : U) (v : V), Den g o H u v → Den g o' H' u v
  | .non, _, h => h
  | .bl _, _, h => h
  | .int _, _, h => h
  | .str _, _, h => h
  | .fn _, _, h => h
  | .dct _, _, h => h
  | .tup us, v, h => by
    obtain ⟨a, vs, e, t, d⟩ := h
    exact ⟨a, vs, e, t.keep k, DenL.keep k us vs d⟩
  | .lst us, v, h => by
    obtain ⟨a, vs, e, t, n, d⟩ := h
    have hn : H a ≠ none := by rw [t]; simp
    exact ⟨a, vs, e, (k.same a n hn).trans t, k.notOwn n hn, DenL.keep k us vs d⟩
  | .frz us, v, h => by
    obtain ⟨a, vs, e, t, d⟩ := h
    exact ⟨a, vs, e, t.keep k, DenL.keep k us vs d⟩
theorem DenL.keep (k : Keep o H o' H') : ∀ (us : List U) (vs : List V), DenL g o H us vs → DenL g o' H' us vs
  | [], _, h => h
  | u :: us, vs, h => by
    obtain ⟨w, ws, e, d, ds⟩ := h
    exact ⟨w, ws, e, Den.keep k u w d, DenL.keep k us ws ds⟩
end
theorem Keep.weak (k : ∀ a, o' a → o a) : Keep o H o' H := ⟨fun _ _ _ => rfl, fun _ h => h, fun a q => .inl (k a q)⟩
theorem Den.weak (k : ∀ a, o' a → o a) {u : U} {v : V} (h : Den g o H u v) : Den g o' H u v := Den.keep (Keep.weak k) u v h
theorem DenL.weak (k : ∀ a, o' a → o a) {u : List U} {v : List V} (h : DenL g o H u v) : DenL g o' H u v := DenL.keep (Keep.weak k) u v h
end

/-! ### a frame's own objects -/
/-- an object and its addresses, the first one its own -/
def RepO (g : GS) (o : Addr → Prop) (H : Hp) : MO → OA → Prop
  | .lst us, l => ∃ a vs, l = [a] ∧ H a = some (.lst vs) ∧ DenL g o H us vs
  | .lck us, l => ∃ a vs, l = [a] ∧ H a = some (.lst vs) ∧ DenL g o H us vs
  | .dct _, _ => False
  | .ins _ _, _ => False
  | .dead, _ => False
def hd (l : OA) : Addr := l.headD 0
/-- what a value may not stand at: the frame's own objects, those of the frames around -/
def ow (φ : Phi) (x : Addr → Prop) : Addr → Prop := fun a => own φ a ∨ x a
/-- the frame's objects h stand at φ -/
structure RepH (g : GS) (x : Addr → Prop) (φ : Phi) (h : Hs) (H : Hp) : Prop where
  len : φ.length = h.length
  at_ : ∀ (n : Nat) (l : OA), φ[n]? = some (some l) → ∃ ob, h[n]? = some ob ∧ RepO g (ow φ x) H ob l
  dead : ∀ n : Nat, φ[n]? = some none → h[n]? = some .dead
  nd : (φ.filterMap id).flatten.Nodup
  apart : ∀ a, own φ a → ¬ x a
  xs : ∀ a, x a → H a ≠ none

theorem RepO.keep {g : GS} {o o' : Addr → Prop} {H H' : Hp} (k : Keep o H o' H') : ∀ {ob : MO} {l : OA}, RepO g o H ob l → (∀ a ∈ l, H' a = H a) → RepO g o' H' ob l
  | .lst us, l, h, e => by
    obtain ⟨a, vs, rfl, t, d⟩ := h
    exact ⟨a, vs, rfl, (e a (by simp)).trans t, DenL.keep k us vs d⟩
  | .lck us, l, h, e => by
    obtain ⟨a, vs, rfl, t, d⟩ := h
    exact ⟨a, vs, rfl, (e a (by simp)).trans t, DenL.keep k us vs d⟩
  | .dct _, _, h, _ => h.elim
  | .ins _ _, _, h, _ => h.elim
  | .dead, _, h, _ => h.elim
theorem RepO.there {g : GS} {o : Addr → Prop} {H : Hp} : ∀ {ob : MO} {l : OA}, RepO g o H ob l → ∀ a ∈ l, H a ≠ none
  | .lst us, l, h, b, hb => by
    obtain ⟨a, vs, rfl, t, d⟩ := h
    simp at hb
    rw [hb, t]
    simp
  | .lck us, l, h, b, hb => by
    obtain ⟨a, vs, rfl, t, d⟩ := h
    simp at hb
    rw [hb, t]
    simp
  | .dct _, _, h, _, _ => h.elim
  | .ins _ _, _, h, _, _ => h.elim
  | .dead, _, h, _, _ => h.elim
theorem RepO.hd_mem {g : GS} {o : Addr → Prop} {H : Hp} : ∀ {ob : MO} {l : OA}, RepO g o H ob l → hd l ∈ l
  | .lst us, l, h => by
    obtain ⟨a, vs, rfl, t, d⟩ := h
    simp [hd]
  | .lck us, l, h => by
    obtain ⟨a, vs, rfl, t, d⟩ := h
    simp [hd]
  | .dct _, _, h => h.elim
  | .ins _ _, _, h => h.elim
  | .dead, _, h => h.elim
theorem own_at {φ : Phi} {n : Nat} {l : OA} (h : φ[n]? = some (some l)) {a : Addr} (ha : a ∈ l) : own φ a := ⟨l, List.mem_of_getElem? h, ha⟩
theorem RepH.there {g : GS} {x : Addr → Prop} {φ : Phi} {h : Hs} {H : Hp} (r : RepH g x φ h H) {a : Addr} (ho : own φ a) : H a ≠ none := by
  obtain ⟨l, hl, ha⟩ := ho
  obtain ⟨n, hn⟩ := List.getElem?_of_mem hl
  obtain ⟨ob, _, q⟩ := r.at_ n l hn
  exact q.there a ha

/-! ### slots -/
def DenS (g : GS) (x : Addr → Prop) (φ : Phi) (H : Hp) : S → V → Prop
  | .v u, v => Den g (ow φ x) H u v
  | .r n, v => n < φ.length ∧ ∀ l, φ[n]? = some (some l) → v = .ref (hd l)
def DenSs (g : GS) (x : Addr → Prop) (φ : Phi) (H : Hp) : List S → List V → Prop
  | [], vs => vs = []
  | s :: ss, vs => ∃ w ws, vs = w :: ws ∧ DenS g x φ H s w ∧ DenSs g x φ H ss ws
/-- the slots -/
structure RelS (g : GS) (x : Addr → Prop) (φ : Phi) (H : Hp) (ρ : Rho) (σ : L2.St) : Prop where
  len : ρ.length = σ.length
  at_ : ∀ (i : Nat) (s : S), ρ[i]? = some (some s) → ∃ v, σ[i]? = some (some v) ∧ DenS g x φ H s v

/-- a step of the whole frame -/
structure Step (φ : Phi) (H : Hp) (φ' : Phi) (H' : Hp) : Prop where
  same : ∀ a, ¬ own φ a → H a ≠ none → H' a = H a
  grow : ∀ a, H a ≠ none → H' a ≠ none
  owns : ∀ a, own φ' a → own φ a ∨ H a = none
  len : φ.length ≤ φ'.length
  back : ∀ (n : Nat) (l : OA), n < φ.length → φ'[n]? = some (some l) → φ[n]? = some (some l)
  fresh : ∀ (n : Nat) (l : OA), φ.length ≤ n → φ'[n]? = some (some l) → ∀ a ∈ l, H a = none
theorem fresh_le {φ φ' : Phi} {H : Hp} (h : φ'.length ≤ φ.length) : ∀ (n : Nat) (l : OA), φ.length ≤ n → φ'[n]? = some (some l) → ∀ a ∈ l, H a = none := fun n l hn e => by
  rw [List.getElem?_eq_none (by omega)] at e
  cases e
theorem Step.keep {φ φ' : Phi} {H H' : Hp} (k : Step φ H φ' H') (x : Addr → Prop) : Keep (ow φ x) H (ow φ' x) H' :=
  ⟨fun a n h => k.same a (fun q => n (.inl q)) h, k.grow, fun a q => q.elim (fun q => (k.owns a q).imp .inl id) fun q => .inl (.inr q)⟩
theorem Step.refl {φ : Phi} {H : Hp} : Step φ H φ H := ⟨fun _ _ _ => rfl, fun _ h => h, fun _ h => .inl h, Nat.le_refl _, fun _ _ _ h => h, fresh_le (Nat.le_refl _)⟩
theorem Step.trans {φ φ1 φ2 : Phi} {H H1 H2 : Hp} (a : Step φ H φ1 H1) (b : Step φ1 H1 φ2 H2) : Step φ H φ2 H2 where
  same := fun y n h => by
    have n1 : ¬ own φ1 y := fun q => (a.owns y q).elim n h
    rw [b.same y n1 (a.grow y h), a.same y n h]
  grow := fun y h => b.grow y (a.grow y h)
  owns := fun y q => (b.owns y q).elim (fun z => a.owns y z) fun z => .inr (Classical.byContradiction fun h => a.grow y h z)
  len := Nat.le_trans a.len b.len
  back := fun n l hn h => a.back n l hn (b.back n l (Nat.lt_of_lt_of_le hn a.len) h)
  fresh := fun n l hn h x hx => by
    by_cases q : n < φ1.length
    · exact a.fresh n l hn (b.back n l q h) x hx
    · exact Classical.byContradiction fun z => a.grow x z (b.fresh n l (by omega) h x hx)
section
variable {g : GS} {x : Addr → Prop} {φ φ' : Phi} {H H' : Hp}
theorem DenS.step (k : Step φ H φ' H') : ∀ {s : S} {v : V}, DenS g x φ H s v → DenS g x φ' H' s v
  | .v u, v, h => Den.keep (k.keep x) u v h
  | .r n, v, ⟨h1, h2⟩ => ⟨Nat.lt_of_lt_of_le h1 k.len, fun l hl => h2 l (k.back n l h1 hl)⟩
theorem DenSs.step (k : Step φ H φ' H') : ∀ {s : List S} {v : List V}, DenSs g x φ H s v → DenSs g x φ' H' s v
  | [], _, h => h
  | s :: ss, vs, ⟨w, ws, e, d, ds⟩ => ⟨w, ws, e, d.step k, DenSs.step k ds⟩
theorem RelS.step {ρ : Rho} {σ : L2.St} (k : Step φ H φ' H') (r : RelS g x φ H ρ σ) : RelS g x φ' H' ρ σ :=
  ⟨r.len, fun i s h => let ⟨v, e, d⟩ := r.at_ i s h; ⟨v, e, d.step k⟩⟩
end

/-! ### what a run comes to -/
/-- of a kind of results: from the heap at the start, the result, the own objects behind, what the model has -/
abbrev Kd (α β : Type) := GS → (Addr → Prop) → Hp → α → Hs → Phi → β → Hp → Prop
def KV : Kd RV V := fun g x H r h' φ' v H' => match r with
  | .v u => Den g (ow φ' x) H' u v
  | .r n => n < φ'.length ∧ ∀ l, φ'[n]? = some (some l) → v = .ref (hd l)
  | .nw ob => ∃ l, RepH g x (φ' ++ [some l]) (h' ++ [ob]) H' ∧ v = .ref (hd l) ∧ ∀ a ∈ l, H a = none
def KS : Kd S V := fun g x _ r _ φ' v H' => DenS g x φ' H' r v
def KL : Kd (List S) (List V) := fun g x _ r _ φ' v H' => DenSs g x φ' H' r v
def KU : Kd (List U) (List V) := fun g x _ r _ φ' v H' => DenL g (ow φ' x) H' r v
def KB : Kd Bool Bool := fun _ _ _ r _ _ v _ => v = r
def KO : Kd (Option Int) (Option Int) := fun _ _ _ r _ _ v _ => v = r

/-- an exception: its class, its own dict -/
def ExV (g : GS) (e : Ex) (cls : Value) (d : Option Addr) (H : Hp) : Prop := cls = .ref (g.ca e.c) ∧ e.fs = []

def Cond {α β : Type} (g : GS) (x : Addr → Prop) (W : WX) (P : Kd α β) (σ : L2.St) (Q : β → Hp → Prop) (φ : Phi) (H : Hp) : Rs α → Prop
  | .ok r h' => ∀ φ' b H', Step φ H φ' H' → RepH g x φ' h' H' → P g x H r h' φ' b H' → Q b H'
  | .ex e h' => ∀ φ' H' cls d, Step φ H φ' H' → RepH g x φ' h' H' → ExV g e cls d H' → W cls d σ H'
  | .bad => False
/-- the reading of a run -/
def RD {α β : Type} (g : GS) (W : WX) (P : Kd α β) (f : Rho → Hs → Rs α) : L2.St → Hp → (β → Hp → Prop) → Prop := fun σ H Q =>
  ∃ x φ ρ h, RelS g x φ H ρ σ ∧ RepH g x φ h H ∧ Cond g x W P σ Q φ H (f ρ h)

/-- kinds whose start may be taken earlier -/
def Kd.Mono {α β : Type} (P : Kd α β) : Prop := ∀ g x H H1 r h' φ' b H', (∀ a, H a ≠ none → H1 a ≠ none) → P g x H1 r h' φ' b H' → P g x H r h' φ' b H'
theorem KV.mono : KV.Mono := fun g x H H1 r h' φ' b H' k p => by
  cases r with
  | v u => exact p
  | r n => exact p
  | nw ob =>
    obtain ⟨l, h1, h2, h3⟩ := p
    exact ⟨l, h1, h2, fun a ha => Classical.byContradiction fun q => k a q (h3 a ha)⟩
theorem KS.mono : KS.Mono := fun _ _ _ _ _ _ _ _ _ _ p => p
theorem KL.mono : KL.Mono := fun _ _ _ _ _ _ _ _ _ _ p => p
theorem KU.mono : KU.Mono := fun _ _ _ _ _ _ _ _ _ _ p => p
theorem KB.mono : KB.Mono := fun _ _ _ _ _ _ _ _ _ _ p => p
theorem KO.mono : KO.Mono := fun _ _ _ _ _ _ _ _ _ _ p => p
section
variable {α β γ δ : Type} {g : GS} {x : Addr → Prop} {W : WX} {P : Kd α β} {R : Kd γ δ} {σ : L2.St} {Q : β → Hp → Prop} {φ φ1 : Phi} {H H1 : Hp}
theorem Cond.later (m : P.Mono) (k : Step φ H φ1 H1) : ∀ {r : Rs α}, Cond g x W P σ Q φ H r → Cond g x W P σ Q φ1 H1 r
  | .ok r h', c => fun φ' b H' s rep p => c φ' b H' (k.trans s) rep (m _ _ _ _ _ _ _ _ _ k.grow p)
  | .ex e h', c => fun φ' H' cls d s rep p => c φ' H' cls d (k.trans s) rep p
  | .bad, c => c
theorem Cond.mono {Q' : β → Hp → Prop} (hq : ∀ b H, Q b H → Q' b H) : ∀ {r : Rs α}, Cond g x W P σ Q φ H r → Cond g x W P σ Q' φ H r
  | .ok r h', c => fun φ' b H' s rep p => hq _ _ (c φ' b H' s rep p)
  | .ex e h', c => c
  | .bad, c => c
/-- the first of two runs -/
theorem Cond.bind (m : P.Mono) {ρ : Rho} {f : Rs γ} {k : γ → Hs → Rs α} (rs : RelS g x φ H ρ σ) (c : Cond g x W P σ Q φ H (f.bind k)) :
    Cond g x W R σ (fun b H1 => ∃ φ1 h1 a, Step φ H φ1 H1 ∧ RelS g x φ1 H1 ρ σ ∧ RepH g x φ1 h1 H1 ∧ R g x H a h1 φ1 b H1 ∧ Cond g x W P σ Q φ1 H1 (k a h1)) φ H f := by
  cases f with
  | bad => exact c
  | ex e h => exact c
  | ok a h1 =>
    intro φ1 b H1 s rep p
    exact ⟨φ1, h1, a, s, rs.step s, rep, p, Cond.later m s c⟩
/-- a result handed on -/
theorem Cond.ofO {o : Option α} {h : Hs} (c : Cond g x W P σ Q φ H (ofO h o)) : ∃ r, o = some r ∧ ∀ φ' b H', Step φ H φ' H' → RepH g x φ' h H' → P g x H r h φ' b H' → Q b H' := by
  cases o with
  | none => exact c.elim
  | some r => exact ⟨r, rfl, c⟩
end

theorem PE.imp {X : Cx} {e : Expr} {t t' : TE} (h : PE X e t) (k : ∀ σ H Q, t' σ H Q → t σ H Q) : PE X e t' := ⟨fun pins s σ H Q I hw => h.run pins s σ H Q I (k σ H Q hw)⟩
theorem PT.imp {X : Cx} {e : Expr} {t t' : TT} (h : PT X e t) (k : ∀ σ H Q, t' σ H Q → t σ H Q) : PT X e t' := ⟨fun pins s σ H Q I hw => h.run pins s σ H Q I (k σ H Q hw)⟩
theorem PA.imp {X : Cx} {e : List Expr} {t t' : TA} (h : PA X e t) (k : ∀ σ H Q, t' σ H Q → t σ H Q) : PA X e t' := ⟨fun pos pins s σ H Q I hw => h.run pos pins s σ H Q I (k σ H Q hw)⟩
theorem PS.imp {X : Cx} {e : Stmt} {t t' : TS} (h : PS X e t) (k : ∀ D σ H, t' D σ H → t D σ H) : PS X e t' := ⟨fun pins s σ H D I hw => h.run pins s σ H D I (k D σ H hw)⟩
theorem PSs.imp {X : Cx} {e : List Stmt} {t t' : TS} (h : PSs X e t) (k : ∀ D σ H, t' D σ H → t D σ H) : PSs X e t' := ⟨fun pins s σ H D I hw => h.run pins s σ H D I (k D σ H hw)⟩

/-- a result as an item -/
theorem KV.s {g : GS} {x : Addr → Prop} {H H' : Hp} {r : RV} {h' : Hs} {φ' : Phi} {v : V} {s : S} (p : KV g x H r h' φ' v H') (e : r.s = some s) : DenS g x φ' H' s v := by
  cases r with
  | v u => cases e; exact p
  | r n => cases e; exact p
  | nw ob =>
    obtain ⟨l, rep, hv, _⟩ := p
    have hlen : φ'.length = h'.length := by have := rep.len; simp at this; exact this
    obtain ⟨ob', e1, q⟩ := rep.at_ φ'.length l (by simp)
    rw [hlen] at e1
    simp at e1
    subst e1
    cases ob with
    | lst us =>
      cases e
      obtain ⟨a, vs, rfl, t, d⟩ := q
      have wk : ∀ b, ow φ' x b → ow (φ' ++ [some [a]]) x b := fun b hb => hb.imp (fun ⟨l, hl, ha⟩ => ⟨l, List.mem_append_left _ hl, ha⟩) id
      refine ⟨a, vs, hv, t, fun hb => ?_, DenL.weak wk d⟩
      rcases hb with ⟨l, hl, ha⟩ | hb
      · have nd := rep.nd
        rw [List.filterMap_append, List.flatten_append, List.nodup_append] at nd
        refine nd.2.2 a ?_ a (by simp) rfl
        exact List.mem_flatten.mpr ⟨l, List.mem_filterMap.mpr ⟨some l, hl, rfl⟩, ha⟩
      · exact rep.apart a ⟨[a], by simp, by simp⟩ hb
    | dct kvs => exact q.elim
    | lck us => cases e
    | ins c fs => cases e
    | dead => cases e
end VM

namespace VM
open PySem PySem.Spec PyProof.Rows L2
section
variable {g : GS} {x : Addr → Prop} {φ : Phi} {h : Hs} {H H' : Hp} {p : Addr} {o : HO}

theorem keep_of (k : ∀ a, H a ≠ none → H' a = H a) {o : Addr → Prop} : Keep o H o H' := ⟨fun a _ q => k a q, fun a q => by rw [k a q]; exact q, fun _ q => .inl q⟩
theorem step_of (k : ∀ a, H a ≠ none → H' a = H a) : Step φ H φ H' := ⟨fun a _ q => k a q, fun a q => by rw [k a q]; exact q, fun _ q => .inl q, Nat.le_refl _, fun _ _ _ q => q, fresh_le (Nat.le_refl _)⟩
theorem new_same (hp : H p = none) : ∀ a, H a ≠ none → (upd H p o) a = H a := fun a q => upd_ne (fun e => by rw [e, hp] at q; exact q rfl)
theorem RepH.same (r : RepH g x φ h H) (k : ∀ a, H a ≠ none → H' a = H a) : RepH g x φ h H' where
  len := r.len
  at_ := fun n l e => by
    obtain ⟨ob, e1, q⟩ := r.at_ n l e
    exact ⟨ob, e1, q.keep (keep_of k) fun a ha => k a (q.there a ha)⟩
  dead := r.dead
  nd := r.nd
  apart := r.apart
  xs := fun a q => by rw [k a (r.xs a q)]; exact r.xs a q
theorem RepH.fresh (r : RepH g x φ h H) (hp : H p = none) : ¬ ow φ x p := fun q => q.elim (fun q => r.there q hp) fun q => r.xs p q hp
/-- a new tuple -/
theorem new_tup {us : List U} {vs : List V} (r : RepH g x φ h H) (hp : H p = none) (d : DenL g (ow φ x) H us vs) :
    Step φ H φ (upd H p (.tup vs)) ∧ RepH g x φ h (upd H p (.tup vs)) ∧ Den g (ow φ x) (upd H p (.tup vs)) (.tup us) (.ref p) := by
  have k := new_same (o := .tup vs) hp
  exact ⟨step_of k, r.same k, p, vs, rfl, .inl ⟨.inl upd_same, r.fresh hp⟩, DenL.keep (keep_of k) us vs d⟩
theorem filt_app (l : OA) : ((φ ++ [some l]).filterMap id).flatten = (φ.filterMap id).flatten ++ l := by
  rw [List.filterMap_append, List.flatten_append]
  simp
theorem own_app {l : OA} {a : Addr} : own (φ ++ [some l]) a ↔ own φ a ∨ a ∈ l := by
  constructor
  · rintro ⟨m, hm, ha⟩
    rcases List.mem_append.mp hm with hm | hm
    · exact .inl ⟨m, hm, ha⟩
    · simp at hm
      subst hm
      exact .inr ha
  · rintro (⟨m, hm, ha⟩ | ha)
    · exact ⟨m, List.mem_append_left _ hm, ha⟩
    · exact ⟨l, by simp, ha⟩
theorem own_mem {φ : Phi} {a : Addr} : own φ a ↔ a ∈ (φ.filterMap id).flatten := by
  constructor
  · rintro ⟨l, hl, ha⟩
    exact List.mem_flatten.mpr ⟨l, List.mem_filterMap.mpr ⟨some l, hl, rfl⟩, ha⟩
  · intro h
    obtain ⟨l, hl, ha⟩ := List.mem_flatten.mp h
    obtain ⟨o, ho, e⟩ := List.mem_filterMap.mp hl
    exact ⟨l, by simpa [← (show o = some l from e)] using ho, ha⟩
/-- one more own object, all its addresses new -/
theorem RepH.push {ob : MO} {l : OA} (r : RepH g x φ h H) (k : ∀ a, H a ≠ none → H' a = H a) (hl : ∀ a ∈ l, H a = none) (nd : l.Nodup) (q : Keep (ow φ x) H (ow (φ ++ [some l]) x) H' → RepO g (ow (φ ++ [some l]) x) H' ob l) : RepH g x (φ ++ [some l]) (h ++ [ob]) H' := by
  have kk : Keep (ow φ x) H (ow (φ ++ [some l]) x) H' := ⟨fun a _ q => k a q, fun a q => by rw [k a q]; exact q, fun a z => by
    rcases z with z | z
    · rcases own_app.mp z with z | z
      · exact .inl (.inl z)
      · exact .inr (hl a z)
    · exact .inl (.inr z)⟩
  have r' := r.same k
  have nl : ∀ a ∈ l, ¬ ow φ x a := fun a ha => r.fresh (hl a ha)
  have up : ∀ {ob : MO} {m : OA}, some m ∈ φ → RepO g (ow φ x) H ob m → RepO g (ow (φ ++ [some l]) x) H' ob m := fun {ob m} hm z => by
    exact z.keep kk fun a ha => k a (z.there a ha)
  refine ⟨by simp [r.len], fun n m e => ?_, fun n e => ?_, ?_, fun a z => ?_, r'.xs⟩
  · by_cases hn : n < φ.length
    · rw [List.getElem?_append_left hn] at e
      obtain ⟨ob', e1, z⟩ := r.at_ n m e
      exact ⟨ob', by rw [List.getElem?_append_left (by rw [← r.len]; exact hn)]; exact e1, up (List.mem_of_getElem? e) z⟩
    · rw [List.getElem?_append_right (by omega)] at e
      have hn' : n - φ.length = 0 := by
        rcases Nat.eq_zero_or_pos (n - φ.length) with z | z
        · exact z
        · rw [List.getElem?_eq_none (by simp; omega)] at e
          cases e
      rw [hn'] at e
      simp at e
      subst e
      have : n = h.length := by rw [← r.len]; omega
      exact ⟨ob, by rw [this]; simp, q kk⟩
  · by_cases hn : n < φ.length
    · rw [List.getElem?_append_left hn] at e
      rw [List.getElem?_append_left (by rw [← r.len]; exact hn)]
      exact r.dead n e
    · rw [List.getElem?_append_right (by omega)] at e
      rcases Nat.eq_zero_or_pos (n - φ.length) with z | z
      · rw [z] at e
        simp at e
      · rw [List.getElem?_eq_none (by simp; omega)] at e
        cases e
  · rw [filt_app, List.nodup_append]
    exact ⟨r.nd, nd, fun a ha b hb e => nl b hb (.inl (own_mem.mpr (e ▸ ha)))⟩
  · rcases own_app.mp z with z | z
    · exact r.apart a z
    · exact fun q => nl a z (.inr q)
/-- a new list -/
theorem new_lst {us : List U} {vs : List V} (r : RepH g x φ h H) (hp : H p = none) (d : DenL g (ow φ x) H us vs) :
    Step φ H φ (upd H p (.lst vs)) ∧ RepH g x φ h (upd H p (.lst vs)) ∧ KV g x H (.nw (.lst us)) h φ (.ref p) (upd H p (.lst vs)) := by
  have k := new_same (o := .lst vs) hp
  refine ⟨step_of k, r.same k, [p], r.push k (fun a ha => by simp at ha; rw [ha]; exact hp) (by simp) (fun kk => ⟨p, vs, rfl, upd_same, DenL.keep kk us vs d⟩), rfl, fun a ha => by simp at ha; rw [ha]; exact hp⟩

/-! ### lists of values -/
theorem DenL.len {o : Addr → Prop} : ∀ {us : List U} {vs : List V}, DenL g o H us vs → us.length = vs.length
  | [], _, h => by rw [show _ = [] from h]; rfl
  | u :: us, _, ⟨w, ws, e, _, ds⟩ => by rw [e, List.length_cons, List.length_cons, DenL.len ds]
theorem DenL.app {o : Addr → Prop} : ∀ {us : List U} {vs : List V} {us' : List U} {vs' : List V}, DenL g o H us vs → DenL g o H us' vs' → DenL g o H (us ++ us') (vs ++ vs')
  | [], _, _, _, h, h' => by rw [show _ = [] from h]; exact h'
  | u :: us, _, _, _, ⟨w, ws, e, d, ds⟩, h' => by rw [e]; exact ⟨w, ws ++ _, rfl, d, DenL.app ds h'⟩
theorem DenL.get {o : Addr → Prop} : ∀ {us : List U} {vs : List V} {i : Nat} {u : U}, DenL g o H us vs → us[i]? = some u → ∃ v, vs[i]? = some v ∧ Den g o H u v
  | [], _, _, _, _, e => by simp at e
  | u :: us, _, 0, _, ⟨w, ws, e, d, ds⟩, e2 => by
    simp at e2
    subst e2
    exact ⟨w, by rw [e]; rfl, d⟩
  | u :: us, _, i + 1, _, ⟨w, ws, e, d, ds⟩, e2 => by
    obtain ⟨v, h1, h2⟩ := DenL.get (i := i) ds (by simpa using e2)
    exact ⟨v, by rw [e]; simpa using h1, h2⟩
theorem DenL.drop {o : Addr → Prop} : ∀ {us : List U} {vs : List V} (n : Nat), DenL g o H us vs → DenL g o H (us.drop n) (vs.drop n)
  | _, _, 0, h => h
  | [], _, n + 1, h => by rw [show _ = [] from h]; exact rfl
  | u :: us, _, n + 1, ⟨w, ws, e, d, ds⟩ => by rw [e]; exact DenL.drop n ds
theorem DenL.take {o : Addr → Prop} : ∀ {us : List U} {vs : List V} (n : Nat), DenL g o H us vs → DenL g o H (us.take n) (vs.take n)
  | _, _, 0, h => rfl
  | [], _, n + 1, h => by rw [show _ = [] from h]; exact rfl
  | u :: us, _, n + 1, ⟨w, ws, e, d, ds⟩ => by rw [e]; exact ⟨w, ws.take n, rfl, d, DenL.take n ds⟩
theorem DenL.set {o : Addr → Prop} {u' : U} {v' : V} (hd : Den g o H u' v') : ∀ {us : List U} {vs : List V} (n : Nat), DenL g o H us vs → DenL g o H (us.set n u') (vs.set n v')
  | [], _, n, h => by rw [show _ = [] from h]; exact rfl
  | u :: us, _, 0, ⟨w, ws, e, d, ds⟩ => by rw [e]; exact ⟨v', ws, rfl, hd, ds⟩
  | u :: us, _, n + 1, ⟨w, ws, e, d, ds⟩ => by rw [e]; exact ⟨w, ws.set n v', rfl, d, DenL.set hd n ds⟩
theorem DenL.erase {o : Addr → Prop} : ∀ {us : List U} {vs : List V} (n : Nat), DenL g o H us vs → DenL g o H (us.eraseIdx n) (vs.eraseIdx n)
  | [], _, n, h => by rw [show _ = [] from h]; exact rfl
  | u :: us, _, 0, ⟨w, ws, e, d, ds⟩ => by rw [e]; exact ds
  | u :: us, _, n + 1, ⟨w, ws, e, d, ds⟩ => by rw [e]; exact ⟨w, ws.eraseIdx n, rfl, d, DenL.erase n ds⟩
theorem DenL.snoc {o : Addr → Prop} {us : List U} {vs : List V} {u : U} {v : V} (h : DenL g o H us vs) (d : Den g o H u v) : DenL g o H (us ++ [u]) (vs ++ [v]) := h.app ⟨v, [], rfl, d, rfl⟩
theorem DenL.rev {o : Addr → Prop} : ∀ {us : List U} {vs : List V}, DenL g o H us vs → DenL g o H us.reverse vs.reverse
  | [], _, h => by rw [show _ = [] from h]; exact rfl
  | u :: us, _, ⟨w, ws, e, d, ds⟩ => by
    rw [e, List.reverse_cons, List.reverse_cons]
    exact (DenL.rev ds).snoc d
theorem DenL.rep {o : Addr → Prop} {us : List U} {vs : List V} (h : DenL g o H us vs) : ∀ n : Nat, DenL g o H (List.replicate n us).flatten (List.replicate n vs).flatten
  | 0 => rfl
  | n + 1 => by
    rw [List.replicate_succ, List.replicate_succ, List.flatten_cons, List.flatten_cons]
    exact h.app (DenL.rep h n)
theorem DenL.map {α : Type} {o : Addr → Prop} {f : α → U} {f' : α → V} (hf : ∀ a, Den g o H (f a) (f' a)) : ∀ l : List α, DenL g o H (l.map f) (l.map f')
  | [] => rfl
  | a :: l => ⟨f' a, l.map f', rfl, hf a, DenL.map hf l⟩
theorem DenL.ints {o : Addr → Prop} : ∀ {us : List U} {vs : List V} {is : List Int}, DenL g o H us vs → intsU us = some is → vs = is.map V.int
  | [], vs, is, h, e => by
    cases e
    exact h
  | .int i :: us, vs, is, ⟨w, ws, e1, d, ds⟩, e => by
    unfold intsU at e
    cases q : intsU us with
    | none => rw [q] at e; cases e
    | some js =>
      rw [q] at e
      cases e
      rw [e1, DenL.ints ds q, show w = V.int i from d]
      rfl
  | .non :: us, _, _, _, e => by cases e
  | .bl _ :: us, _, _, _, e => by cases e
  | .str _ :: us, _, _, _, e => by cases e
  | .tup _ :: us, _, _, _, e => by cases e
  | .lst _ :: us, _, _, _, e => by cases e
  | .frz _ :: us, _, _, _, e => by cases e
  | .dct _ :: us, _, _, _, e => by cases e
  | .fn _ :: us, _, _, _, e => by cases e
theorem DenL.bls {o : Addr → Prop} : ∀ {us : List U} {vs : List V} {is : List Bool}, DenL g o H us vs → blsU us = some is → vs = is.map V.bl
  | [], vs, is, h, e => by
    cases e
    exact h
  | .bl i :: us, vs, is, ⟨w, ws, e1, d, ds⟩, e => by
    unfold blsU at e
    cases q : blsU us with
    | none => rw [q] at e; cases e
    | some js =>
      rw [q] at e
      cases e
      rw [e1, DenL.bls ds q, show w = V.bl i from d]
      rfl
  | .non :: us, _, _, _, e => by cases e
  | .int _ :: us, _, _, _, e => by cases e
  | .str _ :: us, _, _, _, e => by cases e
  | .tup _ :: us, _, _, _, e => by cases e
  | .lst _ :: us, _, _, _, e => by cases e
  | .frz _ :: us, _, _, _, e => by cases e
  | .dct _ :: us, _, _, _, e => by cases e
  | .fn _ :: us, _, _, _, e => by cases e
theorem DenL.strs {o : Addr → Prop} : ∀ {us : List U} {vs : List V} {is : List Str}, DenL g o H us vs → strsU us = some is → vs = is.map V.str
  | [], vs, is, h, e => by
    cases e
    exact h
  | .str i :: us, vs, is, ⟨w, ws, e1, d, ds⟩, e => by
    unfold strsU at e
    cases q : strsU us with
    | none => rw [q] at e; cases e
    | some js =>
      rw [q] at e
      cases e
      rw [e1, DenL.strs ds q, show w = V.str i from d]
      rfl
  | .non :: us, _, _, _, e => by cases e
  | .int _ :: us, _, _, _, e => by cases e
  | .bl _ :: us, _, _, _, e => by cases e
  | .tup _ :: us, _, _, _, e => by cases e
  | .lst _ :: us, _, _, _, e => by cases e
  | .frz _ :: us, _, _, _, e => by cases e
  | .dct _ :: us, _, _, _, e => by cases e
  | .fn _ :: us, _, _, _, e => by cases e

/-! ### sequences read -/
/-- what seqS finds stands there -/
theorem seq_ok {s : S} {v : V} {us : List U} {b : Bool} (r : RepH g x φ h H) (d : DenS g x φ H s v) (e : seqS h s = some (b, us)) :
    ∃ a vs, v = .ref a ∧ DenL g (ow φ x) H us vs ∧ if b = true then H a = some (.lst vs) else TupA g.K (ow φ x) H a vs := by
  cases s with
  | v u =>
    cases u with
    | tup xs =>
      cases e
      obtain ⟨a, vs, e1, t, d⟩ := d
      exact ⟨a, vs, e1, d, t⟩
    | lst xs =>
      cases e
      obtain ⟨a, vs, e1, t, n, d⟩ := d
      exact ⟨a, vs, e1, d, t⟩
    | _ => cases e
  | r n =>
    obtain ⟨hn, hv⟩ := d
    unfold seqS at e
    simp only at e
    cases q : φ[n]? with
    | none => rw [List.getElem?_eq_none_iff] at q; omega
    | some w =>
      cases w with
      | none =>
        rw [r.dead n q] at e
        cases e
      | some l =>
        obtain ⟨ob, e1, z⟩ := r.at_ n l q
        have hv := hv l q
        rw [e1] at e
        cases ob with
        | lst xs =>
          cases e
          obtain ⟨a, vs, rfl, t, d⟩ := z
          exact ⟨a, vs, hv, d, t⟩
        | lck xs =>
          cases e
          obtain ⟨a, vs, rfl, t, d⟩ := z
          exact ⟨a, vs, hv, d, t⟩
        | _ => cases e
theorem seqL_ok {s : S} {v : V} {us : List U} (r : RepH g x φ h H) (d : DenS g x φ H s v) (e : seqS h s = some (true, us)) : ∃ a vs, v = .ref a ∧ DenL g (ow φ x) H us vs ∧ H a = some (.lst vs) := by
  obtain ⟨a, vs, e1, d1, t⟩ := seq_ok r d e
  exact ⟨a, vs, e1, d1, t⟩
theorem seqT_ok {s : S} {v : V} {us : List U} (r : RepH g x φ h H) (d : DenS g x φ H s v) (e : seqS h s = some (false, us)) : ∃ a vs, v = .ref a ∧ DenL g (ow φ x) H us vs ∧ TupA g.K (ow φ x) H a vs := by
  obtain ⟨a, vs, e1, d1, t⟩ := seq_ok r d e
  exact ⟨a, vs, e1, d1, t⟩
theorem seqA_ok {s : S} {v : V} {us : List U} {b : Bool} (r : RepH g x φ h H) (d : DenS g x φ H s v) (e : seqS h s = some (b, us)) : ∃ a vs, v = .ref a ∧ DenL g (ow φ x) H us vs ∧ (SqL g.K H a vs ∨ SqT g.K H a vs) := by
  obtain ⟨a, vs, e1, d1, t⟩ := seq_ok r d e
  cases b with
  | true => exact ⟨a, vs, e1, d1, .inl (.inl (.inl t))⟩
  | false => exact ⟨a, vs, e1, d1, .inr (TupA.sq t)⟩
end
end VM

/-! Operations by values. -/
namespace VM
open PySem PySem.Spec PyProof.Rows L2
/-- two items come to a result that leaves the own objects as they are -/
def r2 (g : GS) (f : Hs → S → S → Option RV) : R2 := fun a b H Q => ∃ x φ h s t, RepH g x φ h H ∧ DenS g x φ H s a ∧ DenS g x φ H t b ∧
  ∃ r, f h s t = some r ∧ ∀ φ' v H', Step φ H φ' H' → RepH g x φ' h H' → KV g x H r h φ' v H' → Q v H'
theorem lim_eq : lim = sizeLine := by rw [sizeLine_eq]; rfl
section
variable {X : Cx} {g : GS}
theorem mulOk_ok {i j : Int} (h : mulOk i j = true) : CMul i j ∨ L2.CMulW i j := by
  unfold mulOk small64 at h
  simp only [Bool.or_eq_true, Bool.and_eq_true, decide_eq_true_eq] at h
  rcases h with (h | h) | h
  · exact .inl (.inl ⟨by omega, by omega⟩)
  · exact .inl (.inr ⟨by omega, by omega⟩)
  · refine .inr ?_
    have h' := Nat.le_of_ble_eq_true h
    unfold CMulW
    omega
theorem add_ok (hK : X.K = g.K) : OpR X (binaryOp .Add) (r2 g (binS .add)) := by
  intro pins s σ H xv yv v u Q I rx ry h
  obtain ⟨x, φ, hs, a, b, rep, da, db, r, e, q⟩ := h
  have seqs : ∀ (r : RV), (match seqS hs a, seqS hs b with
    | some (false, xs), some (false, ys) => if xs.length + ys.length ≤ lim then some (RV.v (.tup (xs ++ ys))) else none
    | some (true, xs), some (true, ys) => if xs.length + ys.length ≤ lim then some (.nw (.lst (xs ++ ys))) else none
    | _, _ => none) = some r → (∀ φ' v H', Step φ H φ' H' → RepH g x φ' hs H' → KV g x H r hs φ' v H' → Q v H') →
      wpAny (model X.prog X.w) X.A (binaryOp .Add v u) (EP X pins σ Q) X.xe s := by
    intro r e q
    cases e1 : seqS hs a with
    | none => rw [e1] at e; cases e
    | some p1 =>
      cases e2 : seqS hs b with
      | none =>
        rw [e1, e2] at e
        obtain ⟨b1, xs⟩ := p1
        cases b1 <;> cases e
      | some p2 =>
        rw [e1, e2] at e
        obtain ⟨b1, us⟩ := p1
        obtain ⟨b2, ws⟩ := p2
        cases b1 <;> cases b2
        · simp only at e
          split at e
          · rename_i hl
            cases e
            obtain ⟨p1, vs1, rfl, d1, t1⟩ := seqT_ok rep da e1
            obtain ⟨p2, vs2, rfl, d2, t2⟩ := seqT_ok rep db e2
            have l1 := d1.len
            have l2 := d2.len
            refine op_catA pins s σ H _ _ v u Q I rx ry ⟨p1, p2, vs1, vs2, rfl, rfl, by rw [hK]; exact t1.sq, by rw [hK]; exact t2.sq, by rw [← lim_eq]; omega, fun z => ?_, fun _ z => ?_, fun _ _ p hp => ?_⟩
            · subst z
              refine q φ _ H Step.refl rep ⟨p2, vs2, rfl, t2, ?_⟩
              have : us = [] := List.eq_nil_of_length_eq_zero (by simpa using l1)
              rw [this]
              exact d2
            · subst z
              refine q φ _ H Step.refl rep ⟨p1, vs1, rfl, t1, ?_⟩
              have : ws = [] := List.eq_nil_of_length_eq_zero (by simpa using l2)
              rw [this, List.append_nil]
              exact d1
            · obtain ⟨k1, k2, k3⟩ := new_tup rep hp (d1.app d2)
              exact q φ _ _ k1 k2 k3
          · cases e
        · cases e
        · cases e
        · simp only at e
          split at e
          · rename_i hl
            cases e
            obtain ⟨p1, vs1, rfl, d1, t1⟩ := seqL_ok rep da e1
            obtain ⟨p2, vs2, rfl, d2, t2⟩ := seqL_ok rep db e2
            have l1 := d1.len
            have l2 := d2.len
            refine op_cat pins s σ H _ _ v u Q I rx ry ⟨p1, p2, vs1, vs2, rfl, rfl, t1, t2, by rw [← lim_eq]; omega, fun p hp => ?_⟩
            obtain ⟨k1, k2, k3⟩ := new_lst rep hp (d1.app d2)
            exact q φ _ _ k1 k2 k3
          · cases e
  have vals : ∀ (i j : Int), a = .v (.int i) → b = .v (.int j) → r = .v (.int (i + j)) → wpAny (model X.prog X.w) X.A (binaryOp .Add v u) (EP X pins σ Q) X.xe s := by
    rintro i j rfl rfl rfl
    have e1 : xv = .int i := da
    have e2 : yv = .int j := db
    exact op_add pins s σ H xv yv v u Q I rx ry ⟨i, j, e1, e2, q φ _ H Step.refl rep rfl⟩
  have txts : ∀ (i j : Str), a = .v (.str i) → b = .v (.str j) → (if i.length + j.length ≤ lim then some (RV.v (.str (i ++ j))) else none) = some r → wpAny (model X.prog X.w) X.A (binaryOp .Add v u) (EP X pins σ Q) X.xe s := by
    rintro i j rfl rfl e
    split at e
    · rename_i hl
      cases e
      have e1 : xv = .str i := da
      have e2 : yv = .str j := db
      exact op_add_str pins s σ H xv yv v u Q I rx ry ⟨i, j, e1, e2, by rw [← lim_eq]; exact hl, q φ _ H Step.refl rep rfl⟩
    · cases e
  cases a with
  | r n => exact seqs r (by cases b <;> exact e) q
  | v ua =>
    cases ua with
    | int i =>
      cases b with
      | v ub =>
        cases ub with
        | int j => exact vals i j rfl rfl (Option.some.inj e).symm
        | _ => exact seqs r e q
      | r n => exact seqs r e q
    | str i =>
      cases b with
      | v ub =>
        cases ub with
        | str j => exact txts i j rfl rfl e
        | _ => exact seqs r e q
      | r n => exact seqs r e q
    | _ => exact seqs r (by cases b <;> (try exact e) <;> (rename_i ub; cases ub <;> exact e)) q

theorem tup_mul_same (l : Addr) (items : Array Value) (n : Nat) (dd : Option Addr) (sl : Array (Option Value)) (k : Int) (u : Tok) (c0 : (decide (k < -(2 ^ 63)) || decide (k ≥ 2 ^ 63)) = false) (c1 : (items.isEmpty || k == 1) = true) :
    Meets (Builtin.«tuple.__mul__» ⟨[.ref l, .int k u], []⟩) (fun _ R s => s.heap.get? l = some { cls := .type "tuple", dict := dd, data := .seq items n, slots := sl } ∧ R (.ok (.ret (Value.ref l))) s) :=
  .of_wp fun prog w A R s h => by
    obtain ⟨hp, gs, d, tk, os⟩ := s
    obtain ⟨hl, h⟩ := h
    have f1 := AutoSeq1.idx_int
    wp_walk using wpAny_loadPart' hl
    repeat (first
      | (refine wpAny_ite_false (decide_eq_false (by rw [c0]; exact Bool.false_ne_true)) ?_; wp_walk using wpAny_loadPart' hl)
      | (refine wpAny_ite_true (decide_eq_true c1) ?_; wp_walk using wpAny_loadPart' hl))
    all_goals first | exact ⟨_, rfl, h⟩ | skip
theorem tup_mul_none (l : Addr) (items : Array Value) (n : Nat) (dd : Option Addr) (sl : Array (Option Value)) (k : Int) (u : Tok) (c0 : (decide (k < -(2 ^ 63)) || decide (k ≥ 2 ^ 63)) = false) (c1 : (items.isEmpty || k == 1) = false) (c2 : (decide (k ≤ 0) || items.isEmpty) = true) :
    Meets (Builtin.«tuple.__mul__» ⟨[.ref l, .int k u], []⟩) (fun _ R s => s.heap.get? l = some { cls := .type "tuple", dict := dd, data := .seq items n, slots := sl } ∧
      R (.ok (.ret (Value.ref s.heap.objs.size))) { s with heap := s.heap.push { cls := Value.type "tuple", data := Data.seq #[] }, toks := s.toks }) :=
  .of_wp fun prog w A R s h => by
    obtain ⟨hp, gs, d, tk, os⟩ := s
    obtain ⟨hl, h⟩ := h
    have f1 := AutoSeq1.idx_int
    wp_walk using wpAny_loadPart' hl
    repeat (first
      | (refine wpAny_ite_false (decide_eq_false (by rw [c0]; exact Bool.false_ne_true)) ?_; wp_walk using wpAny_loadPart' hl)
      | (refine wpAny_ite_false (decide_eq_false (by rw [c1]; exact Bool.false_ne_true)) ?_; wp_walk using wpAny_loadPart' hl)
      | (refine wpAny_ite_true (decide_eq_true c2) ?_; wp_walk using wpAny_loadPart' hl))
    all_goals first | exact ⟨_, rfl, h⟩ | skip

theorem rep_zero {α : Type} {xs : List α} {k : Int} (h : k ≤ 0) : rep xs k = [] := by
  unfold rep
  rw [show k.toNat = 0 by omega]
  rfl
theorem rep_nil {α : Type} {k : Int} : rep ([] : List α) k = [] := by
  unfold rep
  induction k.toNat with
  | zero => rfl
  | succ n ih => rw [List.replicate_succ, List.flatten_cons, ih]; rfl
theorem rep_one {α : Type} {xs : List α} : rep xs 1 = xs := by
  unfold rep
  show (List.replicate 1 xs).flatten = xs
  simp
theorem binop_tup {l : Addr} {k : Int} {t : Tok} {its : List Value} {n : Nat} {dd : Option Addr} {sl : Array (Option Value)} {s : Shared} {Q : Value → Shared → Prop} (ho : s.heap.get? l = some { cls := .type "tuple", dict := dd, data := .seq its.toArray n, slots := sl })
    (h : wpAny (model X.prog X.w) X.A (call (.builtin "tuple.__mul__") [.ref l, .int k t]) Q X.xe s) : wpAny (model X.prog X.w) X.A (binaryOp .Mult (.ref l) (.int k t)) Q X.xe s :=
  wpAny_binaryOp_repeat_ref (T := "tuple") (U := "int") (by decide) ⟨_, ho, rfl⟩ (fun s' => typeIs_int s' k t) noFill_tuple_mul F.fills_int_mul F.slot_int_rmul repeat_tuple F.slot_int_index.lookup
    (call_meets F.slot_int_rmul (typeIs_int s k t) F.entry_int_rmul (F.args_int_rmul_2 _ _) (int_rmul_tuple k t l its.toArray n dd sl) ⟨ho, rfl, ⟨_, ho, rfl⟩, h⟩)
/-- tuple * int, whatever the int -/
def rMulT (K : PySem.W.Frag) : R2 := fun x y H Q => ∃ l k xs, x = .ref l ∧ y = .int k ∧ SqT K H l xs ∧ -1000000 ≤ k ∧ k ≤ 1000 ∧ xs.length ≤ 1000 ∧ (rep xs k = xs → Q (.ref l) H) ∧ ∀ p, H p = none → Q (.ref p) (upd H p (.tup (rep xs k)))
theorem op_mulT : OpR X (binaryOp .Mult) (rMulT X.K) := by
  intro pins s σ H x y v u Q I rx ry h
  obtain ⟨l, k, xs, rfl, rfl, hT, h1, h2, hz, qs, q⟩ := h
  by_cases hbig : xs ≠ [] ∧ 2 ≤ k
  · exact op_repT pins s σ H _ _ v u Q I rx ry ⟨l, k, xs, rfl, rfl, hT, hbig.1, hbig.2, h2, hz, q⟩
  · cases rx
    obtain ⟨t, rfl⟩ := ry
    obtain ⟨its, r, ⟨⟨cls, dd, data, sl⟩, ho, hc, n, hd⟩, hs⟩ := I.tuple hT
    simp only at hc hd
    subst hc hd
    have hle : its.length = xs.length := r.length.symm
    have hem : its.toArray.isEmpty = xs.isEmpty := by
      have := isEmpty_of r
      simpa using this
    have c0 : (decide (k < -(2 ^ 63)) || decide (k ≥ 2 ^ 63)) = false := by
      rw [decide_eq_false (by omega), decide_eq_false (by omega)] <;> rfl
    refine binop_tup (dd := dd) (n := n) (sl := sl) ho ?_
    cases c1 : (its.toArray.isEmpty || k == 1) with
    | true =>
      refine call_meets F.slot_tuple_mul ⟨_, ho, rfl⟩ F.entry_tuple_mul (F.args_tuple_mul_2 _ _) (tup_mul_same l its.toArray n dd sl k t c0 c1) ⟨ho, ?_⟩
      refine ⟨.ref l, H, I, rfl, qs ?_⟩
      rcases Bool.or_eq_true_iff.mp c1 with z | z
      · rw [hem] at z
        have : xs = [] := by simpa using z
        subst this
        exact rep_nil
      · have : k = 1 := by simpa using z
        subst this
        exact rep_one
    | false =>
      obtain ⟨z1, z2⟩ := Bool.or_eq_false_iff.mp c1
      have hk : k ≤ 0 := by
        have hne : xs ≠ [] := fun e => by
          rw [hem, e] at z1
          cases z1
        have h3 : ¬ 2 ≤ k := fun e => hbig ⟨hne, e⟩
        have h4 : k ≠ 1 := by simpa using z2
        omega
      have c2 : (decide (k ≤ 0) || its.toArray.isEmpty) = true := by rw [decide_eq_true hk]; rfl
      refine call_meets F.slot_tuple_mul ⟨_, ho, rfl⟩ F.entry_tuple_mul (F.args_tuple_mul_2 _ _) (tup_mul_none l its.toArray n dd sl k t c0 c1 c2) ⟨ho, ?_⟩
      have q' := q s.heap.objs.size (I.hok.fresh (Nat.le_refl _))
      rw [rep_zero hk] at q'
      refine ⟨.ref s.heap.objs.size, _, I.laid (t' := s.toks) (o := .tup []) (fun b ob q => Heap.get?_push_of_some _ q) (Nat.le_refl _) ?_, rfl, q'⟩
      exact ⟨Nat.zero_le _, [], .nil, IsTup.new _ _⟩
theorem rep_cps (z : Array Nat) (n : Nat) : (List.replicate n z).foldl (· ++ ·) #[] = ((List.replicate n z.toList).flatten).toArray := by
  have : ∀ (l : List (Array Nat)) (acc : Array Nat), l.foldl (· ++ ·) acc = (acc.toList ++ (l.map (·.toList)).flatten).toArray := by
    intro l
    induction l with
    | nil => intro acc; simp
    | cons a l ih => intro acc; rw [List.foldl_cons, ih]; simp
  rw [this]
  simp
theorem op_mulStr : OpR X (binaryOp .Mult) (fun x y H Q => ∃ z k, x = .str z ∧ y = .int k ∧ -1000000 ≤ k ∧ k ≤ 1000000 ∧ z.length * k.toNat ≤ sizeLine ∧ Q (.str ⟨(rep z.cps.toList k).toArray⟩) H) := by
  intro pins s σ H x y v u Q I rx ry h
  obtain ⟨z, k, rfl, rfl, h1, h2, hz, q⟩ := h
  obtain ⟨t, rfl⟩ := rx
  obtain ⟨t', rfl⟩ := ry
  have hs : sizeLine = 16777216 := sizeLine_eq
  refine P.mul_str (by rw [decide_eq_false (by omega), decide_eq_false (by omega)]; rfl) (fun a b => ?_) (fun a b => ?_) ?_
  · obtain ⟨b1, b2⟩ := Bool.or_eq_false_iff.mp b
    have hz0 : z.length ≠ 0 := by simpa using b2
    have hk : 1 ≤ k.toNat := by omega
    have : z.length ≤ 16777216 := by
      have := Nat.le_mul_of_pos_right z.length (show 0 < k.toNat by omega)
      omega
    have hd : (2 ^ 63 - 1) / 1000000 ≤ ((2 : Int) ^ 63 - 1) / k := by
      apply Int.le_ediv_of_mul_le (by omega)
      omega
    omega
  · exact decide_eq_false (Nat.not_lt.mpr hz)
  · by_cases c : k < 1
    · rw [if_pos c]
      have e : (⟨(rep z.cps.toList k).toArray⟩ : Str) = Str.empty := by rw [rep_zero (by omega)]; rfl
      rw [e] at q
      exact ⟨by decide, .str _, H, I.tok _, ⟨_, rfl⟩, q⟩
    · rw [if_neg c]
      by_cases c2 : (k == 1 || z.length == 0) = true
      · rw [if_pos c2]
        have e : (⟨(rep z.cps.toList k).toArray⟩ : Str) = z := by
          rcases Bool.or_eq_true_iff.mp c2 with c3 | c3
          · have : k = 1 := by simpa using c3
            subst this
            rw [rep_one]
          · have : z.cps.toList = [] := by
              have h3 : z.cps.size = 0 := by simpa [Str.length] using c3
              simpa using h3
            rw [this, rep_nil]
            cases z with
            | mk cps =>
              simp at this
              rw [this]
        rw [e] at q
        exact ⟨.str _, H, I, ⟨_, rfl⟩, q⟩
      · rw [if_neg c2, rep_cps]
        have e : (⟨(rep z.cps.toList k).toArray⟩ : Str).length ≤ sizeLine := by
          show (rep z.cps.toList k).toArray.size ≤ _
          unfold rep
          rw [List.size_toArray, PyProof.Rows.lm_len_rep_flat, Array.length_toList]
          rw [Nat.mul_comm]
          exact hz
        exact ⟨e, .str _, H, I.tok _, ⟨_, rfl⟩, q⟩
end
end VM

/-! Operations by values, further. -/
namespace VM
open PySem PySem.Spec PyProof.Rows L2
section
variable {X : Cx} {g : GS}
theorem mul_ok (hK : X.K = g.K) : OpR X (binaryOp .Mult) (r2 g (binS .mul)) := by
  intro pins s σ H xv yv v u Q I rx ry h
  obtain ⟨x, φ, hs, a, b, rep', da, db, r, e, q⟩ := h
  have seqs : ∀ (k : Int), b = .v (.int k) → (match seqS hs a with
    | some (false, xs) => if -1000000 ≤ k ∧ k ≤ 1000 ∧ xs.length ≤ 1000 then some (RV.v (.tup (rep xs k))) else none
    | some (true, xs) => if -1000000 ≤ k ∧ k ≤ 1000000 ∧ xs.length * k.toNat ≤ lim then some (.nw (.lst (rep xs k))) else none
    | none => none) = some r → wpAny (model X.prog X.w) X.A (binaryOp .Mult v u) (EP X pins σ Q) X.xe s := by
    rintro k rfl e
    have ey : yv = .int k := db
    subst ey
    cases e1 : seqS hs a with
    | none => rw [e1] at e; cases e
    | some p1 =>
      obtain ⟨b1, us⟩ := p1
      rw [e1] at e
      cases b1
      · simp only at e
        split at e
        · rename_i hl
          cases e
          obtain ⟨p1, vs1, rfl, d1, t1⟩ := seqT_ok rep' da e1
          have l1 := d1.len
          refine op_mulT pins s σ H _ _ v u Q I rx ry ⟨p1, k, vs1, rfl, rfl, by rw [hK]; exact t1.sq, hl.1, hl.2.1, by omega, fun z => ?_, fun p hp => ?_⟩
          · refine q φ _ H Step.refl rep' ⟨p1, vs1, rfl, t1, ?_⟩
            have d2 : DenL g (ow φ x) H (rep us k) (rep vs1 k) := d1.rep k.toNat
            rw [z] at d2
            exact d2
          · obtain ⟨k1, k2, k3⟩ := new_tup rep' hp (show DenL g (ow φ x) H (rep us k) (rep vs1 k) from d1.rep k.toNat)
            exact q φ _ _ k1 k2 k3
        · cases e
      · simp only at e
        split at e
        · rename_i hl
          cases e
          obtain ⟨p1, vs1, rfl, d1, t1⟩ := seqL_ok rep' da e1
          have l1 := d1.len
          refine op_rep pins s σ H _ _ v u Q I rx ry ⟨p1, k, vs1, rfl, rfl, t1, by omega, by omega, by rw [← lim_eq, ← l1]; exact hl.2.2, fun p hp => ?_⟩
          obtain ⟨k1, k2, k3⟩ := new_lst rep' hp (show DenL g (ow φ x) H (rep us k) (rep vs1 k) from d1.rep k.toNat)
          exact q φ _ _ k1 k2 k3
        · cases e
  have vals : ∀ (i j : Int), a = .v (.int i) → b = .v (.int j) → (if mulOk i j then some (RV.v (.int (i * j))) else none) = some r → wpAny (model X.prog X.w) X.A (binaryOp .Mult v u) (EP X pins σ Q) X.xe s := by
    rintro i j rfl rfl e
    split at e
    · rename_i hm
      cases e
      have e1 : xv = .int i := da
      have e2 : yv = .int j := db
      rcases mulOk_ok hm with z | z
      · exact op_mul pins s σ H xv yv v u Q I rx ry ⟨i, j, e1, e2, z, q φ _ H Step.refl rep' rfl⟩
      · exact op_mulW pins s σ H xv yv v u Q I rx ry ⟨i, j, e1, e2, z, q φ _ H Step.refl rep' rfl⟩
    · cases e
  have txts : ∀ (z : Str) (k : Int), a = .v (.str z) → b = .v (.int k) → (if -1000000 ≤ k ∧ k ≤ 1000000 ∧ z.length * k.toNat ≤ lim then some (RV.v (.str ⟨(rep z.cps.toList k).toArray⟩)) else none) = some r → wpAny (model X.prog X.w) X.A (binaryOp .Mult v u) (EP X pins σ Q) X.xe s := by
    rintro z k rfl rfl e
    split at e
    · rename_i hl
      cases e
      have e1 : xv = .str z := da
      have e2 : yv = .int k := db
      exact op_mulStr pins s σ H xv yv v u Q I rx ry ⟨z, k, e1, e2, hl.1, hl.2.1, by rw [← lim_eq]; exact hl.2.2, q φ _ H Step.refl rep' rfl⟩
    · cases e
  cases b with
  | r n =>
    cases a with
    | r m => cases e
    | v ua => cases ua <;> cases e
  | v ub =>
    cases ub with
    | int k =>
      cases a with
      | r n => exact seqs k rfl e
      | v ua =>
        cases ua with
        | int i => exact vals i k rfl rfl e
        | str z => exact txts z k rfl rfl e
        | _ => exact seqs k rfl e
    | _ =>
      cases a with
      | r n => cases e
      | v ua => cases ua <;> cases e

/-- two ints -/
theorem ints_ok {op : Operator} {f : Hs → S → S → Option RV} {C : Int → Int → Prop} {k : Int → Int → Int}
    (rule : OpR X (binaryOp op) (rI C fun i j => .int (k i j)))
    (hf : ∀ h s t r, f h s t = some r → ∃ i j, s = .v (.int i) ∧ t = .v (.int j) ∧ C i j ∧ r = .v (.int (k i j))) : OpR X (binaryOp op) (r2 g f) := by
  intro pins s σ H xv yv v u Q I rx ry h
  obtain ⟨x, φ, hs, a, b, rep', da, db, r, e, q⟩ := h
  obtain ⟨i, j, rfl, rfl, c, rfl⟩ := hf _ _ _ _ e
  exact rule pins s σ H xv yv v u Q I rx ry ⟨i, j, da, db, c, q φ _ H Step.refl rep' rfl⟩
theorem sub_ok : OpR X (binaryOp .Sub) (r2 g (binS .sub)) := by
  refine ints_ok (C := fun _ _ => True) (k := fun i j => i - j) ?_ fun h s t r e => ?_
  · intro pins s σ H xv yv v u Q I rx ry h
    obtain ⟨i, j, h1, h2, _, q⟩ := h
    exact op_sub pins s σ H xv yv v u Q I rx ry ⟨i, j, h1, h2, q⟩
  · cases s with
    | r n => cases t <;> cases e
    | v us =>
      cases us with
      | int i =>
        cases t with
        | r n => cases e
        | v ut =>
          cases ut with
          | int j => cases e; exact ⟨i, j, rfl, rfl, trivial, rfl⟩
          | _ => cases e
      | _ => cases t <;> (try cases e) <;> (rename_i ut; cases ut <;> cases e)
theorem fdiv_ok : OpR X (binaryOp .FloorDiv) (r2 g (binS .fdiv)) := by
  refine ints_ok op_fdivW fun h s t r e => ?_
  cases s with
  | r n => cases t <;> cases e
  | v us =>
    cases us with
    | int i =>
      cases t with
      | r n => cases e
      | v ut =>
        cases ut with
        | int j =>
          simp only [binS] at e
          split at e
          · rename_i hc
            cases e
            exact ⟨i, j, rfl, rfl, ⟨hc.1, by omega⟩, rfl⟩
          · cases e
        | _ => cases e
    | _ => cases t <;> (try cases e) <;> (rename_i ut; cases ut <;> cases e)
theorem mod_ok : OpR X (binaryOp .Mod) (r2 g (binS .mod)) := by
  refine ints_ok op_mod fun h s t r e => ?_
  cases s with
  | r n => cases t <;> cases e
  | v us =>
    cases us with
    | int i =>
      cases t with
      | r n => cases e
      | v ut =>
        cases ut with
        | int j =>
          simp only [binS] at e
          split at e
          · rename_i hc
            cases e
            exact ⟨i, j, rfl, rfl, hc, rfl⟩
          · cases e
        | _ => cases e
    | _ => cases t <;> (try cases e) <;> (rename_i ut; cases ut <;> cases e)
theorem pow_ok : OpR X (binaryOp .Pow) (r2 g (binS .pow)) := by
  refine ints_ok op_pow fun h s t r e => ?_
  cases s with
  | r n => cases t <;> cases e
  | v us =>
    cases us with
    | int i =>
      cases t with
      | r n => cases e
      | v ut =>
        cases ut with
        | int j =>
          simp only [binS] at e
          split at e
          · rename_i hc
            cases e
            exact ⟨i, j, rfl, rfl, ⟨hc.1, by omega, by omega⟩, rfl⟩
          · cases e
        | _ => cases e
    | _ => cases t <;> (try cases e) <;> (rename_i ut; cases ut <;> cases e)
def opOf : BO → Operator
  | .add => .Add | .sub => .Sub | .mul => .Mult | .fdiv => .FloorDiv | .mod => .Mod | .pow => .Pow
theorem bin_ok (hK : X.K = g.K) : ∀ o : BO, OpR X (binaryOp (opOf o)) (r2 g (binS o))
  | .add => add_ok hK
  | .sub => sub_ok
  | .mul => mul_ok hK
  | .fdiv => fdiv_ok
  | .mod => mod_ok
  | .pow => pow_ok
end
end VM

/-! Comparisons by values. -/
namespace VM
open PySem PySem.Spec PyProof.Rows L2
mutual
/-- as the library's data -/
def toD : U → PyData
  | .non => .none
  | .bl b => .bool b
  | .int i => .int i
  | .str x => .str x
  | .tup xs => .tuple (toDs xs)
  | .lst xs => .list (toDs xs)
  | _ => .none
def toDs : List U → List PyData
  | [] => []
  | x :: xs => toD x :: toDs xs
end
mutual
theorem toD_lay : ∀ u : U, u.dat = true → (toD u).canLay0 = true
  | .non, _ => by simp [toD, PyData.canLay0]
  | .bl _, _ => by simp [toD, PyData.canLay0]
  | .int _, _ => by simp [toD, PyData.canLay0]
  | .str x, h => by
    simp only [toD, PyData.canLay0]
    exact h
  | .tup xs, h => by
    simp only [toD, PyData.canLay0]
    exact toDs_lay xs h
  | .lst xs, h => by
    simp only [toD, PyData.canLay0]
    exact toDs_lay xs h
  | .frz _, h => by cases h
  | .dct _, h => by cases h
  | .fn _, h => by cases h
theorem toDs_lay : ∀ us : List U, datL us = true → PyData.canLayAll0 (toDs us) = true
  | [], _ => by simp [toDs, PyData.canLayAll0]
  | u :: us, h => by
    obtain ⟨h1, h2⟩ := Bool.and_eq_true_iff.mp (show (u.dat && datL us) = true from h)
    simp only [toDs, PyData.canLayAll0]
    rw [toD_lay u h1, toDs_lay us h2]
    rfl
end
mutual
theorem toD_dp : ∀ u : U, (toD u).depth ≤ u.dp
  | .non => by simp [toD, PyData.depth]
  | .bl _ => by simp [toD, PyData.depth]
  | .int _ => by simp [toD, PyData.depth]
  | .str x => by simp [toD, PyData.depth]
  | .tup xs => by
    simp only [toD, PyData.depth, U.dp]
    exact Nat.succ_le_succ (toDs_dp xs)
  | .lst xs => by
    simp only [toD, PyData.depth, U.dp]
    exact Nat.succ_le_succ (toDs_dp xs)
  | .frz _ => by simp [toD, PyData.depth]
  | .dct _ => by simp [toD, PyData.depth]
  | .fn _ => by simp [toD, PyData.depth]
theorem toDs_dp : ∀ us : List U, PyData.depthAll (toDs us) ≤ dpL us
  | [] => by simp [toDs, PyData.depthAll]
  | u :: us => by
    have h1 := toD_dp u
    have h2 := toDs_dp us
    simp only [toDs, PyData.depthAll, dpL]
    omega
end
theorem shp_ok {u : U} (h : u.shp = true) : u.dat = true ∧ SeqAt.shaped (toD u) = true := by
  obtain ⟨h1, h2⟩ := Bool.and_eq_true_iff.mp h
  have h3 := Nat.le_of_ble_eq_true h2
  have h4 := toD_dp u
  refine ⟨h1, ?_⟩
  unfold SeqAt.shaped
  rw [toD_lay u h1]
  exact decide_eq_true (by omega)
theorem b2i_eq (b : Bool) : b2i b = if b then 1 else 0 := rfl
mutual
theorem eqU_ok : ∀ a b : U, a.dat = true → b.dat = true → eqU a b = PyData.eqv (toD a) (toD b)
  | .non, b, _, hb => by cases b <;> first | (cases hb; done) | simp [toD, eqU, PyData.eqv]
  | .bl _, b, _, hb => by cases b <;> first | (cases hb; done) | simp [toD, eqU, PyData.eqv, b2i]
  | .int _, b, _, hb => by cases b <;> first | (cases hb; done) | simp [toD, eqU, PyData.eqv, b2i]
  | .str x, b, _, hb => by
    cases b <;> first | (cases hb; done) | (simp [toD, eqU, PyData.eqv, Bool.beq_eq_decide_eq]; done)
  | .tup xs, b, ha, hb => by
    cases b with
    | tup ys =>
      simp only [toD, eqU, PyData.eqv]
      exact eqL_ok xs ys ha hb
    | _ => first | (cases hb; done) | simp [toD, eqU, PyData.eqv]
  | .lst xs, b, ha, hb => by
    cases b with
    | lst ys =>
      simp only [toD, eqU, PyData.eqv]
      exact eqL_ok xs ys ha hb
    | _ => first | (cases hb; done) | simp [toD, eqU, PyData.eqv]
  | .frz _, _, ha, _ => by cases ha
  | .dct _, _, ha, _ => by cases ha
  | .fn _, _, ha, _ => by cases ha
theorem eqL_ok : ∀ a b : List U, datL a = true → datL b = true → eqL a b = PyData.eqvAll (toDs a) (toDs b)
  | [], [], _, _ => by simp [toDs, eqL, PyData.eqvAll]
  | [], _ :: _, _, _ => by simp [toDs, eqL, PyData.eqvAll]
  | _ :: _, [], _, _ => by simp [toDs, eqL, PyData.eqvAll]
  | a :: as, b :: bs, ha, hb => by
    obtain ⟨h1, h2⟩ := Bool.and_eq_true_iff.mp (show (a.dat && datL as) = true from ha)
    obtain ⟨h3, h4⟩ := Bool.and_eq_true_iff.mp (show (b.dat && datL bs) = true from hb)
    simp only [toDs, eqL, PyData.eqvAll]
    rw [eqU_ok a b h1 h3, eqL_ok as bs h2 h4]
end
mutual
theorem Den.dp {g : GS} {o : Addr → Prop} {H : Hp} : ∀ (u : U) (v : V), u.dat = true → Den g o H u v → Dp g.K H v (toD u)
  | .non, v, _, h => by rw [show v = .non from h]; exact .non
  | .bl b, v, _, h => by rw [show v = .bl b from h]; exact .bl b
  | .int i, v, _, h => by rw [show v = .int i from h]; exact .int i
  | .str x, v, _, h => by rw [show v = .str x from h]; exact .str x
  | .tup us, v, hd, h => by
    obtain ⟨a, vs, rfl, t, d⟩ := h
    exact .tup t.sq (DenL.dp us vs hd d)
  | .lst us, v, hd, h => by
    obtain ⟨a, vs, rfl, t, n, d⟩ := h
    exact .lst (.inl (.inl t)) (DenL.dp us vs hd d)
  | .frz _, _, hd, _ => by cases hd
  | .dct _, _, hd, _ => by cases hd
  | .fn _, _, hd, _ => by cases hd
theorem DenL.dp {g : GS} {o : Addr → Prop} {H : Hp} : ∀ (us : List U) (vs : List V), datL us = true → DenL g o H us vs → DpAll g.K H vs (toDs us)
  | [], vs, _, h => by rw [show vs = [] from h]; exact .nil
  | u :: us, vs, hd, h => by
    obtain ⟨w, ws, rfl, d, ds⟩ := h
    obtain ⟨h1, h2⟩ := Bool.and_eq_true_iff.mp (show (u.dat && datL us) = true from hd)
    exact .cons (Den.dp u w h1 d) (DenL.dp us ws h2 ds)
end
theorem toDs_map : ∀ us : List U, toDs us = us.map toD
  | [] => rfl
  | u :: us => by
    show toD u :: toDs us = _
    rw [toDs_map us]
    rfl
theorem any_eqU {a : U} (ha : a.dat = true) : ∀ us : List U, datL us = true → (us.any fun y => eqU y a) = (toDs us).any fun z => PyData.eqv z (toD a)
  | [], _ => rfl
  | u :: us, h => by
    obtain ⟨h1, h2⟩ := Bool.and_eq_true_iff.mp (show (u.dat && datL us) = true from h)
    show (eqU u a || us.any fun y => eqU y a) = (PyData.eqv (toD u) (toD a) || (toDs us).any fun z => PyData.eqv z (toD a))
    rw [eqU_ok u a h1 ha, any_eqU ha us h2]

def cop : CO → CmpOp
  | .eq => .Eq | .ne => .NotEq | .lt => .Lt | .le => .LtE | .gt => .Gt | .ge => .GtE | .is => .Is | .isn => .IsNot | .in => .In | .nin => .NotIn
def cmpR (o : CO) : Hs → S → S → Option RV := fun h s t => (cmpS o h s t).map fun b => .v (.bl b)
section
variable {X : Cx} {g : GS}
theorem cI {o : CO} {i j : Int} {c : Bool} (h : cmpI o i j = some c) {pins : List (Addr × Obj)} {s : Shared} {σ : L2.St} {H : Hp} {v u : Value} {Q : VK} (I : L2.Inv X pins σ H s) (rx : L2.RelV (.int i) v) (ry : L2.RelV (.int j) u) (q : Q (.bl c) H) :
    wpAny (model X.prog X.w) X.A (compareOp (cop o) v u) (EP X pins σ Q) X.xe s := by
  cases o with
  | eq => cases h; exact op_eq pins s σ H _ _ v u Q I rx ry ⟨rfl, by rw [show decide (V.int i = V.int j) = decide (i = j) by rw [dec_int, Bool.beq_eq_decide_eq]]; exact q⟩
  | ne => cases h; exact op_ne pins s σ H _ _ v u Q I rx ry ⟨rfl, by rw [show decide (V.int i = V.int j) = decide (i = j) by rw [dec_int, Bool.beq_eq_decide_eq]]; exact q⟩
  | lt => cases h; exact op_lt pins s σ H _ _ v u Q I rx ry ⟨i, j, rfl, rfl, q⟩
  | le => cases h; exact op_le pins s σ H _ _ v u Q I rx ry ⟨i, j, rfl, rfl, q⟩
  | gt => cases h; exact op_gt pins s σ H _ _ v u Q I rx ry ⟨i, j, rfl, rfl, q⟩
  | ge => cases h; exact op_ge pins s σ H _ _ v u Q I rx ry ⟨i, j, rfl, rfl, q⟩
  | _ => cases h
/-- equal data -/
theorem cEq {a b : U} {c : Bool} {x : Addr → Prop} {φ : Phi} (hK : X.K = g.K) (hu : X.A.units + 64 < cLine) (h : (if a.shp && b.shp then some (eqU a b) else none) = some c) {pins : List (Addr × Obj)} {s : Shared} {σ : L2.St} {H : Hp} {xv yv : V} {v u : Value} {Q : VK} (I : L2.Inv X pins σ H s)
    (rx : L2.RelV xv v) (ry : L2.RelV yv u) (da : Den g (ow φ x) H a xv) (db : Den g (ow φ x) H b yv) (q : Q (.bl c) H) : wpAny (model X.prog X.w) X.A (compareOp .Eq v u) (EP X pins σ Q) X.xe s := by
  split at h
  · rename_i hs
    cases h
    obtain ⟨h1, h2⟩ := Bool.and_eq_true_iff.mp hs
    obtain ⟨d1, s1⟩ := shp_ok h1
    obtain ⟨d2, s2⟩ := shp_ok h2
    exact op_eqD hu pins s σ H xv yv v u Q I rx ry ⟨toD a, toD b, by rw [hK]; exact Den.dp a xv d1 da, by rw [hK]; exact Den.dp b yv d2 db, s1, s2, by rw [← eqU_ok a b d1 d2]; exact q⟩
  · cases h
theorem cNe {a b : U} {c : Bool} {x : Addr → Prop} {φ : Phi} (hK : X.K = g.K) (hu : X.A.units + 64 < cLine) (h : (if a.shp && b.shp then some (!eqU a b) else none) = some c) {pins : List (Addr × Obj)} {s : Shared} {σ : L2.St} {H : Hp} {xv yv : V} {v u : Value} {Q : VK} (I : L2.Inv X pins σ H s)
    (rx : L2.RelV xv v) (ry : L2.RelV yv u) (da : Den g (ow φ x) H a xv) (db : Den g (ow φ x) H b yv) (q : Q (.bl c) H) : wpAny (model X.prog X.w) X.A (compareOp .NotEq v u) (EP X pins σ Q) X.xe s := by
  split at h
  · rename_i hs
    cases h
    obtain ⟨h1, h2⟩ := Bool.and_eq_true_iff.mp hs
    obtain ⟨d1, s1⟩ := shp_ok h1
    obtain ⟨d2, s2⟩ := shp_ok h2
    exact op_neD hu pins s σ H xv yv v u Q I rx ry ⟨toD a, toD b, by rw [hK]; exact Den.dp a xv d1 da, by rw [hK]; exact Den.dp b yv d2 db, s1, s2, by rw [← eqU_ok a b d1 d2]; exact q⟩
  · cases h

theorem cIn {a : U} {t : S} {h : Hs} {x : Addr → Prop} {φ : Phi} {neg c : Bool} (hK : X.K = g.K) (hu : X.A.units + 65 < cLine)
    (e : (match seqS h t with
    | some (true, ys) => if a.shp && (U.lst ys).shp then some (if neg then !ys.any fun y => eqU y a else ys.any fun y => eqU y a) else none
    | some (false, ys) => if a.shp && (U.tup ys).shp then some (if neg then !ys.any fun y => eqU y a else ys.any fun y => eqU y a) else none
    | none => none) = some c) {pins : List (Addr × Obj)} {s : Shared} {σ : L2.St} {H : Hp} {xv yv : V} {v u : Value} {Q : VK} (I : L2.Inv X pins σ H s)
    (rx : L2.RelV xv v) (ry : L2.RelV yv u) (rep : RepH g x φ h H) (da : Den g (ow φ x) H a xv) (db : DenS g x φ H t yv) (q : Q (.bl c) H) :
    wpAny (model X.prog X.w) X.A (compareOp (if neg then .NotIn else .In) v u) (EP X pins σ Q) X.xe s := by
  cases e1 : seqS h t with
  | none => rw [e1] at e; cases e
  | some p =>
    obtain ⟨b, ys⟩ := p
    rw [e1] at e
    cases b
    · simp only at e
      split at e
      · rename_i hs
        obtain ⟨h1, h2⟩ := Bool.and_eq_true_iff.mp hs
        obtain ⟨d1, s1⟩ := shp_ok h1
        obtain ⟨d2, s2⟩ := shp_ok h2
        obtain ⟨p, vs, rfl, d, t⟩ := seqT_ok rep db e1
        obtain ⟨as, r1⟩ := Dp.reads I (toD a) xv v (by rw [hK]; exact Den.dp a xv d1 da) rx
        obtain ⟨bs, r2⟩ := Dp.reads I (.tuple (toDs ys)) _ u (by rw [hK]; exact .tup t.sq (DenL.dp ys vs d2 d)) ry
        have lay : PyData.canLayAll0 (toDs ys) = true := toDs_lay ys d2
        have hroom : X.A.units + 1 + min (PyData.depthAll (toDs ys)) (toD a).depth < cLine := by
          have := SeqAt.depth_of_shaped s1
          omega
        cases neg with
        | true =>
          cases e
          refine SeqAt.notIn_tuple_reads r2 r1 lay (SeqAt.canLay_of_shaped s1) hroom ⟨.bl _, H, I, rfl, ?_⟩
          rw [← any_eqU d1 ys d2]
          exact q
        | false =>
          cases e
          refine SeqAt.in_tuple_reads r2 r1 lay (SeqAt.canLay_of_shaped s1) hroom ⟨.bl _, H, I, rfl, ?_⟩
          rw [← any_eqU d1 ys d2]
          exact q
      · cases e
    · simp only at e
      split at e
      · rename_i hs
        obtain ⟨h1, h2⟩ := Bool.and_eq_true_iff.mp hs
        obtain ⟨d1, s1⟩ := shp_ok h1
        obtain ⟨d2, s2⟩ := shp_ok h2
        obtain ⟨p, vs, rfl, d, t⟩ := seqL_ok rep db e1
        obtain ⟨as, r1⟩ := Dp.reads I (toD a) xv v (by rw [hK]; exact Den.dp a xv d1 da) rx
        obtain ⟨bs, r2⟩ := Dp.reads I (.list (toDs ys)) _ u (by rw [hK]; exact .lst (.inl (.inl t)) (DenL.dp ys vs d2 d)) ry
        have lay : PyData.canLayAll0 (toDs ys) = true := toDs_lay ys d2
        have hroom : X.A.units + 1 + min (PyData.depthAll (toDs ys)) (toD a).depth < cLine := by
          have := SeqAt.depth_of_shaped s1
          omega
        cases neg with
        | true =>
          cases e
          refine SeqAt.notIn_list_reads r2 r1 lay (SeqAt.canLay_of_shaped s1) hroom ⟨.bl _, H, I, rfl, ?_⟩
          rw [← any_eqU d1 ys d2]
          exact q
        | false =>
          cases e
          refine SeqAt.in_list_reads r2 r1 lay (SeqAt.canLay_of_shaped s1) hroom ⟨.bl _, H, I, rfl, ?_⟩
          rw [← any_eqU d1 ys d2]
          exact q
      · cases e
theorem cSign {a z : Str} {c : Bool} (e : signIn a z = some c) : ∃ k, a = ⟨#[k]⟩ ∧ c = decide (k ∈ z.cps.toList) := by
  unfold signIn at e
  split at e
  · rename_i k hk
    cases e
    refine ⟨k, ?_, rfl⟩
    obtain ⟨cps⟩ := a
    have : cps = #[k] := by
      apply Array.toList_inj.mp
      simpa using hk
    rw [this]
  · cases e
theorem non_iff {x : Addr → Prop} {φ : Phi} {H : Hp} : ∀ {u : U} {v : V}, Den g (ow φ x) H u v → decide (v = .non) = isNon u
  | .non, v, h => by rw [show v = .non from h]; rfl
  | .bl b, v, h => by rw [show v = .bl b from h]; rfl
  | .int b, v, h => by rw [show v = .int b from h]; rfl
  | .str b, v, h => by rw [show v = .str b from h]; rfl
  | .tup us, v, h => by obtain ⟨a, vs, rfl, _⟩ := h; rfl
  | .lst us, v, h => by obtain ⟨a, vs, rfl, _⟩ := h; rfl
  | .frz us, v, h => by obtain ⟨a, vs, rfl, _⟩ := h; rfl
  | .dct us, v, h => h.elim
  | .fn f, v, h => by rw [show v = .ref _ from h]; rfl
theorem cmp_ok (hK : X.K = g.K) (hu : X.A.units + 65 < cLine) (o : CO) : OpR X (compareOp (cop o)) (r2 g (cmpR o)) := by
  intro pins s σ H xv yv v u Q I rx ry h
  obtain ⟨x, φ, hs, a, b, rep', da, db, r, e, q⟩ := h
  unfold cmpR at e
  cases ec : cmpS o hs a b with
  | none => rw [ec] at e; cases e
  | some c =>
    rw [ec] at e
    cases e
    have q' : Q (.bl c) H := q φ _ H Step.refl rep' rfl
    have isn : ∀ (n : Nat) (c' : Bool), a = .r n → ((seqS hs (.r n)).map fun _ => c') = some c → decide (xv = .non) = false ∧ c = c' := by
      rintro n c' rfl e
      cases e1 : seqS hs (.r n) with
      | none => rw [e1] at e; cases e
      | some p =>
        rw [e1] at e
        cases e
        obtain ⟨p, vs, rfl, _⟩ := seq_ok rep' da (b := p.1) (us := p.2) e1
        exact ⟨rfl, rfl⟩
    cases o with
    | is =>
      cases b with
      | r n => cases a <;> (try cases ec) <;> (rename_i ua; cases ua <;> cases ec)
      | v ub =>
        cases ub with
        | non =>
          have ey : yv = .non := db
          subst ey
          cases a with
          | r n =>
            obtain ⟨e1, e2⟩ := isn n false rfl ec
            exact op_isN pins s σ H xv _ v u Q I rx ry ⟨rfl, by rw [e1, ← e2]; exact q'⟩
          | v ua =>
            have e1 := non_iff (u := ua) da
            have e2 : c = isNon ua := (Option.some.inj ec).symm
            exact op_isN pins s σ H xv _ v u Q I rx ry ⟨rfl, by rw [e1, ← e2]; exact q'⟩
        | _ => cases a <;> (try cases ec) <;> (rename_i ua; cases ua <;> cases ec)
    | isn =>
      cases b with
      | r n => cases a <;> (try cases ec) <;> (rename_i ua; cases ua <;> cases ec)
      | v ub =>
        cases ub with
        | non =>
          have ey : yv = .non := db
          subst ey
          cases a with
          | r n =>
            obtain ⟨e1, e2⟩ := isn n true rfl ec
            exact op_notN pins s σ H xv _ v u Q I rx ry ⟨rfl, by rw [e1, Bool.not_false, ← e2]; exact q'⟩
          | v ua =>
            have e1 := non_iff (u := ua) da
            have e2 : c = !isNon ua := (Option.some.inj ec).symm
            exact op_notN pins s σ H xv _ v u Q I rx ry ⟨rfl, by rw [e1, ← e2]; exact q'⟩
        | _ => cases a <;> (try cases ec) <;> (rename_i ua; cases ua <;> cases ec)
    | «in» =>
      cases a with
      | r n => cases b <;> (try cases ec) <;> (rename_i ub; cases ub <;> cases ec)
      | v ua =>
        by_cases hss : ∃ y z, ua = .str y ∧ b = .v (.str z)
        · obtain ⟨y, z, rfl, rfl⟩ := hss
          obtain ⟨k, rfl, rfl⟩ := cSign (show signIn y z = some c from ec)
          exact op_in_sign pins s σ H xv yv v u Q I rx ry ⟨k, z, da, db, q'⟩
        · refine cIn (neg := false) hK hu ?_ I rx ry rep' da db q'
          rw [← ec]
          cases ua <;> first | rfl | (cases b <;> first | rfl | (rename_i z y; cases y <;> first | rfl | exact absurd ⟨_, _, rfl, rfl⟩ hss))
    | nin =>
      cases a with
      | r n => cases b <;> (try cases ec) <;> (rename_i ub; cases ub <;> cases ec)
      | v ua =>
        by_cases hss : ∃ y z, ua = .str y ∧ b = .v (.str z)
        · obtain ⟨y, z, rfl, rfl⟩ := hss
          have ec' : (signIn y z).map (!·) = some c := ec
          cases e3 : signIn y z with
          | none => rw [e3] at ec'; cases ec'
          | some c' =>
            rw [e3] at ec'
            cases ec'
            obtain ⟨k, rfl, rfl⟩ := cSign e3
            exact op_notIn_sign pins s σ H xv yv v u Q I rx ry ⟨k, z, da, db, q'⟩
        · refine cIn (neg := true) hK hu ?_ I rx ry rep' da db q'
          rw [← ec]
          cases ua <;> first | rfl | (cases b <;> first | rfl | (rename_i z y; cases y <;> first | rfl | exact absurd ⟨_, _, rfl, rfl⟩ hss))
    | eq =>
      cases a with
      | r n => cases b <;> (try cases ec) <;> (rename_i ub; cases ub <;> cases ec)
      | v ua =>
        cases b with
        | r n => cases ua <;> cases ec
        | v ub =>
          have gen : (if ua.shp && ub.shp then some (eqU ua ub) else none) = some c → wpAny (model X.prog X.w) X.A (compareOp .Eq v u) (EP X pins σ Q) X.xe s := fun z => cEq hK (by omega) z I rx ry da db q'
          cases ua with
          | int i =>
            cases ub with
            | int j =>
              have e1 : xv = .int i := da
              have e2 : yv = .int j := db
              subst e1 e2
              exact cI (o := .eq) ec I rx ry q'
            | _ => exact gen ec
          | str i =>
            cases ub with
            | str j =>
              have e1 : xv = .str i := da
              have e2 : yv = .str j := db
              subst e1 e2
              have e3 : c = decide (i = j) := (Option.some.inj ec).symm
              exact op_eq pins s σ H _ _ v u Q I rx ry ⟨rfl, by rw [show decide (V.str i = V.str j) = c by rw [dec_str, Bool.beq_eq_decide_eq, e3]]; exact q'⟩
            | _ => exact gen ec
          | _ => exact gen (by cases ub <;> exact ec)
    | ne =>
      cases a with
      | r n => cases b <;> (try cases ec) <;> (rename_i ub; cases ub <;> cases ec)
      | v ua =>
        cases b with
        | r n => cases ua <;> cases ec
        | v ub =>
          have gen : (if ua.shp && ub.shp then some (!eqU ua ub) else none) = some c → wpAny (model X.prog X.w) X.A (compareOp .NotEq v u) (EP X pins σ Q) X.xe s := fun z => cNe hK (by omega) z I rx ry da db q'
          cases ua with
          | int i =>
            cases ub with
            | int j =>
              have e1 : xv = .int i := da
              have e2 : yv = .int j := db
              subst e1 e2
              exact cI (o := .ne) ec I rx ry q'
            | _ => exact gen ec
          | str i =>
            cases ub with
            | str j =>
              have e1 : xv = .str i := da
              have e2 : yv = .str j := db
              subst e1 e2
              have e3 : c = !decide (i = j) := (Option.some.inj ec).symm
              exact op_ne pins s σ H _ _ v u Q I rx ry ⟨rfl, by rw [show decide (V.str i = V.str j) = decide (i = j) by rw [dec_str, Bool.beq_eq_decide_eq], ← e3]; exact q'⟩
            | _ => exact gen ec
          | _ => exact gen (by cases ub <;> exact ec)
    | lt =>
      cases a with
      | r n => cases b <;> (try cases ec) <;> (rename_i ub; cases ub <;> cases ec)
      | v ua =>
        cases b with
        | r n => cases ua <;> cases ec
        | v ub =>
          cases ua with
          | int i =>
            cases ub with
            | int j =>
              have e1 : xv = .int i := da
              have e2 : yv = .int j := db
              subst e1 e2
              exact cI (o := .lt) ec I rx ry q'
            | _ => cases ec
          | str i =>
            cases ub with
            | str j => cases ec; exact op_lt_str pins s σ H xv yv v u Q I rx ry ⟨i, j, da, db, q'⟩
            | _ => cases ec
          | _ => cases ub <;> cases ec
    | le =>
      cases a with
      | r n => cases b <;> (try cases ec) <;> (rename_i ub; cases ub <;> cases ec)
      | v ua =>
        cases b with
        | r n => cases ua <;> cases ec
        | v ub =>
          cases ua with
          | int i =>
            cases ub with
            | int j =>
              have e1 : xv = .int i := da
              have e2 : yv = .int j := db
              subst e1 e2
              exact cI (o := .le) ec I rx ry q'
            | _ => cases ec
          | str i =>
            cases ub with
            | str j => cases ec; exact op_le_str pins s σ H xv yv v u Q I rx ry ⟨i, j, da, db, q'⟩
            | _ => cases ec
          | _ => cases ub <;> cases ec
    | gt =>
      cases a with
      | r n => cases b <;> (try cases ec) <;> (rename_i ub; cases ub <;> cases ec)
      | v ua =>
        cases b with
        | r n => cases ua <;> cases ec
        | v ub =>
          cases ua with
          | int i =>
            cases ub with
            | int j =>
              have e1 : xv = .int i := da
              have e2 : yv = .int j := db
              subst e1 e2
              exact cI (o := .gt) ec I rx ry q'
            | _ => cases ec
          | str i =>
            cases ub with
            | str j => cases ec; exact op_gt_str pins s σ H xv yv v u Q I rx ry ⟨i, j, da, db, q'⟩
            | _ => cases ec
          | _ => cases ub <;> cases ec
    | ge =>
      cases a with
      | r n => cases b <;> (try cases ec) <;> (rename_i ub; cases ub <;> cases ec)
      | v ua =>
        cases b with
        | r n => cases ua <;> cases ec
        | v ub =>
          cases ua with
          | int i =>
            cases ub with
            | int j =>
              have e1 : xv = .int i := da
              have e2 : yv = .int j := db
              subst e1 e2
              exact cI (o := .ge) ec I rx ry q'
            | _ => cases ec
          | str i =>
            cases ub with
            | str j => cases ec; exact op_ge_str pins s σ H xv yv v u Q I rx ry ⟨i, j, da, db, q'⟩
            | _ => cases ec
          | _ => cases ub <;> cases ec
end
end VM

/-! Places, slices, built-in calls, methods, by values. -/
namespace VM
section
open PySem PySem.Calls PySem.NumText PyProof.Rows PySem.W PySem.W.KIN
theorem lim_look {K : PySem.W.Frag} {M : Model} {A : Around} {E : Value → Shared → Prop} {s : Shared} {Q : Nat → Shared → Prop} (KX : K.In s.heap) (e : PySem.W.nsIn K cStatics "sys.int_max_str_digits" = some none) (h : Q 4300 s) : wpAny M A Builtin.intMaxStrDigits Q E s := by
  unfold Builtin.intMaxStrDigits
  exact wpAny_bind (PySem.W.looks_nsIn KX e A _ E s (fun _ _ q => q) (wpAny_pure h))
theorem wp_textL {K : PySem.W.Frag} {M : Model} {A : Around} {E : Value → Shared → Prop} {s : Shared} {Q : Value → Shared → Prop} {v : Value} {text : List Nat} {n : Int} (KX : K.In s.heap) (e : PySem.W.nsIn K cStatics "sys.int_max_str_digits" = some none)
    (hs : ¬ (text.takeWhile (· != 0)).length ≤ 640) (hr : (int_private% "readNumeral") 4300 10 (text.takeWhile (· != 0)) = (int_private% "Numeral.value") n)
    (ha : ((text.takeWhile (· != 0)).length == text.length) = true) (h : Q (.int n s.toks) { s with toks := s.toks + 1 }) :
    wpAny M A ((int_private% "intFromText") v text 10) Q E s := by
  obtain ⟨hp, g, d, tk, os⟩ := s
  have hl : ∀ {Q : Nat → Shared → Prop}, Q 4300 ⟨hp, g, d, tk, os⟩ → wpAny M A Builtin.intMaxStrDigits Q E ⟨hp, g, d, tk, os⟩ := fun q => lim_look KX e q
  repeat (any_goals (first
    | assumption
    | (with_reducible refine hl ?_)
    | (with_reducible refine wpAny_ite_false (decide_eq_false hs) ?_)
    | (with_reducible refine wpAny_ite_true (decide_eq_true ha) ?_)
    | wp_step))
  all_goals (try rw [hr])
  all_goals (try dsimp only)
  repeat (any_goals (first
    | assumption
    | (with_reducible refine wpAny_ite_true (decide_eq_true ha) ?_)
    | wp_step))
structure Hd (p : Prop) : Prop where
  out : p
set_option maxHeartbeats 4000000 in
theorem meets_textL {K : PySem.W.Frag} (eD : PySem.W.nsIn K cStatics "sys.int_max_str_digits" = some none) {z : PySem.Str} {u : Tok} {n : Int} (hz : z.length ≤ sizeLine) (hn : PySem.intText? z = some n) :
    Meets (Builtin.«int.__new__» ⟨[.type "int", .str z u], []⟩) (fun _ R s => K.In s.heap ∧ (Made.int n).post (fun v s' => R (.ok (.ret v)) s') s) := fun prog w A R s hh => by
  obtain ⟨KX, h⟩ := hh
  by_cases hs : (numSeenOf z).length ≤ 640
  · obtain ⟨hp, g, d, tk, os⟩ := s
    have q1 := F.conv_sub_int
    have q2 := F.madeHere_int
    have q3 := str_int
    have q4 := str_idx
    have q5 := str_trunc
    have q6 : typeOf (.str z u) = pure (.type "str") := rfl
    have hr : (int_private% "readNumeral") 0 10 (numSeenOf z) = (int_private% "Numeral.value") n ∧ ((numSeenOf z).length == (numTextOf z).length) = true := by
      rcases read0 z hs with ⟨m, h1, h2, h3⟩ | ⟨h1, _⟩
      · rw [hn] at h1; cases h1; exact ⟨h3, h2⟩
      · rw [hn] at h1; cases h1
    have hk := Hd.mk (And.intro hs hr)
    have hX := Hd.mk KX
    clear hs hr hz hn KX
    repeat (any_goals (first
      | assumption
      | ((with_reducible show wpAny _ _ ((int_private% "intFromText") _ _ _) _ _ _); refine PySem.W.KIN.wp_text hk.out.1 hk.out.2.1 hk.out.2.2 ?_)
      | wp_step))
    all_goals first | exact ⟨_, rfl, h⟩ | exact h | skip
  · obtain ⟨hp, g, d, tk, os⟩ := s
    have q1 := F.conv_sub_int
    have q2 := F.madeHere_int
    have q3 := str_int
    have q4 := str_idx
    have q5 := str_trunc
    have q6 : typeOf (.str z u) = pure (.type "str") := rfl
    have hr : (int_private% "readNumeral") 4300 10 (numSeenOf z) = (int_private% "Numeral.value") n ∧ ((numSeenOf z).length == (numTextOf z).length) = true := by
      rcases read4300 z hz with ⟨m, h1, h2, h3⟩ | ⟨h1, _⟩
      · rw [hn] at h1; cases h1; exact ⟨h3, h2⟩
      · rw [hn] at h1; cases h1
    have hk := Hd.mk (And.intro hs hr)
    have hX := Hd.mk KX
    clear hs hr hz hn KX
    repeat (any_goals (first
      | assumption
      | ((with_reducible show wpAny _ _ ((int_private% "intFromText") _ _ _) _ _ _); refine wp_textL hX.out eD hk.out.1 hk.out.2.1 hk.out.2.2 ?_)
      | wp_step))
    all_goals first | exact ⟨_, rfl, h⟩ | exact h | skip
open L2 in
theorem call_int_long {X : Cx} (eD : PySem.W.nsIn X.K cStatics "sys.int_max_str_digits" = some none) : CallR X (.type "int") (fun xs H Q => ∃ a n, xs = [.str a] ∧ PySem.intText? a = some n ∧ a.length ≤ 16777216 ∧ Q (.int n) H) := by
  intro pins s σ H xs us Q I rs h
  obtain ⟨a, n, rfl, hn, hl, h⟩ := h
  cases rs with
  | cons r1 rs =>
    cases rs
    obtain ⟨t, rfl⟩ := r1
    exact call_int_1 (meets_textL eD (by rw [sizeLine_eq]; exact hl) hn) ⟨I.kIn, (show (Made.int n).post _ s from ⟨rfl, .int n, H, I.tok _, ⟨_, rfl⟩, h⟩)⟩
end
end VM
namespace VM
open PySem PySem.Spec PyProof.Rows L2
section
variable {X : Cx} {g : GS}
theorem atI_of {α : Type} {xs : List α} {i : Int} {j : Nat} {v : α} (h : ixU xs.length i = some j) (e : xs[j]? = some v) : atI xs i = some v := by
  unfold atI
  rw [show ixN xs.length i = ixU xs.length i from rfl, h]
  exact e
theorem frz_ok {x : Addr → Prop} {φ : Phi} {H : Hp} {us : List U} {v : V} (d : Den g (ow φ x) H (.frz us) v) : ∃ a vs, v = .ref a ∧ DenL g (ow φ x) H us vs ∧ SqL g.K H a vs := by
  obtain ⟨a, vs, e, t, d⟩ := d
  refine ⟨a, vs, e, d, ?_⟩
  rcases t with ⟨ob, t, _⟩ | t
  · exact .inl (.inr ⟨ob, t⟩)
  · exact .inr t
theorem ix_ok (hK : X.K = g.K) : IxR X (r2 g idxS) := by
  intro value slice pins s σ H xv yv v u Q I rx ry h hs
  obtain ⟨x, φ, hh, a, b, rep, da, db, r, e, q⟩ := h
  have gen : ∀ (i : Int) (us : List U) (vs : List V) (p : Addr), yv = .int i → xv = .ref p → DenL g (ow φ x) H us vs → (SqL g.K H p vs ∨ SqT g.K H p vs) →
      (match ixU us.length i with | some j => (us[j]?).map RV.v | none => none) = some r → wpAny (model X.prog X.w) X.A (subscriptTail value slice v u) (EP X pins σ Q) X.xe s := by
    rintro i us vs p rfl rfl d sq e
    cases e1 : ixU us.length i with
    | none => rw [e1] at e; cases e
    | some j =>
      rw [e1] at e
      cases e2 : us[j]? with
      | none => simp only [e2] at e; cases e
      | some w =>
        simp only [e2] at e
        cases e
        obtain ⟨v', h1, h2⟩ := d.get e2
        have at_ : atI vs i = some v' := atI_of (by rw [← d.len]; exact e1) h1
        have q' := q φ v' H Step.refl rep h2
        rcases sq with sq | sq
        · exact ix_list value slice pins s σ H _ _ v u Q I rx ry ⟨p, vs, i, v', rfl, rfl, by rw [hK]; exact sq, at_, q'⟩ hs
        · exact ix_tup value slice pins s σ H _ _ v u Q I rx ry ⟨p, vs, i, v', rfl, rfl, by rw [hK]; exact sq, at_, q'⟩ hs
  have seqs : ∀ i, b = .v (.int i) → (match seqS hh a with
    | some (_, xs) => match ixU xs.length i with
      | some j => (xs[j]?).map RV.v
      | none => none
    | none => none) = some r → wpAny (model X.prog X.w) X.A (subscriptTail value slice v u) (EP X pins σ Q) X.xe s := by
    rintro i rfl e
    cases e1 : seqS hh a with
    | none => rw [e1] at e; cases e
    | some p =>
      rw [e1] at e
      obtain ⟨p1, vs, e2, d, sq⟩ := seqA_ok rep da (b := p.1) (us := p.2) e1
      exact gen i p.2 vs p1 db e2 d sq e
  cases b with
  | r n => cases a <;> (try cases e) <;> (rename_i ua; cases ua <;> cases e)
  | v ub =>
    cases ub with
    | int i =>
      cases a with
      | r n => exact seqs i rfl e
      | v ua =>
        cases ua with
        | str z =>
          simp only [idxS] at e
          split at e
          · rename_i hl
            cases e1 : ixU z.cps.toList.length i with
            | none => rw [e1] at e; cases e
            | some j =>
              rw [e1] at e
              cases e2 : z.cps.toList[j]? with
              | none => simp only [e2] at e; cases e
              | some c =>
                simp only [e2] at e
                cases e
                exact ix_str value slice pins s σ H _ _ v u Q I rx ry ⟨z, i, c, da, db, by rw [← lim_eq]; exact hl, atI_of e1 e2, q φ _ H Step.refl rep rfl⟩ hs
          · cases e
        | frz us =>
          obtain ⟨p, vs, e2, d, sq⟩ := frz_ok da
          exact gen i us vs p db e2 d (.inl sq) e
        | _ => exact seqs i rfl e
    | _ => cases a <;> (try cases e) <;> (rename_i ua; cases ua <;> cases e)

/-- a slice's reading -/
def rSl (g : GS) : V → Option Int → Option Int → Hp → VK → Prop := fun a lo hi H Q => ∃ x φ h s, RepH g x φ h H ∧ DenS g x φ H s a ∧
  ∃ r, slcS h s lo hi = some r ∧ ∀ φ' v H', Step φ H φ' H' → RepH g x φ' h H' → KV g x H r h φ' v H' → Q v H'
theorem cut_len {α β : Type} {xs : List α} {ys : List β} (e : xs.length = ys.length) (lo hi : Option Int) : sIx xs.length 0 lo = sIx ys.length 0 lo ∧ sIx xs.length xs.length hi = sIx ys.length ys.length hi := by
  rw [e]
  exact ⟨rfl, rfl⟩
theorem DenL.cut {o : Addr → Prop} {H : Hp} {us : List U} {vs : List V} (h : DenL g o H us vs) (lo hi : Option Int) : DenL g o H (cut us lo hi) (cutV vs lo hi) := by
  unfold VM.cut cutV
  rw [show HT.sIx vs.length 0 lo = sIx vs.length 0 lo from rfl, show HT.sIx vs.length vs.length hi = sIx vs.length vs.length hi from rfl, h.len]
  exact (h.drop _).take _
theorem sl_ok (hK : X.K = g.K) : SlR X (rSl g) := by
  intro pins s σ H xv v vl vu lo hi sl Q I rx hs pl pu h
  obtain ⟨x, φ, hh, a, rep, da, r, e, q⟩ := h
  have lst : ∀ (p : Addr) (us : List U) (vs : List V), xv = .ref p → DenL g (ow φ x) H us vs → SqL g.K H p vs → r = .nw (.lst (cut us lo hi)) → ∃ T id, typeLookup (.type T) "__getitem__" = pure (some (.builtin id)) ∧ s.TypeIs v T ∧ wpAny (model X.prog X.w) X.A (getItem v (.ref sl)) (EP X pins σ Q) X.xe s := by
    rintro p us vs rfl d sq rfl
    refine sl_list pins s σ H _ v vl vu lo hi sl Q I rx hs pl pu ⟨p, vs, rfl, by rw [hK]; exact sq, fun p' hp => ?_⟩
    obtain ⟨k1, k2, k3⟩ := new_lst rep hp (d.cut lo hi)
    exact q φ _ _ k1 k2 k3
  have seqs : (match seqS hh a with
    | some (true, xs) => some (RV.nw (.lst (cut xs lo hi)))
    | some (false, xs) => some (.v (.tup (cut xs lo hi)))
    | none => none) = some r → ∃ T id, typeLookup (.type T) "__getitem__" = pure (some (.builtin id)) ∧ s.TypeIs v T ∧ wpAny (model X.prog X.w) X.A (getItem v (.ref sl)) (EP X pins σ Q) X.xe s := by
    intro e
    cases e1 : seqS hh a with
    | none => rw [e1] at e; cases e
    | some p =>
      obtain ⟨b, us⟩ := p
      rw [e1] at e
      cases b
      · cases e
        obtain ⟨p, vs, rfl, d, t⟩ := seqT_ok rep da e1
        refine sl_tupA pins s σ H _ v vl vu lo hi sl Q I rx hs pl pu ⟨p, vs, rfl, by rw [hK]; exact t.sq, fun z => ?_, fun _ p' hp => ?_⟩
        · refine q φ _ H Step.refl rep ⟨p, vs, rfl, t, ?_⟩
          have e3 : cut us lo hi = us := by
            unfold cut
            have z1 : sIx us.length 0 lo = 0 := by rw [d.len]; exact z.1
            have z2 : sIx us.length us.length hi = us.length := by
              have := z.2
              rw [← d.len] at this
              exact this
            rw [z1, z2]
            simp
          rw [e3]
          exact d
        · obtain ⟨k1, k2, k3⟩ := new_tup rep hp (d.cut lo hi)
          exact q φ _ _ k1 k2 k3
      · cases e
        obtain ⟨p, vs, e2, d, t⟩ := seqL_ok rep da e1
        exact lst p us vs e2 d (.inl (.inl t)) rfl
  cases a with
  | r n => exact seqs e
  | v ua =>
    cases ua with
    | str z =>
      simp only [slcS] at e
      split at e
      · rename_i hl
        cases e
        exact sl_str pins s σ H _ v vl vu lo hi sl Q I rx hs pl pu ⟨z, da, by rw [← lim_eq]; exact hl, q φ _ H Step.refl rep rfl⟩
      · cases e
    | frz us =>
      obtain ⟨p, vs, e2, d, sq⟩ := frz_ok da
      exact lst p us vs e2 d sq (Option.some.inj e).symm
    | _ => exact seqs e

/-! ### built-in calls -/
def rCB (g : GS) (f : Hs → List S → Option RV) : List V → Hp → VK → Prop := fun vs H Q => ∃ x φ h ss, RepH g x φ h H ∧ DenSs g x φ H ss vs ∧
  ∃ r, f h ss = some r ∧ ∀ φ' v H', Step φ H φ' H' → RepH g x φ' h H' → KV g x H r h φ' v H' → Q v H'
theorem ss1 {x : Addr → Prop} {φ : Phi} {H : Hp} {s : S} {vs : List V} (h : DenSs g x φ H [s] vs) : ∃ v, vs = [v] ∧ DenS g x φ H s v := by
  obtain ⟨w, ws, rfl, d, e⟩ := h
  rw [show ws = [] from e]
  exact ⟨w, rfl, d⟩
theorem ss2 {x : Addr → Prop} {φ : Phi} {H : Hp} {s t : S} {vs : List V} (h : DenSs g x φ H [s, t] vs) : ∃ v w, vs = [v, w] ∧ DenS g x φ H s v ∧ DenS g x φ H t w := by
  obtain ⟨w, ws, rfl, d, h⟩ := h
  obtain ⟨w', rfl, d'⟩ := ss1 h
  exact ⟨w, w', rfl, d, d'⟩
theorem maxI_ge : ∀ (r : List Int) (i : Int), i ≤ maxI i r ∧ ∀ j ∈ r, j ≤ maxI i r
  | [], i => ⟨Int.le_refl _, fun j h => by cases h⟩
  | k :: r, i => by
    have hm : i ≤ (if i < k then k else i) ∧ k ≤ (if i < k then k else i) := by split <;> omega
    obtain ⟨h1, h2⟩ := maxI_ge r (if i < k then k else i)
    refine ⟨Int.le_trans hm.1 h1, fun j hj => ?_⟩
    rcases List.mem_cons.mp hj with rfl | hj
    · exact Int.le_trans hm.2 h1
    · exact h2 j hj
theorem maxI_mem : ∀ (r : List Int) (i : Int), maxI i r ∈ i :: r
  | [], i => by simp [maxI]
  | k :: r, i => by
    have := maxI_mem r (if i < k then k else i)
    show maxI (if i < k then k else i) r ∈ i :: k :: r
    rcases List.mem_cons.mp this with h | h
    · rw [h]
      split <;> simp
    · simp [h]
theorem minI_le : ∀ (r : List Int) (i : Int), minI i r ≤ i ∧ ∀ j ∈ r, minI i r ≤ j
  | [], i => ⟨Int.le_refl _, fun j h => by cases h⟩
  | k :: r, i => by
    have hm : (if k < i then k else i) ≤ i ∧ (if k < i then k else i) ≤ k := by split <;> omega
    obtain ⟨h1, h2⟩ := minI_le r (if k < i then k else i)
    refine ⟨Int.le_trans h1 hm.1, fun j hj => ?_⟩
    rcases List.mem_cons.mp hj with rfl | hj
    · exact Int.le_trans h1 hm.2
    · exact h2 j hj
theorem minI_mem : ∀ (r : List Int) (i : Int), minI i r ∈ i :: r
  | [], i => by simp [minI]
  | k :: r, i => by
    have := minI_mem r (if k < i then k else i)
    show minI (if k < i then k else i) r ∈ i :: k :: r
    rcases List.mem_cons.mp this with h | h
    · rw [h]
      split <;> simp
    · simp [h]

def bid : BI → Value
  | .len => .builtin "len" | .tuple => .type "tuple" | .list => .type "list" | .all => .builtin "all" | .any => .builtin "any" | .sum => .builtin "sum"
  | .max => .builtin "max" | .min => .builtin "min" | .abs => .builtin "abs" | .int => .type "int" | .str => .type "str" | .sorted => .builtin "sorted" | .range => .type "range" | .intL => .type "int"
theorem one1_ok {α : Type} {f : S → Option α} {ss : List S} {r : α} (e : one1 f ss = some r) : ∃ s, ss = [s] ∧ f s = some r := by
  cases ss with
  | nil => cases e
  | cons s t =>
    cases t with
    | nil => exact ⟨s, rfl, e⟩
    | cons _ _ => cases e
theorem two2_ok {f : S → Option RV} {k : Int → Int → Int} {ss : List S} {r : RV} (e : two2 f k ss = some r) : (∃ s, ss = [s] ∧ f s = some r) ∨ ∃ i j, ss = [.v (.int i), .v (.int j)] ∧ r = .v (.int (k i j)) := by
  cases ss with
  | nil => cases e
  | cons s t =>
    cases t with
    | nil => exact .inl ⟨s, rfl, e⟩
    | cons s2 t =>
      cases t with
      | cons _ _ => cases e
      | nil =>
        cases s with
        | r n => cases e
        | v u1 =>
          cases u1 with
          | int i =>
            cases s2 with
            | r n => cases e
            | v u2 =>
              cases u2 with
              | int j => cases e; exact .inr ⟨i, j, rfl, rfl⟩
              | _ => cases e
          | _ => cases e
theorem blsB_ok {x : Addr → Prop} {φ : Phi} {h : Hs} {H : Hp} {f : List Bool → Bool} {s : S} {v : V} {r : RV} (rep : RepH g x φ h H) (d : DenS g x φ H s v) (e : blsB h f s = some r) : ∃ a bs, v = .ref a ∧ SqL g.K H a (bs.map V.bl) ∧ r = .v (.bl (f bs)) := by
  unfold blsB at e
  cases e1 : seqS h s with
  | none => rw [e1] at e; cases e
  | some p =>
    obtain ⟨b, ws⟩ := p
    rw [e1] at e
    cases b with
    | false => cases e
    | true =>
      cases e2 : blsU ws with
      | none => simp only [e2] at e; cases e
      | some bs =>
        simp only [e2] at e
        cases e
        obtain ⟨a, vs, rfl, d2, t⟩ := seqL_ok rep d e1
        have := d2.bls e2
        subst this
        exact ⟨a, bs, rfl, .inl (.inl t), rfl⟩
theorem extB_ok {x : Addr → Prop} {φ : Phi} {h : Hs} {H : Hp} {f : Int → List Int → Int} {s : S} {v : V} {r : RV} (rep : RepH g x φ h H) (d : DenS g x φ H s v) (e : extB h f s = some r) : ∃ a i bs, v = .ref a ∧ SqL g.K H a ((i :: bs).map V.int) ∧ r = .v (.int (f i bs)) := by
  unfold extB at e
  cases e1 : seqS h s with
  | none => rw [e1] at e; cases e
  | some p =>
    obtain ⟨b, ws⟩ := p
    rw [e1] at e
    cases b with
    | false => cases e
    | true =>
      cases e2 : intsU ws with
      | none => simp only [e2] at e; cases e
      | some bs =>
        cases bs with
        | nil => simp only [e2] at e; cases e
        | cons i bs =>
          simp only [e2] at e
          cases e
          obtain ⟨a, vs, rfl, d2, t⟩ := seqL_ok rep d e1
          have := d2.ints e2
          subst this
          exact ⟨a, i, bs, rfl, .inl (.inl t), rfl⟩
theorem blt_ok (hK : X.K = g.K) (hc : X.calm = true) (b : BI) (hD : b = .intL → PySem.W.nsIn X.K cStatics "sys.int_max_str_digits" = some none) : CallR X (bid b) (rCB g (bltS b)) := by
  intro pins s σ H vs us Q I r h
  obtain ⟨x, φ, hh, ss, rep, ds, rv, e, q⟩ := h
  cases b with
  | len =>
    replace e := one1_ok e
    obtain ⟨s1, rfl, e⟩ := e
    obtain ⟨v, rfl, d⟩ := ss1 ds
    have gen : ((seqAll hh s1).map fun p => RV.v (.int p.2.length)) = some rv → wpAny (model X.prog X.w) X.A (call (bid .len) us) (EP X pins σ Q) X.xe s := by
      intro e
      cases e1 : seqAll hh s1 with
      | none => rw [e1] at e; cases e
      | some p =>
        rw [e1] at e
        cases e
        obtain ⟨b, ws⟩ := p
        have got : ∃ a vs, v = .ref a ∧ DenL g (ow φ x) H ws vs ∧ (SqL g.K H a vs ∨ SqT g.K H a vs) := by
          cases s1 with
          | r n => exact seqA_ok rep d (b := b) e1
          | v u =>
            cases u with
            | frz xs =>
              cases e1
              obtain ⟨a, vs, h1, h2, h3⟩ := frz_ok d
              exact ⟨a, vs, h1, h2, .inl h3⟩
            | _ => exact seqA_ok rep d (b := b) e1
        obtain ⟨a, vs, rfl, d2, sq⟩ := got
        refine call_len_seq pins s σ H _ us Q I r ⟨a, vs, rfl, by rw [hK]; exact sq, q φ _ H Step.refl rep ?_⟩
        show V.int _ = .int _
        rw [d2.len]
    cases s1 with
    | r n => exact gen e
    | v u =>
      cases u with
      | str z =>
        unfold lenB at e
        simp only at e
        split at e
        · rename_i hl
          cases e
          exact call_len_str pins s σ H _ us Q I r ⟨z, by rw [show v = .str z from d], by rw [← lim_eq]; exact hl, q φ _ H Step.refl rep rfl⟩
        · cases e
      | _ => exact gen e
  | tuple =>
    replace e := one1_ok e
    obtain ⟨s1, rfl, e⟩ := e
    obtain ⟨v, rfl, d⟩ := ss1 ds
    cases e1 : seqS hh s1 with
    | none => rw [e1] at e; cases e
    | some p =>
      rw [e1] at e
      cases e
      obtain ⟨b, ws⟩ := p
      cases b with
      | true =>
        obtain ⟨a, vs, rfl, d2, t⟩ := seqL_ok rep d e1
        refine call_tuple_of pins s σ H _ us Q I r ⟨a, vs, rfl, .inl ⟨.inl (.inl t), fun p hp => ?_⟩⟩
        obtain ⟨k1, k2, k3⟩ := new_tup rep hp d2
        exact q φ _ _ k1 k2 k3
      | false =>
        obtain ⟨a, vs, rfl, d2, t⟩ := seqT_ok rep d e1
        exact call_tuple_of pins s σ H _ us Q I r ⟨a, vs, rfl, .inr ⟨by rw [hK]; exact t.sq, q φ _ H Step.refl rep ⟨a, vs, rfl, t, d2⟩⟩⟩
  | list =>
    replace e := one1_ok e
    obtain ⟨s1, rfl, e⟩ := e
    obtain ⟨v, rfl, d⟩ := ss1 ds
    cases e1 : seqS hh s1 with
    | none => rw [e1] at e; cases e
    | some p =>
      rw [e1] at e
      cases e
      obtain ⟨a, vs, rfl, d2, sq⟩ := seqA_ok rep d (b := p.1) (us := p.2) e1
      refine call_list_of pins s σ H _ us Q I r ⟨a, vs, rfl, by rw [hK]; exact sq, fun p hp => ?_⟩
      obtain ⟨k1, k2, k3⟩ := new_lst rep hp d2
      exact q φ _ _ k1 k2 k3
  | all =>
    replace e := one1_ok e
    obtain ⟨s1, rfl, e⟩ := e
    obtain ⟨v, rfl, d⟩ := ss1 ds
    obtain ⟨a, bs, rfl, sq, rfl⟩ := blsB_ok rep d e
    exact cr_all hc pins s σ H _ us Q I r ⟨a, bs, rfl, by rw [hK]; exact sq, q φ _ H Step.refl rep rfl⟩
  | any =>
    replace e := one1_ok e
    obtain ⟨s1, rfl, e⟩ := e
    obtain ⟨v, rfl, d⟩ := ss1 ds
    obtain ⟨a, bs, rfl, sq, rfl⟩ := blsB_ok rep d e
    exact cr_any hc pins s σ H _ us Q I r ⟨a, bs, rfl, by rw [hK]; exact sq, q φ _ H Step.refl rep rfl⟩
  | sum =>
    replace e := one1_ok e
    obtain ⟨s1, rfl, e⟩ := e
    obtain ⟨v, rfl, d⟩ := ss1 ds
    cases e1 : seqS hh s1 with
    | none => rw [e1] at e; cases e
    | some p =>
      obtain ⟨b, ws⟩ := p
      rw [e1] at e
      cases b with
      | false => cases e
      | true =>
        cases e2 : intsU ws with
        | none => simp only [e2] at e; cases e
        | some bs =>
          simp only [e2] at e
          cases e
          obtain ⟨a, vs, rfl, d2, t⟩ := seqL_ok rep d e1
          have := d2.ints e2
          subst this
          exact cr_sum hc pins s σ H _ us Q I r ⟨a, bs, rfl, .inl (.inl t), q φ _ H Step.refl rep rfl⟩
  | max =>
    replace e := two2_ok e
    rcases e with ⟨s1, rfl, e⟩ | ⟨i, j, rfl, rfl⟩
    · obtain ⟨v, rfl, d⟩ := ss1 ds
      obtain ⟨a, i, bs, rfl, sq, rfl⟩ := extB_ok rep d e
      refine cr_max hc pins s σ H _ us Q I r ⟨a, i :: bs, rfl, by rw [hK]; exact sq, by simp, fun m hm hle => ?_⟩
      have e3 : m = maxI i bs := by
        have h1 := hle _ (maxI_mem bs i)
        have h2 : m ≤ maxI i bs := by
          rcases List.mem_cons.mp hm with rfl | hm
          · exact (maxI_ge bs m).1
          · exact (maxI_ge bs i).2 m hm
        omega
      rw [e3]
      exact q φ _ H Step.refl rep rfl
    · obtain ⟨v, w, rfl, d1, d2⟩ := ss2 ds
      exact call_max2 hc pins s σ H _ us Q I r ⟨i, j, by rw [show v = .int i from d1, show w = .int j from d2], q φ _ H Step.refl rep rfl⟩
  | min =>
    replace e := two2_ok e
    rcases e with ⟨s1, rfl, e⟩ | ⟨i, j, rfl, rfl⟩
    · obtain ⟨v, rfl, d⟩ := ss1 ds
      obtain ⟨a, i, bs, rfl, sq, rfl⟩ := extB_ok rep d e
      refine cr_min hc pins s σ H _ us Q I r ⟨a, i :: bs, rfl, by rw [hK]; exact sq, by simp, fun m hm hle => ?_⟩
      have e3 : m = minI i bs := by
        have h1 := hle _ (minI_mem bs i)
        have h2 : minI i bs ≤ m := by
          rcases List.mem_cons.mp hm with rfl | hm
          · exact (minI_le bs m).1
          · exact (minI_le bs i).2 m hm
        omega
      rw [e3]
      exact q φ _ H Step.refl rep rfl
    · obtain ⟨v, w, rfl, d1, d2⟩ := ss2 ds
      exact call_min2 hc pins s σ H _ us Q I r ⟨i, j, by rw [show v = .int i from d1, show w = .int j from d2], q φ _ H Step.refl rep rfl⟩
  | abs =>
    replace e := one1_ok e
    obtain ⟨s1, rfl, e⟩ := e
    obtain ⟨v, rfl, d⟩ := ss1 ds
    cases s1 with
    | r n => cases e
    | v u =>
      cases u with
      | int i =>
        cases e
        exact call_abs pins s σ H _ us Q I r ⟨i, by rw [show v = .int i from d], q φ _ H Step.refl rep rfl⟩
      | _ => cases e
  | int =>
    replace e := one1_ok e
    obtain ⟨s1, rfl, e⟩ := e
    obtain ⟨v, rfl, d⟩ := ss1 ds
    cases s1 with
    | r n => cases e
    | v u =>
      cases u with
      | int i =>
        cases e
        exact call_int1 pins s σ H _ us Q I r (.inl ⟨i, by rw [show v = .int i from d], q φ _ H Step.refl rep rfl⟩)
      | bl b =>
        cases e
        exact call_int1 pins s σ H _ us Q I r (.inr ⟨b, by rw [show v = .bl b from d], q φ _ H Step.refl rep rfl⟩)
      | str z =>
        unfold intB at e
        simp only at e
        split at e
        · rename_i hl
          cases e2 : PySem.intText? z with
          | none => rw [e2] at e; cases e
          | some n =>
            rw [e2] at e
            cases e
            exact call_int_str pins s σ H _ us Q I r ⟨z, n, by rw [show v = .str z from d], e2, hl, q φ _ H Step.refl rep rfl⟩
        · cases e
      | _ => cases e
  | str =>
    replace e := one1_ok e
    obtain ⟨s1, rfl, e⟩ := e
    obtain ⟨v, rfl, d⟩ := ss1 ds
    cases s1 with
    | r n => cases e
    | v u =>
      cases u with
      | int i =>
        unfold strB at e
        simp only at e
        split at e
        · rename_i hl
          cases e
          exact call_str_int pins s σ H _ us Q I r ⟨i, by rw [show v = .int i from d], hl, q φ _ H Step.refl rep rfl⟩
        · cases e
      | _ => cases e
  | sorted => cases e
  | intL =>
    replace e := one1_ok e
    obtain ⟨s1, rfl, e⟩ := e
    obtain ⟨v, rfl, d⟩ := ss1 ds
    cases s1 with
    | r n => cases e
    | v u =>
      cases u with
      | str z =>
        unfold intLB at e
        simp only at e
        split at e
        · rename_i hl
          cases e2 : PySem.intText? z with
          | none => rw [e2] at e; cases e
          | some n =>
            rw [e2] at e
            cases e
            exact call_int_long (hD rfl) pins s σ H _ us Q I r ⟨z, n, by rw [show v = .str z from d], e2, hl, q φ _ H Step.refl rep rfl⟩
        · cases e
      | _ => cases e
  | range => cases e
end
end VM

/-! Methods of lists and texts, by values. -/
namespace VM
open PySem PySem.Spec PyProof.Rows L2
theorem disj : ∀ {φ : Phi} {n m : Nat} {l l' : OA} {a : Addr}, (φ.filterMap id).flatten.Nodup → φ[n]? = some (some l) → φ[m]? = some (some l') → a ∈ l → a ∈ l' → n = m
  | [], _, _, _, _, _, _, h, _, _, _ => by simp at h
  | o :: φ, n, m, l, l', a, nd, hn, hm, ha, hb => by
    have tail : (φ.filterMap id).flatten.Nodup := by
      cases o with
      | none => simpa using nd
      | some k =>
        have : (k ++ (φ.filterMap id).flatten).Nodup := by simpa using nd
        exact (List.nodup_append.mp this).2.1
    have apart : ∀ {k : OA} {j : Nat} {q : OA}, o = some k → φ[j]? = some (some q) → a ∈ k → a ∈ q → False := by
      intro k j q e hj h1 h2
      subst e
      have : (k ++ (φ.filterMap id).flatten).Nodup := by simpa using nd
      refine (List.nodup_append.mp this).2.2 a h1 a ?_ rfl
      exact List.mem_flatten.mpr ⟨q, List.mem_filterMap.mpr ⟨some q, List.mem_of_getElem? hj, rfl⟩, h2⟩
    cases n with
    | zero =>
      cases m with
      | zero => rfl
      | succ m => exact (apart (by simpa using hn) (by simpa using hm) ha hb).elim
    | succ n =>
      cases m with
      | zero => exact (apart (by simpa using hm) (by simpa using hn) hb ha).elim
      | succ m => exact congrArg Nat.succ (disj tail (by simpa using hn) (by simpa using hm) ha hb)
section
variable {g : GS} {x : Addr → Prop} {φ : Phi} {h : Hs} {H : Hp}
/-- an own list is written -/
theorem RepH.setL {n : Nat} {a : Addr} {ys : List U} {ws : List V} {ob : MO} (r : RepH g x φ h H) (e : φ[n]? = some (some [a])) (hob : (∃ ys', ob = .lst ys' ∧ ys' = ys) ∨ (∃ ys', ob = .lck ys' ∧ ys' = ys)) (d : DenL g (ow φ x) H ys ws) :
    RepH g x φ (h.set n ob) (upd H a (.lst ws)) ∧ Step φ H φ (upd H a (.lst ws)) := by
  have oa : own φ a := own_at e (by simp)
  have hne : H a ≠ none := r.there oa
  have same : ∀ b, ¬ own φ b → H b ≠ none → (upd H a (.lst ws)) b = H b := fun b nb _ => upd_ne (fun z => nb (z ▸ oa))
  have grow : ∀ b, H b ≠ none → (upd H a (.lst ws)) b ≠ none := fun b hb => by
    by_cases z : b = a
    · rw [z, upd_same]; simp
    · rw [upd_ne z]; exact hb
  have st : Step φ H φ (upd H a (.lst ws)) := ⟨same, grow, fun _ q => .inl q, Nat.le_refl _, fun _ _ _ q => q, fresh_le (Nat.le_refl _)⟩
  have kp := st.keep x
  refine ⟨⟨by rw [List.length_set]; exact r.len, fun m l em => ?_, fun m em => ?_, r.nd, r.apart, fun b hb => grow b (r.xs b hb)⟩, st⟩
  · by_cases hm : n = m
    · subst hm
      rw [e] at em
      cases em
      have hn : n < h.length := by rw [← r.len]; exact (List.getElem?_eq_some_iff.mp e).1
      refine ⟨ob, by rw [List.getElem?_set_self hn], ?_⟩
      rcases hob with ⟨ys', rfl, rfl⟩ | ⟨ys', rfl, rfl⟩
      · exact ⟨a, ws, rfl, upd_same, DenL.keep kp _ ws d⟩
      · exact ⟨a, ws, rfl, upd_same, DenL.keep kp _ ws d⟩
    · obtain ⟨ob', e1, q⟩ := r.at_ m l em
      refine ⟨ob', by rw [List.getElem?_set_ne hm]; exact e1, q.keep kp fun b hb => upd_ne (fun z => hm (disj r.nd e em (by simp) (z ▸ hb)))⟩
  · have hm : n ≠ m := fun z => by rw [← z, e] at em; cases em
    rw [List.getElem?_set_ne hm]
    exact r.dead m em
/-- an own list, found -/
theorem own_list {n : Nat} {us : List U} {v : V} (r : RepH g x φ h H) (d : DenS g x φ H (.r n) v) (e : h[n]? = some (.lst us)) : ∃ a vs, φ[n]? = some (some [a]) ∧ v = .ref a ∧ H a = some (.lst vs) ∧ DenL g (ow φ x) H us vs := by
  obtain ⟨hn, hv⟩ := d
  cases q : φ[n]? with
  | none => rw [List.getElem?_eq_none_iff] at q; omega
  | some w =>
    cases w with
    | none =>
      have := r.dead n q
      rw [e] at this
      cases this
    | some l =>
      obtain ⟨ob, e1, z⟩ := r.at_ n l q
      have hv := hv l q
      rw [e] at e1
      cases e1
      obtain ⟨a, vs, rfl, t, d⟩ := z
      exact ⟨a, vs, rfl, hv, t, d⟩
theorem onL_ok {o : S} {v : V} {f : Nat → List U → Option (RV × Hs)} {p : RV × Hs} (r : RepH g x φ h H) (d : DenS g x φ H o v) (e : onL h o f = some p) :
    ∃ n us a vs, o = .r n ∧ f n us = some p ∧ φ[n]? = some (some [a]) ∧ v = .ref a ∧ H a = some (.lst vs) ∧ DenL g (ow φ x) H us vs := by
  cases o with
  | v u => cases e
  | r n =>
    unfold onL at e
    simp only at e
    cases e1 : h[n]? with
    | none => rw [e1] at e; cases e
    | some ob =>
      rw [e1] at e
      cases ob with
      | lst us =>
        obtain ⟨a, vs, h1, h2, h3, h4⟩ := own_list r d e1
        exact ⟨n, us, a, vs, rfl, e, h1, h2, h3, h4⟩
      | _ => cases e
end
def mid : ME → String
  | .append => "list.append" | .extend => "list.extend" | .pop => "list.pop" | .index => "list.index" | .join => "str.join" | .split => "str.split"
def rMet (g : GS) (m : ME) : V → List V → Hp → VK → Prop := fun a vs H Q => ∃ x φ h s ss, RepH g x φ h H ∧ DenS g x φ H s a ∧ DenSs g x φ H ss vs ∧
  ∃ r h', metS m h s ss = some (r, h') ∧ ∀ φ' v H', Step φ H φ' H' → RepH g x φ' h' H' → KV g x H r h' φ' v H' → Q v H'
section
variable {X : Cx} {g : GS}
theorem ss0 {x : Addr → Prop} {φ : Phi} {H : Hp} {vs : List V} (h : DenSs g x φ H [] vs) : vs = [] := h
theorem toDs_get : ∀ {us : List U} {i : Nat} {u : U}, us[i]? = some u → (toDs us)[i]? = some (toD u)
  | [], _, _, h => by simp at h
  | u :: us, 0, _, h => by simp at h; subst h; rfl
  | u :: us, i + 1, w, h => by
    show (toDs us)[i]? = _
    exact toDs_get (by simpa using h)
theorem datL_get : ∀ {us : List U} {i : Nat} {u : U}, datL us = true → us[i]? = some u → u.dat = true
  | [], _, _, _, h => by simp at h
  | u :: us, 0, _, hd, h => by simp at h; subst h; exact (Bool.and_eq_true_iff.mp hd).1
  | u :: us, i + 1, w, hd, h => datL_get (Bool.and_eq_true_iff.mp hd).2 (by simpa using h)
theorem findU_ok {u : U} : ∀ {us : List U} {j : Nat}, findU u us = some j → (∃ z, us[j]? = some z ∧ eqU z u = true) ∧ ∀ m z, m < j → us[m]? = some z → eqU z u = false
  | [], _, h => by cases h
  | y :: ys, j, h => by
    unfold findU at h
    split at h
    · rename_i hy
      cases h
      exact ⟨⟨y, rfl, hy⟩, fun m z hm => by omega⟩
    · rename_i hy
      cases e : findU u ys with
      | none => rw [e] at h; cases h
      | some k =>
        rw [e] at h
        cases h
        obtain ⟨⟨z, h1, h2⟩, h3⟩ := findU_ok e
        refine ⟨⟨z, by simpa using h1, h2⟩, fun m z' hm hz => ?_⟩
        cases m with
        | zero =>
          simp at hz
          subst hz
          simpa using hy
        | succ m => exact h3 m z' (Nat.lt_of_succ_lt_succ hm) (by simpa using hz)
theorem ixN_seqI {n : Nat} {i : Int} {j : Nat} (h : ixU n i = some j) : seqIndex? i n = some j ∧ j < n ∧ -(n : Int) ≤ i ∧ i < n := ixN_seq h
theorem met_ok (hK : X.K = g.K) (hu : X.A.units + 65 < cLine) (m : ME) : MtR X (mid m) (rMet g m) := by
  intro pins s σ H xv vs v us Q I rx r h
  obtain ⟨x, φ, hh, o, ss, rep, d, ds, rv, h', e, q⟩ := h
  cases m with
  | append =>
    replace e : appM hh o ss = some (rv, h') := e
    unfold appM at e
    split at e
    · rename_i u
      obtain ⟨w, rfl, dw⟩ := ss1 ds
      obtain ⟨n, ws, a, vs, rfl, e, h1, rfl, h3, h4⟩ := onL_ok rep d e
      split at e
      · rename_i hl
        cases e
        obtain ⟨k1, k2⟩ := rep.setL h1 (.inl ⟨_, rfl, rfl⟩) (h4.snoc dw)
        exact mt_append pins s σ H _ _ v us Q I rx r ⟨a, vs, w, rfl, rfl, h3, by rw [← lim_eq, ← h4.len]; exact hl, q φ .non _ k2 k1 rfl⟩
      · cases e
    · cases e
  | extend =>
    replace e : extM hh o ss = some (rv, h') := e
    unfold extM at e
    split at e
    · rename_i s1
      obtain ⟨w, rfl, dw⟩ := ss1 ds
      obtain ⟨n, ws, a, vs, rfl, e, h1, rfl, h3, h4⟩ := onL_ok rep d e
      cases e1 : seqS hh s1 with
      | none => rw [e1] at e; cases e
      | some p =>
        obtain ⟨b, ys⟩ := p
        rw [e1] at e
        cases b with
        | false => cases e
        | true =>
          simp only at e
          split at e
          · rename_i hl
            cases e
            obtain ⟨b, ws', rfl, d2, t2⟩ := seqL_ok rep dw e1
            obtain ⟨k1, k2⟩ := rep.setL h1 (.inl ⟨_, rfl, rfl⟩) (h4.app d2)
            exact mt_extend pins s σ H _ _ v us Q I rx r ⟨a, b, vs, ws', rfl, rfl, h3, t2, by rw [← lim_eq, ← h4.len, ← d2.len]; exact hl, q φ .non _ k2 k1 rfl⟩
          · cases e
    · cases e
  | pop =>
    replace e : popM hh o ss = some (rv, h') := e
    unfold popM at e
    split at e
    · rw [ss0 ds] at r
      obtain ⟨n, ws, a, vs', rfl, e, h1, rfl, h3, h4⟩ := onL_ok rep d e
      cases e1 : ws[ws.length - 1]? with
      | none => simp only [e1] at e; cases e
      | some u =>
        simp only [e1] at e
        cases e
        obtain ⟨y, hy, dy⟩ := h4.get e1
        have dl : DenL g (ow φ x) H ws.dropLast vs'.dropLast := by
          rw [List.dropLast_eq_take, List.dropLast_eq_take, h4.len]
          exact h4.take _
        obtain ⟨k1, k2⟩ := rep.setL h1 (.inl ⟨_, rfl, rfl⟩) dl
        exact mt_pop pins s σ H _ _ v us Q I rx r ⟨a, vs', y, rfl, rfl, h3, by rw [← h4.len]; exact hy, q φ y _ k2 k1 (Den.keep (k2.keep x) _ _ dy)⟩
    · rename_i i
      obtain ⟨w, rfl, dw⟩ := ss1 ds
      obtain ⟨n, ws, a, vs', rfl, e, h1, rfl, h3, h4⟩ := onL_ok rep d e
      split at e
      · rename_i hl
        cases e1 : ixU ws.length i with
        | none => simp only [e1] at e; cases e
        | some j =>
          simp only [e1] at e
          cases e2 : ws[j]? with
          | none => simp only [e2] at e; cases e
          | some u =>
            simp only [e2] at e
            cases e
            obtain ⟨y, hy, dy⟩ := h4.get e2
            obtain ⟨i1, i2, i3, i4⟩ := ixN_seqI e1
            have hl' : ws.length ≤ 16777216 := hl
            obtain ⟨k1, k2⟩ := rep.setL h1 (.inl ⟨_, rfl, rfl⟩) (h4.erase j)
            exact mt_popAt pins s σ H _ _ v us Q I rx r ⟨a, vs', i, j, y, rfl, by rw [show w = .int i from dw], h3, by omega, by omega, by rw [← h4.len]; exact i1, hy, q φ y _ k2 k1 (Den.keep (k2.keep x) _ _ dy)⟩
      · cases e
    · cases e
  | index =>
    replace e : idxM hh o ss = some (rv, h') := e
    unfold idxM at e
    split at e
    · rename_i u
      obtain ⟨w, rfl, dw⟩ := ss1 ds
      cases e1 : seqS hh o with
      | none => rw [e1] at e; cases e
      | some p =>
        obtain ⟨b, ys⟩ := p
        rw [e1] at e
        cases b with
        | false => cases e
        | true =>
          simp only at e
          split at e
          · rename_i hsh
            obtain ⟨b1, b2⟩ := Bool.and_eq_true_iff.mp hsh
            obtain ⟨t1, t2⟩ := shp_ok b1
            obtain ⟨t3, t4⟩ := shp_ok b2
            cases e2 : findU u ys with
            | none => rw [e2] at e; cases e
            | some j =>
              rw [e2] at e
              cases e
              obtain ⟨a, vs', rfl, d2, q2⟩ := seqL_ok rep d e1
              obtain ⟨⟨z, z1, z2⟩, z3⟩ := findU_ok e2
              have dys : datL ys = true := t3
              refine mt_indexD hu pins s σ H _ _ v us Q I rx r ⟨a, w, toD u, toDs ys, j, toD z, rfl, rfl, by rw [hK]; exact .lst (.inl (.inl q2)) (DenL.dp ys vs' dys d2), by rw [hK]; exact Den.dp u w t1 dw, t4, t2, toDs_get z1, ?_, fun m z' hm hz => ?_, q φ (.int j) H Step.refl rep rfl⟩
              · rw [← eqU_ok z u (datL_get dys z1) t1]
                exact z2
              · have hlen : (toDs ys).length = ys.length := by rw [toDs_map, List.length_map]
                have hm' : m < ys.length := by
                  have := (List.getElem?_eq_some_iff.mp hz).1
                  omega
                have g1 : ys[m]? = some ys[m] := List.getElem?_eq_getElem hm'
                have g2 := toDs_get g1
                rw [hz] at g2
                cases g2
                rw [← eqU_ok _ u (datL_get dys g1) t1]
                exact z3 m _ hm g1
          · cases e
    · cases e
  | join =>
    replace e : joinM hh o ss = some (rv, h') := e
    unfold joinM at e
    split at e
    · rename_i s1
      obtain ⟨w, rfl, dw⟩ := ss1 ds
      split at e
      · rename_i z
        cases e1 : seqS hh s1 with
        | none => rw [e1] at e; cases e
        | some p =>
          obtain ⟨b, ys⟩ := p
          rw [e1] at e
          simp only at e
          cases e2 : strsU ys with
          | none => rw [e2] at e; cases e
          | some zs =>
            rw [e2] at e
            simp only at e
            split at e
            · rename_i hl
              cases e
              obtain ⟨a, vs', rfl, d2, sq⟩ := seqA_ok rep dw e1
              have := d2.strs e2
              subst this
              exact mt_join pins s σ H _ _ v us Q I rx r ⟨z, a, zs, d, rfl, by rw [hK]; exact sq, hl, q φ _ H Step.refl rep rfl⟩
            · cases e
      · cases e
    · cases e
  | split =>
    replace e : splM hh o ss = some (rv, h') := e
    unfold splM at e
    split at e
    · rename_i b
      obtain ⟨w, rfl, dw⟩ := ss1 ds
      split at e
      · rename_i z
        split at e
        · rename_i hl
          cases e
          refine mt_split pins s σ H _ _ v us Q I rx r ⟨z, b, d, by rw [show w = .str b from dw], hl.1, by rw [← lim_eq]; exact hl.2, fun p hp => ?_⟩
          obtain ⟨k1, k2, k3⟩ := new_lst (us := (Txt.split z b).map .str) rep hp (DenL.map (f := U.str) (f' := V.str) (fun a => rfl) _)
          exact q φ _ _ k1 k2 k3
        · cases e
      · cases e
    · cases e
end
end VM

/-! Expressions, one by one: what the evaluator's parts read as. -/
namespace VM
open PySem PySem.Spec PyProof.Rows L2
theorem Step.skip {φ φ' : Phi} {H H' : Hp} {l : OA} (st : Step φ H φ' H') (hl : ∀ a ∈ l, H a = none) : Step φ H (φ' ++ [some l]) H' :=
  ⟨st.same, st.grow, fun a q => (own_app.mp q).elim (st.owns a) fun q => .inr (hl a q), by rw [List.length_append]; exact Nat.le_trans st.len (Nat.le_add_right _ _), fun n m hn hm => by
    rw [List.getElem?_append_left (Nat.lt_of_lt_of_le hn st.len)] at hm
    exact st.back n m hn hm, fun n m hn hm a ha => by
    by_cases q : n < φ'.length
    · rw [List.getElem?_append_left q] at hm
      exact st.fresh n m hn hm a ha
    · have hlt := (List.getElem?_eq_some_iff.mp hm).1
      rw [List.length_append] at hlt
      have : n = φ'.length := by simp at hlt; omega
      subst this
      simp at hm
      subst hm
      exact hl a ha⟩
section
variable {X : Cx} {g : GS} {W : WX} {e ea eb ec : Expr} {f k l : EvE} {pos : Pos}
abbrev rdE (g : GS) (W : WX) (f : EvE) : TE := RD g W KV f
abbrev rdS (g : GS) (W : WX) (f : Rho → Hs → Rs S) : TE := RD g W KS f
abbrev rdB (g : GS) (W : WX) (f : Rho → Hs → Rs Bool) : TT := RD g W KB f
abbrev rdL (g : GS) (W : WX) (f : EvL) : TA := RD g W KL f

/-- a run that hands its state on -/
theorem RD.bind {α β γ δ : Type} {P : Kd α β} {R : Kd γ δ} (m : P.Mono) {f : Rho → Hs → Rs γ} {k : Rho → γ → Hs → Rs α} {σ : L2.St} {H : Hp} {Q : β → Hp → Prop} {x : Addr → Prop} {φ : Phi} {ρ : Rho} {h : Hs}
    (rs : RelS g x φ H ρ σ) (rep : RepH g x φ h H) (c : Cond g x W P σ Q φ H ((f ρ h).bind (k ρ))) {Q' : δ → Hp → Prop}
    (next : ∀ (b : δ) (H1 : Hp) (φ1 : Phi) (h1 : Hs) (a : γ), Step φ H φ1 H1 → RelS g x φ1 H1 ρ σ → RepH g x φ1 h1 H1 → R g x H a h1 φ1 b H1 → Cond g x W P σ Q φ1 H1 (k ρ a h1) → Q' b H1) : RD g W R f σ H Q' :=
  ⟨x, φ, ρ, h, rs, rep, Cond.mono (fun b H1 ⟨φ1, h1, a, s1, rs1, rep1, p1, c1⟩ => next b H1 φ1 h1 a s1 rs1 rep1 p1 c1) (Cond.bind m rs c)⟩

/-- as an item -/
theorem pe_s (h : PE X e (rdE g W f)) : PE X e (rdS g W (sE f)) := PE.imp h fun σ H Q ⟨x, φ, ρ, h, rs, rep, c⟩ => by
  refine ⟨x, φ, ρ, h, rs, rep, ?_⟩
  have c : Cond g x W KS σ Q φ H ((f ρ h).bind fun r h => oneS h r) := c
  cases e1 : f ρ h with
  | bad => rw [e1] at c; exact c
  | ex z h1 => rw [e1] at c; exact c
  | ok r h1 =>
    rw [e1] at c
    intro φ' v H' st rep' p
    obtain ⟨s, e2, q⟩ := Cond.ofO (show Cond g x W KS σ Q φ H (ofO h1 r.s) from c)
    exact q φ' v H' st rep' (KV.s p e2)

theorem pe_lit {u : U} {v : V} (h : PE X e (tC v)) (d : ∀ o H, Den g o H u v) : PE X e (rdE g W fun _ h => .ok (.v u) h) := PE.imp h fun σ H Q ⟨x, φ, ρ, h, rs, rep, c⟩ => c φ v H Step.refl rep (d _ _)
theorem pe_vv {i : Nat} (h : PE X e (tVar i)) : PE X e (rdE g W (vVar i)) := PE.imp h fun σ H Q ⟨x, φ, ρ, h, rs, rep, c⟩ => by
  unfold vVar at c
  cases e1 : ρ[i]? with
  | none => rw [e1] at c; exact c.elim
  | some o =>
    cases o with
    | none => rw [e1] at c; exact c.elim
    | some s =>
      obtain ⟨v, e2, d⟩ := rs.at_ i s e1
      refine ⟨v, e2, ?_⟩
      cases s with
      | v u => rw [e1] at c; exact c φ v H Step.refl rep d
      | r n => rw [e1] at c; exact c φ v H Step.refl rep d
theorem pe_nr (h : PE X e (rdE g W f)) : PE X e (rdE g W (vNr f)) := PE.imp h fun σ H Q ⟨x, φ, ρ, h, rs, rep, c⟩ => by
  simp only [vNr] at c
  refine ⟨x, φ, ρ, h, rs, rep, ?_⟩
  cases e1 : f ρ h with
  | bad => rw [e1] at c; exact c
  | ex z h1 => rw [e1] at c; exact c
  | ok r h1 =>
    rw [e1] at c
    intro φ' v H' st rep' p
    cases r with
    | v u => exact c.elim
    | r n => exact c φ' v H' st rep' p
    | nw ob =>
      obtain ⟨l, rp, hv, hl⟩ := p
      have hlen : φ'.length = h1.length := rep'.len
      refine c (φ' ++ [some l]) v H' (st.skip hl) rp ⟨?_, fun m hm => ?_⟩
      · rw [List.length_append, hlen]
        simp
      · rw [← hlen] at hm
        simp at hm
        rw [← hm]
        exact hv
/-- two items, an operation -/
theorem two_rd {r : Hs → S → S → Option RV} {σ : L2.St} {H : Hp} {Q : VK} (hh : rdE g W (fun ρ h => (sE f ρ h).bind fun x h => (sE k ρ h).bind fun y h => ofO h (r h x y)) σ H Q) : tOp (r2 g r) (rdS g W (sE f)) (rdS g W (sE k)) σ H Q := by
  obtain ⟨x, φ, ρ, h, rs, rep, c⟩ := hh
  refine RD.bind (k := fun ρ a h => (sE k ρ h).bind fun y h => ofO h (r h a y)) KV.mono rs rep c fun b1 H1 φ1 h1 s1 st1 rs1 rep1 p1 c1 => ?_
  refine RD.bind (k := fun ρ y h => ofO h (r h s1 y)) KV.mono rs1 rep1 c1 fun b2 H2 φ2 h2 s2 st2 rs2 rep2 p2 c2 => ?_
  obtain ⟨rv, e1, q⟩ := Cond.ofO c2
  exact ⟨x, φ2, h2, s1, s2, rep2, DenS.step st2 p1, p2, rv, e1, q⟩
theorem pe_bin2 (hK : X.K = g.K) (o : BO) (ha : PE X ea (rdE g W f)) (hb : PE X eb (rdE g W k)) : PE X (.BinOp ea (opOf o) eb pos) (rdE g W (vBin o f k)) :=
  PE.imp (pe_op (bin_ok hK o) (pe_s ha) (pe_s hb)) fun _ _ _ q => two_rd q
theorem pe_cmp2 (hK : X.K = g.K) (hu : X.A.units + 65 < cLine) (o : CO) (ha : PE X ea (rdE g W f)) (hb : PE X eb (rdE g W k)) (hm : behindInMarks (cop o) eb = false) : PE X (.Compare ea [cop o] [eb] pos) (rdE g W (vCmp o f k)) :=
  PE.imp (pe_cmpR (cmp_ok hK hu o) (pe_s ha) (pe_s hb) hm) fun _ _ _ q => two_rd (r := cmpR o) q
theorem pe_idx2 (hK : X.K = g.K) (ha : PE X ea (rdE g W f)) (hb : PE X eb (rdE g W k)) (hs : PlainIx eb) : PE X (.Subscript ea eb pos) (rdE g W (vIdx f k)) :=
  PE.imp (pe_ix (ix_ok hK) (pe_s ha) (pe_s hb) hs) fun _ _ _ q => two_rd q
theorem pe_neg2 (ha : PE X ea (rdE g W f)) : PE X (.UnaryOp .USub ea pos) (rdE g W (vNeg f)) := PE.imp (pe_un un_neg (pe_s ha)) fun σ H Q ⟨x, φ, ρ, h, rs, rep, c⟩ => by
  simp only [vNeg] at c
  refine RD.bind (k := fun ρ a h => match a with
    | .v (.int i) => .ok (.v (.int (-i))) h
    | _ => .bad) KV.mono rs rep c fun b1 H1 φ1 h1 s1 st1 rs1 rep1 p1 c1 => ?_
  cases s1 with
  | r n => exact c1.elim
  | v u =>
    cases u with
    | int i => exact ⟨i, p1, c1 φ1 _ H1 Step.refl rep1 rfl⟩
    | _ => exact c1.elim

/-! ### truth -/
theorem tru_of {x : Addr → Prop} {φ : Phi} {h : Hs} {H : Hp} {s : S} {v : V} {b : Bool} (rep : RepH g x φ h H) (d : DenS g x φ H s v) (e : truS h s = some b) : TruV g.K v H b := by
  have seqs : ∀ {us : List U} {c : Bool}, seqS h s = some (c, us) → b = !us.isEmpty → TruV g.K v H b := by
    intro us c e1 eb
    obtain ⟨a, vs, rfl, d2, sq⟩ := seqA_ok rep d e1
    have hl : us.isEmpty = vs.isEmpty := by
      have := d2.len
      cases us <;> cases vs <;> first | rfl | (simp at this)
    rw [eb, hl]
    rcases sq with sq | sq
    · exact .inl ⟨vs, sq, rfl⟩
    · exact .inr (.inl ⟨vs, sq, rfl⟩)
  cases s with
  | r n =>
    cases e1 : seqS h (.r n) with
    | none => rw [show truS h (.r n) = (seqS h (.r n)).map fun p => !p.2.isEmpty from rfl, e1] at e; cases e
    | some p =>
      rw [show truS h (.r n) = (seqS h (.r n)).map fun p => !p.2.isEmpty from rfl, e1] at e
      exact seqs (c := p.1) e1 (Option.some.inj e).symm
  | v u =>
    cases u with
    | non => cases e; rw [show v = .non from d]; exact rfl
    | bl c => cases e; rw [show v = .bl b from d]; exact rfl
    | int i => cases e; rw [show v = .int i from d]; exact rfl
    | str z =>
      have e : (if z.length ≤ 16777216 then some ((z.length : Int) != 0) else none) = some b := e
      split at e
      · rename_i hl
        cases e
        rw [show v = .str z from d]
        exact ⟨by rw [sizeLine_eq]; exact hl, rfl⟩
      · cases e
    | tup us => exact seqs (c := false) rfl (Option.some.inj e).symm
    | lst us => exact seqs (c := true) rfl (Option.some.inj e).symm
    | _ => cases e
theorem pt_plain (hK : X.K = g.K) (ha : PE X ea (rdE g W f)) (he : ∀ whole, isTrue ea X.env whole = (do let v ← whole; standAt ea.pos; holding [v] (truthy v))) : PT X ea (rdB g W (tE f)) :=
  PT.imp (pt_truth (pe_s ha) he) fun σ H Q ⟨x, φ, ρ, h, rs, rep, c⟩ => by
    refine RD.bind (k := fun ρ a h => ofO h (truS h a)) KB.mono rs rep c fun b1 H1 φ1 h1 s1 st1 rs1 rep1 p1 c1 => ?_
    obtain ⟨b, e1, q⟩ := Cond.ofO c1
    exact ⟨b, by rw [hK]; exact tru_of rep1 p1 e1, q φ1 b H1 Step.refl rep1 rfl⟩
theorem pt_not2 (ha : PT X ea (rdB g W (tE f))) : PT X (.UnaryOp .Not ea pos) (rdB g W (tE (vNt f))) := PT.imp (pt_not ha) fun σ H Q ⟨x, φ, ρ, h, rs, rep, c⟩ => by
  refine ⟨x, φ, ρ, h, rs, rep, ?_⟩
  have e0 : tE (vNt f) ρ h = (tE f ρ h).bind fun b h => .ok (!b) h := by
    unfold tE sE vNt
    show Rs.bind (Rs.bind (Rs.bind (tE f ρ h) _) _) _ = Rs.bind (tE f ρ h) _
    cases tE f ρ h <;> rfl
  rw [e0] at c
  refine Cond.mono (fun b H1 ⟨φ1, h1, a, s1, rs1, rep1, p1, c1⟩ => ?_) (Cond.bind (R := KB) KB.mono rs c)
  rw [show b = a from p1]
  exact c1 φ1 (!a) H1 Step.refl rep1 rfl
theorem tE_ok {ρ : Rho} {h : Hs} {b : Bool} {h1 : Hs} (e : tE f ρ h = .ok b h1) : ∃ r s, f ρ h = .ok r h1 ∧ r.s = some s ∧ truS h1 s = some b := by
  unfold tE sE at e
  cases e1 : f ρ h with
  | bad => rw [e1] at e; cases e
  | ex z h2 => rw [e1] at e; cases e
  | ok r h2 =>
    rw [e1] at e
    have e : (oneS h2 r).bind (fun x h => ofO h (truS h x)) = .ok b h1 := e
    unfold oneS at e
    cases e2 : r.s with
    | none => rw [e2] at e; cases e
    | some s =>
      rw [e2] at e
      have e : ofO h2 (truS h2 s) = .ok b h1 := e
      cases e3 : truS h2 s with
      | none => rw [e3] at e; cases e
      | some b' =>
        rw [e3] at e
        cases e
        exact ⟨r, s, rfl, e2, e3⟩
/-- a value and its truth -/
theorem tru_rd {σ : L2.St} {H : Hp} {x : Addr → Prop} {φ : Phi} {ρ : Rho} {h : Hs} {Q : VK} (rs : RelS g x φ H ρ σ) (rep : RepH g x φ h H) {α β : Type} {P : Kd α β} {Q0 : β → Hp → Prop} {kk : Bool → Hs → Rs α}
    (hK : X.K = g.K) (c : Cond g x W P σ Q0 φ H ((tE f ρ h).bind kk)) (next : ∀ φ1 v H1 h1 b r, Step φ H φ1 H1 → RelS g x φ1 H1 ρ σ → RepH g x φ1 h1 H1 → KV g x H r h1 φ1 v H1 → TruV X.K v H1 b → f ρ h = .ok r h1 → tE f ρ h = .ok b h1 → Q v H1) : rdE g W f σ H Q := by
  refine ⟨x, φ, ρ, h, rs, rep, ?_⟩
  cases e1 : tE f ρ h with
  | bad => rw [e1] at c; exact c.elim
  | ex z h2 =>
    rw [e1] at c
    have e2 : f ρ h = .ex z h2 := by
      unfold tE sE at e1
      cases e3 : f ρ h with
      | bad => rw [e3] at e1; cases e1
      | ex z' h3 => rw [e3] at e1; cases e1; rfl
      | ok r h3 =>
        rw [e3] at e1
        have e1 : (oneS h3 r).bind (fun x h => ofO h (truS h x)) = .ex z h2 := e1
        unfold oneS at e1
        cases e4 : r.s with
        | none => rw [e4] at e1; cases e1
        | some s =>
          rw [e4] at e1
          have e1 : ofO h3 (truS h3 s) = .ex z h2 := e1
          cases e5 : truS h3 s with
          | none => rw [e5] at e1; cases e1
          | some b' => rw [e5] at e1; cases e1
    rw [e2]
    exact c
  | ok b h1 =>
    obtain ⟨r, s, e2, e3, e4⟩ := tE_ok e1
    rw [e2]
    intro φ1 v H1 st rep1 p
    exact next φ1 v H1 h1 b r st (rs.step st) rep1 p (by rw [hK]; exact tru_of rep1 (KV.s p e3) e4) e2 e1
theorem pe_not2 (hK : X.K = g.K) (ha : PE X ea (rdE g W f)) : PE X (.UnaryOp .Not ea pos) (rdE g W (vNt f)) := PE.imp (pe_notT ha) fun σ H Q ⟨x, φ, ρ, h, rs, rep, c⟩ => by
  simp only [vNt] at c
  refine tru_rd (X := X) rs rep hK c fun φ1 v H1 h1 b r st rs1 rep1 p t e1 e2 => ?_
  rw [e2] at c
  exact ⟨b, t, (show Cond g x W KV σ Q φ H (.ok (.v (.bl !b)) h1) from c) φ1 _ H1 st rep1 rfl⟩
theorem vAnd_eq (f k : EvE) (ρ : Rho) (h : Hs) : vAnd f k ρ h = match tE f ρ h with
    | .ok true h1 => k ρ h1
    | .ok false _ => f ρ h
    | .ex e h1 => .ex e h1
    | .bad => .bad := by
  unfold vAnd tE sE
  cases e1 : f ρ h with
  | bad => rfl
  | ex z h2 => rfl
  | ok r h2 =>
    show (match r.s with
      | some x => match truS h2 x with
        | some true => k ρ h2
        | some false => Rs.ok r h2
        | none => .bad
      | none => .bad) = _
    simp only [Rs.bind, oneS]
    cases r.s with
    | none => rfl
    | some s =>
      simp only [ofO]
      cases truS h2 s with
      | none => rfl
      | some b => cases b <;> rfl
theorem vOr_eq (f k : EvE) (ρ : Rho) (h : Hs) : vOr f k ρ h = match tE f ρ h with
    | .ok false h1 => k ρ h1
    | .ok true _ => f ρ h
    | .ex e h1 => .ex e h1
    | .bad => .bad := by
  unfold vOr tE sE
  cases e1 : f ρ h with
  | bad => rfl
  | ex z h2 => rfl
  | ok r h2 =>
    show (match r.s with
      | some x => match truS h2 x with
        | some true => Rs.ok r h2
        | some false => k ρ h2
        | none => .bad
      | none => .bad) = _
    simp only [Rs.bind, oneS]
    cases r.s with
    | none => rfl
    | some s =>
      simp only [ofO]
      cases truS h2 s with
      | none => rfl
      | some b => cases b <;> rfl
/-- .. as tests -/
theorem tAnd_eq (f k : EvE) (ρ : Rho) (h : Hs) : tE (vAnd f k) ρ h = (tE f ρ h).bind fun b h => if b = true then tE k ρ h else .ok false h := by
  show ((vAnd f k ρ h).bind fun r h => oneS h r).bind _ = _
  rw [vAnd_eq]
  cases e1 : tE f ρ h with
  | bad => rfl
  | ex z h2 => rfl
  | ok b h2 =>
    cases b with
    | true => rfl
    | false =>
      obtain ⟨r, s, e2, e3, e4⟩ := tE_ok e1
      simp only [e2, Rs.bind, oneS, e3, ofO, e4]
      rfl
theorem tOr_eq (f k : EvE) (ρ : Rho) (h : Hs) : tE (vOr f k) ρ h = (tE f ρ h).bind fun b h => if b = true then .ok true h else tE k ρ h := by
  show ((vOr f k ρ h).bind fun r h => oneS h r).bind _ = _
  rw [vOr_eq]
  cases e1 : tE f ρ h with
  | bad => rfl
  | ex z h2 => rfl
  | ok b h2 =>
    cases b with
    | false => rfl
    | true =>
      obtain ⟨r, s, e2, e3, e4⟩ := tE_ok e1
      simp only [e2, Rs.bind, oneS, e3, ofO, e4]
      rfl
theorem tIf_eq (f k l : EvE) (ρ : Rho) (h : Hs) : tE (vIf f k l) ρ h = (tE f ρ h).bind fun b h => if b = true then tE k ρ h else tE l ρ h := by
  show (((tE f ρ h).bind fun b h => if b = true then k ρ h else l ρ h).bind fun r h => oneS h r).bind _ = _
  cases e1 : tE f ρ h with
  | bad => rfl
  | ex z h2 => rfl
  | ok b h2 => cases b <;> rfl
variable {rest : List Expr}
theorem pe_and2 (hK : X.K = g.K) (ha : PE X ea (rdE g W f)) (hb : PE X (.BoolOp .And (eb :: rest) pos) (rdE g W k)) : PE X (.BoolOp .And (ea :: eb :: rest) pos) (rdE g W (vAnd f k)) := PE.imp (pe_andT ha hb) fun σ H Q ⟨x, φ, ρ, h, rs, rep, c⟩ => by
  rw [vAnd_eq] at c
  have c' : Cond g x W KV σ Q φ H ((tE f ρ h).bind fun b h1 => if b = true then k ρ h1 else f ρ h) := by
    cases e1 : tE f ρ h with
    | bad => rw [e1] at c; exact c
    | ex z h2 => rw [e1] at c; exact c
    | ok b h2 =>
      rw [e1] at c
      cases b <;> exact c
  refine tru_rd (X := X) rs rep hK c' fun φ1 v H1 h1 b r st rs1 rep1 p t e1 e2 => ?_
  refine ⟨b, t, ?_⟩
  rw [e2] at c'
  cases b with
  | true => exact ⟨x, φ1, ρ, h1, rs1, rep1, Cond.later KV.mono st c'⟩
  | false =>
    have c2 : Cond g x W KV σ Q φ H (f ρ h) := c'
    rw [e1] at c2
    exact c2 φ1 v H1 st rep1 p
theorem pe_or2 (hK : X.K = g.K) (ha : PE X ea (rdE g W f)) (hb : PE X (.BoolOp .Or (eb :: rest) pos) (rdE g W k)) : PE X (.BoolOp .Or (ea :: eb :: rest) pos) (rdE g W (vOr f k)) := PE.imp (pe_orT ha hb) fun σ H Q ⟨x, φ, ρ, h, rs, rep, c⟩ => by
  rw [vOr_eq] at c
  have c' : Cond g x W KV σ Q φ H ((tE f ρ h).bind fun b h1 => if b = true then f ρ h else k ρ h1) := by
    cases e1 : tE f ρ h with
    | bad => rw [e1] at c; exact c
    | ex z h2 => rw [e1] at c; exact c
    | ok b h2 =>
      rw [e1] at c
      cases b <;> exact c
  refine tru_rd (X := X) rs rep hK c' fun φ1 v H1 h1 b r st rs1 rep1 p t e1 e2 => ?_
  refine ⟨b, t, ?_⟩
  rw [e2] at c'
  cases b with
  | false => exact ⟨x, φ1, ρ, h1, rs1, rep1, Cond.later KV.mono st c'⟩
  | true =>
    have c2 : Cond g x W KV σ Q φ H (f ρ h) := c'
    rw [e1] at c2
    exact c2 φ1 v H1 st rep1 p
theorem pw_and2 (ha : PT X ea (rdB g W (tE f))) (hb : PW X (.BoolOp .And (eb :: rest) pos) (rdB g W (tE k))) : PW X (.BoolOp .And (ea :: eb :: rest) pos) (rdB g W (tE (vAnd f k))) := by
  refine ⟨fun wh pins s σ H Q I ⟨x, φ, ρ, h, rs, rep, c⟩ => (pw_and ha hb).run wh pins s σ H Q I ?_⟩
  rw [tAnd_eq] at c
  refine RD.bind (k := fun ρ b h => if b = true then tE k ρ h else Rs.ok false h) KB.mono rs rep c fun b H1 φ1 h1 a s1 rs1 rep1 p1 c1 => ?_
  rw [show b = a from p1]
  cases a with
  | true => exact ⟨x, φ1, ρ, h1, rs1, rep1, c1⟩
  | false => exact c1 φ1 false H1 Step.refl rep1 rfl
theorem pw_or2 (ha : PT X ea (rdB g W (tE f))) (hb : PW X (.BoolOp .Or (eb :: rest) pos) (rdB g W (tE k))) : PW X (.BoolOp .Or (ea :: eb :: rest) pos) (rdB g W (tE (vOr f k))) := by
  refine ⟨fun wh pins s σ H Q I ⟨x, φ, ρ, h, rs, rep, c⟩ => (pw_or ha hb).run wh pins s σ H Q I ?_⟩
  rw [tOr_eq] at c
  refine RD.bind (k := fun ρ b h => if b = true then Rs.ok true h else tE k ρ h) KB.mono rs rep c fun b H1 φ1 h1 a s1 rs1 rep1 p1 c1 => ?_
  rw [show b = a from p1]
  cases a with
  | false => exact ⟨x, φ1, ρ, h1, rs1, rep1, c1⟩
  | true => exact c1 φ1 true H1 Step.refl rep1 rfl
theorem pe_ife2 {c0 : Expr} (hc : PT X c0 (rdB g W (tE f))) (ha : PE X ea (rdE g W k)) (hb : PE X eb (rdE g W l)) : PE X (.IfExp c0 ea eb pos) (rdE g W (vIf f k l)) := PE.imp (pe_ifExp hc ha hb) fun σ H Q ⟨x, φ, ρ, h, rs, rep, c⟩ => by
  simp only [vIf] at c
  refine RD.bind (k := fun ρ b h => if b = true then k ρ h else l ρ h) KV.mono rs rep c fun b H1 φ1 h1 a s1 rs1 rep1 p1 c1 => ?_
  rw [show b = a from p1]
  cases a with
  | true => exact ⟨x, φ1, ρ, h1, rs1, rep1, c1⟩
  | false => exact ⟨x, φ1, ρ, h1, rs1, rep1, c1⟩
theorem pt_ife2 {c0 : Expr} (hc : PT X c0 (rdB g W (tE f))) (ha : PT X ea (rdB g W (tE k))) (hb : PT X eb (rdB g W (tE l))) : PT X (.IfExp c0 ea eb pos) (rdB g W (tE (vIf f k l))) := by
  refine ⟨fun pins s σ H Q I ⟨x, φ, ρ, h, rs, rep, c⟩ => ?_⟩
  rw [tIf_eq] at c
  have hh : rdB g W (tE f) σ H fun b H1 => if b = true then rdB g W (tE k) σ H1 Q else rdB g W (tE l) σ H1 Q := by
    refine RD.bind (k := fun ρ b h => if b = true then tE k ρ h else tE l ρ h) KB.mono rs rep c fun b H1 φ1 h1 a s1 rs1 rep1 p1 c1 => ?_
    rw [show b = a from p1]
    cases a with
    | true => exact ⟨x, φ1, ρ, h1, rs1, rep1, c1⟩
    | false => exact ⟨x, φ1, ρ, h1, rs1, rep1, c1⟩
  refine isTrue_IfExp (thn (hc.run pins s σ H _ I hh) fun b s1 ⟨H1, I1, q1⟩ => ?_)
  cases b with
  | true => exact ha.run pins s1 σ H1 Q I1 q1
  | false => exact hb.run pins s1 σ H1 Q I1 q1
end
end VM

/-! Calls: a frame within a frame. -/
namespace VM
open PySem PySem.Spec PyProof.Rows L2
theorem pick_ok {h : Hs} : ∀ {ns : List Nat} {os : Hs}, pick h ns = some os → os.length = ns.length ∧ ∀ (j n : Nat), ns[j]? = some n → ∃ o, h[n]? = some o ∧ os[j]? = some o ∧ o ≠ MO.dead
  | [], os, e => by
    cases e
    exact ⟨rfl, fun j n h => by simp at h⟩
  | m :: ns, os, e => by
    unfold pick at e
    cases e1 : h[m]? with
    | none => rw [e1] at e; cases e
    | some o =>
      cases e2 : pick h ns with
      | none => rw [e1, e2] at e; cases o <;> cases e
      | some os' =>
        rw [e1, e2] at e
        obtain ⟨h1, h2⟩ := pick_ok e2
        have nd : o ≠ .dead ∧ os = o :: os' := by cases o <;> first | (cases e; done) | (cases e; exact ⟨by simp, rfl⟩)
        obtain ⟨nd, rfl⟩ := nd
        refine ⟨by simp [h1], fun j n hj => ?_⟩
        cases j with
        | zero => simp at hj; subst hj; exact ⟨o, e1, rfl, nd⟩
        | succ j => exact h2 j n (by simpa using hj)
theorem putBack_len {α : Type} : ∀ (ns : List Nat) (os h : List α), (putBack h ns os).length = h.length
  | [], _, _ => by simp [putBack]
  | _ :: _, [], _ => by simp [putBack]
  | n :: ns, o :: os, h => by
    show (putBack (h.set n o) ns os).length = h.length
    rw [putBack_len ns os, List.length_set]
theorem putBack_off {α : Type} {m : Nat} : ∀ (ns : List Nat) (os h : List α), m ∉ ns → (putBack h ns os)[m]? = h[m]?
  | [], _, _, _ => by simp [putBack]
  | _ :: _, [], _, _ => by simp [putBack]
  | n :: ns, o :: os, h, hm => by
    show (putBack (h.set n o) ns os)[m]? = h[m]?
    rw [putBack_off ns os _ (fun q => hm (List.mem_cons_of_mem _ q)), List.getElem?_set_ne (fun q => hm (by rw [q]; exact List.mem_cons_self))]
theorem putBack_at {α : Type} : ∀ (ns : List Nat) (os h : List α) (j n : Nat), ns.Nodup → ns[j]? = some n → n < h.length → j < os.length → (putBack h ns os)[n]? = os[j]?
  | [], _, _, _, _, _, e, _, _ => by simp at e
  | _ :: _, [], _, _, _, _, _, _, hj => by simp at hj
  | m :: ns, o :: os, h, 0, n, nd, e, hn, hj => by
    simp at e
    subst e
    show (putBack (h.set m o) ns os)[m]? = _
    rw [putBack_off ns os _ (List.nodup_cons.mp nd).1, List.getElem?_set_self hn]
    rfl
  | m :: ns, o :: os, h, j + 1, n, nd, e, hn, hj => by
    show (putBack (h.set m o) ns os)[n]? = _
    rw [putBack_at ns os (h.set m o) j n (List.nodup_cons.mp nd).2 (by simpa using e) (by rw [List.length_set]; exact hn) (by simpa using hj)]
    simp
theorem ndup_ok : ∀ {ns : List Nat}, ndup ns = true → ns.Nodup
  | [], _ => List.nodup_nil
  | n :: ns, h => by
    obtain ⟨h1, h2⟩ := Bool.and_eq_true_iff.mp (show (!ns.contains n && ndup ns) = true from h)
    refine List.nodup_cons.mpr ⟨fun q => ?_, ndup_ok h2⟩
    have : ns.contains n = true := by simpa using q
    rw [this] at h1
    cases h1
/-- entries of which some are gone -/
theorem thin_sub : ∀ {φ φ' : Phi}, φ'.length = φ.length → (∀ (n : Nat) (l : OA), φ'[n]? = some (some l) → φ[n]? = some (some l)) → (φ'.filterMap id).flatten.Sublist (φ.filterMap id).flatten
  | [], [], _, _ => List.Sublist.refl _
  | [], _ :: _, h, _ => by simp at h
  | _ :: _, [], h, _ => by simp at h
  | o :: φ, o' :: φ', h, k => by
    have ih := thin_sub (φ := φ) (φ' := φ') (by simpa using h) fun n l e => by simpa using k (n + 1) l (by simpa using e)
    cases o' with
    | none =>
      cases o with
      | none => simpa using ih
      | some l =>
        have : ((some l :: φ).filterMap id).flatten = l ++ (φ.filterMap id).flatten := by simp
        rw [this]
        exact List.Sublist.trans (by simpa using ih) (List.sublist_append_right _ _)
    | some l' =>
      have e : o = some l' := by simpa using k 0 l' rfl
      subst e
      have : ∀ ψ : Phi, ((some l' :: ψ).filterMap id).flatten = l' ++ (ψ.filterMap id).flatten := by simp
      rw [this, this]
      exact List.Sublist.append (List.Sublist.refl _) ih
section
variable {g : GS} {x : Addr → Prop} {φ : Phi} {h : Hs} {H : Hp}
theorem RepH.alive (r : RepH g x φ h H) {n : Nat} {o : MO} (e : h[n]? = some o) (nd : o ≠ .dead) : ∃ l, φ[n]? = some (some l) ∧ RepO g (ow φ x) H o l := by
  cases q : φ[n]? with
  | none =>
    rw [List.getElem?_eq_none_iff, r.len] at q
    rw [List.getElem?_eq_none q] at e
    cases e
  | some w =>
    cases w with
    | none =>
      rw [r.dead n q] at e
      exact absurd (Option.some.inj e).symm nd
    | some l =>
      obtain ⟨ob, e1, z⟩ := r.at_ n l q
      rw [e] at e1
      cases e1
      exact ⟨l, rfl, z⟩
/-- the callee's own objects: those handed to it -/
def subPhi (φ : Phi) (ns : List Nat) : Phi := ns.map fun n => (φ[n]?).getD none
/-- .. and what it may not touch: the rest -/
def subX (φ : Phi) (x : Addr → Prop) (ns : List Nat) : Addr → Prop := fun a => ow φ x a ∧ ¬ own (subPhi φ ns) a
theorem sub_at {ns : List Nat} {j n : Nat} (e : ns[j]? = some n) : (subPhi φ ns)[j]? = some ((φ[n]?).getD none) := by
  unfold subPhi
  rw [List.getElem?_map, e]
  rfl
theorem sub_own {ns : List Nat} {a : Addr} (o : own (subPhi φ ns) a) : own φ a := by
  obtain ⟨l, hl, ha⟩ := o
  obtain ⟨n, hn, e⟩ := List.mem_map.mp hl
  cases q : φ[n]? with
  | none => rw [q] at e; cases e
  | some w =>
    rw [q] at e
    have e : w = some l := e
    subst e
    exact own_at q ha
theorem sub_ow {ns : List Nat} {a : Addr} (o : ow (subPhi φ ns) (subX φ x ns) a) : ow φ x a := o.elim (fun q => .inl (sub_own q)) fun q => q.1
theorem sub_nd : ∀ {ns : List Nat}, ns.Nodup → (φ.filterMap id).flatten.Nodup → ((subPhi φ ns).filterMap id).flatten.Nodup
  | [], _, _ => by simp [subPhi]
  | n :: ns, nd, h => by
    have ih := sub_nd (List.nodup_cons.mp nd).2 h
    show (((φ[n]?).getD none :: subPhi φ ns).filterMap id).flatten.Nodup
    cases q : φ[n]? with
    | none => simpa using ih
    | some w =>
      cases w with
      | none => simpa using ih
      | some l =>
        have : ((some l :: subPhi φ ns).filterMap id).flatten = l ++ ((subPhi φ ns).filterMap id).flatten := by simp
        show ((some l :: subPhi φ ns).filterMap id).flatten.Nodup
        rw [this, List.nodup_append]
        refine ⟨?_, ih, fun a ha b hb e => ?_⟩
        · have s1 : l.Sublist (φ.filterMap id).flatten := by
            have : l ∈ φ.filterMap id := List.mem_filterMap.mpr ⟨some l, List.mem_of_getElem? q, rfl⟩
            exact List.sublist_flatten_of_mem this
          exact s1.nodup h
        · subst e
          obtain ⟨l', hl', ha'⟩ := own_mem.mpr hb
          obtain ⟨m, hm, e⟩ := List.mem_map.mp hl'
          cases q2 : φ[m]? with
          | none => rw [q2] at e; cases e
          | some w =>
            rw [q2] at e
            have e : w = some l' := e
            subst e
            have := disj h q q2 ha ha'
            subst this
            exact (List.nodup_cons.mp nd).1 hm
theorem sub_rep {ns : List Nat} {os : Hs} (r : RepH g x φ h H) (nd : ns.Nodup) (e : pick h ns = some os) : RepH g (subX φ x ns) (subPhi φ ns) os H := by
  obtain ⟨h1, h2⟩ := pick_ok e
  have al : ∀ (j : Nat) (w : Option OA), (subPhi φ ns)[j]? = some w → ∃ n o l, ns[j]? = some n ∧ os[j]? = some o ∧ w = some l ∧ φ[n]? = some (some l) ∧ RepO g (ow φ x) H o l := by
    intro j w hj
    have hlt : j < ns.length := by
      have := (List.getElem?_eq_some_iff.mp hj).1
      unfold subPhi at this
      simpa using this
    have hn : ns[j]? = some ns[j] := List.getElem?_eq_getElem hlt
    obtain ⟨o, e1, e2, e3⟩ := h2 j _ hn
    obtain ⟨l, e4, e5⟩ := r.alive e1 e3
    rw [sub_at hn, e4] at hj
    exact ⟨_, o, l, hn, e2, (Option.some.inj hj).symm, e4, e5⟩
  refine ⟨by unfold subPhi; rw [List.length_map, h1], fun j l hj => ?_, fun j hj => ?_, sub_nd nd r.nd, fun a ha q => q.2 ha, fun a q => ?_⟩
  · obtain ⟨n, o, l', _, e2, e3, e4, e5⟩ := al j _ hj
    cases e3
    exact ⟨o, e2, e5.keep (Keep.weak fun a => sub_ow) fun _ _ => rfl⟩
  · obtain ⟨n, o, l', _, e2, e3, _⟩ := al j _ hj
    cases e3
  · rcases q.1 with q | q
    · exact r.there q
    · exact r.xs a q
theorem sub_den : ∀ {as : List S} {vs : List V} {k : Nat} {φc : Phi} {x' : Addr → Prop}, (∀ a, ow φc x' a → ow φ x a) → (∀ j n, (refsOf as)[j]? = some n → φc[k + j]? = φ[n]?) → DenSs g x φ H as vs → DenSs g x' φc H (renum k as) vs
  | [], _, _, _, _, _, _, d => d
  | .v u :: as, _, k, φc, x', w, p, ⟨v, vs, e, d, ds⟩ => ⟨v, vs, e, Den.weak w d, sub_den w p ds⟩
  | .r n :: as, _, k, φc, x', w, p, ⟨v, vs, e, d, ds⟩ => by
    refine ⟨v, vs, e, ?_, sub_den (k := k + 1) w (fun j m hj => ?_) ds⟩
    · have p0 : φc[k]? = φ[n]? := p 0 n rfl
      refine ⟨?_, fun l hl => d.2 l (by rw [← p0]; exact hl)⟩
      have : φ[n]?.isSome = true := by rw [List.getElem?_eq_getElem d.1]; rfl
      rw [← p0] at this
      cases q : φc[k]? with
      | none => rw [q] at this; cases this
      | some _ => exact (List.getElem?_eq_some_iff.mp q).1
    · have := p (j + 1) m (by show (n :: refsOf as)[j + 1]? = some m; simpa using hj)
      rw [← this]
      congr 1
      omega
/-- back from the callee: what it holds behind, laid into the caller's -/
theorem sub_back {ns : List Nat} {os os' : Hs} {φc' : Phi} {H' : Hp} {ext : Phi} {obs : Hs} (r : RepH g x φ h H) (nd : ns.Nodup) (e : pick h ns = some os) (st : Step (subPhi φ ns) H φc' H') (hl : os'.length = ns.length) (hc : φc'.length = os'.length) (he : ext.length = obs.length)
    (hx : ∀ a, own ext a → H a = none) (rc : RepH g (subX φ x ns) (φc' ++ ext) (os' ++ obs) H') :
    RepH g x (putBack φ ns φc' ++ ext) (putBack h ns os' ++ obs) H' ∧ Step φ H (putBack φ ns φc') H' ∧ (∀ a, ow (putBack φ ns φc' ++ ext) x a ↔ ow (φc' ++ ext) (subX φ x ns) a) ∧ ∀ (j n : Nat), ns[j]? = some n → (putBack φ ns φc')[n]? = φc'[j]? := by
  obtain ⟨h1, h2⟩ := pick_ok e
  have hlt : ∀ (j n : Nat), ns[j]? = some n → n < φ.length := fun j n hj => by
    obtain ⟨o, e1, _⟩ := h2 j n hj
    rw [r.len]
    exact (List.getElem?_eq_some_iff.mp e1).1
  have at1 : ∀ (j n : Nat), ns[j]? = some n → (putBack φ ns φc')[n]? = φc'[j]? := fun j n hj => putBack_at ns φc' φ j n nd hj (hlt j n hj) (by rw [hc, hl]; exact (List.getElem?_eq_some_iff.mp hj).1)
  have bk : ∀ (n : Nat) (l : OA), (putBack φ ns φc')[n]? = some (some l) → φ[n]? = some (some l) := fun n l q => by
    by_cases hn : n ∈ ns
    · obtain ⟨j, hj⟩ := List.getElem?_of_mem hn
      rw [at1 j n hj] at q
      have hjc : j < (subPhi φ ns).length := by
        unfold subPhi
        rw [List.length_map]
        exact (List.getElem?_eq_some_iff.mp hj).1
      have q2 := st.back j l hjc q
      rw [sub_at hj] at q2
      cases q3 : φ[n]? with
      | none => rw [q3] at q2; cases q2
      | some w => rw [q3] at q2; exact congrArg some (Option.some.inj q2)
    · rw [putBack_off ns φc' φ hn] at q
      exact q
  have ownB : ∀ a, own (putBack φ ns φc') a → own φ a := fun a ⟨l, hl, ha⟩ => by
    obtain ⟨n, hn⟩ := List.getElem?_of_mem hl
    exact own_at (bk n l hn) ha
  have ownA : ∀ {ψ : Phi} {a : Addr}, own (ψ ++ ext) a ↔ own ψ a ∨ own ext a := fun {ψ a} => by
    constructor
    · rintro ⟨l, hl, ha⟩
      rcases List.mem_append.mp hl with hl | hl
      · exact .inl ⟨l, hl, ha⟩
      · exact .inr ⟨l, hl, ha⟩
    · rintro (⟨l, hl, ha⟩ | ⟨l, hl, ha⟩)
      · exact ⟨l, List.mem_append_left _ hl, ha⟩
      · exact ⟨l, List.mem_append_right _ hl, ha⟩
  have notC : ∀ {n : Nat} {l : OA} {a : Addr}, φ[n]? = some (some l) → a ∈ l → n ∉ ns → ¬ own (subPhi φ ns) a := fun {n l a} q ha hn ⟨l', hl', ha'⟩ => by
    obtain ⟨m, hm, e⟩ := List.mem_map.mp hl'
    cases q2 : φ[m]? with
    | none => rw [q2] at e; cases e
    | some w =>
      rw [q2] at e
      have e : w = some l' := e
      subst e
      have := disj r.nd q q2 ha ha'
      subst this
      exact hn hm
  have iff1 : ∀ a, ow (putBack φ ns φc' ++ ext) x a ↔ ow (φc' ++ ext) (subX φ x ns) a := by
    intro a
    constructor
    · rintro (q | q)
      · rcases ownA.mp q with ⟨l, hl', ha⟩ | q
        · obtain ⟨n, hn⟩ := List.getElem?_of_mem hl'
          by_cases hm : n ∈ ns
          · obtain ⟨j, hj⟩ := List.getElem?_of_mem hm
            rw [at1 j n hj] at hn
            exact .inl (ownA.mpr (.inl (own_at hn ha)))
          · have hb := bk n l hn
            exact .inr ⟨.inl (own_at hb ha), notC hb ha hm⟩
        · exact .inl (ownA.mpr (.inr q))
      · exact .inr ⟨.inr q, fun z => r.apart a (sub_own z) q⟩
    · rintro (q | ⟨q, z⟩)
      · rcases ownA.mp q with ⟨l, hl', ha⟩ | q
        · obtain ⟨j, hj⟩ := List.getElem?_of_mem hl'
          have hjn : j < ns.length := by rw [← hl, ← hc]; exact (List.getElem?_eq_some_iff.mp hj).1
          have hn : ns[j]? = some ns[j] := List.getElem?_eq_getElem hjn
          rw [← at1 j _ hn] at hj
          exact .inl (ownA.mpr (.inl (own_at hj ha)))
        · exact .inl (ownA.mpr (.inr q))
      · rcases q with ⟨l, hl', ha⟩ | q
        · obtain ⟨n, hn⟩ := List.getElem?_of_mem hl'
          have hm : n ∉ ns := fun hm => z (by
            obtain ⟨j, hj⟩ := List.getElem?_of_mem hm
            have := sub_at (φ := φ) hj
            rw [hn] at this
            exact own_at this ha)
          have : (putBack φ ns φc')[n]? = some (some l) := by rw [putBack_off ns φc' φ hm]; exact hn
          exact .inl (ownA.mpr (.inl (own_at this ha)))
        · exact .inr q
  have stp : Step φ H (putBack φ ns φc') H' := ⟨fun a n q => st.same a (fun z => n (sub_own z)) q, st.grow, fun a q => .inl (ownB a q), Nat.le_of_eq (putBack_len ns φc' φ).symm, fun n l _ q => bk n l q, fresh_le (Nat.le_of_eq (putBack_len ns φc' φ))⟩
  have kp : Keep (ow φ x) H (ow (putBack φ ns φc' ++ ext) x) H' := ⟨fun a n q => stp.same a (fun z => n (.inl z)) q, stp.grow, fun a q => by
    rcases q with q | q
    · rcases ownA.mp q with q | q
      · exact .inl (.inl (ownB a q))
      · exact .inr (hx a q)
    · exact .inl (.inr q)⟩
  have pl : (putBack φ ns φc').length = (putBack h ns os').length := by rw [putBack_len, putBack_len, r.len]
  refine ⟨⟨by rw [List.length_append, List.length_append, pl, he], fun n l q => ?_, fun n q => ?_, ?_, fun a q => ?_, fun a q => stp.grow a (r.xs a q)⟩, stp, iff1, at1⟩
  · by_cases hn : n < (putBack φ ns φc').length
    · rw [List.getElem?_append_left hn] at q
      rw [List.getElem?_append_left (by rw [← pl]; exact hn)]
      by_cases hm : n ∈ ns
      · obtain ⟨j, hj⟩ := List.getElem?_of_mem hm
        rw [at1 j n hj] at q
        have hjc : j < φc'.length := (List.getElem?_eq_some_iff.mp q).1
        obtain ⟨ob, e1, z⟩ := rc.at_ j l (by rw [List.getElem?_append_left hjc]; exact q)
        rw [List.getElem?_append_left (by rw [← hc]; exact hjc)] at e1
        refine ⟨ob, ?_, z.keep (Keep.weak fun a => (iff1 a).mp) fun _ _ => rfl⟩
        rw [putBack_at ns os' h j n nd hj (by rw [← r.len]; exact hlt j n hj) (by rw [← hc]; exact hjc)]
        exact e1
      · have hb := bk n l q
        obtain ⟨ob, e1, z⟩ := r.at_ n l hb
        exact ⟨ob, by rw [putBack_off ns os' h hm]; exact e1, z.keep kp fun a ha => st.same a (notC hb ha hm) (z.there a ha)⟩
    · rw [List.getElem?_append_right (by omega)] at q
      rw [List.getElem?_append_right (by rw [← pl]; omega), ← pl]
      obtain ⟨ob, e1, z⟩ := rc.at_ (φc'.length + (n - (putBack φ ns φc').length)) l (by rw [List.getElem?_append_right (by omega)]; simpa using q)
      rw [List.getElem?_append_right (by omega)] at e1
      refine ⟨ob, ?_, z.keep (Keep.weak fun a => (iff1 a).mp) fun _ _ => rfl⟩
      rw [← e1]
      congr 1
      omega
  · by_cases hn : n < (putBack φ ns φc').length
    · rw [List.getElem?_append_left hn] at q
      rw [List.getElem?_append_left (by rw [← pl]; exact hn)]
      by_cases hm : n ∈ ns
      · obtain ⟨j, hj⟩ := List.getElem?_of_mem hm
        rw [at1 j n hj] at q
        have hjc : j < φc'.length := (List.getElem?_eq_some_iff.mp q).1
        have e1 := rc.dead j (by rw [List.getElem?_append_left hjc]; exact q)
        rw [List.getElem?_append_left (by rw [← hc]; exact hjc)] at e1
        rw [putBack_at ns os' h j n nd hj (by rw [← r.len]; exact hlt j n hj) (by rw [← hc]; exact hjc)]
        exact e1
      · rw [putBack_off ns φc' φ hm] at q
        rw [putBack_off ns os' h hm]
        exact r.dead n q
    · rw [List.getElem?_append_right (by omega)] at q
      rw [List.getElem?_append_right (by rw [← pl]; omega), ← pl]
      have e1 := rc.dead (φc'.length + (n - (putBack φ ns φc').length)) (by rw [List.getElem?_append_right (by omega)]; simpa using q)
      rw [List.getElem?_append_right (by omega)] at e1
      rw [← e1]
      congr 1
      omega
  · have e1 : ((putBack φ ns φc' ++ ext).filterMap id).flatten = ((putBack φ ns φc').filterMap id).flatten ++ (ext.filterMap id).flatten := by rw [List.filterMap_append, List.flatten_append]
    have e2 : ((φc' ++ ext).filterMap id).flatten = (φc'.filterMap id).flatten ++ (ext.filterMap id).flatten := by rw [List.filterMap_append, List.flatten_append]
    have n2 := rc.nd
    rw [e2, List.nodup_append] at n2
    rw [e1, List.nodup_append]
    refine ⟨(thin_sub (putBack_len ns φc' φ) bk).nodup r.nd, n2.2.1, fun a ha b hb e => ?_⟩
    subst e
    exact r.there (ownB a (own_mem.mpr ha)) (hx a (own_mem.mpr hb))
  · rcases ownA.mp q with q | q
    · exact r.apart a (ownB a q)
    · exact fun z => r.xs a z (hx a q)
end
end VM

/-! A def's promise; its calls. -/
namespace VM
open PySem PySem.Spec PyProof.Rows L2
/-- a def's promise: what the machine says of it -/
def spV (g : GS) (c : CC) (f np : Nat) : Sp := fun vs H Q E => vs.length = np ∧ ∃ x φ ss os, DenSs g x φ H ss vs ∧ RepH g x φ os H ∧ Cond g x (fun cls d _ H' => E cls d H') KV [] Q φ H (c.call f ss os)
section
variable {g : GS} {x : Addr → Prop} {φ : Phi} {h : Hs} {H : Hp} {W : WX} {σ : L2.St} {Q : VK}
theorem doCall_ok {c : CC} {f np : Nat} {as : List S} {vs : List V} (rep : RepH g x φ h H) (d : DenSs g x φ H as vs) (l : vs.length = np) (cd : Cond g x W KV σ Q φ H (doCall c f as h)) : spV g c f np vs H Q (fun cls d H' => W cls d σ H') := by
  unfold doCall at cd
  split at cd
  · rename_i e0
    have nd := ndup_ok e0
    cases e1 : pick h (refsOf as) with
    | none => rw [e1] at cd; exact cd.elim
    | some os =>
      rw [e1] at cd
      dsimp only at cd
      have d' : DenSs g (subX φ x (refsOf as)) (subPhi φ (refsOf as)) H (renum 0 as) vs := sub_den (fun a => sub_ow) (fun j n hj => by
        obtain ⟨h1, h2⟩ := pick_ok e1
        obtain ⟨o, e2, _, e3⟩ := h2 j n hj
        obtain ⟨l, e4, _⟩ := rep.alive e2 e3
        rw [Nat.zero_add, sub_at hj, e4]
        rfl) d
      refine ⟨l, subX φ x (refsOf as), subPhi φ (refsOf as), renum 0 as, os, d', sub_rep rep nd e1, ?_⟩
      have sl : (subPhi φ (refsOf as)).length = (refsOf as).length := by unfold subPhi; rw [List.length_map]
      cases e2 : c.call f (renum 0 as) os with
      | bad => rw [e2] at cd; exact cd.elim
      | ex e os' =>
        rw [e2] at cd
        have cd : Cond g x W KV σ Q φ H (if os'.length = (refsOf as).length then .ex e (putBack h (refsOf as) os') else .bad) := cd
        split at cd
        · rename_i hl
          intro φ' H' cls dd st rep' ev
          obtain ⟨r1, s1, _⟩ := sub_back (ext := []) (obs := []) rep nd e1 st hl rep'.len rfl (fun a ⟨l, hl, _⟩ => by cases hl) (by rw [List.append_nil, List.append_nil]; exact rep')
          rw [List.append_nil, List.append_nil] at r1
          exact cd _ H' cls dd s1 r1 ev
        · exact cd.elim
      | ok rv os' =>
        rw [e2] at cd
        have cd : Cond g x W KV σ Q φ H (if os'.length = (refsOf as).length then backR (refsOf as) (putBack h (refsOf as) os') rv else .bad) := cd
        split at cd
        · rename_i hl
          intro φ' v H' st rep' p
          obtain ⟨r1, s1, i1, a1⟩ := sub_back (ext := []) (obs := []) rep nd e1 st hl rep'.len rfl (fun a ⟨l, hl, _⟩ => by cases hl) (by rw [List.append_nil, List.append_nil]; exact rep')
          rw [List.append_nil, List.append_nil] at r1
          cases rv with
          | v u => exact cd _ v H' s1 r1 (show Den g _ H' u v from Den.weak (fun a q => by
              have := (i1 a).mp (by rw [List.append_nil]; exact q)
              rw [List.append_nil] at this
              exact this) (show Den g _ H' u v from p))
          | r k =>
            cases e3 : (refsOf as)[k]? with
            | none =>
              have cd : Cond g x W KV σ Q φ H (match (refsOf as)[k]? with
                | some n => Rs.ok (.r n) (putBack h (refsOf as) os')
                | none => .bad) := cd
              rw [e3] at cd
              exact cd.elim
            | some n =>
              have cd : Cond g x W KV σ Q φ H (match (refsOf as)[k]? with
                | some n => Rs.ok (.r n) (putBack h (refsOf as) os')
                | none => .bad) := cd
              rw [e3] at cd
              obtain ⟨p1, p2⟩ : k < φ'.length ∧ ∀ l, φ'[k]? = some (some l) → v = .ref (hd l) := p
              refine cd _ v H' s1 r1 ⟨?_, fun l hl => p2 l ((a1 k n e3).symm.trans hl)⟩
              obtain ⟨h1, h2⟩ := pick_ok e1
              obtain ⟨o, e4, _⟩ := h2 k n e3
              rw [putBack_len, rep.len]
              exact (List.getElem?_eq_some_iff.mp e4).1
          | nw ob =>
            obtain ⟨l, rp, hv, hlf⟩ := p
            obtain ⟨r2, _, i2, _⟩ := sub_back (ext := [some l]) (obs := [ob]) rep nd e1 st hl rep'.len rfl (fun a ⟨l', hl', ha⟩ => by
              simp at hl'
              subst hl'
              exact hlf a ha) rp
            cases ob with
            | ins cc fs => exact cd _ v H' (s1.skip hlf) r2 ⟨by simp [putBack_len, rep.len], fun m hm => by
                have e9 : (putBack h (refsOf as) os').length = (putBack φ (refsOf as) φ').length := by rw [putBack_len, putBack_len, rep.len]
                rw [e9] at hm
                simp at hm
                rw [← hm]
                exact hv⟩
            | lst us => exact cd _ v H' s1 r1 ⟨l, r2, hv, hlf⟩
            | lck us => exact cd _ v H' s1 r1 ⟨l, r2, hv, hlf⟩
            | dct us => exact cd _ v H' s1 r1 ⟨l, r2, hv, hlf⟩
            | dead => exact cd _ v H' s1 r1 ⟨l, r2, hv, hlf⟩
        · exact cd.elim
  · exact cd.elim
end
end VM

/-! Argument lists, displays, slices, built-in calls, methods, chains. -/
namespace VM
open PySem PySem.Spec PyProof.Rows L2
def notStar : Expr → Bool
  | .Starred _ _ => false
  | _ => true
theorem star_cons {e : Expr} {es : List Expr} {env : Env} (h : notStar e = true) : starEach (e :: es) env = (false, eval e env) :: starEach es env := by
  cases e <;> first | rfl | (cases h; done)
theorem star_pl {es : List Expr} {env : Env} (h : es.all notStar = true) : ∀ q ∈ starEach es env, q.1 = false := by
  induction es with
  | nil => intro q hq; cases hq
  | cons e es ih =>
    obtain ⟨h1, h2⟩ := Bool.and_eq_true_iff.mp (show (notStar e && es.all notStar) = true from h)
    rw [star_cons h1]
    intro q hq
    rcases List.mem_cons.mp hq with rfl | hq
    · rfl
    · exact ih h2 q hq
theorem back_pl {pos : Pos} {l : List (Bool × Sem Value)} (h : ∀ q ∈ l, q.1 = false) : (backTo pos l).any (·.1) = false := by
  rw [List.any_eq_false]
  intro q hq
  unfold backTo at hq
  obtain ⟨q', hq', rfl⟩ := List.mem_map.mp hq
  rw [show (_ : Bool × Sem Value).1 = q'.1 from rfl, h q' hq']
  decide
theorem back_all {pos : Pos} {l : List (Bool × Sem Value)} (h : ∀ q ∈ l, q.1 = false) : (backTo pos l).all (fun x => !x.1) = true := by
  rw [List.all_eq_true]
  intro q hq
  unfold backTo at hq
  obtain ⟨q', hq', rfl⟩ := List.mem_map.mp hq
  rw [show (_ : Bool × Sem Value).1 = q'.1 from rfl, h q' hq']
  rfl
def noC0 : Expr → Bool
  | .Call (.Name _ _) [] [] _ => false
  | _ => true
theorem base_pl {o : Expr} {x : Str} {env : Env} {w : Sem Value} (h : noC0 o = true) : attributeBase o x env w = w := by
  unfold attributeBase
  split
  · cases h
  · rfl
theorem allU_ok {g : GS} {x : Addr → Prop} {φ : Phi} {H : Hp} : ∀ {ss : List S} {us : List U} {vs : List V}, allU ss = some us → DenSs g x φ H ss vs → DenL g (ow φ x) H us vs
  | [], us, vs, e, d => by cases e; exact d
  | s :: ss, us, vs, e, d => by
    obtain ⟨w, ws, rfl, d1, d2⟩ := d
    unfold allU at e
    cases s with
    | r n => cases e
    | v u =>
      cases e2 : allU ss with
      | none => rw [e2] at e; cases e
      | some us' =>
        rw [e2] at e
        cases e
        exact ⟨w, ws, rfl, d1, allU_ok e2 d2⟩
theorem DenSs.len {g : GS} {x : Addr → Prop} {φ : Phi} {H : Hp} : ∀ {ss : List S} {vs : List V}, DenSs g x φ H ss vs → vs.length = ss.length
  | [], vs, d => by rw [show vs = [] from d]; rfl
  | s :: ss, vs, ⟨w, ws, e, _, d⟩ => by rw [e, List.length_cons, List.length_cons, DenSs.len d]
section
variable {X : Cx} {g : GS} {W : WX} {e ea eb ec : Expr} {es : List Expr} {f k l : EvE} {fs : EvL} {pos p : Pos}
abbrev rdU (g : GS) (W : WX) (f : Rho → Hs → Rs (List U)) : TA := RD g W KU f
theorem pa_nil2 : PA X [] (rdL g W vNil) := PA.imp pa_nil fun σ H Q ⟨x, φ, ρ, h, rs, rep, c⟩ => c φ [] H Step.refl rep rfl
theorem pa_cons2 (hn : notStar e = true) (ha : PE X e (rdE g W f)) (hb : PA X es (rdL g W fs)) : PA X (e :: es) (rdL g W (vCons f fs)) :=
  PA.imp (pa_cons (pe_s ha) hb (star_cons hn)) fun σ H Q ⟨x, φ, ρ, h, rs, rep, c⟩ => by
    refine RD.bind (k := fun ρ s h => (fs ρ h).bind fun ss h => .ok (s :: ss) h) KL.mono rs rep c fun b1 H1 φ1 h1 s1 st1 rs1 rep1 p1 c1 => ?_
    refine RD.bind (k := fun ρ ss h => .ok (s1 :: ss) h) KL.mono rs1 rep1 c1 fun b2 H2 φ2 h2 s2 st2 rs2 rep2 p2 c2 => ?_
    exact c2 φ2 (b1 :: b2) H2 Step.refl rep2 ⟨b1, b2, rfl, DenS.step st2 p1, p2⟩
theorem pa_u (ha : PA X es (rdL g W fs)) : PA X es (rdU g W (usE fs)) := PA.imp ha fun σ H Q ⟨x, φ, ρ, h, rs, rep, c⟩ => by
  refine ⟨x, φ, ρ, h, rs, rep, ?_⟩
  have c : Cond g x W KU σ Q φ H ((fs ρ h).bind fun ss h => ofO h (allU ss)) := c
  cases e1 : fs ρ h with
  | bad => rw [e1] at c; exact c
  | ex z h1 => rw [e1] at c; exact c
  | ok r h1 =>
    rw [e1] at c
    intro φ' v H' st rep' p
    obtain ⟨s, e2, q⟩ := Cond.ofO (show Cond g x W KU σ Q φ H (ofO h1 (allU r)) from c)
    exact q φ' v H' st rep' (allU_ok e2 p)
theorem lim_le {n : Nat} (h : n ≤ lim) : n ≤ sizeLine := by rw [sizeLine_eq]; exact h
theorem pe_tup2 {x1} (ha : PA X es (rdL g W fs)) : PE X (.Tuple es x1 pos) (rdE g W (vTup fs)) := PE.imp (pe_tup (pa_u ha)) fun σ H Q ⟨x, φ, ρ, h, rs, rep, c⟩ => by
  refine RD.bind (k := fun ρ us h => if us.length ≤ lim then .ok (.v (.tup us)) h else .bad) KV.mono rs rep c fun b1 H1 φ1 h1 us st1 rs1 rep1 p1 c1 => ?_
  have c1 : Cond g x W KV σ Q φ1 H1 (if us.length ≤ lim then .ok (.v (.tup us)) h1 else .bad) := c1
  split at c1
  · rename_i hl
    refine ⟨by rw [← p1.len]; exact lim_le hl, fun p hp => ?_⟩
    obtain ⟨s1, r1, d1⟩ := new_tup rep1 hp p1
    exact c1 φ1 _ _ s1 r1 d1
  · exact c1.elim
theorem pe_lst2 (ha : PA X es (rdL g W fs)) : PE X (.List es pos) (rdE g W (vLst fs)) := PE.imp (pe_lst (pa_u ha)) fun σ H Q ⟨x, φ, ρ, h, rs, rep, c⟩ => by
  refine RD.bind (k := fun ρ us h => if us.length ≤ lim then .ok (.nw (.lst us)) h else .bad) KV.mono rs rep c fun b1 H1 φ1 h1 us st1 rs1 rep1 p1 c1 => ?_
  have c1 : Cond g x W KV σ Q φ1 H1 (if us.length ≤ lim then .ok (.nw (.lst us)) h1 else .bad) := c1
  split at c1
  · rename_i hl
    refine ⟨by rw [← p1.len]; exact lim_le hl, fun p hp => ?_⟩
    obtain ⟨s1, r1, d1⟩ := new_lst rep1 hp p1
    exact c1 φ1 _ _ s1 r1 d1
  · exact c1.elim
/-! slices -/
abbrev rdO (g : GS) (W : WX) (f : EvO) : TO := RD g W KO f
variable {lo hi : Option Expr} {fl fh : EvO}
theorem po_none2 : PO X none (rdO g W fun _ h => .ok none h) := ⟨fun pins s σ H Q I ⟨x, φ, ρ, h, rs, rep, c⟩ => po_none.run pins s σ H Q I (c φ none H Step.refl rep rfl)⟩
theorem po_some2 (ha : PE X e (rdE g W f)) : PO X (some e) (rdO g W (vO f)) := ⟨fun pins s σ H Q I ⟨x, φ, ρ, h, rs, rep, c⟩ => (po_some (pe_s ha)).run pins s σ H Q I (by
  refine RD.bind (k := fun ρ a h => ofO h (intO a)) KO.mono rs rep c fun b1 H1 φ1 h1 s1 st1 rs1 rep1 p1 c1 => ?_
  obtain ⟨r, e1, q⟩ := Cond.ofO c1
  cases s1 with
  | r n => cases e1
  | v u =>
    cases u with
    | int i => cases e1; exact ⟨i, p1, q φ1 (some i) H1 Step.refl rep1 rfl⟩
    | _ => cases e1)⟩
theorem pe_slc2 (hK : X.K = g.K) {p2 : Pos} (ha : PE X e (rdE g W f)) (hl : PO X lo (rdO g W fl)) (hh : PO X hi (rdO g W fh)) : PE X (.Subscript e (.Slice lo hi none p2) pos) (rdE g W (vSlc f fl fh)) :=
  PE.imp (pe_slice (sl_ok hK) (pe_s ha) hl hh) fun σ H Q ⟨x, φ, ρ, h, rs, rep, c⟩ => by
    refine RD.bind (k := fun ρ a h => (fl ρ h).bind fun l h => (fh ρ h).bind fun u h => ofO h (slcS h a l u)) KV.mono rs rep c fun b1 H1 φ1 h1 s1 st1 rs1 rep1 p1 c1 => ?_
    refine RD.bind (k := fun ρ l h => (fh ρ h).bind fun u h => ofO h (slcS h s1 l u)) KV.mono rs1 rep1 c1 fun b2 H2 φ2 h2 s2 st2 rs2 rep2 p2 c2 => ?_
    refine RD.bind (k := fun ρ u h => ofO h (slcS h s1 s2 u)) KV.mono rs2 rep2 c2 fun b3 H3 φ3 h3 s3 st3 rs3 rep3 p3 c3 => ?_
    obtain ⟨r, e1, q⟩ := Cond.ofO c3
    rw [show b2 = s2 from p2, show b3 = s3 from p3]
    exact ⟨x, φ3, h3, s1, rep3, DenS.step st3 (DenS.step st2 p1), r, e1, q⟩
theorem pe_rev2 (hK : X.K = g.K) {kk : Nat} {p1 p2 p3 : Pos} (ha : PE X e (rdE g W f)) : PE X (.Subscript e (.Slice none none (some (.UnaryOp .USub (.Constant (.int 1) kk p1) p2)) p3) pos) (rdE g W (vRev f)) :=
  PE.imp (pe_revL (pe_s ha)) fun σ H Q ⟨x, φ, ρ, h, rs, rep, c⟩ => by
    refine RD.bind (k := fun ρ a h => ofO h (revS h a)) KV.mono rs rep c fun b1 H1 φ1 h1 s1 st1 rs1 rep1 p1 c1 => ?_
    obtain ⟨r, e1, q⟩ := Cond.ofO c1
    unfold revS at e1
    cases e2 : seqS h1 s1 with
    | none => rw [e2] at e1; cases e1
    | some pr =>
      obtain ⟨b, us⟩ := pr
      rw [e2] at e1
      cases b with
      | false => cases e1
      | true =>
        cases e1
        obtain ⟨a, vs, rfl, d, sq⟩ := seqL_ok rep1 p1 e2
        refine ⟨a, vs, rfl, .inl (.inl sq), fun p hp => ?_⟩
        obtain ⟨s2, r2, d2⟩ := new_lst rep1 hp d.rev
        exact q φ1 _ _ s2 r2 d2
/-! built-in functions, types -/
def bnm : BI → Str
  | .len => "len" | .tuple => "tuple" | .list => "list" | .all => "all" | .any => "any" | .sum => "sum"
  | .max => "max" | .min => "min" | .abs => "abs" | .int => "int" | .str => "str" | .sorted => "sorted" | .range => "range" | .intL => "int"
theorem bnm_boot (b : BI) : bootBuiltins (bnm b) = some (bid b) := by cases b <;> decide +kernel
theorem bnm_nn (b : BI) : bnm b ≠ "__name__" := by cases b <;> decide +kernel
theorem bnm_nd (b : BI) : (bnm b == ("__debug__" : Str)) = false := by cases b <;> decide +kernel
theorem pe_bi2 (hK : X.K = g.K) (hc : X.calm = true) (b : BI) (hD : b = .intL → PySem.W.nsIn X.K cStatics "sys.int_max_str_digits" = some none) (hg : Gl X (bnm b)) (hm : X.mg (bnm b) = none) (hn : (e :: es).all notStar = true) (ha : PA X (e :: es) (rdL g W fs)) : PE X (.Call (.Name (bnm b) p) (e :: es) [] pos) (rdE g W (vBi b fs)) := by
  obtain ⟨h1, h2⟩ := Bool.and_eq_true_iff.mp (show (notStar e && es.all notStar) = true from hn)
  have main : PE X (.Call (.Name (bnm b) p) (e :: es) [] pos) (tCB (rCB g (bltS b)) (rdL g W fs)) := by
    have hb := bnm_boot b
    have hcl := blt_ok (g := g) hK hc b hD
    revert hcl hb
    cases hv : bid b with
    | builtin id => exact fun hb hcl => pe_callB hcl hg hm hb ha (bnm_nn b) (bnm_nd b) (star_cons h1) (back_pl (star_pl h2))
    | type T => exact fun hb hcl => pe_callTy hcl hg hm hb ha (bnm_nn b) (bnm_nd b) (star_cons h1) (back_pl (star_pl h2))
    | _ => cases b <;> cases hv
  refine PE.imp main fun σ H Q ⟨x, φ, ρ, h, rs, rep, c⟩ => ?_
  refine RD.bind (k := fun ρ ss h => ofO h (bltS b h ss)) KV.mono rs rep c fun b1 H1 φ1 h1 s1 st1 rs1 rep1 p1 c1 => ?_
  obtain ⟨r, e1, q⟩ := Cond.ofO c1
  exact ⟨x, φ1, h1, s1, rep1, p1, r, e1, q⟩
/-! methods -/
def mnm : ME → Str
  | .append => "append" | .extend => "extend" | .pop => "pop" | .index => "index" | .join => "join" | .split => "split"
def mty : ME → String
  | .join => "str" | .split => "str" | _ => "list"
theorem met_slot (m : ME) : PlainAttrs (mty m) ∧ Slot (mty m) (mnm m) (mid m) ∧ typeOf (.builtin (mid m)) = pure (.type "method_descriptor") := by
  cases m
  · exact ⟨PySem.F.plainAttrs_list, PySem.F.slot_list_append, PySem.F.type_list_append⟩
  · exact ⟨PySem.F.plainAttrs_list, PySem.F.slot_list_extend, PySem.F.type_list_extend⟩
  · exact ⟨PySem.F.plainAttrs_list, PySem.F.slot_list_pop, PySem.F.type_list_pop⟩
  · exact ⟨PySem.F.plainAttrs_list, PySem.F.slot_list_index, PySem.F.type_list_index⟩
  · exact ⟨PySem.F.plainAttrs_str, PySem.F.slot_str_join, PySem.F.type_str_join⟩
  · exact ⟨PySem.F.plainAttrs_str, PySem.F.slot_str_split, PySem.F.type_str_split⟩
theorem metT_ok {x : Addr → Prop} {φ : Phi} {h : Hs} {H : Hp} {m : ME} {s : S} {v : V} (rep : RepH g x φ h H) (d : DenS g x φ H s v) (e : metT m h s = true) : tyV g.K (mty m) v H := by
  have L : (match seqS h s with
    | some (true, _) => true
    | _ => false) = true → tyV g.K "list" v H := fun e => by
    cases e2 : seqS h s with
    | none => rw [e2] at e; cases e
    | some pr =>
      obtain ⟨b, us⟩ := pr
      rw [e2] at e
      cases b with
      | false => cases e
      | true =>
        obtain ⟨a, vs, rfl, d, sq⟩ := seqL_ok rep d e2
        exact .inl ⟨rfl, vs, .inl (.inl sq)⟩
  cases m with
  | append => exact L e
  | extend => exact L e
  | pop => exact L e
  | index => exact L e
  | join =>
    cases s with
    | r n => cases e
    | v u =>
      cases u with
      | str z => rw [show v = .str z from d]; exact rfl
      | _ => cases e
  | split =>
    cases s with
    | r n => cases e
    | v u =>
      cases u with
      | str z => rw [show v = .str z from d]; exact rfl
      | _ => cases e
theorem met_rd {m : ME} (hK : X.K = g.K) {σ : L2.St} {H : Hp} {Q : VK} (hh : rdE g W (vMet m f fs) σ H Q) : rdS g W (sE f) σ H fun x H1 => tyV X.K (mty m) x H1 ∧ rdL g W fs σ H1 fun xs H2 => rMet g m x xs H2 Q := by
  obtain ⟨x, φ, ρ, h, rs, rep, c⟩ := hh
  refine RD.bind (k := fun ρ a h => if metT m h a = true then (fs ρ h).bind fun ss h => ofP (metS m h a ss) else .bad) KV.mono rs rep c fun b1 H1 φ1 h1 s1 st1 rs1 rep1 p1 c1 => ?_
  have c1 : Cond g x W KV σ Q φ1 H1 (if metT m h1 s1 = true then (fs ρ h1).bind fun ss h => ofP (metS m h s1 ss) else .bad) := c1
  split at c1
  · rename_i hT
    refine ⟨by rw [hK]; exact metT_ok rep1 p1 hT, ?_⟩
    refine RD.bind (k := fun ρ ss h => ofP (metS m h s1 ss)) KV.mono rs1 rep1 c1 fun b2 H2 φ2 h2 s2 st2 rs2 rep2 p2 c2 => ?_
    have c2 : Cond g x W KV σ Q φ2 H2 (ofP (metS m h2 s1 s2)) := c2
    cases e1 : metS m h2 s1 s2 with
    | none => rw [e1] at c2; exact c2.elim
    | some pr =>
      obtain ⟨r, h'⟩ := pr
      rw [e1] at c2
      exact ⟨x, φ2, h2, s1, s2, rep2, DenS.step st2 p1, p2, r, h', e1, c2⟩
  · exact c1.elim
theorem pe_met20 (hK : X.K = g.K) (hu : X.A.units + 65 < cLine) (m : ME) {apos cpos : Pos} (hb : noC0 ea = true) (hl : (apos.endLine == cpos.line) = true) (ho : PE X ea (rdE g W f)) :
    PE X (.Call (.Attribute ea (mnm m) apos) [] [] cpos) (rdE g W (vMet m f vNil)) := by
  obtain ⟨pa, sl, ty⟩ := met_slot m
  refine PE.imp (pe_bm0 pa sl ty (met_ok hK hu m) (pe_s ho) (base_pl hb) hl) fun σ H Q ⟨x, φ, ρ, h, rs, rep, c⟩ => ?_
  refine RD.bind (k := fun ρ a h => if metT m h a = true then ofP (metS m h a []) else .bad) KV.mono rs rep c fun b1 H1 φ1 h1 s1 st1 rs1 rep1 p1 c1 => ?_
  have c1 : Cond g x W KV σ Q φ1 H1 (if metT m h1 s1 = true then ofP (metS m h1 s1 []) else .bad) := c1
  split at c1
  · rename_i hT
    refine ⟨by rw [hK]; exact metT_ok rep1 p1 hT, ?_⟩
    cases e1 : metS m h1 s1 [] with
    | none => rw [e1] at c1; exact c1.elim
    | some pr =>
      obtain ⟨r, h'⟩ := pr
      rw [e1] at c1
      exact ⟨x, φ1, h1, s1, [], rep1, p1, rfl, r, h', e1, c1⟩
  · exact c1.elim
theorem pe_met2 (hK : X.K = g.K) (hu : X.A.units + 65 < cLine) (m : ME) {apos cpos : Pos} (hb : noC0 ea = true) (hl : (apos.endLine == cpos.line) = true) (hn : (e :: es).all notStar = true) (h30 : (e :: es).length < 30) (ho : PE X ea (rdE g W f)) (ha : PA X (e :: es) (rdL g W fs)) :
    PE X (.Call (.Attribute ea (mnm m) apos) (e :: es) [] cpos) (rdE g W (vMet m f fs)) := by
  obtain ⟨pa, sl, ty⟩ := met_slot m
  obtain ⟨h1, h2⟩ := Bool.and_eq_true_iff.mp (show (notStar e && es.all notStar) = true from hn)
  refine PE.imp (pe_bm pa sl ty (met_ok hK hu m) (pe_s ho) ha (base_pl hb) (by
    rw [back_all (star_pl hn), show backToKw cpos (keywordEach [] X.env) = [] from rfl]
    simpa using h30) hl (star_cons h1) (back_pl (star_pl h2))) fun σ H Q q => met_rd hK q
/-! chains -/
theorem pe_ch2 (hK : X.K = g.K) (hu : X.A.units + 65 < cLine) (o o' : CO) (ha : PE X ea (rdE g W f)) (hb : PE X eb (rdE g W k)) (hc : PE X ec (rdE g W l)) (hm : lastMarks [cop o, cop o'] [eb, ec] = false) : PE X (.Compare ea [cop o, cop o'] [eb, ec] pos) (rdE g W (vCh o o' f k l)) :=
  PE.imp (pe_chain (cmp_ok hK hu o) (cmp_ok hK hu o') (pe_s ha) (pe_s hb) (pe_s hc) hm) fun σ H Q ⟨x, φ, ρ, h, rs, rep, c⟩ => by
    refine RD.bind (k := fun ρ a h => (sE k ρ h).bind fun y h => match cmpS o h a y with
      | some true => (sE l ρ h).bind fun z h => ofO h ((cmpS o' h y z).map fun b => .v (.bl b))
      | some false => .ok (.v (.bl false)) h
      | none => .bad) KV.mono rs rep c fun b1 H1 φ1 h1 s1 st1 rs1 rep1 p1 c1 => ?_
    refine RD.bind (k := fun ρ y h => match cmpS o h s1 y with
      | some true => (sE l ρ h).bind fun z h => ofO h ((cmpS o' h y z).map fun b => .v (.bl b))
      | some false => .ok (.v (.bl false)) h
      | none => .bad) KV.mono rs1 rep1 c1 fun b2 H2 φ2 h2 s2 st2 rs2 rep2 p2 c2 => ?_
    cases e1 : cmpS o h2 s1 s2 with
    | none =>
      simp only [e1] at c2
      exact c2.elim
    | some b =>
      simp only [e1] at c2
      refine ⟨x, φ2, h2, s1, s2, rep2, DenS.step st2 p1, p2, .v (.bl b), by show (cmpS o h2 s1 s2).map _ = _; rw [e1]; rfl, fun φ3 v H3 st3 rep3 p3 => ?_⟩
      rw [show v = .bl b from p3]
      cases b with
      | false => exact ⟨false, rfl, by rw [if_neg Bool.false_ne_true]; exact c2 φ3 _ H3 st3 rep3 rfl⟩
      | true =>
        refine ⟨true, rfl, ?_⟩
        rw [if_pos rfl]
        refine RD.bind (k := fun ρ z h => ofO h ((cmpS o' h s2 z).map fun b => .v (.bl b))) KV.mono (rs2.step st3) rep3 (Cond.later KV.mono st3 c2) fun b4 H4 φ4 h4 s4 st4 rs4 rep4 p4 c4 => ?_
        obtain ⟨r, e4, q⟩ := Cond.ofO c4
        exact ⟨x, φ4, h4, s2, s4, rep4, DenS.step st4 (DenS.step st3 p2), p4, r, e4, q⟩
end
end VM

/-! Calls of the program's defs; isinstance. -/
namespace VM
open PySem PySem.Spec PyProof.Rows L2
/-! ### binding -/
/-- one list beside another -/
def Bes {α β : Type} (R : α → β → Prop) (l : List α) (m : List β) : Prop := l.length = m.length ∧ ∀ (j : Nat) (a : α), l[j]? = some a → ∃ b, m[j]? = some b ∧ R a b
theorem Bes.nil {α β : Type} {R : α → β → Prop} : Bes R [] [] := ⟨rfl, fun j a h => by simp at h⟩
theorem Bes.cons {α β : Type} {R : α → β → Prop} {a : α} {b : β} {l : List α} {m : List β} (r : R a b) (h : Bes R l m) : Bes R (a :: l) (b :: m) := ⟨by simp [h.1], fun j c e => by
  cases j with
  | zero => simp at e; subst e; exact ⟨b, rfl, r⟩
  | succ j => exact h.2 j c (by simpa using e)⟩
theorem Bes.uncons {α β : Type} {R : α → β → Prop} {a : α} {l : List α} {m : List β} (h : Bes R (a :: l) m) : ∃ b m', m = b :: m' ∧ R a b ∧ Bes R l m' := by
  cases m with
  | nil => have := h.1; simp at this
  | cons b m' =>
    obtain ⟨b', e, r⟩ := h.2 0 a rfl
    simp at e
    subst e
    exact ⟨b, m', rfl, r, by have := h.1; simpa using this, fun j c e => h.2 (j + 1) c (by simpa using e)⟩
theorem Bes.vals : ∀ {vs : List V} {us : List Value}, Bes RelV vs us → Vals vs us
  | [], us, h => by
    have := h.1
    cases us with
    | nil => exact .nil
    | cons _ _ => simp at this
  | v :: vs, us, h => by
    obtain ⟨b, m, rfl, r, h'⟩ := h.uncons
    exact .cons r (Bes.vals h')
theorem bes_vals : ∀ {vs : List V} {us : List Value}, Vals vs us → Bes RelV vs us
  | _, _, .nil => .nil
  | _, _, .cons r t => .cons r (bes_vals t)
theorem Bes.dens {g : GS} {x : Addr → Prop} {φ : Phi} {H : Hp} : ∀ {ss : List S} {vs : List V}, Bes (DenS g x φ H) ss vs → DenSs g x φ H ss vs
  | [], vs, h => by
    have := h.1
    cases vs with
    | nil => rfl
    | cons _ _ => simp at this
  | s :: ss, vs, h => by
    obtain ⟨b, m, rfl, r, h'⟩ := h.uncons
    exact ⟨b, m, rfl, r, Bes.dens h'⟩
theorem bes_dens {g : GS} {x : Addr → Prop} {φ : Phi} {H : Hp} : ∀ {ss : List S} {vs : List V}, DenSs g x φ H ss vs → Bes (DenS g x φ H) ss vs
  | [], vs, h => by rw [show vs = [] from h]; exact .nil
  | s :: ss, vs, ⟨w, ws, e, d, ds⟩ => by rw [e]; exact .cons d (bes_dens ds)
theorem bes_denL {g : GS} {x : Addr → Prop} {φ : Phi} {H : Hp} : ∀ {us : List U} {vs : List V}, DenL g (ow φ x) H us vs → Bes (DenS g x φ H) (us.map .v) vs
  | [], vs, h => by rw [show vs = [] from h]; exact .nil
  | s :: ss, vs, ⟨w, ws, e, d, ds⟩ => by rw [e]; exact .cons d (bes_denL ds)
theorem mapO_bes {ι α β : Type} {R : α → β → Prop} {f : ι → Option α} {k : ι → Option β} (h : ∀ i a, f i = some a → ∃ b, k i = some b ∧ R a b) : ∀ {l : List ι} {xs : List α}, mapO f l = some xs → ∃ ys, mapO k l = some ys ∧ Bes R xs ys
  | [], xs, e => by cases e; exact ⟨[], rfl, .nil⟩
  | i :: l, xs, e => by
    unfold mapO at e
    cases e1 : f i with
    | none => rw [e1] at e; cases e
    | some a =>
      cases e2 : mapO f l with
      | none => rw [e1, e2] at e; cases e
      | some as =>
        rw [e1, e2] at e
        cases e
        obtain ⟨b, e3, r⟩ := h i a e1
        obtain ⟨bs, e4, r2⟩ := mapO_bes h e2
        exact ⟨b :: bs, by unfold mapO; rw [e3, e4], .cons r r2⟩
theorem mapO_len {ι α : Type} {f : ι → Option α} : ∀ {l : List ι} {xs : List α}, mapO f l = some xs → xs.length = l.length
  | [], xs, e => by cases e; rfl
  | i :: l, xs, e => by
    unfold mapO at e
    cases e1 : f i with
    | none => rw [e1] at e; cases e
    | some a =>
      cases e2 : mapO f l with
      | none => rw [e1, e2] at e; cases e
      | some as =>
        rw [e1, e2] at e
        cases e
        simp [mapO_len e2]
theorem arrG_bes {α β : Type} {R : α → β → Prop} {np : Nat} {us : List α} {ks : List Nat} {ws ds : List α} {us' ws' ds' : List β} (a : Bes R us us') (b : Bes R ws ws') (c : Bes R ds ds') {xs : List α} (e : arrG np us ks ws ds = some xs) : ∃ ys, arrG np us' ks ws' ds' = some ys ∧ Bes R xs ys := by
  unfold arrG at e ⊢
  rw [← a.1]
  split at e
  · rename_i hl
    rw [if_pos hl]
    refine mapO_bes (fun j x h => ?_) e
    unfold arrJ at h ⊢
    cases e1 : us[j]? with
    | some s =>
      rw [e1] at h
      cases h
      obtain ⟨b, e2, r⟩ := a.2 j _ e1
      exact ⟨b, by rw [e2], r⟩
    | none =>
      rw [e1] at h
      rw [List.getElem?_eq_none (by rw [← a.1]; exact List.getElem?_eq_none_iff.mp e1)]
      dsimp only at h ⊢
      cases e3 : ks.idxOf? j with
      | some q =>
        rw [e3] at h
        exact b.2 q x h
      | none =>
        rw [e3] at h
        dsimp only at h ⊢
        rw [← c.1]
        split at h
        · rename_i h1
          rw [if_pos h1]
          exact c.2 _ x h
        · cases h
  · cases e
theorem arrG_len {α : Type} {np : Nat} {us : List α} {ks : List Nat} {ws ds : List α} {xs : List α} (e : arrG np us ks ws ds = some xs) : xs.length = np := by
  unfold arrG at e
  split at e
  · rw [mapO_len e, List.length_range]
  · cases e
/-- no names, nothing that stands by itself -/
theorem arrG_pl {α : Type} {np : Nat} {us : List α} {xs : List α} (e : arrG np us [] [] [] = some xs) : us = xs ∧ us.length = np := by
  have hl : us.length ≤ np := by
    unfold arrG at e
    split at e
    · assumption
    · cases e
  have main : ∀ (l : List Nat) (xs : List α), mapO (arrJ np us [] [] []) l = some xs → ∀ (j i : Nat), l[j]? = some i → us[i]? = xs[j]? ∧ i < us.length := by
    intro l
    induction l with
    | nil => intro xs e j i h; simp at h
    | cons i0 l ih =>
      intro xs e j i h
      unfold mapO at e
      cases e1 : arrJ np us [] [] [] i0 with
      | none => rw [e1] at e; cases e
      | some a =>
        cases e2 : mapO (arrJ np us [] [] []) l with
        | none => rw [e1, e2] at e; cases e
        | some as =>
          rw [e1, e2] at e
          cases e
          cases j with
          | zero =>
            simp at h
            subst h
            unfold arrJ at e1
            cases e3 : us[i0]? with
            | some b =>
              rw [e3] at e1
              cases e1
              exact ⟨rfl, (List.getElem?_eq_some_iff.mp e3).1⟩
            | none =>
              rw [e3] at e1
              dsimp only at e1
              have : ([] : List Nat).idxOf? i0 = none := rfl
              rw [this] at e1
              dsimp only at e1
              split at e1
              · simp at e1
              · cases e1
          | succ j => exact ih as e2 j i (by simpa using h)
  have e0 : mapO (arrJ np us [] [] []) (List.range np) = some xs := by
    unfold arrG at e
    rw [if_pos hl] at e
    exact e
  have hx := arrG_len e
  have hn : us.length = np := by
    cases np with
    | zero => omega
    | succ n =>
      have := (main _ _ e0 n n (by simp)).2
      omega
  refine ⟨List.ext_getElem? fun j => ?_, hn⟩
  by_cases hj : j < np
  · exact (main _ _ e0 j j (by simp [hj])).1
  · rw [List.getElem?_eq_none (by omega), List.getElem?_eq_none (by omega)]
/-- how a call with n values and those names binds -/
structure CallB (K : PySem.W.Frag) (fd : FuncData) (ps : List Str) (n : Nat) (ks : List Str) (ki : List Nat) (ds : List Value) : Prop where
  to : ∀ (s : Shared) (us ws full : List Value), K.In s.heap → us.length = n → ws.length = ks.length → arrG ps.length us ki ws ds = some full → BindsTo s fd ⟨us, ks.zip ws⟩ (ps.zip full)
theorem CallB.plain {K : PySem.W.Frag} {fd : FuncData} {ps : List Str} {n : Nat} (h : Binds K fd ps []) : CallB K fd ps n [] [] [] := ⟨fun s us ws full kin _ l2 e => by
  cases ws with
  | cons _ _ => simp at l2
  | nil =>
    obtain ⟨rfl, hl⟩ := arrG_pl e
    have := h s us kin (by rw [List.append_nil]; exact hl)
    rw [List.append_nil] at this
    exact this⟩
section
variable {X : Cx} {g : GS} {W : WX} {e ea eb ec : Expr} {es : List Expr} {f k l : EvE} {fs gs : EvL} {pos p : Pos} {kws : List Keyword} {lv : Nat}
theorem run_fnG {F : Addr} {fd : FuncData} {ps ks : List Str} {sp : Sp} {E : XK} {pins : List (Addr × Obj)} {σ : L2.St} {H : Hp} {s : Shared} {Q : VK} {us ws full : List Value} {vs : List V} (hF : FnOk X.prog X.w X.K X.mg X.base (L2.CX X.prog X.w) lv F fd ps sp) (hr : Room lv X.A) (hb : BindsTo s fd ⟨us, ks.zip ws⟩ (ps.zip full))
    (hx : PassesAt (L2.CX X.prog X.w) X σ E) (I : L2.Inv X pins σ H s) (r : Vals vs full) (h : sp vs H Q E) : wpAny (model X.prog X.w) X.A (call (.ref F) us (ks.zip ws)) (EP X pins σ Q) X.xe s := by
  refine wpAny_call (codeAny_mono (hF.run X.A X.stack s H ⟨us, ks.zip ws⟩ full vs Q E hr I.env0 hb r h) fun r s' hq => ?_)
  cases r with
  | error e => exact hx pins H s e s' I hq
  | ok fl =>
    cases fl with
    | ret u => exact I.after hq
    | next => exact False.elim hq
    | brk => exact False.elim hq
    | cont => exact False.elim hq
abbrev PKr (X : Cx) (g : GS) (W : WX) (kws : List Keyword) (f : EvL) : Prop := PK X kws (rdL g W f)
theorem pk_nil2 : PKr X g W [] vNil := ⟨fun pos pins s σ H Q I ⟨x, φ, ρ, h, rs, rep, c⟩ => pk_nil.run pos pins s σ H Q I (c φ [] H Step.refl rep rfl)⟩
theorem pk_cons2 {nm : Option Str} {kp : Pos} (ha : PE X e (rdE g W f)) (hb : PKr X g W kws fs) : PKr X g W (⟨nm, e, kp⟩ :: kws) (vCons f fs) :=
  ⟨fun pos pins s σ H Q I ⟨x, φ, ρ, h, rs, rep, c⟩ => (pk_cons (nm := nm) (kpos := kp) (pe_s ha) hb).run pos pins s σ H Q I (by
    refine RD.bind (k := fun ρ s h => (fs ρ h).bind fun ss h => .ok (s :: ss) h) KL.mono rs rep c fun b1 H1 φ1 h1 s1 st1 rs1 rep1 p1 c1 => ?_
    refine RD.bind (k := fun ρ ss h => .ok (s1 :: ss) h) KL.mono rs1 rep1 c1 fun b2 H2 φ2 h2 s2 st2 rs2 rep2 p2 c2 => ?_
    exact c2 φ2 (b1 :: b2) H2 Step.refl rep2 ⟨b1, b2, rfl, DenS.step st2 p1, p2⟩)⟩
/-- what is known of a callee at level lv -/
structure Fnx (X : Cx) (g : GS) (c : CC) (lv : Nat) (f : Nat) (n : Nat) (ks : List Str) (ki : List Nat) : Prop where
  ex : ∃ (fd : FuncData) (ps : List Str) (ds : List Value) (dvs : List V), FnOk X.prog X.w X.K X.mg X.base (L2.CX X.prog X.w) lv (g.fa f) fd ps (spV g c f ps.length) ∧ ps.length = c.np f ∧ PySem.W.keepIn X.K (.ref (g.fa f)) = true ∧ CallB X.K fd ps n ks ki ds ∧
    Vals dvs ds ∧ ∀ o H, DenL g o H (c.df f) dvs
/-- .. and their number -/
def KLn (n : Nat) : Kd (List S) (List V) := fun g x H r h φ v H' => KL g x H r h φ v H' ∧ r.length = n
theorem KLn.mono {n : Nat} : (KLn n).Mono := fun _ _ _ _ _ _ _ _ _ _ p => p
def Len (fs : EvL) (n : Nat) : Prop := ∀ ρ h ss h', fs ρ h = .ok ss h' → ss.length = n
theorem len_rd {n : Nat} (hl : Len fs n) {σ : L2.St} {H : Hp} {Q : List V → Hp → Prop} (hh : RD g W (KLn n) fs σ H Q) : rdL g W fs σ H Q := by
  obtain ⟨x, φ, ρ, h, rs, rep, c⟩ := hh
  refine ⟨x, φ, ρ, h, rs, rep, ?_⟩
  cases e1 : fs ρ h with
  | bad => rw [e1] at c; exact c
  | ex z h1 => rw [e1] at c; exact c
  | ok r h1 =>
    rw [e1] at c
    intro φ' b H' st rep' p
    exact c φ' b H' st rep' ⟨p, hl _ _ _ _ e1⟩
theorem spV_of {c : CC} {fn : Nat} {ki : List Nat} {ss kss : List S} {x : Addr → Prop} {φ : Phi} {h : Hs} {σ : L2.St} {H : Hp} {Q : VK} {vs zs : List V} {us ws ds : List Value} {dvs : List V} (rep : RepH g x φ h H) (d1 : DenSs g x φ H ss vs) (d2 : DenSs g x φ H kss zs) (hd : ∀ o H, DenL g o H (c.df fn) dvs) (r1 : Vals vs us) (r2 : Vals zs ws) (r3 : Vals dvs ds)
    (cd : Cond g x W KV σ Q φ H (match argsOf c fn ss ki kss with
      | some as => doCall c fn as h
      | none => .bad)) : ∃ full ys, arrG (c.np fn) us ki ws ds = some full ∧ Vals ys full ∧ spV g c fn (c.np fn) ys H Q (WE W σ) := by
  cases e1 : argsOf c fn ss ki kss with
  | none => rw [e1] at cd; exact cd.elim
  | some as =>
    rw [e1] at cd
    obtain ⟨ys, e2, b1⟩ := arrG_bes (bes_dens d1) (bes_dens d2) (bes_denL (hd _ _)) e1
    obtain ⟨full, e3, b2⟩ := arrG_bes (bes_vals r1) (bes_vals r2) (bes_vals r3) e2
    exact ⟨full, ys, e3, b2.vals, doCall_ok rep b1.dens (arrG_len e2) cd⟩
theorem kw_all {env : Env} {pos : Pos} : ∀ {kws : List Keyword} {ks : List Str}, kws.map (·.arg) = ks.map some → (backToKw pos (keywordEach kws env)).all (·.1.isSome) = true ∧ (backToKw pos (keywordEach kws env)).filterMap (·.1) = ks ∧ (backToKw pos (keywordEach kws env)).any (·.1.isNone) = false
  | [], ks, h => by
    cases ks with
    | nil => exact ⟨rfl, rfl, rfl⟩
    | cons _ _ => simp at h
  | ⟨nm, v, p⟩ :: kws, ks, h => by
    cases ks with
    | nil => simp at h
    | cons x ks =>
      simp at h
      obtain ⟨h1, h2⟩ := h
      obtain ⟨i1, i2, i3⟩ := kw_all (env := env) (pos := pos) (kws := kws) (ks := ks) (by simpa using h2)
      subst h1
      have e : backToKw pos (keywordEach (⟨some x, v, p⟩ :: kws) env) = (some x, _) :: backToKw pos (keywordEach kws env) := rfl
      rw [e]
      refine ⟨?_, ?_, ?_⟩
      · rw [List.all_cons, i1]; rfl
      · rw [List.filterMap_cons]
        show x :: _ = _
        rw [i2]
      · rw [List.any_cons, i3]; rfl
theorem rd_nil {σ : L2.St} {H : Hp} {Q : List V → Hp → Prop} (h : rdL g W vNil σ H Q) : Q [] H := let ⟨x, φ, ρ, hh, rs, rep, c⟩ := h; c φ [] H Step.refl rep rfl
theorem pe_call2 {c : CC} {fn : Nat} {x : Str} {ks : List (Str × Nat)} (tk : Takes X W) (F : Fnx X g c lv fn es.length (ks.map (·.1)) (ks.map (·.2))) (hr : Room lv X.A) (hg : Gl X x) (hm : X.mg x = some (.ref (g.fa fn))) (hdb : (x == ("__debug__" : Str)) = false)
    (hn : es.all notStar = true) (hk : kws.map (·.arg) = (ks.map (·.1)).map some) (l1 : Len fs es.length) (l2 : Len gs ks.length) (z1 : es = [] → fs = vNil) (z2 : kws = [] → gs = vNil) (ha : PA X es (rdL g W fs)) (hkw : PKr X g W kws gs) : PE X (.Call (.Name x p) es kws pos) (rdE g W (vCall c fn fs (ks.map (·.2)) gs)) := by
  obtain ⟨fd, ps, ds, dvs, hF, hnp, hkp, hb, hd, hdd⟩ := F.ex
  obtain ⟨k1, k2, k3⟩ := kw_all (env := X.env) (pos := pos) hk
  refine ⟨fun pins s σ H Q I hw => ?_⟩
  refine wpAny_Call_Name_kw (ld_glob I hg hm ?_ hdb)
  have hA : rdL g W fs σ H fun vs H1 => rdL g W gs σ H1 fun zs H2 => vs.length = es.length ∧ zs.length = ks.length ∧ ∀ us ws, Vals vs us → Vals zs ws → ∃ full ys, arrG ps.length us (ks.map (·.2)) ws ds = some full ∧ Vals ys full ∧ spV g c fn ps.length ys H2 Q (WE W σ) := by
    obtain ⟨x, φ, ρ, h, rs, rep, cd⟩ := hw
    refine len_rd l1 ?_
    refine RD.bind (k := fun ρ ss h => (gs ρ h).bind fun kss h => match argsOf c fn ss (ks.map (·.2)) kss with
      | some as => doCall c fn as h
      | none => .bad) KV.mono rs rep cd fun b1 H1 φ1 h1 s1 st1 rs1 rep1 p1 c1 => ?_
    refine len_rd l2 ?_
    refine RD.bind (k := fun ρ kss h => match argsOf c fn s1 (ks.map (·.2)) kss with
      | some as => doCall c fn as h
      | none => .bad) KV.mono rs1 rep1 c1 fun b2 H2 φ2 h2 s2 st2 rs2 rep2 p2 c2 => ?_
    refine ⟨(DenSs.len p1.1).trans p1.2, (DenSs.len p2.1).trans p2.2, fun us ws r1 r2 => ?_⟩
    rw [hnp]
    exact spV_of rep2 (DenSs.step st2 p1.1) p2.1 hdd r1 r2 hd c2
  have go : ∀ {us ws : List Value} {vs zs : List V} {s2 : Shared} {H2 : Hp}, L2.Inv X pins σ H2 s2 → Vals vs us → Vals zs ws → vs.length = es.length ∧ zs.length = ks.length ∧ (∀ us ws, Vals vs us → Vals zs ws → ∃ full ys, arrG ps.length us (ks.map (·.2)) ws ds = some full ∧ Vals ys full ∧ spV g c fn ps.length ys H2 Q (WE W σ)) →
      wpAny (model X.prog X.w) X.A (call (.ref (g.fa fn)) us ((ks.map (·.1)).zip ws)) (EP X pins σ Q) X.xe s2 := fun {us ws vs zs s2 H2} I2 r1 r2 ⟨e1, e2, q⟩ => by
    obtain ⟨full, ys, e3, r3, sp⟩ := q us ws r1 r2
    exact run_fnG hF hr (hb.to s2 us ws full I2.kIn (r1.length.symm.trans e1) (by rw [List.length_map]; exact r2.length.symm.trans e2) e3) (passAt tk σ) I2 r3 sp
  have nilK : ∀ {zs : List V} {ws : List Value}, kws = [] → ks = [] := fun h => by
    rw [h] at hk
    cases ks with
    | nil => rfl
    | cons _ _ => simp at hk
  cases es with
  | nil =>
    cases kws with
    | nil =>
      have : ks = [] := nilK (zs := []) (ws := []) rfl
      subst this
      refine PySem.W.callWith_K0 I.kIn hkp ?_
      rw [z1 rfl, z2 rfl] at hA
      exact go (us := []) (ws := []) I .nil .nil (rd_nil (rd_nil hA))
    | cons kw kws =>
      refine PySem.W.callWith_KW0 (h₀ := X.base) I.ok.mod.kin hkp k1 ?_ (by rw [k3]; rfl)
      rw [z1 rfl] at hA
      refine thn (hkw.run pos pins s σ H _ I (rd_nil hA)) fun ws s2 ⟨zs, H2, I2, rz, q2⟩ => ⟨I2.kIn, ?_⟩
      rw [k2]
      exact go (us := []) I2 .nil rz q2
  | cons e es =>
    obtain ⟨h1, h2⟩ := Bool.and_eq_true_iff.mp (show (notStar e && es.all notStar) = true from hn)
    cases kws with
    | nil =>
      have : ks = [] := nilK (zs := []) (ws := []) rfl
      subst this
      refine PySem.W.callWith_K (h₀ := X.base) I.ok.mod.kin hkp (thn (ha.run pos pins s σ H _ I hA) fun us s1 ⟨vs, H1, I1, r, q⟩ => ⟨I1.kIn, ?_⟩) (star_cons h1) (back_pl (star_pl h2))
      rw [z2 rfl] at q
      exact go (ws := []) I1 r .nil (rd_nil q)
    | cons kw kws =>
      refine PySem.W.callWith_KW (h₀ := X.base) I.ok.mod.kin hkp k1 (thn (ha.run pos pins s σ H _ I hA) fun us s1 ⟨vs, H1, I1, r, q⟩ => thn (hkw.run pos pins s1 σ H1 _ I1 q) fun ws s2 ⟨zs, H2, I2, rz, q2⟩ => ⟨I2.kIn, ?_⟩) (by
        rw [back_pl (star_pl hn), k3]; rfl) (star_cons h1)
      rw [k2]
      exact go I2 r rz q2
/-! a def that a name holds -/
/-- .. of any callee, every value written -/
def FnA (X : Cx) (g : GS) (c : CC) (lv fn : Nat) : Prop := ∃ (fd : FuncData) (ps : List Str), FnOk X.prog X.w X.K X.mg X.base (L2.CX X.prog X.w) lv (g.fa fn) fd ps (spV g c fn ps.length) ∧ ps.length = c.np fn ∧ PySem.W.keepIn X.K (.ref (g.fa fn)) = true ∧ Binds X.K fd ps []
theorem pe_cv2 {c : CC} {i : Nat} {x : Str} (tk : Takes X W) (F : ∀ fn, c.np fn ≠ 0 → FnA X g c lv fn) (hr : Room lv X.A) (hN : X.N[i]? = some x) (hv : Vis X.env.scope x) (hdb : (x == ("__debug__" : Str)) = false) (hcd : (x == ("__classdict__" : Str)) = false)
    (hn : (e :: es).all notStar = true) (l1 : Len fs (e :: es).length) (ha : PA X (e :: es) (rdL g W fs)) : PE X (.Call (.Name x p) (e :: es) [] pos) (rdE g W (vCv c i fs)) := by
  obtain ⟨h1, h2⟩ := Bool.and_eq_true_iff.mp (show (notStar e && es.all notStar) = true from hn)
  refine ⟨fun pins s σ H Q I ⟨y, φ, ρ, h, rs, rep, cd⟩ => ?_⟩
  unfold vCv at cd
  cases e1 : ρ[i]? with
  | none => rw [e1] at cd; exact cd.elim
  | some o =>
    cases o with
    | none => rw [e1] at cd; exact cd.elim
    | some sl =>
      cases sl with
      | r n => rw [e1] at cd; exact cd.elim
      | v u =>
        cases u with
        | fn fn =>
          rw [e1] at cd
          dsimp only at cd
          obtain ⟨v, hs, d⟩ := rs.at_ i _ e1
          cases (show v = .ref (g.fa fn) from d)
          refine wpAny_Call_Name_kw (thn ((pe_var (pos := p) hN hv hdb hcd).run pins s σ H (fun v H1 => v = .ref (g.fa fn) ∧ H1 = H) I ⟨.ref (g.fa fn), hs, rfl, rfl⟩) fun u s1 ⟨v, H1, I1, r1, q1⟩ => ?_)
          obtain ⟨rfl, rfl⟩ := q1
          cases r1
          split at cd
          · exact cd.elim
          · rename_i hz
            obtain ⟨fd, ps, hF, hnp, hk, hb⟩ := F fn hz
            have hA : rdL g W fs σ H1 fun vs H1 => spV g c fn (c.np fn) vs H1 Q (WE W σ) := by
              refine len_rd l1 ?_
              refine RD.bind (k := fun ρ ss h => if ss.length = c.np fn then doCall c fn ss h else .bad) KV.mono rs rep cd fun b1 H1 φ1 h1 s1 st1 rs1 rep1 p1 c1 => ?_
              have c1 : Cond g y W KV σ Q φ1 H1 (if s1.length = c.np fn then doCall c fn s1 h1 else .bad) := c1
              split at c1
              · rename_i hl
                exact doCall_ok rep1 p1.1 ((DenSs.len p1.1).trans hl) c1
              · exact c1.elim
            refine PySem.W.callWith_K (h₀ := X.base) I.ok.mod.kin hk (thn (ha.run pos pins s1 σ H1 _ I1 hA) fun us s2 ⟨vs, H2, I2, r, q⟩ => ⟨I2.kIn, ?_⟩) (star_cons h1) (back_pl (star_pl h2))
            rw [← hnp] at q
            have hvl : vs.length = ps.length := hF.len _ _ _ _ q
            have := hb s2 us I2.kIn (by rw [List.append_nil, ← hvl]; exact r.length.symm)
            rw [List.append_nil] at this
            exact run_fnG (ks := []) (ws := []) hF hr this (passAt tk σ) I2 r q
        | _ => rw [e1] at cd; exact cd.elim
/-! isinstance -/
def tyN : Nat → String
  | 0 => "NoneType" | 1 => "bool" | 2 => "int" | 3 => "str" | 4 => "tuple" | _ => "list"
def tyC : Ty → Option String
  | .int => some "int" | .bool => some "bool" | .str => some "str" | .list => some "list" | .tuple => some "tuple" | .cls _ => none
theorem ty_kit {t : Nat} {y : Ty} {n : String} (h : tyC y = some n) (ht : t ≤ 5) : kitB (tyN t) n = some (isTy t y) := by
  have : t = 0 ∨ t = 1 ∨ t = 2 ∨ t = 3 ∨ t = 4 ∨ t = 5 := by omega
  rcases this with rfl | rfl | rfl | rfl | rfl | rfl <;> cases y <;> first | (cases h; decide +kernel) | (cases h)
theorem tyS_ok {x : Addr → Prop} {φ : Phi} {h : Hs} {H : Hp} {s : S} {v : V} {t : Nat} (rep : RepH g x φ h H) (d : DenS g x φ H s v) (e : tyS h s = some t) : TyX g.K H v (.type (tyN t)) ∧ t ≤ 5 := by
  have T : ∀ {us : List U}, seqS h s = some (false, us) → TyX g.K H v (.type (tyN 4)) := fun e => by
    obtain ⟨a, vs, rfl, d, sq⟩ := seqT_ok rep d e
    rcases sq with ⟨sq, _⟩ | ⟨ob, its, n, e1, e2, _⟩
    · rcases sq with sq | ⟨ob, sq⟩
      · exact .base (.tup sq)
      · exact .fTuple sq
    · exact .kTuple e1 e2
  have L : ∀ {us : List U}, seqS h s = some (true, us) → TyX g.K H v (.type (tyN 5)) := fun e => by
    obtain ⟨a, vs, rfl, d, sq⟩ := seqL_ok rep d e
    exact .base (.lst sq)
  cases s with
  | r n =>
    cases e1 : seqS h (.r n) with
    | none => rw [show tyS h (.r n) = (seqS h (.r n)).map fun _ => 5 from rfl, e1] at e; cases e
    | some pr =>
      obtain ⟨b, us⟩ := pr
      rw [show tyS h (.r n) = (seqS h (.r n)).map fun _ => 5 from rfl, e1] at e
      cases e
      cases b with
      | true => exact ⟨L e1, Nat.le_refl _⟩
      | false =>
        have e1 : (match h[n]? with
          | some (MO.lst xs) => some (true, xs)
          | some (.lck xs) => some (true, xs)
          | _ => none) = some (false, us) := e1
        split at e1 <;> cases e1
  | v u =>
    cases u with
    | non => cases e; rw [show v = .non from d]; exact ⟨.base .non, by omega⟩
    | bl b => cases e; rw [show v = .bl b from d]; exact ⟨.base (.bl b), by omega⟩
    | int i => cases e; rw [show v = .int i from d]; exact ⟨.base (.int i), by omega⟩
    | str z => cases e; rw [show v = .str z from d]; exact ⟨.base (.str z), by omega⟩
    | tup us => cases e; exact ⟨T rfl, by omega⟩
    | lst us => cases e; exact ⟨L rfl, by omega⟩
    | _ => cases e
theorem kit_any {K : PySem.W.Frag} {t : Nat} (ht : t ≤ 5) : ∀ {ts : List Ty} {ns : List String}, ts.map tyC = ns.map some → PySem.W.kitAny K (.type (tyN t)) (ns.map .type) = some (ts.any (isTy t))
  | [], ns, h => by
    cases ns with
    | nil => rfl
    | cons _ _ => simp at h
  | y :: ts, ns, h => by
    cases ns with
    | nil => simp at h
    | cons n ns =>
      simp at h
      obtain ⟨h1, h2⟩ := h
      refine kitAny_cons (kit_ty (ty_kit h1 ht)) (fun hb => ?_) (fun hb => ?_)
      · rw [List.any_cons, hb, Bool.false_or]
        exact kit_any ht (by simpa using h2)
      · rw [List.any_cons, hb, Bool.true_or]
def tyNms : List Ty → Option (List String)
  | [] => some []
  | t :: ts => match tyC t, tyNms ts with
    | some n, some ns => some (n :: ns)
    | _, _ => none
theorem tyNms_ok : ∀ {ts : List Ty} {ns : List String}, tyNms ts = some ns → ts.map tyC = ns.map some
  | [], ns, h => by cases h; rfl
  | t :: ts, ns, h => by
    unfold tyNms at h
    cases e1 : tyC t with
    | none => rw [e1] at h; cases h
    | some n =>
      cases e2 : tyNms ts with
      | none => rw [e1, e2] at h; cases h
      | some ns' =>
        rw [e1, e2] at h
        cases h
        simp [e1, tyNms_ok e2]
def tyNm : Ty → Str
  | .int => "int" | .bool => "bool" | .str => "str" | .list => "list" | .tuple => "tuple" | .cls _ => ""
theorem tyNm_ok {t : Ty} {n : String} (h : tyC t = some n) : bootBuiltins (tyNm t) = some (.type n) ∧ tyNm t ≠ "__name__" ∧ (tyNm t == ("__debug__" : Str)) = false := by
  cases t <;> first | (cases h; done) | (cases h; decide +kernel)
theorem pe_ty {t : Ty} {n : String} (h : tyC t = some n) (hg : Gl X (tyNm t)) (hm : X.mg (tyNm t) = none) : PE X (.Name (tyNm t) pos) (tC (.ty n)) :=
  let ⟨h1, h2, h3⟩ := tyNm_ok h
  pe_bltn hg hm h1 rfl h2 h3
theorem boot_isi : bootBuiltins ("isinstance" : Str) = some (.builtin "isinstance") := by decide +kernel
theorem pe_isi1 (hK : X.K = g.K) {t : Ty} {n : String} {tp : Pos} (h : tyC t = some n) (hg : Gl X (tyNm t)) (hm : X.mg (tyNm t) = none) (hg0 : Gl X "isinstance") (hm0 : X.mg "isinstance" = none) (hn : notStar ea = true) (ha : PE X ea (rdE g W f)) :
    PE X (.Call (.Name "isinstance" p) [ea, .Name (tyNm t) tp] [] pos) (rdE g W (vIsi f [t])) :=
  PE.imp (pe_callB call_isi hg0 hm0 boot_isi (pa_cons (pe_s ha) (pa_cons (pe_ty h hg hm) pa_nil (star_cons rfl)) (star_cons hn)) (by decide) (by decide) (star_cons hn) (back_pl (star_pl rfl))) fun σ H Q ⟨x, φ, ρ, h0, rs, rep, c⟩ => by
    refine RD.bind (k := fun ρ a h => ofO h ((tyS h a).map fun t' => .v (.bl ([t].any (isTy t'))))) KV.mono rs rep c fun b1 H1 φ1 h1 s1 st1 rs1 rep1 p1 c1 => ?_
    obtain ⟨r, e1, q⟩ := Cond.ofO c1
    cases e2 : tyS h1 s1 with
    | none => rw [e2] at e1; cases e1
    | some t' =>
      rw [e2] at e1
      cases e1
      obtain ⟨ty, hle⟩ := tyS_ok rep1 p1 e2
      exact ⟨b1, .ty n, _, _, _, rfl, .ty n, by rw [hK]; exact ty, kit_ty (ty_kit h hle), q φ1 _ H1 Step.refl rep1 (by simp [KV, Den])⟩
def names : List Ty → List Pos → List Expr
  | t :: ts, p :: ps => .Name (tyNm t) p :: names ts ps
  | _, _ => []
theorem names_pl : ∀ {ts : List Ty} {ps : List Pos}, (names ts ps).all notStar = true
  | [], ps => by cases ps <;> rfl
  | _ :: _, [] => rfl
  | t :: ts, p :: ps => names_pl (ts := ts) (ps := ps)
def tTys : List String → TA
  | [] => tNil
  | n :: ns => tCons (tC (.ty n)) (tTys ns)
theorem pa_tys : ∀ {ts : List Ty} {ns : List String} {ps : List Pos}, tyNms ts = some ns → ps.length = ts.length → (∀ t ∈ ts, Gl X (tyNm t) ∧ X.mg (tyNm t) = none) → PA X (names ts ps) (tTys ns)
  | [], ns, ps, h, l, _ => by
    cases h
    cases ps with
    | nil => exact pa_nil
    | cons _ _ => simp at l
  | t :: ts, ns, ps, h, l, hg => by
    cases ps with
    | nil => simp at l
    | cons p ps =>
      unfold tyNms at h
      cases e1 : tyC t with
      | none => rw [e1] at h; cases h
      | some n =>
        cases e2 : tyNms ts with
        | none => rw [e1, e2] at h; cases h
        | some ns' =>
          rw [e1, e2] at h
          cases h
          exact pa_cons (pe_ty e1 (hg t (by simp)).1 (hg t (by simp)).2) (pa_tys e2 (by simpa using l) fun t' ht => hg t' (List.mem_cons_of_mem _ ht)) (star_cons rfl)
theorem tTys_run {σ : L2.St} {H : Hp} : ∀ {ns : List String} {Q : List V → Hp → Prop}, Q (ns.map .ty) H → tTys ns σ H Q
  | [], Q, q => q
  | n :: ns, Q, q => tTys_run (ns := ns) q
theorem clsV_tys : ∀ ns : List String, Paired ClsV (ns.map V.ty) (ns.map Value.type)
  | [] => .nil
  | n :: ns => .cons (.ty n) (clsV_tys ns)
theorem pe_isiN (hK : X.K = g.K) {ts : List Ty} {ns : List String} {ps : List Pos} {kk : Nat} {tp : Pos} (h : tyNms ts = some ns) (hl : ps.length = ts.length) (hg : ∀ t ∈ ts, Gl X (tyNm t) ∧ X.mg (tyNm t) = none) (h16 : ns.length ≤ lim) (hg0 : Gl X "isinstance") (hm0 : X.mg "isinstance" = none) (hn : notStar ea = true) (ha : PE X ea (rdE g W f)) :
    PE X (.Call (.Name "isinstance" p) [ea, .Tuple (names ts ps) kk tp] [] pos) (rdE g W (vIsi f ts)) :=
  PE.imp (pe_callB call_isiT hg0 hm0 boot_isi (pa_cons (pe_s ha) (pa_cons (pe_tup (pa_tys h hl hg)) pa_nil (star_cons rfl)) (star_cons hn)) (by decide) (by decide) (star_cons hn) (back_pl (star_pl rfl))) fun σ H Q ⟨x, φ, ρ, h0, rs, rep, c⟩ => by
    refine RD.bind (k := fun ρ a h => ofO h ((tyS h a).map fun t' => .v (.bl (ts.any (isTy t'))))) KV.mono rs rep c fun b1 H1 φ1 h1 s1 st1 rs1 rep1 p1 c1 => ?_
    obtain ⟨r, e1, q⟩ := Cond.ofO c1
    cases e2 : tyS h1 s1 with
    | none => rw [e2] at e1; cases e1
    | some t' =>
      rw [e2] at e1
      cases e1
      obtain ⟨ty, hle⟩ := tyS_ok rep1 p1 e2
      refine tTys_run ⟨by rw [List.length_map]; exact lim_le h16, fun p hp => ?_⟩
      have k := new_same (o := .tup (ns.map V.ty)) hp
      have s2 := step_of (φ := φ1) k
      have d2 := DenS.step s2 p1
      have rep2 := rep1.same k
      exact ⟨b1, p, ns.map V.ty, _, ns.map Value.type, _, rfl, upd_same, clsV_tys ns, by rw [hK]; exact (tyS_ok rep2 d2 e2).1, kit_any hle (tyNms_ok h), q φ1 _ _ s2 rep2 (by simp [KV, Den])⟩
end
end VM

/-! What is walked; targets. -/
namespace VM
open PySem PySem.Spec PyProof.Rows L2 RZ
def tupS : S → Bool
  | .v (.tup _) => true
  | _ => false
section
variable {g : GS} {x : Addr → Prop} {φ φ' : Phi} {h : Hs} {H H' : Hp}
theorem seqAll_ok {s : S} {v : V} {us : List U} {b : Bool} (r : RepH g x φ h H) (d : DenS g x φ H s v) (e : seqAll h s = some (b, us)) : ∃ a vs, v = .ref a ∧ DenL g (ow φ x) H us vs ∧ b = !tupS s ∧ (b = true → SqL g.K H a vs) ∧ (b = false → SqT g.K H a vs) := by
  have main : seqS h s = some (b, us) → b = (!tupS s) → ∃ a vs, v = .ref a ∧ DenL g (ow φ x) H us vs ∧ b = !tupS s ∧ (b = true → SqL g.K H a vs) ∧ (b = false → SqT g.K H a vs) := fun e hb => by
    cases b with
    | true =>
      obtain ⟨a, vs, rfl, d, sq⟩ := seqL_ok r d e
      exact ⟨a, vs, rfl, d, hb, fun _ => .inl (.inl sq), (fun z => Bool.noConfusion z)⟩
    | false =>
      obtain ⟨a, vs, rfl, d, sq⟩ := seqT_ok r d e
      exact ⟨a, vs, rfl, d, hb, (fun z => Bool.noConfusion z), fun _ => sq.sq⟩
  cases s with
  | r n =>
    refine main e ?_
    have e : (match h[n]? with
      | some (MO.lst xs) => some (true, xs)
      | some (.lck xs) => some (true, xs)
      | _ => none) = some (b, us) := e
    split at e <;> cases e <;> rfl
  | v u =>
    cases u with
    | frz xs =>
      cases e
      obtain ⟨a, vs, rfl, d, sq⟩ := frz_ok d
      exact ⟨a, vs, rfl, d, rfl, fun _ => sq, (fun z => Bool.noConfusion z)⟩
    | tup xs => cases e; exact main rfl rfl
    | lst xs => cases e; exact main rfl rfl
    | _ => cases e
/-- a source, the iterator that walks it -/
def SrcJ (g : GS) (x : Addr → Prop) (φ : Phi) (H : Hp) : Src → It → Prop
  | .seq s, J => ∃ a, DenS g x φ H s (.ref a) ∧ ((tupS s = false ∧ J = Itl g.K a) ∨ (tupS s = true ∧ J = Itt g.K a))
  | .str z, J => J = Its z
  | .enm s, J => ∃ a, DenS g x φ H s (.ref a) ∧ tupS s = false ∧ J = Ite g.K a
  | .zip s t, J => ∃ a b, DenS g x φ H s (.ref a) ∧ DenS g x φ H t (.ref b) ∧ ((tupS s = false ∧ tupS t = false ∧ J = Itz g.K a b) ∨ (tupS s = true ∧ tupS t = true ∧ J = ItzT g.K a b))
  | .rng lo st n, J => (J = Itr lo n ∧ st = 1) ∨ J = Itc lo st n
theorem DenS.lift {x' : Addr → Prop} (k : Keep (ow φ x) H (ow φ' x') H') (l : φ.length ≤ φ'.length) (bk : ∀ (n : Nat) (l : OA), n < φ.length → φ'[n]? = some (some l) → φ[n]? = some (some l)) : ∀ {s : S} {v : V}, DenS g x φ H s v → DenS g x' φ' H' s v
  | .v u, v, h => Den.keep k u v h
  | .r n, v, ⟨h1, h2⟩ => ⟨Nat.lt_of_lt_of_le h1 l, fun l hl => h2 l (bk n l h1 hl)⟩
theorem SrcJ.lift {x' : Addr → Prop} (k : Keep (ow φ x) H (ow φ' x') H') (l : φ.length ≤ φ'.length) (bk : ∀ (n : Nat) (l : OA), n < φ.length → φ'[n]? = some (some l) → φ[n]? = some (some l)) : ∀ {s : Src} {J : It}, SrcJ g x φ H s J → SrcJ g x' φ' H' s J
  | .seq s, J, ⟨a, d, q⟩ => ⟨a, d.lift k l bk, q⟩
  | .str z, J, q => q
  | .enm s, J, ⟨a, d, q⟩ => ⟨a, d.lift k l bk, q⟩
  | .zip s t, J, ⟨a, b, d, d2, q⟩ => ⟨a, b, d.lift k l bk, d2.lift k l bk, q⟩
  | .rng lo st n, J, q => q
theorem SrcJ.step (st : Step φ H φ' H') {s : Src} {J : It} (q : SrcJ g x φ H s J) : SrcJ g x φ' H' s J := q.lift (st.keep x) st.len st.back
theorem at_of {us : List U} {vs : List V} {o : Addr → Prop} {i : Nat} {u : U} (d : DenL g o H us vs) (e : us[i]? = some u) : ∃ v, vs[i]? = some v ∧ Den g o H u v := d.get e
theorem src_at {src : Src} {J : It} {i : Nat} {u : U} (rep : RepH g x φ h H) (sj : SrcJ g x φ H src J) (e : srcAt h src i = some u) : J.go i H ∧ ∀ v H', J.yld i H v H' → (∀ a, H a ≠ none → H' a = H a) ∧ Den g (ow φ x) H' u v := by
  cases src with
  | seq s =>
    obtain ⟨a, d, q⟩ := sj
    simp only [srcAt] at e
    cases e1 : seqAll h s with
    | none => rw [e1] at e; cases e
    | some p =>
      obtain ⟨b, us⟩ := p
      rw [e1] at e
      obtain ⟨a', vs, ea, dl, hb, hL, hT⟩ := seqAll_ok rep d e1
      cases ea
      obtain ⟨w, e2, dw⟩ := at_of dl e
      rcases q with ⟨ht, rfl⟩ | ⟨ht, rfl⟩
      · rw [ht] at hb
        have sq := hL hb
        refine ⟨⟨vs, w, sq, e2⟩, fun v H' ⟨e3, e4⟩ => ?_⟩
        subst e3
        have := e4 vs sq
        rw [e2] at this
        cases this
        exact ⟨fun _ _ => rfl, dw⟩
      · rw [ht] at hb
        have sq := hT hb
        refine ⟨⟨vs, w, sq, e2⟩, fun v H' ⟨e3, e4⟩ => ?_⟩
        subst e3
        have := e4 vs sq
        rw [e2] at this
        cases this
        exact ⟨fun _ _ => rfl, dw⟩
  | str z =>
    cases (show J = Its z from sj)
    simp only [srcAt] at e
    cases e1 : z.cps.toList[i]? with
    | none => rw [e1] at e; cases e
    | some c =>
      rw [e1] at e
      cases e
      have hi : i < z.cps.size := by
        have := (List.getElem?_eq_some_iff.mp e1).1
        simpa using this
      refine ⟨hi, fun v H' ⟨e3, c', e4, e5⟩ => ?_⟩
      subst e3
      have : z.cps.toList[i]? = z.cps[i]? := by simp
      rw [e1, e4] at this
      cases this
      exact ⟨fun _ _ => rfl, e5⟩
  | enm s =>
    obtain ⟨a, d, ht, rfl⟩ := sj
    simp only [srcAt] at e
    cases e1 : seqAll h s with
    | none => rw [e1] at e; cases e
    | some p =>
      obtain ⟨b, us⟩ := p
      rw [e1] at e
      obtain ⟨a', vs, ea, dl, hb, hL, hT⟩ := seqAll_ok rep d e1
      cases ea
      dsimp only at e
      cases e6 : us[i]? with
      | none => rw [e6] at e; cases e
      | some u' =>
        rw [e6] at e
        cases e
        obtain ⟨w, e2, dw⟩ := at_of dl e6
        rw [ht] at hb
        have sq := hL hb
        refine ⟨⟨vs, w, sq, e2⟩, fun v H' ⟨T, y, e3, hT2, e4, e5⟩ => ?_⟩
        subst e4 e3
        have := e5 vs sq
        rw [e2] at this
        cases this
        obtain ⟨_, _, dn⟩ := new_tup rep hT2 (us := [.int i, u']) (vs := [.int i, w]) ⟨_, _, rfl, rfl, _, _, rfl, dw, rfl⟩
        exact ⟨new_same hT2, dn⟩
  | zip s t =>
    obtain ⟨a, b, d, d2, q⟩ := sj
    simp only [srcAt] at e
    cases e1 : seqAll h s with
    | none => rw [e1] at e; cases e
    | some p =>
      cases e1' : seqAll h t with
      | none => rw [e1, e1'] at e; cases e
      | some p' =>
        obtain ⟨b1, us⟩ := p
        obtain ⟨b2, ws⟩ := p'
        rw [e1, e1'] at e
        dsimp only at e
        obtain ⟨a', vs, ea, dl, hb, hL, hT⟩ := seqAll_ok rep d e1
        cases ea
        obtain ⟨a', vs', ea, dl', hb', hL', hT'⟩ := seqAll_ok rep d2 e1'
        cases ea
        cases e6 : us[i]? with
        | none => rw [e6] at e; cases e
        | some u1 =>
          cases e7 : ws[i]? with
          | none => rw [e6, e7] at e; cases e
          | some u2 =>
            rw [e6, e7] at e
            cases e
            obtain ⟨w1, f1, dw1⟩ := at_of dl e6
            obtain ⟨w2, f2, dw2⟩ := at_of dl' e7
            rcases q with ⟨ht, ht', rfl⟩ | ⟨ht, ht', rfl⟩
            · rw [ht] at hb
              rw [ht'] at hb'
              have sq := hL hb
              have sq' := hL' hb'
              refine ⟨⟨vs, vs', w1, w2, sq, sq', f1, f2⟩, fun v H' ⟨T, y, z, e3, hT2, e4, e5, e8⟩ => ?_⟩
              subst e4 e3
              have z1 := e5 vs sq
              have z2 := e8 vs' sq'
              rw [f1] at z1
              rw [f2] at z2
              cases z1
              cases z2
              obtain ⟨_, _, dn⟩ := new_tup rep hT2 (us := [u1, u2]) (vs := [w1, w2]) ⟨_, _, rfl, dw1, _, _, rfl, dw2, rfl⟩
              exact ⟨new_same hT2, dn⟩
            · rw [ht] at hb
              rw [ht'] at hb'
              have sq := hT hb
              have sq' := hT' hb'
              refine ⟨⟨vs, vs', w1, w2, sq, sq', f1, f2⟩, fun v H' ⟨T, y, z, e3, hT2, e4, e5, e8⟩ => ?_⟩
              subst e4 e3
              have z1 := e5 vs sq
              have z2 := e8 vs' sq'
              rw [f1] at z1
              rw [f2] at z2
              cases z1
              cases z2
              obtain ⟨_, _, dn⟩ := new_tup rep hT2 (us := [u1, u2]) (vs := [w1, w2]) ⟨_, _, rfl, dw1, _, _, rfl, dw2, rfl⟩
              exact ⟨new_same hT2, dn⟩
  | rng lo st n =>
    simp only [srcAt] at e
    split at e
    · rename_i hi
      cases e
      rcases sj with ⟨rfl, rfl⟩ | rfl
      · refine ⟨hi, fun v H' ⟨e3, e4⟩ => ?_⟩
        subst e3
        exact ⟨fun _ _ => rfl, by rw [e4]; show V.int _ = V.int _; rw [Int.mul_one]⟩
      · refine ⟨hi, fun v H' ⟨e3, e4⟩ => ?_⟩
        subst e3
        exact ⟨fun _ _ => rfl, e4⟩
    · cases e
theorem src_end {src : Src} {J : It} {i : Nat} (rep : RepH g x φ h H) (sj : SrcJ g x φ H src J) (e : srcEnd h src i = true) : J.stop i H := by
  cases src with
  | seq s =>
    obtain ⟨a, d, q⟩ := sj
    simp only [srcEnd] at e
    cases e1 : seqAll h s with
    | none => rw [e1] at e; cases e
    | some p =>
      obtain ⟨b, us⟩ := p
      rw [e1] at e
      have e := Nat.le_of_ble_eq_true e
      obtain ⟨a', vs, ea, dl, hb, hL, hT⟩ := seqAll_ok rep d e1
      cases ea
      rw [dl.len] at e
      rcases q with ⟨ht, rfl⟩ | ⟨ht, rfl⟩
      · rw [ht] at hb
        exact ⟨vs, hL hb, e⟩
      · rw [ht] at hb
        exact ⟨vs, hT hb, e⟩
  | str z =>
    cases (show J = Its z from sj)
    have e := Nat.le_of_ble_eq_true e
    show z.cps.size ≤ i
    simpa using e
  | enm s =>
    obtain ⟨a, d, ht, rfl⟩ := sj
    simp only [srcEnd] at e
    cases e1 : seqAll h s with
    | none => rw [e1] at e; cases e
    | some p =>
      obtain ⟨b, us⟩ := p
      rw [e1] at e
      have e := Nat.le_of_ble_eq_true e
      obtain ⟨a', vs, ea, dl, hb, hL, hT⟩ := seqAll_ok rep d e1
      cases ea
      rw [dl.len] at e
      rw [ht] at hb
      exact ⟨vs, hL hb, e⟩
  | zip s t =>
    obtain ⟨a, b, d, d2, q⟩ := sj
    simp only [srcEnd] at e
    cases e1 : seqAll h s with
    | none => rw [e1] at e; cases e
    | some p =>
      cases e1' : seqAll h t with
      | none => rw [e1, e1'] at e; cases e
      | some p' =>
        obtain ⟨b1, us⟩ := p
        obtain ⟨b2, ws⟩ := p'
        rw [e1, e1'] at e
        dsimp only at e
        obtain ⟨a', vs, ea, dl, hb, hL, hT⟩ := seqAll_ok rep d e1
        cases ea
        obtain ⟨a', vs', ea, dl', hb', hL', hT'⟩ := seqAll_ok rep d2 e1'
        cases ea
        have e := (Bool.or_eq_true_iff.mp e).imp Nat.le_of_ble_eq_true Nat.le_of_ble_eq_true
        rw [dl.len, dl'.len] at e
        rcases q with ⟨ht, ht', rfl⟩ | ⟨ht, ht', rfl⟩
        · rw [ht] at hb
          rw [ht'] at hb'
          exact ⟨vs, vs', hL hb, hL' hb', e⟩
        · rw [ht] at hb
          rw [ht'] at hb'
          exact ⟨vs, vs', hT hb, hT' hb', e⟩
  | rng lo st n =>
    have e' : n ≤ i := Nat.le_of_ble_eq_true e
    rcases sj with ⟨rfl, rfl⟩ | rfl
    · exact e'
    · exact e'
end
def KI : Kd (Src × Nat) It := fun g x _ p _ φ J H => SrcJ g x φ H p.1 J
theorem KI.mono : KI.Mono := fun _ _ _ _ _ _ _ _ _ _ p => p
abbrev rdI (g : GS) (W : WX) (f : EvI) : TI := RD g W KI f
section
variable {X : Cx} {g : GS} {W : WX} {tg e ea eb ec : Expr} {es : List Expr} {f k l : EvE} {fs gs : EvL} {pos p : Pos}
theorem pi_val2 (hK : X.K = g.K) (he : PE X e (rdE g W f)) : PI X tg e (rdI g W (iVal f)) := ⟨fun pins s σ H R I ⟨x, φ, ρ, h, rs, rep, c⟩ => by
  have c : Cond g x W KI σ R φ H ((sE f ρ h).bind fun s h => match s with
    | .v (.str z) => .ok (.str z, z.cps.toList.length) h
    | s => match seqAll h s with
      | some (_, us) => .ok (.seq s, us.length) h
      | none => .bad) := c
  cases e1 : sE f ρ h with
  | bad => rw [e1] at c; exact c.elim
  | ex z h1 =>
    rw [e1] at c
    exact (pi_list (pe_s he)).run pins s σ H R I ⟨x, φ, ρ, h, rs, rep, by rw [e1]; exact c⟩
  | ok sl h1 =>
    rw [e1] at c
    have sq : ∀ (b : Bool) (us : List U), seqAll h1 sl = some (b, us) → Cond g x W KI σ R φ H (.ok (.seq sl, us.length) h1) → wpAny (model X.prog X.w) X.A (eval e X.env) (fun v s1 => wpAny (model X.prog X.w) X.A (pyIter v) (PIE X pins σ tg R) X.xe s1) X.xe s := fun b us e2 c => by
      cases b with
      | true =>
        refine (pi_list (pe_s he)).run pins s σ H R I ⟨x, φ, ρ, h, rs, rep, ?_⟩
        rw [e1]
        intro φ' v H' st rep' d
        obtain ⟨a, vs, rfl, dl, hb, hL, _⟩ := seqAll_ok rep' d e2
        rw [hK]
        exact ⟨a, rfl, ⟨vs, hL rfl⟩, c φ' _ H' st rep' ⟨a, d, .inl ⟨by simpa using hb.symm, rfl⟩⟩⟩
      | false =>
        refine (pi_tup (pe_s he)).run pins s σ H R I ⟨x, φ, ρ, h, rs, rep, ?_⟩
        rw [e1]
        intro φ' v H' st rep' d
        obtain ⟨a, vs, rfl, dl, hb, _, hT⟩ := seqAll_ok rep' d e2
        rw [hK]
        exact ⟨a, rfl, ⟨vs, hT rfl⟩, c φ' _ H' st rep' ⟨a, d, .inr ⟨by simpa using hb.symm, rfl⟩⟩⟩
    have gen : Cond g x W KI σ R φ H (match seqAll h1 sl with
      | some (_, us) => .ok (.seq sl, us.length) h1
      | none => .bad) → wpAny (model X.prog X.w) X.A (eval e X.env) (fun v s1 => wpAny (model X.prog X.w) X.A (pyIter v) (PIE X pins σ tg R) X.xe s1) X.xe s := fun c => by
      cases e2 : seqAll h1 sl with
      | none => rw [e2] at c; exact c.elim
      | some p =>
        rw [e2] at c
        exact sq p.1 p.2 e2 c
    cases sl with
    | r n => exact gen c
    | v u =>
      cases u with
      | str z =>
        refine (pi_str (pe_s he)).run pins s σ H R I ⟨x, φ, ρ, h, rs, rep, ?_⟩
        rw [e1]
        intro φ' v H' st rep' d
        exact ⟨z, d, c φ' _ H' st rep' rfl⟩
      | _ => exact gen c⟩
theorem pi_enm2 (hK : X.K = g.K) {elts : List Expr} {kk : Nat} {tpos : Pos} (hg : Gl X "enumerate") (hm : X.mg "enumerate" = none) (hn : notStar e = true) (he : PE X e (rdE g W f)) : PI X (.Tuple elts kk tpos) (.Call (.Name "enumerate" p) [e] [] pos) (rdI g W (iEnm f)) :=
  ⟨fun pins s σ H R I hh => (pi_enum hg hm (pa_cons (pe_s he) pa_nil (star_cons hn)) (star_cons hn)).run pins s σ H R I (by
    obtain ⟨x, φ, ρ, h, rs, rep, c⟩ := hh
    refine RD.bind (k := fun ρ s h => match seqAll h s with
      | some (true, us) => .ok (.enm s, us.length) h
      | _ => .bad) KI.mono rs rep c fun b1 H1 φ1 h1 s1 st1 rs1 rep1 p1 c1 => ?_
    have c1 : Cond g x W KI σ R φ1 H1 (match seqAll h1 s1 with
      | some (true, us) => .ok (.enm s1, us.length) h1
      | _ => .bad) := c1
    cases e2 : seqAll h1 s1 with
    | none => rw [e2] at c1; exact c1.elim
    | some pr =>
      obtain ⟨b, us⟩ := pr
      rw [e2] at c1
      cases b with
      | false => exact c1.elim
      | true =>
        obtain ⟨a, vs, rfl, dl, hb, hL, _⟩ := seqAll_ok rep1 p1 e2
        rw [hK]
        exact ⟨a, vs, rfl, hL rfl, c1 φ1 _ H1 Step.refl rep1 ⟨a, p1, by simpa using hb.symm, rfl⟩⟩)⟩
theorem pi_zip2 (hK : X.K = g.K) {elts : List Expr} {kk : Nat} {tpos : Pos} (hg : Gl X "zip") (hm : X.mg "zip" = none) (hn : notStar ea = true) (hn2 : notStar eb = true) (ha : PE X ea (rdE g W f)) (hb : PE X eb (rdE g W k)) : PI X (.Tuple elts kk tpos) (.Call (.Name "zip" p) [ea, eb] [] pos) (rdI g W (iZp f k)) :=
  ⟨fun pins s σ H R I hh => (pi_zipA hg hm (pa_cons (pe_s ha) (pa_cons (pe_s hb) pa_nil (star_cons hn2)) (star_cons hn)) (star_cons hn) (back_pl (star_pl (by simp [hn2])))).run pins s σ H R I (by
    obtain ⟨x, φ, ρ, h, rs, rep, c⟩ := hh
    refine RD.bind (k := fun ρ s h => (sE k ρ h).bind fun t h => match seqAll h s, seqAll h t with
      | some (b, us), some (d, ws) => if b = d then .ok (.zip s t, min us.length ws.length) h else .bad
      | _, _ => .bad) KI.mono rs rep c fun b1 H1 φ1 h1 s1 st1 rs1 rep1 p1 c1 => ?_
    refine RD.bind (k := fun ρ t h => match seqAll h s1, seqAll h t with
      | some (b, us), some (d, ws) => if b = d then .ok (.zip s1 t, min us.length ws.length) h else .bad
      | _, _ => .bad) KI.mono rs1 rep1 c1 fun b2 H2 φ2 h2 s2 st2 rs2 rep2 p2 c2 => ?_
    have c2 : Cond g x W KI σ R φ2 H2 (match seqAll h2 s1, seqAll h2 s2 with
      | some (b, us), some (d, ws) => if b = d then .ok (.zip s1 s2, min us.length ws.length) h2 else .bad
      | _, _ => .bad) := c2
    cases e2 : seqAll h2 s1 with
    | none => rw [e2] at c2; exact c2.elim
    | some pr =>
      cases e3 : seqAll h2 s2 with
      | none => rw [e2, e3] at c2; exact c2.elim
      | some pr2 =>
        obtain ⟨b, us⟩ := pr
        obtain ⟨d, ws⟩ := pr2
        rw [e2, e3] at c2
        have c2 : Cond g x W KI σ R φ2 H2 (if b = d then .ok (.zip s1 s2, min us.length ws.length) h2 else .bad) := c2
        split at c2
        · rename_i hbd
          subst hbd
          have p1' := DenS.step st2 p1
          obtain ⟨a, vs, ea, dl, hb, hL, hT⟩ := seqAll_ok rep2 p1' e2
          subst ea
          obtain ⟨a', vs', ea, dl', hb', hL', hT'⟩ := seqAll_ok rep2 p2 e3
          subst ea
          rw [hK]
          cases b with
          | true => exact ⟨a, a', vs, vs', rfl, .inl ⟨hL rfl, hL' rfl, c2 φ2 _ H2 Step.refl rep2 ⟨a, a', p1', p2, .inl ⟨by simpa using hb.symm, by simpa using hb'.symm, rfl⟩⟩⟩⟩
          | false => exact ⟨a, a', vs, vs', rfl, .inr ⟨hT rfl, hT' rfl, c2 φ2 _ H2 Step.refl rep2 ⟨a, a', p1', p2, .inr ⟨by simpa using hb.symm, by simpa using hb'.symm, rfl⟩⟩⟩⟩
        · exact c2.elim)⟩
theorem rngN_ok {a b d : Int} {n : Nat} (h : rngN a b d = some n) : (-1000000 ≤ a ∧ a ≤ 16000000 ∧ -1000000 ≤ b ∧ b ≤ 16000000) ∧ ((d = 1 ∧ n = (b - a).toNat) ∨ (d = -1 ∧ n = (a - b).toNat)) := by
  unfold rngN at h
  split at h
  · rename_i hr
    refine ⟨hr, ?_⟩
    split at h
    · cases h; exact .inl ⟨by assumption, rfl⟩
    · split at h
      · cases h; exact .inr ⟨by assumption, rfl⟩
      · cases h
  · cases h
theorem rgC_up {i j : Int} (ha : -(2 ^ 62) ≤ i) (ha' : i < 2 ^ 62) (hb : -(2 ^ 62) ≤ j) (hb' : j < 2 ^ 62) : RgC i j 1 (j - i).toNat := by
  refine ⟨by decide, by decide, ?_, PyProof.Rows.rangeSize_nat i j⟩
  unfold Builtin.Range.small
  rw [PyProof.Rows.rangeSize_nat]
  simp only [Builtin.Range.rangeFitsLong, Bool.and_eq_true, Bool.or_eq_true, decide_eq_true_eq, beq_iff_eq, show ((1 : Int) > 0) by decide, if_true]
  omega
def iRngK (ss : List S) (h : Hs) : Rs (Src × Nat) := match ss with
  | [.v (.int n)] => ofO h ((rngN 0 n 1).map fun k => (.rng 0 1 k, k))
  | [.v (.int a), .v (.int b)] => ofO h ((rngN a b 1).map fun k => (.rng a 1 k, k))
  | [.v (.int a), .v (.int b), .v (.int d)] => ofO h ((rngN a b d).map fun k => (.rng a d k, k))
  | _ => .bad
theorem pi_rng2 (hg : Gl X "range") (hm : X.mg "range" = none) (hn : es.all notStar = true) (h0 : es ≠ []) (h3 : es.length ≤ 3) (l : Len fs es.length) (ha : PA X es (rdL g W fs)) : PI X tg (.Call (.Name "range" p) es [] pos) (rdI g W (iRng fs)) := by
  have rd : ∀ {σ : L2.St} {H : Hp} {R : It → Hp → Prop}, rdI g W (iRng fs) σ H R → RD g W (KLn es.length) fs σ H fun vs H1 => ∃ x φ h ss, RepH g x φ h H1 ∧ DenSs g x φ H1 ss vs ∧ ss.length = es.length ∧ Cond g x W KI σ R φ H1 (iRngK ss h) := fun {σ H R} ⟨x, φ, ρ, h, rs, rep, c⟩ => by
    refine RD.bind (k := fun ρ ss h => iRngK ss h) KI.mono rs rep c fun b1 H1 φ1 h1 s1 st1 rs1 rep1 p1 c1 => ?_
    exact ⟨x, φ1, h1, s1, rep1, p1.1, p1.2, c1⟩
  have one : ∀ {x : Addr → Prop} {φ : Phi} {H : Hp} {u : S} {ss : List S} {vs : List V}, DenSs g x φ H (u :: ss) vs → ∃ w ws, vs = w :: ws ∧ DenS g x φ H u w ∧ DenSs g x φ H ss ws := fun h => h
  cases es with
  | nil => exact absurd rfl h0
  | cons a es =>
    cases es with
    | nil =>
      refine ⟨fun pins s σ H R I hh => (pi_range1 hg hm ha (star_cons (by simpa using hn))).run pins s σ H R I (len_rd l ?_)⟩
      obtain ⟨x, φ, ρ, h, rs, rep, c⟩ := rd hh
      refine ⟨x, φ, ρ, h, rs, rep, Cond.mono (fun vs H1 ⟨x1, φ1, h1, ss, rep1, d, l1, c1⟩ => ?_) c⟩
      cases ss with
      | nil => cases l1
      | cons u ss =>
        cases ss with
        | cons _ _ => cases l1
        | nil =>
          obtain ⟨w, ws, rfl, dw, dws⟩ := d
          cases (show ws = [] from dws)
          cases u with
          | r n => exact c1.elim
          | v u =>
            cases u with
            | int n =>
              obtain ⟨r, e1, q⟩ := Cond.ofO (show Cond g x1 W KI σ R φ1 H1 (ofO h1 ((rngN 0 n 1).map fun k => (Src.rng 0 1 k, k))) from c1)
              cases e2 : rngN 0 n 1 with
              | none => rw [e2] at e1; cases e1
              | some k =>
                rw [e2] at e1
                cases e1
                obtain ⟨⟨_, _, b1, b2⟩, hd | hd⟩ := rngN_ok e2
                · refine ⟨n, by rw [show w = .int n from dw], by omega, by omega, q φ1 _ H1 Step.refl rep1 (.inl ⟨?_, rfl⟩)⟩
                  rw [hd.2, Int.sub_zero]
                · exact absurd hd.1 (by decide)
            | _ => exact c1.elim
    | cons b es =>
      cases es with
      | nil =>
        obtain ⟨n1, n2⟩ := Bool.and_eq_true_iff.mp (show (notStar a && [b].all notStar) = true from hn)
        refine ⟨fun pins s σ H R I hh => (pi_range2 hg hm ha (by rw [star_cons n1, star_cons (by simpa using n2)]; rfl) (by rw [star_cons (by simpa using n2)]; rfl)).run pins s σ H R I (len_rd l ?_)⟩
        obtain ⟨x, φ, ρ, h, rs, rep, c⟩ := rd hh
        refine ⟨x, φ, ρ, h, rs, rep, Cond.mono (fun vs H1 ⟨x1, φ1, h1, ss, rep1, d, l1, c1⟩ => ?_) c⟩
        cases ss with
        | nil => cases l1
        | cons u ss =>
          cases ss with
          | nil => cases l1
          | cons u2 ss =>
            cases ss with
            | cons _ _ => cases l1
            | nil =>
              obtain ⟨w, ws, rfl, dw, w2, ws2, rfl, dw2, dws⟩ := d
              cases (show ws2 = [] from dws)
              cases u with
              | r n => exact c1.elim
              | v u =>
                cases u2 with
                | r n => cases u <;> exact c1.elim
                | v u2 =>
                  cases u with
                  | int m =>
                    cases u2 with
                    | int n =>
                      obtain ⟨r, e1, q⟩ := Cond.ofO (show Cond g x1 W KI σ R φ1 H1 (ofO h1 ((rngN m n 1).map fun k => (Src.rng m 1 k, k))) from c1)
                      cases e2 : rngN m n 1 with
                      | none => rw [e2] at e1; cases e1
                      | some k =>
                        rw [e2] at e1
                        cases e1
                        obtain ⟨⟨_, _, b1, b2⟩, hd | hd⟩ := rngN_ok e2
                        · refine ⟨m, n, by rw [show w = .int m from dw, show w2 = .int n from dw2], ⟨by omega, by omega, by omega, by omega⟩, q φ1 _ H1 Step.refl rep1 (.inl ⟨?_, rfl⟩)⟩
                          rw [hd.2]
                        · exact absurd hd.1 (by decide)
                    | _ => exact c1.elim
                  | _ => cases u2 <;> exact c1.elim
      | cons c es =>
        cases es with
        | cons _ _ => simp at h3
        | nil =>
          obtain ⟨n1, n2⟩ := Bool.and_eq_true_iff.mp (show (notStar a && [b, c].all notStar) = true from hn)
          refine ⟨fun pins s σ H R I hh => (pi_range3 hg hm ha (star_cons n1) (back_pl (star_pl n2))).run pins s σ H R I (len_rd l ?_)⟩
          obtain ⟨x, φ, ρ, h, rs, rep, c⟩ := rd hh
          refine ⟨x, φ, ρ, h, rs, rep, Cond.mono (fun vs H1 ⟨x1, φ1, h1, ss, rep1, d, l1, c1⟩ => ?_) c⟩
          cases ss with
          | nil => cases l1
          | cons u ss =>
            cases ss with
            | nil => cases l1
            | cons u2 ss =>
              cases ss with
              | nil => cases l1
              | cons u3 ss =>
                cases ss with
                | cons _ _ => cases l1
                | nil =>
                  obtain ⟨w, ws, rfl, dw, w2, ws2, rfl, dw2, w3, ws3, rfl, dw3, dws⟩ := d
                  cases (show ws3 = [] from dws)
                  unfold iRngK at c1
                  split at c1
                  · rename_i heq; cases heq
                  · rename_i heq; cases heq
                  · rename_i a1 a2 a3 heq
                    cases heq
                    obtain ⟨r, e1, q⟩ := Cond.ofO c1
                    cases e2 : rngN a1 a2 a3 with
                    | none => rw [e2] at e1; cases e1
                    | some k =>
                      rw [e2] at e1
                      cases e1
                      obtain ⟨⟨b1, b2, b3, b4⟩, hd | hd⟩ := rngN_ok e2
                      · obtain ⟨rfl, rfl⟩ := hd
                        refine ⟨a1, a2, 1, _, by rw [show w = .int a1 from dw, show w2 = .int a2 from dw2, show w3 = .int 1 from dw3], rgC_up (by omega) (by omega) (by omega) (by omega), q φ1 _ H1 Step.refl rep1 (.inr rfl)⟩
                      · obtain ⟨rfl, rfl⟩ := hd
                        exact ⟨a1, a2, -1, _, by rw [show w = .int a1 from dw, show w2 = .int a2 from dw2, show w3 = .int (-1) from dw3], RgC.neg (by omega) (by omega) (by omega) (by omega), q φ1 _ H1 Step.refl rep1 (.inr rfl)⟩
                  · exact c1.elim
end
end VM

/-! Targets; list comprehensions. -/
namespace VM
open PySem PySem.Spec PyProof.Rows L2 RZ
/-- the slots beside is are as they were -/
def Off (is : List Nat) (σ σ' : L2.St) : Prop := σ'.length = σ.length ∧ ∀ i, i ∉ is → σ'[i]? = σ[i]?
theorem Off.refl {σ : L2.St} : Off [] σ σ := ⟨rfl, fun _ _ => rfl⟩
theorem Off.trans {is js : List Nat} {σ σ1 σ2 : L2.St} (a : Off is σ σ1) (b : Off js σ1 σ2) : Off (is ++ js) σ σ2 := ⟨b.1.trans a.1, fun i hi => by
  rw [List.mem_append, not_or] at hi
  rw [b.2 i hi.2, a.2 i hi.1]⟩
theorem off_set {i : Nat} {v : Option V} {σ : L2.St} : Off [i] σ (σ.set i v) := ⟨List.length_set .., fun j hj => by rw [List.getElem?_set_ne (fun e => hj (by rw [e]; simp))]⟩
theorem wipe_get {σ : L2.St} : ∀ {vs : List Nat} {i : Nat}, (wipe σ vs)[i]? = if i ∈ vs ∧ i < σ.length then some none else σ[i]?
  | [], i => by simp [wipe]
  | v :: vs, i => by
    unfold wipe
    by_cases e : v = i
    · subst e
      by_cases hl : v < σ.length
      · rw [List.getElem?_set_self (by rw [wipe_length]; exact hl)]
        simp [hl]
      · rw [List.getElem?_eq_none (by rw [List.length_set, wipe_length]; omega), if_neg (fun q => hl q.2), List.getElem?_eq_none (by omega)]
    · rw [List.getElem?_set_ne e, wipe_get]
      have : (i ∈ v :: vs ∧ i < σ.length) ↔ (i ∈ vs ∧ i < σ.length) := by
        simp only [List.mem_cons]
        constructor
        · rintro ⟨h | h, q⟩
          · exact absurd h.symm e
          · exact ⟨h, q⟩
        · rintro ⟨h, q⟩
          exact ⟨.inr h, q⟩
      by_cases h : i ∈ vs ∧ i < σ.length
      · rw [if_pos h, if_pos (this.mpr h)]
      · rw [if_neg h, if_neg (fun q => h (this.mp q))]
theorem wipe_off {is vs : List Nat} {σ σ' : L2.St} (h : Off is σ σ') (s : ∀ i ∈ is, i ∈ vs) : wipe σ' vs = wipe σ vs := List.ext_getElem? fun i => by
  rw [wipe_get, wipe_get, h.1]
  by_cases hv : i ∈ vs ∧ i < σ.length
  · rw [if_pos hv, if_pos hv]
  · rw [if_neg hv, if_neg hv]
    by_cases hi : i ∈ is
    · have : ¬ i < σ.length := fun q => hv ⟨s i hi, q⟩
      rw [List.getElem?_eq_none (by rw [h.1]; omega), List.getElem?_eq_none (by omega)]
    · exact h.2 i hi
theorem wipe_wipe {vs : List Nat} {σ : L2.St} : wipe (wipe σ vs) vs = wipe σ vs := List.ext_getElem? fun i => by
  rw [wipe_get, wipe_length]
  by_cases hv : i ∈ vs ∧ i < σ.length
  · rw [if_pos hv, wipe_get, if_pos hv]
  · rw [if_neg hv]
theorem wipeR_get {ρ : Rho} : ∀ {vs : List Nat} {i : Nat}, (wipeR ρ vs)[i]? = if i ∈ vs ∧ i < ρ.length then some none else ρ[i]?
  | [], i => by simp [wipeR]
  | v :: vs, i => by
    have hlen : ∀ vs : List Nat, (wipeR ρ vs).length = ρ.length := fun vs => by
      induction vs with
      | nil => rfl
      | cons v vs ih => unfold wipeR; rw [List.length_set, ih]
    unfold wipeR
    by_cases e : v = i
    · subst e
      by_cases hl : v < ρ.length
      · rw [List.getElem?_set_self (by rw [hlen]; exact hl)]
        simp [hl]
      · rw [List.getElem?_eq_none (by rw [List.length_set, hlen]; omega), if_neg (fun q => hl q.2), List.getElem?_eq_none (by omega)]
    · rw [List.getElem?_set_ne e, wipeR_get]
      have : (i ∈ v :: vs ∧ i < ρ.length) ↔ (i ∈ vs ∧ i < ρ.length) := by
        simp only [List.mem_cons]
        constructor
        · rintro ⟨h | h, q⟩
          · exact absurd h.symm e
          · exact ⟨h, q⟩
        · rintro ⟨h, q⟩
          exact ⟨.inr h, q⟩
      by_cases h : i ∈ vs ∧ i < ρ.length
      · rw [if_pos h, if_pos (this.mpr h)]
      · rw [if_neg h, if_neg (fun q => h (this.mp q))]
section
variable {g : GS} {x : Addr → Prop} {φ : Phi} {h : Hs} {H : Hp}
theorem RelS.wipe {ρ : Rho} {σ : L2.St} {vs : List Nat} (r : RelS g x φ H ρ σ) : RelS g x φ H (wipeR ρ vs) (L2.wipe σ vs) := by
  have hlen : ∀ vs : List Nat, (wipeR ρ vs).length = ρ.length := fun vs => by
    induction vs with
    | nil => rfl
    | cons v vs ih => unfold wipeR; rw [List.length_set, ih]
  refine ⟨by rw [hlen, wipe_length, r.len], fun i s e => ?_⟩
  rw [wipeR_get] at e
  by_cases hv : i ∈ vs ∧ i < ρ.length
  · rw [if_pos hv] at e
    cases e
  · rw [if_neg hv] at e
    obtain ⟨v, e1, d⟩ := r.at_ i s e
    refine ⟨v, ?_, d⟩
    rw [wipe_get, if_neg (by rw [← r.len]; exact hv)]
    exact e1
theorem RelS.set {ρ : Rho} {σ : L2.St} {i : Nat} {s : S} {v : V} (r : RelS g x φ H ρ σ) (d : DenS g x φ H s v) : RelS g x φ H (ρ.set i (some s)) (σ.set i (some v)) := by
  refine ⟨by rw [List.length_set, List.length_set, r.len], fun j s' e => ?_⟩
  by_cases e1 : i = j
  · subst e1
    have hl : i < ρ.length := by
      have := (List.getElem?_eq_some_iff.mp e).1
      rw [List.length_set] at this
      exact this
    rw [List.getElem?_set_self hl] at e
    cases e
    exact ⟨v, by rw [List.getElem?_set_self (by rw [← r.len]; exact hl)], d⟩
  · rw [List.getElem?_set_ne e1] at e
    obtain ⟨v', e2, d'⟩ := r.at_ j s' e
    exact ⟨v', by rw [List.getElem?_set_ne e1]; exact e2, d'⟩
theorem RelS.unset {ρ : Rho} {σ : L2.St} {i : Nat} {v : Option V} (r : RelS g x φ H ρ σ) : RelS g x φ H (ρ.set i none) (σ.set i v) := by
  refine ⟨by rw [List.length_set, List.length_set, r.len], fun j s' e => ?_⟩
  by_cases e1 : i = j
  · subst e1
    have hl : i < ρ.length := by
      have := (List.getElem?_eq_some_iff.mp e).1
      rw [List.length_set] at this
      exact this
    rw [List.getElem?_set_self hl] at e
    cases e
  · rw [List.getElem?_set_ne e1] at e
    obtain ⟨v', e2, d'⟩ := r.at_ j s' e
    exact ⟨v', by rw [List.getElem?_set_ne e1]; exact e2, d'⟩
theorem RelS.lift {x' : Addr → Prop} {φ' : Phi} {H' : Hp} {ρ : Rho} {σ : L2.St} (k : Keep (ow φ x) H (ow φ' x') H') (l : φ.length ≤ φ'.length) (bk : ∀ (n : Nat) (l : OA), n < φ.length → φ'[n]? = some (some l) → φ[n]? = some (some l)) (r : RelS g x φ H ρ σ) : RelS g x' φ' H' ρ σ :=
  ⟨r.len, fun i s e => let ⟨v, e1, d⟩ := r.at_ i s e; ⟨v, e1, d.lift k l bk⟩⟩
end
/-! ### targets -/
/-- a target's reading: which slots it may write, the store -/
def GD (g : GS) (is : List Nat) (f : EvG) : TG := fun v σ H Q => ∃ x φ ρ h r H0, RelS g x φ H ρ σ ∧ RepH g x φ h H ∧ KV g x H0 r h φ v H ∧ ∃ ρ' h', f r ρ h = .ok ρ' h' ∧
  ∀ φ' σ' H', Step φ H φ' H' → RelS g x φ' H' ρ' σ' → RepH g x φ' h' H' → Off is σ σ' → Q σ' H'
def GDs (g : GS) (is : List Nat) (f : EvGs) : TGs := fun vs σ H Q => ∃ x φ ρ h us, RelS g x φ H ρ σ ∧ RepH g x φ h H ∧ DenL g (ow φ x) H us vs ∧ ∃ ρ' h', f us ρ h = .ok ρ' h' ∧
  ∀ φ' σ' H', Step φ H φ' H' → RelS g x φ' H' ρ' σ' → RepH g x φ' h' H' → Off is σ σ' → Q σ' H'
/-- .. of one value -/
def GD1 (g : GS) (is : List Nat) (f : EvGs) : TG := fun v σ H Q => GDs g is f [v] σ H Q
theorem assign_cons {e : Expr} {es : List Expr} {env : Env} (h : notStar e = true) : assignEach (e :: es) env = (false, assign e env) :: assignEach es env := by
  cases e <;> first | rfl | (cases h; done)
theorem assign_pl {es : List Expr} {env : Env} (h : es.all notStar = true) : (assignEach es env).length = es.length ∧ ∀ q ∈ assignEach es env, q.1 = false := by
  induction es with
  | nil => exact ⟨rfl, fun q hq => by cases hq⟩
  | cons e es ih =>
    obtain ⟨h1, h2⟩ := Bool.and_eq_true_iff.mp (show (notStar e && es.all notStar) = true from h)
    obtain ⟨i1, i2⟩ := ih h2
    rw [assign_cons h1]
    refine ⟨by simp [i1], fun q hq => ?_⟩
    rcases List.mem_cons.mp hq with rfl | hq
    · rfl
    · exact i2 q hq
theorem find_pl {α : Type} : ∀ {l : List (Bool × α)}, (∀ q ∈ l, q.1 = false) → l.findIdx? (·.1) = none
  | [], _ => rfl
  | a :: l, h => by
    rw [List.findIdx?_cons, h a (by simp), find_pl fun q hq => h q (List.mem_cons_of_mem _ hq)]
    rfl
/-- a name that is stored here -/
structure Sto (X : Cx) (i : Nat) (x : Str) : Prop where
  at_ : X.N[i]? = some x
  loc : Loc X.env.scope x
  fn : X.fn x = true ∨ X.env.scope.names.lookup x = some .local
section
variable {X : Cx} {g : GS} {W : WX} {tg e ea eb ec : Expr} {es : List Expr} {f k l : EvE} {fs : EvL} {pos p : Pos} {gf : EvG} {gs : EvGs} {is js : List Nat}
theorem pg_nm (hN : X.N.Nodup) {i : Nat} {x : Str} (s : Sto X i x) : PG X (.Name x pos) (GD g [i] (gNm i)) := ⟨fun pins st σ H v u Q I r hh => (pg_name (pos := pos) hN s.at_ s.loc s.fn).run pins st σ H v u Q I r (by
  obtain ⟨y, φ, ρ, h, rv, H0, rs, rep, kv, ρ', h', e, q⟩ := hh
  unfold gNm at e
  cases e1 : rv.s with
  | none => rw [e1] at e; cases e
  | some sl =>
    rw [e1] at e
    cases e
    exact q φ _ H Step.refl (rs.set (KV.s kv e1)) rep off_set)⟩
theorem pg_nm1 (hN : X.N.Nodup) {i : Nat} {x : Str} (s : Sto X i x) {c : CC} : PG X (.Name x pos) (GD1 g [i] (evT1 c (.nm i))) := ⟨fun pins st σ H v u Q I r hh => (pg_name (pos := pos) hN s.at_ s.loc s.fn).run pins st σ H v u Q I r (by
  obtain ⟨y, φ, ρ, h, us, rs, rep, kv, ρ', h', e, q⟩ := hh
  rw [evT1] at e
  dsimp only at e
  split at e
  · rename_i u'
    cases e
    obtain ⟨w, ws, e2, d, dn⟩ := kv
    cases e2
    exact q φ _ H Step.refl (rs.set (s := .v u') d) rep off_set
  · cases e)⟩
theorem pgs_nil2 {c : CC} : PGs X [] (GDs g [] (evTs c .nil)) := ⟨fun pins st σ H vs us Q I r hh => pgs_nil.run pins st σ H vs us Q I r (by
  obtain ⟨y, φ, ρ, h, us, rs, rep, kv, ρ', h', e, q⟩ := hh
  rw [evTs] at e
  dsimp only at e
  split at e
  · cases e
    exact ⟨kv, q φ σ H Step.refl rs rep Off.refl⟩
  · cases e)⟩
theorem pgs_cons2 {c : CC} {t : Tg} {ts : Tgs} (hn : notStar e = true) (h1 : PG X e (GD g is (evG c t))) (h2 : PGs X es (GDs g js (evTs c ts))) : PGs X (e :: es) (GDs g (is ++ js) (evTs c (.cons t ts))) := ⟨fun pins st σ H vs us Q I r hh => (pgs_cons h1 h2 (by rw [assign_cons hn]; rfl)).run pins st σ H vs us Q I r (by
  obtain ⟨y, φ, ρ, h, us, rs, rep, kv, ρ', h', e, q⟩ := hh
  rw [evTs] at e
  dsimp only at e
  split at e
  · rename_i u us'
    obtain ⟨w, ws, rfl, d, ds⟩ := kv
    cases e1 : evG c t (.v u) ρ h with
    | bad => rw [e1] at e; cases e
    | ex z hz => rw [e1] at e; cases e
    | ok ρ1 h1 =>
      rw [e1] at e
      refine ⟨w, ws, rfl, y, φ, ρ, h, .v u, H, rs, rep, d, ρ1, h1, e1, fun φ1 σ1 H1 st1 rs1 rep1 o1 => ?_⟩
      exact ⟨y, φ1, ρ1, h1, us', rs1, rep1, DenL.keep (st1.keep y) _ _ ds, ρ', h', e, fun φ2 σ2 H2 st2 rs2 rep2 o2 => q φ2 σ2 H2 (st1.trans st2) rs2 rep2 (o1.trans o2)⟩
  · cases e)⟩
theorem evTs_len {c : CC} : ∀ {ts : Tgs} {us : List U} {ρ ρ' : Rho} {h h' : Hs} (n : Nat), (∀ us ρ h ρ' h', evTs c ts us ρ h = .ok ρ' h' → us.length = n) → evTs c ts us ρ h = .ok ρ' h' → us.length = n := fun n q e => q _ _ _ _ _ e
def tgLen : Tgs → Nat
  | .nil => 0
  | .cons _ ts => tgLen ts + 1
theorem tgs_len {c : CC} : ∀ {ts : Tgs} {us : List U} {ρ ρ' : Rho} {h h' : Hs}, evTs c ts us ρ h = .ok ρ' h' → us.length = tgLen ts
  | .nil, us, ρ, ρ', h, h', e => by
    rw [evTs] at e
    dsimp only at e
    split at e
    · rfl
    · cases e
  | .cons t ts, us, ρ, ρ', h, h', e => by
    rw [evTs] at e
    dsimp only at e
    split at e
    · rename_i u us'
      cases e1 : evG c t (.v u) ρ h with
      | bad => rw [e1] at e; cases e
      | ex z hz => rw [e1] at e; cases e
      | ok ρ1 h1 =>
        rw [e1] at e
        show us'.length + 1 = _
        rw [tgs_len (ts := ts) e]
        rfl
    · cases e
theorem pg_tp (hK : X.K = g.K) (hc : X.calm = true) {c : CC} {ts : Tgs} {kk : Nat} (hn : es.all notStar = true) (hl : es.length = tgLen ts) (h : PGs X es (GDs g is (evTs c ts))) : PG X (.Tuple es kk pos) (GD g is (gTp (evTs c ts))) := ⟨fun pins st σ H v u Q I r hh =>
  (pg_tup (pos := pos) (k := kk) (n := es.length) hc h (assign_pl hn).1 (find_pl (assign_pl hn).2)).run pins st σ H v u Q I r (by
    obtain ⟨y, φ, ρ, h, rv, H0, rs, rep, kv, ρ', h', e, q⟩ := hh
    unfold gTp at e
    split at e
    · rename_i us
      obtain ⟨a, vs, rfl, ta, d⟩ : Den g (ow φ y) H (.tup us) v := kv
      rw [hK]
      exact ⟨a, vs, rfl, ta.sq, by rw [← d.len, tgs_len e, hl], y, φ, ρ, h, us, rs, rep, d, ρ', h', e, q⟩
    · cases e)⟩
theorem pg_tp1 (hK : X.K = g.K) (hc : X.calm = true) {c : CC} {ts : Tgs} {kk : Nat} (hn : es.all notStar = true) (hl : es.length = tgLen ts) (h : PGs X es (GDs g is (evTs c ts))) : PG X (.Tuple es kk pos) (GD1 g is (evT1 c (.tp ts))) := ⟨fun pins st σ H v u Q I r hh =>
  (pg_tup (pos := pos) (k := kk) (n := es.length) hc h (assign_pl hn).1 (find_pl (assign_pl hn).2)).run pins st σ H v u Q I r (by
    obtain ⟨y, φ, ρ, h, us, rs, rep, kv, ρ', h', e, q⟩ := hh
    rw [evT1] at e
    dsimp only at e
    split at e
    · rename_i us
      obtain ⟨w, ws, e2, d, dn⟩ := kv
      cases e2
      obtain ⟨a, vs, rfl, ta, d⟩ : Den g (ow φ y) H (.tup us) v := d
      rw [hK]
      exact ⟨a, vs, rfl, ta.sq, by rw [← d.len, tgs_len e, hl], y, φ, ρ, h, us, rs, rep, d, ρ', h', e, q⟩
    · cases e)⟩
theorem gSubS_ok {h h' : Hs} {o i : S} {u : U} (e : gSubS h o i u = some h') : ∃ n k xs j, o = .r n ∧ i = .v (.int k) ∧ h[n]? = some (.lst xs) ∧ ixU xs.length k = some j ∧ h' = h.set n (.lst (xs.set j u)) := by
  unfold gSubS at e
  split at e
  · rename_i n k
    split at e
    · rename_i xs e1
      split at e
      · rename_i j e2
        cases e
        exact ⟨_, _, xs, j, rfl, rfl, e1, e2, rfl⟩
      · cases e
    · cases e
  · cases e
theorem pg_sub2 {pos : Pos} (hK : X.K = g.K) (ho : PE X ea (rdE g W f)) (hi : PE X eb (rdE g W k))
    (hx : ∀ v, assign (.Subscript ea eb pos) X.env v = (do
      let ov ← holding [v] (eval ea X.env)
      let iv ← holding [v, ov] (eval eb X.env)
      standAt pos
      holding [v, ov, iv] (setItem ov iv v)
      release [v, ov, iv] [])) : PG X (.Subscript ea eb pos) (GD g [] (VM.gSub f k)) := ⟨fun pins st σ H v u Q I r hh => (pg_sub (pe_s ho) (pe_s hi) set_list hx).run pins st σ H v u Q I r (by
  obtain ⟨y, φ, ρ, h, rv, H0, rs, rep, kv, ρ', h', e, q⟩ := hh
  unfold VM.gSub at e
  cases e1 : rv.u with
  | none => rw [e1] at e; cases e
  | some uu =>
    rw [e1] at e
    have hs : rv.s = some (.v uu) := by
      unfold RV.u at e1
      cases e2 : rv.s with
      | none => rw [e2] at e1; cases e1
      | some sl =>
        rw [e2] at e1
        cases sl with
        | v u' => cases e1; rfl
        | r n => cases e1
    have dv := KV.s kv hs
    dsimp only at e
    cases e2 : sE f ρ h with
    | bad => rw [e2] at e; cases e
    | ex z hz => rw [e2] at e; cases e
    | ok o h1 =>
      rw [e2] at e
      refine ⟨y, φ, ρ, h, rs, rep, ?_⟩
      rw [e2]
      intro φ1 ov H1 st1 rep1 d1
      have e : noEx ((sE k ρ h1).bind fun i h => match gSubS h o i uu with
        | some h => .ok ρ h
        | none => .bad) = .ok ρ' h' := e
      cases e3 : sE k ρ h1 with
      | bad => rw [e3] at e; cases e
      | ex z hz => rw [e3] at e; cases e
      | ok iv h2 =>
        rw [e3] at e
        refine ⟨y, φ1, ρ, h1, rs.step st1, rep1, ?_⟩
        rw [e3]
        intro φ2 iv' H2 st2 rep2 d2
        have e : noEx (match gSubS h2 o iv uu with
          | some h => .ok ρ h
          | none => .bad) = .ok ρ' h' := e
        cases e4 : gSubS h2 o iv uu with
        | none => rw [e4] at e; cases e
        | some h3 =>
          rw [e4] at e
          cases e
          obtain ⟨n, kk, xs, j, rfl, rfl, e5, e6, rfl⟩ := gSubS_ok e4
          have d1' := DenS.step st2 d1
          obtain ⟨a, vs, f1, rfl, f2, f3⟩ := own_list rep2 d1' e5
          have dv2 := DenS.step st2 (DenS.step st1 dv)
          have f4 := f3.set (u' := uu) (v' := v) dv2 j
          obtain ⟨r3, s3⟩ := rep2.setL (ob := .lst (xs.set j uu)) f1 (.inl ⟨_, rfl, rfl⟩) f4
          exact ⟨a, vs, kk, j, rfl, d2, f2, by rw [← f3.len]; exact e6, q φ2 σ _ ((st1.trans st2).trans s3) (((rs.step st1).step st2).step s3) r3 Off.refl⟩)⟩
end
/-! ### list comprehensions -/
abbrev W0 : WX := fun _ _ _ _ => False
/-- a new list that a comprehension fills: nobody's yet -/
def xD (x : Addr → Prop) (D : Addr) : Addr → Prop := fun a => x a ∨ a = D
section
variable {g : GS} {x : Addr → Prop} {φ φ' : Phi} {h : Hs} {H H' : Hp} {D : Addr}
theorem keepD (st : Step φ H φ' H') (hD : H D = none) : Keep (ow φ x) H (ow φ' (xD x D)) H' :=
  ⟨fun a n q => st.same a (fun z => n (.inl z)) q, st.grow, fun a q => by
    rcases q with q | q | q
    · exact (st.owns a q).imp .inl id
    · exact .inl (.inr q)
    · exact .inr (by rw [q]; exact hD)⟩
theorem RepH.outD (r : RepH g x φ h H) (hD : H D = none) {v : HO} : RepH g (xD x D) φ h (upd H D v) ∧ Step φ H φ (upd H D v) := by
  have sm := new_same (o := v) hD
  have st : Step φ H φ (upd H D v) := step_of sm
  refine ⟨⟨r.len, fun n l e => ?_, r.dead, r.nd, fun a ha q => ?_, fun a q => ?_⟩, st⟩
  · obtain ⟨ob, e1, q⟩ := r.at_ n l e
    exact ⟨ob, e1, q.keep (keepD st hD) fun a ha => sm a (q.there a ha)⟩
  · rcases q with q | q
    · exact r.apart a ha q
    · exact r.there ha (by rw [q]; exact hD)
  · rcases q with q | q
    · exact st.grow a (r.xs a q)
    · rw [q, upd_same]; simp
/-- the list grows -/
theorem RepH.putD {v : HO} (r : RepH g (xD x D) φ h H) (hD : H D ≠ none) : RepH g (xD x D) φ h (upd H D v) ∧ Keep (ow φ (xD x D)) H (ow φ (xD x D)) (upd H D v) := by
  have kp : Keep (ow φ (xD x D)) H (ow φ (xD x D)) (upd H D v) := ⟨fun a n _ => upd_ne fun e => n (.inr (.inr e)), fun a q => by
    by_cases e : a = D
    · rw [e, upd_same]; simp
    · rw [upd_ne e]; exact q, fun a q => .inl q⟩
  refine ⟨⟨r.len, fun n l e => ?_, r.dead, r.nd, r.apart, fun a q => kp.grow a (r.xs a q)⟩, kp⟩
  obtain ⟨ob, e1, q⟩ := r.at_ n l e
  exact ⟨ob, e1, q.keep kp fun a ha => upd_ne fun z => r.apart a (own_at e ha) (.inr z)⟩
/-- the list comes to the frame -/
theorem RepH.inD {us : List U} {vs : List V} (r : RepH g (xD x D) φ h H) (hD : H D = some (.lst vs)) (nx : ¬ x D) (d : DenL g (ow φ (xD x D)) H us vs) : RepH g x φ h H ∧ RepH g x (φ ++ [some [D]]) (h ++ [.lst us]) H := by
  have w1 : ∀ a, ow φ x a → ow φ (xD x D) a := fun a q => q.imp id .inl
  have w2 : ∀ a, ow (φ ++ [some [D]]) x a → ow φ (xD x D) a := fun a q => by
    rcases q with q | q
    · rcases own_app.mp q with q | q
      · exact .inl q
      · exact .inr (.inr (by simpa using q))
    · exact .inr (.inl q)
  have nd : ¬ own φ D := fun q => r.apart D q (.inr rfl)
  refine ⟨⟨r.len, fun n l e => ?_, r.dead, r.nd, fun a ha q => r.apart a ha (.inl q), fun a q => r.xs a (.inl q)⟩, ⟨by simp [r.len], fun n l e => ?_, fun n e => ?_, ?_, fun a ha q => ?_, fun a q => r.xs a (.inl q)⟩⟩
  · obtain ⟨ob, e1, q⟩ := r.at_ n l e
    exact ⟨ob, e1, q.keep (Keep.weak w1) fun _ _ => rfl⟩
  · by_cases hn : n < φ.length
    · rw [List.getElem?_append_left hn] at e
      obtain ⟨ob, e1, q⟩ := r.at_ n l e
      exact ⟨ob, by rw [List.getElem?_append_left (by rw [← r.len]; exact hn)]; exact e1, q.keep (Keep.weak w2) fun _ _ => rfl⟩
    · have hlt := (List.getElem?_eq_some_iff.mp e).1
      rw [List.length_append] at hlt
      have : n = φ.length := by simp at hlt; omega
      subst this
      simp at e
      subst e
      exact ⟨.lst us, by rw [r.len]; simp, D, vs, rfl, hD, DenL.weak w2 d⟩
  · by_cases hn : n < φ.length
    · rw [List.getElem?_append_left hn] at e
      rw [List.getElem?_append_left (by rw [← r.len]; exact hn)]
      exact r.dead n e
    · have hlt := (List.getElem?_eq_some_iff.mp e).1
      rw [List.length_append] at hlt
      have : n = φ.length := by simp at hlt; omega
      subst this
      simp at e
  · rw [filt_app, List.nodup_append]
    refine ⟨r.nd, by simp, fun a ha b hb e => ?_⟩
    simp at hb
    subst e hb
    exact nd (own_mem.mpr ha)
  · rcases own_app.mp ha with ha | ha
    · exact r.apart a ha (.inl q)
    · have : a = D := by simpa using ha
      exact nx (this ▸ q)
end
section
variable {X : Cx} {g : GS} {W : WX} {tg iter elt : Expr} {ifs : List Expr} {f : EvE} {it : EvI} {k : Rho → Hs → Rs Bool} {gs : EvGs} {is : List Nat} {pos : Pos} {scope : Scope} {own : List (Str × Nat)}
theorem lc_rd {σ : L2.St} {H : Hp} {Q : VK} {vs : List Nat} (his : ∀ i ∈ is, i ∈ vs) (hh : rdE g W (vLc gs it k f vs) σ H Q) :
    tLc (rdI g W it) (GD1 g is gs) (rdB g W0 k) (rdS g W0 (sE f)) vs σ H Q := by
  obtain ⟨x, φ, ρ, h, rs, rep, c⟩ := hh
  refine RD.bind (k := fun ρ p h => match compL p.1 gs k f (wipeR ρ vs) p.2 0 [] h with
    | .ok us h => .ok (.nw (.lst us)) h
    | _ => .bad) KV.mono rs rep c fun J H1 φ1 h1 p st1 rs1 rep1 p1 c1 => ?_
  intro D hD
  obtain ⟨src, n0⟩ := p
  have c1 : Cond g x W KV σ Q φ1 H1 (match compL src gs k f (wipeR ρ vs) n0 0 [] h1 with
    | .ok us h => .ok (.nw (.lst us)) h
    | _ => .bad) := c1
  cases e0 : compL src gs k f (wipeR ρ vs) n0 0 [] h1 with
  | bad => rw [e0] at c1; exact c1.elim
  | ex z hz => rw [e0] at c1; exact c1.elim
  | ok usF hF =>
  rw [e0] at c1
  have c1 : ∀ φ' b H', Step φ1 H1 φ' H' → RepH g x φ' hF H' → KV g x H1 (.nw (.lst usF)) hF φ' b H' → Q b H' := c1
  obtain ⟨r0, s0⟩ := rep1.outD (v := .lst []) hD
  refine ⟨fun i m Hc => ∃ φc hc acc accV, Step φ1 H1 φc Hc ∧ RepH g (xD x D) φc hc Hc ∧ Hc D = some (.lst accV) ∧ DenL g (ow φc (xD x D)) Hc acc accV ∧ compL src gs k f (wipeR ρ vs) m i acc hc = .ok usF hF, ⟨n0, φ1, h1, [], [], s0, r0, upd_same, rfl, e0⟩, ?_⟩
  rintro i m Hc ⟨φc, hc, acc, accV, st, rp, hDc, dl, ec⟩
  have kp := keepD (x := x) st hD
  have sj : SrcJ g (xD x D) φc Hc src J := SrcJ.lift kp st.len st.back p1
  have rsc : RelS g (xD x D) φc Hc (wipeR ρ vs) (L2.wipe σ vs) := (RelS.lift kp st.len st.back rs1).wipe
  cases m with
  | zero =>
    refine .inl ?_
    rw [compL] at ec
    split at ec
    · rename_i he
      cases ec
      refine ⟨src_end rp sj he, ?_⟩
      obtain ⟨q1, q2⟩ := rp.inD hDc (fun q => rep1.xs D q hD) dl
      exact c1 φc _ Hc st q1 ⟨[D], q2, rfl, fun a ha => by simp at ha; rw [ha]; exact hD⟩
    · cases ec
  | succ m =>
    refine .inr ?_
    rw [compL] at ec
    cases e1 : srcAt hc src i with
    | none => rw [e1] at ec; cases ec
    | some u =>
      rw [e1] at ec
      dsimp only at ec
      obtain ⟨go, yl⟩ := src_at rp sj e1
      refine ⟨go, fun Hn => ∃ φc hc acc accV, Step φ1 H1 φc Hn ∧ RepH g (xD x D) φc hc Hn ∧ Hn D = some (.lst accV) ∧ DenL g (ow φc (xD x D)) Hn acc accV ∧ compL src gs k f (wipeR ρ vs) m (i + 1) acc hc = .ok usF hF, fun Hn q => ⟨m, Nat.lt_succ_self m, q⟩, fun v Hy hy => ?_⟩
      obtain ⟨sm, dv⟩ := yl v Hy hy
      have sty : Step φc Hc φc Hy := step_of sm
      have rpy := rp.same sm
      cases e2 : gs [u] (wipeR ρ vs) hc with
      | bad => rw [e2] at ec; cases ec
      | ex z hz => rw [e2] at ec; cases ec
      | ok ρ2 h2 =>
        rw [e2] at ec
        replace ec : ((k ρ2 h2).bind fun b h => if b = true then
          (sE f ρ2 h).bind fun s h => match s.u with
            | some u => if acc.length < lim then compL src gs k f (wipeR ρ vs) m (i + 1) (acc ++ [u]) h else .bad
            | none => .bad
          else compL src gs k f (wipeR ρ vs) m (i + 1) acc h) = .ok usF hF := ec
        refine ⟨xD x D, φc, wipeR ρ vs, hc, [u], rsc.step sty, rpy, ⟨v, [], rfl, dv, rfl⟩, ρ2, h2, e2, fun φ2 σ2 H2 st2 rs2 rp2 of2 => ?_⟩
        have hDl : ∀ {φa φb : Phi} {Ha Hb : Hp} {ha : Hs}, RepH g (xD x D) φa ha Ha → Step φa Ha φb Hb → Ha D = some (.lst accV) → Hb D = some (.lst accV) := fun ra sa e => by
          rw [sa.same D (fun q => ra.apart D q (.inr rfl)) (by rw [e]; simp)]
          exact e
        have hDy : Hy D = some (.lst accV) := hDl rp sty hDc
        have hD2 : H2 D = some (.lst accV) := hDl rpy st2 hDy
        refine ⟨by rw [wipe_off of2 his, wipe_wipe], xD x D, φ2, ρ2, h2, rs2, rp2, ?_⟩
        cases e3 : k ρ2 h2 with
        | bad => rw [e3] at ec; cases ec
        | ex z hz => rw [e3] at ec; cases ec
        | ok b h3 =>
          rw [e3] at ec
          replace ec : (if b = true then
            (sE f ρ2 h3).bind fun s h => match s.u with
              | some u => if acc.length < lim then compL src gs k f (wipeR ρ vs) m (i + 1) (acc ++ [u]) h else .bad
              | none => .bad
            else compL src gs k f (wipeR ρ vs) m (i + 1) acc h3) = .ok usF hF := ec
          intro φ3 b' H3 st3 rp3 hb
          rw [show b' = b from hb]
          have hD3 : H3 D = some (.lst accV) := hDl rp2 st3 hD2
          have stA : Step φ1 H1 φ3 H3 := ((st.trans sty).trans st2).trans st3
          have dl3 : DenL g (ow φ3 (xD x D)) H3 acc accV := DenL.keep (((sty.trans st2).trans st3).keep _) _ _ dl
          cases b with
          | false =>
            rw [if_neg Bool.false_ne_true] at ec ⊢
            exact ⟨φ3, h3, acc, accV, stA, rp3, hD3, dl3, ec⟩
          | true =>
            rw [if_pos rfl] at ec ⊢
            refine ⟨xD x D, φ3, ρ2, h3, rs2.step st3, rp3, ?_⟩
            cases e4 : sE f ρ2 h3 with
            | bad => rw [e4] at ec; cases ec
            | ex z hz => rw [e4] at ec; cases ec
            | ok s h4 =>
              rw [e4] at ec
              replace ec : (match s.u with
                | some u => if acc.length < lim then compL src gs k f (wipeR ρ vs) m (i + 1) (acc ++ [u]) h4 else .bad
                | none => .bad) = .ok usF hF := ec
              intro φ4 y H4 st4 rp4 ds
              cases s with
              | r n => cases ec
              | v u' =>
                replace ec : (if acc.length < lim then compL src gs k f (wipeR ρ vs) m (i + 1) (acc ++ [u']) h4 else .bad) = .ok usF hF := ec
                split at ec
                · rename_i hl
                  have hD4 : H4 D = some (.lst accV) := hDl rp3 st4 hD3
                  have dl4 : DenL g (ow φ4 (xD x D)) H4 acc accV := DenL.keep (st4.keep _) _ _ dl3
                  obtain ⟨rp5, kp5⟩ := rp4.putD (v := .lst (accV ++ [y])) (by rw [hD4]; simp)
                  have stB := stA.trans st4
                  refine ⟨accV, hD4, by rw [← dl4.len, sizeLine_eq]; exact hl, φ4, h4, acc ++ [u'], accV ++ [y], ⟨fun a n q => ?_, fun a q => ?_, stB.owns, stB.len, stB.back, stB.fresh⟩, rp5, upd_same, DenL.keep kp5 _ _ (dl4.snoc (show Den g _ H4 u' y from ds)), ec⟩
                  · rw [upd_ne (fun e => q (by rw [e]; exact hD))]
                    exact stB.same a n q
                  · by_cases e : a = D
                    · rw [e, upd_same]; simp
                    · rw [upd_ne e]
                      exact stB.grow a q
                · cases ec
theorem fold_pl {e : Expr} {env : Env} (h : (match e with
    | .Set _ _ _ => false
    | _ => true) = true) : ∀ v, foldedSetIterable e env v = pure v := fun v => by
  unfold foldedSetIterable
  split
  · cases h
  · rfl
end
end VM

/-! Statements. -/
namespace VM
open PySem PySem.Spec PyProof.Rows L2 RZ
def CondS (g : GS) (x : Addr → Prop) (W : WX) (D : Ends) (φ : Phi) (H : Hp) : SR → Prop
  | .nx ρ h => ∀ φ' σ' H', Step φ H φ' H' → RelS g x φ' H' ρ σ' → RepH g x φ' h H' → D.nx σ' H'
  | .bk ρ h => ∀ φ' σ' H', Step φ H φ' H' → RelS g x φ' H' ρ σ' → RepH g x φ' h H' → D.bk σ' H'
  | .ct ρ h => ∀ φ' σ' H', Step φ H φ' H' → RelS g x φ' H' ρ σ' → RepH g x φ' h H' → D.ct σ' H'
  | .rt r h => ∀ φ' v H', Step φ H φ' H' → RepH g x φ' h H' → KV g x H r h φ' v H' → D.rt v H'
  | .ex e ρ h => ∀ φ' σ' H' cls d, Step φ H φ' H' → RelS g x φ' H' ρ σ' → RepH g x φ' h H' → ExV g e cls d H' → W cls d σ' H'
  | .bad => False
def RDS (g : GS) (W : WX) (f : EvS) : TS := fun D σ H => ∃ x φ ρ h, RelS g x φ H ρ σ ∧ RepH g x φ h H ∧ CondS g x W D φ H (f ρ h)
section
variable {g : GS} {x : Addr → Prop} {W : WX} {D : Ends} {φ φ1 : Phi} {H H1 : Hp}
theorem CondS.later (k : Step φ H φ1 H1) : ∀ {r : SR}, CondS g x W D φ H r → CondS g x W D φ1 H1 r
  | .nx ρ h, c => fun φ' σ' H' s rs rep => c φ' σ' H' (k.trans s) rs rep
  | .bk ρ h, c => fun φ' σ' H' s rs rep => c φ' σ' H' (k.trans s) rs rep
  | .ct ρ h, c => fun φ' σ' H' s rs rep => c φ' σ' H' (k.trans s) rs rep
  | .rt r h, c => fun φ' v H' s rep p => c φ' v H' (k.trans s) rep (KV.mono _ _ _ _ _ _ _ _ _ k.grow p)
  | .ex e ρ h, c => fun φ' σ' H' cls d s rs rep p => c φ' σ' H' cls d (k.trans s) rs rep p
  | .bad, c => c
/-- an expression at the head of a statement -/
theorem head_rd {α β : Type} {R : Kd α β} {f : Rho → Hs → Rs α} {k : Rho → α → Hs → SR} {σ : L2.St} {ρ : Rho} {h : Hs} (rs : RelS g x φ H ρ σ) (rep : RepH g x φ h H) (c : CondS g x W D φ H (SR.ofRs ρ (f ρ h) (k ρ))) {Q' : β → Hp → Prop}
    (next : ∀ (b : β) (H1 : Hp) (φ1 : Phi) (h1 : Hs) (a : α), Step φ H φ1 H1 → RelS g x φ1 H1 ρ σ → RepH g x φ1 h1 H1 → R g x H a h1 φ1 b H1 → CondS g x W D φ1 H1 (k ρ a h1) → Q' b H1) : RD g W R f σ H Q' := by
  refine ⟨x, φ, ρ, h, rs, rep, ?_⟩
  cases e : f ρ h with
  | bad => rw [e] at c; exact c
  | ex z h1 =>
    rw [e] at c
    intro φ' H' cls d st rep' ev
    exact c φ' σ H' cls d st (rs.step st) rep' ev
  | ok a h1 =>
    rw [e] at c
    intro φ1 b H1 st rep1 p
    exact next b H1 φ1 h1 a st (rs.step st) rep1 p (CondS.later st c)
theorem noEx_ok {α : Type} {r : Rs α} {ρ : Rho} {k : α → Hs → SR} (c : CondS g x W D φ H (SR.ofRs ρ (noEx r) k)) : ∃ a h, r = .ok a h ∧ CondS g x W D φ H (k a h) := by
  cases r with
  | bad => exact c.elim
  | ex z h => exact c.elim
  | ok a h => exact ⟨a, h, rfl, c⟩
end
section
variable {X : Cx} {g : GS} {W : WX} {tg iter e ea eb ec : Expr} {es : List Expr} {f k l : EvE} {fs : EvL} {gf : EvG} {gs : EvGs} {is : List Nat} {pos p : Pos} {fb fc : EvS} {st : Stmt} {sts sts' : List Stmt}
theorem asg_rd {σ : L2.St} {H : Hp} {D : Ends} (hh : RDS g W (fun ρ h => SR.ofRs ρ (f ρ h) fun r h => SR.ofRs ρ (noEx (gf r ρ h)) .nx) D σ H) : tAsg (rdE g W f) (GD g is gf) D σ H := by
  obtain ⟨x, φ, ρ, h, rs, rep, c⟩ := hh
  refine head_rd (k := fun ρ r h => SR.ofRs ρ (noEx (gf r ρ h)) .nx) rs rep c fun v H1 φ1 h1 r st1 rs1 rep1 p c1 => ?_
  obtain ⟨ρ2, h2, e1, c2⟩ := noEx_ok c1
  exact ⟨x, φ1, ρ, h1, r, H, rs1, rep1, p, ρ2, h2, e1, fun φ' σ' H' s rs' rep' _ => c2 φ' σ' H' s rs' rep'⟩
abbrev sAsg (f : EvE) (gf : EvG) : EvS := fun ρ h => SR.ofRs ρ (f ρ h) fun r h => SR.ofRs ρ (noEx (gf r ρ h)) .nx
theorem ps_asg2' (he : PE X e (rdE g W f)) (hg : PG X tg (GD g is gf)) (hs : swapsWithSole [tg] e pos.line X.env = pure false) (hw : swappedStores [tg] e X.env = pure none) (hn : notStar tg = true) : PS X (.Assign [tg] e pos) (RDS g W (sAsg f gf)) :=
  PS.imp (ps_asg he hg hs hw (by rw [assign_cons hn]; rfl)) fun D σ H q => asg_rd q
theorem set_rd {i : Nat} {te : TE} {σ : L2.St} {H : Hp} {D : Ends} {f : EvE} (hte : ∀ {σ H Q}, rdE g W f σ H Q → te σ H Q) (hh : RDS g W (sAsg f (gNm i)) D σ H) : tAsg te (gName i) D σ H := by
  obtain ⟨x, φ, ρ, h, rs, rep, c⟩ := hh
  refine hte (head_rd (k := fun ρ r h => SR.ofRs ρ (noEx (gNm i r ρ h)) .nx) rs rep c fun v H1 φ1 h1 r st1 rs1 rep1 p c1 => ?_)
  obtain ⟨ρ2, h2, e1, c2⟩ := noEx_ok c1
  unfold gNm at e1
  cases e2 : r.s with
  | none => rw [e2] at e1; cases e1
  | some s =>
    rw [e2] at e1
    cases e1
    exact c2 φ1 _ H1 Step.refl (rs1.set (KV.s p e2)) rep1
theorem ps_set2 (hN : X.N.Nodup) {i : Nat} {x : Str} {px : Pos} (s : Sto X i x) (he : PE X e (rdE g W f)) (hs : swapsWith e (some (.Name x px)) pos.line X.env = pure false) : PS X (.Assign [.Name x px] e pos) (RDS g W (sAsg f (gNm i))) :=
  PS.imp (ps_set hN s.at_ s.loc he hs s.fn) fun D σ H q => set_rd (fun q => q) q
/-! expression statements, return, if -/
theorem ps_expr2 (he : PE X e (rdE g W f)) (hs : swapsWith e none pos.line X.env = pure false) : PS X (.Expr e pos) (RDS g W fun ρ h => SR.ofRs ρ (f ρ h) fun _ h => .nx ρ h) :=
  PS.imp (ps_expr he hs) fun D σ H ⟨x, φ, ρ, h, rs, rep, c⟩ => head_rd (k := fun ρ _ h => .nx ρ h) rs rep c fun v H1 φ1 h1 r st1 rs1 rep1 p c1 => c1 φ1 σ H1 Step.refl rs1 rep1
theorem ps_ret2 (he : PE X e (rdE g W f)) : PS X (.Return (some e) pos) (RDS g W fun ρ h => SR.ofRs ρ (f ρ h) .rt) :=
  PS.imp (ps_ret he) fun D σ H ⟨x, φ, ρ, h, rs, rep, c⟩ => by
    dsimp only at c
    refine ⟨x, φ, ρ, h, rs, rep, ?_⟩
    cases e1 : f ρ h with
    | bad => rw [e1] at c; exact c
    | ex z h1 =>
      rw [e1] at c
      intro φ' H' cls d st rep' ev
      exact c φ' σ H' cls d st (rs.step st) rep' ev
    | ok r h1 =>
      rw [e1] at c
      exact fun φ' v H' st rep' p => c φ' v H' st rep' p
theorem ps_retN2 : PS X (.Return none pos) (RDS g W fun _ h => .rt (.v .non) h) := PS.imp ps_retN fun D σ H ⟨x, φ, ρ, h, rs, rep, c⟩ => c φ .non H Step.refl rep rfl
theorem ps_pass2 : PS X (.Pass pos) (RDS g W .nx) := PS.imp ps_pass fun D σ H ⟨x, φ, ρ, h, rs, rep, c⟩ => c φ σ H Step.refl rs rep
theorem ps_brk2 : PS X (.Break pos) (RDS g W .bk) := PS.imp ps_break fun D σ H ⟨x, φ, ρ, h, rs, rep, c⟩ => c φ σ H Step.refl rs rep
theorem ps_cnt2 : PS X (.Continue pos) (RDS g W .ct) := PS.imp ps_continue fun D σ H ⟨x, φ, ρ, h, rs, rep, c⟩ => c φ σ H Step.refl rs rep
theorem ps_if2 (hc : PT X e (rdB g W (tE f))) (ha : PSs X sts (RDS g W fb)) (hb : PSs X sts' (RDS g W fc)) : PS X (.If e sts sts' pos) (RDS g W fun ρ h => SR.ofRs ρ (tE f ρ h) fun d h => if d = true then fb ρ h else fc ρ h) :=
  PS.imp (ps_if hc ha hb) fun D σ H ⟨x, φ, ρ, h, rs, rep, c⟩ => head_rd (k := fun ρ d h => if d = true then fb ρ h else fc ρ h) rs rep c fun v H1 φ1 h1 r st1 rs1 rep1 p c1 => by
    rw [show v = r from p]
    cases r with
    | true => exact ⟨x, φ1, ρ, h1, rs1, rep1, c1⟩
    | false => exact ⟨x, φ1, ρ, h1, rs1, rep1, c1⟩
/-! sequences -/
theorem pss_nil2 : PSs X [] (RDS g W .nx) := PSs.imp pss_nil fun D σ H ⟨x, φ, ρ, h, rs, rep, c⟩ => c φ σ H Step.refl rs rep
theorem pss_cons2 (h1 : PS X st (RDS g W fb)) (h2 : PSs X sts (RDS g W fc)) : PSs X (st :: sts) (RDS g W fun ρ h => (fb ρ h).andThen fc) := PSs.imp (pss_cons h1 h2) fun D σ H ⟨x, φ, ρ, h, rs, rep, c⟩ => by
  dsimp only at c
  refine ⟨x, φ, ρ, h, rs, rep, ?_⟩
  cases e : fb ρ h with
  | nx ρ1 h1 =>
    rw [e] at c
    intro φ1 σ1 H1 st1 rs1 rep1
    exact ⟨x, φ1, ρ1, h1, rs1, rep1, CondS.later st1 c⟩
  | bad => rw [e] at c; exact c
  | bk ρ1 h1 => rw [e] at c; exact c
  | ct ρ1 h1 => rw [e] at c; exact c
  | rt r h1 => rw [e] at c; exact c
  | ex z ρ1 h1 => rw [e] at c; exact c
/-! an own list is frozen -/
theorem RepH.kill {x : Addr → Prop} {φ : Phi} {h : Hs} {H : Hp} {n : Nat} (r : RepH g x φ h H) (hn : n < φ.length) : RepH g x (φ.set n none) (h.set n .dead) H ∧ Step φ H (φ.set n none) H ∧ ∀ a, own (φ.set n none) a → own φ a := by
  have bk : ∀ (m : Nat) (l : OA), (φ.set n none)[m]? = some (some l) → φ[m]? = some (some l) ∧ n ≠ m := fun m l e => by
    by_cases hm : n = m
    · subst hm
      rw [List.getElem?_set_self hn] at e
      cases e
    · rw [List.getElem?_set_ne hm] at e
      exact ⟨e, hm⟩
  have ow1 : ∀ a, own (φ.set n none) a → own φ a := fun a ⟨l, hl, ha⟩ => by
    obtain ⟨m, hm⟩ := List.getElem?_of_mem hl
    exact own_at (bk m l hm).1 ha
  have kp : Keep (ow φ x) H (ow (φ.set n none) x) H := Keep.weak fun a q => q.imp (ow1 a) id
  refine ⟨⟨by simp [r.len], fun m l e => ?_, fun m e => ?_, (thin_sub (by simp) fun m l e => (bk m l e).1).nodup r.nd, fun a ha => r.apart a (ow1 a ha), r.xs⟩, ⟨fun a _ _ => rfl, fun _ q => q, fun a q => .inl (ow1 a q), by simp, fun m l _ e => (bk m l e).1, fresh_le (by simp)⟩, ow1⟩
  · obtain ⟨e1, hm⟩ := bk m l e
    obtain ⟨ob, e2, q⟩ := r.at_ m l e1
    exact ⟨ob, by rw [List.getElem?_set_ne hm]; exact e2, q.keep kp fun _ _ => rfl⟩
  · by_cases hm : n = m
    · subst hm
      rw [List.getElem?_set_self (by rw [← r.len]; exact hn)]
    · rw [List.getElem?_set_ne hm] at e ⊢
      exact r.dead m e
def fzS (i : Nat) : EvS := fun ρ h => match ρ[i]? with
  | some (some (.r n)) => match h[n]? with
    | some (.lst xs) => .nx (ρ.set i (some (.v (.lst xs)))) (h.set n .dead)
    | _ => .bad
  | _ => .bad
theorem pss_fz {i : Nat} (h2 : PSs X sts (RDS g W fc)) : PSs X sts (RDS g W fun ρ h => (fzS i ρ h).andThen fc) := PSs.imp h2 fun D σ H ⟨x, φ, ρ, h, rs, rep, c⟩ => by
  unfold fzS at c
  dsimp only at c
  cases e1 : ρ[i]? with
  | none => rw [e1] at c; exact c.elim
  | some o =>
    rw [e1] at c
    cases o with
    | none => exact c.elim
    | some s =>
      cases s with
      | v u => exact c.elim
      | r n =>
        dsimp only at c
        cases e2 : h[n]? with
        | none => rw [e2] at c; exact c.elim
        | some ob =>
          rw [e2] at c
          cases ob with
          | lst xs =>
            have c : CondS g x W D φ H (fc (ρ.set i (some (.v (.lst xs)))) (h.set n .dead)) := c
            obtain ⟨v, e3, d⟩ := rs.at_ i _ e1
            obtain ⟨a, vs, f1, rfl, f2, f3⟩ := own_list rep d e2
            have hn : n < φ.length := (List.getElem?_eq_some_iff.mp f1).1
            obtain ⟨r1, s1, o1⟩ := rep.kill hn
            have nd : ¬ ow (φ.set n none) x a := fun q => by
              rcases q with ⟨l, hl, ha⟩ | q
              · obtain ⟨m, hm⟩ := List.getElem?_of_mem hl
                by_cases hnm : n = m
                · subst hnm
                  rw [List.getElem?_set_self hn] at hm
                  cases hm
                · rw [List.getElem?_set_ne hnm] at hm
                  exact hnm (disj rep.nd f1 hm (by simp) ha)
              · exact rep.apart a (own_at f1 (by simp)) q
            have dn : DenS g x (φ.set n none) H (.v (.lst xs)) (.ref a) := ⟨a, vs, rfl, f2, nd, DenL.weak (fun b q => q.imp (o1 b) id) f3⟩
            have rs1 := (rs.step s1).set (i := i) dn
            have e4 : σ.set i (some (.ref a)) = σ := List.ext_getElem? fun j => by
              by_cases hj : i = j
              · subst hj
                have hl : i < σ.length := (List.getElem?_eq_some_iff.mp e3).1
                rw [List.getElem?_set_self hl, e3]
              · rw [List.getElem?_set_ne hj]
            rw [e4] at rs1
            exact ⟨x, _, _, _, rs1, r1, CondS.later s1 c⟩
          | _ => exact c.elim
/-! loops -/
theorem ps_whl2 (hp : PassesOwn (model X.prog X.w) X.A X.env X.xe) (hc : PT X e (rdB g W (tE f))) (hb : PSs X sts (RDS g W fb)) (n : Nat) : PS X (.While e sts [] pos) (RDS g W (whlL (tE f) fb n)) :=
  PS.imp (ps_while hp hc hb) fun D σ H ⟨x, φ, ρ, h, rs, rep, c⟩ => by
    refine ⟨fun m σ H => ∃ φ ρ h, RelS g x φ H ρ σ ∧ RepH g x φ h H ∧ CondS g x W D φ H (whlL (tE f) fb m ρ h), ⟨n, φ, ρ, h, rs, rep, c⟩, ?_⟩
    rintro m σ H ⟨φ, ρ, h, rs, rep, c⟩
    cases m with
    | zero => exact c.elim
    | succ m =>
      refine head_rd (k := fun ρ d h => if d = true then (match fb ρ h with
        | .nx ρ h => whlL (tE f) fb m ρ h
        | .ct ρ h => whlL (tE f) fb m ρ h
        | .bk ρ h => .nx ρ h
        | r => r) else .nx ρ h) rs rep c fun v H1 φ1 h1 r st1 rs1 rep1 p c1 => ?_
      rw [show v = r from p]
      cases r with
      | false => exact c1 φ1 σ H1 Step.refl rs1 rep1
      | true =>
        rw [if_pos rfl] at c1 ⊢
        refine ⟨fun σ' H' => ∃ φ ρ h, RelS g x φ H' ρ σ' ∧ RepH g x φ h H' ∧ CondS g x W D φ H' (whlL (tE f) fb m ρ h), fun σ' H' q => ⟨m, Nat.lt_succ_self m, q⟩, x, φ1, ρ, h1, rs1, rep1, ?_⟩
        cases e1 : fb ρ h1 with
        | nx ρ2 h2 => rw [e1] at c1; exact fun φ' σ' H' s rs' rep' => ⟨φ', ρ2, h2, rs', rep', CondS.later s c1⟩
        | ct ρ2 h2 => rw [e1] at c1; exact fun φ' σ' H' s rs' rep' => ⟨φ', ρ2, h2, rs', rep', CondS.later s c1⟩
        | bk ρ2 h2 => rw [e1] at c1; exact c1
        | rt r h2 => rw [e1] at c1; exact c1
        | ex z ρ2 h2 => rw [e1] at c1; exact c1
        | bad => rw [e1] at c1; exact c1
theorem ps_for2 (hp : PassesOwn (model X.prog X.w) X.A X.env X.xe) (hc : X.calm = true) {it : EvI} (hi : PI X tg iter (rdI g W it)) (hg : PG X tg (GD1 g is gs)) (hb : PSs X sts (RDS g W fb)) (hs : ∀ v, foldedSetIterable iter X.env v = pure v) :
    PS X (.For tg iter sts [] pos) (RDS g W fun ρ h => SR.ofRs ρ (it ρ h) fun p h => forL p.1 gs fb p.2 0 ρ h) :=
  PS.imp (ps_for hp hc hi hg hb hs) fun D σ H ⟨x, φ, ρ, h, rs, rep, c⟩ => by
    refine head_rd (k := fun ρ p h => forL p.1 gs fb p.2 0 ρ h) rs rep c fun J H1 φ1 h1 pr st1 rs1 rep1 p1 c1 => ?_
    obtain ⟨src, n0⟩ := pr
    refine ⟨fun i m σ H => ∃ φ ρ h, RelS g x φ H ρ σ ∧ RepH g x φ h H ∧ SrcJ g x φ H src J ∧ CondS g x W D φ H (forL src gs fb m i ρ h), ⟨n0, φ1, ρ, h1, rs1, rep1, p1, c1⟩, ?_⟩
    rintro i m σ H ⟨φ, ρ, h, rs, rep, sj, c⟩
    cases m with
    | zero =>
      refine .inl ?_
      have c : CondS g x W D φ H (if srcEnd h src i = true then .nx ρ h else .bad) := c
      split at c
      · rename_i he
        exact ⟨src_end rep sj he, c φ σ H Step.refl rs rep⟩
      · exact c.elim
    | succ m =>
      refine .inr ?_
      rw [forL] at c
      dsimp only at c
      cases e1 : srcAt h src i with
      | none => rw [e1] at c; exact c.elim
      | some u =>
        rw [e1] at c
        dsimp only at c
        obtain ⟨go, yl⟩ := src_at rep sj e1
        refine ⟨go, fun σ' H' => ∃ φ ρ h, RelS g x φ H' ρ σ' ∧ RepH g x φ h H' ∧ SrcJ g x φ H' src J ∧ CondS g x W D φ H' (forL src gs fb m (i + 1) ρ h), fun σ' H' q => ⟨m, Nat.lt_succ_self m, q⟩, fun v Hy hy => ?_⟩
        obtain ⟨sm, dv⟩ := yl v Hy hy
        have sty : Step φ H φ Hy := step_of sm
        cases e2 : gs [u] ρ h with
        | bad => rw [e2] at c; exact c.elim
        | ex z hz => rw [e2] at c; exact c.elim
        | ok ρ2 h2 =>
          rw [e2] at c
          dsimp only at c
          refine ⟨x, φ, ρ, h, [u], rs.step sty, rep.same sm, ⟨v, [], rfl, dv, rfl⟩, ρ2, h2, e2, fun φ2 σ2 H2 st2 rs2 rep2 _ => ?_⟩
          refine ⟨x, φ2, ρ2, h2, rs2, rep2, ?_⟩
          have stA := sty.trans st2
          have sj2 := sj.step stA
          cases e3 : fb ρ2 h2 with
          | nx ρ3 h3 => rw [e3] at c; exact fun φ' σ' H' s rs' rep' => ⟨φ', ρ3, h3, rs', rep', sj2.step s, CondS.later (stA.trans s) c⟩
          | ct ρ3 h3 => rw [e3] at c; exact fun φ' σ' H' s rs' rep' => ⟨φ', ρ3, h3, rs', rep', sj2.step s, CondS.later (stA.trans s) c⟩
          | bk ρ3 h3 => rw [e3] at c; exact CondS.later (r := .nx ρ3 h3) stA c
          | rt r h3 => rw [e3] at c; exact CondS.later (D := D) (r := .rt r h3) stA c
          | ex z ρ3 h3 => rw [e3] at c; exact CondS.later (D := D) (r := .ex z ρ3 h3) stA c
          | bad => rw [e3] at c; exact c
/-! a comprehension as a value -/
theorem pe_lc2' (hc : X.calm = true) (hN : X.N.Nodup) {elt : Expr} {ifs : List Expr} {scope : Scope} {own : List (Str × Nat)} {it : EvI} {kk : Rho → Hs → Rs Bool} (hi : PI X tg iter (rdI g W it)) (ok : BlkOk X.N X.env.scope scope own) (his : ∀ i ∈ is, i ∈ own.map (·.2))
    (hg : ∀ (s : Shared) (H : Hp) (C : Addr) (cl : List (Str × Addr)) (fp : List Addr), PG (X.blk s H scope (compEnvC scope cl C X.env) fp) tg (GD1 g is gs))
    (ht : ∀ (s : Shared) (H : Hp) (C : Addr) (cl : List (Str × Addr)) (fp : List Addr), PTs (X.blk s H scope (compEnvC scope cl C X.env) fp) ifs (rdB g W0 kk))
    (he : ∀ (s : Shared) (H : Hp) (C : Addr) (cl : List (Str × Addr)) (fp : List Addr), PE (X.blk s H scope (compEnvC scope cl C X.env) fp) elt (rdE g W0 f)) (hs : ∀ v, foldedSetIterable iter X.env v = pure v) :
    PE X (.ListComp elt [⟨tg, iter, ifs, 0⟩] scope pos) (rdE g W (vLc gs it kk f (own.map (·.2)))) :=
  PE.imp (pe_lc hc hN hi ok hg ht (fun s H C cl fp => pe_s (he s H C cl fp)) hs) fun σ H Q q => lc_rd his q
theorem ps_setLc2 (hc : X.calm = true) (hN : X.N.Nodup) {i : Nat} {y : Str} {py spos : Pos} {elt : Expr} {ifs : List Expr} {scope : Scope} {own : List (Str × Nat)} {it : EvI} {kk : Rho → Hs → Rs Bool} (hy : X.N[i]? = some y) (hyl : X.env.scope.names.lookup y = some .local)
    (hsw : swapsWith (.ListComp elt [⟨tg, iter, ifs, 0⟩] scope pos) (some (.Name y py)) spos.line X.env = pure true)
    (hi : PI X tg iter (rdI g W it)) (ok : BlkOk X.N X.env.scope scope own) (his : ∀ i ∈ is, i ∈ own.map (·.2))
    (hg : ∀ (s : Shared) (H : Hp) (C : Addr) (cl : List (Str × Addr)) (fp : List Addr), PG (X.blk s H scope (compEnvC scope cl C X.env) fp) tg (GD1 g is gs))
    (ht : ∀ (s : Shared) (H : Hp) (C : Addr) (cl : List (Str × Addr)) (fp : List Addr), PTs (X.blk s H scope (compEnvC scope cl C X.env) fp) ifs (rdB g W0 kk))
    (he : ∀ (s : Shared) (H : Hp) (C : Addr) (cl : List (Str × Addr)) (fp : List Addr), PE (X.blk s H scope (compEnvC scope cl C X.env) fp) elt (rdE g W0 f)) (hs : ∀ v, foldedSetIterable iter X.env v = pure v) :
    PS X (.Assign [.Name y py] (.ListComp elt [⟨tg, iter, ifs, 0⟩] scope pos) spos) (RDS g W (sAsg (vLc gs it kk f (own.map (·.2))) (gNm i))) :=
  PS.imp (ps_setLc hc hN hy hyl hsw hi ok hg ht (fun s H C cl fp => pe_s (he s H C cl fp)) hs) fun D σ H q => set_rd (fun q => lc_rd his q) q
end
end VM

/-! Tests of comparisons; the checker's tables; small facts. -/
namespace VM
open PySem PySem.Spec PyProof.Rows L2 RZ
section
variable {X : Cx} {g : GS} {W : WX} {e ea eb ec : Expr} {f k l : EvE} {pos : Pos}
theorem test_rd (hb : ∀ ρ h r h', f ρ h = .ok r h' → ∃ b, r = .v (.bl b)) {σ : L2.St} {H : Hp} {Q : Bool → Hp → Prop} (hh : rdB g W (tE f) σ H Q) : rdE g W f σ H fun x H' => ∃ k, x = .bl k ∧ Q k H' := by
  obtain ⟨x, φ, ρ, h, rs, rep, c⟩ := hh
  refine ⟨x, φ, ρ, h, rs, rep, ?_⟩
  unfold tE sE at c
  cases e1 : f ρ h with
  | bad => rw [e1] at c; exact c
  | ex z h1 => rw [e1] at c; exact c
  | ok r h1 =>
    obtain ⟨b, rfl⟩ := hb _ _ _ _ e1
    rw [e1] at c
    have c : Cond g x W KB σ Q φ H (.ok b h1) := c
    intro φ' v H' st rep' p
    exact ⟨b, p, c φ' b H' st rep' rfl⟩
theorem vCmp_bl {o : CO} {ρ : Rho} {h h' : Hs} {r : RV} (e : vCmp o f k ρ h = .ok r h') : ∃ b, r = .v (.bl b) := by
  unfold vCmp at e
  cases e1 : sE f ρ h with
  | bad => rw [e1] at e; cases e
  | ex z h1 => rw [e1] at e; cases e
  | ok x h1 =>
    rw [e1] at e
    replace e : (sE k ρ h1).bind (fun y h => ofO h ((cmpS o h x y).map fun b => .v (.bl b))) = .ok r h' := e
    cases e2 : sE k ρ h1 with
    | bad => rw [e2] at e; cases e
    | ex z h2 => rw [e2] at e; cases e
    | ok y h2 =>
      rw [e2] at e
      replace e : ofO h2 ((cmpS o h2 x y).map fun b => RV.v (.bl b)) = .ok r h' := e
      cases e3 : cmpS o h2 x y with
      | none => rw [e3] at e; cases e
      | some b => rw [e3] at e; cases e; exact ⟨b, rfl⟩
theorem vCh_bl {o o' : CO} {ρ : Rho} {h h' : Hs} {r : RV} (e : vCh o o' f k l ρ h = .ok r h') : ∃ b, r = .v (.bl b) := by
  unfold vCh at e
  cases e1 : sE f ρ h with
  | bad => rw [e1] at e; cases e
  | ex z h1 => rw [e1] at e; cases e
  | ok x h1 =>
    rw [e1] at e
    replace e : (sE k ρ h1).bind (fun y h => match cmpS o h x y with
      | some true => (sE l ρ h).bind fun z h => ofO h ((cmpS o' h y z).map fun b => RV.v (.bl b))
      | some false => .ok (RV.v (.bl false)) h
      | none => .bad) = .ok r h' := e
    cases e2 : sE k ρ h1 with
    | bad => rw [e2] at e; cases e
    | ex z h2 => rw [e2] at e; cases e
    | ok y h2 =>
      rw [e2] at e
      replace e : (match cmpS o h2 x y with
        | some true => (sE l ρ h2).bind fun z h => ofO h ((cmpS o' h y z).map fun b => RV.v (.bl b))
        | some false => .ok (RV.v (.bl false)) h2
        | none => .bad) = .ok r h' := e
      cases e3 : cmpS o h2 x y with
      | none => rw [e3] at e; cases e
      | some b =>
        rw [e3] at e
        cases b with
        | false => cases e; exact ⟨false, rfl⟩
        | true =>
          replace e : (sE l ρ h2).bind (fun z h => ofO h ((cmpS o' h y z).map fun b => RV.v (.bl b))) = .ok r h' := e
          cases e4 : sE l ρ h2 with
          | bad => rw [e4] at e; cases e
          | ex z h2 => rw [e4] at e; cases e
          | ok z h3 =>
            rw [e4] at e
            replace e : ofO h3 ((cmpS o' h3 y z).map fun b => RV.v (.bl b)) = .ok r h' := e
            cases e5 : cmpS o' h3 y z with
            | none => rw [e5] at e; cases e
            | some b => rw [e5] at e; cases e; exact ⟨b, rfl⟩
theorem pt_cmp2 (hK : X.K = g.K) (hu : X.A.units + 65 < cLine) (o : CO) (ha : PE X ea (rdE g W f)) (hb : PE X eb (rdE g W k)) (hm : behindInMarks (cop o) eb = false) : PT X (.Compare ea [cop o] [eb] pos) (rdB g W (tE (vCmp o f k))) :=
  PT.imp (pt_cmpR (cmp_ok hK hu o) (pe_s ha) (pe_s hb) hm) fun _ _ _ q => two_rd (r := cmpR o) (test_rd (fun _ _ _ _ e => vCmp_bl e) q)
theorem ch_rd {o o' : CO} {σ : L2.St} {H : Hp} {Q : VK} (hh : rdE g W (vCh o o' f k l) σ H Q) : tChain (r2 g (cmpR o)) (r2 g (cmpR o')) (rdS g W (sE f)) (rdS g W (sE k)) (rdS g W (sE l)) σ H Q := by
  obtain ⟨x, φ, ρ, h, rs, rep, c⟩ := hh
  refine RD.bind (k := fun ρ a h => (sE k ρ h).bind fun y h => match cmpS o h a y with
    | some true => (sE l ρ h).bind fun z h => ofO h ((cmpS o' h y z).map fun b => .v (.bl b))
    | some false => .ok (.v (.bl false)) h
    | none => .bad) KV.mono rs rep c fun b1 H1 φ1 h1 s1 st1 rs1 rep1 p1 c1 => ?_
  refine RD.bind (k := fun ρ y h => match cmpS o h s1 y with
    | some true => (sE l ρ h).bind fun z h => ofO h ((cmpS o' h y z).map fun b => .v (.bl b))
    | some false => .ok (.v (.bl false)) h
    | none => .bad) KV.mono rs1 rep1 c1 fun b2 H2 φ2 h2 s2 st2 rs2 rep2 p2 c2 => ?_
  cases e1 : cmpS o h2 s1 s2 with
  | none =>
    simp only [e1] at c2
    exact c2.elim
  | some b =>
    simp only [e1] at c2
    refine ⟨x, φ2, h2, s1, s2, rep2, DenS.step st2 p1, p2, .v (.bl b), by show (cmpS o h2 s1 s2).map _ = _; rw [e1]; rfl, fun φ3 v H3 st3 rep3 p3 => ?_⟩
    rw [show v = .bl b from p3]
    cases b with
    | false => exact ⟨false, rfl, by rw [if_neg Bool.false_ne_true]; exact c2 φ3 _ H3 st3 rep3 rfl⟩
    | true =>
      refine ⟨true, rfl, ?_⟩
      rw [if_pos rfl]
      refine RD.bind (k := fun ρ z h => ofO h ((cmpS o' h s2 z).map fun b => .v (.bl b))) KV.mono (rs2.step st3) rep3 (Cond.later KV.mono st3 c2) fun b4 H4 φ4 h4 s4 st4 rs4 rep4 p4 c4 => ?_
      obtain ⟨r, e4, q⟩ := Cond.ofO c4
      exact ⟨x, φ4, h4, s2, s4, rep4, DenS.step st4 (DenS.step st3 p2), p4, r, e4, q⟩
theorem pt_ch2 (hK : X.K = g.K) (hu : X.A.units + 65 < cLine) (o o' : CO) (ha : PE X ea (rdE g W f)) (hb : PE X eb (rdE g W k)) (hc : PE X ec (rdE g W l)) (hm : lastMarks [cop o, cop o'] [eb, ec] = false) : PT X (.Compare ea [cop o, cop o'] [eb, ec] pos) (rdB g W (tE (vCh o o' f k l))) :=
  PT.imp (pt_chain (cmp_ok hK hu o) (cmp_ok hK hu o') (pe_s ha) (pe_s hb) (pe_s hc) hm) fun _ _ _ q => ch_rd (test_rd (fun _ _ _ _ e => vCh_bl e) q)
end
/-! ### tables -/
/-- where the checker stands: the slots, the scope, (in a comprehension) its own scope as written -/
structure Ct where
  N : List Str
  sc : Scope
  fs : Option Scope
def Ct.fnb (C : Ct) (x : Str) : Bool := match C.fs with
  | none => true
  | some s => s.names.lookup x == some .cell
/-- a way to call: who, how many values, which names -/
abbrev Pat := Nat × Nat × List (Str × Nat)
structure Tab where
  fns : List (Str × Nat)
  nums : List (Str × Int)
  txts : List (Str × Str)
  frees : List Str
  pats : List Pat
  dig : Bool
def Ct.vis (C : Ct) (x : Str) : Bool := match C.sc.names.lookup x with
  | some .local => true
  | some .cell => true
  | some .free => true
  | _ => false
def Ct.glo (C : Ct) (x : Str) : Bool := match C.sc.names.lookup x with
  | some .globalImplicit => true
  | _ => false
def Ct.sto (C : Ct) (i : Nat) (x : Str) : Bool := decide (C.N[i]? = some x) && match C.sc.names.lookup x with
  | some .local => true
  | some .cell => C.fnb x
  | _ => false
def plainName (x : Str) : Bool := !(x == ("__debug__" : Str)) && !(x == ("__classdict__" : Str))
structure Good (T : Tab) (g : GS) (c : CC) (lv : Nat) (C : Ct) (W : WX) (X : Cx) : Prop where
  hK : X.K = g.K
  hN : X.N = C.N
  nd : X.N.Nodup
  sc : X.env.scope = C.sc
  fn : ∀ x, X.fn x = C.fnb x
  calm : X.calm = true
  tk : Takes X W
  room : Room lv X.A
  fns : ∀ x f, (x, f) ∈ T.fns → X.mg x = some (.ref (g.fa f))
  nums : ∀ x i, (x, i) ∈ T.nums → ∃ u, X.mg x = some u ∧ L2.RelV (.int i) u
  txts : ∀ x z, (x, z) ∈ T.txts → ∃ u, X.mg x = some u ∧ L2.RelV (.str z) u
  frees : ∀ x, x ∈ T.frees → X.mg x = none
  pats : ∀ f n ks, (f, n, ks) ∈ T.pats → Fnx X g c lv f n (ks.map (·.1)) (ks.map (·.2))
  any : ∀ f, c.np f ≠ 0 → FnA X g c lv f
  dig : T.dig = true → PySem.W.nsIn X.K cStatics "sys.int_max_str_digits" = some none
section
variable {T : Tab} {g : GS} {c : CC} {lv : Nat} {C : Ct} {W : WX} {X : Cx}
theorem Good.u (G : Good T g c lv C W X) : X.A.units + 65 < cLine := by have := G.room.un; omega
theorem Good.vs (G : Good T g c lv C W X) {x : Str} (h : C.vis x = true) : Vis X.env.scope x := by
  rw [G.sc]
  unfold Ct.vis at h
  unfold Vis
  split at h
  · rename_i e; exact .inl e
  · rename_i e; exact .inr (.inl e)
  · rename_i e; exact .inr (.inr e)
  · cases h
theorem Good.gl (G : Good T g c lv C W X) {x : Str} (h : C.glo x = true) : Gl X x := by
  unfold Gl Env.kindOf
  rw [G.sc]
  unfold Ct.glo at h
  split at h
  · rename_i e; exact e
  · cases h
theorem Good.st (G : Good T g c lv C W X) {i : Nat} {x : Str} (h : C.sto i x = true) : Sto X i x := by
  obtain ⟨h1, h2⟩ := Bool.and_eq_true_iff.mp (show (decide (C.N[i]? = some x) && _) = true from h)
  refine ⟨by rw [G.hN]; exact of_decide_eq_true h1, ?_, ?_⟩
  · rw [G.sc]
    split at h2
    · rename_i e; exact .inl e
    · rename_i e; exact .inr e
    · cases h2
  · rw [G.sc, G.fn]
    split at h2
    · rename_i e; exact .inr e
    · exact .inl h2
    · cases h2
/-- the block of a comprehension -/
def Ct.blk (C : Ct) (s : Scope) : Ct := ⟨C.N, relS s C.sc, some s⟩
theorem takesW0 {X : Cx} : Takes X W0 := fun _ _ ⟨_, _, _, _, _, _, _, _, _, _, _, _, _, _, _, _, w⟩ => w.elim
theorem Fnx.blk {f n : Nat} {ks : List Str} {ki : List Nat} (F : Fnx X g c lv f n ks ki) (s : Shared) (H : Hp) (sc : Scope) (ce : Env) (fp : List Addr) : Fnx (X.blk s H sc ce fp) g c lv f n ks ki := ⟨F.ex⟩
theorem Good.blk (G : Good T g c lv C W X) (s : Shared) (H : Hp) (scope : Scope) (a : Addr) (cl : List (Str × Addr)) (fp : List Addr) : Good T g c lv (C.blk scope) W0 (X.blk s H scope (compEnvC scope cl a X.env) fp) where
  hK := G.hK
  hN := G.hN
  nd := G.nd
  sc := by
    show relabel scope X.env = relS scope C.sc
    rw [← G.sc]
    rfl
  fn := fun x => rfl
  calm := G.calm
  tk := takesW0
  room := G.room
  fns := G.fns
  nums := G.nums
  txts := G.txts
  frees := G.frees
  pats := fun f n ks h => (G.pats f n ks h).blk s H scope _ fp
  any := G.any
  dig := G.dig
end
/-! ### what the checker looks at -/
def okB (T : Tab) : BI → Bool
  | .intL => T.dig
  | _ => true
theorem okB_ok {T : Tab} {b : BI} (h : okB T b = true) : b = .intL → T.dig = true := fun e => by rw [e] at h; exact h
def okC : U → Const → Bool
  | .non, .none => true
  | .bl b, .bool b' => b == b'
  | .int i, .int j => decide (i = j)
  | .str x, .str y => decide (x = y)
  | _, _ => false
def plainIx : Expr → Bool
  | .Slice _ _ _ _ => false
  | _ => true
theorem plainIx_ok {e : Expr} (h : plainIx e = true) : PlainIx e := by
  cases e <;> first | (cases h; done) | exact fun _ _ => rfl
theorem sub_assign {ea eb : Expr} {pos : Pos} {env : Env} (h : plainIx eb = true) : ∀ v, assign (.Subscript ea eb pos) env v = (do
      let ov ← holding [v] (eval ea env)
      let iv ← holding [v, ov] (eval eb env)
      standAt pos
      holding [v, ov, iv] (setItem ov iv v)
      release [v, ov, iv] []) := fun v => by
  cases eb <;> first | (cases h; done) | rfl
def notSet : Expr → Bool
  | .Set _ _ _ => false
  | _ => true
def tailE (op : BoolOp) (p : Pos) : List Expr → Expr
  | [y] => y
  | r => .BoolOp op r p
def okTy (C : Ct) (T : Tab) : Ty → Expr → Bool
  | t, .Name n _ => n == tyNm t && C.glo n && T.frees.contains n && (tyC t).isSome
  | _, _ => false
def okTys (C : Ct) (T : Tab) : List Ty → List Expr → Bool
  | [], [] => true
  | t :: ts, e :: es => okTy C T t e && okTys C T ts es
  | _, _ => false
/-- plain: no form that isTrue looks into -/
def plainT : Expr → Bool
  | .UnaryOp .Not _ _ => false
  | .BoolOp _ _ _ => false
  | .IfExp _ _ _ _ => false
  | .Compare _ _ _ _ => false
  | _ => true
theorem plainT_ok {e : Expr} (h : plainT e = true) (env : Env) : ∀ whole, isTrue e env whole = (do let v ← whole; standAt e.pos; holding [v] (truthy v)) := fun w => by
  cases e with
  | UnaryOp op a p => cases op <;> first | (cases h; done) | rfl
  | BoolOp _ _ _ => cases h
  | IfExp _ _ _ _ => cases h
  | Compare _ _ _ _ => cases h
  | _ => rfl
end VM

/-! The checker of expressions, its soundness. -/
namespace VM
open PySem PySem.Spec PyProof.Rows L2 RZ
mutual
def tgN : Tg → List Nat
  | .nm i => [i]
  | .tp ts => tgsN ts
  | .sub _ _ => []
def tgsN : Tgs → List Nat
  | .nil => []
  | .cons t ts => tgN t ++ tgsN ts
end
def loopT : Tg → Bool
  | .sub _ _ => false
  | _ => true
mutual
def okX (T : Tab) : IE → Ct → Bool → Expr → Bool
  | .xx, _, _, _ => true
  | .var i, C, _, x => (match x with
    | .Name n _ => decide (C.N[i]? = some n) && C.vis n && plainName n
    | _ => false)
  | .c u, _, _, x => (match x with
    | .Constant k _ _ => okC u k
    | _ => false)
  | .gl y u, C, _, x => (match x with
    | .Name n _ => decide (n = y) && C.glo n && plainName n && (match u with
      | .int i => T.nums.contains (n, i)
      | .str z => T.txts.contains (n, z)
      | _ => false)
    | _ => false)
  | .fn y f, C, _, x => (match x with
    | .Name n _ => decide (n = y) && C.glo n && plainName n && T.fns.contains (n, f)
    | _ => false)
  | .bin o a b, C, _, x => (match x with
    | .BinOp l p r _ => decide (p = opOf o) && okX T a C false l && okX T b C false r
    | _ => false)
  | .neg a, C, _, x => (match x with
    | .UnaryOp .USub y _ => okX T a C false y
    | _ => false)
  | .nt a, C, t, x => (match x with
    | .UnaryOp .Not y _ => okX T a C t y
    | _ => false)
  | .cmp o a b, C, _, x => (match x with
    | .Compare l [p] [r] _ => decide (p = cop o) && !behindInMarks p r && okX T a C false l && okX T b C false r
    | _ => false)
  | .ch o o' a b d, C, _, x => (match x with
    | .Compare l [p, p'] [r, s] _ => decide (p = cop o) && decide (p' = cop o') && !lastMarks [p, p'] [r, s] && okX T a C false l && okX T b C false r && okX T d C false s
    | _ => false)
  | .and a b, C, t, x => (match x with
    | .BoolOp .And (l :: r :: rs) p => okX T a C t l && okX T b C t (tailE .And p (r :: rs))
    | _ => false)
  | .or a b, C, t, x => (match x with
    | .BoolOp .Or (l :: r :: rs) p => okX T a C t l && okX T b C t (tailE .Or p (r :: rs))
    | _ => false)
  | .ife q a b, C, t, x => (match x with
    | .IfExp s l r _ => okX T q C true s && okX T a C t l && okX T b C t r
    | _ => false)
  | .tup es, C, _, x => (match x with
    | .Tuple xs _ _ => okL T es C xs
    | _ => false)
  | .lst es, C, _, x => (match x with
    | .List xs _ => okL T es C xs
    | _ => false)
  | .idx a b, C, _, x => (match x with
    | .Subscript l r _ => plainIx r && okX T a C false l && okX T b C false r
    | _ => false)
  | .slc a lo hi, C, _, x => (match x with
    | .Subscript l (.Slice p q none _) _ => okX T a C false l && okO T lo C p && okO T hi C q
    | _ => false)
  | .rev a, C, _, x => (match x with
    | .Subscript l (.Slice none none (some (.UnaryOp .USub (.Constant (.int 1) _ _) _)) _) _ => okX T a C false l
    | _ => false)
  | .nr a, C, t, x => !t && okX T a C false x
  | .call f es ks kes, C, _, x => (match x with
    | .Call (.Name n _) xs kws _ => C.glo n && plainName n && T.fns.contains (n, f) && okL T es C xs && decide (kws.map (·.arg) = (ks.map (·.1)).map some) && okW T kes C kws && T.pats.contains (f, xs.length, ks)
    | _ => false)
  | .cv i es, C, _, x => (match x with
    | .Call (.Name n _) (y :: ys) [] _ => decide (C.N[i]? = some n) && C.vis n && plainName n && okL T es C (y :: ys)
    | _ => false)
  | .bi b es, C, _, x => (match x with
    | .Call (.Name n _) (y :: ys) [] _ => decide (n = bnm b) && C.glo n && T.frees.contains n && okL T es C (y :: ys) && okB T b
    | _ => false)
  | .isi a ts, C, _, x => (match x with
    | .Call (.Name n _) [y, z] [] _ => decide (n = ("isinstance" : Str)) && C.glo n && T.frees.contains n && notStar y && okX T a C false y && (match z with
      | .Tuple zs _ _ => okTys C T ts zs && Nat.ble ts.length 30
      | z => (match ts with
        | [t] => okTy C T t z
        | _ => false))
    | _ => false)
  | .met m o es, C, _, x => (match x with
    | .Call (.Attribute y n ap) xs [] cp => decide (n = mnm m) && noC0 y && (ap.endLine == cp.line) && okX T o C false y && okL T es C xs && Nat.blt xs.length 30
    | _ => false)
  | .lc t it k e own, C, _, x => (match x with
    | .ListComp elt [⟨tg, iter, ifs, a⟩] scope _ => decide (a = 0) && blkC C.N C.sc scope own && loopT t && ((tgN t).all fun i => (own.map (·.2)).contains i) && notSet iter && okI T it C tg iter && okG T t (C.blk scope) tg && okK T k (C.blk scope) ifs && okX T e (C.blk scope) false elt
    | _ => false)
def okL (T : Tab) : IEs → Ct → List Expr → Bool
  | .nil, _, xs => xs.isEmpty
  | .cons e es, C, xs => (match xs with
    | y :: ys => notStar y && okX T e C false y && okL T es C ys
    | [] => false)
def okW (T : Tab) : IEs → Ct → List Keyword → Bool
  | .nil, _, xs => xs.isEmpty
  | .cons e es, C, xs => (match xs with
    | y :: ys => okX T e C false y.value && okW T es C ys
    | [] => false)
def okO (T : Tab) : IO → Ct → Option Expr → Bool
  | .none, _, x => x.isNone
  | .some e, C, x => (match x with
    | some y => okX T e C false y
    | none => false)
def okK (T : Tab) : IO → Ct → List Expr → Bool
  | .none, _, x => x.isEmpty
  | .some e, C, x => (match x with
    | [y] => okX T e C true y
    | _ => false)
def okI (T : Tab) : II → Ct → Expr → Expr → Bool
  | .val e, C, _, x => okX T e C false x
  | .rng es, C, _, x => (match x with
    | .Call (.Name n _) (y :: ys) [] _ => decide (n = ("range" : Str)) && C.glo n && T.frees.contains n && Nat.ble (y :: ys).length 3 && okL T es C (y :: ys)
    | _ => false)
  | .enm e, C, tg, x => (match tg with
    | .Tuple _ _ _ => (match x with
      | .Call (.Name n _) [y] [] _ => decide (n = ("enumerate" : Str)) && C.glo n && T.frees.contains n && notStar y && okX T e C false y
      | _ => false)
    | _ => false)
  | .zip a b, C, tg, x => (match tg with
    | .Tuple _ _ _ => (match x with
      | .Call (.Name n _) [y, z] [] _ => decide (n = ("zip" : Str)) && C.glo n && T.frees.contains n && notStar y && notStar z && okX T a C false y && okX T b C false z
      | _ => false)
    | _ => false)
def okG (T : Tab) : Tg → Ct → Expr → Bool
  | .nm i, C, x => (match x with
    | .Name n _ => C.sto i n
    | _ => false)
  | .tp ts, C, x => (match x with
    | .Tuple xs _ _ => okGs T ts C xs
    | _ => false)
  | .sub o i, C, x => (match x with
    | .Subscript a b _ => plainIx b && okX T o C false a && okX T i C false b
    | _ => false)
def okGs (T : Tab) : Tgs → Ct → List Expr → Bool
  | .nil, _, xs => xs.isEmpty
  | .cons t ts, C, xs => (match xs with
    | y :: ys => notStar y && okG T t C y && okGs T ts C ys
    | [] => false)
end
/-- what the check gives -/
def Claim (t : Bool) (X : Cx) (g : GS) (W : WX) (c : CC) (e : IE) (x : Expr) : Prop :=
  (t = false → PE X x (rdE g W (evE c e))) ∧ (t = true → PT X x (rdB g W (tE (evE c e))) ∧ ((∃ op xs p, x = .BoolOp op xs p) → PW X x (rdB g W (tE (evE c e)))))
section
variable {T : Tab} {g : GS} {c : CC} {lv : Nat} {C : Ct} {W : WX} {X : Cx}
theorem claim_pl {t : Bool} {e : IE} {x : Expr} (G : Good T g c lv C W X) (hp : plainT x = true) (h : PE X x (rdE g W (evE c e))) : Claim t X g W c e x :=
  ⟨fun _ => h, fun _ => ⟨pt_plain G.hK h (plainT_ok hp X.env), fun ⟨op, xs, p, e⟩ => by rw [e] at hp; cases hp⟩⟩
theorem pn {n : Str} (h : plainName n = true) : (n == ("__debug__" : Str)) = false ∧ (n == ("__classdict__" : Str)) = false := by
  unfold plainName at h
  obtain ⟨h1, h2⟩ := Bool.and_eq_true_iff.mp h
  exact ⟨by simpa using h1, by simpa using h2⟩
/-- IEs, their number -/
def esLen : IEs → Nat
  | .nil => 0
  | .cons _ es => esLen es + 1
theorem len_ev : ∀ (es : IEs), Len (evL c es) (esLen es)
  | .nil => fun ρ h ss h' e => by
    rw [evL] at e
    cases e
    rfl
  | .cons e0 es => fun ρ h ss h' e => by
    rw [evL] at e
    unfold vCons at e
    cases e1 : sE (evE c e0) ρ h with
    | bad => rw [e1] at e; cases e
    | ex z h1 => rw [e1] at e; cases e
    | ok x h1 =>
      rw [e1] at e
      replace e : ((evL c es ρ h1).bind fun ss h => Rs.ok (x :: ss) h) = .ok ss h' := e
      cases e2 : evL c es ρ h1 with
      | bad => rw [e2] at e; cases e
      | ex z h1 => rw [e2] at e; cases e
      | ok ys h2 =>
        rw [e2] at e
        cases e
        show ys.length + 1 = _
        rw [len_ev es _ _ _ _ e2]
        rfl
theorem okL_len : ∀ (es : IEs) {C : Ct} {xs : List Expr}, okL T es C xs = true → esLen es = xs.length ∧ xs.all notStar = true ∧ (xs = [] → evL c es = vNil)
  | .nil, C, xs, h => by
    rw [okL] at h
    cases xs with
    | nil => exact ⟨rfl, rfl, fun _ => by rw [evL]⟩
    | cons _ _ => cases h
  | .cons e es, C, xs, h => by
    cases xs with
    | nil => rw [okL] at h; cases h
    | cons y ys =>
      rw [okL] at h
      simp only [Bool.and_eq_true] at h
      obtain ⟨i1, i2, _⟩ := okL_len es h.2
      refine ⟨by show esLen es + 1 = _; rw [i1]; rfl, ?_, fun q => by cases q⟩
      show (notStar y && ys.all notStar) = true
      rw [h.1.1, i2]
      rfl
theorem okW_len : ∀ (es : IEs) {C : Ct} {xs : List Keyword}, okW T es C xs = true → esLen es = xs.length ∧ (xs = [] → evL c es = vNil)
  | .nil, C, xs, h => by
    rw [okW] at h
    cases xs with
    | nil => exact ⟨rfl, fun _ => by rw [evL]⟩
    | cons _ _ => cases h
  | .cons e es, C, xs, h => by
    cases xs with
    | nil => rw [okW] at h; cases h
    | cons y ys =>
      rw [okW] at h
      simp only [Bool.and_eq_true] at h
      obtain ⟨i1, _⟩ := okW_len es h.2
      exact ⟨by show esLen es + 1 = _; rw [i1]; rfl, fun q => by cases q⟩
theorem okTys_ok (G : Good T g c lv C W X) : ∀ {ts : List Ty} {zs : List Expr}, okTys C T ts zs = true → ∃ ns ps, tyNms ts = some ns ∧ zs = names ts ps ∧ ps.length = ts.length ∧ (∀ t ∈ ts, Gl X (tyNm t) ∧ X.mg (tyNm t) = none) ∧ ns.length = ts.length
  | [], zs, h => by
    cases zs with
    | nil => exact ⟨[], [], rfl, rfl, rfl, (fun _ h => absurd h List.not_mem_nil), rfl⟩
    | cons _ _ => cases h
  | t :: ts, zs, h => by
    cases zs with
    | nil => cases h
    | cons z zs =>
      unfold okTys at h
      obtain ⟨h1, h2⟩ := Bool.and_eq_true_iff.mp h
      obtain ⟨ns, ps, e1, e2, e3, e4, e5⟩ := okTys_ok G h2
      unfold okTy at h1
      split at h1
      · rename_i n p
        simp only [Bool.and_eq_true] at h1
        obtain ⟨⟨⟨q1, q2⟩, q3⟩, q4⟩ := h1
        have hn : n = tyNm t := by simpa using q1
        subst hn
        obtain ⟨m, hm⟩ := Option.isSome_iff_exists.mp q4
        refine ⟨m :: ns, p :: ps, by unfold tyNms; rw [hm, e1], by rw [e2]; rfl, by simp [e3], fun t' ht => ?_, by simp [e5]⟩
        rcases List.mem_cons.mp ht with rfl | ht
        · exact ⟨G.gl q2, G.frees _ (by simpa using q3)⟩
        · exact e4 t' ht
      · cases h1
theorem pw_tail {W : WX} {e : IE} {l r : Expr} {rs : List Expr} {p : Pos} (hb : Claim true X g W c e (tailE .And p (r :: rs))) : PW X (.BoolOp .And (r :: rs) p) (rdB g W (tE (evE c e))) := by
  cases rs with
  | nil => exact pw_and1 (hb.2 rfl).1
  | cons s rs => exact (hb.2 rfl).2 ⟨.And, r :: s :: rs, p, rfl⟩
theorem pw_tailO {W : WX} {e : IE} {l r : Expr} {rs : List Expr} {p : Pos} (hb : Claim true X g W c e (tailE .Or p (r :: rs))) : PW X (.BoolOp .Or (r :: rs) p) (rdB g W (tE (evE c e))) := by
  cases rs with
  | nil => exact pw_or1 (hb.2 rfl).1
  | cons s rs => exact (hb.2 rfl).2 ⟨.Or, r :: s :: rs, p, rfl⟩
theorem pe_tail {W : WX} {op : BoolOp} {e : IE} {r : Expr} {rs : List Expr} {p : Pos} (hb : PE X (tailE op p (r :: rs)) (rdE g W (evE c e))) : PE X (.BoolOp op (r :: rs) p) (rdE g W (evE c e)) := by
  cases rs with
  | nil => exact pe_one hb
  | cons s rs => exact hb
theorem fold_ns {e : Expr} {env : Env} (h : notSet e = true) : ∀ v, foldedSetIterable e env v = pure v := fun v => by
  unfold foldedSetIterable
  split
  · cases h
  · rfl
end
variable {T : Tab} {g : GS}
set_option maxHeartbeats 2000000 in
mutual
theorem okX_ok : ∀ (e : IE) {c : CC} {lv : Nat} {C : Ct} {W : WX} {X : Cx} {t : Bool} {x : Expr}, Good T g c lv C W X → okX T e C t x = true → Claim t X g W c e x
  | .xx, c, lv, C, W, X, t, x, G, h => by
    refine ⟨fun _ => ⟨fun _ _ _ _ _ _ ⟨_, _, _, _, _, _, cd⟩ => by rw [evE] at cd; exact cd.elim⟩, fun _ => ⟨⟨fun _ _ _ _ _ _ ⟨_, _, _, _, _, _, cd⟩ => by rw [evE] at cd; exact cd.elim⟩, fun _ => ⟨fun _ _ _ _ _ _ _ ⟨_, _, _, _, _, _, cd⟩ => by rw [evE] at cd; exact cd.elim⟩⟩⟩
  | .var i, c, lv, C, W, X, t, x, G, h => by
    rw [okX.eq_def] at h
    dsimp only at h
    split at h
    · simp only [Bool.and_eq_true, decide_eq_true_eq] at h
      obtain ⟨⟨h1, h2⟩, h3⟩ := h
      refine claim_pl G rfl ?_
      rw [evE]
      exact pe_vv (pe_var (by rw [G.hN]; exact h1) (G.vs h2) (pn h3).1 (pn h3).2)
    · cases h
  | .c u, c, lv, C, W, X, t, x, G, h => by
    rw [okX.eq_def] at h
    dsimp only at h
    split at h
    · rename_i k j p
      refine claim_pl G rfl ?_
      rw [evE]
      cases u with
      | non => cases k <;> first | (cases h; done) | exact pe_lit pe_non fun _ _ => rfl
      | bl b =>
        cases k <;> first | (cases h; done) | skip
        rename_i b'
        have : b = b' := by simpa [okC] using h
        subst this
        exact pe_lit pe_bl fun _ _ => rfl
      | int i =>
        cases k <;> first | (cases h; done) | skip
        rename_i b'
        have : i = b' := by simpa [okC] using h
        subst this
        exact pe_lit pe_int fun _ _ => rfl
      | str z =>
        cases k <;> first | (cases h; done) | skip
        rename_i b'
        have : z = b' := by simpa [okC] using h
        subst this
        exact pe_lit pe_str fun _ _ => rfl
      | _ => cases h
    · cases h
  | .gl y u, c, lv, C, W, X, t, x, G, h => by
    rw [okX.eq_def] at h
    dsimp only at h
    split at h
    · rename_i n p
      simp only [Bool.and_eq_true, decide_eq_true_eq] at h
      obtain ⟨⟨⟨h1, h2⟩, h3⟩, h4⟩ := h
      refine claim_pl G rfl ?_
      rw [evE]
      cases u with
      | int i =>
        obtain ⟨u, e1, e2⟩ := G.nums n i (by simpa using h4)
        exact pe_lit (pe_glob (G.gl h2) e1 e2 (pn h3).1) fun _ _ => rfl
      | str z =>
        obtain ⟨u, e1, e2⟩ := G.txts n z (by simpa using h4)
        exact pe_lit (pe_glob (G.gl h2) e1 e2 (pn h3).1) fun _ _ => rfl
      | _ => cases h4
    · cases h
  | .fn y f, c, lv, C, W, X, t, x, G, h => by
    rw [okX.eq_def] at h
    dsimp only at h
    split at h
    · rename_i n p
      simp only [Bool.and_eq_true, decide_eq_true_eq] at h
      obtain ⟨⟨⟨h1, h2⟩, h3⟩, h4⟩ := h
      refine claim_pl G rfl ?_
      rw [evE]
      exact pe_lit (pe_glob (G.gl h2) (G.fns n f (by simpa using h4)) (v := .ref (g.fa f)) rfl (pn h3).1) fun _ _ => rfl
    · cases h
  | .bin o a b, c, lv, C, W, X, t, x, G, h => by
    rw [okX.eq_def] at h
    dsimp only at h
    split at h
    · simp only [Bool.and_eq_true, decide_eq_true_eq] at h
      obtain ⟨⟨rfl, h2⟩, h3⟩ := h
      refine claim_pl G rfl ?_
      rw [evE]
      exact pe_bin2 G.hK o ((okX_ok a G h2).1 rfl) ((okX_ok b G h3).1 rfl)
    · cases h
  | .neg a, c, lv, C, W, X, t, x, G, h => by
    rw [okX.eq_def] at h
    dsimp only at h
    split at h
    · refine claim_pl G rfl ?_
      rw [evE]
      exact pe_neg2 ((okX_ok a G h).1 rfl)
    · cases h
  | .nt a, c, lv, C, W, X, t, x, G, h => by
    rw [okX.eq_def] at h
    dsimp only at h
    split at h
    · have ih := okX_ok a G h
      refine ⟨fun e => ?_, fun e => ⟨?_, fun ⟨op, xs, p, e⟩ => by cases e⟩⟩
      · rw [evE]; exact pe_not2 G.hK (ih.1 e)
      · rw [evE]; exact pt_not2 (ih.2 e).1
    · cases h
  | .cmp o a b, c, lv, C, W, X, t, x, G, h => by
    rw [okX.eq_def] at h
    dsimp only at h
    split at h
    · simp only [Bool.and_eq_true, decide_eq_true_eq] at h
      obtain ⟨⟨⟨rfl, h1⟩, h2⟩, h3⟩ := h
      have ia := (okX_ok a G h2).1 rfl
      have ib := (okX_ok b G h3).1 rfl
      refine ⟨fun e => ?_, fun e => ⟨?_, fun ⟨op, xs, p, e⟩ => by cases e⟩⟩
      · rw [evE]; exact pe_cmp2 G.hK G.u o ia ib (by simpa using h1)
      · rw [evE]; exact pt_cmp2 G.hK G.u o ia ib (by simpa using h1)
    · cases h
  | .ch o o' a b d, c, lv, C, W, X, t, x, G, h => by
    rw [okX.eq_def] at h
    dsimp only at h
    split at h
    · simp only [Bool.and_eq_true, decide_eq_true_eq] at h
      obtain ⟨⟨⟨⟨⟨rfl, rfl⟩, h1⟩, h2⟩, h3⟩, h4⟩ := h
      have ia := (okX_ok a G h2).1 rfl
      have ib := (okX_ok b G h3).1 rfl
      have id := (okX_ok d G h4).1 rfl
      refine ⟨fun e => ?_, fun e => ⟨?_, fun ⟨op, xs, p, e⟩ => by cases e⟩⟩
      · rw [evE]; exact pe_ch2 G.hK G.u o o' ia ib id (by simpa using h1)
      · rw [evE]; exact pt_ch2 G.hK G.u o o' ia ib id (by simpa using h1)
    · cases h
  | .and a b, c, lv, C, W, X, t, x, G, h => by
    rw [okX.eq_def] at h
    dsimp only at h
    split at h
    · rename_i l r rs p
      simp only [Bool.and_eq_true] at h
      have ia := okX_ok a G h.1
      have ib := okX_ok b G h.2
      cases t with
      | false => exact ⟨fun _ => by rw [evE]; exact pe_and2 G.hK (ia.1 rfl) (pe_tail (ib.1 rfl)), fun e => by cases e⟩
      | true =>
        have pw : PW X (.BoolOp .And (l :: r :: rs) p) (rdB g W (tE (evE c (.and a b)))) := by rw [evE]; exact pw_and2 (ia.2 rfl).1 (pw_tail (l := l) ib)
        exact ⟨(fun e => by cases e), fun _ => ⟨pw.pt, fun _ => pw⟩⟩
    · cases h
  | .or a b, c, lv, C, W, X, t, x, G, h => by
    rw [okX.eq_def] at h
    dsimp only at h
    split at h
    · rename_i l r rs p
      simp only [Bool.and_eq_true] at h
      have ia := okX_ok a G h.1
      have ib := okX_ok b G h.2
      cases t with
      | false => exact ⟨fun _ => by rw [evE]; exact pe_or2 G.hK (ia.1 rfl) (pe_tail (ib.1 rfl)), fun e => by cases e⟩
      | true =>
        have pw : PW X (.BoolOp .Or (l :: r :: rs) p) (rdB g W (tE (evE c (.or a b)))) := by rw [evE]; exact pw_or2 (ia.2 rfl).1 (pw_tailO (l := l) ib)
        exact ⟨(fun e => by cases e), fun _ => ⟨pw.pt, fun _ => pw⟩⟩
    · cases h
  | .ife q a b, c, lv, C, W, X, t, x, G, h => by
    rw [okX.eq_def] at h
    dsimp only at h
    split at h
    · simp only [Bool.and_eq_true] at h
      obtain ⟨⟨h1, h2⟩, h3⟩ := h
      have iq := ((okX_ok q G h1).2 rfl).1
      have ia := okX_ok a G h2
      have ib := okX_ok b G h3
      refine ⟨fun e => ?_, fun e => ⟨?_, fun ⟨op, xs, p, e⟩ => by cases e⟩⟩
      · rw [evE]; exact pe_ife2 iq (ia.1 e) (ib.1 e)
      · rw [evE]; exact pt_ife2 iq (ia.2 e).1 (ib.2 e).1
    · cases h
  | .tup es, c, lv, C, W, X, t, x, G, h => by
    rw [okX.eq_def] at h
    dsimp only at h
    split at h
    · refine claim_pl G rfl ?_
      rw [evE]
      exact pe_tup2 (okL_ok es G h)
    · cases h
  | .lst es, c, lv, C, W, X, t, x, G, h => by
    rw [okX.eq_def] at h
    dsimp only at h
    split at h
    · refine claim_pl G rfl ?_
      rw [evE]
      exact pe_lst2 (okL_ok es G h)
    · cases h
  | .idx a b, c, lv, C, W, X, t, x, G, h => by
    rw [okX.eq_def] at h
    dsimp only at h
    split at h
    · simp only [Bool.and_eq_true] at h
      obtain ⟨⟨h1, h2⟩, h3⟩ := h
      refine claim_pl G rfl ?_
      rw [evE]
      exact pe_idx2 G.hK ((okX_ok a G h2).1 rfl) ((okX_ok b G h3).1 rfl) (plainIx_ok h1)
    · cases h
  | .slc a lo hi, c, lv, C, W, X, t, x, G, h => by
    rw [okX.eq_def] at h
    dsimp only at h
    split at h
    · simp only [Bool.and_eq_true] at h
      obtain ⟨⟨h1, h2⟩, h3⟩ := h
      refine claim_pl G rfl ?_
      rw [evE]
      exact pe_slc2 G.hK ((okX_ok a G h1).1 rfl) (okO_ok lo G h2) (okO_ok hi G h3)
    · cases h
  | .rev a, c, lv, C, W, X, t, x, G, h => by
    rw [okX.eq_def] at h
    dsimp only at h
    split at h
    · refine claim_pl G rfl ?_
      rw [evE]
      exact pe_rev2 G.hK ((okX_ok a G h).1 rfl)
    · cases h
  | .nr a, c, lv, C, W, X, t, x, G, h => by
    rw [okX.eq_def] at h
    dsimp only at h
    simp only [Bool.and_eq_true] at h
    have t0 : t = false := by simpa using h.1
    subst t0
    exact ⟨fun _ => by rw [evE]; exact pe_nr ((okX_ok a G h.2).1 rfl), fun e => by cases e⟩
  | .call f es ks kes, c, lv, C, W, X, t, x, G, h => by
    rw [okX.eq_def] at h
    dsimp only at h
    split at h
    · rename_i n p xs kws pos
      simp only [Bool.and_eq_true, decide_eq_true_eq] at h
      obtain ⟨⟨⟨⟨⟨⟨h1, h2⟩, h3⟩, h4⟩, h5⟩, h6⟩, h7⟩ := h
      obtain ⟨l1, l2, l3⟩ := okL_len (c := c) es h4
      obtain ⟨m1, m2⟩ := okW_len (c := c) kes h6
      have hk : kws.length = ks.length := by
        have := congrArg List.length h5
        simpa using this
      refine claim_pl G rfl ?_
      rw [evE]
      exact pe_call2 G.tk (G.pats f xs.length ks (by simpa using h7)) G.room (G.gl h1) (G.fns n f (by simpa using h3)) (pn h2).1 l2 h5 (by rw [← l1]; exact len_ev es) (by rw [← hk, ← m1]; exact len_ev kes) l3 m2 (okL_ok es G h4) (okW_ok kes G h6)
    · cases h
  | .cv i es, c, lv, C, W, X, t, x, G, h => by
    rw [okX.eq_def] at h
    dsimp only at h
    split at h
    · rename_i n p y ys pos
      simp only [Bool.and_eq_true, decide_eq_true_eq] at h
      obtain ⟨⟨⟨h1, h2⟩, h3⟩, h4⟩ := h
      obtain ⟨l1, l2, l3⟩ := okL_len (c := c) es h4
      refine claim_pl G rfl ?_
      rw [evE]
      exact pe_cv2 G.tk G.any G.room (by rw [G.hN]; exact h1) (G.vs h2) (pn h3).1 (pn h3).2 l2 (by rw [← l1]; exact len_ev es) (okL_ok es G h4)
    · cases h
  | .bi b es, c, lv, C, W, X, t, x, G, h => by
    rw [okX.eq_def] at h
    dsimp only at h
    split at h
    · simp only [Bool.and_eq_true, decide_eq_true_eq] at h
      obtain ⟨⟨⟨⟨rfl, h2⟩, h3⟩, h4⟩, h5⟩ := h
      obtain ⟨l1, l2, l3⟩ := okL_len (c := c) es h4
      refine claim_pl G rfl ?_
      rw [evE]
      exact pe_bi2 G.hK G.calm b (fun e => G.dig (okB_ok h5 e)) (G.gl h2) (G.frees _ (by simpa using h3)) l2 (okL_ok es G h4)
    · cases h
  | .isi a ts, c, lv, C, W, X, t, x, G, h => by
    rw [okX.eq_def] at h
    dsimp only at h
    split at h
    · rename_i n p y z pos
      simp only [Bool.and_eq_true, decide_eq_true_eq] at h
      obtain ⟨⟨⟨⟨⟨rfl, h2⟩, h3⟩, h4⟩, h5⟩, h6⟩ := h
      have ia := (okX_ok a G h5).1 rfl
      refine claim_pl G rfl ?_
      rw [evE]
      split at h6
      · rename_i zs kk tp
        obtain ⟨h6, h7⟩ := Bool.and_eq_true_iff.mp h6
        obtain ⟨ns, ps, e1, e2, e3, e4, e5⟩ := okTys_ok G h6
        subst e2
        exact pe_isiN G.hK e1 e3 e4 (by rw [e5]; have := Nat.le_of_ble_eq_true h7; unfold lim; omega) (G.gl h2) (G.frees _ (by simpa using h3)) h4 ia
      · split at h6
        · rename_i t1
          unfold okTy at h6
          split at h6
          · rename_i m q _
            simp only [Bool.and_eq_true] at h6
            obtain ⟨⟨⟨q1, q2⟩, q3⟩, q4⟩ := h6
            have hm : m = tyNm t1 := by simpa using q1
            subst hm
            obtain ⟨mm, hmm⟩ := Option.isSome_iff_exists.mp q4
            exact pe_isi1 G.hK hmm (G.gl q2) (G.frees _ (by simpa using q3)) (G.gl h2) (G.frees _ (by simpa using h3)) h4 ia
          · cases h6
        · cases h6
    · cases h
  | .met m o es, c, lv, C, W, X, t, x, G, h => by
    rw [okX.eq_def] at h
    dsimp only at h
    split at h
    · rename_i y n ap xs cp
      simp only [Bool.and_eq_true, decide_eq_true_eq] at h
      obtain ⟨⟨⟨⟨⟨rfl, h2⟩, h3⟩, h4⟩, h5⟩, h6⟩ := h
      obtain ⟨l1, l2, l3⟩ := okL_len (c := c) es h5
      have io := (okX_ok o G h4).1 rfl
      have ie := okL_ok es G h5
      refine claim_pl G rfl ?_
      rw [evE]
      cases xs with
      | nil =>
        rw [l3 rfl]
        exact pe_met20 G.hK G.u m h2 h3 io
      | cons z zs => exact pe_met2 G.hK G.u m h2 h3 l2 (Nat.le_of_ble_eq_true h6) io ie
    · cases h
  | .lc tt it k e own, c, lv, C, W, X, t, x, G, h => by
    rw [okX.eq_def] at h
    dsimp only at h
    split at h
    · rename_i elt tg iter ifs a scope pos
      simp only [Bool.and_eq_true, decide_eq_true_eq] at h
      obtain ⟨⟨⟨⟨⟨⟨⟨⟨rfl, h1⟩, h2⟩, h3⟩, h4⟩, h5⟩, h6⟩, h7⟩, h8⟩ := h
      refine claim_pl G rfl ?_
      rw [evE]
      refine pe_lc2' G.calm G.nd (okI_ok it G h5) (by rw [G.hN, G.sc]; exact blkOk_by h1) (fun i hi => ?_) (fun s H A cl fp => (okG_ok tt (G.blk s H scope A cl fp) h6).2 h2) (fun s H A cl fp => okK_ok k (G.blk s H scope A cl fp) h7) (fun s H A cl fp => (okX_ok e (G.blk s H scope A cl fp) h8).1 rfl) (fold_ns h4)
      have := List.all_eq_true.mp h3 i hi
      simpa using this
    · cases h
theorem okL_ok : ∀ (es : IEs) {c : CC} {lv : Nat} {C : Ct} {W : WX} {X : Cx} {xs : List Expr}, Good T g c lv C W X → okL T es C xs = true → PA X xs (rdL g W (evL c es))
  | .nil, c, lv, C, W, X, xs, G, h => by
    cases xs with
    | nil => rw [evL]; exact pa_nil2
    | cons _ _ => rw [okL] at h; cases h
  | .cons e es, c, lv, C, W, X, xs, G, h => by
    cases xs with
    | nil => rw [okL] at h; cases h
    | cons y ys =>
      rw [okL] at h
      simp only [Bool.and_eq_true] at h
      rw [evL]
      exact pa_cons2 h.1.1 ((okX_ok e G h.1.2).1 rfl) (okL_ok es G h.2)
theorem okW_ok : ∀ (es : IEs) {c : CC} {lv : Nat} {C : Ct} {W : WX} {X : Cx} {xs : List Keyword}, Good T g c lv C W X → okW T es C xs = true → PKr X g W xs (evL c es)
  | .nil, c, lv, C, W, X, xs, G, h => by
    cases xs with
    | nil => rw [evL]; exact pk_nil2
    | cons _ _ => rw [okW] at h; cases h
  | .cons e es, c, lv, C, W, X, xs, G, h => by
    cases xs with
    | nil => rw [okW] at h; cases h
    | cons y ys =>
      rw [okW] at h
      simp only [Bool.and_eq_true] at h
      rw [evL]
      obtain ⟨n, v, p⟩ := y
      exact pk_cons2 ((okX_ok e G h.1).1 rfl) (okW_ok es G h.2)
theorem okO_ok : ∀ (o : IO) {c : CC} {lv : Nat} {C : Ct} {W : WX} {X : Cx} {x : Option Expr}, Good T g c lv C W X → okO T o C x = true → PO X x (rdO g W (evO c o))
  | .none, c, lv, C, W, X, x, G, h => by
    cases x with
    | none => rw [evO]; exact po_none2
    | some y => rw [okO] at h; cases h
  | .some e, c, lv, C, W, X, x, G, h => by
    cases x with
    | none => rw [okO] at h; cases h
    | some y =>
      rw [okO] at h
      rw [evO]
      exact po_some2 ((okX_ok e G h).1 rfl)
theorem okK_ok : ∀ (o : IO) {c : CC} {lv : Nat} {C : Ct} {W : WX} {X : Cx} {x : List Expr}, Good T g c lv C W X → okK T o C x = true → PTs X x (rdB g W (evK c o))
  | .none, c, lv, C, W, X, x, G, h => by
    cases x with
    | nil =>
      rw [evK]
      exact ⟨fun pins s σ H Q I ⟨y, φ, ρ, h, rs, rep, cd⟩ => pts_nil.run pins s σ H Q I (cd φ true H Step.refl rep rfl)⟩
    | cons _ _ => rw [okK] at h; cases h
  | .some e, c, lv, C, W, X, x, G, h => by
    rw [okK.eq_def] at h
    dsimp only at h
    split at h
    · rw [evK]
      exact pts_one ((okX_ok e G h).2 rfl).1
    · cases h
theorem okI_ok : ∀ (it : II) {c : CC} {lv : Nat} {C : Ct} {W : WX} {X : Cx} {tg x : Expr}, Good T g c lv C W X → okI T it C tg x = true → PI X tg x (rdI g W (evI c it))
  | .val e, c, lv, C, W, X, tg, x, G, h => by
    rw [okI] at h
    rw [evI]
    exact pi_val2 G.hK ((okX_ok e G h).1 rfl)
  | .rng es, c, lv, C, W, X, tg, x, G, h => by
    rw [okI.eq_def] at h
    dsimp only at h
    split at h
    · simp only [Bool.and_eq_true, decide_eq_true_eq] at h
      obtain ⟨⟨⟨⟨rfl, h2⟩, h3⟩, h4⟩, h5⟩ := h
      obtain ⟨l1, l2, l3⟩ := okL_len (c := c) es h5
      rw [evI]
      exact pi_rng2 (G.gl h2) (G.frees _ (by simpa using h3)) l2 (by simp) (Nat.le_of_ble_eq_true h4) (by rw [← l1]; exact len_ev es) (okL_ok es G h5)
    · cases h
  | .enm e, c, lv, C, W, X, tg, x, G, h => by
    rw [okI.eq_def] at h
    dsimp only at h
    split at h
    · split at h
      · simp only [Bool.and_eq_true, decide_eq_true_eq] at h
        obtain ⟨⟨⟨⟨rfl, h2⟩, h3⟩, h4⟩, h5⟩ := h
        rw [evI]
        exact pi_enm2 G.hK (G.gl h2) (G.frees _ (by simpa using h3)) h4 ((okX_ok e G h5).1 rfl)
      · cases h
    · cases h
  | .zip a b, c, lv, C, W, X, tg, x, G, h => by
    rw [okI.eq_def] at h
    dsimp only at h
    split at h
    · split at h
      · simp only [Bool.and_eq_true, decide_eq_true_eq] at h
        obtain ⟨⟨⟨⟨⟨⟨rfl, h2⟩, h3⟩, h4⟩, h5⟩, h6⟩, h7⟩ := h
        rw [evI]
        exact pi_zip2 G.hK (G.gl h2) (G.frees _ (by simpa using h3)) h4 h5 ((okX_ok a G h6).1 rfl) ((okX_ok b G h7).1 rfl)
      · cases h
    · cases h
theorem okG_ok : ∀ (tt : Tg) {c : CC} {lv : Nat} {C : Ct} {W : WX} {X : Cx} {x : Expr}, Good T g c lv C W X → okG T tt C x = true → PG X x (GD g (tgN tt) (evG c tt)) ∧ (loopT tt = true → PG X x (GD1 g (tgN tt) (evT1 c tt)))
  | .nm i, c, lv, C, W, X, x, G, h => by
    rw [okG.eq_def] at h
    dsimp only at h
    split at h
    · rw [tgN]
      exact ⟨by rw [evG]; exact pg_nm G.nd (G.st h), fun _ => pg_nm1 G.nd (G.st h)⟩
    · cases h
  | .tp ts, c, lv, C, W, X, x, G, h => by
    rw [okG.eq_def] at h
    dsimp only at h
    split at h
    · obtain ⟨i1, i2, i3⟩ := okGs_ok ts G h
      rw [tgN]
      exact ⟨by rw [evG]; exact pg_tp G.hK G.calm i2 i3 i1, fun _ => pg_tp1 G.hK G.calm i2 i3 i1⟩
    · cases h
  | .sub o i, c, lv, C, W, X, x, G, h => by
    rw [okG.eq_def] at h
    dsimp only at h
    split at h
    · simp only [Bool.and_eq_true] at h
      obtain ⟨⟨h1, h2⟩, h3⟩ := h
      rw [tgN]
      exact ⟨by rw [evG]; exact pg_sub2 G.hK ((okX_ok o G h2).1 rfl) ((okX_ok i G h3).1 rfl) (sub_assign h1), fun e => by cases e⟩
    · cases h
theorem okGs_ok : ∀ (ts : Tgs) {c : CC} {lv : Nat} {C : Ct} {W : WX} {X : Cx} {xs : List Expr}, Good T g c lv C W X → okGs T ts C xs = true → PGs X xs (GDs g (tgsN ts) (evTs c ts)) ∧ xs.all notStar = true ∧ xs.length = tgLen ts
  | .nil, c, lv, C, W, X, xs, G, h => by
    cases xs with
    | nil => rw [tgsN]; exact ⟨pgs_nil2, rfl, rfl⟩
    | cons _ _ => rw [okGs] at h; cases h
  | .cons t ts, c, lv, C, W, X, xs, G, h => by
    cases xs with
    | nil => rw [okGs] at h; cases h
    | cons y ys =>
      rw [okGs] at h
      simp only [Bool.and_eq_true] at h
      obtain ⟨i1, i2, i3⟩ := okGs_ok ts G h.2
      rw [tgsN]
      refine ⟨pgs_cons2 h.1.1 (okG_ok t G h.1.2).1 i1, ?_, by simp [i3, tgLen]⟩
      show (notStar y && ys.all notStar) = true
      rw [h.1.1, i2]
      rfl
end
end VM

/-! The checker of statements, its soundness. -/
namespace VM
open PySem PySem.Spec PyProof.Rows L2 RZ
theorem bk_fn {env : Env} (hk : env.scope.kind = .function) : env.blockKind = .function := by unfold Env.blockKind; rw [hk]; rfl
theorem dups2 {x y : Str} (h : x ≠ y) : [x, y].eraseDups = [x, y] := by
  have h2 : ¬ y = x := fun e => h e.symm
  simp [List.eraseDups_cons, h2]
theorem dups3 {x y z : Str} (h : x ≠ y) (h2 : x ≠ z) (h3 : y ≠ z) : [x, y, z].eraseDups = [x, y, z] := by
  have e1 : ¬ y = x := fun e => h e.symm
  have e2 : ¬ z = x := fun e => h2 e.symm
  have e3 : ¬ z = y := fun e => h3 e.symm
  simp [List.eraseDups_cons, e1, e2, e3]
theorem star2 {es : List Expr} (h : es.all notStar = true) : (es.any fun | .Starred .. => true | _ => false) = false := by
  rw [List.any_eq_false]
  intro e he
  have := List.all_eq_true.mp h e he
  cases e <;> first | (cases this; done) | simp
theorem sw_par2 {env : Env} {x y : Str} {px py kt pt a b k2 p2} (hk : env.scope.kind = .function) (hx : env.scope.names.lookup x = some .local) (hy : env.scope.names.lookup y = some .local) (hl : py.line = px.line) (hxy : x ≠ y) (hs : [a, b].all notStar = true)
    (hf : ([a, b].all (foldedForSure 8)) = false) (hc : [a, b].all (constantsAlone 8) = false) : swappedStores [.Tuple [.Name x px, .Name y py] kt pt] (.Tuple [a, b] k2 p2) env = pure (some [x, y]) := by
  have kx : env.kindOf x = some .local := hx
  have ky : env.kindOf y = some .local := hy
  have hnames : ([Expr.Name x px, Expr.Name y py].filterMap fun
    | .Name id pos => if env.kindOf id == some .local && pos.line == (([Expr.Name x px, Expr.Name y py].head?.map (·.pos.line)).getD 0) then some id else none
    | _ => none) = [x, y] := by
    simp [kx, ky, hl, Expr.pos]
  unfold swappedStores
  simp only [List.length_cons, List.length_nil, bk_fn hk]
  rw [if_neg (by decide), if_neg (fun h => absurd (h.symm.trans (star2 hs)) (by decide))]
  generalize hN : List.filterMap _ _ = nms
  have e : nms = [x, y] := hN.symm.trans hnames
  subst e
  rw [dups2 hxy, if_neg (by simp), if_neg (by rw [hf]; decide), if_neg (by rw [hc]; decide)]
theorem sw_par3 {env : Env} {x y z : Str} {px py pz kt pt a b c k2 p2} (hk : env.scope.kind = .function) (hx : env.scope.names.lookup x = some .local) (hy : env.scope.names.lookup y = some .local) (hz : env.scope.names.lookup z = some .local) (hl : py.line = px.line) (hl2 : pz.line = px.line) (hxy : x ≠ y) (hxz : x ≠ z) (hyz : y ≠ z) (hs : [a, b, c].all notStar = true)
    (hf : ([a, b, c].all (foldedForSure 8)) = false) (hc : [a, b, c].all (constantsAlone 8) = false) : swappedStores [.Tuple [.Name x px, .Name y py, .Name z pz] kt pt] (.Tuple [a, b, c] k2 p2) env = pure (some [x, y, z]) := by
  have kx : env.kindOf x = some .local := hx
  have ky : env.kindOf y = some .local := hy
  have kz : env.kindOf z = some .local := hz
  have hnames : ([Expr.Name x px, Expr.Name y py, Expr.Name z pz].filterMap fun
    | .Name id pos => if env.kindOf id == some .local && pos.line == (([Expr.Name x px, Expr.Name y py, Expr.Name z pz].head?.map (·.pos.line)).getD 0) then some id else none
    | _ => none) = [x, y, z] := by
    simp [kx, ky, kz, hl, hl2, Expr.pos]
  unfold swappedStores
  simp only [List.length_cons, List.length_nil, bk_fn hk]
  rw [if_neg (by decide), if_neg (fun h => absurd (h.symm.trans (star2 hs)) (by decide))]
  generalize hN : List.filterMap _ _ = nms
  have e : nms = [x, y, z] := hN.symm.trans hnames
  subst e
  rw [dups3 hxy hxz hyz, if_neg (by simp), if_neg (by rw [hf]; decide), if_neg (by rw [hc]; decide)]
def sw0 : Expr → Bool
  | .ListComp _ _ _ _ => false
  | .SetComp _ _ _ _ => false
  | .DictComp _ _ _ _ _ => false
  | _ => true
theorem sw0_ok {e : Expr} (h : sw0 e = true) (t : Option Expr) (l : Nat) (env : Env) : swapsWith e t l env = pure false := by
  cases e <;> first | (cases h; done) | rfl
def swB (sc : Scope) (n : Str) (px : Pos) : Expr → Bool
  | .ListComp _ _ s p => (sc.names.lookup n == some .local) && px.line == p.line && !(s.names.any fun (m, k) => m == n && (k == .local || k == .cell))
  | _ => false
theorem swB_ok {elt : Expr} {gs : List Comprehension} {s : Scope} {p px : Pos} {n : Str} {l : Nat} {env : Env} (hk : env.scope.kind = .function) : swapsWith (.ListComp elt gs s p) (some (.Name n px)) l env = pure (swB env.scope n px (.ListComp elt gs s p)) := by
  unfold swapsWith
  simp only [bk_fn hk]
  rfl

section
variable {X : Cx} {g : GS} {W : WX} {e ea eb ec : Expr} {es : List Expr} {f k l : EvE} {fs : EvL} {pos p : Pos}
theorem nr_rd {σ : L2.St} {H : Hp} {Q : VK} (hh : rdE g W (vNr f) σ H Q) : rdE g W f σ H Q := by
  obtain ⟨x, φ, ρ, h, rs, rep, c⟩ := hh
  simp only [vNr] at c
  refine ⟨x, φ, ρ, h, rs, rep, ?_⟩
  cases e1 : f ρ h with
  | bad => rw [e1] at c; exact c
  | ex z h1 => rw [e1] at c; exact c
  | ok r h1 =>
    rw [e1] at c
    intro φ' v H' st rep' p
    cases r with
    | v u => exact c.elim
    | r n => exact c φ' v H' st rep' p
    | nw ob =>
      obtain ⟨l, rp, hv, hl⟩ := p
      have hlen : φ'.length = h1.length := rep'.len
      exact c (φ' ++ [some l]) v H' (st.skip hl) rp ⟨by rw [List.length_append, hlen]; simp, fun m hm => by
        rw [← hlen] at hm
        simp at hm
        rw [← hm]
        exact hv⟩
def sPar (is : List Nat) (fs : EvL) : EvS := fun ρ h => SR.ofRs ρ (fs ρ h) fun ss h => match setMany ρ is ss with
    | some ρ => .nx ρ h
    | none => .bad
theorem setMany_len : ∀ {is : List Nat} {ss : List S} {ρ ρ' : Rho}, setMany ρ is ss = some ρ' → is.length = ss.length
  | [], [], _, _, _ => rfl
  | [], _ :: _, _, _, h => by cases h
  | _ :: _, [], _, _, h => by cases h
  | i :: is, s :: ss, ρ, ρ', h => by
    show is.length + 1 = ss.length + 1
    rw [setMany_len (ρ := ρ.set i (some s)) h]
theorem par_rd2 {i j : Nat} {σ : L2.St} {H : Hp} {D : Ends} (hh : RDS g W (sPar [i, j] fs) D σ H) : tPar i j (rdL g W fs) D σ H := by
  obtain ⟨x, φ, ρ, h, rs, rep, c⟩ := hh
  refine head_rd (k := fun ρ ss h => match setMany ρ [i, j] ss with
    | some ρ => .nx ρ h
    | none => .bad) rs rep c fun vs H1 φ1 h1 ss st1 rs1 rep1 p c1 => ?_
  cases e : setMany ρ [i, j] ss with
  | none =>
    simp only [e] at c1
    exact c1.elim
  | some ρ' =>
    simp only [e] at c1
    have hl := setMany_len e
    cases ss with
    | nil => cases hl
    | cons s ss =>
      cases ss with
      | nil => cases hl
      | cons t ss =>
        cases ss with
        | cons _ _ => cases hl
        | nil =>
          cases e
          obtain ⟨v, w, rfl, d1, d2⟩ := ss2 p
          exact ⟨v, w, rfl, c1 φ1 _ H1 Step.refl ((rs1.set d1).set d2) rep1⟩
theorem par_rd3 {i j m : Nat} {σ : L2.St} {H : Hp} {D : Ends} (hh : RDS g W (sPar [i, j, m] fs) D σ H) : tPar3 i j m (rdL g W fs) D σ H := by
  obtain ⟨x, φ, ρ, h, rs, rep, c⟩ := hh
  refine head_rd (k := fun ρ ss h => match setMany ρ [i, j, m] ss with
    | some ρ => .nx ρ h
    | none => .bad) rs rep c fun vs H1 φ1 h1 ss st1 rs1 rep1 p c1 => ?_
  cases e : setMany ρ [i, j, m] ss with
  | none =>
    simp only [e] at c1
    exact c1.elim
  | some ρ' =>
    simp only [e] at c1
    have hl := setMany_len e
    cases ss with
    | nil => cases hl
    | cons s ss =>
      cases ss with
      | nil => cases hl
      | cons t ss =>
        cases ss with
        | nil => cases hl
        | cons q ss =>
          cases ss with
          | cons _ _ => cases hl
          | nil =>
            cases e
            obtain ⟨v1, r1, rfl, d1, v2, r2, rfl, d2, v3, r3, rfl, d3, d4⟩ := p
            cases (show r3 = [] from d4)
            exact ⟨v1, v2, v3, rfl, c1 φ1 _ H1 Step.refl (((rs1.set d1).set d2).set d3) rep1⟩
def augK (i : Nat) (o : BO) (x : S) (ρ : Rho) (y : S) (h : Hs) : SR := match x, y with
  | .v (.int _), .v (.int _) => match (binS o h x y).bind RV.s with
    | some s => .nx (ρ.set i (some s)) h
    | none => .bad
  | _, _ => .bad
def sAug (i : Nat) (o : BO) (f : EvE) : EvS := fun ρ h => match ρ[i]? with
    | some (some x) => SR.ofRs ρ (sE f ρ h) (augK i o x ρ)
    | _ => .bad
theorem aug_rd {i : Nat} {o : BO} {F : Int → Int → Int} (hF : ∀ h a b, binS o h (.v (.int a)) (.v (.int b)) = some (.v (.int (F a b)))) {σ : L2.St} {H : Hp} {D : Ends} (hh : RDS g W (sAug i o f) D σ H) : tAug i (rdS g W (sE f)) (ipI F) D σ H := by
  obtain ⟨x, φ, ρ, h, rs, rep, c⟩ := hh
  unfold sAug at c
  cases e1 : ρ[i]? with
  | none => rw [e1] at c; exact c.elim
  | some ox =>
    cases ox with
    | none => rw [e1] at c; exact c.elim
    | some s0 =>
      rw [e1] at c
      dsimp only at c
      obtain ⟨v, e2, d⟩ := rs.at_ i s0 e1
      refine ⟨v, e2, head_rd (k := fun ρ => augK i o s0 ρ) rs rep c fun w H1 φ1 h1 y st1 rs1 rep1 p c1 => ?_⟩
      unfold augK at c1
      split at c1
      · rename_i a b
        rw [hF] at c1
        have c1 : CondS g x W D φ1 H1 (.nx (ρ.set i (some (.v (.int (F a b))))) h1) := c1
        exact ⟨a, b, d, p, c1 φ1 _ H1 Step.refl (rs1.set (s := .v (.int (F a b))) rfl) rep1⟩
      · exact c1.elim
end
structure GoodS (T : Tab) (g : GS) (c : CC) (lv : Nat) (C : Ct) (W : WX) (X : Cx) : Prop extends Good T g c lv C W X where
  hp : PassesOwn (model X.prog X.w) X.A X.env X.xe
  hk : C.sc.kind = .function
def notTup : Expr → Bool
  | .Tuple _ _ _ => false
  | _ => true
theorem swN_tup {ts : List Expr} {kk : Nat} {tp : Pos} {v : Expr} {env : Env} (h : notTup v = true) : swappedStores [.Tuple ts kk tp] v env = pure none := by
  cases v <;> first | (cases h; done) | rfl
theorem sole_ok {v t : Expr} {l : Nat} {env : Env} (h : sw0 v = true) : swapsWithSole [t] v l env = pure false := sw0_ok h _ _ _
theorem swN_sub {a b : Expr} {tp : Pos} {v : Expr} {env : Env} : swappedStores [.Subscript a b tp] v env = pure none := by
  cases v <;> rfl
def isLc : IE → Bool
  | .lc _ _ _ _ _ => true
  | .nr (.lc _ _ _ _ _) => true
  | _ => false
def isN2 : Expr → Bool
  | .Constant .none _ _ => true
  | _ => false
def kindF (C : Ct) : Bool := match C.sc.kind with
  | .function => true
  | _ => false
def locOk (C : Ct) (i : Nat) (n : Str) : Bool := decide (C.N[i]? = some n) && decide (C.sc.names.lookup n = some .local)
mutual
def okS (T : Tab) : IS → Ct → Stmt → Bool
  | .xx, _, _ => true
  | .asg t e, C, st => (match st with
    | .Assign [tg] v _ => (match t with
      | .nm i => (match tg with
        | .Name n px => C.sto i n && okX T e C false v && (sw0 v || (match v with
          | .ListComp _ _ _ _ => !swB C.sc n px v || (isLc e && locOk C i n)
          | _ => false))
        | _ => false)
      | .tp ts => (match tg with
        | .Tuple xs kk tp => sw0 v && notTup v && okX T e C false v && okG T (.tp ts) C (.Tuple xs kk tp)
        | _ => false)
      | .sub o i => (match tg with
        | .Subscript a b tp => sw0 v && okX T e C false v && okG T (.sub o i) C (.Subscript a b tp)
        | _ => false))
    | _ => false)
  | .par is es, C, st => (match st with
    | .Assign [.Tuple [.Name x px, .Name y py] _ _] (.Tuple vs _ _) _ => (match is with
      | [i, j] => locOk C i x && locOk C j y && decide (x ≠ y) && decide (i ≠ j) && decide (py.line = px.line) && decide (vs.length = 2) && !(vs.all (foldedForSure 8)) && !(vs.all (constantsAlone 8)) && okL T es C vs
      | _ => false)
    | .Assign [.Tuple [.Name x px, .Name y py, .Name z pz] _ _] (.Tuple vs _ _) _ => (match is with
      | [i, j, m] => locOk C i x && locOk C j y && locOk C m z && decide (x ≠ y) && decide (x ≠ z) && decide (y ≠ z) && decide (i ≠ j) && decide (i ≠ m) && decide (j ≠ m) && decide (py.line = px.line) && decide (pz.line = px.line) && decide (vs.length = 3) && !(vs.all (foldedForSure 8)) && !(vs.all (constantsAlone 8)) && okL T es C vs
      | _ => false)
    | _ => false)
  | .aug i o e, C, st => (match st with
    | .AugAssign (.Name n _) op v _ => C.sto i n && okX T e C false v && (match o with
      | .add => decide (op = .Add)
      | .sub => decide (op = .Sub)
      | _ => false)
    | _ => false)
  | .ex e, C, st => (match st with
    | .Expr v _ => sw0 v && okX T e C false v
    | .Pass _ => (match e with
      | .c .non => true
      | _ => false)
    | _ => false)
  | .ifs c a b, C, st => (match st with
    | .If x ys zs _ => okX T c C true x && okSs T a C ys && okSs T b C zs
    | _ => false)
  | .fors t it b, C, st => (match st with
    | .For tg iter ys [] _ => loopT t && notSet iter && okI T it C tg iter && okG T t C tg && okSs T b C ys
    | _ => false)
  | .whl c b, C, st => (match st with
    | .While x ys [] _ => okX T c C true x && okSs T b C ys
    | _ => false)
  | .ret e, C, st => (match st with
    | .Return (some v) _ => okX T e C false v
    | .Return none _ => (match e with
      | .c .non => true
      | _ => false)
    | _ => false)
  | .brk, _, st => (match st with
    | .Break _ => true
    | _ => false)
  | .cnt, _, st => (match st with
    | .Continue _ => true
    | _ => false)
  | .rse _ _ _, _, _ => false
  | .tr _ _, _, _ => false
  | .fz _, _, _ => false
def okSs (T : Tab) : ISs → Ct → List Stmt → Bool
  | .nil, _, sts => sts.isEmpty
  | .cons s ss, C, sts => (match s with
    | .fz _ => okSs T ss C sts
    | s => (match sts with
      | y :: ys => okS T s C y && okSs T ss C ys
      | [] => false))
end
section
variable {T : Tab} {g : GS} {c : CC} {lv : Nat} {C : Ct} {W : WX} {X : Cx}
theorem GoodS.lo (G : GoodS T g c lv C W X) {i : Nat} {n : Str} (h : locOk C i n = true) : X.N[i]? = some n ∧ X.env.scope.names.lookup n = some .local := by
  unfold locOk at h
  simp only [Bool.and_eq_true, decide_eq_true_eq] at h
  rw [G.hN, G.sc]
  exact h
theorem lc_parts {t1 : Tg} {it : II} {k : IO} {e : IE} {own : List (Str × Nat)} {b : Bool} {v : Expr} (h : okX T (.lc t1 it k e own) C b v = true) : ∃ elt tg iter ifs scope pos, v = .ListComp elt [⟨tg, iter, ifs, 0⟩] scope pos ∧ blkC C.N C.sc scope own = true ∧ loopT t1 = true ∧ (∀ i ∈ tgN t1, i ∈ own.map (·.2)) ∧ notSet iter = true ∧ okI T it C tg iter = true ∧ okG T t1 (C.blk scope) tg = true ∧ okK T k (C.blk scope) ifs = true ∧ okX T e (C.blk scope) false elt = true := by
  rw [okX.eq_def] at h
  dsimp only at h
  split at h
  · rename_i elt tg iter ifs a scope pos
    simp only [Bool.and_eq_true, decide_eq_true_eq] at h
    obtain ⟨⟨⟨⟨⟨⟨⟨⟨rfl, h1⟩, h2⟩, h3⟩, h4⟩, h5⟩, h6⟩, h7⟩, h8⟩ := h
    exact ⟨_, _, _, _, _, _, rfl, h1, h2, fun i hi => by simpa using List.all_eq_true.mp h3 i hi, h4, h5, h6, h7, h8⟩
  · cases h
theorem set_lc (G : GoodS T g c lv C W X) {t1 : Tg} {it : II} {k : IO} {e : IE} {own : List (Str × Nat)} {v : Expr} (h : okX T (.lc t1 it k e own) C false v = true) {i : Nat} {n : Str} {px pos : Pos} (hl : locOk C i n = true) (hs : swB C.sc n px v = true) {f' : EvE} (hte : ∀ {σ H Q}, rdE g W f' σ H Q → rdE g W (evE c (.lc t1 it k e own)) σ H Q) :
    PS X (.Assign [.Name n px] v pos) (RDS g W (sAsg f' (gNm i))) := by
  obtain ⟨elt, tg, iter, ifs, scope, p2, rfl, h1, h2, h3, h4, h5, h6, h7, h8⟩ := lc_parts h
  obtain ⟨l1, l2⟩ := G.lo hl
  have hsw : swapsWith (.ListComp elt [⟨tg, iter, ifs, 0⟩] scope p2) (some (.Name n px)) pos.line X.env = pure true := by
    rw [swB_ok (by rw [G.sc]; exact G.hk), G.sc, hs]
  rw [evE] at hte
  refine PS.imp (ps_setLc (g := GD1 g (tgN t1) (evT1 c t1)) (tt := rdB g W0 (evK c k)) (te := rdS g W0 (sE (evE c e))) (wi := rdI g W (evI c it)) G.calm G.nd l1 l2 hsw (okI_ok it G.toGood h5) (by rw [G.hN, G.sc]; exact blkOk_by h1) (fun s H A cl fp => (okG_ok t1 (G.toGood.blk s H scope A cl fp) h6).2 h2) (fun s H A cl fp => okK_ok k (G.toGood.blk s H scope A cl fp) h7) (fun s H A cl fp => pe_s ((okX_ok e (G.toGood.blk s H scope A cl fp) h8).1 rfl)) (fold_ns h4)) fun D σ H q => set_rd (fun q => lc_rd h3 (hte q)) q
end
variable {T : Tab} {g : GS}
set_option maxHeartbeats 2000000 in
mutual
theorem okS_ok : ∀ (s : IS) {c : CC} {lv : Nat} {C : Ct} {W : WX} {X : Cx} {st : Stmt} (n : Nat), GoodS T g c lv C W X → okS T s C st = true → PS X st (RDS g W (evS c n s))
  | .xx, c, lv, C, W, X, st, n, G, h => ⟨fun _ _ _ _ _ _ ⟨_, _, _, _, _, _, cd⟩ => by rw [evS] at cd; exact cd.elim⟩
  | .asg t e, c, lv, C, W, X, st, n, G, h => by
    rw [okS.eq_def] at h
    dsimp only at h
    split at h
    · rename_i tg v pos
      split at h
      · rename_i i
        split at h
        · rename_i nm px
          simp only [Bool.and_eq_true] at h
          obtain ⟨⟨h1, h2⟩, h3⟩ := h
          have he := (okX_ok e G.toGood h2).1 rfl
          have st := G.st h1
          rw [evS, evG]
          rcases Bool.or_eq_true_iff.mp h3 with h3 | h3
          · exact ps_set2 G.nd st he (sw0_ok h3 _ _ _)
          · split at h3
            · rename_i elt gs scope p2 _
              rcases Bool.or_eq_true_iff.mp h3 with h3 | h3
              · refine ps_set2 G.nd st he ?_
                rw [swB_ok (by rw [G.sc]; exact G.hk), G.sc]
                rw [show swB C.sc nm px (.ListComp elt gs scope p2) = false by simpa using h3]
              · cases hsw : swB C.sc nm px (.ListComp elt gs scope p2) with
                | false =>
                  refine ps_set2 G.nd st he ?_
                  rw [swB_ok (by rw [G.sc]; exact G.hk), G.sc, hsw]
                | true =>
                  obtain ⟨h4, h5⟩ := Bool.and_eq_true_iff.mp h3
                  unfold isLc at h4
                  split at h4
                  · exact set_lc G h2 h5 hsw fun q => q
                  · rename_i a b cc dd ee _ _
                    have h6 : okX T (.lc a b cc dd ee) C false (.ListComp elt gs scope p2) = true := by
                      have := h2
                      rw [okX.eq_def] at this
                      simp only [Bool.and_eq_true] at this
                      exact this.2
                    exact set_lc G h6 h5 hsw (f' := evE c (.nr (.lc a b cc dd ee))) fun q => by
                      rw [evE.eq_def] at q
                      exact nr_rd q
                  · cases h4
            · cases h3
        · cases h
      · rename_i ts
        split at h
        · rename_i xs kk tp
          simp only [Bool.and_eq_true] at h
          obtain ⟨⟨⟨h1, h2⟩, h3⟩, h4⟩ := h
          rw [evS]
          exact ps_asg2' ((okX_ok e G.toGood h3).1 rfl) (okG_ok (.tp ts) G.toGood h4).1 (sole_ok h1) (swN_tup h2) rfl
        · cases h
      · rename_i o i
        split at h
        · rename_i a b tp
          simp only [Bool.and_eq_true] at h
          obtain ⟨⟨h1, h2⟩, h3⟩ := h
          rw [evS]
          exact ps_asg2' ((okX_ok e G.toGood h2).1 rfl) (okG_ok (.sub o i) G.toGood h3).1 (sole_ok h1) swN_sub rfl
        · cases h
    · cases h
  | .par is es, c, lv, C, W, X, st, n, G, h => by
    rw [okS.eq_def] at h
    dsimp only at h
    split at h
    · rename_i x px y py kk tp vs k2 p2 pos
      split at h
      · rename_i i j
        simp only [Bool.and_eq_true, decide_eq_true_eq] at h
        obtain ⟨⟨⟨⟨⟨⟨⟨⟨h1, h2⟩, h3⟩, h4⟩, h5⟩, h6⟩, h7⟩, h8⟩, h9⟩ := h
        rw [Bool.not_eq_true'] at h7 h8
        obtain ⟨a1, a2⟩ := G.lo h1
        obtain ⟨b1, b2⟩ := G.lo h2
        obtain ⟨l1, l2, l3⟩ := okL_len (c := c) es h9
        have hl := okL_ok es G.toGood h9
        have hkf : X.env.scope.kind = .function := by rw [G.sc]; exact G.hk
        cases vs with
        | nil => cases h6
        | cons a vs =>
          cases vs with
          | nil => cases h6
          | cons b vs =>
            cases vs with
            | cons _ _ => simp at h6
            | nil =>
              rw [evS]
              exact PS.imp (ps_par G.calm G.nd a1 b1 h4 a2 b2 hl (sw_par2 hkf a2 b2 h5 h3 l2 h7 h8) (sole_ok (v := .Tuple _ _ _) rfl)) fun D σ H q => par_rd2 q
      · cases h
    · rename_i x px y py z pz kk tp vs k2 p2 pos
      split at h
      · rename_i i j m
        simp only [Bool.and_eq_true, decide_eq_true_eq] at h
        obtain ⟨⟨⟨⟨⟨⟨⟨⟨⟨⟨⟨⟨⟨⟨h1, h2⟩, h3⟩, d1⟩, d2⟩, d3⟩, d4⟩, d5⟩, d6⟩, h4⟩, h5⟩, h6⟩, h7⟩, h8⟩, h9⟩ := h
        rw [Bool.not_eq_true'] at h7 h8
        obtain ⟨a1, a2⟩ := G.lo h1
        obtain ⟨b1, b2⟩ := G.lo h2
        obtain ⟨c1, c2⟩ := G.lo h3
        obtain ⟨l1, l2, l3⟩ := okL_len (c := c) es h9
        have hl := okL_ok es G.toGood h9
        have hkf : X.env.scope.kind = .function := by rw [G.sc]; exact G.hk
        cases vs with
        | nil => cases h6
        | cons a vs =>
          cases vs with
          | nil => cases h6
          | cons b vs =>
            cases vs with
            | nil => cases h6
            | cons cc vs =>
              cases vs with
              | cons _ _ => simp at h6
              | nil =>
                rw [evS]
                exact PS.imp (L2.ps_par3 G.calm G.nd a1 b1 c1 d4 d5 d6 a2 b2 c2 hl (sw_par3 hkf a2 b2 c2 h4 h5 d1 d2 d3 l2 h7 h8) (sole_ok (v := .Tuple _ _ _) rfl)) fun D σ H q => par_rd3 q
      · cases h
    · cases h
  | .aug i o e, c, lv, C, W, X, st, n, G, h => by
    rw [okS.eq_def] at h
    dsimp only at h
    split at h
    · rename_i nm px op v pos
      simp only [Bool.and_eq_true] at h
      obtain ⟨⟨h1, h2⟩, h3⟩ := h
      have he := (okX_ok e G.toGood h2).1 rfl
      have st := G.st h1
      rw [evS]
      split at h3
      · have : op = .Add := by simpa using h3
        subst this
        exact PS.imp (ps_aug G.nd st.at_ st.loc (pe_s he) ip_add st.fn) fun D σ H q => aug_rd (fun _ _ _ => rfl) q
      · have : op = .Sub := by simpa using h3
        subst this
        exact PS.imp (ps_aug G.nd st.at_ st.loc (pe_s he) ip_sub st.fn) fun D σ H q => aug_rd (fun _ _ _ => rfl) q
      · cases h3
    · cases h
  | .ex e, c, lv, C, W, X, st, n, G, h => by
    rw [okS.eq_def] at h
    dsimp only at h
    split at h
    · obtain ⟨h1, h2⟩ := Bool.and_eq_true_iff.mp h
      rw [evS]
      exact ps_expr2 ((okX_ok e G.toGood h2).1 rfl) (sw0_ok h1 _ _ _)
    · split at h
      · rw [evS, evE]
        exact ps_pass2
      · cases h
    · cases h
  | .ifs q a b, c, lv, C, W, X, st, n, G, h => by
    rw [okS.eq_def] at h
    dsimp only at h
    split at h
    · simp only [Bool.and_eq_true] at h
      obtain ⟨⟨h1, h2⟩, h3⟩ := h
      rw [evS]
      exact ps_if2 ((okX_ok q G.toGood h1).2 rfl).1 (okSs_ok a n G h2) (okSs_ok b n G h3)
    · cases h
  | .fors t it b, c, lv, C, W, X, st, n, G, h => by
    rw [okS.eq_def] at h
    dsimp only at h
    split at h
    · simp only [Bool.and_eq_true] at h
      obtain ⟨⟨⟨⟨h1, h2⟩, h3⟩, h4⟩, h5⟩ := h
      rw [evS]
      exact ps_for2 G.hp G.calm (okI_ok it G.toGood h3) ((okG_ok t G.toGood h4).2 h1) (okSs_ok b n G h5) (fold_ns h2)
    · cases h
  | .whl q b, c, lv, C, W, X, st, n, G, h => by
    rw [okS.eq_def] at h
    dsimp only at h
    split at h
    · simp only [Bool.and_eq_true] at h
      rw [evS]
      exact ps_whl2 G.hp ((okX_ok q G.toGood h.1).2 rfl).1 (okSs_ok b n G h.2) n
    · cases h
  | .ret e, c, lv, C, W, X, st, n, G, h => by
    rw [okS.eq_def] at h
    dsimp only at h
    split at h
    · rw [evS]
      exact ps_ret2 ((okX_ok e G.toGood h).1 rfl)
    · split at h
      · rw [evS, evE]
        exact ps_retN2
      · cases h
    · cases h
  | .brk, c, lv, C, W, X, st, n, G, h => by
    rw [okS.eq_def] at h
    dsimp only at h
    split at h
    · rw [evS]; exact ps_brk2
    · cases h
  | .cnt, c, lv, C, W, X, st, n, G, h => by
    rw [okS.eq_def] at h
    dsimp only at h
    split at h
    · rw [evS]; exact ps_cnt2
    · cases h
  | .rse _ _ _, c, lv, C, W, X, st, n, G, h => by rw [okS] at h; cases h
  | .tr _ _, c, lv, C, W, X, st, n, G, h => by rw [okS] at h; cases h
  | .fz _, c, lv, C, W, X, st, n, G, h => by rw [okS] at h; cases h
theorem okSs_ok : ∀ (ss : ISs) {c : CC} {lv : Nat} {C : Ct} {W : WX} {X : Cx} {sts : List Stmt} (n : Nat), GoodS T g c lv C W X → okSs T ss C sts = true → PSs X sts (RDS g W (evSs c n ss))
  | .nil, c, lv, C, W, X, sts, n, G, h => by
    rw [okSs.eq_def] at h
    dsimp only at h
    cases sts with
    | nil => rw [evSs]; exact pss_nil2
    | cons _ _ => cases h
  | .cons s ss, c, lv, C, W, X, sts, n, G, h => by
    rw [okSs.eq_def] at h
    dsimp only at h
    split at h
    · rename_i i
      rw [evSs, evS]
      exact pss_fz (i := i) (okSs_ok ss n G h)
    · split at h
      · simp only [Bool.and_eq_true] at h
        rw [evSs]
        exact pss_cons2 (okS_ok s n G h.1) (okSs_ok ss n G h.2)
      · cases h
end
end VM

/-! Defs: each keeps its promise, at every level. -/
namespace VM
open PySem PySem.Spec PyProof.Rows L2 RZ
section
variable {g : GS} {x : Addr → Prop} {φ φ' : Phi} {h : Hs} {H H' : Hp}
theorem take_at {n m : Nat} {o : Option OA} (e : (φ.take n)[m]? = some o) : φ[m]? = some o ∧ m < n := by
  by_cases hm : m < n
  · rw [List.getElem?_take_of_lt hm] at e
    exact ⟨e, hm⟩
  · rw [List.getElem?_take_eq_none (by omega)] at e
    cases e
theorem own_take {n : Nat} {a : Addr} (o : own (φ.take n) a) : own φ a := by
  obtain ⟨l, hl, ha⟩ := o
  exact ⟨l, List.mem_of_mem_take hl, ha⟩
theorem RepH.take (r : RepH g x φ h H) (n : Nat) : RepH g x (φ.take n) (h.take n) H := by
  refine ⟨by simp [r.len], fun m l e => ?_, fun m e => ?_, ?_, fun a o => r.apart a (own_take o), r.xs⟩
  · obtain ⟨e1, hm⟩ := take_at e
    obtain ⟨ob, e2, q⟩ := r.at_ m l e1
    exact ⟨ob, by rw [List.getElem?_take_of_lt hm]; exact e2, q.keep (Keep.weak fun a q => q.imp own_take id) fun _ _ => rfl⟩
  · obtain ⟨e1, hm⟩ := take_at e
    rw [List.getElem?_take_of_lt hm]
    exact r.dead m e1
  · have e : (φ.filterMap id).flatten = ((φ.take n).filterMap id).flatten ++ ((φ.drop n).filterMap id).flatten := by
      rw [← List.flatten_append, ← List.filterMap_append, List.take_append_drop]
    have := r.nd
    rw [e] at this
    exact (List.nodup_append.mp this).1
/-- the first n and one behind -/
theorem RepH.pick1 (r : RepH g x φ h H) {n k : Nat} {l : OA} {ob : MO} (hk : n ≤ k) (e : φ[k]? = some (some l)) (eo : h[k]? = some ob) : RepH g x (φ.take n ++ [some l]) (h.take n ++ [ob]) H := by
  have hkl : k < φ.length := (List.getElem?_eq_some_iff.mp e).1
  have w : ∀ a, own (φ.take n ++ [some l]) a → own φ a := fun a q => by
    rcases own_app.mp q with q | q
    · exact own_take q
    · exact own_at e q
  have wk := Keep.weak (H := H) (fun (a : Addr) (q : ow (φ.take n ++ [some l]) x a) => (q.imp (w a) id : ow φ x a))
  have ln : (φ.take n).length = n := by rw [List.length_take]; omega
  have ln' : (h.take n).length = n := by rw [List.length_take, ← r.len]; omega
  refine ⟨by simp [r.len], fun m l' e' => ?_, fun m e' => ?_, ?_, fun a o => r.apart a (w a o), r.xs⟩
  · by_cases hm : m < n
    · rw [List.getElem?_append_left (by omega)] at e'
      obtain ⟨ob', e2, q⟩ := r.at_ m l' (take_at e').1
      exact ⟨ob', by rw [List.getElem?_append_left (by omega), List.getElem?_take_of_lt hm]; exact e2, q.keep wk fun _ _ => rfl⟩
    · have hlt := (List.getElem?_eq_some_iff.mp e').1
      rw [List.length_append, ln] at hlt
      have : m = n := by simp at hlt; omega
      subst this
      rw [List.getElem?_append_right (by omega)] at e'
      rw [ln, Nat.sub_self] at e'
      simp at e'
      subst e'
      obtain ⟨ob', e2, q⟩ := r.at_ k l e
      rw [eo] at e2
      cases e2
      exact ⟨ob, by rw [List.getElem?_append_right (by omega), ln', Nat.sub_self]; rfl, q.keep wk fun _ _ => rfl⟩
  · by_cases hm : m < n
    · rw [List.getElem?_append_left (by omega)] at e'
      rw [List.getElem?_append_left (by omega), List.getElem?_take_of_lt hm]
      exact r.dead m (take_at e').1
    · have hlt := (List.getElem?_eq_some_iff.mp e').1
      rw [List.length_append, ln] at hlt
      have : m = n := by simp at hlt; omega
      subst this
      rw [List.getElem?_append_right (by omega), ln, Nat.sub_self] at e'
      simp at e'
  · rw [filt_app, List.nodup_append]
    have e1 : ((φ.take n).filterMap id).flatten.Nodup := (r.take n).nd
    have e2 : l.Nodup := (List.sublist_flatten_of_mem (List.mem_filterMap.mpr ⟨some l, List.mem_of_getElem? e, rfl⟩)).nodup r.nd
    refine ⟨e1, e2, fun a ha b hb z => ?_⟩
    subst z
    obtain ⟨l', hl', ha'⟩ := own_mem.mpr ha
    obtain ⟨m, hm⟩ := List.getElem?_of_mem hl'
    obtain ⟨e3, hm2⟩ := take_at hm
    have := disj r.nd e3 e ha' hb
    omega
theorem Step.take (st : Step φ H φ' H') : Step φ H (φ'.take φ.length) H' := by
  refine ⟨st.same, st.grow, fun a o => st.owns a (own_take o), by rw [List.length_take]; have := st.len; omega, fun n l hn e => st.back n l hn (take_at e).1, fresh_le (by rw [List.length_take]; omega)⟩
/-- what leaves a frame -/
theorem leave_ok {W : WX} {Q : VK} {r : RV} {h' : Hs} (c : Cond g x W KV [] Q φ H (leave φ.length r h')) {v : V} (st : Step φ H φ' H') (rep : RepH g x φ' h' H') (p : KV g x H r h' φ' v H') : Q v H' := by
  have rt := rep.take φ.length
  have s1 := st.take
  cases r with
  | v u => exact c _ v H' s1 rt (Den.weak (fun a q => q.imp own_take id) (show Den g _ H' u v from p))
  | nw ob =>
    obtain ⟨l, rp, hv, hf⟩ := p
    have hlen : φ'.length = h'.length := rep.len
    have e1 : (φ' ++ [some l])[φ'.length]? = some (some l) := by simp
    have e2 : (h' ++ [ob])[φ'.length]? = some ob := by rw [hlen]; simp
    have rp2 := rp.pick1 (n := φ.length) st.len e1 e2
    have t1 : (φ' ++ [some l]).take φ.length = φ'.take φ.length := by rw [List.take_append_of_le_length st.len]
    have t2 : (h' ++ [ob]).take φ.length = h'.take φ.length := by rw [List.take_append_of_le_length (by rw [← hlen]; exact st.len)]
    rw [t1, t2] at rp2
    exact c _ v H' s1 rt ⟨l, rp2, hv, hf⟩
  | r k =>
    obtain ⟨p1, p2⟩ : k < φ'.length ∧ ∀ l, φ'[k]? = some (some l) → v = .ref (hd l) := p
    have c : Cond g x W KV [] Q φ H (if k < φ.length then .ok (.r k) (h'.take φ.length) else match h'[k]? with
      | some (.lst xs) => .ok (.nw (.lst xs)) (h'.take φ.length)
      | some (.dct xs) => .ok (.nw (.dct xs)) (h'.take φ.length)
      | some (.ins c fs) => .ok (.nw (.ins c fs)) (h'.take φ.length)
      | _ => .bad) := c
    split at c
    · rename_i hk
      refine c _ v H' s1 rt ⟨by rw [List.length_take]; omega, fun l hl => p2 l (take_at hl).1⟩
    · rename_i hk
      have fin : ∀ {ob : MO}, h'[k]? = some ob → ob ≠ .dead → Cond g x W KV [] Q φ H (.ok (.nw ob) (h'.take φ.length)) → Q v H' := fun {ob} eo nd c => by
        obtain ⟨l, e1, q⟩ := rep.alive eo nd
        exact c _ v H' s1 rt ⟨l, rep.pick1 (by omega) e1 eo, p2 l e1, st.fresh k l (by omega) e1⟩
      split at c
      · rename_i xs eo
        exact fin eo (by simp) c
      · rename_i xs eo
        exact fin eo (by simp) c
      · rename_i cc fs eo
        exact fin eo (by simp) c
      · exact c.elim
end
/-! ### a def of the text -/
structure DefF (T : Tab) (g : GS) (K : PySem.W.Frag) (mg : Str → Option Value) (P : Prog) (f : Nat) (d : FD) (ps : List Str) : Prop where
  ex : ∃ (nm qual : Str) (params : Arguments) (body : List Stmt) (scope : Scope) (dvs : List V) (kws : List (Str × V)) (fd : FuncData) (N : List Str),
    FunD K nm qual params body scope dvs kws (g.fa f) fd ∧ FnScope N ps scope ∧ ps.length = d.np ∧ N.length = d.ns ∧ d.np ≤ d.ns ∧ okSs T d.body ⟨N, scope, none⟩ body = true ∧ Binds K fd ps [] ∧
    ∀ n ks, (f, n, ks) ∈ T.pats → ∃ (ds : List Value) (ws : List V), CallB K fd ps n (ks.map (·.1)) (ks.map (·.2)) ds ∧ Vals ws ds ∧ ∀ o H, DenL g o H d.df ws
/-- all that is known of a program -/
structure ProgF (T : Tab) (g : GS) (K : PySem.W.Frag) (mg : Str → Option Value) (P : Prog) (pss : List (List Str)) : Prop where
  defs : ∀ f d, P[f]? = some d → DefF T g K mg P f d (pss.getD f [])
  pats : ∀ f n ks, (f, n, ks) ∈ T.pats → ∃ d, P[f]? = some d
  gK : g.K = K
  fns : ∀ x f, (x, f) ∈ T.fns → mg x = some (.ref (g.fa f))
  nums : ∀ x i, (x, i) ∈ T.nums → ∃ u, mg x = some u ∧ L2.RelV (.int i) u
  txts : ∀ x z, (x, z) ∈ T.txts → ∃ u, mg x = some u ∧ L2.RelV (.str z) u
  frees : ∀ x, x ∈ T.frees → mg x = none
  dig : T.dig = true → PySem.W.nsIn K cStatics "sys.int_max_str_digits" = some none
theorem cc_np (P : Prog) (n f : Nat) : (cc P n).np f = (P[f]?.map FD.np).getD 0 := by cases n <;> rfl
theorem cc_df (P : Prog) (n f : Nat) : (cc P n).df f = (P[f]?.map FD.df).getD [] := by cases n <;> rfl
section
variable {T : Tab} {g : GS} {K : PySem.W.Frag} {mg : Str → Option Value} {Pg : Prog} {P : Program} {w : World} {base : Heap}
/-- at level n every def keeps its promise -/
def AtL (T : Tab) (g : GS) (K : PySem.W.Frag) (mg : Str → Option Value) (Pg : Prog) (pss : List (List Str)) (P : Program) (w : World) (base : Heap) (n : Nat) : Prop :=
  ∀ f d, Pg[f]? = some d → ∃ (fd : FuncData), FnOk P w K mg base (L2.CX P w) n (g.fa f) fd (pss.getD f []) (spV g (cc Pg n) f (pss.getD f []).length) ∧ (pss.getD f []).length = d.np ∧ PySem.W.keepIn K (.ref (g.fa f)) = true ∧ Binds K fd (pss.getD f []) [] ∧ (∃ oc od osl, K.lookup (g.fa f) = some ⟨oc, od, .func fd, osl⟩) ∧
    ∀ m ks, (f, m, ks) ∈ T.pats → ∃ (ds : List Value) (ws : List V), CallB K fd (pss.getD f []) m (ks.map (·.1)) (ks.map (·.2)) ds ∧ Vals ws ds ∧ ∀ o H, DenL g o H d.df ws
theorem start_rel {x : Addr → Prop} {φ : Phi} {H : Hp} {ss : List S} {vs : List V} {N : List Str} (d : DenSs g x φ H ss vs) : RelS g x φ H (ss.map some ++ List.replicate (N.length - ss.length) none) (L2.start N vs) := by
  have b := bes_dens d
  refine ⟨by unfold L2.start; simp [DenSs.len d], fun i s e => ?_⟩
  by_cases hi : i < ss.length
  · rw [List.getElem?_append_left (by simpa using hi), List.getElem?_map] at e
    cases e1 : ss[i]? with
    | none => rw [e1] at e; cases e
    | some s' =>
      rw [e1] at e
      cases e
      obtain ⟨v, e2, r⟩ := b.2 i s e1
      refine ⟨v, ?_, r⟩
      unfold L2.start
      rw [List.getElem?_append_left (by simp [DenSs.len d, hi]), List.getElem?_map, e2]
      rfl
  · rw [List.getElem?_append_right (by simpa using hi)] at e
    have := List.mem_of_getElem? e
    have := List.eq_of_mem_replicate this
    cases this
theorem FunD.at_ {nm qual : Str} {params : Arguments} {body : List Stmt} {scope : Scope} {dvs : List V} {kws : List (Str × V)} {f : Addr} {fd : FuncData} (F : FunD K nm qual params body scope dvs kws f fd) : ∃ oc od osl, K.lookup f = some ⟨oc, od, .func fd, osl⟩ := by
  obtain ⟨oc, od, dV, kV, doc, pm, an, cdv, ct, osl, _, lk, _⟩ := F.ex
  exact ⟨oc, od, osl, lk⟩
variable {pss : List (List Str)}
theorem atL (PF : ProgF T g K mg Pg pss) : ∀ n, AtL T g K mg Pg pss P w base n
  | 0 => fun f d hd => by
    obtain ⟨nm, qual, params, body, scope, dvs, kws, fd, N, F, S, l1, l2, l3, ok, bd, cb⟩ := (PF.defs f d hd).ex
    refine ⟨fd, ⟨fun vs H Q E q => q.1, fun A outer s H args us vs Q E _ _ _ _ q => ?_⟩, l1, F.kp, bd, FunD.at_ F, fun m ks hm => cb m ks hm⟩
    obtain ⟨_, x, φ, ss, os, _, _, c⟩ := q
    exact c.elim
  | n + 1 => fun f d hd => by
    have ih := atL PF n
    obtain ⟨nm, qual, params, body, scope, dvs, kws, fd, N, F, S, l1, l2, l3, ok, bd, cb⟩ := (PF.defs f d hd).ex
    refine ⟨fd, F.ok S (fun vs H Q E q => q.1) fun cdv A outer s H vs Q E hr q => ?_, l1, F.kp, bd, FunD.at_ F, fun m ks hm => cb m ks hm⟩
    obtain ⟨hl, x, φ, ss, os, ds, rep, c⟩ := q
    have hany : ∀ m, FnA (cxOf (L2.CX P w) P w K mg base N qual scope (g.fa f) cdv A outer s H E) g (cc Pg n) n m ∨ (cc Pg n).np m = 0 := fun m => by
      cases e : Pg[m]? with
      | none => exact .inr (by rw [cc_np, e]; rfl)
      | some d' =>
        obtain ⟨fd', F', h1, h2, h3, _⟩ := ih m d' e
        exact .inl ⟨fd', _, F', by rw [cc_np, e]; exact h1, h2, h3⟩
    have G : GoodS T g (cc Pg n) n ⟨N, scope, none⟩ (fun cls d _ H => E cls d H) (cxOf (L2.CX P w) P w K mg base N qual scope (g.fa f) cdv A outer s H E) := {
      hK := PF.gK.symm
      hN := rfl
      nd := S.nd
      sc := rfl
      fn := fun _ => rfl
      calm := rfl
      tk := takes_of rfl rfl rfl rfl
      room := hr
      fns := PF.fns
      nums := PF.nums
      txts := PF.txts
      frees := PF.frees
      pats := fun f' m ks hm => by
        obtain ⟨d', e⟩ := PF.pats f' m ks hm
        obtain ⟨fd', F', h1, h2, h3, _, h4⟩ := ih f' d' e
        obtain ⟨ds', ws', q1, q2, q3⟩ := h4 m ks hm
        refine ⟨fd', _, ds', ws', F', by rw [cc_np, e]; exact h1, h2, q1, q2, fun o H => ?_⟩
        rw [cc_df, e]
        exact q3 o H
      any := fun m hm => (hany m).resolve_right hm
      dig := PF.dig
      hp := passes_of rfl
      hk := S.kind }
    refine ⟨RDS g (fun cls d _ H => E cls d H) (evSs (cc Pg n) 1000000 d.body), okSs_ok d.body 1000000 G ok, ?_⟩
    have sl := DenSs.len ds
    have c : Cond g x (fun cls d _ H' => E cls d H') KV [] Q φ H (match Pg[f]? with
      | some d => runF (cc Pg n) 1000000 d ss os
      | none => .bad) := c
    rw [hd] at c
    have c : Cond g x (fun cls d _ H' => E cls d H') KV [] Q φ H (if ss.length = d.np then match evSs (cc Pg n) 1000000 d.body (ss.map some ++ List.replicate (d.ns - d.np) none) os with
      | .nx _ h => .ok (.v .non) (h.take os.length)
      | .rt r h => leave os.length r h
      | .ex e _ h => .ex e (h.take os.length)
      | _ => .bad else .bad) := c
    rw [if_pos (by rw [← sl, hl, l1])] at c
    have hns : d.ns - d.np = N.length - ss.length := by rw [l2, ← sl, hl, l1]
    rw [hns] at c
    refine ⟨x, φ, _, os, start_rel ds, rep, ?_⟩
    have ol : os.length = φ.length := rep.len.symm
    rw [ol] at c
    cases e1 : evSs (cc Pg n) 1000000 d.body (ss.map some ++ List.replicate (N.length - ss.length) none) os with
    | bad => rw [e1] at c; exact c.elim
    | bk ρ h => rw [e1] at c; exact c.elim
    | ct ρ h => rw [e1] at c; exact c.elim
    | nx ρ h =>
      rw [e1] at c
      intro φ' σ' H' st rs' rep'
      exact c _ V.non H' st.take (rep'.take _) rfl
    | rt r h =>
      rw [e1] at c
      intro φ' v H' st rep' p
      exact leave_ok c st rep' p
    | ex z ρ h =>
      rw [e1] at c
      intro φ' σ' H' cls dd st rs' rep' ev
      exact c _ H' cls dd st.take (rep'.take _) ev
/-- with no exception wished for -/
theorem FnOk.calm {n : Nat} {f : Addr} {fd : FuncData} {ps : List Str} {sp : Sp} (F : FnOk P w K mg base (L2.CX P w) n f fd ps sp) : FnOk P w K mg base CX0 n f fd ps (fun vs H Q _ => sp vs H Q fun _ _ _ => False) :=
  ⟨fun vs H Q E q => F.len _ _ _ _ q, fun A outer s H args us vs Q E hr e0 hb hv q => codeAny_mono (F.run A outer s H args us vs Q _ hr e0 hb hv q) fun r s' hq => by
    cases r with
    | error e => obtain ⟨_, _, _, _, _, _, _, _, _, _, _, _, z⟩ := hq; exact z.elim
    | ok fl => cases fl <;> exact hq⟩
theorem law_sp {n f np : Nat} (hnp : np = 1) (hlaw : ∀ ns : List Int, ns.length ≤ 63 → ∃ h, (cc Pg n).call f [.v (.frz (ns.map .int))] [] = .ok (.v (.bl true)) h) {H : Hp} {a : Addr} {ns : List Int} (hl : ns.length ≤ 63) (hO : Only H) (hS : SqL g.K H a (ns.map V.int)) :
    spV g (cc Pg n) f np [.ref a] H (fun v _ => v = .bl true) fun _ _ _ => False := by
  obtain ⟨h, e⟩ := hlaw ns hl
  refine ⟨hnp.symm, fun _ => False, [], [.v (.frz (ns.map .int))], [], ⟨_, _, rfl, ?_, rfl⟩, ⟨rfl, (fun n l e => by simp at e), (fun n e => by simp at e), by simp, (fun a o => by obtain ⟨l, hl, _⟩ := o; cases hl), fun a o => False.elim o⟩, ?_⟩
  · refine ⟨a, ns.map V.int, rfl, ?_, ?_⟩
    · rcases hS with (hS | ⟨ob, hS⟩) | hS
      · rcases hO a with z | ⟨o, xs, z⟩ <;> rw [hS] at z <;> cases z
      · exact .inl ⟨ob, hS, fun q => q.elim (fun ⟨l, hl, _⟩ => by cases hl) id⟩
      · exact .inr hS
    · have : ∀ l : List Int, DenL g (ow [] fun _ => False) H (l.map U.int) (l.map V.int) := fun l => by
        induction l with
        | nil => rfl
        | cons i l ih => exact ⟨_, _, rfl, rfl, ih⟩
      exact this ns
  · rw [e]
    intro φ' v H' _ _ p
    exact p
end
end VM

/-! From the head's words to the program's facts. -/
namespace VM
open PySem PySem.Spec PyProof.Rows L2 RZ
/-- where the defs stand -/
abbrev Ats := List (Str × Option Str)
def gOf (ats : Ats) (K : PySem.W.Frag) : GS := ⟨K, fun f => He.fAd K (ats.getD f ("", none)), fun _ => 0, fun _ => ""⟩
def faOf (T : Tab) : List He.Fa := T.fns.map (fun p => He.Fa.glo p.1) ++ (T.frees.map He.Fa.free ++ (T.txts.map (fun p => He.Fa.str p.1 p.2) ++ T.nums.map fun p => He.Fa.int p.1 p.2))
/-! ### the head's hook, with the limit on digits -/
def frM (g : Addr → Option Obj) (n : Nat) : PySem.W.Frag := He.frG g (cStatics :: He.asD g n)
def obsM (n : Nat) (fa : List He.Fa) (fn : List He.DefD) (g : Addr → Option Obj) : He.AlD × Option (Option Value) := (He.obsD fa fn (frM g n), PySem.W.nsIn (frM g n) cStatics "sys.int_max_str_digits")
def hookM (n : Nat) (fa : List He.Fa) (fn : List He.DefD) : PySem.W.Hook where
  α := He.AlD × Option (Option Value)
  obs := fun s => obsM n fa fn s.heap.get?
  val := fun _ => (He.valD fn, some none)
  says := fun _ h => ∃ K : PySem.W.Frag, K.In h ∧ He.SaysD fa fn K ∧ PySem.W.nsIn K cStatics "sys.int_max_str_digits" = some none
  of := fun _ _ e => ⟨_, He.frG_in, congrArg Prod.fst e, congrArg Prod.snd e⟩
  keeps := fun _ _ _ ⟨K, hK, c⟩ k => ⟨K, PySem.W.Frag.In.keeps hK k, c⟩
theorem obsM_eq {n : Nat} {fa : List He.Fa} {fn : List He.DefD} {g : Addr → Option Obj} {s : Shared} (h : ∀ a, g a = s.heap.get? a) : obsM n fa fn g = (hookM n fa fn).obs s := by
  have e : g = s.heap.get? := funext h
  rw [e]
  rfl
section
variable {T : Tab} {ats : Ats} {K : PySem.W.Frag} {mg : Str → Option Value} {Pg : Prog} {fn : List He.DefD} {h : Heap}
theorem fact_mem {fa : List He.Fa} (c : He.SaysD fa fn K) {f : He.Fa} (hf : f ∈ fa) : f.ok K = true := by
  obtain ⟨i, hi, e⟩ := List.mem_iff_getElem.mp hf
  exact c.fact i (f := f) (by rw [List.getElem?_eq_getElem hi, e])
/-- the binding of a pattern with names -/
def KwB (d : He.DefD) (ps : List Str) (n : Nat) (ks : List (Str × Nat)) : Prop := ∀ (kV doc pm : Value) (an : Option Addr) (cdv ct : Value) (us ws full : List Value), us.length = n → ws.length = ks.length → arrG ps.length us (ks.map (·.2)) ws [] = some full →
  bindArgs (PySem.W.fnOf d.name d.qual d.params d.body d.scope .none kV doc pm an cdv ct) ⟨us, (ks.map (·.1)).zip ws⟩ = pure (ps.zip full)
def PlB (d : He.DefD) (ps : List Str) : Prop := ∀ (kV doc pm : Value) (an : Option Addr) (cdv ct : Value) (us : List Value), us.length = ps.length → bindArgs (PySem.W.fnOf d.name d.qual d.params d.body d.scope .none kV doc pm an cdv ct) ⟨us, []⟩ = pure (ps.zip us)
theorem plainPat {i n : Nat} {ks : List (Str × Nat)} (h : (T.pats.all fun p => p.1 != i || p.2.2.isEmpty) = true) (hm : (i, n, ks) ∈ T.pats) : ks = [] := by
  have := List.all_eq_true.mp h _ hm
  simpa using this
theorem defF_of {fa : List He.Fa} (c : He.SaysD fa fn K) (i : Nat) {d : He.DefD} (hd : fn[i]? = some d) (hat : ats[i]? = some d.at_) (h0 : d.dfl = []) (h1 : d.kwd = []) {fdm : FD} (N ps : List Str) (S : FnScope N ps d.scope) (l1 : ps.length = fdm.np) (l2 : N.length = fdm.ns) (l3 : fdm.np ≤ fdm.ns) (hdf : fdm.df = [])
    (ok : okSs T fdm.body ⟨N, d.scope, none⟩ d.body = true) (hb : PlB d ps) (hp : ∀ n ks, (i, n, ks) ∈ T.pats → ks = [] ∨ KwB d ps n ks) : DefF T (gOf ats K) K mg Pg i fdm ps := by
  obtain ⟨fd, F⟩ := c.def_ i hd
  have e0 : d.dvs K = [] := by unfold He.DefD.dvs; rw [h0]; rfl
  have e1 : d.kws K = [] := by unfold He.DefD.kws; rw [h1]; rfl
  rw [e0, e1] at F
  have ea : He.fAd K d.at_ = (gOf ats K).fa i := by
    show _ = He.fAd K (ats.getD i ("", none))
    rw [List.getD_eq_getElem?_getD, hat]
    rfl
  rw [ea] at F
  have B : Binds K fd ps [] := F.bindsN hb
  refine ⟨d.name, d.qual, d.params, d.body, d.scope, [], [], fd, N, F, S, l1, l2, l3, ok, B, fun n ks hm => ?_⟩
  refine ⟨[], [], ?_, .nil, fun o H => by rw [hdf]; rfl⟩
  rcases hp n ks hm with rfl | hk
  · exact CallB.plain B
  · obtain ⟨oc, od, dV, kV, doc, pm, an, cdv, ct, osl, rfl, lk, hcd, hD, hK⟩ := F.ex
    rcases hD with ⟨_, rfl⟩ | ⟨e, _⟩
    · exact ⟨fun s us ws full _ q1 q2 q3 => .of_eq (hk kV doc pm an cdv ct us ws full q1 (by rw [q2, List.length_map]) q3)⟩
    · exact absurd rfl e
theorem progF_of (hdig : T.dig = true → PySem.W.nsIn K cStatics "sys.int_max_str_digits" = some none) (c : He.SaysD (faOf T) fn K) (X : K.In h) (G : h.Ns mainGlobals mg) {pss : List (List Str)} (hdefs : ∀ f d, Pg[f]? = some d → DefF T (gOf ats K) K mg Pg f d (pss.getD f [])) (hpats : (T.pats.all fun p => decide (p.1 < Pg.length)) = true) (hfns : (T.fns.all fun p => decide (ats[p.2]? = some (p.1, none))) = true) : ProgF T (gOf ats K) K mg Pg pss where
  defs := hdefs
  pats := fun f n ks hm => by
    have := List.all_eq_true.mp hpats _ hm
    have : f < Pg.length := by simpa using this
    exact ⟨_, List.getElem?_eq_getElem this⟩
  gK := rfl
  fns := fun x f hm => by
    have e := He.glo_ok X G (x := x) (fact_mem c (List.mem_append_left _ (List.mem_map.mpr ⟨(x, f), hm, rfl⟩)))
    have q := List.all_eq_true.mp hfns _ hm
    have q : ats[f]? = some (x, none) := of_decide_eq_true q
    rw [e]
    show _ = some (Value.ref (He.fAd K (ats.getD f ("", none))))
    rw [List.getD_eq_getElem?_getD, q]
    rfl
  nums := fun x i hm => by
    obtain ⟨t, e⟩ := He.int_ok X G (x := x) (i := i) (fact_mem c (List.mem_append_right _ (List.mem_append_right _ (List.mem_append_right _ (List.mem_map.mpr ⟨(x, i), hm, rfl⟩)))))
    exact ⟨_, e, t, rfl⟩
  txts := fun x z hm => by
    obtain ⟨t, e⟩ := He.str_ok X G (x := x) (z := z) (fact_mem c (List.mem_append_right _ (List.mem_append_right _ (List.mem_append_left _ (List.mem_map.mpr ⟨(x, z), hm, rfl⟩)))))
    exact ⟨_, e, t, rfl⟩
  dig := hdig
  frees := fun x hm => He.free_ok X G (fact_mem c (List.mem_append_right _ (List.mem_append_left _ (List.mem_map.mpr ⟨x, hm, rfl⟩))))
/-- the law's def in its place -/
theorem law_place {fa : List He.Fa} (c : He.SaysD fa fn K) {P : Program} {w : World} {pss : List (List Str)} {L lv : Nat} {d : FD} {x : Str} (PF : ProgF T (gOf ats K) K mg Pg pss) (hd : Pg[L]? = some d) (hps : pss.getD L [] = [x]) {dd : He.DefD} (hfn : fn[L]? = some dd) (hat : ats[L]? = some dd.at_) (h0 : dd.dfl = []) (h1 : dd.kwd = []) (hb : PlB dd [x])
    (law : ∀ ns : List Int, ns.length ≤ 63 → ∃ h, (cc Pg lv).call L [.v (.frz (ns.map .int))] [] = .ok (.v (.bl true)) h) :
    ∃ (fd : FuncData) (sp : Sp), (∀ (s : Shared) (u : Value), BindsTo s fd ⟨[u], []⟩ [(x, u)]) ∧ (∀ (H : Hp) (a : Addr) (ns : List Int), ns.length ≤ 63 → Only H → SqL K H a (ns.map V.int) → sp [.ref a] H (fun v _ => v = .bl true) fun _ _ _ => False) ∧
      ∀ base : Heap, FnOk P w K mg base CX0 lv ((gOf ats K).fa L) fd [x] sp := by
  obtain ⟨fd, F⟩ := c.def_ L hfn
  have e0 : dd.dvs K = [] := by unfold He.DefD.dvs; rw [h0]; rfl
  have e1 : dd.kws K = [] := by unfold He.DefD.kws; rw [h1]; rfl
  rw [e0, e1] at F
  have ea : He.fAd K dd.at_ = (gOf ats K).fa L := by
    show _ = He.fAd K (ats.getD L ("", none))
    rw [List.getD_eq_getElem?_getD, hat]
    rfl
  rw [ea] at F
  obtain ⟨oc, od, osl, lk⟩ := FunD.at_ F
  have b := FunD.bindsA (ps := [x]) F hb
  refine ⟨fd, fun vs H Q _ => spV (gOf ats K) (cc Pg lv) L 1 vs H Q fun _ _ _ => False, fun s u => b s [u] rfl, fun H a ns hl hO hS => law_sp rfl law hl hO (by rw [PF.gK]; exact hS), fun base => ?_⟩
  obtain ⟨fd', F', l1', _, _, ⟨oc', od', osl', lk'⟩, _⟩ := atL (P := P) (w := w) (base := base) PF lv L d hd
  rw [lk] at lk'
  cases lk'
  rw [hps] at F'
  exact FnOk.calm F'
end
end VM

namespace VM
open PySem
/-! The evaluator step by step: first-order equations, what is behind a dot waits for what is ahead. -/
def rdV : Option (Option S) → Hs → Rs RV
  | some (some (.v u)), h => .ok (.v u) h
  | some (some (.r n)), h => .ok (.r n) h
  | _, _ => .bad
def item : Rs RV → Rs S
  | .ok r h => oneS h r
  | .ex e h => .ex e h
  | .bad => .bad
def tst : Rs S → Rs Bool
  | .ok x h => ofO h (truS h x)
  | .ex e h => .ex e h
  | .bad => .bad
def ofB (h : Hs) : Option Bool → Rs RV
  | some b => .ok (.v (.bl b)) h
  | none => .bad
def bin2 (o : BO) (x : S) : Rs S → Rs RV
  | .ok y h => ofO h (binS o h x y)
  | .ex e h => .ex e h
  | .bad => .bad
def bin1 (o : BO) (g : EvE) (ρ : Rho) : Rs S → Rs RV
  | .ok x h => bin2 o x (sE g ρ h)
  | .ex e h => .ex e h
  | .bad => .bad
def cmp2 (o : CO) (x : S) : Rs S → Rs RV
  | .ok y h => ofB h (cmpS o h x y)
  | .ex e h => .ex e h
  | .bad => .bad
def cmp1 (o : CO) (g : EvE) (ρ : Rho) : Rs S → Rs RV
  | .ok x h => cmp2 o x (sE g ρ h)
  | .ex e h => .ex e h
  | .bad => .bad
def ch4 (p : CO) (y : S) : Rs S → Rs RV
  | .ok z h => ofB h (cmpS p h y z)
  | .ex e h => .ex e h
  | .bad => .bad
def ch3 (p : CO) (y : S) (k : EvE) (ρ : Rho) (h : Hs) : Option Bool → Rs RV
  | some true => ch4 p y (sE k ρ h)
  | some false => .ok (.v (.bl false)) h
  | none => .bad
def ch2 (o p : CO) (x : S) (k : EvE) (ρ : Rho) : Rs S → Rs RV
  | .ok y h => ch3 p y k ρ h (cmpS o h x y)
  | .ex e h => .ex e h
  | .bad => .bad
def ch1 (o p : CO) (g k : EvE) (ρ : Rho) : Rs S → Rs RV
  | .ok x h => ch2 o p x k ρ (sE g ρ h)
  | .ex e h => .ex e h
  | .bad => .bad
def nt1 : Rs Bool → Rs RV
  | .ok b h => .ok (.v (.bl !b)) h
  | .ex e h => .ex e h
  | .bad => .bad
def truR (h : Hs) (r : RV) : Option Bool := match r.s with
  | some x => truS h x
  | none => none
def and2 (g : EvE) (ρ : Rho) (r : RV) (h : Hs) : Option Bool → Rs RV
  | some true => g ρ h
  | some false => .ok r h
  | none => .bad
def and1 (g : EvE) (ρ : Rho) : Rs RV → Rs RV
  | .ok r h => and2 g ρ r h (truR h r)
  | .ex e h => .ex e h
  | .bad => .bad
def or2 (g : EvE) (ρ : Rho) (r : RV) (h : Hs) : Option Bool → Rs RV
  | some true => .ok r h
  | some false => g ρ h
  | none => .bad
def or1 (g : EvE) (ρ : Rho) : Rs RV → Rs RV
  | .ok r h => or2 g ρ r h (truR h r)
  | .ex e h => .ex e h
  | .bad => .bad
def ife1 (f g : EvE) (ρ : Rho) : Rs Bool → Rs RV
  | .ok true h => f ρ h
  | .ok false h => g ρ h
  | .ex e h => .ex e h
  | .bad => .bad
def tup2 (h : Hs) : Option (List U) → Rs RV
  | some us => if us.length ≤ lim then .ok (.v (.tup us)) h else .bad
  | none => .bad
def tup1 : Rs (List S) → Rs RV
  | .ok ss h => tup2 h (allU ss)
  | .ex e h => .ex e h
  | .bad => .bad
def lst2 (h : Hs) : Option (List U) → Rs RV
  | some us => if us.length ≤ lim then .ok (.nw (.lst us)) h else .bad
  | none => .bad
def lst1 : Rs (List S) → Rs RV
  | .ok ss h => lst2 h (allU ss)
  | .ex e h => .ex e h
  | .bad => .bad
def neg1 : Rs S → Rs RV
  | .ok (.v (.int i)) h => .ok (.v (.int (-i))) h
  | .ok _ _ => .bad
  | .ex e h => .ex e h
  | .bad => .bad
def idx2 (x : S) : Rs S → Rs RV
  | .ok y h => ofO h (idxS h x y)
  | .ex e h => .ex e h
  | .bad => .bad
def idx1 (g : EvE) (ρ : Rho) : Rs S → Rs RV
  | .ok x h => idx2 x (sE g ρ h)
  | .ex e h => .ex e h
  | .bad => .bad
def slc3 (x : S) (l : Option Int) : Rs (Option Int) → Rs RV
  | .ok u h => ofO h (slcS h x l u)
  | .ex e h => .ex e h
  | .bad => .bad
def slc2 (x : S) (hi : EvO) (ρ : Rho) : Rs (Option Int) → Rs RV
  | .ok l h => slc3 x l (hi ρ h)
  | .ex e h => .ex e h
  | .bad => .bad
def slc1 (lo hi : EvO) (ρ : Rho) : Rs S → Rs RV
  | .ok x h => slc2 x hi ρ (lo ρ h)
  | .ex e h => .ex e h
  | .bad => .bad
def opt1 : Rs S → Rs (Option Int)
  | .ok x h => ofO h (intO x)
  | .ex e h => .ex e h
  | .bad => .bad
def rev1 : Rs S → Rs RV
  | .ok x h => ofO h (revS h x)
  | .ex e h => .ex e h
  | .bad => .bad
def nr1 : Rs RV → Rs RV
  | .ok (.nw o) h => .ok (.r h.length) (h ++ [o])
  | .ok (.r n) h => .ok (.r n) h
  | .ok (.v _) _ => .bad
  | .ex e h => .ex e h
  | .bad => .bad
def cons2 (s : S) : Rs (List S) → Rs (List S)
  | .ok ss h => .ok (s :: ss) h
  | .ex e h => .ex e h
  | .bad => .bad
def cons1 (g : EvL) (ρ : Rho) : Rs S → Rs (List S)
  | .ok s h => cons2 s (g ρ h)
  | .ex e h => .ex e h
  | .bad => .bad
def call3 (c : CC) (f : Nat) (h : Hs) : Option (List S) → Rs RV
  | some as => doCall c f as h
  | none => .bad
def call2 (c : CC) (f : Nat) (ki : List Nat) (ss : List S) : Rs (List S) → Rs RV
  | .ok kss h => call3 c f h (argsOf c f ss ki kss)
  | .ex e h => .ex e h
  | .bad => .bad
def call1 (c : CC) (f : Nat) (ki : List Nat) (g : EvL) (ρ : Rho) : Rs (List S) → Rs RV
  | .ok ss h => call2 c f ki ss (g ρ h)
  | .ex e h => .ex e h
  | .bad => .bad
def bi1 (b : BI) : Rs (List S) → Rs RV
  | .ok ss h => ofO h (bltS b h ss)
  | .ex e h => .ex e h
  | .bad => .bad
def isi2 (h : Hs) (ts : List Ty) : Option Nat → Rs RV
  | some t => .ok (.v (.bl (ts.any (isTy t)))) h
  | none => .bad
def isi1 (ts : List Ty) : Rs S → Rs RV
  | .ok x h => isi2 h ts (tyS h x)
  | .ex e h => .ex e h
  | .bad => .bad
def met2 (m : ME) (x : S) : Rs (List S) → Rs RV
  | .ok ss h => ofP (metS m h x ss)
  | .ex e h => .ex e h
  | .bad => .bad
def metG (m : ME) (x : S) (g : EvL) (ρ : Rho) (h : Hs) : Bool → Rs RV
  | true => met2 m x (g ρ h)
  | false => .bad
def met1 (m : ME) (g : EvL) (ρ : Rho) : Rs S → Rs RV
  | .ok x h => metG m x g ρ h (metT m h x)
  | .ex e h => .ex e h
  | .bad => .bad
def lc2 : Rs (List U) → Rs RV
  | .ok us h => .ok (.nw (.lst us)) h
  | _ => .bad
def lc1 (g : EvGs) (k : Rho → Hs → Rs Bool) (f : EvE) (own : List Nat) (ρ : Rho) : Rs (Src × Nat) → Rs RV
  | .ok p h => lc2 (compL p.1 g k f (wipeR ρ own) p.2 0 [] h)
  | .ex e h => .ex e h
  | .bad => .bad
section
variable (c : CC) (ρ : Rho) (h : Hs)
theorem e_s (f : EvE) : sE f ρ h = item (f ρ h) := by unfold sE; cases f ρ h <;> rfl
theorem e_t (f : EvE) : tE f ρ h = tst (sE f ρ h) := by unfold tE; cases sE f ρ h <;> rfl
theorem e_var (i : Nat) : evE c (.var i) ρ h = rdV ρ[i]? h := by
  rw [evE]; unfold vVar rdV
  split <;> simp_all
theorem e_c (u : U) : evE c (.c u) ρ h = .ok (.v u) h := by rw [evE]
theorem e_gl (x : Str) (u : U) : evE c (.gl x u) ρ h = .ok (.v u) h := by rw [evE]
theorem e_fn (x : Str) (f : Nat) : evE c (.fn x f) ρ h = .ok (.v (.fn f)) h := by rw [evE]
theorem e_bin (o : BO) (a b : IE) : evE c (.bin o a b) ρ h = bin1 o (evE c b) ρ (sE (evE c a) ρ h) := by
  rw [evE]; unfold vBin
  cases sE (evE c a) ρ h with
  | ok x h => show (sE (evE c b) ρ h).bind _ = bin2 o x (sE (evE c b) ρ h); cases sE (evE c b) ρ h <;> rfl
  | _ => rfl
theorem e_cmp (o : CO) (a b : IE) : evE c (.cmp o a b) ρ h = cmp1 o (evE c b) ρ (sE (evE c a) ρ h) := by
  rw [evE]; unfold vCmp
  cases sE (evE c a) ρ h with
  | ok x h =>
    show (sE (evE c b) ρ h).bind _ = cmp2 o x (sE (evE c b) ρ h)
    cases sE (evE c b) ρ h with
    | ok y h => show ofO h ((cmpS o h x y).map _) = ofB h (cmpS o h x y); cases cmpS o h x y <;> rfl
    | _ => rfl
  | _ => rfl
theorem e_ch (o p : CO) (a b d : IE) : evE c (.ch o p a b d) ρ h = ch1 o p (evE c b) (evE c d) ρ (sE (evE c a) ρ h) := by
  rw [evE]; unfold vCh
  cases sE (evE c a) ρ h with
  | ok x h =>
    show (sE (evE c b) ρ h).bind _ = ch2 o p x (evE c d) ρ (sE (evE c b) ρ h)
    cases sE (evE c b) ρ h with
    | ok y h =>
      show (match cmpS o h x y with
        | some true => (sE (evE c d) ρ h).bind fun z h => ofO h ((cmpS p h y z).map fun b => .v (.bl b))
        | some false => .ok (.v (.bl false)) h
        | none => .bad) = ch3 p y (evE c d) ρ h (cmpS o h x y)
      cases cmpS o h x y with
      | none => rfl
      | some b =>
        cases b with
        | false => rfl
        | true =>
          show (sE (evE c d) ρ h).bind _ = ch4 p y (sE (evE c d) ρ h)
          cases sE (evE c d) ρ h with
          | ok z h => show ofO h ((cmpS p h y z).map _) = ofB h (cmpS p h y z); cases cmpS p h y z <;> rfl
          | _ => rfl
    | _ => rfl
  | _ => rfl
theorem e_nt (a : IE) : evE c (.nt a) ρ h = nt1 (tE (evE c a) ρ h) := by rw [evE]; unfold vNt; cases tE (evE c a) ρ h <;> rfl
theorem e_and (a b : IE) : evE c (.and a b) ρ h = and1 (evE c b) ρ (evE c a ρ h) := by
  rw [evE]; unfold vAnd
  cases evE c a ρ h with
  | ok r h =>
    show (match r.s with
      | some x => match truS h x with
        | some true => evE c b ρ h
        | some false => .ok r h
        | none => .bad
      | none => .bad) = and2 (evE c b) ρ r h (truR h r)
    unfold truR
    cases r.s with
    | none => rfl
    | some x => dsimp only; cases truS h x with
      | none => rfl
      | some b => cases b <;> rfl
  | _ => rfl
theorem e_or (a b : IE) : evE c (.or a b) ρ h = or1 (evE c b) ρ (evE c a ρ h) := by
  rw [evE]; unfold vOr
  cases evE c a ρ h with
  | ok r h =>
    show (match r.s with
      | some x => match truS h x with
        | some true => .ok r h
        | some false => evE c b ρ h
        | none => .bad
      | none => .bad) = or2 (evE c b) ρ r h (truR h r)
    unfold truR
    cases r.s with
    | none => rfl
    | some x => dsimp only; cases truS h x with
      | none => rfl
      | some b => cases b <;> rfl
  | _ => rfl
theorem e_ife (t a b : IE) : evE c (.ife t a b) ρ h = ife1 (evE c a) (evE c b) ρ (tE (evE c t) ρ h) := by
  rw [evE]; unfold vIf
  cases tE (evE c t) ρ h with
  | ok d h => cases d <;> rfl
  | _ => rfl
theorem e_tup (es : IEs) : evE c (.tup es) ρ h = tup1 (evL c es ρ h) := by
  rw [evE]; unfold vTup usE
  cases evL c es ρ h with
  | ok ss h => show (ofO h (allU ss)).bind _ = tup2 h (allU ss); cases allU ss <;> rfl
  | _ => rfl
theorem e_lst (es : IEs) : evE c (.lst es) ρ h = lst1 (evL c es ρ h) := by
  rw [evE]; unfold vLst usE
  cases evL c es ρ h with
  | ok ss h => show (ofO h (allU ss)).bind _ = lst2 h (allU ss); cases allU ss <;> rfl
  | _ => rfl
theorem e_neg (a : IE) : evE c (.neg a) ρ h = neg1 (sE (evE c a) ρ h) := by
  rw [evE]; unfold vNeg
  cases sE (evE c a) ρ h with
  | ok x h => cases x with
    | r n => rfl
    | v u => cases u <;> rfl
  | _ => rfl
theorem e_idx (a b : IE) : evE c (.idx a b) ρ h = idx1 (evE c b) ρ (sE (evE c a) ρ h) := by
  rw [evE]; unfold vIdx
  cases sE (evE c a) ρ h with
  | ok x h => show (sE (evE c b) ρ h).bind _ = idx2 x (sE (evE c b) ρ h); cases sE (evE c b) ρ h <;> rfl
  | _ => rfl
theorem e_slc (a : IE) (lo hi : IO) : evE c (.slc a lo hi) ρ h = slc1 (evO c lo) (evO c hi) ρ (sE (evE c a) ρ h) := by
  rw [evE]; unfold vSlc
  cases sE (evE c a) ρ h with
  | ok x h =>
    show (evO c lo ρ h).bind _ = slc2 x (evO c hi) ρ (evO c lo ρ h)
    cases evO c lo ρ h with
    | ok l h => show (evO c hi ρ h).bind _ = slc3 x l (evO c hi ρ h); cases evO c hi ρ h <;> rfl
    | _ => rfl
  | _ => rfl
theorem e_on : evO c .none ρ h = .ok none h := by rw [evO]
theorem e_os (e : IE) : evO c (.some e) ρ h = opt1 (sE (evE c e) ρ h) := by rw [evO]; unfold vO; cases sE (evE c e) ρ h <;> rfl
theorem e_rev (a : IE) : evE c (.rev a) ρ h = rev1 (sE (evE c a) ρ h) := by rw [evE]; unfold vRev; cases sE (evE c a) ρ h <;> rfl
theorem e_nr (a : IE) : evE c (.nr a) ρ h = nr1 (evE c a ρ h) := by
  rw [evE]; unfold vNr
  cases evE c a ρ h with
  | ok r h => cases r <;> rfl
  | _ => rfl
theorem e_nil : evL c .nil ρ h = .ok [] h := by rw [evL]; rfl
theorem e_cons (e : IE) (es : IEs) : evL c (.cons e es) ρ h = cons1 (evL c es) ρ (sE (evE c e) ρ h) := by
  rw [evL]; unfold vCons
  cases sE (evE c e) ρ h with
  | ok s h => show (evL c es ρ h).bind _ = cons2 s (evL c es ρ h); cases evL c es ρ h <;> rfl
  | _ => rfl
theorem e_call (f : Nat) (es : IEs) (ks : List (Str × Nat)) (kes : IEs) : evE c (.call f es ks kes) ρ h = call1 c f (ks.map (·.2)) (evL c kes) ρ (evL c es ρ h) := by
  rw [evE]; unfold vCall
  cases evL c es ρ h with
  | ok ss h =>
    show (evL c kes ρ h).bind _ = call2 c f (ks.map (·.2)) ss (evL c kes ρ h)
    cases evL c kes ρ h with
    | ok kss h => show (match argsOf c f ss (ks.map (·.2)) kss with
        | some as => doCall c f as h
        | none => .bad) = call3 c f h (argsOf c f ss (ks.map (·.2)) kss); cases argsOf c f ss (ks.map (·.2)) kss <;> rfl
    | _ => rfl
  | _ => rfl
theorem e_bi (b : BI) (es : IEs) : evE c (.bi b es) ρ h = bi1 b (evL c es ρ h) := by rw [evE]; unfold vBi; cases evL c es ρ h <;> rfl
theorem e_isi (a : IE) (ts : List Ty) : evE c (.isi a ts) ρ h = isi1 ts (sE (evE c a) ρ h) := by
  rw [evE]; unfold vIsi
  cases sE (evE c a) ρ h with
  | ok x h => show ofO h ((tyS h x).map _) = isi2 h ts (tyS h x); cases tyS h x <;> rfl
  | _ => rfl
theorem e_met (m : ME) (o : IE) (es : IEs) : evE c (.met m o es) ρ h = met1 m (evL c es) ρ (sE (evE c o) ρ h) := by
  rw [evE]; unfold vMet
  cases sE (evE c o) ρ h with
  | ok x h =>
    show (if metT m h x = true then (evL c es ρ h).bind fun ss h => ofP (metS m h x ss) else .bad) = metG m x (evL c es) ρ h (metT m h x)
    cases metT m h x with
    | false => rfl
    | true => show (evL c es ρ h).bind _ = met2 m x (evL c es ρ h); cases evL c es ρ h <;> rfl
  | _ => rfl
theorem e_lc (t : Tg) (it : II) (k : IO) (e : IE) (own : List (Str × Nat)) : evE c (.lc t it k e own) ρ h = lc1 (evT1 c t) (evK c k) (evE c e) (own.map (·.2)) ρ (evI c it ρ h) := by
  rw [evE]; unfold vLc
  cases evI c it ρ h with
  | ok p h =>
    show (match compL p.1 (evT1 c t) (evK c k) (evE c e) (wipeR ρ (own.map (·.2))) p.2 0 [] h with
      | .ok us h => Rs.ok (RV.nw (.lst us)) h
      | _ => .bad) = lc2 (compL p.1 (evT1 c t) (evK c k) (evE c e) (wipeR ρ (own.map (·.2))) p.2 0 [] h)
    cases compL p.1 (evT1 c t) (evK c k) (evE c e) (wipeR ρ (own.map (·.2))) p.2 0 [] h <;> rfl
  | _ => rfl
end
/-! on what is there -/
section
variable (h : Hs) (ρ : Rho)
theorem r_v (u : U) : rdV (some (some (.v u))) h = .ok (.v u) h := rfl
theorem r_r (n : Nat) : rdV (some (some (.r n))) h = .ok (.r n) h := rfl
theorem i_v (u : U) : item (.ok (.v u) h) = .ok (.v u) h := rfl
theorem i_r (n : Nat) : item (.ok (.r n) h) = .ok (.r n) h := rfl
theorem i_l (us : List U) : item (.ok (.nw (.lst us)) h) = .ok (.v (.lst us)) h := rfl
theorem t_ok (x : S) : tst (.ok x h) = ofO h (truS h x) := rfl
theorem b1_ok (o : BO) (g : EvE) (x : S) : bin1 o g ρ (.ok x h) = bin2 o x (sE g ρ h) := rfl
theorem b2_ok (o : BO) (x y : S) : bin2 o x (.ok y h) = ofO h (binS o h x y) := rfl
theorem c1_ok (o : CO) (g : EvE) (x : S) : cmp1 o g ρ (.ok x h) = cmp2 o x (sE g ρ h) := rfl
theorem c2_ok (o : CO) (x y : S) : cmp2 o x (.ok y h) = ofB h (cmpS o h x y) := rfl
theorem oB_ok (b : Bool) : ofB h (some b) = .ok (.v (.bl b)) h := rfl
theorem h1_ok (o p : CO) (g k : EvE) (x : S) : ch1 o p g k ρ (.ok x h) = ch2 o p x k ρ (sE g ρ h) := rfl
theorem h2_ok (o p : CO) (x y : S) (k : EvE) : ch2 o p x k ρ (.ok y h) = ch3 p y k ρ h (cmpS o h x y) := rfl
theorem h3_t (p : CO) (y : S) (k : EvE) : ch3 p y k ρ h (some true) = ch4 p y (sE k ρ h) := rfl
theorem h3_f (p : CO) (y : S) (k : EvE) : ch3 p y k ρ h (some false) = .ok (.v (.bl false)) h := rfl
theorem h4_ok (p : CO) (y z : S) : ch4 p y (.ok z h) = ofB h (cmpS p h y z) := rfl
theorem n1_ok (b : Bool) : nt1 (.ok b h) = .ok (.v (.bl !b)) h := rfl
theorem a1_ok (g : EvE) (r : RV) : and1 g ρ (.ok r h) = and2 g ρ r h (truR h r) := rfl
theorem a2_t (g : EvE) (r : RV) : and2 g ρ r h (some true) = g ρ h := rfl
theorem a2_f (g : EvE) (r : RV) : and2 g ρ r h (some false) = .ok r h := rfl
theorem o1_ok (g : EvE) (r : RV) : or1 g ρ (.ok r h) = or2 g ρ r h (truR h r) := rfl
theorem o2_t (g : EvE) (r : RV) : or2 g ρ r h (some true) = .ok r h := rfl
theorem o2_f (g : EvE) (r : RV) : or2 g ρ r h (some false) = g ρ h := rfl
theorem tr_v (u : U) : truR h (.v u) = truU u := rfl
theorem tr_l (us : List U) : truR h (.nw (.lst us)) = some (!us.isEmpty) := rfl
theorem tr_r (n : Nat) : truR h (.r n) = truS h (.r n) := rfl
theorem ts_v (u : U) : truS h (.v u) = truU u := rfl
theorem f1_t (f g : EvE) : ife1 f g ρ (.ok true h) = f ρ h := rfl
theorem f1_f (f g : EvE) : ife1 f g ρ (.ok false h) = g ρ h := rfl
theorem p1_ok (ss : List S) : tup1 (.ok ss h) = tup2 h (allU ss) := rfl
theorem l1_ok (ss : List S) : lst1 (.ok ss h) = lst2 h (allU ss) := rfl
theorem p2_ok (us : List U) (hl : us.length ≤ lim) : tup2 h (some us) = .ok (.v (.tup us)) h := if_pos hl
theorem l2_ok (us : List U) (hl : us.length ≤ lim) : lst2 h (some us) = .ok (.nw (.lst us)) h := if_pos hl
theorem au_n : allU [] = some [] := rfl
theorem au_c (u : U) (ss : List S) : allU (.v u :: ss) = (allU ss).map (u :: ·) := by show (match some u, allU ss with | some u, some us => some (u :: us) | _, _ => none) = _; cases allU ss <;> rfl
theorem om_s {α β : Type} (f : α → β) (a : α) : (some a).map f = some (f a) := rfl
theorem g1_ok (i : Int) : neg1 (.ok (.v (.int i)) h) = .ok (.v (.int (-i))) h := rfl
theorem x1_ok (g : EvE) (x : S) : idx1 g ρ (.ok x h) = idx2 x (sE g ρ h) := rfl
theorem x2_ok (x y : S) : idx2 x (.ok y h) = ofO h (idxS h x y) := rfl
theorem s1_ok (lo hi : EvO) (x : S) : slc1 lo hi ρ (.ok x h) = slc2 x hi ρ (lo ρ h) := rfl
theorem s2_ok (x : S) (hi : EvO) (l : Option Int) : slc2 x hi ρ (.ok l h) = slc3 x l (hi ρ h) := rfl
theorem s3_ok (x : S) (l u : Option Int) : slc3 x l (.ok u h) = ofO h (slcS h x l u) := rfl
theorem q1_ok (i : Int) : opt1 (.ok (.v (.int i)) h) = .ok (some i) h := rfl
theorem v1_ok (x : S) : rev1 (.ok x h) = ofO h (revS h x) := rfl
theorem w1_n (o : MO) : nr1 (.ok (.nw o) h) = .ok (.r h.length) (h ++ [o]) := rfl
theorem w1_r (n : Nat) : nr1 (.ok (.r n) h) = .ok (.r n) h := rfl
theorem k1_ok (g : EvL) (s : S) : cons1 g ρ (.ok s h) = cons2 s (g ρ h) := rfl
theorem k2_ok (s : S) (ss : List S) : cons2 s (.ok ss h) = .ok (s :: ss) h := rfl
theorem d1_ok (c : CC) (f : Nat) (ki : List Nat) (g : EvL) (ss : List S) : call1 c f ki g ρ (.ok ss h) = call2 c f ki ss (g ρ h) := rfl
theorem d2_ok (c : CC) (f : Nat) (ki : List Nat) (ss kss : List S) : call2 c f ki ss (.ok kss h) = call3 c f h (argsOf c f ss ki kss) := rfl
theorem d3_ok (c : CC) (f : Nat) (as : List S) : call3 c f h (some as) = doCall c f as h := rfl
theorem y1_ok (b : BI) (ss : List S) : bi1 b (.ok ss h) = ofO h (bltS b h ss) := rfl
theorem z1_ok (ts : List Ty) (x : S) : isi1 ts (.ok x h) = isi2 h ts (tyS h x) := rfl
theorem z2_ok (ts : List Ty) (t : Nat) : isi2 h ts (some t) = .ok (.v (.bl (ts.any (isTy t)))) h := rfl
theorem m1_ok (m : ME) (g : EvL) (x : S) : met1 m g ρ (.ok x h) = metG m x g ρ h (metT m h x) := rfl
theorem mG_ok (m : ME) (x : S) (g : EvL) : metG m x g ρ h true = met2 m x (g ρ h) := rfl
theorem m2_ok (m : ME) (x : S) (ss : List S) : met2 m x (.ok ss h) = ofP (metS m h x ss) := rfl
theorem lc1_ok (g : EvGs) (k : Rho → Hs → Rs Bool) (f : EvE) (own : List Nat) (p : Src × Nat) : lc1 g k f own ρ (.ok p h) = lc2 (compL p.1 g k f (wipeR ρ own) p.2 0 [] h) := rfl
theorem lc2_ok (us : List U) : lc2 (.ok us h) = .ok (.nw (.lst us)) h := rfl
theorem ofO_s {α : Type} (a : α) : ofO h (some a) = .ok a h := rfl
theorem ofP_s {α : Type} (a : α) (h' : Hs) : ofP (some (a, h')) = .ok a h' := rfl
end
/-! statements -/
def asg1 (g : EvG) (ρ : Rho) : Rs RV → SR
  | .ok r h => SR.ofRs ρ (noEx (g r ρ h)) .nx
  | .ex e h => .ex e ρ h
  | .bad => .bad
def ifs1 (a b : EvS) (ρ : Rho) : Rs Bool → SR
  | .ok true h => a ρ h
  | .ok false h => b ρ h
  | .ex e h => .ex e ρ h
  | .bad => .bad
def for1 (g : EvGs) (b : EvS) (ρ : Rho) : Rs (Src × Nat) → SR
  | .ok p h => forL p.1 g b p.2 0 ρ h
  | .ex e h => .ex e ρ h
  | .bad => .bad
def ret1 (ρ : Rho) : Rs RV → SR
  | .ok r h => .rt r h
  | .ex e h => .ex e ρ h
  | .bad => .bad
def ex1 (ρ : Rho) : Rs RV → SR
  | .ok _ h => .nx ρ h
  | .ex e h => .ex e ρ h
  | .bad => .bad
def nm1 (i : Nat) (ρ : Rho) (h : Hs) : Option S → Rs Rho
  | some s => .ok (ρ.set i (some s)) h
  | none => .bad
def sub3 (ρ : Rho) : Option Hs → Rs Rho
  | some h => .ok ρ h
  | none => .bad
def sub2 (u : U) (o : S) (ρ : Rho) : Rs S → Rs Rho
  | .ok i h => sub3 ρ (gSubS h o i u)
  | _ => .bad
def sub1 (u : U) (i : EvE) (ρ : Rho) : Rs S → Rs Rho
  | .ok o h => sub2 u o ρ (sE i ρ h)
  | _ => .bad
def sub0 (o i : EvE) (ρ : Rho) (h : Hs) : Option U → Rs Rho
  | some u => sub1 u i ρ (sE o ρ h)
  | none => .bad
section
variable (c : CC) (k : Nat) (ρ : Rho) (h : Hs)
theorem s_cons (s : IS) (ss : ISs) : evSs c k (.cons s ss) ρ h = (evS c k s ρ h).andThen (evSs c k ss) := by rw [evSs]
theorem s_nil : evSs c k .nil ρ h = .nx ρ h := by rw [evSs]
theorem s_asg (t : Tg) (e : IE) : evS c k (.asg t e) ρ h = asg1 (evG c t) ρ (evE c e ρ h) := by rw [evS]; dsimp only; cases evE c e ρ h <;> rfl
theorem s_ifs (t : IE) (a b : ISs) : evS c k (.ifs t a b) ρ h = ifs1 (evSs c k a) (evSs c k b) ρ (tE (evE c t) ρ h) := by
  rw [evS]
  dsimp only
  cases tE (evE c t) ρ h with
  | ok d h => cases d <;> rfl
  | _ => rfl
theorem s_for (t : Tg) (it : II) (b : ISs) : evS c k (.fors t it b) ρ h = for1 (evT1 c t) (evSs c k b) ρ (evI c it ρ h) := by rw [evS]; dsimp only; cases evI c it ρ h <;> rfl
theorem s_ret (e : IE) : evS c k (.ret e) ρ h = ret1 ρ (evE c e ρ h) := by rw [evS]; dsimp only; cases evE c e ρ h <;> rfl
theorem s_ex (e : IE) : evS c k (.ex e) ρ h = ex1 ρ (evE c e ρ h) := by rw [evS]; dsimp only; cases evE c e ρ h <;> rfl
theorem g_nm (i : Nat) (r : RV) : evG c (.nm i) r ρ h = nm1 i ρ h r.s := by rw [evG]; unfold gNm; cases r.s <;> rfl
theorem g_sub (o i : IE) (r : RV) : noEx (evG c (.sub o i) r ρ h) = sub0 (evE c o) (evE c i) ρ h r.u := by
  rw [evG]; unfold gSub
  cases r.u with
  | none => rfl
  | some u =>
    show noEx (noEx ((sE (evE c o) ρ h).bind _)) = sub1 u (evE c i) ρ (sE (evE c o) ρ h)
    cases sE (evE c o) ρ h with
    | ok x h =>
      show noEx (noEx ((sE (evE c i) ρ h).bind _)) = sub2 u x ρ (sE (evE c i) ρ h)
      cases sE (evE c i) ρ h with
      | ok y h => show noEx (noEx (match gSubS h x y u with | some h => .ok ρ h | none => .bad)) = sub3 ρ (gSubS h x y u); cases gSubS h x y u <;> rfl
      | _ => rfl
    | _ => rfl
theorem S1_ok (g : EvG) (r : RV) : asg1 g ρ (.ok r h) = SR.ofRs ρ (noEx (g r ρ h)) .nx := rfl
theorem nE_ok {α : Type} (a : α) : noEx (.ok a h) = .ok a h := rfl
theorem N1_ok (i : Nat) (s : S) : nm1 i ρ h (some s) = .ok (ρ.set i (some s)) h := rfl
theorem R_ok {α : Type} (a : α) (f : α → Hs → SR) : SR.ofRs ρ (.ok a h) f = f a h := rfl
theorem I1_t (a b : EvS) : ifs1 a b ρ (.ok true h) = a ρ h := rfl
theorem I1_f (a b : EvS) : ifs1 a b ρ (.ok false h) = b ρ h := rfl
theorem F1_ok (g : EvGs) (b : EvS) (p : Src × Nat) : for1 g b ρ (.ok p h) = forL p.1 g b p.2 0 ρ h := rfl
theorem T1_ok (r : RV) : ret1 ρ (.ok r h) = .rt r h := rfl
theorem E1_ok (r : RV) : ex1 ρ (.ok r h) = .nx ρ h := rfl
theorem B0_ok (o i : EvE) (u : U) : sub0 o i ρ h (some u) = sub1 u i ρ (sE o ρ h) := rfl
theorem B1_ok (u : U) (i : EvE) (o : S) : sub1 u i ρ (.ok o h) = sub2 u o ρ (sE i ρ h) := rfl
theorem B2_ok (u : U) (o i : S) : sub2 u o ρ (.ok i h) = sub3 ρ (gSubS h o i u) := rfl
theorem B3_ok : sub3 ρ (some h) = .ok ρ h := rfl
theorem A_nx (f : Rho → Hs → SR) : (SR.nx ρ h).andThen f = f ρ h := rfl
theorem A_rt (r : RV) (f : Rho → Hs → SR) : (SR.rt r h).andThen f = .rt r h := rfl
theorem V_v (u : U) : RV.s (.v u) = some (.v u) := rfl
theorem V_r (n : Nat) : RV.s (.r n) = some (.r n) := rfl
theorem V_l (us : List U) : RV.s (.nw (.lst us)) = some (.v (.lst us)) := rfl
theorem W_v (u : U) : RV.u (.v u) = some u := rfl
theorem W_l (us : List U) : RV.u (.nw (.lst us)) = some (.lst us) := rfl
end
/-! operations -/
section
variable (h : Hs)
theorem B_add (i j : Int) : binS .add h (.v (.int i)) (.v (.int j)) = some (.v (.int (i + j))) := rfl
theorem B_adds (a b : Str) (q : a.length + b.length ≤ lim) : binS .add h (.v (.str a)) (.v (.str b)) = some (.v (.str (a ++ b))) := if_pos q
theorem B_sub (i j : Int) : binS .sub h (.v (.int i)) (.v (.int j)) = some (.v (.int (i - j))) := rfl
theorem B_mul (i j : Int) (q : mulOk i j = true) : binS .mul h (.v (.int i)) (.v (.int j)) = some (.v (.int (i * j))) := if_pos q
theorem B_fdiv (i j : Int) (q : 0 < j ∧ j.natAbs.log2 < 8000) : binS .fdiv h (.v (.int i)) (.v (.int j)) = some (.v (.int (i / j))) := if_pos q
theorem B_mod (i j : Int) (q : 0 < j) : binS .mod h (.v (.int i)) (.v (.int j)) = some (.v (.int (i % j))) := if_pos q
theorem C_lt (i j : Int) : cmpS .lt h (.v (.int i)) (.v (.int j)) = some (decide (i < j)) := rfl
theorem C_le (i j : Int) : cmpS .le h (.v (.int i)) (.v (.int j)) = some (decide (i ≤ j)) := rfl
theorem C_gt (i j : Int) : cmpS .gt h (.v (.int i)) (.v (.int j)) = some (decide (j < i)) := rfl
theorem C_ge (i j : Int) : cmpS .ge h (.v (.int i)) (.v (.int j)) = some (decide (j ≤ i)) := rfl
theorem C_eq (i j : Int) : cmpS .eq h (.v (.int i)) (.v (.int j)) = some (decide (i = j)) := rfl
theorem C_ne (i j : Int) : cmpS .ne h (.v (.int i)) (.v (.int j)) = some (!decide (i = j)) := rfl
theorem C_eqs (i j : Str) : cmpS .eq h (.v (.str i)) (.v (.str j)) = some (decide (i = j)) := rfl
theorem C_nes (i j : Str) : cmpS .ne h (.v (.str i)) (.v (.str j)) = some (!decide (i = j)) := rfl
theorem L_int (i : Int) : bltS .int h [.v (.int i)] = some (.v (.int i)) := rfl
theorem L_intb (b : Bool) : bltS .int h [.v (.bl b)] = some (.v (.int (if b then 1 else 0))) := rfl
theorem L_abs (i : Int) : bltS .abs h [.v (.int i)] = some (.v (.int (if i < 0 then -i else i))) := rfl
theorem L_lenl (us : List U) : bltS .len h [.v (.lst us)] = some (.v (.int us.length)) := rfl
theorem L_lent (us : List U) : bltS .len h [.v (.tup us)] = some (.v (.int us.length)) := rfl
theorem L_lenf (us : List U) : bltS .len h [.v (.frz us)] = some (.v (.int us.length)) := rfl
theorem L_lens (x : Str) (q : x.length ≤ lim) : bltS .len h [.v (.str x)] = some (.v (.int x.length)) := if_pos q
theorem L_tup (us : List U) : bltS .tuple h [.v (.lst us)] = some (.v (.tup us)) := rfl
theorem X_r {n : Nat} {us : List U} {i : Int} {j : Nat} {u : U} (a : h[n]? = some (.lst us)) (b : ixU us.length i = some j) (e : us[j]? = some u) : idxS h (.r n) (.v (.int i)) = some (.v u) := by
  simp only [idxS, seqS, a, b, e]; rfl
theorem X_l {us : List U} {i : Int} {j : Nat} {u : U} (b : ixU us.length i = some j) (e : us[j]? = some u) : idxS h (.v (.lst us)) (.v (.int i)) = some (.v u) := by
  simp only [idxS, seqS, b, e]; rfl
theorem X_t {us : List U} {i : Int} {j : Nat} {u : U} (b : ixU us.length i = some j) (e : us[j]? = some u) : idxS h (.v (.tup us)) (.v (.int i)) = some (.v u) := by
  simp only [idxS, seqS, b, e]; rfl
theorem X_f {us : List U} {i : Int} {j : Nat} {u : U} (b : ixU us.length i = some j) (e : us[j]? = some u) : idxS h (.v (.frz us)) (.v (.int i)) = some (.v u) := by
  simp only [idxS, b, e]; rfl
theorem G_r {n : Nat} {us : List U} {i : Int} {j : Nat} {u : U} (a : h[n]? = some (.lst us)) (b : ixU us.length i = some j) : gSubS h (.r n) (.v (.int i)) u = some (h.set n (.lst (us.set j u))) := by
  simp only [gSubS, a, b]
end
theorem runF_eq (c : CC) (k : Nat) (d : FD) (as : List S) (os : Hs) (hl : as.length = d.np) : runF c k d as os = match evSs c k d.body (as.map some ++ List.replicate (d.ns - d.np) none) os with
    | .nx _ h => .ok (.v .non) (h.take os.length)
    | .rt r h => leave os.length r h
    | .ex e _ h => .ex e (h.take os.length)
    | _ => .bad := by unfold runF; rw [if_pos hl] <;> rfl
theorem call_eq {P : Prog} {n f : Nat} {d : FD} (h : P[f]? = some d) (as : List S) (os : Hs) : (cc P (n + 1)).call f as os = runF (cc P n) 1000000 d as os := by
  show (match P[f]? with
    | some d => runF (cc P n) 1000000 d as os
    | none => .bad) = _
  rw [h]
end VM

namespace VM
open PySem
/-! calls, loops, in general -/
theorem refs_v : ∀ us : List U, refsOf (us.map S.v) = []
  | [] => rfl
  | _ :: us => refs_v us
theorem renum_v (k : Nat) : ∀ us : List U, renum k (us.map S.v) = us.map S.v
  | [] => rfl
  | u :: us => by show S.v u :: renum k (us.map S.v) = _; rw [renum_v k us]; rfl
/-- values alone -/
theorem doCall_v {c : CC} {f : Nat} {us : List U} {u : U} (h : Hs) (e : c.call f (us.map S.v) [] = .ok (.v u) []) : doCall c f (us.map S.v) h = .ok (.v u) h := by
  unfold doCall
  rw [refs_v, renum_v]
  show (match c.call f (us.map S.v) [] with
    | .ok rv os' => if os'.length = 0 then backR [] (putBack h [] os') rv else .bad
    | .ex e os' => if os'.length = 0 then .ex e (putBack h [] os') else .bad
    | .bad => .bad) = _
  rw [e]
  rfl
theorem doCall_vl {c : CC} {f : Nat} {us : List U} {xs : List U} (h : Hs) (e : c.call f (us.map S.v) [] = .ok (.nw (.lst xs)) []) : doCall c f (us.map S.v) h = .ok (.nw (.lst xs)) h := by
  unfold doCall
  rw [refs_v, renum_v]
  show (match c.call f (us.map S.v) [] with
    | .ok rv os' => if os'.length = 0 then backR [] (putBack h [] os') rv else .bad
    | .ex e os' => if os'.length = 0 then .ex e (putBack h [] os') else .bad
    | .bad => .bad) = _
  rw [e]
  rfl
/-- an own list ahead of values -/
theorem doCall_t {c : CC} {f : Nat} {i : Nat} {us : List U} {xs xs' : List U} {r : RV} {u : U} {h : Hs} (hi : h[i]? = some (.lst xs)) (e : c.call f (.r 0 :: us.map S.v) [.lst xs] = .ok (.v u) [.lst xs']) : doCall c f (.r i :: us.map S.v) h = .ok (.v u) (h.set i (.lst xs')) := by
  have e0 : refsOf (.r i :: us.map S.v) = [i] := by show i :: refsOf (us.map S.v) = _; rw [refs_v]
  have e1 : renum 0 (.r i :: us.map S.v) = .r 0 :: us.map S.v := by show S.r 0 :: renum 1 (us.map S.v) = _; rw [renum_v]
  have e2 : pick h [i] = some [.lst xs] := by unfold pick pick; rw [hi]
  unfold doCall
  rw [e0, e1, e2, if_pos (by simp [ndup])]
  show (match c.call f (.r 0 :: us.map S.v) [.lst xs] with
    | .ok rv os' => if os'.length = 1 then backR [i] (putBack h [i] os') rv else .bad
    | .ex e os' => if os'.length = 1 then .ex e (putBack h [i] os') else .bad
    | .bad => .bad) = _
  rw [e]
  rfl
theorem doCall_tl {c : CC} {f : Nat} {i : Nat} {us : List U} {xs xs' ys : List U} {h : Hs} (hi : h[i]? = some (.lst xs)) (e : c.call f (.r 0 :: us.map S.v) [.lst xs] = .ok (.nw (.lst ys)) [.lst xs']) : doCall c f (.r i :: us.map S.v) h = .ok (.nw (.lst ys)) (h.set i (.lst xs')) := by
  have e0 : refsOf (.r i :: us.map S.v) = [i] := by show i :: refsOf (us.map S.v) = _; rw [refs_v]
  have e1 : renum 0 (.r i :: us.map S.v) = .r 0 :: us.map S.v := by show S.r 0 :: renum 1 (us.map S.v) = _; rw [renum_v]
  have e2 : pick h [i] = some [.lst xs] := by unfold pick pick; rw [hi]
  unfold doCall
  rw [e0, e1, e2, if_pos (by simp [ndup])]
  show (match c.call f (.r 0 :: us.map S.v) [.lst xs] with
    | .ok rv os' => if os'.length = 1 then backR [i] (putBack h [i] os') rv else .bad
    | .ex e os' => if os'.length = 1 then .ex e (putBack h [i] os') else .bad
    | .bad => .bad) = _
  rw [e]
  rfl
/-- a comprehension that changes nothing, over things at hand -/
theorem comp_map {src : Src} {g : EvGs} {k : Rho → Hs → Rs Bool} {f : EvE} {ρ : Rho} {h : Hs} (xs : List U) (P : U → Bool) (F : U → U) (hat : ∀ i x, xs[i]? = some x → srcAt h src i = some x) (hend : srcEnd h src xs.length = true)
    (turn : ∀ x, x ∈ xs → ∃ ρ1, g [x] ρ h = .ok ρ1 h ∧ k ρ1 h = .ok (P x) h ∧ (P x = true → sE f ρ1 h = .ok (.v (F x)) h)) : ∀ n i acc, i + n = xs.length → acc.length + n ≤ lim → compL src g k f ρ n i acc h = .ok (acc ++ ((xs.drop i).filter P).map F) h
  | 0, i, acc, e, _ => by
    rw [compL, show i = xs.length by omega, if_pos hend, List.drop_length]
    simp
  | n + 1, i, acc, e, hl => by
    have hi : i < xs.length := by omega
    have ex : xs[i]? = some xs[i] := List.getElem?_eq_getElem hi
    obtain ⟨ρ1, e1, e2, e3⟩ := turn xs[i] (List.getElem_mem hi)
    rw [compL, hat i _ ex]
    dsimp only
    rw [e1]
    show ((k ρ1 h).bind fun b h => if b = true then _ else _) = _
    rw [e2]
    show (if P xs[i] = true then (sE f ρ1 h).bind fun s h => match s.u with
        | some u => if acc.length < lim then compL src g k f ρ n (i + 1) (acc ++ [u]) h else .bad
        | none => .bad
      else compL src g k f ρ n (i + 1) acc h) = _
    rw [List.drop_eq_getElem_cons hi]
    by_cases hp : P xs[i] = true
    · rw [if_pos hp, e3 hp]
      show (if acc.length < lim then compL src g k f ρ n (i + 1) (acc ++ [F xs[i]]) h else .bad) = _
      rw [if_pos (by omega), comp_map xs P F hat hend turn n (i + 1) (acc ++ [F xs[i]]) (by omega) (by simp; omega)]
      rw [List.filter_cons_of_pos hp]
      simp
    · rw [if_neg hp, comp_map xs P F hat hend turn n (i + 1) acc (by omega) (by omega), List.filter_cons_of_neg hp]
/-- .. that draws: each turn one item of a kind -/
theorem comp_ix {src : Src} {g : EvGs} {k : Rho → Hs → Rs Bool} {f : EvE} {ρ : Rho} {N : Nat} {Inv : Nat → Hs → Prop} {P : Nat → U → Prop} (hend : ∀ h, Inv N h → srcEnd h src N = true)
    (turn : ∀ i h, i < N → Inv i h → ∃ x ρ1, srcAt h src i = some x ∧ g [x] ρ h = .ok ρ1 h ∧ k ρ1 h = .ok true h ∧ ∃ u h', sE f ρ1 h = .ok (.v u) h' ∧ P i u ∧ Inv (i + 1) h') : ∀ n i acc h, i + n = N → Inv i h → acc.length + n ≤ lim →
    ∃ us h', compL src g k f ρ n i acc h = .ok (acc ++ us) h' ∧ us.length = n ∧ (∀ j u, us[j]? = some u → P (i + j) u) ∧ Inv N h'
  | 0, i, acc, h, e, hI, _ => by
    have : i = N := by omega
    subst this
    refine ⟨[], h, ?_, rfl, fun j u q => by simp at q, hI⟩
    rw [compL, if_pos (hend h hI), List.append_nil]
  | n + 1, i, acc, h, e, hI, hl => by
    obtain ⟨x, ρ1, e1, e2, e3, u, h', e4, hp, hI'⟩ := turn i h (by omega) hI
    obtain ⟨us, h2, e5, e6, e7, e8⟩ := comp_ix hend turn n (i + 1) (acc ++ [u]) h' (by omega) hI' (by simp; omega)
    refine ⟨u :: us, h2, ?_, by simp [e6], fun j w q => ?_, e8⟩
    · rw [compL, e1]
      dsimp only
      rw [e2]
      show ((k ρ1 h).bind fun b h => if b = true then _ else _) = _
      rw [e3]
      show ((sE f ρ1 h).bind fun s h => match s.u with
        | some u => if acc.length < lim then compL src g k f ρ n (i + 1) (acc ++ [u]) h else .bad
        | none => .bad) = _
      rw [e4]
      show (if acc.length < lim then compL src g k f ρ n (i + 1) (acc ++ [u]) h' else .bad) = _
      rw [if_pos (by omega), e5]
      simp
    · cases j with
      | zero => simp at q; subst q; exact hp
      | succ j =>
        have := e7 j w (by simpa using q)
        rw [show i + (j + 1) = i + 1 + j by omega]
        exact this
/-- a for whose body ends -/
theorem for_ex {src : Src} {g : EvGs} {b : EvS} {N : Nat} {Inv : Nat → Rho → Hs → Prop} (hend : ∀ ρ h, Inv N ρ h → srcEnd h src N = true)
    (turn : ∀ i ρ h, i < N → Inv i ρ h → ∃ x ρ1, srcAt h src i = some x ∧ g [x] ρ h = .ok ρ1 h ∧ ∃ ρ2 h2, b ρ1 h = .nx ρ2 h2 ∧ Inv (i + 1) ρ2 h2) : ∀ n i ρ h, i + n = N → Inv i ρ h → ∃ ρ' h', forL src g b n i ρ h = .nx ρ' h' ∧ Inv N ρ' h'
  | 0, i, ρ, h, e, hI => by
    have : i = N := by omega
    subst this
    exact ⟨ρ, h, by rw [forL]; exact if_pos (hend ρ h hI), hI⟩
  | n + 1, i, ρ, h, e, hI => by
    obtain ⟨x, ρ1, e1, e2, ρ2, h2, e3, hI2⟩ := turn i ρ h (by omega) hI
    obtain ⟨ρ', h', e4, e5⟩ := for_ex hend turn n (i + 1) ρ2 h2 (by omega) hI2
    refine ⟨ρ', h', ?_, e5⟩
    rw [forL]
    dsimp only
    rw [e1]
    dsimp only
    rw [e2]
    dsimp only
    rw [e3]
    exact e4
theorem rng_at (h : Hs) {lo st : Int} {n i : Nat} (hi : i < n) : srcAt h (.rng lo st n) i = some (.int (lo + i * st)) := if_pos hi
theorem rng_end (h : Hs) (lo st : Int) (n : Nat) : srcEnd h (.rng lo st n) n = true := Nat.ble_eq_true_of_le (Nat.le_refl n)
theorem lst_at (h : Hs) (us : List U) (i : Nat) : srcAt h (.seq (.v (.lst us))) i = us[i]? := rfl
theorem lst_end (h : Hs) (us : List U) : srcEnd h (.seq (.v (.lst us))) us.length = true := Nat.ble_eq_true_of_le (Nat.le_refl _)
theorem tup_at (h : Hs) (us : List U) (i : Nat) : srcAt h (.seq (.v (.tup us))) i = us[i]? := rfl
theorem tup_end (h : Hs) (us : List U) : srcEnd h (.seq (.v (.tup us))) us.length = true := Nat.ble_eq_true_of_le (Nat.le_refl _)
end VM

namespace VM
open PySem
/-! what is walked, targets, step by step -/
def iv1 : Rs S → Rs (Src × Nat)
  | .ok s h => match s with
    | .v (.str z) => .ok (.str z, z.cps.toList.length) h
    | s => match seqAll h s with
      | some (_, us) => .ok (.seq s, us.length) h
      | none => .bad
  | .ex e h => .ex e h
  | .bad => .bad
def ir1 : Rs (List S) → Rs (Src × Nat)
  | .ok ss h => match ss with
    | [.v (.int n)] => ofO h ((rngN 0 n 1).map fun k => (.rng 0 1 k, k))
    | [.v (.int a), .v (.int b)] => ofO h ((rngN a b 1).map fun k => (.rng a 1 k, k))
    | [.v (.int a), .v (.int b), .v (.int d)] => ofO h ((rngN a b d).map fun k => (.rng a d k, k))
    | _ => .bad
  | .ex e h => .ex e h
  | .bad => .bad
def ie1 : Rs S → Rs (Src × Nat)
  | .ok s h => match seqAll h s with
    | some (true, us) => .ok (.enm s, us.length) h
    | _ => .bad
  | .ex e h => .ex e h
  | .bad => .bad
def iz2 (s : S) : Rs S → Rs (Src × Nat)
  | .ok t h => match seqAll h s, seqAll h t with
    | some (b, us), some (d, ws) => if b = d then .ok (.zip s t, min us.length ws.length) h else .bad
    | _, _ => .bad
  | .ex e h => .ex e h
  | .bad => .bad
def iz1 (k : EvE) (ρ : Rho) : Rs S → Rs (Src × Nat)
  | .ok s h => iz2 s (sE k ρ h)
  | .ex e h => .ex e h
  | .bad => .bad
section
variable (c : CC) (ρ : Rho) (h : Hs)
theorem i_val (e : IE) : evI c (.val e) ρ h = iv1 (sE (evE c e) ρ h) := by rw [evI]; unfold iVal; cases sE (evE c e) ρ h <;> rfl
theorem i_rng (es : IEs) : evI c (.rng es) ρ h = ir1 (evL c es ρ h) := by rw [evI]; unfold iRng; cases evL c es ρ h <;> rfl
theorem i_enm (e : IE) : evI c (.enm e) ρ h = ie1 (sE (evE c e) ρ h) := by rw [evI]; unfold iEnm; cases sE (evE c e) ρ h <;> rfl
theorem i_zip (a b : IE) : evI c (.zip a b) ρ h = iz1 (evE c b) ρ (sE (evE c a) ρ h) := by
  rw [evI]; unfold iZp
  cases sE (evE c a) ρ h with
  | ok s h => show (sE (evE c b) ρ h).bind _ = iz2 s (sE (evE c b) ρ h); cases sE (evE c b) ρ h <;> rfl
  | _ => rfl
theorem iv_s (z : Str) : iv1 (.ok (.v (.str z)) h) = .ok (.str z, z.cps.toList.length) h := rfl
theorem iv_l (us : List U) : iv1 (.ok (.v (.lst us)) h) = .ok (.seq (.v (.lst us)), us.length) h := rfl
theorem iv_t (us : List U) : iv1 (.ok (.v (.tup us)) h) = .ok (.seq (.v (.tup us)), us.length) h := rfl
theorem iv_f (us : List U) : iv1 (.ok (.v (.frz us)) h) = .ok (.seq (.v (.frz us)), us.length) h := rfl
theorem ir_1 (n : Int) : ir1 (.ok [.v (.int n)] h) = ofO h ((rngN 0 n 1).map fun k => (.rng 0 1 k, k)) := rfl
theorem ir_2 (a b : Int) : ir1 (.ok [.v (.int a), .v (.int b)] h) = ofO h ((rngN a b 1).map fun k => (.rng a 1 k, k)) := rfl
theorem ie_l (us : List U) : ie1 (.ok (.v (.lst us)) h) = .ok (.enm (.v (.lst us)), us.length) h := rfl
theorem iz_1 (k : EvE) (s : S) : iz1 k ρ (.ok s h) = iz2 s (sE k ρ h) := rfl
theorem iz_l (us ws : List U) : iz2 (.v (.lst us)) (.ok (.v (.lst ws)) h) = .ok (.zip (.v (.lst us)) (.v (.lst ws)), min us.length ws.length) h := rfl
theorem iz_t (us ws : List U) : iz2 (.v (.tup us)) (.ok (.v (.tup ws)) h) = .ok (.zip (.v (.tup us)) (.v (.tup ws)), min us.length ws.length) h := rfl
theorem rN_up {b : Int} (h0 : 0 ≤ b) (h1 : b ≤ 16000000) : rngN 0 b 1 = some b.toNat := by
  unfold rngN
  rw [if_pos ⟨by omega, by omega, by omega, h1⟩, if_pos rfl, Int.sub_zero]
theorem t1_nm (i : Nat) (u : U) : evT1 c (.nm i) [u] ρ h = .ok (ρ.set i (some (.v u))) h := by rw [evT1]
theorem t1_tp (ts : Tgs) (xs : List U) : evT1 c (.tp ts) [.tup xs] ρ h = evTs c ts xs ρ h := by rw [evT1]
theorem ts_nil : evTs c .nil [] ρ h = .ok ρ h := by rw [evTs]
theorem ts_cons (i : Nat) (ts : Tgs) (u : U) (us : List U) : evTs c (.cons (.nm i) ts) (u :: us) ρ h = evTs c ts us (ρ.set i (some (.v u))) h := by
  rw [evTs]
  dsimp only
  rw [evG]
  rfl
theorem k_none : evK c .none ρ h = .ok true h := by rw [evK]
theorem k_some (e : IE) : evK c (.some e) ρ h = tE (evE c e) ρ h := by rw [evK]
end
end VM

namespace VM
open PySem L2
/-- 0: is_number(thing) -/
def b_is_number : ISs := (.cons (.ret (.and (.isi (.var 0) [.int]) (.nt (.isi (.var 0) [.bool])))) .nil)
def d_b_is_number : FD := ⟨1, 1, [], b_is_number⟩
/-- 1: tupled(value, own) -/
def b_tupled_1 : IE := (.call 1 (.cons (.var 1) .nil) [] .nil)
def b_tupled : ISs := (.cons (.ret (.ife (.isi (.var 0) [.list, .tuple]) (.bi .tuple (.cons (.lc (.nm 1) (.val (.var 0)) .none b_tupled_1 [(⟨#[111, 119, 110]⟩, 1)]) .nil)) (.var 0))) .nil)
def d_b_tupled : FD := ⟨1, 2, [], b_tupled⟩
/-- 2: is_label_in(thing, sign) -/
def b_is_label_in_1 : IE := (.or (.cmp .in (.var 1) (.gl ⟨#[76, 69, 84, 84, 69, 82, 83]⟩ (.str ⟨#[97, 98, 99, 100, 101, 102, 103, 104, 105, 106, 107, 108, 109, 110, 111, 112, 113, 114, 115, 116, 117, 118, 119, 120, 121, 122]⟩))) (.cmp .in (.var 1) (.gl ⟨#[70, 73, 71, 85, 82, 69, 83]⟩ (.str ⟨#[48, 49, 50, 51, 52, 53, 54, 55, 56, 57]⟩))))
def b_is_label_in : ISs := (.cons (.ifs (.or (.nt (.isi (.var 0) [.str])) (.or (.nt (.ch .le .le (.c (.int 1)) (.bi .len (.cons (.var 0) .nil)) (.gl ⟨#[76, 79, 78, 71, 69, 83, 84, 95, 76, 65, 66, 69, 76]⟩ (.int 12)))) (.cmp .nin (.idx (.var 0) (.c (.int 0))) (.gl ⟨#[76, 69, 84, 84, 69, 82, 83]⟩ (.str ⟨#[97, 98, 99, 100, 101, 102, 103, 104, 105, 106, 107, 108, 109, 110, 111, 112, 113, 114, 115, 116, 117, 118, 119, 120, 121, 122]⟩))))) (.cons (.ret (.c (.bl false))) .nil) .nil) (.cons (.ret (.bi .all (.cons (.lc (.nm 1) (.val (.var 0)) .none b_is_label_in_1 [(⟨#[115, 105, 103, 110]⟩, 1)]) .nil))) .nil))
def d_b_is_label_in : FD := ⟨1, 2, [], b_is_label_in⟩
/-- 3: number_in(piece, most, figures, sign) -/
def b_number_in_1 : IE := (.cmp .in (.var 3) (.gl ⟨#[70, 73, 71, 85, 82, 69, 83]⟩ (.str ⟨#[48, 49, 50, 51, 52, 53, 54, 55, 56, 57]⟩)))
def b_number_in : ISs := (.cons (.asg (.nm 2) (.ife (.cmp .eq (.slc (.var 0) .none (.some (.c (.int 1)))) (.c (.str ⟨#[45]⟩))) (.slc (.var 0) (.some (.c (.int 1))) .none) (.var 0))) (.cons (.ifs (.or (.nt (.ch .le .le (.c (.int 1)) (.bi .len (.cons (.var 2) .nil)) (.var 1))) (.nt (.bi .all (.cons (.lc (.nm 3) (.val (.var 2)) .none b_number_in_1 [(⟨#[115, 105, 103, 110]⟩, 3)]) .nil)))) (.cons (.ret (.c .non)) .nil) .nil) (.cons (.ifs (.and (.cmp .eq (.idx (.var 2) (.c (.int 0))) (.c (.str ⟨#[48]⟩))) (.or (.cmp .gt (.bi .len (.cons (.var 2) .nil)) (.c (.int 1))) (.cmp .ne (.var 2) (.var 0)))) (.cons (.ret (.c .non)) .nil) .nil) (.cons (.ret (.bi .int (.cons (.var 0) .nil))) .nil))))
def d_b_number_in : FD := ⟨2, 4, [], b_number_in⟩
/-- 4: is_piece(thing, sign) -/
def b_is_piece_1 : IE := (.and (.ch .le .le (.c (.str ⟨#[33]⟩)) (.var 1) (.c (.str ⟨#[126]⟩))) (.cmp .ne (.var 1) (.c (.str ⟨#[35]⟩))))
def b_is_piece : ISs := (.cons (.ret (.and (.isi (.var 0) [.str]) (.and (.cmp .ne (.var 0) (.c (.str ⟨#[]⟩))) (.bi .all (.cons (.lc (.nm 1) (.val (.var 0)) .none b_is_piece_1 [(⟨#[115, 105, 103, 110]⟩, 1)]) .nil))))) .nil)
def d_b_is_piece : FD := ⟨1, 2, [], b_is_piece⟩
/-- 5: rows_in(text, found, number, line, pieces, piece) -/
def b_rows_in_1 : IE := (.var 5)
def b_rows_in_2 : ISs := (.cons (.asg (.nm 4) (.bi .tuple (.cons (.lc (.nm 5) (.val (.met .split (.idx (.met .split (.var 3) (.cons (.c (.str ⟨#[35]⟩)) .nil)) (.c (.int 0))) (.cons (.c (.str ⟨#[32]⟩)) .nil))) (.some (.cmp .ne (.var 5) (.c (.str ⟨#[]⟩)))) b_rows_in_1 [(⟨#[112, 105, 101, 99, 101]⟩, 5)]) .nil))) (.cons (.ifs (.cmp .ne (.var 4) (.tup .nil)) (.cons (.ex (.met .append (.var 1) (.cons (.tup (.cons (.var 2) (.cons (.var 4) .nil))) .nil))) .nil) .nil) .nil))
def b_rows_in : ISs := (.cons (.asg (.nm 1) (.nr (.lst .nil))) (.cons (.fors (.tp (.cons (.nm 2) (.cons (.nm 3) .nil))) (.enm (.met .split (.var 0) (.cons (.c (.str ⟨#[10]⟩)) .nil))) b_rows_in_2) (.cons (.ret (.var 1)) .nil)))
def d_b_rows_in : FD := ⟨1, 6, [], b_rows_in⟩
/-- 6: told_rows(rows, row) -/
def b_told_rows_1 : IE := (.bin .add (.met .join (.c (.str ⟨#[32]⟩)) (.cons (.var 1) .nil)) (.c (.str ⟨#[10]⟩)))
def b_told_rows : ISs := (.cons (.ret (.met .join (.c (.str ⟨#[]⟩)) (.cons (.lc (.nm 1) (.val (.var 0)) .none b_told_rows_1 [(⟨#[114, 111, 119]⟩, 1)]) .nil))) .nil)
def d_b_told_rows : FD := ⟨1, 2, [], b_told_rows⟩
/-- 7: rows_of(text) -/
def b_rows_of : ISs := (.cons (.ret (.bi .tuple (.cons (.call 5 (.cons (.var 0) .nil) [] .nil) .nil))) .nil)
def d_b_rows_of : FD := ⟨1, 1, [], b_rows_of⟩
/-- 8: text_of(rows, own, row, piece) -/
def b_text_of_1 : IE := (.and (.isi (.var 2) [.tuple]) (.cmp .ne (.var 2) (.tup .nil)))
def b_text_of_2 : IE := (.call 4 (.cons (.var 3) .nil) [] .nil)
def b_text_of_3 : IE := (.bi .all (.cons (.lc (.nm 3) (.val (.var 2)) .none b_text_of_2 [(⟨#[112, 105, 101, 99, 101]⟩, 3)]) .nil))
def b_text_of : ISs := (.cons (.asg (.nm 1) (.call 1 (.cons (.var 0) .nil) [] .nil)) (.cons (.ifs (.or (.nt (.isi (.var 1) [.tuple])) (.nt (.bi .all (.cons (.lc (.nm 2) (.val (.var 1)) .none b_text_of_1 [(⟨#[114, 111, 119]⟩, 2)]) .nil)))) (.cons .xx .nil) .nil) (.cons (.ifs (.nt (.bi .all (.cons (.lc (.nm 2) (.val (.var 1)) .none b_text_of_3 [(⟨#[114, 111, 119]⟩, 2)]) .nil))) (.cons .xx .nil) .nil) (.cons (.ret (.call 6 (.cons (.var 1) .nil) [] .nil)) .nil))))
def d_b_text_of : FD := ⟨1, 4, [], b_text_of⟩
/-- 9: number_of(piece) -/
def b_number_of : ISs := (.cons (.ifs (.nt (.isi (.var 0) [.str])) (.cons .xx .nil) .nil) (.cons (.ret (.call 3 (.cons (.var 0) (.cons (.gl ⟨#[77, 79, 83, 84, 95, 70, 73, 71, 85, 82, 69, 83]⟩ (.int 2000)) .nil)) [] .nil)) .nil))
def d_b_number_of : FD := ⟨1, 1, [], b_number_of⟩
/-- 10: piece_of(number) -/
def b_piece_of : ISs := (.cons (.ifs (.or (.nt (.call 0 (.cons (.var 0) .nil) [] .nil)) (.cmp .gt (.bi .abs (.cons (.var 0) .nil)) (.bi .intL (.cons (.bin .mul (.c (.str ⟨#[57]⟩)) (.gl ⟨#[77, 79, 83, 84, 95, 70, 73, 71, 85, 82, 69, 83]⟩ (.int 2000))) .nil)))) (.cons .xx .nil) .nil) (.cons (.ret (.bi .str (.cons (.var 0) .nil))) .nil))
def d_b_piece_of : FD := ⟨1, 1, [], b_piece_of⟩
/-- 11: is_label(thing) -/
def b_is_label : ISs := (.cons (.ret (.call 2 (.cons (.var 0) .nil) [] .nil)) .nil)
def d_b_is_label : FD := ⟨1, 1, [], b_is_label⟩
/-- 12: _law_box(script, k, bit_so) -/
def b_law_box : ISs := (.cons (.asg (.nm 2) (.ife (.cmp .lt (.var 1) (.bi .len (.cons (.var 0) .nil))) (.idx (.var 0) (.var 1)) (.c (.int 0)))) (.cons (.ret (.lst (.cons (.bin .mul (.bi .abs (.cons (.var 2) .nil)) (.bi .int (.cons (.cmp .ge (.bi .abs (.cons (.var 2) .nil)) (.bin .pow (.c (.int 10)) (.c (.int 18)))) .nil))) (.cons (.bin .add (.bin .add (.bin .mod (.bi .int (.cons (.var 2) .nil)) (.c (.int 2305843009213693951))) (.bin .mul (.c (.int 39373)) (.var 1))) (.c (.int 25154040))) (.cons (.c (.int 0)) .nil))))) .nil))
def d_b_law_box : FD := ⟨2, 3, [], b_law_box⟩
/-- 13: _law_take(tin, below_so, once_so, wide_so, twice_so, drawn_so) -/
def b_law_take : ISs := (.cons (.ifs (.cmp .gt (.idx (.var 0) (.c (.int 0))) (.c (.int 0))) (.cons (.asg (.nm 5) (.bin .mod (.bi .int (.cons (.idx (.var 0) (.c (.int 0))) .nil)) (.var 1))) (.cons (.asg (.sub (.var 0) (.c (.int 0))) (.bin .fdiv (.idx (.var 0) (.c (.int 0))) (.var 1))) (.cons (.ret (.var 5)) .nil))) .nil) (.cons (.asg (.sub (.var 0) (.c (.int 2))) (.bin .add (.idx (.var 0) (.c (.int 2))) (.c (.int 1)))) (.cons (.asg (.nm 2) (.bin .mod (.bi .int (.cons (.bin .mul (.bin .add (.idx (.var 0) (.c (.int 1))) (.bin .mul (.c (.int 48271)) (.idx (.var 0) (.c (.int 2))))) (.bin .add (.c (.int 39373)) (.idx (.var 0) (.c (.int 2))))) .nil)) (.c (.int 2147483647)))) (.cons (.asg (.nm 3) (.bin .add (.bin .mod (.bi .int (.cons (.var 2) .nil)) (.c (.int 40009))) (.c (.int 7)))) (.cons (.asg (.nm 4) (.bin .mod (.bi .int (.cons (.bin .mul (.bin .add (.bin .add (.var 2) (.idx (.var 0) (.c (.int 2)))) (.bin .fdiv (.idx (.var 0) (.c (.int 1))) (.c (.int 1000003)))) (.var 3)) .nil)) (.c (.int 2147483629)))) (.cons (.ret (.bin .mod (.bi .int (.cons (.bin .fdiv (.bin .mod (.bi .int (.cons (.bin .add (.bin .mul (.var 4) (.c (.int 48271))) (.var 2)) .nil)) (.c (.int 2147483587))) (.c (.int 64))) .nil)) (.var 1))) .nil))))))
def d_b_law_take : FD := ⟨2, 6, [], b_law_take⟩
/-- 14: _law_cells(script, most_so, cells_so, k, bit_so, at_so) -/
def b_law_cells_1 : ISs := (.cons (.asg (.nm 5) (.bin .mod (.bi .int (.cons (.var 3) .nil)) (.var 1))) (.cons (.asg (.sub (.var 2) (.var 5)) (.bin .add (.idx (.var 2) (.var 5)) (.bin .mul (.var 4) (.bin .add (.var 3) (.c (.int 2)))))) .nil))
def b_law_cells : ISs := (.cons (.asg (.nm 2) (.nr (.or (.bi .list (.cons (.slc (.var 0) .none (.some (.var 1))) .nil)) (.lst (.cons (.c (.int 0)) .nil))))) (.cons (.fors (.tp (.cons (.nm 3) (.cons (.nm 4) .nil))) (.enm (.slc (.var 0) (.some (.var 1)) (.some (.c (.int 63))))) b_law_cells_1) (.cons (.ret (.var 2)) .nil)))
def d_b_law_cells : FD := ⟨2, 6, [], b_law_cells⟩
/-- 15: _law_of(tin, goods_so) -/
def b_law_of : ISs := (.cons (.ret (.idx (.var 1) (.call 13 (.cons (.var 0) (.cons (.bi .len (.cons (.var 1) .nil)) .nil)) [] .nil))) .nil)
def d_b_law_of : FD := ⟨2, 2, [], b_law_of⟩
/-- 16: _law_same(got, due, mine, its) -/
def b_law_same_1 : IE := (.call 16 (.cons (.var 2) (.cons (.var 3) .nil)) [] .nil)
def b_law_same : ISs := (.cons (.ifs (.isi (.var 1) [.list, .tuple]) (.cons (.ifs (.or (.cmp .ne (.isi (.var 0) [.list]) (.isi (.var 1) [.list])) (.cmp .ne (.isi (.var 0) [.tuple]) (.isi (.var 1) [.tuple]))) (.cons (.ret (.c (.bl false))) .nil) .nil) (.cons (.ret (.and (.cmp .eq (.bi .len (.cons (.var 0) .nil)) (.bi .len (.cons (.var 1) .nil))) (.bi .all (.cons (.lc (.tp (.cons (.nm 2) (.cons (.nm 3) .nil))) (.zip (.var 0) (.var 1)) .none b_law_same_1 [(⟨#[109, 105, 110, 101]⟩, 2), (⟨#[105, 116, 115]⟩, 3)]) .nil)))) .nil)) .nil) (.cons (.ifs (.cmp .is (.var 1) (.c .non)) (.cons (.ret (.cmp .is (.var 0) (.c .non))) .nil) .nil) (.cons (.ifs (.isi (.var 1) [.bool, .str]) (.cons (.ret (.and (.cmp .eq (.isi (.var 0) [.bool]) (.isi (.var 1) [.bool])) (.and (.cmp .eq (.isi (.var 0) [.str]) (.isi (.var 1) [.str])) (.cmp .eq (.var 0) (.var 1))))) .nil) .nil) (.cons (.ret (.and (.isi (.var 0) [.int]) (.and (.nt (.isi (.var 0) [.bool])) (.cmp .eq (.var 0) (.var 1))))) .nil))))
def d_b_law_same : FD := ⟨2, 4, [], b_law_same⟩
/-- 17: _law_mixed(tin, matter, row_so, bit) -/
def b_law_mixed_1 : IE := (.call 17 (.cons (.var 0) (.cons (.var 3) .nil)) [] .nil)
def b_law_mixed : ISs := (.cons (.ifs (.nt (.isi (.var 1) [.list, .tuple])) (.cons (.ret (.var 1)) .nil) .nil) (.cons (.asg (.nm 2) (.lc (.nm 3) (.val (.var 1)) .none b_law_mixed_1 [(⟨#[98, 105, 116]⟩, 3)])) (.cons (.ret (.ife (.cmp .eq (.call 13 (.cons (.var 0) (.cons (.c (.int 2)) .nil)) [] .nil) (.c (.int 0))) (.var 2) (.bi .tuple (.cons (.var 2) .nil)))) .nil)))
def d_b_law_mixed : FD := ⟨2, 4, [], b_law_mixed⟩
/-- 18: _law_told(rows_so, own) -/
def b_law_told_1 : IE := (.bin .add (.met .join (.c (.str ⟨#[32]⟩)) (.cons (.var 1) .nil)) (.c (.str ⟨#[10]⟩)))
def b_law_told : ISs := (.cons (.ret (.met .join (.c (.str ⟨#[]⟩)) (.cons (.lc (.nm 1) (.val (.var 0)) .none b_law_told_1 [(⟨#[111, 119, 110]⟩, 1)]) .nil))) .nil)
def d_b_law_told : FD := ⟨1, 2, [], b_law_told⟩
/-- 19: _law_strewn(tin, rows_so, found, own) -/
def b_law_strewn_1 : ISs := (.cons (.asg (.nm 2) (.bin .add (.bin .add (.var 2) (.call 15 (.cons (.var 0) (.cons (.lst (.cons (.c (.str ⟨#[]⟩)) (.cons (.c (.str ⟨#[10]⟩)) (.cons (.c (.str ⟨#[35, 32, 97, 32, 98, 10]⟩)) .nil)))) .nil)) [] .nil)) (.call 15 (.cons (.var 0) (.cons (.lst (.cons (.c (.str ⟨#[]⟩)) (.cons (.c (.str ⟨#[32, 32]⟩)) .nil))) .nil)) [] .nil))) (.cons (.asg (.nm 2) (.bin .add (.bin .add (.var 2) (.met .join (.call 15 (.cons (.var 0) (.cons (.lst (.cons (.c (.str ⟨#[32]⟩)) (.cons (.c (.str ⟨#[32, 32]⟩)) .nil))) .nil)) [] .nil) (.cons (.var 3) .nil))) (.call 15 (.cons (.var 0) (.cons (.lst (.cons (.c (.str ⟨#[10]⟩)) (.cons (.c (.str ⟨#[32, 10]⟩)) (.cons (.c (.str ⟨#[32, 35, 32, 55, 32, 55, 10]⟩)) .nil)))) .nil)) [] .nil))) .nil))
def b_law_strewn : ISs := (.cons (.asg (.nm 2) (.c (.str ⟨#[]⟩))) (.cons (.fors (.nm 3) (.val (.var 1)) b_law_strewn_1) (.cons (.ret (.var 2)) .nil)))
def d_b_law_strewn : FD := ⟨2, 4, [], b_law_strewn⟩
/-- 20: law(script, tin, lap, labels_so, rows_so, k, told_so, strewn_so, own, pieces_so, its, j, i) -/
def b_law_1 : IE := (.call 15 (.cons (.var 1) (.cons (.lst (.cons (.c (.str ⟨#[97]⟩)) (.cons (.c (.str ⟨#[55]⟩)) (.cons (.c (.str ⟨#[45]⟩)) (.cons (.c (.str ⟨#[47]⟩)) (.cons (.c (.str ⟨#[40]⟩)) (.cons (.c (.str ⟨#[126]⟩)) (.cons (.c (.str ⟨#[90]⟩)) .nil)))))))) .nil)) [] .nil)
def b_law_2 : IE := (.met .join (.c (.str ⟨#[]⟩)) (.cons (.lc (.nm 12) (.rng (.cons (.bin .add (.c (.int 1)) (.call 13 (.cons (.var 1) (.cons (.c (.int 3)) .nil)) [] .nil)) .nil)) .none b_law_1 [(⟨#[105]⟩, 12)]) .nil))
def b_law_3 : ISs := (.cons (.ex (.met .append (.var 4) (.cons (.bi .tuple (.cons (.lc (.nm 11) (.rng (.cons (.bin .add (.c (.int 1)) (.call 13 (.cons (.var 1) (.cons (.c (.int 3)) .nil)) [] .nil)) .nil)) .none b_law_2 [(⟨#[106]⟩, 11)]) .nil)) .nil))) .nil)
def b_law_4 : IE := (.idx (.var 10) (.c (.int 1)))
def b_law_5 : IE := (.tup (.cons (.var 5) (.cons (.var 8) .nil)))
def b_law_6 : IE := (.call 9 (.cons (.var 10) .nil) [] .nil)
def b_law_7 : ISs := (.cons (.asg (.nm 4) (.nr (.lst .nil))) (.cons (.fors (.nm 5) (.rng (.cons (.call 13 (.cons (.var 1) (.cons (.c (.int 6)) .nil)) [] .nil) .nil)) b_law_3) (.cons (.fz 4) (.cons (.asg (.nm 6) (.call 18 (.cons (.var 4) .nil) [] .nil)) (.cons (.asg (.nm 7) (.lc (.nm 10) (.val (.call 7 (.cons (.call 19 (.cons (.var 1) (.cons (.var 4) .nil)) [] .nil) .nil) [] .nil)) .none b_law_4 [(⟨#[105, 116, 115]⟩, 10)])) (.cons (.ifs (.nt (.call 16 (.cons (.lst (.cons (.call 8 (.cons (.call 17 (.cons (.var 1) (.cons (.var 4) .nil)) [] .nil) .nil) [] .nil) (.cons (.call 7 .nil [(⟨#[116, 101, 120, 116]⟩, 0)] (.cons (.var 6) .nil)) (.cons (.var 7) .nil)))) (.cons (.lst (.cons (.var 6) (.cons (.bi .tuple (.cons (.lc (.tp (.cons (.nm 5) (.cons (.nm 8) .nil))) (.enm (.var 4)) .none b_law_5 [(⟨#[107]⟩, 5), (⟨#[111, 119, 110]⟩, 8)]) .nil)) (.cons (.var 4) .nil)))) .nil)) [] .nil)) (.cons (.ret (.c (.bl false))) .nil) .nil) (.cons (.asg (.nm 8) (.bin .mul (.call 13 (.cons (.var 1) (.cons (.bi .int (.cons (.bin .add (.c (.str ⟨#[49]⟩)) (.bin .mul (.c (.str ⟨#[48]⟩)) (.call 13 (.cons (.var 1) (.cons (.c (.int 60)) .nil)) [] .nil))) .nil)) .nil)) [] .nil) (.call 15 (.cons (.var 1) (.cons (.lst (.cons (.c (.int 1)) (.cons (.neg (.c (.int 1))) .nil))) .nil)) [] .nil))) (.cons (.asg (.nm 9) (.lst (.cons (.bi .str (.cons (.var 8) .nil)) (.cons (.c (.str ⟨#[48]⟩)) (.cons (.c (.str ⟨#[45, 48]⟩)) (.cons (.c (.str ⟨#[48, 48]⟩)) (.cons (.c (.str ⟨#[48, 48, 55]⟩)) (.cons (.c (.str ⟨#[43, 49]⟩)) (.cons (.c (.str ⟨#[49, 46, 48]⟩)) (.cons (.c (.str ⟨#[]⟩)) (.cons (.c (.str ⟨#[120]⟩)) (.cons (.c (.str ⟨#[49, 47, 50]⟩)) .nil)))))))))))) (.cons (.ifs (.nt (.call 16 (.cons (.lst (.cons (.call 10 (.cons (.var 8) .nil) [] .nil) (.cons (.lc (.nm 10) (.val (.var 9)) .none b_law_6 [(⟨#[105, 116, 115]⟩, 10)]) .nil))) (.cons (.lst (.cons (.bi .str (.cons (.var 8) .nil)) (.cons (.bin .add (.lst (.cons (.var 8) (.cons (.c (.int 0)) .nil))) (.bin .mul (.lst (.cons (.c .non) .nil)) (.c (.int 8)))) .nil))) .nil)) [] .nil)) (.cons (.ret (.c (.bl false))) .nil) .nil) .nil)))))))))
def b_law_8 : IE := (.call 11 (.cons (.var 10) .nil) [] .nil)
def b_law : ISs := (.cons (.asg (.nm 1) (.nr (.call 12 (.cons (.call 14 (.cons (.var 0) (.cons (.c (.int 1)) .nil)) [] .nil) (.cons (.c (.int 0)) .nil)) [] .nil))) (.cons (.fors (.nm 2) (.rng (.cons (.c (.int 6)) .nil)) b_law_7) (.cons (.asg (.nm 3) (.lc (.nm 10) (.val (.tup (.cons (.c (.str ⟨#[97, 49]⟩)) (.cons (.c (.str ⟨#[49, 97]⟩)) (.cons (.c (.str ⟨#[]⟩)) (.cons (.c (.str ⟨#[65]⟩)) (.cons (.c (.str ⟨#[97, 95]⟩)) (.cons (.c (.str ⟨#[97, 98, 99, 100, 101, 102, 103, 104, 105, 106, 107, 108]⟩)) (.cons (.c (.str ⟨#[97, 98, 99, 100, 101, 102, 103, 104, 105, 106, 107, 108, 109]⟩)) (.cons (.c .non) (.cons (.c (.int 7)) (.cons (.c (.str ⟨#[122]⟩)) .nil)))))))))))) .none b_law_8 [(⟨#[105, 116, 115]⟩, 10)])) (.cons (.ifs (.nt (.call 16 (.cons (.var 3) (.cons (.lst (.cons (.c (.bl true)) (.cons (.c (.bl false)) (.cons (.c (.bl false)) (.cons (.c (.bl false)) (.cons (.c (.bl false)) (.cons (.c (.bl true)) (.cons (.c (.bl false)) (.cons (.c (.bl false)) (.cons (.c (.bl false)) (.cons (.c (.bl true)) .nil))))))))))) .nil)) [] .nil)) (.cons (.ret (.c (.bl false))) .nil) .nil) (.cons (.ret (.call 16 (.cons (.lst (.cons (.call 7 (.cons (.c (.str ⟨#[32, 97, 32, 32, 98, 32, 35, 32, 99, 10, 10, 35]⟩)) .nil) [] .nil) (.cons (.call 8 (.cons (.tup .nil) .nil) [] .nil) (.cons (.call 7 (.cons (.c (.str ⟨#[]⟩)) .nil) [] .nil) .nil)))) (.cons (.lst (.cons (.tup (.cons (.tup (.cons (.c (.int 0)) (.cons (.tup (.cons (.c (.str ⟨#[97]⟩)) (.cons (.c (.str ⟨#[98]⟩)) .nil))) .nil))) .nil)) (.cons (.c (.str ⟨#[]⟩)) (.cons (.tup .nil) .nil)))) .nil)) [] .nil)) .nil)))))
def d_b_law : FD := ⟨1, 13, [], b_law⟩
def prog : Prog := [d_b_is_number,
  d_b_tupled,
  d_b_is_label_in,
  d_b_number_in,
  d_b_is_piece,
  d_b_rows_in,
  d_b_told_rows,
  d_b_rows_of,
  d_b_text_of,
  d_b_number_of,
  d_b_piece_of,
  d_b_is_label,
  d_b_law_box,
  d_b_law_take,
  d_b_law_cells,
  d_b_law_of,
  d_b_law_same,
  d_b_law_mixed,
  d_b_law_told,
  d_b_law_strewn,
  d_b_law]
end VM

namespace VM
open PySem
/-! ### what is drawn -/
/-- the law's box after at most t draws -/
def Tin (t : Nat) (xs : List U) : Prop := ∃ a b c : Int, xs = [.int a, .int b, .int c] ∧ 0 ≤ c ∧ c ≤ t
theorem small_of {i : Int} (h0 : -18446744073709551616 < i) (h : i < 18446744073709551616) : small64 i = true := by
  unfold small64
  simp [h0, h]
theorem mulOk_r {i j : Int} (h0 : -18446744073709551616 < j) (h : j < 18446744073709551616) : mulOk i j = true := by
  unfold mulOk
  rw [small_of h0 h]
  simp
theorem mulOk_l {i j : Int} (h0 : -18446744073709551616 < i) (h : i < 18446744073709551616) : mulOk i j = true := by
  unfold mulOk
  rw [small_of h0 h]
  simp
theorem log_small {m : Nat} (h : m < 2 ^ 250) : m.log2 < 8000 := by
  by_cases h0 : m = 0
  · subst h0; decide
  · exact Nat.lt_trans ((Nat.log2_lt h0).mpr h) (by decide)
theorem take_ok (n t : Nat) (xs : List U) (m : Int) (hT : Tin t xs) (ht : t < 1000000000) (hm : 0 < m) (hm2 : m.natAbs < 2 ^ 250) :
    ∃ r xs', (cc prog (n + 1)).call 13 [.r 0, .v (.int m)] [.lst xs] = .ok (.v (.int r)) [.lst xs'] ∧ 0 ≤ r ∧ r < m ∧ Tin (t + 1) xs' := by
  obtain ⟨a, b, c, rfl, h0, h1⟩ := hT
  have x0 : ∀ i j k : Int, idxS [.lst [.int i, .int j, .int k]] (.r 0) (.v (.int 0)) = some (.v (.int i)) := fun i j k => X_r _ rfl rfl rfl
  have x1 : ∀ i j k : Int, idxS [.lst [.int i, .int j, .int k]] (.r 0) (.v (.int 1)) = some (.v (.int j)) := fun i j k => X_r _ rfl rfl rfl
  have x2 : ∀ i j k : Int, idxS [.lst [.int i, .int j, .int k]] (.r 0) (.v (.int 2)) = some (.v (.int k)) := fun i j k => X_r _ rfl rfl rfl
  have g0 : ∀ i j k u : Int, gSubS [.lst [.int i, .int j, .int k]] (.r 0) (.v (.int 0)) (.int u) = some [.lst [.int u, .int j, .int k]] := fun i j k u => rfl
  have g2 : ∀ i j k u : Int, gSubS [.lst [.int i, .int j, .int k]] (.r 0) (.v (.int 2)) (.int u) = some [.lst [.int i, .int j, .int u]] := fun i j k u => rfl
  by_cases ha : 0 < a
  · refine ⟨a % m, [.int (a / m), .int b, .int c], ?_, Int.emod_nonneg _ (by omega), Int.emod_lt_of_pos _ hm, a / m, b, c, rfl, h0, by omega⟩
    rw [call_eq (d := d_b_law_take) rfl, runF_eq _ _ _ _ _ rfl]
    simp only [d_b_law_take, b_law_take, Nat.reduceSub]
    simp only [e_s, e_t, e_var, e_c, e_gl, e_fn, e_bin, e_cmp, e_ch, e_nt, e_and, e_or, e_ife, e_tup, e_lst, e_neg, e_idx, e_slc, e_on, e_os, e_rev, e_nr, e_nil, e_cons, e_call, e_bi, e_isi, e_met, e_lc, r_v, r_r, i_v, i_r, i_l, t_ok, b1_ok, b2_ok, c1_ok, c2_ok, oB_ok, h1_ok, h2_ok, h3_t, h3_f, h4_ok, n1_ok, a1_ok, a2_t, a2_f, o1_ok, o2_t, o2_f, tr_v, tr_l, tr_r, ts_v, f1_t, f1_f, p1_ok, l1_ok, au_n, au_c, om_s, g1_ok, x1_ok, x2_ok, s1_ok, s2_ok, s3_ok, q1_ok, v1_ok, w1_n, w1_r, k1_ok, k2_ok, d1_ok, d2_ok, d3_ok, y1_ok, z1_ok, z2_ok, m1_ok, mG_ok, m2_ok, lc1_ok, lc2_ok, ofO_s, ofP_s, s_cons, s_nil, s_asg, s_ifs, s_for, s_ret, s_ex, g_nm, g_sub, S1_ok, nE_ok, N1_ok, R_ok, I1_t, I1_f, F1_ok, T1_ok, E1_ok, B0_ok, B1_ok, B2_ok, B3_ok, A_nx, A_rt, V_v, V_r, V_l, W_v, W_l, i_val, i_rng, i_enm, i_zip, iv_s, iv_l, iv_t, iv_f, ir_1, ir_2, ie_l, iz_1, iz_l, iz_t, t1_nm, t1_tp, ts_nil, ts_cons, k_none, k_some, B_add, B_sub, C_lt, C_le, C_gt, C_ge, C_eq, C_ne, C_eqs, C_nes, L_int, L_intb, L_abs, L_lenl, L_lent, L_lenf, L_tup, truU, List.getElem?_cons_succ, List.getElem?_cons_zero, List.set_cons_succ, List.set_cons_zero, List.map_cons, List.map_nil, List.cons_append, List.nil_append, List.replicate_succ, List.replicate_zero, x0, g0, decide_eq_true ha, B_mod _ _ _ hm, B_fdiv _ _ _ ⟨hm, log_small hm2⟩]
    rfl
  · have key : ∃ z : Int, (cc prog (n + 1)).call 13 [.r 0, .v (.int m)] [.lst [.int a, .int b, .int c]] = .ok (.v (.int (z % m))) [.lst [.int a, .int b, .int (c + 1)]] := by
      rw [call_eq (d := d_b_law_take) rfl, runF_eq _ _ _ _ _ rfl]
      simp only [d_b_law_take, b_law_take, Nat.reduceSub]
      have w1 : ∀ (h : Hs) (i z : Int), binS .mul h (.v (.int i)) (.v (.int (z % 40009 + 7))) = some (.v (.int (i * (z % 40009 + 7)))) := fun h i z => B_mul _ _ _ (mulOk_r (by omega) (by omega))
      simp only [e_s, e_t, e_var, e_c, e_gl, e_fn, e_bin, e_cmp, e_ch, e_nt, e_and, e_or, e_ife, e_tup, e_lst, e_neg, e_idx, e_slc, e_on, e_os, e_rev, e_nr, e_nil, e_cons, e_call, e_bi, e_isi, e_met, e_lc, r_v, r_r, i_v, i_r, i_l, t_ok, b1_ok, b2_ok, c1_ok, c2_ok, oB_ok, h1_ok, h2_ok, h3_t, h3_f, h4_ok, n1_ok, a1_ok, a2_t, a2_f, o1_ok, o2_t, o2_f, tr_v, tr_l, tr_r, ts_v, f1_t, f1_f, p1_ok, l1_ok, au_n, au_c, om_s, g1_ok, x1_ok, x2_ok, s1_ok, s2_ok, s3_ok, q1_ok, v1_ok, w1_n, w1_r, k1_ok, k2_ok, d1_ok, d2_ok, d3_ok, y1_ok, z1_ok, z2_ok, m1_ok, mG_ok, m2_ok, lc1_ok, lc2_ok, ofO_s, ofP_s, s_cons, s_nil, s_asg, s_ifs, s_for, s_ret, s_ex, g_nm, g_sub, S1_ok, nE_ok, N1_ok, R_ok, I1_t, I1_f, F1_ok, T1_ok, E1_ok, B0_ok, B1_ok, B2_ok, B3_ok, A_nx, A_rt, V_v, V_r, V_l, W_v, W_l, i_val, i_rng, i_enm, i_zip, iv_s, iv_l, iv_t, iv_f, ir_1, ir_2, ie_l, iz_1, iz_l, iz_t, t1_nm, t1_tp, ts_nil, ts_cons, k_none, k_some, B_add, B_sub, C_lt, C_le, C_gt, C_ge, C_eq, C_ne, C_eqs, C_nes, L_int, L_intb, L_abs, L_lenl, L_lent, L_lenf, L_tup, truU, List.getElem?_cons_succ, List.getElem?_cons_zero, List.set_cons_succ, List.set_cons_zero, List.map_cons, List.map_nil, List.cons_append, List.nil_append, List.replicate_succ, List.replicate_zero, x0, x1, x2, g2, decide_eq_false ha, B_mod _ _ _ hm, B_mod _ _ 2147483647 (by decide), B_mod _ _ 40009 (by decide), B_mod _ _ 2147483629 (by decide), B_mod _ _ 2147483587 (by decide), B_fdiv _ _ 1000003 (by decide), B_fdiv _ _ 64 (by decide),
        B_mul _ 48271 _ (mulOk_l (by decide) (by decide)), B_mul _ _ (39373 + (c + 1)) (mulOk_r (by omega) (by omega)), B_mul _ _ 48271 (mulOk_r (by decide) (by decide)), w1]
      exact ⟨_, rfl⟩
    obtain ⟨z, e⟩ := key
    exact ⟨z % m, _, e, Int.emod_nonneg _ (by omega), Int.emod_lt_of_pos _ hm, a, b, c + 1, rfl, by omega, by omega⟩
theorem ar2 (f n : Nat) (a b : S) (e : prog[f]?.map FD.np = some 2) (e2 : prog[f]?.map FD.df = some []) : argsOf (cc prog n) f [a, b] [] [] = some [a, b] := by
  unfold argsOf
  have h1 : (cc prog n).np f = 2 := by have : (cc prog n).np f = (prog[f]?.map FD.np).getD 0 := by cases n <;> rfl
                                       rw [this, e]; rfl
  have h2 : (cc prog n).df f = [] := by have : (cc prog n).df f = (prog[f]?.map FD.df).getD [] := by cases n <;> rfl
                                        rw [this, e2]; rfl
  rw [h1, h2]
  rfl
theorem ar1 (f n : Nat) (a : S) (e : prog[f]?.map FD.np = some 1) (e2 : prog[f]?.map FD.df = some []) : argsOf (cc prog n) f [a] [] [] = some [a] := by
  unfold argsOf
  have h1 : (cc prog n).np f = 1 := by have : (cc prog n).np f = (prog[f]?.map FD.np).getD 0 := by cases n <;> rfl
                                       rw [this, e]; rfl
  have h2 : (cc prog n).df f = [] := by have : (cc prog n).df f = (prog[f]?.map FD.df).getD [] := by cases n <;> rfl
                                        rw [this, e2]; rfl
  rw [h1, h2]
  rfl
theorem take_hp (n t : Nat) {h : Hs} {i : Nat} {xs : List U} {m : Int} (hi : h[i]? = some (.lst xs)) (hT : Tin t xs) (ht : t < 1000000000) (hm : 0 < m) (hm2 : m.natAbs < 2 ^ 250) :
    ∃ r xs', doCall (cc prog (n + 1)) 13 [.r i, .v (.int m)] h = .ok (.v (.int r)) (h.set i (.lst xs')) ∧ 0 ≤ r ∧ r < m ∧ Tin (t + 1) xs' := by
  obtain ⟨r, xs', e, h1, h2, h3⟩ := take_ok n t xs m hT ht hm hm2
  exact ⟨r, xs', doCall_t (us := [.int m]) (r := .v (.int r)) hi e, h1, h2, h3⟩
theorem of_ok (n t : Nat) (xs us : List U) (hT : Tin t xs) (ht : t < 1000000000) (h0 : us ≠ []) (h1 : us.length < 1000) :
    ∃ u xs', (cc prog (n + 2)).call 15 [.r 0, .v (.lst us)] [.lst xs] = .ok (.v u) [.lst xs'] ∧ u ∈ us ∧ Tin (t + 1) xs' := by
  have hl : 0 < us.length := List.length_pos_iff.mpr h0
  obtain ⟨r, xs', e, q1, q2, q3⟩ := take_hp n t (h := [.lst xs]) (i := 0) (m := (us.length : Int)) rfl hT ht (by omega) (by rw [Int.natAbs_natCast]; exact Nat.lt_trans h1 (by decide))
  have hr : r.toNat < us.length := by omega
  refine ⟨us[r.toNat], xs', ?_, List.getElem_mem hr, q3⟩
  have ix : ixU us.length r = some r.toNat := by unfold ixU; rw [if_pos q1, if_pos q2]
  have hg : us[r.toNat]? = some us[r.toNat] := List.getElem?_eq_getElem hr
  rw [call_eq (d := d_b_law_of) rfl, runF_eq _ _ _ _ _ rfl]
  simp only [d_b_law_of, b_law_of, Nat.reduceSub]
  simp only [e_s, e_t, e_var, e_c, e_gl, e_fn, e_bin, e_cmp, e_ch, e_nt, e_and, e_or, e_ife, e_tup, e_lst, e_neg, e_idx, e_slc, e_on, e_os, e_rev, e_nr, e_nil, e_cons, e_call, e_bi, e_isi, e_met, e_lc, r_v, r_r, i_v, i_r, i_l, t_ok, b1_ok, b2_ok, c1_ok, c2_ok, oB_ok, h1_ok, h2_ok, h3_t, h3_f, h4_ok, n1_ok, a1_ok, a2_t, a2_f, o1_ok, o2_t, o2_f, tr_v, tr_l, tr_r, ts_v, f1_t, f1_f, p1_ok, l1_ok, au_n, au_c, om_s, g1_ok, x1_ok, x2_ok, s1_ok, s2_ok, s3_ok, q1_ok, v1_ok, w1_n, w1_r, k1_ok, k2_ok, d1_ok, d2_ok, d3_ok, y1_ok, z1_ok, z2_ok, m1_ok, mG_ok, m2_ok, lc1_ok, lc2_ok, ofO_s, ofP_s, s_cons, s_nil, s_asg, s_ifs, s_for, s_ret, s_ex, g_nm, g_sub, S1_ok, nE_ok, N1_ok, R_ok, I1_t, I1_f, F1_ok, T1_ok, E1_ok, B0_ok, B1_ok, B2_ok, B3_ok, A_nx, A_rt, V_v, V_r, V_l, W_v, W_l, i_val, i_rng, i_enm, i_zip, iv_s, iv_l, iv_t, iv_f, ir_1, ir_2, ie_l, iz_1, iz_l, iz_t, t1_nm, t1_tp, ts_nil, ts_cons, k_none, k_some, B_add, B_sub, C_lt, C_le, C_gt, C_ge, C_eq, C_ne, C_eqs, C_nes, L_int, L_intb, L_abs, L_lenl, L_lent, L_lenf, L_tup, truU, List.getElem?_cons_succ, List.getElem?_cons_zero, List.set_cons_succ, List.set_cons_zero, List.map_cons, List.map_nil, List.cons_append, List.nil_append, List.replicate_succ, List.replicate_zero, ar2 13 _ _ _ rfl rfl, e, X_l _ ix hg]
  rfl
theorem of_at (n t : Nat) {h : Hs} {i : Nat} {xs us : List U} (hi : h[i]? = some (.lst xs)) (hT : Tin t xs) (ht : t < 1000000000) (h0 : us ≠ []) (h1 : us.length < 1000) :
    ∃ u xs', doCall (cc prog (n + 2)) 15 [.r i, .v (.lst us)] h = .ok (.v u) (h.set i (.lst xs')) ∧ u ∈ us ∧ Tin (t + 1) xs' := by
  obtain ⟨u, xs', e, q1, q2⟩ := of_ok n t xs us hT ht h0 h1
  exact ⟨u, xs', doCall_t (us := [.lst us]) (r := .v u) hi e, q1, q2⟩
theorem enm_at (h : Hs) (us : List U) (i : Nat) : srcAt h (.enm (.v (.lst us))) i = (us[i]?).map fun u => .tup [.int i, u] := rfl
theorem enm_end (h : Hs) (us : List U) : srcEnd h (.enm (.v (.lst us))) us.length = true := Nat.ble_eq_true_of_le (Nat.le_refl _)
theorem slc_f (h : Hs) (xs : List U) (lo hi : Option Int) : slcS h (.v (.frz xs)) lo hi = some (.nw (.lst (cut xs lo hi))) := rfl
theorem L_list (h : Hs) (xs : List U) : bltS .list h [.v (.lst xs)] = some (.nw (.lst xs)) := rfl
theorem cells_loop (n : Nat) (sc : S) (z0 : Int) (js : List Int) (hj : js.length ≤ 63) : ∃ z ρ', forL (.enm (.v (.lst (js.map U.int)))) (evT1 (cc prog n) (.tp (.cons (.nm 3) (.cons (.nm 4) .nil)))) (evSs (cc prog n) 1000000 b_law_cells_1) js.length 0 [some sc, some (.v (.int 1)), some (.r 0), none, none, none] [.lst [.int z0]] = .nx (some sc :: some (.v (.int 1)) :: some (.r 0) :: ρ') [.lst [.int z]] := by
  obtain ⟨ρ', h', e, z, k, b, a, rfl, rfl⟩ := for_ex (src := .enm (.v (.lst (js.map U.int)))) (g := evT1 (cc prog n) (.tp (.cons (.nm 3) (.cons (.nm 4) .nil)))) (b := evSs (cc prog n) 1000000 b_law_cells_1) (N := js.length)
    (Inv := fun i ρ h => ∃ (z : Int) (k b a : Option S), ρ = [some sc, some (.v (.int 1)), some (.r 0), k, b, a] ∧ h = [.lst [.int z]])
    (fun ρ h _ => by have := enm_end h (js.map U.int); rw [List.length_map] at this; exact this)
    (fun i ρ h hi ⟨z, k, b, a, e1, e2⟩ => by
      subst e1 e2
      have hx : (js.map U.int)[i]? = some (.int js[i]) := by rw [List.getElem?_map, List.getElem?_eq_getElem hi]; rfl
      refine ⟨_, [some sc, some (.v (.int 1)), some (.r 0), some (.v (.int i)), some (.v (.int js[i])), a], by rw [enm_at, hx]; rfl, by simp only [e_s, e_t, e_var, e_c, e_gl, e_fn, e_bin, e_cmp, e_ch, e_nt, e_and, e_or, e_ife, e_tup, e_lst, e_neg, e_idx, e_slc, e_on, e_os, e_rev, e_nr, e_nil, e_cons, e_call, e_bi, e_isi, e_met, e_lc, r_v, r_r, i_v, i_r, i_l, t_ok, b1_ok, b2_ok, c1_ok, c2_ok, oB_ok, h1_ok, h2_ok, h3_t, h3_f, h4_ok, n1_ok, a1_ok, a2_t, a2_f, o1_ok, o2_t, o2_f, tr_v, tr_l, tr_r, ts_v, f1_t, f1_f, p1_ok, l1_ok, au_n, au_c, om_s, g1_ok, x1_ok, x2_ok, s1_ok, s2_ok, s3_ok, q1_ok, v1_ok, w1_n, w1_r, k1_ok, k2_ok, d1_ok, d2_ok, d3_ok, y1_ok, z1_ok, z2_ok, m1_ok, mG_ok, m2_ok, lc1_ok, lc2_ok, ofO_s, ofP_s, s_cons, s_nil, s_asg, s_ifs, s_for, s_ret, s_ex, g_nm, g_sub, S1_ok, nE_ok, N1_ok, R_ok, I1_t, I1_f, F1_ok, T1_ok, E1_ok, B0_ok, B1_ok, B2_ok, B3_ok, A_nx, A_rt, V_v, V_r, V_l, W_v, W_l, i_val, i_rng, i_enm, i_zip, iv_s, iv_l, iv_t, iv_f, ir_1, ir_2, ie_l, iz_1, iz_l, iz_t, t1_nm, t1_tp, ts_nil, ts_cons, k_none, k_some, B_add, B_sub, C_lt, C_le, C_gt, C_ge, C_eq, C_ne, C_eqs, C_nes, L_int, L_intb, L_abs, L_lenl, L_lent, L_lenf, L_tup, truU, List.getElem?_cons_succ, List.getElem?_cons_zero, List.set_cons_succ, List.set_cons_zero, List.map_cons, List.map_nil, List.cons_append, List.nil_append, List.replicate_succ, List.replicate_zero], ?_⟩
      have x0 : ∀ i : Int, idxS [.lst [.int i]] (.r 0) (.v (.int 0)) = some (.v (.int i)) := fun i => X_r _ rfl rfl rfl
      have g0 : ∀ i u : Int, gSubS [.lst [.int i]] (.r 0) (.v (.int 0)) (.int u) = some [.lst [.int u]] := fun i u => rfl
      have m1 : ∀ h, binS .mod h (.v (.int (i : Int))) (.v (.int 1)) = some (.v (.int 0)) := fun h => by rw [B_mod _ _ _ (by decide), Int.emod_one]
      simp only [b_law_cells_1]
      simp only [e_s, e_t, e_var, e_c, e_gl, e_fn, e_bin, e_cmp, e_ch, e_nt, e_and, e_or, e_ife, e_tup, e_lst, e_neg, e_idx, e_slc, e_on, e_os, e_rev, e_nr, e_nil, e_cons, e_call, e_bi, e_isi, e_met, e_lc, r_v, r_r, i_v, i_r, i_l, t_ok, b1_ok, b2_ok, c1_ok, c2_ok, oB_ok, h1_ok, h2_ok, h3_t, h3_f, h4_ok, n1_ok, a1_ok, a2_t, a2_f, o1_ok, o2_t, o2_f, tr_v, tr_l, tr_r, ts_v, f1_t, f1_f, p1_ok, l1_ok, au_n, au_c, om_s, g1_ok, x1_ok, x2_ok, s1_ok, s2_ok, s3_ok, q1_ok, v1_ok, w1_n, w1_r, k1_ok, k2_ok, d1_ok, d2_ok, d3_ok, y1_ok, z1_ok, z2_ok, m1_ok, mG_ok, m2_ok, lc1_ok, lc2_ok, ofO_s, ofP_s, s_cons, s_nil, s_asg, s_ifs, s_for, s_ret, s_ex, g_nm, g_sub, S1_ok, nE_ok, N1_ok, R_ok, I1_t, I1_f, F1_ok, T1_ok, E1_ok, B0_ok, B1_ok, B2_ok, B3_ok, A_nx, A_rt, V_v, V_r, V_l, W_v, W_l, i_val, i_rng, i_enm, i_zip, iv_s, iv_l, iv_t, iv_f, ir_1, ir_2, ie_l, iz_1, iz_l, iz_t, t1_nm, t1_tp, ts_nil, ts_cons, k_none, k_some, B_add, B_sub, C_lt, C_le, C_gt, C_ge, C_eq, C_ne, C_eqs, C_nes, L_int, L_intb, L_abs, L_lenl, L_lent, L_lenf, L_tup, truU, List.getElem?_cons_succ, List.getElem?_cons_zero, List.set_cons_succ, List.set_cons_zero, List.map_cons, List.map_nil, List.cons_append, List.nil_append, List.replicate_succ, List.replicate_zero, m1, x0, g0, B_mul _ _ ((i : Int) + 2) (mulOk_r (by omega) (by omega))]
      exact ⟨_, _, rfl, _, _, _, _, rfl, rfl⟩) js.length 0 _ _ (by omega) ⟨z0, none, none, none, rfl, rfl⟩
  exact ⟨z, _, e⟩
theorem cut_tail (ns : List Int) : ∃ js : List Int, cut (ns.map U.int) (some 1) (some 63) = js.map U.int ∧ js.length ≤ 63 := by
  refine ⟨cut ns (some 1) (some 63), by unfold cut sIx; simp [List.map_take, List.map_drop], ?_⟩
  unfold cut sIx
  simp
  omega
theorem cells_ok (n : Nat) (ns : List Int) : ∃ z : Int, (cc prog (n + 1)).call 14 [.v (.frz (ns.map .int)), .v (.int 1)] [] = .ok (.nw (.lst [.int z])) [] := by
  obtain ⟨js, e1, e2⟩ := cut_tail ns
  rw [call_eq (d := d_b_law_cells) rfl, runF_eq _ _ _ _ _ rfl]
  simp only [d_b_law_cells, b_law_cells, Nat.reduceSub]
  cases ns with
  | nil =>
    have c1 : cut ([] : List U) none (some 1) = [] := rfl
    rw [List.map_nil] at e1
    obtain ⟨z, ρ', e3⟩ := cells_loop n (.v (.frz [])) 0 js e2
    simp only [e_s, e_t, e_var, e_c, e_gl, e_fn, e_bin, e_cmp, e_ch, e_nt, e_and, e_or, e_ife, e_tup, e_lst, e_neg, e_idx, e_slc, e_on, e_os, e_rev, e_nr, e_nil, e_cons, e_call, e_bi, e_isi, e_met, e_lc, r_v, r_r, i_v, i_r, i_l, t_ok, b1_ok, b2_ok, c1_ok, c2_ok, oB_ok, h1_ok, h2_ok, h3_t, h3_f, h4_ok, n1_ok, a1_ok, a2_t, a2_f, o1_ok, o2_t, o2_f, tr_v, tr_l, tr_r, ts_v, f1_t, f1_f, p1_ok, l1_ok, au_n, au_c, om_s, g1_ok, x1_ok, x2_ok, s1_ok, s2_ok, s3_ok, q1_ok, v1_ok, w1_n, w1_r, k1_ok, k2_ok, d1_ok, d2_ok, d3_ok, y1_ok, z1_ok, z2_ok, m1_ok, mG_ok, m2_ok, lc1_ok, lc2_ok, ofO_s, ofP_s, s_cons, s_nil, s_asg, s_ifs, s_for, s_ret, s_ex, g_nm, g_sub, S1_ok, nE_ok, N1_ok, R_ok, I1_t, I1_f, F1_ok, T1_ok, E1_ok, B0_ok, B1_ok, B2_ok, B3_ok, A_nx, A_rt, V_v, V_r, V_l, W_v, W_l, i_val, i_rng, i_enm, i_zip, iv_s, iv_l, iv_t, iv_f, ir_1, ir_2, ie_l, iz_1, iz_l, iz_t, t1_nm, t1_tp, ts_nil, ts_cons, k_none, k_some, B_add, B_sub, C_lt, C_le, C_gt, C_ge, C_eq, C_ne, C_eqs, C_nes, L_int, L_intb, L_abs, L_lenl, L_lent, L_lenf, L_tup, truU, List.getElem?_cons_succ, List.getElem?_cons_zero, List.set_cons_succ, List.set_cons_zero, List.map_cons, List.map_nil, List.cons_append, List.nil_append, List.replicate_succ, List.replicate_zero, slc_f, L_list, c1, List.isEmpty_nil, Bool.not_true, l2_ok _ [.int 0] (by decide), List.length_nil, e1, List.length_map, e3]
    exact ⟨z, rfl⟩
  | cons i ns =>
    have c1 : cut (.int i :: ns.map U.int) none (some 1) = [.int i] := by unfold cut sIx; simp
    rw [List.map_cons] at e1
    obtain ⟨z, ρ', e3⟩ := cells_loop n (.v (.frz (.int i :: ns.map U.int))) i js e2
    simp only [e_s, e_t, e_var, e_c, e_gl, e_fn, e_bin, e_cmp, e_ch, e_nt, e_and, e_or, e_ife, e_tup, e_lst, e_neg, e_idx, e_slc, e_on, e_os, e_rev, e_nr, e_nil, e_cons, e_call, e_bi, e_isi, e_met, e_lc, r_v, r_r, i_v, i_r, i_l, t_ok, b1_ok, b2_ok, c1_ok, c2_ok, oB_ok, h1_ok, h2_ok, h3_t, h3_f, h4_ok, n1_ok, a1_ok, a2_t, a2_f, o1_ok, o2_t, o2_f, tr_v, tr_l, tr_r, ts_v, f1_t, f1_f, p1_ok, l1_ok, au_n, au_c, om_s, g1_ok, x1_ok, x2_ok, s1_ok, s2_ok, s3_ok, q1_ok, v1_ok, w1_n, w1_r, k1_ok, k2_ok, d1_ok, d2_ok, d3_ok, y1_ok, z1_ok, z2_ok, m1_ok, mG_ok, m2_ok, lc1_ok, lc2_ok, ofO_s, ofP_s, s_cons, s_nil, s_asg, s_ifs, s_for, s_ret, s_ex, g_nm, g_sub, S1_ok, nE_ok, N1_ok, R_ok, I1_t, I1_f, F1_ok, T1_ok, E1_ok, B0_ok, B1_ok, B2_ok, B3_ok, A_nx, A_rt, V_v, V_r, V_l, W_v, W_l, i_val, i_rng, i_enm, i_zip, iv_s, iv_l, iv_t, iv_f, ir_1, ir_2, ie_l, iz_1, iz_l, iz_t, t1_nm, t1_tp, ts_nil, ts_cons, k_none, k_some, B_add, B_sub, C_lt, C_le, C_gt, C_ge, C_eq, C_ne, C_eqs, C_nes, L_int, L_intb, L_abs, L_lenl, L_lent, L_lenf, L_tup, truU, List.getElem?_cons_succ, List.getElem?_cons_zero, List.set_cons_succ, List.set_cons_zero, List.map_cons, List.map_nil, List.cons_append, List.nil_append, List.replicate_succ, List.replicate_zero, slc_f, L_list, c1, List.isEmpty_cons, Bool.not_false, List.length_nil, e1, List.length_map, e3]
    exact ⟨z, rfl⟩
theorem box_ok (n : Nat) (z : Int) : ∃ xs, (cc prog (n + 1)).call 12 [.v (.lst [.int z]), .v (.int 0)] [] = .ok (.nw (.lst xs)) [] ∧ Tin 0 xs := by
  have key : ∃ a b : Int, (cc prog (n + 1)).call 12 [.v (.lst [.int z]), .v (.int 0)] [] = .ok (.nw (.lst [.int a, .int b, .int 0])) [] := by
    rw [call_eq (d := d_b_law_box) rfl, runF_eq _ _ _ _ _ rfl]
    simp only [d_b_law_box, b_law_box, Nat.reduceSub]
    have x0 : idxS [] (.v (.lst [.int z])) (.v (.int 0)) = some (.v (.int z)) := X_l _ rfl rfl
    have l1 : decide ((0 : Int) < ((([U.int z] : List U).length : Nat) : Int)) = true := by simp
    have pw : binS .pow [] (.v (.int 10)) (.v (.int 18)) = some (.v (.int (10 ^ 18))) := rfl
    have mb : ∀ (i : Int) (b : Bool), binS .mul [] (.v (.int i)) (.v (.int (if b = true then 1 else 0))) = some (.v (.int (i * (if b = true then 1 else 0)))) := fun i b => B_mul _ _ _ (by cases b <;> exact mulOk_r (by decide) (by decide))
    simp only [e_s, e_t, e_var, e_c, e_gl, e_fn, e_bin, e_cmp, e_ch, e_nt, e_and, e_or, e_ife, e_tup, e_lst, e_neg, e_idx, e_slc, e_on, e_os, e_rev, e_nr, e_nil, e_cons, e_call, e_bi, e_isi, e_met, e_lc, r_v, r_r, i_v, i_r, i_l, t_ok, b1_ok, b2_ok, c1_ok, c2_ok, oB_ok, h1_ok, h2_ok, h3_t, h3_f, h4_ok, n1_ok, a1_ok, a2_t, a2_f, o1_ok, o2_t, o2_f, tr_v, tr_l, tr_r, ts_v, f1_t, f1_f, p1_ok, l1_ok, au_n, au_c, om_s, g1_ok, x1_ok, x2_ok, s1_ok, s2_ok, s3_ok, q1_ok, v1_ok, w1_n, w1_r, k1_ok, k2_ok, d1_ok, d2_ok, d3_ok, y1_ok, z1_ok, z2_ok, m1_ok, mG_ok, m2_ok, lc1_ok, lc2_ok, ofO_s, ofP_s, s_cons, s_nil, s_asg, s_ifs, s_for, s_ret, s_ex, g_nm, g_sub, S1_ok, nE_ok, N1_ok, R_ok, I1_t, I1_f, F1_ok, T1_ok, E1_ok, B0_ok, B1_ok, B2_ok, B3_ok, A_nx, A_rt, V_v, V_r, V_l, W_v, W_l, i_val, i_rng, i_enm, i_zip, iv_s, iv_l, iv_t, iv_f, ir_1, ir_2, ie_l, iz_1, iz_l, iz_t, t1_nm, t1_tp, ts_nil, ts_cons, k_none, k_some, B_add, B_sub, C_lt, C_le, C_gt, C_ge, C_eq, C_ne, C_eqs, C_nes, L_int, L_intb, L_abs, L_lenl, L_lent, L_lenf, L_tup, truU, List.getElem?_cons_succ, List.getElem?_cons_zero, List.set_cons_succ, List.set_cons_zero, List.map_cons, List.map_nil, List.cons_append, List.nil_append, List.replicate_succ, List.replicate_zero, l1, x0, pw, mb, B_mod _ _ 2305843009213693951 (by decide), B_mul _ 39373 0 (mulOk_l (by decide) (by decide))]
    rw [l2_ok _ _ (by show 3 ≤ lim; decide)]
    exact ⟨_, _, rfl⟩
  obtain ⟨a, b, e⟩ := key
  exact ⟨_, e, a, b, 0, rfl, by omega, by omega⟩
end VM

namespace VM
open PySem TL
/-! ### texts of rows, in plain lists -/
/-- the words between blanks -/
def W (cs : List Nat) : List (List Nat) := (spl [32] 0 [] cs).filter (fun p => !p.isEmpty)
theorem W_nil : W [] = [] := by unfold W; rw [spl_nil]; rfl
theorem W_last {p : List Nat} (h : 32 ∉ p) (h0 : p ≠ []) : W p = [p] := by
  unfold W
  rw [spl_last1 h, List.nil_append]
  simp [h0]
theorem W_part {p r : List Nat} (h : 32 ∉ p) (h0 : p ≠ []) : W (p ++ 32 :: r) = p :: W r := by
  unfold W
  have := spl_part1 (s := 32) (S := []) (p := p) (rest := r) (acc := []) h
  rw [show p ++ 32 :: r = p ++ ([32] ++ r) from rfl, this, List.nil_append, List.filter_cons_of_pos (by simp [h0])]
theorem W_sp (r : List Nat) : W (32 :: r) = W r := by
  unfold W
  have := spl_part1 (s := 32) (S := []) (p := []) (rest := r) (acc := []) (by simp)
  rw [show (32 :: r) = [] ++ ([32] ++ r) from rfl, this]
  rfl
/-- what stands ahead of the mark -/
def cutM (cs : List Nat) : List Nat := (spl [35] 0 [] cs).headD []
theorem cutM_no {p : List Nat} (h : 35 ∉ p) : cutM p = p := by unfold cutM; rw [spl_last1 h]; rfl
theorem cutM_at {p r : List Nat} (h : 35 ∉ p) : cutM (p ++ 35 :: r) = p := by
  unfold cutM
  rw [show p ++ 35 :: r = p ++ ([35] ++ r) from rfl, spl_part1 h]
  rfl
def pcsL (cs : List Nat) : List (List Nat) := W (cutM cs)
/-- a piece: signs, no blank, no mark, no end -/
def Pc (p : List Nat) : Prop := p ≠ [] ∧ ∀ c ∈ p, 33 ≤ c ∧ c ≤ 126 ∧ c ≠ 35
theorem Pc.no {p : List Nat} (h : Pc p) {s : Nat} (hs : s < 33 ∨ 126 < s ∨ s = 35) : s ∉ p := fun q => by
  have := h.2 s q
  omega
/-- pieces, one or two blanks between -/
theorem W_join (k : Nat) : ∀ (ps : List (List Nat)) (tail : List Nat), (∀ p ∈ ps, Pc p) → W tail = [] → (tail = [] ∨ ∃ r, tail = 32 :: r) → W (joinL (List.replicate (k + 1) 32) ps ++ tail) = ps
  | [], tail, _, h, _ => h
  | [p], tail, hp, h, ht => by
    have pc := hp p (List.mem_singleton.mpr rfl)
    have n32 := pc.no (s := 32) (.inl (by omega))
    show W (p ++ tail) = [p]
    rcases ht with rfl | ⟨r, rfl⟩
    · rw [List.append_nil, W_last n32 pc.1]
    · rw [W_part n32 pc.1]
      rw [W_sp] at h
      rw [h]
  | p :: q :: r, tail, hp, h, ht => by
    have pc := hp p (List.mem_cons_self ..)
    have n32 := pc.no (s := 32) (.inl (by omega))
    have ih := W_join k (q :: r) tail (fun z hz => hp z (List.mem_cons_of_mem _ hz)) h ht
    have sp : ∀ (j : Nat) (x : List Nat), W (List.replicate j 32 ++ x) = W x := fun j x => by
      induction j with
      | zero => rfl
      | succ j ih => rw [List.replicate_succ, List.cons_append, W_sp, ih]
    show W ((p ++ (List.replicate (k + 1) 32 ++ joinL (List.replicate (k + 1) 32) (q :: r))) ++ tail) = p :: q :: r
    rw [List.replicate_succ, List.append_assoc, List.append_assoc, List.cons_append]
    rw [W_part n32 pc.1, sp, ← List.replicate_succ, ih]
theorem join_no {s : Nat} {S : List Nat} (hS : s ∉ S) : ∀ {ps : List (List Nat)}, (∀ p ∈ ps, s ∉ p) → s ∉ joinL S ps
  | [], _ => by simp [joinL]
  | [p], h => h p (List.mem_singleton.mpr rfl)
  | p :: q :: r, h => by
    show s ∉ p ++ (S ++ joinL S (q :: r))
    rw [List.mem_append, List.mem_append, not_or, not_or]
    exact ⟨h p (List.mem_cons_self ..), hS, join_no hS fun z hz => h z (List.mem_cons_of_mem _ hz)⟩
theorem rep_no {s k : Nat} (h : s ≠ 32) : s ∉ List.replicate k 32 := fun q => h (List.eq_of_mem_replicate q)
/-- a line of pieces: blanks ahead, a tail -/
theorem pcs_line {j k : Nat} {ps : List (List Nat)} (hp : ∀ p ∈ ps, Pc p) : pcsL (List.replicate j 32 ++ joinL (List.replicate (k + 1) 32) ps) = ps := by
  unfold pcsL
  have sp : ∀ (j : Nat) (x : List Nat), W (List.replicate j 32 ++ x) = W x := fun j x => by
    induction j with
    | zero => rfl
    | succ j ih => rw [List.replicate_succ, List.cons_append, W_sp, ih]
  rw [cutM_no, sp, ← List.append_nil (joinL _ ps), W_join k ps [] hp W_nil (.inl rfl)]
  rw [List.mem_append, not_or]
  exact ⟨rep_no (by decide), join_no (rep_no (by decide)) fun p hq => (hp p hq).no (.inr (.inr rfl))⟩
theorem pcs_line1 {j k : Nat} {ps : List (List Nat)} (hp : ∀ p ∈ ps, Pc p) : pcsL (List.replicate j 32 ++ (joinL (List.replicate (k + 1) 32) ps ++ [32])) = ps := by
  unfold pcsL
  have sp : ∀ (j : Nat) (x : List Nat), W (List.replicate j 32 ++ x) = W x := fun j x => by
    induction j with
    | zero => rfl
    | succ j ih => rw [List.replicate_succ, List.cons_append, W_sp, ih]
  rw [cutM_no, sp, W_join k ps [32] hp (by rw [W_sp, W_nil]) (.inr ⟨[], rfl⟩)]
  rw [List.mem_append, List.mem_append, not_or, not_or]
  exact ⟨rep_no (by decide), join_no (rep_no (by decide)) fun p hq => (hp p hq).no (.inr (.inr rfl)), by decide⟩
theorem pcs_line2 {j k : Nat} {ps : List (List Nat)} (hp : ∀ p ∈ ps, Pc p) : pcsL (List.replicate j 32 ++ (joinL (List.replicate (k + 1) 32) ps ++ [32, 35, 32, 55, 32, 55])) = ps := by
  unfold pcsL
  have e : List.replicate j 32 ++ (joinL (List.replicate (k + 1) 32) ps ++ [32, 35, 32, 55, 32, 55]) = (List.replicate j 32 ++ (joinL (List.replicate (k + 1) 32) ps ++ [32])) ++ 35 :: [32, 55, 32, 55] := by simp
  rw [e, cutM_at]
  · have := pcs_line1 (j := j) (k := k) hp
    unfold pcsL at this
    rw [cutM_no] at this
    · exact this
    · rw [List.mem_append, List.mem_append, not_or, not_or]
      exact ⟨rep_no (by decide), join_no (rep_no (by decide)) fun p hq => (hp p hq).no (.inr (.inr rfl)), by decide⟩
  · rw [List.mem_append, List.mem_append, not_or, not_or]
    exact ⟨rep_no (by decide), join_no (rep_no (by decide)) fun p hq => (hp p hq).no (.inr (.inr rfl)), by decide⟩
theorem pcs_nil : pcsL [] = [] := by decide +kernel
theorem pcs_mark : pcsL [35, 32, 97, 32, 98] = [] := by decide +kernel
/-- lines, each with its end -/
def ends (ls : List (List Nat)) : List Nat := (ls.map (· ++ [10])).flatten
theorem ends_join : ∀ ls : List (List Nat), ends ls = joinL [10] (ls ++ [[]])
  | [] => rfl
  | [l] => by show (l ++ [10]) ++ [] = l ++ ([10] ++ []); simp
  | l :: m :: ls => by
    have ih := ends_join (m :: ls)
    show (l ++ [10]) ++ ends (m :: ls) = l ++ ([10] ++ joinL [10] (m :: ls ++ [[]]))
    rw [ih, List.append_assoc]
theorem spl_ends {ls : List (List Nat)} (h : ∀ l ∈ ls, 10 ∉ l) : spl [10] 0 [] (ends ls) = ls ++ [[]] := by
  rw [ends_join]
  refine spl_join (by simp) fun p hp => ?_
  rcases List.mem_append.mp hp with hp | hp
  · exact h p hp
  · have : p = [] := by simpa using hp
    rw [this]; simp
end VM

namespace VM
open PySem TL
theorem spl_ne (S : List Nat) : ∀ (k : Nat) (acc cs : List Nat), spl S k acc cs ≠ []
  | _, _, [] => by rw [spl_nil]; simp
  | 0, acc, c :: r => by
    show (if pre S (c :: r) = true then acc :: spl S (S.length - 1) [] r else spl S 0 (acc ++ [c]) r) ≠ []
    split
    · simp
    · exact spl_ne S 0 _ r
  | k + 1, acc, _ :: r => spl_ne S k acc r
theorem spl_len (S : List Nat) : ∀ (k : Nat) (acc cs : List Nat), (spl S k acc cs).length ≤ cs.length + 1 ∧ ∀ p ∈ spl S k acc cs, p.length ≤ acc.length + cs.length ∧ ∀ c ∈ p, c ∈ acc ∨ c ∈ cs
  | k, acc, [] => by
    rw [spl_nil]
    refine ⟨by simp, fun p hp => ?_⟩
    have : p = acc := by simpa using hp
    subst this
    exact ⟨by simp, fun c hc => .inl hc⟩
  | 0, acc, c :: r => by
    have e : spl S 0 acc (c :: r) = if pre S (c :: r) = true then acc :: spl S (S.length - 1) [] r else spl S 0 (acc ++ [c]) r := rfl
    rw [e]
    split
    · obtain ⟨h1, h2⟩ := spl_len S (S.length - 1) [] r
      refine ⟨by simp; omega, fun p hp => ?_⟩
      rcases List.mem_cons.mp hp with rfl | hp
      · exact ⟨by simp, fun d hd => .inl hd⟩
      · obtain ⟨q1, q2⟩ := h2 p hp
        refine ⟨by simp at q1 ⊢; omega, fun d hd => .inr ?_⟩
        rcases q2 d hd with q | q
        · cases q
        · exact List.mem_cons_of_mem _ q
    · obtain ⟨h1, h2⟩ := spl_len S 0 (acc ++ [c]) r
      refine ⟨by simp; omega, fun p hp => ?_⟩
      obtain ⟨q1, q2⟩ := h2 p hp
      refine ⟨by simp at q1 ⊢; omega, fun d hd => ?_⟩
      rcases q2 d hd with q | q
      · rcases List.mem_append.mp q with q | q
        · exact .inl q
        · have : d = c := by simpa using q
          rw [this]; exact .inr (List.mem_cons_self ..)
      · exact .inr (List.mem_cons_of_mem _ q)
  | k + 1, acc, d :: r => by
    obtain ⟨h1, h2⟩ := spl_len S k acc r
    refine ⟨by show (spl S k acc r).length ≤ _; simp; omega, fun p hp => ?_⟩
    obtain ⟨q1, q2⟩ := h2 p hp
    refine ⟨by simp; omega, fun e he => (q2 e he).imp id (List.mem_cons_of_mem _)⟩
/-- one sign as a text -/
abbrev sg (c : Nat) : Str := ⟨#[c]⟩
theorem split_tl (x : Str) {c : Nat} (hc : c < 256) : (Txt.split x (sg c)).map tl = spl [c] 0 [] (tl x) := split_spl x (sg c) (by simp [tl]) (kind_ok (by simp [hc]))
theorem split_len (x : Str) {c : Nat} (hc : c < 256) : (Txt.split x (sg c)).length ≤ x.length + 1 ∧ ∀ p ∈ Txt.split x (sg c), p.length ≤ x.length ∧ ∀ d ∈ tl p, d ∈ tl x := by
  have e := split_tl x hc
  obtain ⟨h1, h2⟩ := spl_len [c] 0 [] (tl x)
  rw [← e] at h1 h2
  rw [len_tl]
  refine ⟨by simpa using h1, fun p hp => ?_⟩
  obtain ⟨q1, q2⟩ := h2 (tl p) (List.mem_map.mpr ⟨p, hp, rfl⟩)
  rw [len_tl]
  exact ⟨by simpa using q1, fun d hd => (q2 d hd).resolve_left (by simp)⟩
theorem split_ne (x : Str) {c : Nat} (hc : c < 256) : Txt.split x (sg c) ≠ [] := fun e => by
  have := split_tl x hc
  rw [e] at this
  exact spl_ne _ _ _ _ this.symm
def hdS (l : List Str) : Str := l.headD ⟨#[]⟩
def pcs (l : Str) : List Str := (Txt.split (hdS (Txt.split l (sg 35))) (sg 32)).filter fun p => !decide (p = ⟨#[]⟩)
theorem tl_emp {p : Str} : (!decide (p = ⟨#[]⟩)) = !(tl p).isEmpty := by
  by_cases h : p = ⟨#[]⟩
  · subst h; rfl
  · have : tl p ≠ [] := fun e => h (ext_tl e)
    rw [decide_eq_false h]
    cases e : tl p with
    | nil => exact absurd e this
    | cons _ _ => rfl
theorem filt_map {l : List Str} : (l.filter fun p => !decide (p = ⟨#[]⟩)).map tl = (l.map tl).filter fun p => !p.isEmpty := by
  induction l with
  | nil => rfl
  | cons p l ih =>
    rw [List.map_cons, List.filter_cons, List.filter_cons, tl_emp]
    split
    · rw [List.map_cons, ih]
    · exact ih
theorem pcs_tl (l : Str) : (pcs l).map tl = pcsL (tl l) := by
  unfold pcs pcsL W cutM
  rw [filt_map, split_tl _ (by decide)]
  have : tl (hdS (Txt.split l (sg 35))) = (spl [35] 0 [] (tl l)).headD [] := by
    rw [← split_tl l (by decide)]
    unfold hdS
    cases Txt.split l (sg 35) <;> rfl
  rw [this]
/-! ### the machine on them -/
section
variable (h : Hs)
theorem L_split {a b : Str} (hb : (b.length == 0) = false) (hl : a.length + 2 ≤ lim) : metS .split h (.v (.str a)) [.v (.str b)] = some (.nw (.lst ((Txt.split a b).map .str)), h) := if_pos ⟨hb, hl⟩
theorem T_split (a : Str) : metT .split h (.v (.str a)) = true := rfl
theorem T_join (a : Str) : metT .join h (.v (.str a)) = true := rfl
theorem strsU_map : ∀ ys : List Str, strsU (ys.map U.str) = some ys
  | [] => rfl
  | y :: ys => by show (strsU (ys.map U.str)).map (y :: ·) = _; rw [strsU_map ys]; rfl
theorem L_join {a : Str} {ys : List Str} (hl : (ys.map (·.length)).sum + ys.length * a.length ≤ lim) : metS .join h (.v (.str a)) [.v (.lst (ys.map .str))] = some (.v (.str (Txt.join a ys)), h) := by
  show (match strsU (ys.map U.str) with
    | some zs => if (zs.map (fun z : Str => z.length)).sum + zs.length * a.length ≤ lim then some (RV.v (.str (Txt.join a zs)), h) else none
    | none => none) = _
  rw [strsU_map]
  exact if_pos hl
theorem L_joint {a : Str} {ys : List Str} (hl : (ys.map (·.length)).sum + ys.length * a.length ≤ lim) : metS .join h (.v (.str a)) [.v (.tup (ys.map .str))] = some (.v (.str (Txt.join a ys)), h) := by
  show (match strsU (ys.map U.str) with
    | some zs => if (zs.map (fun z : Str => z.length)).sum + zs.length * a.length ≤ lim then some (RV.v (.str (Txt.join a zs)), h) else none
    | none => none) = _
  rw [strsU_map]
  exact if_pos hl
theorem dat_strs : ∀ {ys : List Str}, (∀ y ∈ ys, ∀ c ∈ tl y, c < 0x110000) → datL (ys.map U.str) = true
  | [], _ => rfl
  | y :: ys, hy => by
    show ((U.str y).dat && datL (ys.map U.str)) = true
    rw [dat_strs fun z hz => hy z (List.mem_cons_of_mem _ hz), Bool.and_true]
    show y.cps.all (· < 0x110000) = true
    rw [Array.all_eq_true']
    intro c hc
    exact decide_eq_true (hy y (List.mem_cons_self ..) c (by simpa [tl] using hc))
theorem dp_strs : ∀ ys : List Str, dpL (ys.map U.str) = 0
  | [] => rfl
  | y :: ys => by show max 0 (dpL (ys.map U.str)) = 0; rw [dp_strs ys]; rfl
theorem shp_strs {ys : List Str} (hy : ∀ y ∈ ys, ∀ c ∈ tl y, c < 0x110000) : (U.tup (ys.map U.str)).shp = true := by
  unfold U.shp
  show (datL (ys.map U.str) && Nat.ble (dpL (ys.map U.str) + 1) 40) = true
  rw [dat_strs hy, dp_strs]
  rfl
theorem C_net0 {ys : List Str} (hy : ∀ y ∈ ys, ∀ c ∈ tl y, c < 0x110000) : cmpS .ne h (.v (.tup (ys.map .str))) (.v (.tup [])) = some (!ys.isEmpty) := by
  show (if (U.tup (ys.map U.str)).shp && (U.tup []).shp then some (!eqU (.tup (ys.map U.str)) (.tup [])) else none) = _
  rw [shp_strs hy]
  show some (!eqL (ys.map U.str) []) = _
  cases ys <;> rfl
theorem T_app {n : Nat} {xs : List U} (e : h[n]? = some (.lst xs)) : metT .append h (.r n) = true := by
  show (match seqS h (.r n) with | some (true, _) => true | _ => false) = true
  unfold seqS
  simp only [e]
theorem L_app {n : Nat} {xs : List U} {u : U} (e : h[n]? = some (.lst xs)) (hl : xs.length < lim) : metS .append h (.r n) [.v u] = some (.v .non, h.set n (.lst (xs ++ [u]))) := by
  show (match h[n]? with
    | some (.lst xs) => if xs.length < lim then some (RV.v .non, h.set n (.lst (xs ++ [u]))) else none
    | _ => none) = _
  rw [e]
  exact if_pos hl
end
/-- what rows_in finds -/
def found1 (i : Nat) (l : Str) : List U := if (pcs l).isEmpty then [] else [.tup [.int i, .tup ((pcs l).map .str)]]
def found : Nat → List Str → List U
  | _, [] => []
  | i, l :: ls => found1 i l ++ found (i + 1) ls
theorem found_snoc : ∀ (ls : List Str) (i : Nat) (l : Str), found i (ls ++ [l]) = found i ls ++ found1 (i + ls.length) l
  | [], i, l => by show found1 i l ++ [] = [] ++ found1 (i + 0) l; simp
  | m :: ls, i, l => by
    show found1 i m ++ found (i + 1) (ls ++ [l]) = (found1 i m ++ found (i + 1) ls) ++ _
    rw [found_snoc ls (i + 1) l, List.append_assoc, show i + 1 + ls.length = i + (m :: ls).length by simp; omega]
theorem found_len : ∀ (ls : List Str) (i : Nat), (found i ls).length ≤ ls.length
  | [], _ => Nat.le_refl _
  | l :: ls, i => by
    have := found_len ls (i + 1)
    show (found1 i l ++ found (i + 1) ls).length ≤ ls.length + 1
    have h1 : (found1 i l).length ≤ 1 := by unfold found1; split <;> simp
    rw [List.length_append]
    omega
theorem ar1' (f n : Nat) : True := trivial
/-- one line -/
theorem line_ok (n : Nat) (tx : S) (i : Nat) (l : Str) (p q : Option S) (xs : List U) (hl : l.length ≤ 100000) (hc : ∀ c ∈ tl l, c < 0x110000) (hx : xs.length ≤ 100000) :
    ∃ p' q', evSs (cc prog n) 1000000 b_rows_in_2 [some tx, some (.r 0), some (.v (.int i)), some (.v (.str l)), p, q] [.lst xs] = .nx [some tx, some (.r 0), some (.v (.int i)), some (.v (.str l)), p', q'] [.lst (xs ++ found1 i l)] := by
  obtain ⟨a1, a2⟩ := split_len l (c := 35) (by decide)
  have hne := split_ne l (c := 35) (by decide)
  obtain ⟨b1, b2⟩ := split_len (hdS (Txt.split l (sg 35))) (c := 32) (by decide)
  have hm : hdS (Txt.split l (sg 35)) ∈ Txt.split l (sg 35) := by
    unfold hdS
    cases e : Txt.split l (sg 35) with
    | nil => exact absurd e hne
    | cons a r => simp
  obtain ⟨c1, c2⟩ := a2 _ hm
  have hix : ixU ((Txt.split l (sg 35)).map U.str).length 0 = some 0 := by
    have : 0 < ((Txt.split l (sg 35)).map U.str).length := by rw [List.length_map]; exact List.length_pos_iff.mpr hne
    unfold ixU
    rw [if_pos (by decide), if_pos (by omega)]
    rfl
  have hg : ((Txt.split l (sg 35)).map U.str)[0]? = some (.str (hdS (Txt.split l (sg 35)))) := by
    unfold hdS
    cases e : Txt.split l (sg 35) with
    | nil => exact absurd e hne
    | cons a r => rfl
  have cm : ∀ own, compL (.seq (.v (.lst ((Txt.split (hdS (Txt.split l (sg 35))) (sg 32)).map U.str)))) (evT1 (cc prog n) (.nm 5)) (evK (cc prog n) (.some (.cmp .ne (.var 5) (.c (.str ⟨#[]⟩))))) (evE (cc prog n) b_rows_in_1) [some tx, some (.r 0), some (.v (.int i)), some (.v (.str l)), p, own] ((Txt.split (hdS (Txt.split l (sg 35))) (sg 32)).map U.str).length 0 [] [.lst xs] = .ok ((pcs l).map .str) [.lst xs] := fun own => by
    have := comp_map (src := .seq (.v (.lst ((Txt.split (hdS (Txt.split l (sg 35))) (sg 32)).map U.str)))) (g := evT1 (cc prog n) (.nm 5)) (k := evK (cc prog n) (.some (.cmp .ne (.var 5) (.c (.str ⟨#[]⟩))))) (f := evE (cc prog n) b_rows_in_1) (ρ := [some tx, some (.r 0), some (.v (.int i)), some (.v (.str l)), p, own]) (h := [.lst xs])
      ((Txt.split (hdS (Txt.split l (sg 35))) (sg 32)).map U.str) (fun u => match u with | .str z => !decide (z = ⟨#[]⟩) | _ => false) id (fun j x e => by rw [lst_at]; exact e) (lst_end _ _) (fun x hx => by
        obtain ⟨z, hz, rfl⟩ := List.mem_map.mp hx
        refine ⟨[some tx, some (.r 0), some (.v (.int i)), some (.v (.str l)), p, some (.v (.str z))], by simp only [e_s, e_t, e_var, e_c, e_gl, e_fn, e_bin, e_cmp, e_ch, e_nt, e_and, e_or, e_ife, e_tup, e_lst, e_neg, e_idx, e_slc, e_on, e_os, e_rev, e_nr, e_nil, e_cons, e_call, e_bi, e_isi, e_met, e_lc, r_v, r_r, i_v, i_r, i_l, t_ok, b1_ok, b2_ok, c1_ok, c2_ok, oB_ok, h1_ok, h2_ok, h3_t, h3_f, h4_ok, n1_ok, a1_ok, a2_t, a2_f, o1_ok, o2_t, o2_f, tr_v, tr_l, tr_r, ts_v, f1_t, f1_f, p1_ok, l1_ok, au_n, au_c, om_s, g1_ok, x1_ok, x2_ok, s1_ok, s2_ok, s3_ok, q1_ok, v1_ok, w1_n, w1_r, k1_ok, k2_ok, d1_ok, d2_ok, d3_ok, y1_ok, z1_ok, z2_ok, m1_ok, mG_ok, m2_ok, lc1_ok, lc2_ok, ofO_s, ofP_s, s_cons, s_nil, s_asg, s_ifs, s_for, s_ret, s_ex, g_nm, g_sub, S1_ok, nE_ok, N1_ok, R_ok, I1_t, I1_f, F1_ok, T1_ok, E1_ok, B0_ok, B1_ok, B2_ok, B3_ok, A_nx, A_rt, V_v, V_r, V_l, W_v, W_l, i_val, i_rng, i_enm, i_zip, iv_s, iv_l, iv_t, iv_f, ir_1, ir_2, ie_l, iz_1, iz_l, iz_t, t1_nm, t1_tp, ts_nil, ts_cons, k_none, k_some, B_add, B_sub, C_lt, C_le, C_gt, C_ge, C_eq, C_ne, C_eqs, C_nes, L_int, L_intb, L_abs, L_lenl, L_lent, L_lenf, L_tup, truU, List.getElem?_cons_succ, List.getElem?_cons_zero, List.set_cons_succ, List.set_cons_zero, List.map_cons, List.map_nil, List.cons_append, List.nil_append, List.replicate_succ, List.replicate_zero], by simp only [e_s, e_t, e_var, e_c, e_gl, e_fn, e_bin, e_cmp, e_ch, e_nt, e_and, e_or, e_ife, e_tup, e_lst, e_neg, e_idx, e_slc, e_on, e_os, e_rev, e_nr, e_nil, e_cons, e_call, e_bi, e_isi, e_met, e_lc, r_v, r_r, i_v, i_r, i_l, t_ok, b1_ok, b2_ok, c1_ok, c2_ok, oB_ok, h1_ok, h2_ok, h3_t, h3_f, h4_ok, n1_ok, a1_ok, a2_t, a2_f, o1_ok, o2_t, o2_f, tr_v, tr_l, tr_r, ts_v, f1_t, f1_f, p1_ok, l1_ok, au_n, au_c, om_s, g1_ok, x1_ok, x2_ok, s1_ok, s2_ok, s3_ok, q1_ok, v1_ok, w1_n, w1_r, k1_ok, k2_ok, d1_ok, d2_ok, d3_ok, y1_ok, z1_ok, z2_ok, m1_ok, mG_ok, m2_ok, lc1_ok, lc2_ok, ofO_s, ofP_s, s_cons, s_nil, s_asg, s_ifs, s_for, s_ret, s_ex, g_nm, g_sub, S1_ok, nE_ok, N1_ok, R_ok, I1_t, I1_f, F1_ok, T1_ok, E1_ok, B0_ok, B1_ok, B2_ok, B3_ok, A_nx, A_rt, V_v, V_r, V_l, W_v, W_l, i_val, i_rng, i_enm, i_zip, iv_s, iv_l, iv_t, iv_f, ir_1, ir_2, ie_l, iz_1, iz_l, iz_t, t1_nm, t1_tp, ts_nil, ts_cons, k_none, k_some, B_add, B_sub, C_lt, C_le, C_gt, C_ge, C_eq, C_ne, C_eqs, C_nes, L_int, L_intb, L_abs, L_lenl, L_lent, L_lenf, L_tup, truU, List.getElem?_cons_succ, List.getElem?_cons_zero, List.set_cons_succ, List.set_cons_zero, List.map_cons, List.map_nil, List.cons_append, List.nil_append, List.replicate_succ, List.replicate_zero], fun _ => ?_⟩
        simp only [b_rows_in_1]
        simp only [e_s, e_t, e_var, e_c, e_gl, e_fn, e_bin, e_cmp, e_ch, e_nt, e_and, e_or, e_ife, e_tup, e_lst, e_neg, e_idx, e_slc, e_on, e_os, e_rev, e_nr, e_nil, e_cons, e_call, e_bi, e_isi, e_met, e_lc, r_v, r_r, i_v, i_r, i_l, t_ok, b1_ok, b2_ok, c1_ok, c2_ok, oB_ok, h1_ok, h2_ok, h3_t, h3_f, h4_ok, n1_ok, a1_ok, a2_t, a2_f, o1_ok, o2_t, o2_f, tr_v, tr_l, tr_r, ts_v, f1_t, f1_f, p1_ok, l1_ok, au_n, au_c, om_s, g1_ok, x1_ok, x2_ok, s1_ok, s2_ok, s3_ok, q1_ok, v1_ok, w1_n, w1_r, k1_ok, k2_ok, d1_ok, d2_ok, d3_ok, y1_ok, z1_ok, z2_ok, m1_ok, mG_ok, m2_ok, lc1_ok, lc2_ok, ofO_s, ofP_s, s_cons, s_nil, s_asg, s_ifs, s_for, s_ret, s_ex, g_nm, g_sub, S1_ok, nE_ok, N1_ok, R_ok, I1_t, I1_f, F1_ok, T1_ok, E1_ok, B0_ok, B1_ok, B2_ok, B3_ok, A_nx, A_rt, V_v, V_r, V_l, W_v, W_l, i_val, i_rng, i_enm, i_zip, iv_s, iv_l, iv_t, iv_f, ir_1, ir_2, ie_l, iz_1, iz_l, iz_t, t1_nm, t1_tp, ts_nil, ts_cons, k_none, k_some, B_add, B_sub, C_lt, C_le, C_gt, C_ge, C_eq, C_ne, C_eqs, C_nes, L_int, L_intb, L_abs, L_lenl, L_lent, L_lenf, L_tup, truU, List.getElem?_cons_succ, List.getElem?_cons_zero, List.set_cons_succ, List.set_cons_zero, List.map_cons, List.map_nil, List.cons_append, List.nil_append, List.replicate_succ, List.replicate_zero, id]) ((Txt.split (hdS (Txt.split l (sg 35))) (sg 32)).map U.str).length 0 [] (by simp) (by
          have : ((Txt.split (hdS (Txt.split l (sg 35))) (sg 32)).map U.str).length ≤ 100001 := by rw [List.length_map]; omega
          show 0 + _ ≤ 16777216
          omega)
    rw [this]
    congr 1
    rw [List.nil_append, List.drop_zero, List.map_id]
    unfold pcs
    rw [List.filter_map]
    rfl
  have hs : ∀ y ∈ pcs l, ∀ c ∈ tl y, c < 0x110000 := fun y hy c hcy => by
    obtain ⟨hy1, _⟩ := List.mem_filter.mp hy
    exact hc c (c2 c ((b2 y hy1).2 c hcy))
  have lc : l.length + 2 ≤ lim := by show _ ≤ 16777216; omega
  have lc2 : (hdS (Txt.split l (sg 35))).length + 2 ≤ lim := by show _ ≤ 16777216; omega
  have wp : ∀ (a b c d : Option S) (e f : Option S), wipeR [a, b, c, d, e, f] [5] = [a, b, c, d, e, none] := fun _ _ _ _ _ _ => rfl
  simp only [b_rows_in_2]
  simp only [e_s, e_t, e_var, e_c, e_gl, e_fn, e_bin, e_cmp, e_ch, e_nt, e_and, e_or, e_ife, e_tup, e_lst, e_neg, e_idx, e_slc, e_on, e_os, e_rev, e_nr, e_nil, e_cons, e_call, e_bi, e_isi, e_met, e_lc, r_v, r_r, i_v, i_r, i_l, t_ok, b1_ok, b2_ok, c1_ok, c2_ok, oB_ok, h1_ok, h2_ok, h3_t, h3_f, h4_ok, n1_ok, a1_ok, a2_t, a2_f, o1_ok, o2_t, o2_f, tr_v, tr_l, tr_r, ts_v, f1_t, f1_f, p1_ok, l1_ok, au_n, au_c, om_s, g1_ok, x1_ok, x2_ok, s1_ok, s2_ok, s3_ok, q1_ok, v1_ok, w1_n, w1_r, k1_ok, k2_ok, d1_ok, d2_ok, d3_ok, y1_ok, z1_ok, z2_ok, m1_ok, mG_ok, m2_ok, lc1_ok, lc2_ok, ofO_s, ofP_s, s_cons, s_nil, s_asg, s_ifs, s_for, s_ret, s_ex, g_nm, g_sub, S1_ok, nE_ok, N1_ok, R_ok, I1_t, I1_f, F1_ok, T1_ok, E1_ok, B0_ok, B1_ok, B2_ok, B3_ok, A_nx, A_rt, V_v, V_r, V_l, W_v, W_l, i_val, i_rng, i_enm, i_zip, iv_s, iv_l, iv_t, iv_f, ir_1, ir_2, ie_l, iz_1, iz_l, iz_t, t1_nm, t1_tp, ts_nil, ts_cons, k_none, k_some, B_add, B_sub, C_lt, C_le, C_gt, C_ge, C_eq, C_ne, C_eqs, C_nes, L_int, L_intb, L_abs, L_lenl, L_lent, L_lenf, L_tup, truU, List.getElem?_cons_succ, List.getElem?_cons_zero, List.set_cons_succ, List.set_cons_zero, List.map_cons, List.map_nil, List.cons_append, List.nil_append, List.replicate_succ, List.replicate_zero, T_split, L_split _ (a := l) (b := ⟨#[35]⟩) rfl lc, X_l _ hix hg, L_split _ (a := hdS (Txt.split l (sg 35))) (b := ⟨#[32]⟩) rfl lc2, wp, cm none, p2_ok _ [] (by decide), C_net0 _ hs]
  by_cases he : (pcs l).isEmpty = true
  · have : found1 i l = [] := by unfold found1; rw [if_pos he]
    rw [he, this, List.append_nil]
    simp only [e_s, e_t, e_var, e_c, e_gl, e_fn, e_bin, e_cmp, e_ch, e_nt, e_and, e_or, e_ife, e_tup, e_lst, e_neg, e_idx, e_slc, e_on, e_os, e_rev, e_nr, e_nil, e_cons, e_call, e_bi, e_isi, e_met, e_lc, r_v, r_r, i_v, i_r, i_l, t_ok, b1_ok, b2_ok, c1_ok, c2_ok, oB_ok, h1_ok, h2_ok, h3_t, h3_f, h4_ok, n1_ok, a1_ok, a2_t, a2_f, o1_ok, o2_t, o2_f, tr_v, tr_l, tr_r, ts_v, f1_t, f1_f, p1_ok, l1_ok, au_n, au_c, om_s, g1_ok, x1_ok, x2_ok, s1_ok, s2_ok, s3_ok, q1_ok, v1_ok, w1_n, w1_r, k1_ok, k2_ok, d1_ok, d2_ok, d3_ok, y1_ok, z1_ok, z2_ok, m1_ok, mG_ok, m2_ok, lc1_ok, lc2_ok, ofO_s, ofP_s, s_cons, s_nil, s_asg, s_ifs, s_for, s_ret, s_ex, g_nm, g_sub, S1_ok, nE_ok, N1_ok, R_ok, I1_t, I1_f, F1_ok, T1_ok, E1_ok, B0_ok, B1_ok, B2_ok, B3_ok, A_nx, A_rt, V_v, V_r, V_l, W_v, W_l, i_val, i_rng, i_enm, i_zip, iv_s, iv_l, iv_t, iv_f, ir_1, ir_2, ie_l, iz_1, iz_l, iz_t, t1_nm, t1_tp, ts_nil, ts_cons, k_none, k_some, B_add, B_sub, C_lt, C_le, C_gt, C_ge, C_eq, C_ne, C_eqs, C_nes, L_int, L_intb, L_abs, L_lenl, L_lent, L_lenf, L_tup, truU, List.getElem?_cons_succ, List.getElem?_cons_zero, List.set_cons_succ, List.set_cons_zero, List.map_cons, List.map_nil, List.cons_append, List.nil_append, List.replicate_succ, List.replicate_zero, Bool.not_true]
    exact ⟨_, _, rfl⟩
  · have : found1 i l = [.tup [.int i, .tup ((pcs l).map .str)]] := by unfold found1; rw [if_neg he]
    rw [Bool.eq_false_iff.mpr he, this]
    simp only [e_s, e_t, e_var, e_c, e_gl, e_fn, e_bin, e_cmp, e_ch, e_nt, e_and, e_or, e_ife, e_tup, e_lst, e_neg, e_idx, e_slc, e_on, e_os, e_rev, e_nr, e_nil, e_cons, e_call, e_bi, e_isi, e_met, e_lc, r_v, r_r, i_v, i_r, i_l, t_ok, b1_ok, b2_ok, c1_ok, c2_ok, oB_ok, h1_ok, h2_ok, h3_t, h3_f, h4_ok, n1_ok, a1_ok, a2_t, a2_f, o1_ok, o2_t, o2_f, tr_v, tr_l, tr_r, ts_v, f1_t, f1_f, p1_ok, l1_ok, au_n, au_c, om_s, g1_ok, x1_ok, x2_ok, s1_ok, s2_ok, s3_ok, q1_ok, v1_ok, w1_n, w1_r, k1_ok, k2_ok, d1_ok, d2_ok, d3_ok, y1_ok, z1_ok, z2_ok, m1_ok, mG_ok, m2_ok, lc1_ok, lc2_ok, ofO_s, ofP_s, s_cons, s_nil, s_asg, s_ifs, s_for, s_ret, s_ex, g_nm, g_sub, S1_ok, nE_ok, N1_ok, R_ok, I1_t, I1_f, F1_ok, T1_ok, E1_ok, B0_ok, B1_ok, B2_ok, B3_ok, A_nx, A_rt, V_v, V_r, V_l, W_v, W_l, i_val, i_rng, i_enm, i_zip, iv_s, iv_l, iv_t, iv_f, ir_1, ir_2, ie_l, iz_1, iz_l, iz_t, t1_nm, t1_tp, ts_nil, ts_cons, k_none, k_some, B_add, B_sub, C_lt, C_le, C_gt, C_ge, C_eq, C_ne, C_eqs, C_nes, L_int, L_intb, L_abs, L_lenl, L_lent, L_lenf, L_tup, truU, List.getElem?_cons_succ, List.getElem?_cons_zero, List.set_cons_succ, List.set_cons_zero, List.map_cons, List.map_nil, List.cons_append, List.nil_append, List.replicate_succ, List.replicate_zero, Bool.not_false, T_app [.lst xs] (n := 0) (xs := xs) rfl, p2_ok _ [.int i, .tup ((pcs l).map .str)] (by show 2 ≤ 16777216; decide), L_app [.lst xs] (n := 0) (xs := xs) rfl (by show _ < 16777216; omega)]
    exact ⟨_, _, rfl⟩
theorem rows_in_ok (n : Nat) (t : Str) (ht : t.length ≤ 90000) (hc : ∀ c ∈ tl t, c < 0x110000) : (cc prog (n + 1)).call 5 [.v (.str t)] [] = .ok (.nw (.lst (found 0 (Txt.split t (sg 10))))) [] := by
  obtain ⟨a1, a2⟩ := split_len t (c := 10) (by decide)
  obtain ⟨ρ', h', e, k, p, q, r, rfl, rfl⟩ := for_ex (src := .enm (.v (.lst ((Txt.split t (sg 10)).map U.str)))) (g := evT1 (cc prog n) (.tp (.cons (.nm 2) (.cons (.nm 3) .nil)))) (b := evSs (cc prog n) 1000000 b_rows_in_2) (N := (Txt.split t (sg 10)).length)
    (Inv := fun i ρ h => ∃ (k p q r : Option S), ρ = [some (.v (.str t)), some (.r 0), k, p, q, r] ∧ h = [.lst (found 0 ((Txt.split t (sg 10)).take i))])
    (fun ρ h _ => by have := enm_end h ((Txt.split t (sg 10)).map U.str); rw [List.length_map] at this; exact this)
    (fun i ρ h hi ⟨k, p, q, r, e1, e2⟩ => by
      subst e1 e2
      have hx : ((Txt.split t (sg 10)).map U.str)[i]? = some (.str (Txt.split t (sg 10))[i]) := by rw [List.getElem?_map, List.getElem?_eq_getElem hi]; rfl
      obtain ⟨m1, m2⟩ := a2 _ (List.getElem_mem hi)
      have fl := found_len ((Txt.split t (sg 10)).take i) 0
      obtain ⟨p', q', e3⟩ := line_ok n (.v (.str t)) i (Txt.split t (sg 10))[i] q r (found 0 ((Txt.split t (sg 10)).take i)) (by omega) (fun c hcc => hc c (m2 c hcc)) (by rw [List.length_take] at fl; omega)
      refine ⟨_, _, by rw [enm_at, hx]; rfl, by simp only [e_s, e_t, e_var, e_c, e_gl, e_fn, e_bin, e_cmp, e_ch, e_nt, e_and, e_or, e_ife, e_tup, e_lst, e_neg, e_idx, e_slc, e_on, e_os, e_rev, e_nr, e_nil, e_cons, e_call, e_bi, e_isi, e_met, e_lc, r_v, r_r, i_v, i_r, i_l, t_ok, b1_ok, b2_ok, c1_ok, c2_ok, oB_ok, h1_ok, h2_ok, h3_t, h3_f, h4_ok, n1_ok, a1_ok, a2_t, a2_f, o1_ok, o2_t, o2_f, tr_v, tr_l, tr_r, ts_v, f1_t, f1_f, p1_ok, l1_ok, au_n, au_c, om_s, g1_ok, x1_ok, x2_ok, s1_ok, s2_ok, s3_ok, q1_ok, v1_ok, w1_n, w1_r, k1_ok, k2_ok, d1_ok, d2_ok, d3_ok, y1_ok, z1_ok, z2_ok, m1_ok, mG_ok, m2_ok, lc1_ok, lc2_ok, ofO_s, ofP_s, s_cons, s_nil, s_asg, s_ifs, s_for, s_ret, s_ex, g_nm, g_sub, S1_ok, nE_ok, N1_ok, R_ok, I1_t, I1_f, F1_ok, T1_ok, E1_ok, B0_ok, B1_ok, B2_ok, B3_ok, A_nx, A_rt, V_v, V_r, V_l, W_v, W_l, i_val, i_rng, i_enm, i_zip, iv_s, iv_l, iv_t, iv_f, ir_1, ir_2, ie_l, iz_1, iz_l, iz_t, t1_nm, t1_tp, ts_nil, ts_cons, k_none, k_some, B_add, B_sub, C_lt, C_le, C_gt, C_ge, C_eq, C_ne, C_eqs, C_nes, L_int, L_intb, L_abs, L_lenl, L_lent, L_lenf, L_tup, truU, List.getElem?_cons_succ, List.getElem?_cons_zero, List.set_cons_succ, List.set_cons_zero, List.map_cons, List.map_nil, List.cons_append, List.nil_append, List.replicate_succ, List.replicate_zero], _, _, e3, _, _, _, _, rfl, ?_⟩
      rw [List.take_add_one, List.getElem?_eq_getElem hi]
      show _ = [MO.lst (found 0 ((Txt.split t (sg 10)).take i ++ [(Txt.split t (sg 10))[i]]))]
      rw [found_snoc, List.length_take, Nat.zero_add, Nat.min_eq_left (by omega)]) (Txt.split t (sg 10)).length 0 _ _ (by omega) ⟨none, none, none, none, rfl, rfl⟩
  rw [call_eq (d := d_b_rows_in) rfl, runF_eq _ _ _ _ _ rfl]
  simp only [d_b_rows_in, b_rows_in, Nat.reduceSub]
  have e0 : found 0 ((Txt.split t (sg 10)).take 0) = [] := by rw [List.take_zero]; rfl
  rw [e0] at e
  simp only [e_s, e_t, e_var, e_c, e_gl, e_fn, e_bin, e_cmp, e_ch, e_nt, e_and, e_or, e_ife, e_tup, e_lst, e_neg, e_idx, e_slc, e_on, e_os, e_rev, e_nr, e_nil, e_cons, e_call, e_bi, e_isi, e_met, e_lc, r_v, r_r, i_v, i_r, i_l, t_ok, b1_ok, b2_ok, c1_ok, c2_ok, oB_ok, h1_ok, h2_ok, h3_t, h3_f, h4_ok, n1_ok, a1_ok, a2_t, a2_f, o1_ok, o2_t, o2_f, tr_v, tr_l, tr_r, ts_v, f1_t, f1_f, p1_ok, l1_ok, au_n, au_c, om_s, g1_ok, x1_ok, x2_ok, s1_ok, s2_ok, s3_ok, q1_ok, v1_ok, w1_n, w1_r, k1_ok, k2_ok, d1_ok, d2_ok, d3_ok, y1_ok, z1_ok, z2_ok, m1_ok, mG_ok, m2_ok, lc1_ok, lc2_ok, ofO_s, ofP_s, s_cons, s_nil, s_asg, s_ifs, s_for, s_ret, s_ex, g_nm, g_sub, S1_ok, nE_ok, N1_ok, R_ok, I1_t, I1_f, F1_ok, T1_ok, E1_ok, B0_ok, B1_ok, B2_ok, B3_ok, A_nx, A_rt, V_v, V_r, V_l, W_v, W_l, i_val, i_rng, i_enm, i_zip, iv_s, iv_l, iv_t, iv_f, ir_1, ir_2, ie_l, iz_1, iz_l, iz_t, t1_nm, t1_tp, ts_nil, ts_cons, k_none, k_some, B_add, B_sub, C_lt, C_le, C_gt, C_ge, C_eq, C_ne, C_eqs, C_nes, L_int, L_intb, L_abs, L_lenl, L_lent, L_lenf, L_tup, truU, List.getElem?_cons_succ, List.getElem?_cons_zero, List.set_cons_succ, List.set_cons_zero, List.map_cons, List.map_nil, List.cons_append, List.nil_append, List.replicate_succ, List.replicate_zero, l2_ok _ [] (by decide), T_split, L_split _ (a := t) (b := ⟨#[10]⟩) rfl (by show _ ≤ 16777216; omega), List.length_nil, List.length_map, e]
  rw [List.take_length]
  rfl
theorem rows_of_ok (n : Nat) (t : Str) (ht : t.length ≤ 90000) (hc : ∀ c ∈ tl t, c < 0x110000) : (cc prog (n + 2)).call 7 [.v (.str t)] [] = .ok (.v (.tup (found 0 (Txt.split t (sg 10))))) [] := by
  rw [call_eq (d := d_b_rows_of) rfl, runF_eq _ _ _ _ _ rfl]
  simp only [d_b_rows_of, b_rows_of, Nat.reduceSub]
  have e : doCall (cc prog (n + 1)) 5 [.v (.str t)] [] = .ok (.nw (.lst (found 0 (Txt.split t (sg 10))))) [] := doCall_vl (us := [.str t]) _ (rows_in_ok n t ht hc)
  simp only [e_s, e_t, e_var, e_c, e_gl, e_fn, e_bin, e_cmp, e_ch, e_nt, e_and, e_or, e_ife, e_tup, e_lst, e_neg, e_idx, e_slc, e_on, e_os, e_rev, e_nr, e_nil, e_cons, e_call, e_bi, e_isi, e_met, e_lc, r_v, r_r, i_v, i_r, i_l, t_ok, b1_ok, b2_ok, c1_ok, c2_ok, oB_ok, h1_ok, h2_ok, h3_t, h3_f, h4_ok, n1_ok, a1_ok, a2_t, a2_f, o1_ok, o2_t, o2_f, tr_v, tr_l, tr_r, ts_v, f1_t, f1_f, p1_ok, l1_ok, au_n, au_c, om_s, g1_ok, x1_ok, x2_ok, s1_ok, s2_ok, s3_ok, q1_ok, v1_ok, w1_n, w1_r, k1_ok, k2_ok, d1_ok, d2_ok, d3_ok, y1_ok, z1_ok, z2_ok, m1_ok, mG_ok, m2_ok, lc1_ok, lc2_ok, ofO_s, ofP_s, s_cons, s_nil, s_asg, s_ifs, s_for, s_ret, s_ex, g_nm, g_sub, S1_ok, nE_ok, N1_ok, R_ok, I1_t, I1_f, F1_ok, T1_ok, E1_ok, B0_ok, B1_ok, B2_ok, B3_ok, A_nx, A_rt, V_v, V_r, V_l, W_v, W_l, i_val, i_rng, i_enm, i_zip, iv_s, iv_l, iv_t, iv_f, ir_1, ir_2, ie_l, iz_1, iz_l, iz_t, t1_nm, t1_tp, ts_nil, ts_cons, k_none, k_some, B_add, B_sub, C_lt, C_le, C_gt, C_ge, C_eq, C_ne, C_eqs, C_nes, L_int, L_intb, L_abs, L_lenl, L_lent, L_lenf, L_tup, truU, List.getElem?_cons_succ, List.getElem?_cons_zero, List.set_cons_succ, List.set_cons_zero, List.map_cons, List.map_nil, List.cons_append, List.nil_append, List.replicate_succ, List.replicate_zero, ar1 5 _ _ rfl rfl, e]
  rfl
end VM

namespace VM
open PySem TL
/-! ### rows -/
def PcS (p : Str) : Prop := p.length ≤ 3 ∧ Pc (tl p)
def RowOk (r : List Str) : Prop := r ≠ [] ∧ r.length ≤ 3 ∧ ∀ p ∈ r, PcS p
def RowsOk (rows : List (List Str)) : Prop := rows.length ≤ 5 ∧ ∀ r ∈ rows, RowOk r
def rU (r : List Str) : U := .tup (r.map .str)
def lineS (r : List Str) : Str := Txt.join (sg 32) r ++ sg 10
def toldS (rows : List (List Str)) : Str := Txt.join ⟨#[]⟩ (rows.map lineS)
theorem joinL_nil : ∀ ps : List (List Nat), joinL [] ps = ps.flatten
  | [] => rfl
  | [p] => by show p = p ++ []; simp
  | p :: q :: r => by
    show p ++ ([] ++ joinL [] (q :: r)) = p ++ (q :: r).flatten
    rw [joinL_nil (q :: r)]; rfl
theorem joinL_len {m : Nat} {S : List Nat} : ∀ {ps : List (List Nat)}, (∀ p ∈ ps, p.length ≤ m) → (joinL S ps).length ≤ ps.length * (m + S.length)
  | [], _ => by simp [joinL]
  | [p], h => by
    have := h p (List.mem_singleton.mpr rfl)
    show p.length ≤ 1 * (m + S.length)
    omega
  | p :: q :: r, h => by
    have h1 := h p (List.mem_cons_self ..)
    have ih := joinL_len (m := m) (S := S) (ps := q :: r) fun z hz => h z (List.mem_cons_of_mem _ hz)
    show (p ++ (S ++ joinL S (q :: r))).length ≤ ((q :: r).length + 1) * (m + S.length)
    rw [List.length_append, List.length_append, Nat.succ_mul]
    omega
theorem joinL_mem {S : List Nat} {c : Nat} : ∀ {ps : List (List Nat)}, c ∈ joinL S ps → c ∈ S ∨ ∃ p ∈ ps, c ∈ p
  | [], h => by simp [joinL] at h
  | [p], h => .inr ⟨p, List.mem_singleton.mpr rfl, h⟩
  | p :: q :: r, h => by
    have h : c ∈ p ++ (S ++ joinL S (q :: r)) := h
    rcases List.mem_append.mp h with h | h
    · exact .inr ⟨p, List.mem_cons_self .., h⟩
    · rcases List.mem_append.mp h with h | h
      · exact .inl h
      · rcases joinL_mem h with h | ⟨z, hz, hc⟩
        · exact .inl h
        · exact .inr ⟨z, List.mem_cons_of_mem _ hz, hc⟩
theorem tl_lineS (r : List Str) : tl (lineS r) = joinL [32] (r.map tl) ++ [10] := by
  unfold lineS
  rw [tl_append, join_eq, tl_join]
theorem tl_toldS (rows : List (List Str)) : tl (toldS rows) = ends (rows.map fun r => joinL [32] (r.map tl)) := by
  unfold toldS
  rw [join_eq, tl_join, show tl (⟨#[]⟩ : Str) = [] from rfl, joinL_nil, List.map_map]
  unfold ends
  rw [List.map_map]
  congr 1
  exact List.map_congr_left fun r _ => tl_lineS r
theorem join_short {r : List Str} (h : RowOk r) : (joinL [32] (r.map tl)).length ≤ 12 := by
  have := joinL_len (m := 3) (S := [32]) (ps := r.map tl) (fun p hp => by
    obtain ⟨z, hz, rfl⟩ := List.mem_map.mp hp
    have := (h.2.2 z hz).1
    rw [len_tl] at this
    exact this)
  rw [List.length_map] at this
  have := h.2.1
  simp only [List.length_cons, List.length_nil] at *
  omega
theorem line_short {r : List Str} (h : RowOk r) : (lineS r).length ≤ 13 := by
  have := join_short h
  rw [len_tl, tl_lineS, List.length_append]
  simp only [List.length_cons, List.length_nil]
  omega
theorem joinS_short {r : List Str} (h : RowOk r) : (Txt.join (sg 32) r).length ≤ 12 := by
  rw [len_tl, join_eq, tl_join]
  exact join_short h
theorem sum_short {α : Type} (f : α → Nat) {m : Nat} : ∀ {l : List α}, (∀ a ∈ l, f a ≤ m) → (l.map f).sum ≤ l.length * m
  | [], _ => by simp
  | a :: l, h => by
    have h1 := h a (List.mem_cons_self ..)
    have ih := sum_short f (l := l) fun b hb => h b (List.mem_cons_of_mem _ hb)
    rw [List.map_cons, List.sum_cons, List.length_cons, Nat.succ_mul]
    omega
/-- a row joined -/
theorem row_join (h : Hs) {r : List Str} (hr : RowOk r) {a : Str} (ha : a.length ≤ 2) : metS .join h (.v (.str a)) [.v (rU r)] = some (.v (.str (Txt.join a r)), h) := by
  refine L_joint h ?_
  have h1 := sum_short (fun z : Str => z.length) (m := 3) (l := r) fun p hp => (hr.2.2 p hp).1
  have h2 := hr.2.1
  have h3 : r.length * a.length ≤ 3 * 2 := Nat.mul_le_mul h2 ha
  show _ ≤ 16777216
  omega
def addL (u : U) : U := match u with
  | .tup us => .str (lineS ((strsU us).getD []))
  | u => u
theorem addL_r (r : List Str) : addL (rU r) = .str (lineS r) := by
  show U.str (lineS ((strsU (r.map U.str)).getD [])) = _
  rw [strsU_map]
  rfl
theorem told_ok (n : Nat) {rows : List (List Str)} (hr : RowsOk rows) : (cc prog (n + 1)).call 6 [.v (.tup (rows.map rU))] [] = .ok (.v (.str (toldS rows))) [] ∧ (cc prog (n + 1)).call 18 [.v (.lst (rows.map rU))] [] = .ok (.v (.str (toldS rows))) [] := by
  have turn : ∀ (f : EvE), f = evE (cc prog n) b_told_rows_1 → ∀ (a : S) (x : U), x ∈ rows.map rU → sE f [some a, some (.v x)] [] = .ok (.v (addL x)) [] := fun f hf a x hx => by
    subst hf
    obtain ⟨r, hr', rfl⟩ := List.mem_map.mp hx
    have ro := hr.2 r hr'
    simp only [b_told_rows_1]
    have bl : (Txt.join (sg 32) r).length + (sg 10).length ≤ lim := by
      have := joinS_short ro
      have e : (sg 10).length = 1 := rfl
      show _ ≤ 16777216
      omega
    simp only [e_s, e_t, e_var, e_c, e_gl, e_fn, e_bin, e_cmp, e_ch, e_nt, e_and, e_or, e_ife, e_tup, e_lst, e_neg, e_idx, e_slc, e_on, e_os, e_rev, e_nr, e_nil, e_cons, e_call, e_bi, e_isi, e_met, e_lc, r_v, r_r, i_v, i_r, i_l, t_ok, b1_ok, b2_ok, c1_ok, c2_ok, oB_ok, h1_ok, h2_ok, h3_t, h3_f, h4_ok, n1_ok, a1_ok, a2_t, a2_f, o1_ok, o2_t, o2_f, tr_v, tr_l, tr_r, ts_v, f1_t, f1_f, p1_ok, l1_ok, au_n, au_c, om_s, g1_ok, x1_ok, x2_ok, s1_ok, s2_ok, s3_ok, q1_ok, v1_ok, w1_n, w1_r, k1_ok, k2_ok, d1_ok, d2_ok, d3_ok, y1_ok, z1_ok, z2_ok, m1_ok, mG_ok, m2_ok, lc1_ok, lc2_ok, ofO_s, ofP_s, s_cons, s_nil, s_asg, s_ifs, s_for, s_ret, s_ex, g_nm, g_sub, S1_ok, nE_ok, N1_ok, R_ok, I1_t, I1_f, F1_ok, T1_ok, E1_ok, B0_ok, B1_ok, B2_ok, B3_ok, A_nx, A_rt, V_v, V_r, V_l, W_v, W_l, i_val, i_rng, i_enm, i_zip, iv_s, iv_l, iv_t, iv_f, ir_1, ir_2, ie_l, iz_1, iz_l, iz_t, t1_nm, t1_tp, ts_nil, ts_cons, k_none, k_some, B_add, B_sub, C_lt, C_le, C_gt, C_ge, C_eq, C_ne, C_eqs, C_nes, L_int, L_intb, L_abs, L_lenl, L_lent, L_lenf, L_tup, truU, List.getElem?_cons_succ, List.getElem?_cons_zero, List.set_cons_succ, List.set_cons_zero, List.map_cons, List.map_nil, List.cons_append, List.nil_append, List.replicate_succ, List.replicate_zero, T_join, row_join [] ro (a := ⟨#[32]⟩) (by decide), B_adds [] (Txt.join (sg 32) r) (sg 10) bl, addL_r]
    rfl
  have res : ((rows.map rU).filter fun _ => true).map addL = (rows.map lineS).map U.str := by
    rw [List.filter_eq_self.mpr (fun _ _ => rfl), List.map_map, List.map_map]
    exact List.map_congr_left fun r _ => addL_r r
  have jn : ∀ h, metS .join h (.v (.str ⟨#[]⟩)) [.v (.lst ((rows.map lineS).map U.str))] = some (.v (.str (toldS rows)), h) := fun h => by
    refine L_join h ?_
    have h1 := sum_short (fun z : Str => z.length) (m := 13) (l := rows.map lineS) fun p hp => by
      obtain ⟨r, hr', rfl⟩ := List.mem_map.mp hp
      exact line_short (hr.2 r hr')
    rw [List.length_map] at h1
    have h2 := hr.1
    show _ + _ * 0 ≤ 16777216
    rw [Nat.mul_zero]
    omega
  have nl : 0 + (rows.map rU).length ≤ lim := by
    rw [List.length_map]
    have := hr.1
    show _ ≤ 16777216
    omega
  constructor
  · have cm := comp_map (src := .seq (.v (.tup (rows.map rU)))) (g := evT1 (cc prog n) (.nm 1)) (k := evK (cc prog n) .none) (f := evE (cc prog n) b_told_rows_1) (ρ := [some (.v (.tup (rows.map rU))), none]) (h := []) (rows.map rU) (fun _ => true) addL
      (fun j x e => by rw [tup_at]; exact e) (tup_end _ _) (fun x hx => ⟨[some (.v (.tup (rows.map rU))), some (.v x)], by simp only [e_s, e_t, e_var, e_c, e_gl, e_fn, e_bin, e_cmp, e_ch, e_nt, e_and, e_or, e_ife, e_tup, e_lst, e_neg, e_idx, e_slc, e_on, e_os, e_rev, e_nr, e_nil, e_cons, e_call, e_bi, e_isi, e_met, e_lc, r_v, r_r, i_v, i_r, i_l, t_ok, b1_ok, b2_ok, c1_ok, c2_ok, oB_ok, h1_ok, h2_ok, h3_t, h3_f, h4_ok, n1_ok, a1_ok, a2_t, a2_f, o1_ok, o2_t, o2_f, tr_v, tr_l, tr_r, ts_v, f1_t, f1_f, p1_ok, l1_ok, au_n, au_c, om_s, g1_ok, x1_ok, x2_ok, s1_ok, s2_ok, s3_ok, q1_ok, v1_ok, w1_n, w1_r, k1_ok, k2_ok, d1_ok, d2_ok, d3_ok, y1_ok, z1_ok, z2_ok, m1_ok, mG_ok, m2_ok, lc1_ok, lc2_ok, ofO_s, ofP_s, s_cons, s_nil, s_asg, s_ifs, s_for, s_ret, s_ex, g_nm, g_sub, S1_ok, nE_ok, N1_ok, R_ok, I1_t, I1_f, F1_ok, T1_ok, E1_ok, B0_ok, B1_ok, B2_ok, B3_ok, A_nx, A_rt, V_v, V_r, V_l, W_v, W_l, i_val, i_rng, i_enm, i_zip, iv_s, iv_l, iv_t, iv_f, ir_1, ir_2, ie_l, iz_1, iz_l, iz_t, t1_nm, t1_tp, ts_nil, ts_cons, k_none, k_some, B_add, B_sub, C_lt, C_le, C_gt, C_ge, C_eq, C_ne, C_eqs, C_nes, L_int, L_intb, L_abs, L_lenl, L_lent, L_lenf, L_tup, truU, List.getElem?_cons_succ, List.getElem?_cons_zero, List.set_cons_succ, List.set_cons_zero, List.map_cons, List.map_nil, List.cons_append, List.nil_append, List.replicate_succ, List.replicate_zero], by simp only [e_s, e_t, e_var, e_c, e_gl, e_fn, e_bin, e_cmp, e_ch, e_nt, e_and, e_or, e_ife, e_tup, e_lst, e_neg, e_idx, e_slc, e_on, e_os, e_rev, e_nr, e_nil, e_cons, e_call, e_bi, e_isi, e_met, e_lc, r_v, r_r, i_v, i_r, i_l, t_ok, b1_ok, b2_ok, c1_ok, c2_ok, oB_ok, h1_ok, h2_ok, h3_t, h3_f, h4_ok, n1_ok, a1_ok, a2_t, a2_f, o1_ok, o2_t, o2_f, tr_v, tr_l, tr_r, ts_v, f1_t, f1_f, p1_ok, l1_ok, au_n, au_c, om_s, g1_ok, x1_ok, x2_ok, s1_ok, s2_ok, s3_ok, q1_ok, v1_ok, w1_n, w1_r, k1_ok, k2_ok, d1_ok, d2_ok, d3_ok, y1_ok, z1_ok, z2_ok, m1_ok, mG_ok, m2_ok, lc1_ok, lc2_ok, ofO_s, ofP_s, s_cons, s_nil, s_asg, s_ifs, s_for, s_ret, s_ex, g_nm, g_sub, S1_ok, nE_ok, N1_ok, R_ok, I1_t, I1_f, F1_ok, T1_ok, E1_ok, B0_ok, B1_ok, B2_ok, B3_ok, A_nx, A_rt, V_v, V_r, V_l, W_v, W_l, i_val, i_rng, i_enm, i_zip, iv_s, iv_l, iv_t, iv_f, ir_1, ir_2, ie_l, iz_1, iz_l, iz_t, t1_nm, t1_tp, ts_nil, ts_cons, k_none, k_some, B_add, B_sub, C_lt, C_le, C_gt, C_ge, C_eq, C_ne, C_eqs, C_nes, L_int, L_intb, L_abs, L_lenl, L_lent, L_lenf, L_tup, truU, List.getElem?_cons_succ, List.getElem?_cons_zero, List.set_cons_succ, List.set_cons_zero, List.map_cons, List.map_nil, List.cons_append, List.nil_append, List.replicate_succ, List.replicate_zero], fun _ => turn _ rfl _ x hx⟩) (rows.map rU).length 0 [] (by simp) nl
    rw [List.drop_zero, res, List.nil_append] at cm
    rw [call_eq (d := d_b_told_rows) rfl, runF_eq _ _ _ _ _ rfl]
    simp only [d_b_told_rows, b_told_rows, Nat.reduceSub]
    have wp : ∀ a b : Option S, wipeR [a, b] [1] = [a, none] := fun _ _ => rfl
    simp only [e_s, e_t, e_var, e_c, e_gl, e_fn, e_bin, e_cmp, e_ch, e_nt, e_and, e_or, e_ife, e_tup, e_lst, e_neg, e_idx, e_slc, e_on, e_os, e_rev, e_nr, e_nil, e_cons, e_call, e_bi, e_isi, e_met, e_lc, r_v, r_r, i_v, i_r, i_l, t_ok, b1_ok, b2_ok, c1_ok, c2_ok, oB_ok, h1_ok, h2_ok, h3_t, h3_f, h4_ok, n1_ok, a1_ok, a2_t, a2_f, o1_ok, o2_t, o2_f, tr_v, tr_l, tr_r, ts_v, f1_t, f1_f, p1_ok, l1_ok, au_n, au_c, om_s, g1_ok, x1_ok, x2_ok, s1_ok, s2_ok, s3_ok, q1_ok, v1_ok, w1_n, w1_r, k1_ok, k2_ok, d1_ok, d2_ok, d3_ok, y1_ok, z1_ok, z2_ok, m1_ok, mG_ok, m2_ok, lc1_ok, lc2_ok, ofO_s, ofP_s, s_cons, s_nil, s_asg, s_ifs, s_for, s_ret, s_ex, g_nm, g_sub, S1_ok, nE_ok, N1_ok, R_ok, I1_t, I1_f, F1_ok, T1_ok, E1_ok, B0_ok, B1_ok, B2_ok, B3_ok, A_nx, A_rt, V_v, V_r, V_l, W_v, W_l, i_val, i_rng, i_enm, i_zip, iv_s, iv_l, iv_t, iv_f, ir_1, ir_2, ie_l, iz_1, iz_l, iz_t, t1_nm, t1_tp, ts_nil, ts_cons, k_none, k_some, B_add, B_sub, C_lt, C_le, C_gt, C_ge, C_eq, C_ne, C_eqs, C_nes, L_int, L_intb, L_abs, L_lenl, L_lent, L_lenf, L_tup, truU, List.getElem?_cons_succ, List.getElem?_cons_zero, List.set_cons_succ, List.set_cons_zero, List.map_cons, List.map_nil, List.cons_append, List.nil_append, List.replicate_succ, List.replicate_zero, T_join, wp, cm, jn]
    rfl
  · have cm := comp_map (src := .seq (.v (.lst (rows.map rU)))) (g := evT1 (cc prog n) (.nm 1)) (k := evK (cc prog n) .none) (f := evE (cc prog n) b_law_told_1) (ρ := [some (.v (.lst (rows.map rU))), none]) (h := []) (rows.map rU) (fun _ => true) addL
      (fun j x e => by rw [lst_at]; exact e) (lst_end _ _) (fun x hx => ⟨[some (.v (.lst (rows.map rU))), some (.v x)], by simp only [e_s, e_t, e_var, e_c, e_gl, e_fn, e_bin, e_cmp, e_ch, e_nt, e_and, e_or, e_ife, e_tup, e_lst, e_neg, e_idx, e_slc, e_on, e_os, e_rev, e_nr, e_nil, e_cons, e_call, e_bi, e_isi, e_met, e_lc, r_v, r_r, i_v, i_r, i_l, t_ok, b1_ok, b2_ok, c1_ok, c2_ok, oB_ok, h1_ok, h2_ok, h3_t, h3_f, h4_ok, n1_ok, a1_ok, a2_t, a2_f, o1_ok, o2_t, o2_f, tr_v, tr_l, tr_r, ts_v, f1_t, f1_f, p1_ok, l1_ok, au_n, au_c, om_s, g1_ok, x1_ok, x2_ok, s1_ok, s2_ok, s3_ok, q1_ok, v1_ok, w1_n, w1_r, k1_ok, k2_ok, d1_ok, d2_ok, d3_ok, y1_ok, z1_ok, z2_ok, m1_ok, mG_ok, m2_ok, lc1_ok, lc2_ok, ofO_s, ofP_s, s_cons, s_nil, s_asg, s_ifs, s_for, s_ret, s_ex, g_nm, g_sub, S1_ok, nE_ok, N1_ok, R_ok, I1_t, I1_f, F1_ok, T1_ok, E1_ok, B0_ok, B1_ok, B2_ok, B3_ok, A_nx, A_rt, V_v, V_r, V_l, W_v, W_l, i_val, i_rng, i_enm, i_zip, iv_s, iv_l, iv_t, iv_f, ir_1, ir_2, ie_l, iz_1, iz_l, iz_t, t1_nm, t1_tp, ts_nil, ts_cons, k_none, k_some, B_add, B_sub, C_lt, C_le, C_gt, C_ge, C_eq, C_ne, C_eqs, C_nes, L_int, L_intb, L_abs, L_lenl, L_lent, L_lenf, L_tup, truU, List.getElem?_cons_succ, List.getElem?_cons_zero, List.set_cons_succ, List.set_cons_zero, List.map_cons, List.map_nil, List.cons_append, List.nil_append, List.replicate_succ, List.replicate_zero], by simp only [e_s, e_t, e_var, e_c, e_gl, e_fn, e_bin, e_cmp, e_ch, e_nt, e_and, e_or, e_ife, e_tup, e_lst, e_neg, e_idx, e_slc, e_on, e_os, e_rev, e_nr, e_nil, e_cons, e_call, e_bi, e_isi, e_met, e_lc, r_v, r_r, i_v, i_r, i_l, t_ok, b1_ok, b2_ok, c1_ok, c2_ok, oB_ok, h1_ok, h2_ok, h3_t, h3_f, h4_ok, n1_ok, a1_ok, a2_t, a2_f, o1_ok, o2_t, o2_f, tr_v, tr_l, tr_r, ts_v, f1_t, f1_f, p1_ok, l1_ok, au_n, au_c, om_s, g1_ok, x1_ok, x2_ok, s1_ok, s2_ok, s3_ok, q1_ok, v1_ok, w1_n, w1_r, k1_ok, k2_ok, d1_ok, d2_ok, d3_ok, y1_ok, z1_ok, z2_ok, m1_ok, mG_ok, m2_ok, lc1_ok, lc2_ok, ofO_s, ofP_s, s_cons, s_nil, s_asg, s_ifs, s_for, s_ret, s_ex, g_nm, g_sub, S1_ok, nE_ok, N1_ok, R_ok, I1_t, I1_f, F1_ok, T1_ok, E1_ok, B0_ok, B1_ok, B2_ok, B3_ok, A_nx, A_rt, V_v, V_r, V_l, W_v, W_l, i_val, i_rng, i_enm, i_zip, iv_s, iv_l, iv_t, iv_f, ir_1, ir_2, ie_l, iz_1, iz_l, iz_t, t1_nm, t1_tp, ts_nil, ts_cons, k_none, k_some, B_add, B_sub, C_lt, C_le, C_gt, C_ge, C_eq, C_ne, C_eqs, C_nes, L_int, L_intb, L_abs, L_lenl, L_lent, L_lenf, L_tup, truU, List.getElem?_cons_succ, List.getElem?_cons_zero, List.set_cons_succ, List.set_cons_zero, List.map_cons, List.map_nil, List.cons_append, List.nil_append, List.replicate_succ, List.replicate_zero], fun _ => turn _ rfl _ x hx⟩) (rows.map rU).length 0 [] (by simp) nl
    rw [List.drop_zero, res, List.nil_append] at cm
    rw [call_eq (d := d_b_law_told) rfl, runF_eq _ _ _ _ _ rfl]
    simp only [d_b_law_told, b_law_told, Nat.reduceSub]
    have wp : ∀ a b : Option S, wipeR [a, b] [1] = [a, none] := fun _ _ => rfl
    simp only [e_s, e_t, e_var, e_c, e_gl, e_fn, e_bin, e_cmp, e_ch, e_nt, e_and, e_or, e_ife, e_tup, e_lst, e_neg, e_idx, e_slc, e_on, e_os, e_rev, e_nr, e_nil, e_cons, e_call, e_bi, e_isi, e_met, e_lc, r_v, r_r, i_v, i_r, i_l, t_ok, b1_ok, b2_ok, c1_ok, c2_ok, oB_ok, h1_ok, h2_ok, h3_t, h3_f, h4_ok, n1_ok, a1_ok, a2_t, a2_f, o1_ok, o2_t, o2_f, tr_v, tr_l, tr_r, ts_v, f1_t, f1_f, p1_ok, l1_ok, au_n, au_c, om_s, g1_ok, x1_ok, x2_ok, s1_ok, s2_ok, s3_ok, q1_ok, v1_ok, w1_n, w1_r, k1_ok, k2_ok, d1_ok, d2_ok, d3_ok, y1_ok, z1_ok, z2_ok, m1_ok, mG_ok, m2_ok, lc1_ok, lc2_ok, ofO_s, ofP_s, s_cons, s_nil, s_asg, s_ifs, s_for, s_ret, s_ex, g_nm, g_sub, S1_ok, nE_ok, N1_ok, R_ok, I1_t, I1_f, F1_ok, T1_ok, E1_ok, B0_ok, B1_ok, B2_ok, B3_ok, A_nx, A_rt, V_v, V_r, V_l, W_v, W_l, i_val, i_rng, i_enm, i_zip, iv_s, iv_l, iv_t, iv_f, ir_1, ir_2, ie_l, iz_1, iz_l, iz_t, t1_nm, t1_tp, ts_nil, ts_cons, k_none, k_some, B_add, B_sub, C_lt, C_le, C_gt, C_ge, C_eq, C_ne, C_eqs, C_nes, L_int, L_intb, L_abs, L_lenl, L_lent, L_lenf, L_tup, truU, List.getElem?_cons_succ, List.getElem?_cons_zero, List.set_cons_succ, List.set_cons_zero, List.map_cons, List.map_nil, List.cons_append, List.nil_append, List.replicate_succ, List.replicate_zero, T_join, wp, cm, jn]
    rfl
theorem map_tl {l : List Str} {m : List (List Nat)} (h : l.map tl = m) : l = m.map fun c => ⟨c.toArray⟩ := map_tl_inj (by rw [h, List.map_map]; exact (List.map_id' _).symm.trans (List.map_congr_left fun c _ => rfl))
theorem pcs_of {l : Str} {r : List Str} (h : pcsL (tl l) = r.map tl) : pcs l = r := map_tl_inj ((pcs_tl l).trans h)
theorem pcsS {r : List Str} (h : RowOk r) : ∀ p ∈ r.map tl, Pc p := fun p hp => by
  obtain ⟨z, hz, rfl⟩ := List.mem_map.mp hp
  exact (h.2.2 z hz).2
theorem pcs_row {r : List Str} (h : RowOk r) : pcs (Txt.join (sg 32) r) = r := pcs_of (by
  rw [join_eq, tl_join]
  exact pcs_line (j := 0) (k := 0) (pcsS h))
theorem found1_row {r : List Str} {l : Str} (i : Nat) (h : pcs l = r) (h0 : r ≠ []) : found1 i l = [.tup [.int i, rU r]] := by
  unfold found1
  rw [h, if_neg (by simpa using h0)]
  rfl
theorem found1_no {l : Str} (i : Nat) (h : pcs l = []) : found1 i l = [] := by
  unfold found1
  rw [h]
  rfl
theorem found_rows : ∀ (rows : List (List Str)) (i : Nat), (∀ r ∈ rows, RowOk r) → found i (rows.map fun r => Txt.join (sg 32) r) = (rows.zipIdx i).map fun p => .tup [.int (p.2 : Nat), rU p.1]
  | [], _, _ => rfl
  | r :: rows, i, h => by
    have hr := h r (List.mem_cons_self ..)
    show found1 i (Txt.join (sg 32) r) ++ found (i + 1) (rows.map fun r => Txt.join (sg 32) r) = _
    rw [found1_row i (pcs_row hr) hr.1, found_rows rows (i + 1) fun z hz => h z (List.mem_cons_of_mem _ hz)]
    rfl
theorem line_no {r : List Str} (h : RowOk r) {s : Nat} (h1 : s ≠ 32) (h2 : s < 33) : s ∉ joinL [32] (r.map tl) := join_no (by simpa using h1) fun p hp => (pcsS h p hp).no (.inl h2)
/-- what rows_of tells of told rows -/
theorem found_told {rows : List (List Str)} (hr : RowsOk rows) : found 0 (Txt.split (toldS rows) (sg 10)) = rows.zipIdx.map fun p => .tup [.int (p.2 : Nat), rU p.1] := by
  have e : Txt.split (toldS rows) (sg 10) = (rows.map fun r => Txt.join (sg 32) r) ++ [⟨#[]⟩] := map_tl_inj (by
    rw [split_tl _ (by decide), tl_toldS, spl_ends, List.map_append, List.map_map]
    · congr 1
      exact List.map_congr_left fun r _ => by show _ = tl (Txt.join (sg 32) r); rw [join_eq, tl_join]
    · intro l hl
      obtain ⟨r, hr', rfl⟩ := List.mem_map.mp hl
      exact line_no (hr.2 r hr') (by decide) (by decide))
  have p0 : pcs ⟨#[]⟩ = [] := pcs_of (by rw [show tl (⟨#[]⟩ : Str) = [] from rfl, pcs_nil]; rfl)
  rw [e, found_snoc, found1_no _ p0, List.append_nil, found_rows rows 0 hr.2]
theorem told_codes {rows : List (List Str)} (hr : RowsOk rows) : (toldS rows).length ≤ 90000 ∧ ∀ c ∈ tl (toldS rows), c < 0x110000 := by
  constructor
  · rw [len_tl, tl_toldS]
    unfold ends
    rw [List.length_flatten, List.map_map]
    have h1 := sum_short (fun l : List Nat => (l ++ [10]).length) (m := 13) (l := rows.map fun r => joinL [32] (r.map tl)) fun p hp => by
      obtain ⟨r, hr', rfl⟩ := List.mem_map.mp hp
      have := join_short (hr.2 r hr')
      rw [List.length_append]
      simp only [List.length_cons, List.length_nil]
      omega
    rw [List.length_map] at h1
    have h2 := hr.1
    show (List.map (fun l : List Nat => (l ++ [10]).length) _).sum ≤ _
    omega
  · intro c hc
    rw [tl_toldS] at hc
    unfold ends at hc
    obtain ⟨l, hl, hcl⟩ := List.mem_flatten.mp hc
    obtain ⟨l', hl', rfl⟩ := List.mem_map.mp hl
    obtain ⟨r, hr', rfl⟩ := List.mem_map.mp hl'
    rcases List.mem_append.mp hcl with q | q
    · rcases joinL_mem q with q | ⟨p, hp, q⟩
      · have : c = 32 := by simpa using q
        omega
      · have := (pcsS (hr.2 r hr') p hp).2 c q
        omega
    · have : c = 10 := by simpa using q
      omega
end VM

namespace VM
open PySem TL
theorem ty_s (h : Hs) (z : Str) : tyS h (.v (.str z)) = some 3 := rfl
theorem ty_t (h : Hs) (us : List U) : tyS h (.v (.tup us)) = some 4 := rfl
theorem ty_l (h : Hs) (us : List U) : tyS h (.v (.lst us)) = some 5 := rfl
theorem ty_i (h : Hs) (i : Int) : tyS h (.v (.int i)) = some 2 := rfl
theorem ty_b (h : Hs) (i : Bool) : tyS h (.v (.bl i)) = some 1 := rfl
theorem ty_n (h : Hs) : tyS h (.v .non) = some 0 := rfl
theorem a_l3 : ([Ty.list, Ty.tuple].any (isTy 3)) = false := rfl
theorem a_l4 : ([Ty.list, Ty.tuple].any (isTy 4)) = true := rfl
theorem a_l5 : ([Ty.list, Ty.tuple].any (isTy 5)) = true := rfl
theorem a_l2 : ([Ty.list, Ty.tuple].any (isTy 2)) = false := rfl
theorem a_l1 : ([Ty.list, Ty.tuple].any (isTy 1)) = false := rfl
theorem a_l0 : ([Ty.list, Ty.tuple].any (isTy 0)) = false := rfl
theorem a_t4 : ([Ty.tuple].any (isTy 4)) = true := rfl
theorem a_s3 : ([Ty.str].any (isTy 3)) = true := rfl
theorem allT (h : Hs) : ∀ {us : List U}, (∀ u ∈ us, u = .bl true) → bltS .all h [.v (.lst us)] = some (.v (.bl true)) := fun {us} hu => by
  have : ∀ us : List U, (∀ u ∈ us, u = .bl true) → ∃ bs, blsU us = some bs ∧ bs.all id = true := fun us => by
    induction us with
    | nil => exact fun _ => ⟨[], rfl, rfl⟩
    | cons u us ih =>
      intro hu
      obtain ⟨bs, e1, e2⟩ := ih fun v hv => hu v (List.mem_cons_of_mem _ hv)
      rw [hu u (List.mem_cons_self ..)]
      exact ⟨true :: bs, by show (blsU us).map (true :: ·) = _; rw [e1]; rfl, by simpa using e2⟩
  obtain ⟨bs, e1, e2⟩ := this us hu
  show (blsU us).map (fun bs => RV.v (.bl (bs.all id))) = _
  rw [e1]
  show some (RV.v (.bl (bs.all id))) = _
  rw [e2]
/-- a comprehension of one value each, nothing left out -/
theorem comp_all {src : Src} {g : EvGs} {f : EvE} {c : CC} {ρ : Rho} {h : Hs} (xs : List U) (F : U → U) (hat : ∀ i x, xs[i]? = some x → srcAt h src i = some x) (hend : srcEnd h src xs.length = true)
    (turn : ∀ x, x ∈ xs → ∃ ρ1, g [x] ρ h = .ok ρ1 h ∧ sE f ρ1 h = .ok (.v (F x)) h) (hl : xs.length ≤ lim) : compL src g (evK c .none) f ρ xs.length 0 [] h = .ok (xs.map F) h := by
  have := comp_map (src := src) (g := g) (k := evK c .none) (f := f) (ρ := ρ) (h := h) xs (fun _ => true) F hat hend (fun x hx => let ⟨ρ1, e1, e2⟩ := turn x hx; ⟨ρ1, e1, k_none c ρ1 h, fun _ => e2⟩) xs.length 0 [] (by simp) (by simpa using hl)
  rw [this, List.drop_zero, List.nil_append, List.filter_eq_self.mpr (fun _ _ => rfl)]
/-! tupled -/
def Mx (r : List Str) (u : U) : Prop := u = .lst (r.map .str) ∨ u = .tup (r.map .str)
theorem tupled_s (n : Nat) (z : Str) : (cc prog (n + 1)).call 1 [.v (.str z)] [] = .ok (.v (.str z)) [] := by
  rw [call_eq (d := d_b_tupled) rfl, runF_eq _ _ _ _ _ rfl]
  simp only [d_b_tupled, b_tupled, Nat.reduceSub]
  simp only [e_s, e_t, e_var, e_c, e_gl, e_fn, e_bin, e_cmp, e_ch, e_nt, e_and, e_or, e_ife, e_tup, e_lst, e_neg, e_idx, e_slc, e_on, e_os, e_rev, e_nr, e_nil, e_cons, e_call, e_bi, e_isi, e_met, e_lc, r_v, r_r, i_v, i_r, i_l, t_ok, b1_ok, b2_ok, c1_ok, c2_ok, oB_ok, h1_ok, h2_ok, h3_t, h3_f, h4_ok, n1_ok, a1_ok, a2_t, a2_f, o1_ok, o2_t, o2_f, tr_v, tr_l, tr_r, ts_v, f1_t, f1_f, p1_ok, l1_ok, au_n, au_c, om_s, g1_ok, x1_ok, x2_ok, s1_ok, s2_ok, s3_ok, q1_ok, v1_ok, w1_n, w1_r, k1_ok, k2_ok, d1_ok, d2_ok, d3_ok, y1_ok, z1_ok, z2_ok, m1_ok, mG_ok, m2_ok, lc1_ok, lc2_ok, ofO_s, ofP_s, s_cons, s_nil, s_asg, s_ifs, s_for, s_ret, s_ex, g_nm, g_sub, S1_ok, nE_ok, N1_ok, R_ok, I1_t, I1_f, F1_ok, T1_ok, E1_ok, B0_ok, B1_ok, B2_ok, B3_ok, A_nx, A_rt, V_v, V_r, V_l, W_v, W_l, i_val, i_rng, i_enm, i_zip, iv_s, iv_l, iv_t, iv_f, ir_1, ir_2, ie_l, iz_1, iz_l, iz_t, t1_nm, t1_tp, ts_nil, ts_cons, k_none, k_some, B_add, B_sub, C_lt, C_le, C_gt, C_ge, C_eq, C_ne, C_eqs, C_nes, L_int, L_intb, L_abs, L_lenl, L_lent, L_lenf, L_tup, truU, List.getElem?_cons_succ, List.getElem?_cons_zero, List.set_cons_succ, List.set_cons_zero, List.map_cons, List.map_nil, List.cons_append, List.nil_append, List.replicate_succ, List.replicate_zero, ty_s, a_l3]
  rfl
/-- over a list or a tuple of things that are tupled each -/
theorem tupled_seq (n : Nat) {u : U} {us : List U} (hu : u = .lst us ∨ u = .tup us) (F : U → U) (hF : ∀ x ∈ us, (cc prog (n + 1)).call 1 [.v x] [] = .ok (.v (F x)) []) (hl : us.length ≤ 1000) : (cc prog (n + 2)).call 1 [.v u] [] = .ok (.v (.tup (us.map F))) [] := by
  have lm : us.length ≤ lim := by show _ ≤ 16777216; omega
  have wp : ∀ a b : Option S, wipeR [a, b] [1] = [a, none] := fun _ _ => rfl
  have turn : ∀ x, x ∈ us → ∃ ρ1, evT1 (cc prog (n + 1)) (.nm 1) [x] [some (.v u), none] [] = .ok ρ1 [] ∧ sE (evE (cc prog (n + 1)) b_tupled_1) ρ1 [] = .ok (.v (F x)) [] := fun x hx => by
    refine ⟨[some (.v u), some (.v x)], by simp only [e_s, e_t, e_var, e_c, e_gl, e_fn, e_bin, e_cmp, e_ch, e_nt, e_and, e_or, e_ife, e_tup, e_lst, e_neg, e_idx, e_slc, e_on, e_os, e_rev, e_nr, e_nil, e_cons, e_call, e_bi, e_isi, e_met, e_lc, r_v, r_r, i_v, i_r, i_l, t_ok, b1_ok, b2_ok, c1_ok, c2_ok, oB_ok, h1_ok, h2_ok, h3_t, h3_f, h4_ok, n1_ok, a1_ok, a2_t, a2_f, o1_ok, o2_t, o2_f, tr_v, tr_l, tr_r, ts_v, f1_t, f1_f, p1_ok, l1_ok, au_n, au_c, om_s, g1_ok, x1_ok, x2_ok, s1_ok, s2_ok, s3_ok, q1_ok, v1_ok, w1_n, w1_r, k1_ok, k2_ok, d1_ok, d2_ok, d3_ok, y1_ok, z1_ok, z2_ok, m1_ok, mG_ok, m2_ok, lc1_ok, lc2_ok, ofO_s, ofP_s, s_cons, s_nil, s_asg, s_ifs, s_for, s_ret, s_ex, g_nm, g_sub, S1_ok, nE_ok, N1_ok, R_ok, I1_t, I1_f, F1_ok, T1_ok, E1_ok, B0_ok, B1_ok, B2_ok, B3_ok, A_nx, A_rt, V_v, V_r, V_l, W_v, W_l, i_val, i_rng, i_enm, i_zip, iv_s, iv_l, iv_t, iv_f, ir_1, ir_2, ie_l, iz_1, iz_l, iz_t, t1_nm, t1_tp, ts_nil, ts_cons, k_none, k_some, B_add, B_sub, C_lt, C_le, C_gt, C_ge, C_eq, C_ne, C_eqs, C_nes, L_int, L_intb, L_abs, L_lenl, L_lent, L_lenf, L_tup, truU, List.getElem?_cons_succ, List.getElem?_cons_zero, List.set_cons_succ, List.set_cons_zero, List.map_cons, List.map_nil, List.cons_append, List.nil_append, List.replicate_succ, List.replicate_zero], ?_⟩
    have e : doCall (cc prog (n + 1)) 1 [.v x] [] = .ok (.v (F x)) [] := doCall_v (us := [x]) _ (hF x hx)
    simp only [b_tupled_1]
    simp only [e_s, e_t, e_var, e_c, e_gl, e_fn, e_bin, e_cmp, e_ch, e_nt, e_and, e_or, e_ife, e_tup, e_lst, e_neg, e_idx, e_slc, e_on, e_os, e_rev, e_nr, e_nil, e_cons, e_call, e_bi, e_isi, e_met, e_lc, r_v, r_r, i_v, i_r, i_l, t_ok, b1_ok, b2_ok, c1_ok, c2_ok, oB_ok, h1_ok, h2_ok, h3_t, h3_f, h4_ok, n1_ok, a1_ok, a2_t, a2_f, o1_ok, o2_t, o2_f, tr_v, tr_l, tr_r, ts_v, f1_t, f1_f, p1_ok, l1_ok, au_n, au_c, om_s, g1_ok, x1_ok, x2_ok, s1_ok, s2_ok, s3_ok, q1_ok, v1_ok, w1_n, w1_r, k1_ok, k2_ok, d1_ok, d2_ok, d3_ok, y1_ok, z1_ok, z2_ok, m1_ok, mG_ok, m2_ok, lc1_ok, lc2_ok, ofO_s, ofP_s, s_cons, s_nil, s_asg, s_ifs, s_for, s_ret, s_ex, g_nm, g_sub, S1_ok, nE_ok, N1_ok, R_ok, I1_t, I1_f, F1_ok, T1_ok, E1_ok, B0_ok, B1_ok, B2_ok, B3_ok, A_nx, A_rt, V_v, V_r, V_l, W_v, W_l, i_val, i_rng, i_enm, i_zip, iv_s, iv_l, iv_t, iv_f, ir_1, ir_2, ie_l, iz_1, iz_l, iz_t, t1_nm, t1_tp, ts_nil, ts_cons, k_none, k_some, B_add, B_sub, C_lt, C_le, C_gt, C_ge, C_eq, C_ne, C_eqs, C_nes, L_int, L_intb, L_abs, L_lenl, L_lent, L_lenf, L_tup, truU, List.getElem?_cons_succ, List.getElem?_cons_zero, List.set_cons_succ, List.set_cons_zero, List.map_cons, List.map_nil, List.cons_append, List.nil_append, List.replicate_succ, List.replicate_zero, ar1 1 _ _ rfl rfl, e]
  rw [call_eq (d := d_b_tupled) rfl, runF_eq _ _ _ _ _ rfl]
  simp only [d_b_tupled, b_tupled, Nat.reduceSub]
  rcases hu with rfl | rfl
  · have cm := comp_all (src := .seq (.v (.lst us))) (c := cc prog (n + 1)) us F (fun j x e => by rw [lst_at]; exact e) (lst_end _ _) turn lm
    simp only [e_s, e_t, e_var, e_c, e_gl, e_fn, e_bin, e_cmp, e_ch, e_nt, e_and, e_or, e_ife, e_tup, e_lst, e_neg, e_idx, e_slc, e_on, e_os, e_rev, e_nr, e_nil, e_cons, e_call, e_bi, e_isi, e_met, e_lc, r_v, r_r, i_v, i_r, i_l, t_ok, b1_ok, b2_ok, c1_ok, c2_ok, oB_ok, h1_ok, h2_ok, h3_t, h3_f, h4_ok, n1_ok, a1_ok, a2_t, a2_f, o1_ok, o2_t, o2_f, tr_v, tr_l, tr_r, ts_v, f1_t, f1_f, p1_ok, l1_ok, au_n, au_c, om_s, g1_ok, x1_ok, x2_ok, s1_ok, s2_ok, s3_ok, q1_ok, v1_ok, w1_n, w1_r, k1_ok, k2_ok, d1_ok, d2_ok, d3_ok, y1_ok, z1_ok, z2_ok, m1_ok, mG_ok, m2_ok, lc1_ok, lc2_ok, ofO_s, ofP_s, s_cons, s_nil, s_asg, s_ifs, s_for, s_ret, s_ex, g_nm, g_sub, S1_ok, nE_ok, N1_ok, R_ok, I1_t, I1_f, F1_ok, T1_ok, E1_ok, B0_ok, B1_ok, B2_ok, B3_ok, A_nx, A_rt, V_v, V_r, V_l, W_v, W_l, i_val, i_rng, i_enm, i_zip, iv_s, iv_l, iv_t, iv_f, ir_1, ir_2, ie_l, iz_1, iz_l, iz_t, t1_nm, t1_tp, ts_nil, ts_cons, k_none, k_some, B_add, B_sub, C_lt, C_le, C_gt, C_ge, C_eq, C_ne, C_eqs, C_nes, L_int, L_intb, L_abs, L_lenl, L_lent, L_lenf, L_tup, truU, List.getElem?_cons_succ, List.getElem?_cons_zero, List.set_cons_succ, List.set_cons_zero, List.map_cons, List.map_nil, List.cons_append, List.nil_append, List.replicate_succ, List.replicate_zero, ty_l, a_l5, wp, cm]
    rfl
  · have cm := comp_all (src := .seq (.v (.tup us))) (c := cc prog (n + 1)) us F (fun j x e => by rw [tup_at]; exact e) (tup_end _ _) turn lm
    simp only [e_s, e_t, e_var, e_c, e_gl, e_fn, e_bin, e_cmp, e_ch, e_nt, e_and, e_or, e_ife, e_tup, e_lst, e_neg, e_idx, e_slc, e_on, e_os, e_rev, e_nr, e_nil, e_cons, e_call, e_bi, e_isi, e_met, e_lc, r_v, r_r, i_v, i_r, i_l, t_ok, b1_ok, b2_ok, c1_ok, c2_ok, oB_ok, h1_ok, h2_ok, h3_t, h3_f, h4_ok, n1_ok, a1_ok, a2_t, a2_f, o1_ok, o2_t, o2_f, tr_v, tr_l, tr_r, ts_v, f1_t, f1_f, p1_ok, l1_ok, au_n, au_c, om_s, g1_ok, x1_ok, x2_ok, s1_ok, s2_ok, s3_ok, q1_ok, v1_ok, w1_n, w1_r, k1_ok, k2_ok, d1_ok, d2_ok, d3_ok, y1_ok, z1_ok, z2_ok, m1_ok, mG_ok, m2_ok, lc1_ok, lc2_ok, ofO_s, ofP_s, s_cons, s_nil, s_asg, s_ifs, s_for, s_ret, s_ex, g_nm, g_sub, S1_ok, nE_ok, N1_ok, R_ok, I1_t, I1_f, F1_ok, T1_ok, E1_ok, B0_ok, B1_ok, B2_ok, B3_ok, A_nx, A_rt, V_v, V_r, V_l, W_v, W_l, i_val, i_rng, i_enm, i_zip, iv_s, iv_l, iv_t, iv_f, ir_1, ir_2, ie_l, iz_1, iz_l, iz_t, t1_nm, t1_tp, ts_nil, ts_cons, k_none, k_some, B_add, B_sub, C_lt, C_le, C_gt, C_ge, C_eq, C_ne, C_eqs, C_nes, L_int, L_intb, L_abs, L_lenl, L_lent, L_lenf, L_tup, truU, List.getElem?_cons_succ, List.getElem?_cons_zero, List.set_cons_succ, List.set_cons_zero, List.map_cons, List.map_nil, List.cons_append, List.nil_append, List.replicate_succ, List.replicate_zero, ty_t, a_l4, wp, cm]
    rfl
theorem tupled_row (n : Nat) {r : List Str} {u : U} (hm : Mx r u) (hl : r.length ≤ 3) : (cc prog (n + 2)).call 1 [.v u] [] = .ok (.v (rU r)) [] := by
  have := tupled_seq n (us := r.map .str) hm id (fun x hx => by
    obtain ⟨z, hz, rfl⟩ := List.mem_map.mp hx
    exact tupled_s n z) (by rw [List.length_map]; omega)
  rw [List.map_id] at this
  exact this
/-- things beside rows -/
def MxL : List (List Str) → List U → Prop
  | [], us => us = []
  | r :: rows, us => ∃ u us', us = u :: us' ∧ Mx r u ∧ MxL rows us'
theorem MxL.len : ∀ {rows : List (List Str)} {us : List U}, MxL rows us → us.length = rows.length
  | [], us, h => by rw [show us = [] from h]; rfl
  | r :: rows, us, ⟨u, us', e, _, h⟩ => by rw [e, List.length_cons, MxL.len h, List.length_cons]
def tupU (u : U) : U := match u with
  | .lst us => .tup us
  | u => u
theorem tupU_mx {r : List Str} {u : U} (h : Mx r u) : tupU u = rU r := by rcases h with rfl | rfl <;> rfl
theorem MxL.map : ∀ {rows : List (List Str)} {us : List U}, MxL rows us → us.map tupU = rows.map rU
  | [], us, h => by rw [show us = [] from h]; rfl
  | r :: rows, us, ⟨u, us', e, m, h⟩ => by rw [e, List.map_cons, List.map_cons, MxL.map h, tupU_mx m]
theorem MxL.mem : ∀ {rows : List (List Str)} {us : List U}, MxL rows us → ∀ u ∈ us, ∃ r ∈ rows, Mx r u
  | [], us, h, u, hu => by rw [show us = [] from h] at hu; cases hu
  | r :: rows, us, ⟨v, us', e, m, h⟩, u, hu => by
    rw [e] at hu
    rcases List.mem_cons.mp hu with rfl | hu
    · exact ⟨r, List.mem_cons_self .., m⟩
    · obtain ⟨q, hq, mq⟩ := MxL.mem h u hu
      exact ⟨q, List.mem_cons_of_mem _ hq, mq⟩
theorem tupled_rows (n : Nat) {rows : List (List Str)} {us : List U} {u : U} (hr : RowsOk rows) (hm : MxL rows us) (hu : u = .lst us ∨ u = .tup us) : (cc prog (n + 3)).call 1 [.v u] [] = .ok (.v (.tup (rows.map rU))) [] := by
  have := tupled_seq (n + 1) hu tupU (fun x hx => by
    obtain ⟨r, hr', m⟩ := hm.mem x hx
    rw [tupU_mx m]
    exact tupled_row n m (hr.2 r hr').2.1) (by rw [hm.len]; have := hr.1; omega)
  rw [hm.map] at this
  exact this
/-! pieces -/
theorem strLt1 (a b : Nat) : strLt (sg a) (sg b) = decide (a < b) := by
  unfold strLt
  have : ([a] < [b]) ↔ a < b := by
    rw [List.cons_lt_cons_iff]
    constructor
    · rintro (h | ⟨_, h⟩)
      · exact h
      · exact absurd h (List.not_lt_nil _)
    · exact .inl
  exact decide_eq_decide.mpr this
theorem C_les (h : Hs) (a b : Nat) : cmpS .le h (.v (.str (sg a))) (.v (.str (sg b))) = some (decide (a ≤ b)) := by
  show some (!strLt (sg b) (sg a)) = _
  rw [strLt1]
  congr 1
  by_cases q : b < a
  · rw [decide_eq_true q, decide_eq_false (by omega)]; rfl
  · rw [decide_eq_false q, decide_eq_true (by omega)]; rfl
theorem str_at (h : Hs) (z : Str) (i : Nat) : srcAt h (.str z) i = (z.cps.toList.map fun c => U.str (sg c))[i]? := by rw [List.getElem?_map]; rfl
theorem str_end (h : Hs) (z : Str) : srcEnd h (.str z) z.cps.toList.length = true := Nat.ble_eq_true_of_le (Nat.le_refl _)
theorem piece_ok (n : Nat) {p : Str} (hp : PcS p) : (cc prog (n + 1)).call 4 [.v (.str p)] [] = .ok (.v (.bl true)) [] := by
  have wp : ∀ a b : Option S, wipeR [a, b] [1] = [a, none] := fun _ _ => rfl
  have hl := hp.1
  have cm := comp_all (src := .str p) (g := evT1 (cc prog n) (.nm 1)) (f := evE (cc prog n) b_is_piece_1) (c := cc prog n) (ρ := [some (.v (.str p)), none]) (h := []) (p.cps.toList.map fun c => U.str (sg c)) (fun _ => .bl true)
    (fun j x e => by rw [str_at]; exact e) (by rw [List.length_map]; exact str_end _ _) (fun x hx => by
      obtain ⟨c, hc, rfl⟩ := List.mem_map.mp hx
      obtain ⟨c1, c2, c3⟩ := hp.2.2 c hc
      refine ⟨[some (.v (.str p)), some (.v (.str (sg c)))], by simp only [e_s, e_t, e_var, e_c, e_gl, e_fn, e_bin, e_cmp, e_ch, e_nt, e_and, e_or, e_ife, e_tup, e_lst, e_neg, e_idx, e_slc, e_on, e_os, e_rev, e_nr, e_nil, e_cons, e_call, e_bi, e_isi, e_met, e_lc, r_v, r_r, i_v, i_r, i_l, t_ok, b1_ok, b2_ok, c1_ok, c2_ok, oB_ok, h1_ok, h2_ok, h3_t, h3_f, h4_ok, n1_ok, a1_ok, a2_t, a2_f, o1_ok, o2_t, o2_f, tr_v, tr_l, tr_r, ts_v, f1_t, f1_f, p1_ok, l1_ok, au_n, au_c, om_s, g1_ok, x1_ok, x2_ok, s1_ok, s2_ok, s3_ok, q1_ok, v1_ok, w1_n, w1_r, k1_ok, k2_ok, d1_ok, d2_ok, d3_ok, y1_ok, z1_ok, z2_ok, m1_ok, mG_ok, m2_ok, lc1_ok, lc2_ok, ofO_s, ofP_s, s_cons, s_nil, s_asg, s_ifs, s_for, s_ret, s_ex, g_nm, g_sub, S1_ok, nE_ok, N1_ok, R_ok, I1_t, I1_f, F1_ok, T1_ok, E1_ok, B0_ok, B1_ok, B2_ok, B3_ok, A_nx, A_rt, V_v, V_r, V_l, W_v, W_l, i_val, i_rng, i_enm, i_zip, iv_s, iv_l, iv_t, iv_f, ir_1, ir_2, ie_l, iz_1, iz_l, iz_t, t1_nm, t1_tp, ts_nil, ts_cons, k_none, k_some, B_add, B_sub, C_lt, C_le, C_gt, C_ge, C_eq, C_ne, C_eqs, C_nes, L_int, L_intb, L_abs, L_lenl, L_lent, L_lenf, L_tup, truU, List.getElem?_cons_succ, List.getElem?_cons_zero, List.set_cons_succ, List.set_cons_zero, List.map_cons, List.map_nil, List.cons_append, List.nil_append, List.replicate_succ, List.replicate_zero], ?_⟩
      have ne : decide (sg c = (⟨#[35]⟩ : Str)) = false := decide_eq_false fun e => c3 (by simpa using congrArg tl e)
      simp only [b_is_piece_1]
      simp only [e_s, e_t, e_var, e_c, e_gl, e_fn, e_bin, e_cmp, e_ch, e_nt, e_and, e_or, e_ife, e_tup, e_lst, e_neg, e_idx, e_slc, e_on, e_os, e_rev, e_nr, e_nil, e_cons, e_call, e_bi, e_isi, e_met, e_lc, r_v, r_r, i_v, i_r, i_l, t_ok, b1_ok, b2_ok, c1_ok, c2_ok, oB_ok, h1_ok, h2_ok, h3_t, h3_f, h4_ok, n1_ok, a1_ok, a2_t, a2_f, o1_ok, o2_t, o2_f, tr_v, tr_l, tr_r, ts_v, f1_t, f1_f, p1_ok, l1_ok, au_n, au_c, om_s, g1_ok, x1_ok, x2_ok, s1_ok, s2_ok, s3_ok, q1_ok, v1_ok, w1_n, w1_r, k1_ok, k2_ok, d1_ok, d2_ok, d3_ok, y1_ok, z1_ok, z2_ok, m1_ok, mG_ok, m2_ok, lc1_ok, lc2_ok, ofO_s, ofP_s, s_cons, s_nil, s_asg, s_ifs, s_for, s_ret, s_ex, g_nm, g_sub, S1_ok, nE_ok, N1_ok, R_ok, I1_t, I1_f, F1_ok, T1_ok, E1_ok, B0_ok, B1_ok, B2_ok, B3_ok, A_nx, A_rt, V_v, V_r, V_l, W_v, W_l, i_val, i_rng, i_enm, i_zip, iv_s, iv_l, iv_t, iv_f, ir_1, ir_2, ie_l, iz_1, iz_l, iz_t, t1_nm, t1_tp, ts_nil, ts_cons, k_none, k_some, B_add, B_sub, C_lt, C_le, C_gt, C_ge, C_eq, C_ne, C_eqs, C_nes, L_int, L_intb, L_abs, L_lenl, L_lent, L_lenf, L_tup, truU, List.getElem?_cons_succ, List.getElem?_cons_zero, List.set_cons_succ, List.set_cons_zero, List.map_cons, List.map_nil, List.cons_append, List.nil_append, List.replicate_succ, List.replicate_zero, C_les _ 33 c, C_les _ c 126, decide_eq_true c1, decide_eq_true c2, ne, Bool.not_false]) (by rw [List.length_map, ← len_tl]; show _ ≤ 16777216; omega)
  rw [List.length_map] at cm
  have ne : decide (p = (⟨#[]⟩ : Str)) = false := decide_eq_false fun e => hp.2.1 (by rw [e])
  rw [call_eq (d := d_b_is_piece) rfl, runF_eq _ _ _ _ _ rfl]
  simp only [d_b_is_piece, b_is_piece, Nat.reduceSub]
  simp only [e_s, e_t, e_var, e_c, e_gl, e_fn, e_bin, e_cmp, e_ch, e_nt, e_and, e_or, e_ife, e_tup, e_lst, e_neg, e_idx, e_slc, e_on, e_os, e_rev, e_nr, e_nil, e_cons, e_call, e_bi, e_isi, e_met, e_lc, r_v, r_r, i_v, i_r, i_l, t_ok, b1_ok, b2_ok, c1_ok, c2_ok, oB_ok, h1_ok, h2_ok, h3_t, h3_f, h4_ok, n1_ok, a1_ok, a2_t, a2_f, o1_ok, o2_t, o2_f, tr_v, tr_l, tr_r, ts_v, f1_t, f1_f, p1_ok, l1_ok, au_n, au_c, om_s, g1_ok, x1_ok, x2_ok, s1_ok, s2_ok, s3_ok, q1_ok, v1_ok, w1_n, w1_r, k1_ok, k2_ok, d1_ok, d2_ok, d3_ok, y1_ok, z1_ok, z2_ok, m1_ok, mG_ok, m2_ok, lc1_ok, lc2_ok, ofO_s, ofP_s, s_cons, s_nil, s_asg, s_ifs, s_for, s_ret, s_ex, g_nm, g_sub, S1_ok, nE_ok, N1_ok, R_ok, I1_t, I1_f, F1_ok, T1_ok, E1_ok, B0_ok, B1_ok, B2_ok, B3_ok, A_nx, A_rt, V_v, V_r, V_l, W_v, W_l, i_val, i_rng, i_enm, i_zip, iv_s, iv_l, iv_t, iv_f, ir_1, ir_2, ie_l, iz_1, iz_l, iz_t, t1_nm, t1_tp, ts_nil, ts_cons, k_none, k_some, B_add, B_sub, C_lt, C_le, C_gt, C_ge, C_eq, C_ne, C_eqs, C_nes, L_int, L_intb, L_abs, L_lenl, L_lent, L_lenf, L_tup, truU, List.getElem?_cons_succ, List.getElem?_cons_zero, List.set_cons_succ, List.set_cons_zero, List.map_cons, List.map_nil, List.cons_append, List.nil_append, List.replicate_succ, List.replicate_zero, ty_s, a_s3, ne, Bool.not_false, wp, cm, allT [] (us := (p.cps.toList.map fun c => U.str (sg c)).map fun _ => U.bl true) (fun u hu => by obtain ⟨_, _, rfl⟩ := List.mem_map.mp hu; rfl)]
  rfl
theorem text_of_ok (n : Nat) {rows : List (List Str)} {us : List U} {u : U} (hr : RowsOk rows) (hm : MxL rows us) (hu : u = .lst us ∨ u = .tup us) : (cc prog (n + 4)).call 8 [.v u] [] = .ok (.v (.str (toldS rows))) [] := by
  have e1 : doCall (cc prog (n + 3)) 1 [.v u] [] = .ok (.v (.tup (rows.map rU))) [] := doCall_v (us := [u]) _ (tupled_rows n hr hm hu)
  have e2 : doCall (cc prog (n + 3)) 6 [.v (.tup (rows.map rU))] [] = .ok (.v (.str (toldS rows))) [] := doCall_v (us := [.tup (rows.map rU)]) _ (told_ok (n + 2) hr).1
  have lr : (rows.map rU).length ≤ lim := by rw [List.length_map]; have := hr.1; show _ ≤ 16777216; omega
  have w2 : ∀ a b c d : Option S, wipeR [a, b, c, d] [2] = [a, b, none, d] := fun _ _ _ _ => rfl
  have w3 : ∀ a b c d : Option S, wipeR [a, b, c, d] [3] = [a, b, c, none] := fun _ _ _ _ => rfl
  have c1 := comp_all (src := .seq (.v (.tup (rows.map rU)))) (g := evT1 (cc prog (n + 3)) (.nm 2)) (f := evE (cc prog (n + 3)) b_text_of_1) (c := cc prog (n + 3)) (ρ := [some (.v u), some (.v (.tup (rows.map rU))), none, none]) (h := []) (rows.map rU) (fun _ => .bl true)
    (fun j x e => by rw [tup_at]; exact e) (tup_end _ _) (fun x hx => by
      obtain ⟨r, hr', rfl⟩ := List.mem_map.mp hx
      have ro := hr.2 r hr'
      refine ⟨[some (.v u), some (.v (.tup (rows.map rU))), some (.v (rU r)), none], by simp only [e_s, e_t, e_var, e_c, e_gl, e_fn, e_bin, e_cmp, e_ch, e_nt, e_and, e_or, e_ife, e_tup, e_lst, e_neg, e_idx, e_slc, e_on, e_os, e_rev, e_nr, e_nil, e_cons, e_call, e_bi, e_isi, e_met, e_lc, r_v, r_r, i_v, i_r, i_l, t_ok, b1_ok, b2_ok, c1_ok, c2_ok, oB_ok, h1_ok, h2_ok, h3_t, h3_f, h4_ok, n1_ok, a1_ok, a2_t, a2_f, o1_ok, o2_t, o2_f, tr_v, tr_l, tr_r, ts_v, f1_t, f1_f, p1_ok, l1_ok, au_n, au_c, om_s, g1_ok, x1_ok, x2_ok, s1_ok, s2_ok, s3_ok, q1_ok, v1_ok, w1_n, w1_r, k1_ok, k2_ok, d1_ok, d2_ok, d3_ok, y1_ok, z1_ok, z2_ok, m1_ok, mG_ok, m2_ok, lc1_ok, lc2_ok, ofO_s, ofP_s, s_cons, s_nil, s_asg, s_ifs, s_for, s_ret, s_ex, g_nm, g_sub, S1_ok, nE_ok, N1_ok, R_ok, I1_t, I1_f, F1_ok, T1_ok, E1_ok, B0_ok, B1_ok, B2_ok, B3_ok, A_nx, A_rt, V_v, V_r, V_l, W_v, W_l, i_val, i_rng, i_enm, i_zip, iv_s, iv_l, iv_t, iv_f, ir_1, ir_2, ie_l, iz_1, iz_l, iz_t, t1_nm, t1_tp, ts_nil, ts_cons, k_none, k_some, B_add, B_sub, C_lt, C_le, C_gt, C_ge, C_eq, C_ne, C_eqs, C_nes, L_int, L_intb, L_abs, L_lenl, L_lent, L_lenf, L_tup, truU, List.getElem?_cons_succ, List.getElem?_cons_zero, List.set_cons_succ, List.set_cons_zero, List.map_cons, List.map_nil, List.cons_append, List.nil_append, List.replicate_succ, List.replicate_zero], ?_⟩
      have ne : cmpS .ne [] (.v (rU r)) (.v (.tup [])) = some (!r.isEmpty) := C_net0 [] fun y hy c hc => by have := (ro.2.2 y hy).2.2 c hc; omega
      have ne2 : (!r.isEmpty) = true := by cases r with
        | nil => exact absurd rfl ro.1
        | cons _ _ => rfl
      have tr : tyS [] (.v (rU r)) = some 4 := rfl
      simp only [b_text_of_1]
      simp only [e_s, e_t, e_var, e_c, e_gl, e_fn, e_bin, e_cmp, e_ch, e_nt, e_and, e_or, e_ife, e_tup, e_lst, e_neg, e_idx, e_slc, e_on, e_os, e_rev, e_nr, e_nil, e_cons, e_call, e_bi, e_isi, e_met, e_lc, r_v, r_r, i_v, i_r, i_l, t_ok, b1_ok, b2_ok, c1_ok, c2_ok, oB_ok, h1_ok, h2_ok, h3_t, h3_f, h4_ok, n1_ok, a1_ok, a2_t, a2_f, o1_ok, o2_t, o2_f, tr_v, tr_l, tr_r, ts_v, f1_t, f1_f, p1_ok, l1_ok, au_n, au_c, om_s, g1_ok, x1_ok, x2_ok, s1_ok, s2_ok, s3_ok, q1_ok, v1_ok, w1_n, w1_r, k1_ok, k2_ok, d1_ok, d2_ok, d3_ok, y1_ok, z1_ok, z2_ok, m1_ok, mG_ok, m2_ok, lc1_ok, lc2_ok, ofO_s, ofP_s, s_cons, s_nil, s_asg, s_ifs, s_for, s_ret, s_ex, g_nm, g_sub, S1_ok, nE_ok, N1_ok, R_ok, I1_t, I1_f, F1_ok, T1_ok, E1_ok, B0_ok, B1_ok, B2_ok, B3_ok, A_nx, A_rt, V_v, V_r, V_l, W_v, W_l, i_val, i_rng, i_enm, i_zip, iv_s, iv_l, iv_t, iv_f, ir_1, ir_2, ie_l, iz_1, iz_l, iz_t, t1_nm, t1_tp, ts_nil, ts_cons, k_none, k_some, B_add, B_sub, C_lt, C_le, C_gt, C_ge, C_eq, C_ne, C_eqs, C_nes, L_int, L_intb, L_abs, L_lenl, L_lent, L_lenf, L_tup, truU, List.getElem?_cons_succ, List.getElem?_cons_zero, List.set_cons_succ, List.set_cons_zero, List.map_cons, List.map_nil, List.cons_append, List.nil_append, List.replicate_succ, List.replicate_zero, tr, a_t4, p2_ok _ [] (by decide), ne, ne2]) lr
  have c3 := comp_all (src := .seq (.v (.tup (rows.map rU)))) (g := evT1 (cc prog (n + 3)) (.nm 2)) (f := evE (cc prog (n + 3)) b_text_of_3) (c := cc prog (n + 3)) (ρ := [some (.v u), some (.v (.tup (rows.map rU))), none, none]) (h := []) (rows.map rU) (fun _ => .bl true)
    (fun j x e => by rw [tup_at]; exact e) (tup_end _ _) (fun x hx => by
      obtain ⟨r, hr', rfl⟩ := List.mem_map.mp hx
      have ro := hr.2 r hr'
      refine ⟨[some (.v u), some (.v (.tup (rows.map rU))), some (.v (rU r)), none], by simp only [e_s, e_t, e_var, e_c, e_gl, e_fn, e_bin, e_cmp, e_ch, e_nt, e_and, e_or, e_ife, e_tup, e_lst, e_neg, e_idx, e_slc, e_on, e_os, e_rev, e_nr, e_nil, e_cons, e_call, e_bi, e_isi, e_met, e_lc, r_v, r_r, i_v, i_r, i_l, t_ok, b1_ok, b2_ok, c1_ok, c2_ok, oB_ok, h1_ok, h2_ok, h3_t, h3_f, h4_ok, n1_ok, a1_ok, a2_t, a2_f, o1_ok, o2_t, o2_f, tr_v, tr_l, tr_r, ts_v, f1_t, f1_f, p1_ok, l1_ok, au_n, au_c, om_s, g1_ok, x1_ok, x2_ok, s1_ok, s2_ok, s3_ok, q1_ok, v1_ok, w1_n, w1_r, k1_ok, k2_ok, d1_ok, d2_ok, d3_ok, y1_ok, z1_ok, z2_ok, m1_ok, mG_ok, m2_ok, lc1_ok, lc2_ok, ofO_s, ofP_s, s_cons, s_nil, s_asg, s_ifs, s_for, s_ret, s_ex, g_nm, g_sub, S1_ok, nE_ok, N1_ok, R_ok, I1_t, I1_f, F1_ok, T1_ok, E1_ok, B0_ok, B1_ok, B2_ok, B3_ok, A_nx, A_rt, V_v, V_r, V_l, W_v, W_l, i_val, i_rng, i_enm, i_zip, iv_s, iv_l, iv_t, iv_f, ir_1, ir_2, ie_l, iz_1, iz_l, iz_t, t1_nm, t1_tp, ts_nil, ts_cons, k_none, k_some, B_add, B_sub, C_lt, C_le, C_gt, C_ge, C_eq, C_ne, C_eqs, C_nes, L_int, L_intb, L_abs, L_lenl, L_lent, L_lenf, L_tup, truU, List.getElem?_cons_succ, List.getElem?_cons_zero, List.set_cons_succ, List.set_cons_zero, List.map_cons, List.map_nil, List.cons_append, List.nil_append, List.replicate_succ, List.replicate_zero], ?_⟩
      have lr2 : (r.map U.str).length ≤ lim := by rw [List.length_map]; have := ro.2.1; show _ ≤ 16777216; omega
      have cc2 := comp_all (src := .seq (.v (rU r))) (g := evT1 (cc prog (n + 3)) (.nm 3)) (f := evE (cc prog (n + 3)) b_text_of_2) (c := cc prog (n + 3)) (ρ := [some (.v u), some (.v (.tup (rows.map rU))), some (.v (rU r)), none]) (h := []) (r.map .str) (fun _ => .bl true)
        (fun j x e => by rw [show rU r = .tup (r.map .str) from rfl, tup_at]; exact e) (tup_end _ _) (fun x hx => by
          obtain ⟨p, hp, rfl⟩ := List.mem_map.mp hx
          refine ⟨[some (.v u), some (.v (.tup (rows.map rU))), some (.v (rU r)), some (.v (.str p))], by simp only [e_s, e_t, e_var, e_c, e_gl, e_fn, e_bin, e_cmp, e_ch, e_nt, e_and, e_or, e_ife, e_tup, e_lst, e_neg, e_idx, e_slc, e_on, e_os, e_rev, e_nr, e_nil, e_cons, e_call, e_bi, e_isi, e_met, e_lc, r_v, r_r, i_v, i_r, i_l, t_ok, b1_ok, b2_ok, c1_ok, c2_ok, oB_ok, h1_ok, h2_ok, h3_t, h3_f, h4_ok, n1_ok, a1_ok, a2_t, a2_f, o1_ok, o2_t, o2_f, tr_v, tr_l, tr_r, ts_v, f1_t, f1_f, p1_ok, l1_ok, au_n, au_c, om_s, g1_ok, x1_ok, x2_ok, s1_ok, s2_ok, s3_ok, q1_ok, v1_ok, w1_n, w1_r, k1_ok, k2_ok, d1_ok, d2_ok, d3_ok, y1_ok, z1_ok, z2_ok, m1_ok, mG_ok, m2_ok, lc1_ok, lc2_ok, ofO_s, ofP_s, s_cons, s_nil, s_asg, s_ifs, s_for, s_ret, s_ex, g_nm, g_sub, S1_ok, nE_ok, N1_ok, R_ok, I1_t, I1_f, F1_ok, T1_ok, E1_ok, B0_ok, B1_ok, B2_ok, B3_ok, A_nx, A_rt, V_v, V_r, V_l, W_v, W_l, i_val, i_rng, i_enm, i_zip, iv_s, iv_l, iv_t, iv_f, ir_1, ir_2, ie_l, iz_1, iz_l, iz_t, t1_nm, t1_tp, ts_nil, ts_cons, k_none, k_some, B_add, B_sub, C_lt, C_le, C_gt, C_ge, C_eq, C_ne, C_eqs, C_nes, L_int, L_intb, L_abs, L_lenl, L_lent, L_lenf, L_tup, truU, List.getElem?_cons_succ, List.getElem?_cons_zero, List.set_cons_succ, List.set_cons_zero, List.map_cons, List.map_nil, List.cons_append, List.nil_append, List.replicate_succ, List.replicate_zero], ?_⟩
          have e : doCall (cc prog (n + 3)) 4 [.v (.str p)] [] = .ok (.v (.bl true)) [] := doCall_v (us := [.str p]) _ (piece_ok (n + 2) (ro.2.2 p hp))
          simp only [b_text_of_2]
          simp only [e_s, e_t, e_var, e_c, e_gl, e_fn, e_bin, e_cmp, e_ch, e_nt, e_and, e_or, e_ife, e_tup, e_lst, e_neg, e_idx, e_slc, e_on, e_os, e_rev, e_nr, e_nil, e_cons, e_call, e_bi, e_isi, e_met, e_lc, r_v, r_r, i_v, i_r, i_l, t_ok, b1_ok, b2_ok, c1_ok, c2_ok, oB_ok, h1_ok, h2_ok, h3_t, h3_f, h4_ok, n1_ok, a1_ok, a2_t, a2_f, o1_ok, o2_t, o2_f, tr_v, tr_l, tr_r, ts_v, f1_t, f1_f, p1_ok, l1_ok, au_n, au_c, om_s, g1_ok, x1_ok, x2_ok, s1_ok, s2_ok, s3_ok, q1_ok, v1_ok, w1_n, w1_r, k1_ok, k2_ok, d1_ok, d2_ok, d3_ok, y1_ok, z1_ok, z2_ok, m1_ok, mG_ok, m2_ok, lc1_ok, lc2_ok, ofO_s, ofP_s, s_cons, s_nil, s_asg, s_ifs, s_for, s_ret, s_ex, g_nm, g_sub, S1_ok, nE_ok, N1_ok, R_ok, I1_t, I1_f, F1_ok, T1_ok, E1_ok, B0_ok, B1_ok, B2_ok, B3_ok, A_nx, A_rt, V_v, V_r, V_l, W_v, W_l, i_val, i_rng, i_enm, i_zip, iv_s, iv_l, iv_t, iv_f, ir_1, ir_2, ie_l, iz_1, iz_l, iz_t, t1_nm, t1_tp, ts_nil, ts_cons, k_none, k_some, B_add, B_sub, C_lt, C_le, C_gt, C_ge, C_eq, C_ne, C_eqs, C_nes, L_int, L_intb, L_abs, L_lenl, L_lent, L_lenf, L_tup, truU, List.getElem?_cons_succ, List.getElem?_cons_zero, List.set_cons_succ, List.set_cons_zero, List.map_cons, List.map_nil, List.cons_append, List.nil_append, List.replicate_succ, List.replicate_zero, ar1 4 _ _ rfl rfl, e]) lr2
      have ivr : iv1 (.ok (.v (rU r)) []) = .ok (.seq (.v (rU r)), (r.map U.str).length) [] := rfl
      simp only [b_text_of_3]
      simp only [e_s, e_t, e_var, e_c, e_gl, e_fn, e_bin, e_cmp, e_ch, e_nt, e_and, e_or, e_ife, e_tup, e_lst, e_neg, e_idx, e_slc, e_on, e_os, e_rev, e_nr, e_nil, e_cons, e_call, e_bi, e_isi, e_met, e_lc, r_v, r_r, i_v, i_r, i_l, t_ok, b1_ok, b2_ok, c1_ok, c2_ok, oB_ok, h1_ok, h2_ok, h3_t, h3_f, h4_ok, n1_ok, a1_ok, a2_t, a2_f, o1_ok, o2_t, o2_f, tr_v, tr_l, tr_r, ts_v, f1_t, f1_f, p1_ok, l1_ok, au_n, au_c, om_s, g1_ok, x1_ok, x2_ok, s1_ok, s2_ok, s3_ok, q1_ok, v1_ok, w1_n, w1_r, k1_ok, k2_ok, d1_ok, d2_ok, d3_ok, y1_ok, z1_ok, z2_ok, m1_ok, mG_ok, m2_ok, lc1_ok, lc2_ok, ofO_s, ofP_s, s_cons, s_nil, s_asg, s_ifs, s_for, s_ret, s_ex, g_nm, g_sub, S1_ok, nE_ok, N1_ok, R_ok, I1_t, I1_f, F1_ok, T1_ok, E1_ok, B0_ok, B1_ok, B2_ok, B3_ok, A_nx, A_rt, V_v, V_r, V_l, W_v, W_l, i_val, i_rng, i_enm, i_zip, iv_s, iv_l, iv_t, iv_f, ir_1, ir_2, ie_l, iz_1, iz_l, iz_t, t1_nm, t1_tp, ts_nil, ts_cons, k_none, k_some, B_add, B_sub, C_lt, C_le, C_gt, C_ge, C_eq, C_ne, C_eqs, C_nes, L_int, L_intb, L_abs, L_lenl, L_lent, L_lenf, L_tup, truU, List.getElem?_cons_succ, List.getElem?_cons_zero, List.set_cons_succ, List.set_cons_zero, List.map_cons, List.map_nil, List.cons_append, List.nil_append, List.replicate_succ, List.replicate_zero, ivr, w3, cc2, allT [] (us := (r.map U.str).map fun _ => U.bl true) (fun u hu => by obtain ⟨_, _, rfl⟩ := List.mem_map.mp hu; rfl)]) lr
  have aT := allT [] (us := (rows.map rU).map fun _ => U.bl true) (fun u hu => by obtain ⟨_, _, rfl⟩ := List.mem_map.mp hu; rfl)
  rw [call_eq (d := d_b_text_of) rfl, runF_eq _ _ _ _ _ rfl]
  simp only [d_b_text_of, b_text_of, Nat.reduceSub]
  simp only [e_s, e_t, e_var, e_c, e_gl, e_fn, e_bin, e_cmp, e_ch, e_nt, e_and, e_or, e_ife, e_tup, e_lst, e_neg, e_idx, e_slc, e_on, e_os, e_rev, e_nr, e_nil, e_cons, e_call, e_bi, e_isi, e_met, e_lc, r_v, r_r, i_v, i_r, i_l, t_ok, b1_ok, b2_ok, c1_ok, c2_ok, oB_ok, h1_ok, h2_ok, h3_t, h3_f, h4_ok, n1_ok, a1_ok, a2_t, a2_f, o1_ok, o2_t, o2_f, tr_v, tr_l, tr_r, ts_v, f1_t, f1_f, p1_ok, l1_ok, au_n, au_c, om_s, g1_ok, x1_ok, x2_ok, s1_ok, s2_ok, s3_ok, q1_ok, v1_ok, w1_n, w1_r, k1_ok, k2_ok, d1_ok, d2_ok, d3_ok, y1_ok, z1_ok, z2_ok, m1_ok, mG_ok, m2_ok, lc1_ok, lc2_ok, ofO_s, ofP_s, s_cons, s_nil, s_asg, s_ifs, s_for, s_ret, s_ex, g_nm, g_sub, S1_ok, nE_ok, N1_ok, R_ok, I1_t, I1_f, F1_ok, T1_ok, E1_ok, B0_ok, B1_ok, B2_ok, B3_ok, A_nx, A_rt, V_v, V_r, V_l, W_v, W_l, i_val, i_rng, i_enm, i_zip, iv_s, iv_l, iv_t, iv_f, ir_1, ir_2, ie_l, iz_1, iz_l, iz_t, t1_nm, t1_tp, ts_nil, ts_cons, k_none, k_some, B_add, B_sub, C_lt, C_le, C_gt, C_ge, C_eq, C_ne, C_eqs, C_nes, L_int, L_intb, L_abs, L_lenl, L_lent, L_lenf, L_tup, truU, List.getElem?_cons_succ, List.getElem?_cons_zero, List.set_cons_succ, List.set_cons_zero, List.map_cons, List.map_nil, List.cons_append, List.nil_append, List.replicate_succ, List.replicate_zero, ar1 1 _ _ rfl rfl, ar1 6 _ _ rfl rfl, e1, e2, ty_t, a_t4, w2, c1, c3, aT, Bool.not_true, Bool.not_false]
  rfl
end VM

namespace VM
open PySem TL
/-- a call that gives a list or a tuple and draws -/
def Seqs (c : CC) (f : Nat) (as : List U) (xs : List U) (us : List U) (xs' : List U) : Prop :=
  c.call f (.r 0 :: as.map .v) [.lst xs] = .ok (.nw (.lst us)) [.lst xs'] ∨ c.call f (.r 0 :: as.map .v) [.lst xs] = .ok (.v (.tup us)) [.lst xs']
/-- .. as an item -/
def AsU (c : CC) (f : Nat) (as : List U) (xs : List U) (u : U) (xs' : List U) : Prop :=
  c.call f (.r 0 :: as.map .v) [.lst xs] = .ok (.v u) [.lst xs'] ∨ ∃ us, u = .lst us ∧ c.call f (.r 0 :: as.map .v) [.lst xs] = .ok (.nw (.lst us)) [.lst xs']
theorem AsU.item {c : CC} {f : Nat} {as xs : List U} {u : U} {xs' : List U} {h : Hs} {i : Nat} (a : AsU c f as xs u xs') (hi : h[i]? = some (.lst xs)) : item (doCall c f (.r i :: as.map .v) h) = .ok (.v u) (h.set i (.lst xs')) := by
  rcases a with e | ⟨us, rfl, e⟩
  · rw [doCall_t (r := .v u) hi e]; rfl
  · rw [doCall_tl hi e]; rfl
theorem mixed_s (n : Nat) (z : Str) (xs : List U) : (cc prog (n + 1)).call 17 [.r 0, .v (.str z)] [.lst xs] = .ok (.v (.str z)) [.lst xs] := by
  rw [call_eq (d := d_b_law_mixed) rfl, runF_eq _ _ _ _ _ rfl]
  simp only [d_b_law_mixed, b_law_mixed, Nat.reduceSub]
  simp only [e_s, e_t, e_var, e_c, e_gl, e_fn, e_bin, e_cmp, e_ch, e_nt, e_and, e_or, e_ife, e_tup, e_lst, e_neg, e_idx, e_slc, e_on, e_os, e_rev, e_nr, e_nil, e_cons, e_call, e_bi, e_isi, e_met, e_lc, r_v, r_r, i_v, i_r, i_l, t_ok, b1_ok, b2_ok, c1_ok, c2_ok, oB_ok, h1_ok, h2_ok, h3_t, h3_f, h4_ok, n1_ok, a1_ok, a2_t, a2_f, o1_ok, o2_t, o2_f, tr_v, tr_l, tr_r, ts_v, f1_t, f1_f, p1_ok, l1_ok, au_n, au_c, om_s, g1_ok, x1_ok, x2_ok, s1_ok, s2_ok, s3_ok, q1_ok, v1_ok, w1_n, w1_r, k1_ok, k2_ok, d1_ok, d2_ok, d3_ok, y1_ok, z1_ok, z2_ok, m1_ok, mG_ok, m2_ok, lc1_ok, lc2_ok, ofO_s, ofP_s, s_cons, s_nil, s_asg, s_ifs, s_for, s_ret, s_ex, g_nm, g_sub, S1_ok, nE_ok, N1_ok, R_ok, I1_t, I1_f, F1_ok, T1_ok, E1_ok, B0_ok, B1_ok, B2_ok, B3_ok, A_nx, A_rt, V_v, V_r, V_l, W_v, W_l, i_val, i_rng, i_enm, i_zip, iv_s, iv_l, iv_t, iv_f, ir_1, ir_2, ie_l, iz_1, iz_l, iz_t, t1_nm, t1_tp, ts_nil, ts_cons, k_none, k_some, B_add, B_sub, C_lt, C_le, C_gt, C_ge, C_eq, C_ne, C_eqs, C_nes, L_int, L_intb, L_abs, L_lenl, L_lent, L_lenf, L_tup, truU, List.getElem?_cons_succ, List.getElem?_cons_zero, List.set_cons_succ, List.set_cons_zero, List.map_cons, List.map_nil, List.cons_append, List.nil_append, List.replicate_succ, List.replicate_zero, ty_s, a_l3, Bool.not_false]
  rfl
theorem mixed_seq (n K B : Nat) (hB : B ≤ 1000000000) {m : U} {ms : List U} (hm : m = .lst ms ∨ m = .tup ms) (P : Nat → U → Prop) (hl : ms.length ≤ 1000)
    (each : ∀ i x t xs, ms[i]? = some x → Tin t xs → t < B → ∃ u xs', AsU (cc prog (n + 1)) 17 [x] xs u xs' ∧ P i u ∧ Tin (t + K) xs')
    (hK : K ≤ 10) {t : Nat} {xs : List U} (hT : Tin t xs) (ht : t + 20000 < B) :
    ∃ us u xs', AsU (cc prog (n + 2)) 17 [m] xs u xs' ∧ (u = .lst us ∨ u = .tup us) ∧ us.length = ms.length ∧ (∀ j v, us[j]? = some v → P j v) ∧ Tin (t + ms.length * K + 1) xs' := by
  have w3 : ∀ a b c d : Option S, wipeR [a, b, c, d] [3] = [a, b, c, none] := fun _ _ _ _ => rfl
  have hb : ∀ i, i ≤ ms.length → t + i * K < B := fun i hi => by
    have : i * K ≤ 1000 * 10 := Nat.mul_le_mul (by omega) hK
    omega
  have cx : ∀ src : Src, (∀ h i, srcAt h src i = ms[i]?) → (∀ h, srcEnd h src ms.length = true) → ∃ us xs', compL src (evT1 (cc prog (n + 1)) (.nm 3)) (evK (cc prog (n + 1)) .none) (evE (cc prog (n + 1)) b_law_mixed_1) [some (.r 0), some (.v m), none, none] ms.length 0 [] [.lst xs] = .ok us [.lst xs'] ∧ us.length = ms.length ∧ (∀ j u, us[j]? = some u → P j u) ∧ Tin (t + ms.length * K) xs' := fun src hat hend => by
    obtain ⟨us, h', e1, e2, e3, xs', rfl, e4⟩ := comp_ix (src := src) (g := evT1 (cc prog (n + 1)) (.nm 3)) (k := evK (cc prog (n + 1)) .none) (f := evE (cc prog (n + 1)) b_law_mixed_1) (ρ := [some (.r 0), some (.v m), none, none]) (N := ms.length) (Inv := fun i h => ∃ xs', h = [.lst xs'] ∧ Tin (t + i * K) xs') (P := P) (fun h _ => hend h) (fun i h hi ⟨xs', e1, e2⟩ => by
      subst e1
      obtain ⟨u, xs2, a, p, T2⟩ := each i ms[i] _ xs' (List.getElem?_eq_getElem hi) e2 (hb i (by omega))
      refine ⟨ms[i], [some (.r 0), some (.v m), none, some (.v ms[i])], by rw [hat]; exact List.getElem?_eq_getElem hi, by simp only [e_s, e_t, e_var, e_c, e_gl, e_fn, e_bin, e_cmp, e_ch, e_nt, e_and, e_or, e_ife, e_tup, e_lst, e_neg, e_idx, e_slc, e_on, e_os, e_rev, e_nr, e_nil, e_cons, e_call, e_bi, e_isi, e_met, e_lc, r_v, r_r, i_v, i_r, i_l, t_ok, b1_ok, b2_ok, c1_ok, c2_ok, oB_ok, h1_ok, h2_ok, h3_t, h3_f, h4_ok, n1_ok, a1_ok, a2_t, a2_f, o1_ok, o2_t, o2_f, tr_v, tr_l, tr_r, ts_v, f1_t, f1_f, p1_ok, l1_ok, au_n, au_c, om_s, g1_ok, x1_ok, x2_ok, s1_ok, s2_ok, s3_ok, q1_ok, v1_ok, w1_n, w1_r, k1_ok, k2_ok, d1_ok, d2_ok, d3_ok, y1_ok, z1_ok, z2_ok, m1_ok, mG_ok, m2_ok, lc1_ok, lc2_ok, ofO_s, ofP_s, s_cons, s_nil, s_asg, s_ifs, s_for, s_ret, s_ex, g_nm, g_sub, S1_ok, nE_ok, N1_ok, R_ok, I1_t, I1_f, F1_ok, T1_ok, E1_ok, B0_ok, B1_ok, B2_ok, B3_ok, A_nx, A_rt, V_v, V_r, V_l, W_v, W_l, i_val, i_rng, i_enm, i_zip, iv_s, iv_l, iv_t, iv_f, ir_1, ir_2, ie_l, iz_1, iz_l, iz_t, t1_nm, t1_tp, ts_nil, ts_cons, k_none, k_some, B_add, B_sub, C_lt, C_le, C_gt, C_ge, C_eq, C_ne, C_eqs, C_nes, L_int, L_intb, L_abs, L_lenl, L_lent, L_lenf, L_tup, truU, List.getElem?_cons_succ, List.getElem?_cons_zero, List.set_cons_succ, List.set_cons_zero, List.map_cons, List.map_nil, List.cons_append, List.nil_append, List.replicate_succ, List.replicate_zero], by simp only [e_s, e_t, e_var, e_c, e_gl, e_fn, e_bin, e_cmp, e_ch, e_nt, e_and, e_or, e_ife, e_tup, e_lst, e_neg, e_idx, e_slc, e_on, e_os, e_rev, e_nr, e_nil, e_cons, e_call, e_bi, e_isi, e_met, e_lc, r_v, r_r, i_v, i_r, i_l, t_ok, b1_ok, b2_ok, c1_ok, c2_ok, oB_ok, h1_ok, h2_ok, h3_t, h3_f, h4_ok, n1_ok, a1_ok, a2_t, a2_f, o1_ok, o2_t, o2_f, tr_v, tr_l, tr_r, ts_v, f1_t, f1_f, p1_ok, l1_ok, au_n, au_c, om_s, g1_ok, x1_ok, x2_ok, s1_ok, s2_ok, s3_ok, q1_ok, v1_ok, w1_n, w1_r, k1_ok, k2_ok, d1_ok, d2_ok, d3_ok, y1_ok, z1_ok, z2_ok, m1_ok, mG_ok, m2_ok, lc1_ok, lc2_ok, ofO_s, ofP_s, s_cons, s_nil, s_asg, s_ifs, s_for, s_ret, s_ex, g_nm, g_sub, S1_ok, nE_ok, N1_ok, R_ok, I1_t, I1_f, F1_ok, T1_ok, E1_ok, B0_ok, B1_ok, B2_ok, B3_ok, A_nx, A_rt, V_v, V_r, V_l, W_v, W_l, i_val, i_rng, i_enm, i_zip, iv_s, iv_l, iv_t, iv_f, ir_1, ir_2, ie_l, iz_1, iz_l, iz_t, t1_nm, t1_tp, ts_nil, ts_cons, k_none, k_some, B_add, B_sub, C_lt, C_le, C_gt, C_ge, C_eq, C_ne, C_eqs, C_nes, L_int, L_intb, L_abs, L_lenl, L_lent, L_lenf, L_tup, truU, List.getElem?_cons_succ, List.getElem?_cons_zero, List.set_cons_succ, List.set_cons_zero, List.map_cons, List.map_nil, List.cons_append, List.nil_append, List.replicate_succ, List.replicate_zero], u, [.lst xs2], ?_, p, xs2, rfl, by rw [Nat.succ_mul, ← Nat.add_assoc]; exact T2⟩
      have ie : item (doCall (cc prog (n + 1)) 17 [.r 0, .v ms[i]] [.lst xs']) = .ok (.v u) [.lst xs2] := a.item (h := [.lst xs']) (i := 0) rfl
      simp only [b_law_mixed_1]
      simp only [e_s, e_t, e_var, e_c, e_gl, e_fn, e_bin, e_cmp, e_ch, e_nt, e_and, e_or, e_ife, e_tup, e_lst, e_neg, e_idx, e_slc, e_on, e_os, e_rev, e_nr, e_nil, e_cons, e_call, e_bi, e_isi, e_met, e_lc, r_v, r_r, i_v, i_r, i_l, t_ok, b1_ok, b2_ok, c1_ok, c2_ok, oB_ok, h1_ok, h2_ok, h3_t, h3_f, h4_ok, n1_ok, a1_ok, a2_t, a2_f, o1_ok, o2_t, o2_f, tr_v, tr_l, tr_r, ts_v, f1_t, f1_f, p1_ok, l1_ok, au_n, au_c, om_s, g1_ok, x1_ok, x2_ok, s1_ok, s2_ok, s3_ok, q1_ok, v1_ok, w1_n, w1_r, k1_ok, k2_ok, d1_ok, d2_ok, d3_ok, y1_ok, z1_ok, z2_ok, m1_ok, mG_ok, m2_ok, lc1_ok, lc2_ok, ofO_s, ofP_s, s_cons, s_nil, s_asg, s_ifs, s_for, s_ret, s_ex, g_nm, g_sub, S1_ok, nE_ok, N1_ok, R_ok, I1_t, I1_f, F1_ok, T1_ok, E1_ok, B0_ok, B1_ok, B2_ok, B3_ok, A_nx, A_rt, V_v, V_r, V_l, W_v, W_l, i_val, i_rng, i_enm, i_zip, iv_s, iv_l, iv_t, iv_f, ir_1, ir_2, ie_l, iz_1, iz_l, iz_t, t1_nm, t1_tp, ts_nil, ts_cons, k_none, k_some, B_add, B_sub, C_lt, C_le, C_gt, C_ge, C_eq, C_ne, C_eqs, C_nes, L_int, L_intb, L_abs, L_lenl, L_lent, L_lenf, L_tup, truU, List.getElem?_cons_succ, List.getElem?_cons_zero, List.set_cons_succ, List.set_cons_zero, List.map_cons, List.map_nil, List.cons_append, List.nil_append, List.replicate_succ, List.replicate_zero, ar2 17 _ _ _ rfl rfl, ie]) ms.length 0 [] [.lst xs] (by omega) ⟨xs, rfl, by rw [Nat.zero_mul]; exact hT⟩ (by show 0 + _ ≤ 16777216; omega)
    exact ⟨us, xs', by rw [e1, List.nil_append], e2, fun j u q => by have := e3 j u q; rw [Nat.zero_add] at this; exact this, e4⟩
  have fin : ∀ src : Src, iv1 (.ok (.v m) [.lst xs]) = .ok (src, ms.length) [.lst xs] → tyS [.lst xs] (.v m) = some 4 ∨ tyS [.lst xs] (.v m) = some 5 → (∀ h i, srcAt h src i = ms[i]?) → (∀ h, srcEnd h src ms.length = true) → ∃ us u xs', AsU (cc prog (n + 2)) 17 [m] xs u xs' ∧ (u = .lst us ∨ u = .tup us) ∧ us.length = ms.length ∧ (∀ j v, us[j]? = some v → P j v) ∧ Tin (t + ms.length * K + 1) xs' := fun src hiv hty hat hend => by
    obtain ⟨us, xs1, e1, e2, e3, e4⟩ := cx src hat hend
    obtain ⟨r, xs2, e5, r0, r1, T2⟩ := take_hp n (t + ms.length * K) (h := [.lst xs1]) (i := 0) (m := 2) rfl e4 (by have := hb ms.length (Nat.le_refl _); omega) (by decide) (by decide)
    have e5' : doCall (cc prog (n + 1)) 13 [.r 0, .v (.int 2)] [.lst xs1] = .ok (.v (.int r)) [.lst xs2] := e5
    have tyA : ∃ k, tyS [.lst xs] (.v m) = some k ∧ [Ty.list, Ty.tuple].any (isTy k) = true := by
      rcases hty with q | q
      · exact ⟨4, q, rfl⟩
      · exact ⟨5, q, rfl⟩
    obtain ⟨k, q1, q2⟩ := tyA
    by_cases hr : r = 0
    · refine ⟨us, .lst us, xs2, .inl ?_, .inl rfl, e2, e3, T2⟩
      show (cc prog (n + 2)).call 17 [.r 0, .v m] [.lst xs] = _
      rw [call_eq (d := d_b_law_mixed) rfl, runF_eq _ _ _ _ _ rfl]
      simp only [d_b_law_mixed, b_law_mixed, Nat.reduceSub]
      simp only [e_s, e_t, e_var, e_c, e_gl, e_fn, e_bin, e_cmp, e_ch, e_nt, e_and, e_or, e_ife, e_tup, e_lst, e_neg, e_idx, e_slc, e_on, e_os, e_rev, e_nr, e_nil, e_cons, e_call, e_bi, e_isi, e_met, e_lc, r_v, r_r, i_v, i_r, i_l, t_ok, b1_ok, b2_ok, c1_ok, c2_ok, oB_ok, h1_ok, h2_ok, h3_t, h3_f, h4_ok, n1_ok, a1_ok, a2_t, a2_f, o1_ok, o2_t, o2_f, tr_v, tr_l, tr_r, ts_v, f1_t, f1_f, p1_ok, l1_ok, au_n, au_c, om_s, g1_ok, x1_ok, x2_ok, s1_ok, s2_ok, s3_ok, q1_ok, v1_ok, w1_n, w1_r, k1_ok, k2_ok, d1_ok, d2_ok, d3_ok, y1_ok, z1_ok, z2_ok, m1_ok, mG_ok, m2_ok, lc1_ok, lc2_ok, ofO_s, ofP_s, s_cons, s_nil, s_asg, s_ifs, s_for, s_ret, s_ex, g_nm, g_sub, S1_ok, nE_ok, N1_ok, R_ok, I1_t, I1_f, F1_ok, T1_ok, E1_ok, B0_ok, B1_ok, B2_ok, B3_ok, A_nx, A_rt, V_v, V_r, V_l, W_v, W_l, i_val, i_rng, i_enm, i_zip, iv_s, iv_l, iv_t, iv_f, ir_1, ir_2, ie_l, iz_1, iz_l, iz_t, t1_nm, t1_tp, ts_nil, ts_cons, k_none, k_some, B_add, B_sub, C_lt, C_le, C_gt, C_ge, C_eq, C_ne, C_eqs, C_nes, L_int, L_intb, L_abs, L_lenl, L_lent, L_lenf, L_tup, truU, List.getElem?_cons_succ, List.getElem?_cons_zero, List.set_cons_succ, List.set_cons_zero, List.map_cons, List.map_nil, List.cons_append, List.nil_append, List.replicate_succ, List.replicate_zero, q1, q2, Bool.not_true, hiv, w3, e1, ar2 13 _ _ _ rfl rfl, e5', decide_eq_true hr]
      rfl
    · refine ⟨us, .tup us, xs2, .inl ?_, .inr rfl, e2, e3, T2⟩
      show (cc prog (n + 2)).call 17 [.r 0, .v m] [.lst xs] = _
      rw [call_eq (d := d_b_law_mixed) rfl, runF_eq _ _ _ _ _ rfl]
      simp only [d_b_law_mixed, b_law_mixed, Nat.reduceSub]
      simp only [e_s, e_t, e_var, e_c, e_gl, e_fn, e_bin, e_cmp, e_ch, e_nt, e_and, e_or, e_ife, e_tup, e_lst, e_neg, e_idx, e_slc, e_on, e_os, e_rev, e_nr, e_nil, e_cons, e_call, e_bi, e_isi, e_met, e_lc, r_v, r_r, i_v, i_r, i_l, t_ok, b1_ok, b2_ok, c1_ok, c2_ok, oB_ok, h1_ok, h2_ok, h3_t, h3_f, h4_ok, n1_ok, a1_ok, a2_t, a2_f, o1_ok, o2_t, o2_f, tr_v, tr_l, tr_r, ts_v, f1_t, f1_f, p1_ok, l1_ok, au_n, au_c, om_s, g1_ok, x1_ok, x2_ok, s1_ok, s2_ok, s3_ok, q1_ok, v1_ok, w1_n, w1_r, k1_ok, k2_ok, d1_ok, d2_ok, d3_ok, y1_ok, z1_ok, z2_ok, m1_ok, mG_ok, m2_ok, lc1_ok, lc2_ok, ofO_s, ofP_s, s_cons, s_nil, s_asg, s_ifs, s_for, s_ret, s_ex, g_nm, g_sub, S1_ok, nE_ok, N1_ok, R_ok, I1_t, I1_f, F1_ok, T1_ok, E1_ok, B0_ok, B1_ok, B2_ok, B3_ok, A_nx, A_rt, V_v, V_r, V_l, W_v, W_l, i_val, i_rng, i_enm, i_zip, iv_s, iv_l, iv_t, iv_f, ir_1, ir_2, ie_l, iz_1, iz_l, iz_t, t1_nm, t1_tp, ts_nil, ts_cons, k_none, k_some, B_add, B_sub, C_lt, C_le, C_gt, C_ge, C_eq, C_ne, C_eqs, C_nes, L_int, L_intb, L_abs, L_lenl, L_lent, L_lenf, L_tup, truU, List.getElem?_cons_succ, List.getElem?_cons_zero, List.set_cons_succ, List.set_cons_zero, List.map_cons, List.map_nil, List.cons_append, List.nil_append, List.replicate_succ, List.replicate_zero, q1, q2, Bool.not_true, hiv, w3, e1, ar2 13 _ _ _ rfl rfl, e5', decide_eq_false hr]
      rfl
  rcases hm with rfl | rfl
  · exact fin (.seq (.v (.lst ms))) rfl (.inr rfl) (fun h i => lst_at h ms i) fun h => lst_end h ms
  · exact fin (.seq (.v (.tup ms))) rfl (.inl rfl) (fun h i => tup_at h ms i) fun h => tup_end h ms
theorem mixed_row' (n : Nat) {r : List Str} (hr : RowOk r) {t : Nat} {xs : List U} (hT : Tin t xs) (ht : t < 999970000) : ∃ u xs', AsU (cc prog (n + 2)) 17 [rU r] xs u xs' ∧ Mx r u ∧ Tin (t + 1) xs' := by
  obtain ⟨us, u, xs', a, hu, h1, h2, h3⟩ := mixed_seq n 0 1000000000 (by omega) (m := rU r) (ms := r.map .str) (.inr rfl) (fun i u => ∃ z, r[i]? = some z ∧ u = .str z) (by rw [List.length_map]; have := hr.2.1; omega) (fun i x t xs hx hT _ => by
    rw [List.getElem?_map] at hx
    cases e : r[i]? with
    | none => rw [e] at hx; cases hx
    | some z =>
      rw [e] at hx
      cases hx
      exact ⟨.str z, xs, .inl (mixed_s n z xs), ⟨z, rfl, rfl⟩, hT⟩) (by omega) hT (by omega)
  have : us = r.map .str := List.ext_getElem? fun j => by
    rw [List.getElem?_map]
    cases e : us[j]? with
    | none =>
      rw [List.getElem?_eq_none_iff, h1, List.length_map] at e
      rw [List.getElem?_eq_none (by omega)]
      rfl
    | some v =>
      obtain ⟨z, e1, e2⟩ := h2 j v e
      rw [e1, e2]
      rfl
  subst this
  rw [Nat.mul_zero, Nat.add_zero] at h3
  exact ⟨u, xs', a, hu, h3⟩
theorem mxL_of : ∀ {rows : List (List Str)} {us : List U}, us.length = rows.length → (∀ (j : Nat) (v : U), us[j]? = some v → ∃ r, rows[j]? = some r ∧ Mx r v) → MxL rows us
  | [], us, h, _ => List.eq_nil_of_length_eq_zero h
  | r :: rows, us, h, k => by
    cases us with
    | nil => cases h
    | cons u us =>
      obtain ⟨r', e, m⟩ := k 0 u rfl
      cases e
      exact ⟨u, us, rfl, m, mxL_of (by simpa using h) fun j v e => by
        have := k (j + 1) v (by simpa using e)
        simpa using this⟩
theorem mixed_rows (n : Nat) {rows : List (List Str)} (hr : RowsOk rows) {t : Nat} {xs : List U} (hT : Tin t xs) (ht : t < 800000000) : ∃ us u xs', AsU (cc prog (n + 3)) 17 [.lst (rows.map rU)] xs u xs' ∧ (u = .lst us ∨ u = .tup us) ∧ MxL rows us ∧ Tin (t + 10) xs' := by
  obtain ⟨us, u, xs', a, hu, h1, h2, a', b', c', e', h3, h4⟩ := mixed_seq (n + 1) 1 999960000 (by omega) (m := .lst (rows.map rU)) (ms := rows.map rU) (.inl rfl) (fun i u => ∃ r, rows[i]? = some r ∧ Mx r u) (by rw [List.length_map]; have := hr.1; omega) (fun i x t xs hx hT ht => by
    rw [List.getElem?_map] at hx
    cases e : rows[i]? with
    | none => rw [e] at hx; cases hx
    | some r =>
      rw [e] at hx
      cases hx
      obtain ⟨u, xs', a, m, T⟩ := mixed_row' n (hr.2 r (List.mem_of_getElem? e)) hT (by omega)
      exact ⟨u, xs', a, ⟨r, rfl, m⟩, T⟩) (by omega) hT (by omega)
  rw [List.length_map] at h1 h4
  have := hr.1
  exact ⟨us, u, xs', a, hu, mxL_of h1 h2, a', b', c', e', h3, by omega⟩
end VM

namespace VM
open PySem TL
def neL (p : List (List Nat)) : Bool := !p.isEmpty
theorem ends_app (a b : List (List Nat)) : ends (a ++ b) = ends a ++ ends b := by unfold ends; rw [List.map_append, List.flatten_append]
theorem preF {u : U} (h : u ∈ [U.str ⟨#[]⟩, U.str ⟨#[10]⟩, U.str ⟨#[35, 32, 97, 32, 98, 10]⟩]) : ∃ z L, u = .str z ∧ tl z = ends L ∧ (L.map pcsL).filter neL = [] ∧ (∀ l ∈ L, 10 ∉ l ∧ ∀ c ∈ l, c < 128) ∧ z.length ≤ 8 := by
  simp only [List.mem_cons, List.not_mem_nil, or_false] at h
  rcases h with rfl | rfl | rfl
  · exact ⟨_, [], rfl, rfl, rfl, (fun l hl => by cases hl), by decide⟩
  · exact ⟨_, [[]], rfl, rfl, by rw [List.map_cons, pcs_nil]; rfl, (fun l hl => by have : l = [] := by simpa using hl
                                                                                   subst this; simp), by decide⟩
  · exact ⟨_, [[35, 32, 97, 32, 98]], rfl, rfl, by rw [List.map_cons, pcs_mark]; rfl, (fun l hl => by have : l = [35, 32, 97, 32, 98] := by simpa using hl
                                                                                                      subst this; decide), by decide⟩
theorem leadF {u : U} (h : u ∈ [U.str ⟨#[]⟩, U.str ⟨#[32, 32]⟩]) : ∃ z j, u = .str z ∧ tl z = List.replicate j 32 ∧ z.length ≤ 8 := by
  simp only [List.mem_cons, List.not_mem_nil, or_false] at h
  rcases h with rfl | rfl
  · exact ⟨_, 0, rfl, rfl, by decide⟩
  · exact ⟨_, 2, rfl, rfl, by decide⟩
theorem sepF {u : U} (h : u ∈ [U.str ⟨#[32]⟩, U.str ⟨#[32, 32]⟩]) : ∃ z k, u = .str z ∧ tl z = List.replicate (k + 1) 32 ∧ z.length ≤ 2 := by
  simp only [List.mem_cons, List.not_mem_nil, or_false] at h
  rcases h with rfl | rfl
  · exact ⟨_, 0, rfl, rfl, by decide⟩
  · exact ⟨_, 1, rfl, rfl, by decide⟩
theorem tailF {u : U} (h : u ∈ [U.str ⟨#[10]⟩, U.str ⟨#[32, 10]⟩, U.str ⟨#[32, 35, 32, 55, 32, 55, 10]⟩]) : ∃ z w, u = .str z ∧ tl z = w ++ [10] ∧ (∀ (j k : Nat) (ps : List (List Nat)), (∀ p ∈ ps, Pc p) → pcsL (List.replicate j 32 ++ (joinL (List.replicate (k + 1) 32) ps ++ w)) = ps) ∧ 10 ∉ w ∧ (∀ c ∈ w, c < 128) ∧ z.length ≤ 8 := by
  simp only [List.mem_cons, List.not_mem_nil, or_false] at h
  rcases h with rfl | rfl | rfl
  · exact ⟨_, [], rfl, rfl, (fun j k ps hp => by rw [List.append_nil]; exact pcs_line hp), by simp, by simp, by decide⟩
  · exact ⟨_, [32], rfl, rfl, (fun j k ps hp => pcs_line1 hp), by simp, by simp, by decide⟩
  · exact ⟨_, [32, 35, 32, 55, 32, 55], rfl, rfl, (fun j k ps hp => pcs_line2 hp), by decide, by decide, by decide⟩
/-- lines that tell rows -/
def Tells (rows : List (List Str)) (z : Str) : Prop := ∃ L, tl z = ends L ∧ (L.map pcsL).filter neL = rows.map (fun r => r.map tl) ∧ ∀ l ∈ L, 10 ∉ l ∧ ∀ c ∈ l, c < 128
theorem tells_more {rows : List (List Str)} {z a b c d : Str} {r : List Str} (ht : Tells rows z) (hr : RowOk r) {LA : List (List Nat)} (ha : tl a = ends LA) (ha2 : (LA.map pcsL).filter neL = []) (ha3 : ∀ l ∈ LA, 10 ∉ l ∧ ∀ c ∈ l, c < 128)
    {j : Nat} (hb : tl b = List.replicate j 32) {k : Nat} (hc : tl c = List.replicate (k + 1) 32) {w : List Nat} (hd : tl d = w ++ [10]) (hd2 : ∀ (j k : Nat) (ps : List (List Nat)), (∀ p ∈ ps, Pc p) → pcsL (List.replicate j 32 ++ (joinL (List.replicate (k + 1) 32) ps ++ w)) = ps) (hd3 : 10 ∉ w) (hd4 : ∀ c ∈ w, c < 128) :
    Tells (rows ++ [r]) (z ++ a ++ b ++ Txt.join c r ++ d) := by
  obtain ⟨L, h1, h2, h3⟩ := ht
  have pr := pcsS hr
  refine ⟨L ++ LA ++ [List.replicate j 32 ++ (joinL (List.replicate (k + 1) 32) (r.map tl) ++ w)], ?_, ?_, fun l hl => ?_⟩
  · rw [tl_append, tl_append, tl_append, tl_append, h1, ha, hb, hd, join_eq, tl_join, hc, ends_app, ends_app]
    unfold ends
    simp
  · rw [List.map_append, List.map_append, List.filter_append, List.filter_append, h2, ha2, List.append_nil, List.map_append]
    congr 1
    rw [List.map_cons, List.map_nil, hd2 j k _ pr]
    have : neL (r.map tl) = true := by
      unfold neL
      cases r with
      | nil => exact absurd rfl hr.1
      | cons _ _ => rfl
    rw [List.filter_cons_of_pos this]
    rfl
  · rcases List.mem_append.mp hl with hl | hl
    · rcases List.mem_append.mp hl with hl | hl
      · exact h3 l hl
      · exact ha3 l hl
    · have : l = List.replicate j 32 ++ (joinL (List.replicate (k + 1) 32) (r.map tl) ++ w) := by simpa using hl
      subst this
      constructor
      · rw [List.mem_append, List.mem_append, not_or, not_or]
        exact ⟨rep_no (by decide), join_no (rep_no (by decide)) fun p hp => (pr p hp).no (.inl (by decide)), hd3⟩
      · intro x hx
        rcases List.mem_append.mp hx with q | q
        · have := List.eq_of_mem_replicate q
          omega
        · rcases List.mem_append.mp q with q | q
          · rcases joinL_mem q with q | ⟨p, hp, q⟩
            · have := List.eq_of_mem_replicate q
              omega
            · have := (pr p hp).2 x q
              omega
          · exact hd4 x q
theorem joinS_len {r : List Str} (h : RowOk r) {a : Str} (ha : a.length ≤ 2) : (Txt.join a r).length ≤ 15 := by
  rw [len_tl, join_eq, tl_join]
  have := joinL_len (m := 3) (S := tl a) (ps := r.map tl) (fun p hp => by
    obtain ⟨z, hz, rfl⟩ := List.mem_map.mp hp
    have := (h.2.2 z hz).1
    rw [len_tl] at this
    exact this)
  rw [List.length_map] at this
  have h2 := h.2.1
  have h3 : r.length * (3 + (tl a).length) ≤ 3 * 5 := Nat.mul_le_mul h2 (by rw [← len_tl]; omega)
  omega
theorem strewn_ok (n : Nat) {rows : List (List Str)} (hr : RowsOk rows) {t : Nat} {xs : List U} (hT : Tin t xs) (ht : t < 900000000) : ∃ z xs', (cc prog (n + 3)).call 19 [.r 0, .v (.lst (rows.map rU))] [.lst xs] = .ok (.v (.str z)) [.lst xs'] ∧ Tells rows z ∧ z.length ≤ 300 ∧ Tin (t + 20) xs' := by
  have hrl := hr.1
  obtain ⟨ρ', h', e, z, xs', o, rfl, rfl, T, tells, zl⟩ := for_ex (src := .seq (.v (.lst (rows.map rU)))) (g := evT1 (cc prog (n + 2)) (.nm 3)) (b := evSs (cc prog (n + 2)) 1000000 b_law_strewn_1) (N := rows.length)
    (Inv := fun i ρ h => ∃ (z : Str) (xs' : List U) (o : Option S), ρ = [some (.r 0), some (.v (.lst (rows.map rU))), some (.v (.str z)), o] ∧ h = [.lst xs'] ∧ Tin (t + 4 * i) xs' ∧ Tells (rows.take i) z ∧ z.length ≤ 40 * i)
    (fun ρ h _ => by have := lst_end h (rows.map rU); rw [List.length_map] at this; exact this)
    (fun i ρ h hi ⟨z, xs', o, e1, e2, T, tells, zl⟩ => by
      subst e1 e2
      have hx : (rows.map rU)[i]? = some (rU rows[i]) := by rw [List.getElem?_map, List.getElem?_eq_getElem hi]; rfl
      have ro := hr.2 _ (List.getElem_mem hi)
      obtain ⟨u1, x1, d1, m1, T1⟩ := of_at n (t + 4 * i) (h := [.lst xs']) (i := 0) (us := [U.str ⟨#[]⟩, U.str ⟨#[10]⟩, U.str ⟨#[35, 32, 97, 32, 98, 10]⟩]) rfl T (by omega) (by simp) (by simp)
      obtain ⟨a, LA, rfl, ha, ha2, ha3, al⟩ := preF m1
      obtain ⟨u2, x2, d2, m2, T2⟩ := of_at n _ (h := [.lst x1]) (i := 0) (us := [U.str ⟨#[]⟩, U.str ⟨#[32, 32]⟩]) rfl T1 (by omega) (by simp) (by simp)
      obtain ⟨b, j, rfl, hb, bl⟩ := leadF m2
      obtain ⟨u3, x3, d3, m3, T3⟩ := of_at n _ (h := [.lst x2]) (i := 0) (us := [U.str ⟨#[32]⟩, U.str ⟨#[32, 32]⟩]) rfl T2 (by omega) (by simp) (by simp)
      obtain ⟨c, k, rfl, hc, cl⟩ := sepF m3
      obtain ⟨u4, x4, d4, m4, T4⟩ := of_at n _ (h := [.lst x3]) (i := 0) (us := [U.str ⟨#[10]⟩, U.str ⟨#[32, 10]⟩, U.str ⟨#[32, 35, 32, 55, 32, 55, 10]⟩]) rfl T3 (by omega) (by simp) (by simp)
      obtain ⟨d, w, rfl, hd, hd2, hd3, hd4, dl⟩ := tailF m4
      have jl := joinS_len ro cl
      have A : ∀ (x y : Str) (h : Hs), x.length ≤ 1000 → y.length ≤ 1000 → binS .add h (.v (.str x)) (.v (.str y)) = some (.v (.str (x ++ y))) := fun x y h q1 q2 => B_adds h x y (by show _ ≤ 16777216; omega)
      have la : ∀ x y : Str, (x ++ y).length = x.length + y.length := fun x y => by rw [len_tl, tl_append, List.length_append, ← len_tl, ← len_tl]
      have l1 := la z a
      have l2 := la (z ++ a) b
      have l3 := la (z ++ a ++ b) (Txt.join c rows[i])
      have l4 := la (z ++ a ++ b ++ Txt.join c rows[i]) d
      refine ⟨rU rows[i], [some (.r 0), some (.v (.lst (rows.map rU))), some (.v (.str z)), some (.v (rU rows[i]))], by rw [lst_at]; exact hx, by simp only [e_s, e_t, e_var, e_c, e_gl, e_fn, e_bin, e_cmp, e_ch, e_nt, e_and, e_or, e_ife, e_tup, e_lst, e_neg, e_idx, e_slc, e_on, e_os, e_rev, e_nr, e_nil, e_cons, e_call, e_bi, e_isi, e_met, e_lc, r_v, r_r, i_v, i_r, i_l, t_ok, b1_ok, b2_ok, c1_ok, c2_ok, oB_ok, h1_ok, h2_ok, h3_t, h3_f, h4_ok, n1_ok, a1_ok, a2_t, a2_f, o1_ok, o2_t, o2_f, tr_v, tr_l, tr_r, ts_v, f1_t, f1_f, p1_ok, l1_ok, au_n, au_c, om_s, g1_ok, x1_ok, x2_ok, s1_ok, s2_ok, s3_ok, q1_ok, v1_ok, w1_n, w1_r, k1_ok, k2_ok, d1_ok, d2_ok, d3_ok, y1_ok, z1_ok, z2_ok, m1_ok, mG_ok, m2_ok, lc1_ok, lc2_ok, ofO_s, ofP_s, s_cons, s_nil, s_asg, s_ifs, s_for, s_ret, s_ex, g_nm, g_sub, S1_ok, nE_ok, N1_ok, R_ok, I1_t, I1_f, F1_ok, T1_ok, E1_ok, B0_ok, B1_ok, B2_ok, B3_ok, A_nx, A_rt, V_v, V_r, V_l, W_v, W_l, i_val, i_rng, i_enm, i_zip, iv_s, iv_l, iv_t, iv_f, ir_1, ir_2, ie_l, iz_1, iz_l, iz_t, t1_nm, t1_tp, ts_nil, ts_cons, k_none, k_some, B_add, B_sub, C_lt, C_le, C_gt, C_ge, C_eq, C_ne, C_eqs, C_nes, L_int, L_intb, L_abs, L_lenl, L_lent, L_lenf, L_tup, truU, List.getElem?_cons_succ, List.getElem?_cons_zero, List.set_cons_succ, List.set_cons_zero, List.map_cons, List.map_nil, List.cons_append, List.nil_append, List.replicate_succ, List.replicate_zero], _, _, ?_, z ++ a ++ b ++ Txt.join c rows[i] ++ d, x4, some (.v (rU rows[i])), rfl, rfl, T4, ?_, by omega⟩
      · have q1 : doCall (cc prog (n + 2)) 15 [.r 0, .v (.lst [U.str ⟨#[]⟩, U.str ⟨#[10]⟩, U.str ⟨#[35, 32, 97, 32, 98, 10]⟩])] [.lst xs'] = .ok (.v (.str a)) [.lst x1] := d1
        have q2 : doCall (cc prog (n + 2)) 15 [.r 0, .v (.lst [U.str ⟨#[]⟩, U.str ⟨#[32, 32]⟩])] [.lst x1] = .ok (.v (.str b)) [.lst x2] := d2
        have q3 : doCall (cc prog (n + 2)) 15 [.r 0, .v (.lst [U.str ⟨#[32]⟩, U.str ⟨#[32, 32]⟩])] [.lst x2] = .ok (.v (.str c)) [.lst x3] := d3
        have q4 : doCall (cc prog (n + 2)) 15 [.r 0, .v (.lst [U.str ⟨#[10]⟩, U.str ⟨#[32, 10]⟩, U.str ⟨#[32, 35, 32, 55, 32, 55, 10]⟩])] [.lst x3] = .ok (.v (.str d)) [.lst x4] := d4
        have p3 : ∀ (h : Hs) (x y z : U), lst2 h (some [x, y, z]) = .ok (.nw (.lst [x, y, z])) h := fun h x y z => l2_ok h _ (by show 3 ≤ 16777216; decide)
        have p2 : ∀ (h : Hs) (x y : U), lst2 h (some [x, y]) = .ok (.nw (.lst [x, y])) h := fun h x y => l2_ok h _ (by show 2 ≤ 16777216; decide)
        simp only [b_law_strewn_1]
        simp only [e_s, e_t, e_var, e_c, e_gl, e_fn, e_bin, e_cmp, e_ch, e_nt, e_and, e_or, e_ife, e_tup, e_lst, e_neg, e_idx, e_slc, e_on, e_os, e_rev, e_nr, e_nil, e_cons, e_call, e_bi, e_isi, e_met, e_lc, r_v, r_r, i_v, i_r, i_l, t_ok, b1_ok, b2_ok, c1_ok, c2_ok, oB_ok, h1_ok, h2_ok, h3_t, h3_f, h4_ok, n1_ok, a1_ok, a2_t, a2_f, o1_ok, o2_t, o2_f, tr_v, tr_l, tr_r, ts_v, f1_t, f1_f, p1_ok, l1_ok, au_n, au_c, om_s, g1_ok, x1_ok, x2_ok, s1_ok, s2_ok, s3_ok, q1_ok, v1_ok, w1_n, w1_r, k1_ok, k2_ok, d1_ok, d2_ok, d3_ok, y1_ok, z1_ok, z2_ok, m1_ok, mG_ok, m2_ok, lc1_ok, lc2_ok, ofO_s, ofP_s, s_cons, s_nil, s_asg, s_ifs, s_for, s_ret, s_ex, g_nm, g_sub, S1_ok, nE_ok, N1_ok, R_ok, I1_t, I1_f, F1_ok, T1_ok, E1_ok, B0_ok, B1_ok, B2_ok, B3_ok, A_nx, A_rt, V_v, V_r, V_l, W_v, W_l, i_val, i_rng, i_enm, i_zip, iv_s, iv_l, iv_t, iv_f, ir_1, ir_2, ie_l, iz_1, iz_l, iz_t, t1_nm, t1_tp, ts_nil, ts_cons, k_none, k_some, B_add, B_sub, C_lt, C_le, C_gt, C_ge, C_eq, C_ne, C_eqs, C_nes, L_int, L_intb, L_abs, L_lenl, L_lent, L_lenf, L_tup, truU, List.getElem?_cons_succ, List.getElem?_cons_zero, List.set_cons_succ, List.set_cons_zero, List.map_cons, List.map_nil, List.cons_append, List.nil_append, List.replicate_succ, List.replicate_zero, ar2 15 _ _ _ rfl rfl, p2, p3, q1, q2, q3, q4, A z a _ (by omega) (by omega), A (z ++ a) b _ (by omega) (by omega), T_join, row_join _ ro cl, A (z ++ a ++ b) (Txt.join c rows[i]) _ (by omega) (by omega), A (z ++ a ++ b ++ Txt.join c rows[i]) d _ (by omega) (by omega)]
      · rw [List.take_add_one, List.getElem?_eq_getElem hi]
        exact tells_more tells ro ha ha2 ha3 hb hc hd hd2 hd3 hd4) rows.length 0 [some (.r 0), some (.v (.lst (rows.map rU))), some (.v (.str ⟨#[]⟩)), none] [.lst xs] (by omega) ⟨⟨#[]⟩, xs, none, rfl, rfl, hT, ⟨[], rfl, rfl, fun l hl => by cases hl⟩, by decide⟩
  rw [List.take_length] at tells
  obtain ⟨a', b', c', e', h3, h4⟩ := T
  refine ⟨z, xs', ?_, tells, by omega, a', b', c', e', h3, by omega⟩
  rw [call_eq (d := d_b_law_strewn) rfl, runF_eq _ _ _ _ _ rfl]
  simp only [d_b_law_strewn, b_law_strewn, Nat.reduceSub]
  simp only [e_s, e_t, e_var, e_c, e_gl, e_fn, e_bin, e_cmp, e_ch, e_nt, e_and, e_or, e_ife, e_tup, e_lst, e_neg, e_idx, e_slc, e_on, e_os, e_rev, e_nr, e_nil, e_cons, e_call, e_bi, e_isi, e_met, e_lc, r_v, r_r, i_v, i_r, i_l, t_ok, b1_ok, b2_ok, c1_ok, c2_ok, oB_ok, h1_ok, h2_ok, h3_t, h3_f, h4_ok, n1_ok, a1_ok, a2_t, a2_f, o1_ok, o2_t, o2_f, tr_v, tr_l, tr_r, ts_v, f1_t, f1_f, p1_ok, l1_ok, au_n, au_c, om_s, g1_ok, x1_ok, x2_ok, s1_ok, s2_ok, s3_ok, q1_ok, v1_ok, w1_n, w1_r, k1_ok, k2_ok, d1_ok, d2_ok, d3_ok, y1_ok, z1_ok, z2_ok, m1_ok, mG_ok, m2_ok, lc1_ok, lc2_ok, ofO_s, ofP_s, s_cons, s_nil, s_asg, s_ifs, s_for, s_ret, s_ex, g_nm, g_sub, S1_ok, nE_ok, N1_ok, R_ok, I1_t, I1_f, F1_ok, T1_ok, E1_ok, B0_ok, B1_ok, B2_ok, B3_ok, A_nx, A_rt, V_v, V_r, V_l, W_v, W_l, i_val, i_rng, i_enm, i_zip, iv_s, iv_l, iv_t, iv_f, ir_1, ir_2, ie_l, iz_1, iz_l, iz_t, t1_nm, t1_tp, ts_nil, ts_cons, k_none, k_some, B_add, B_sub, C_lt, C_le, C_gt, C_ge, C_eq, C_ne, C_eqs, C_nes, L_int, L_intb, L_abs, L_lenl, L_lent, L_lenf, L_tup, truU, List.getElem?_cons_succ, List.getElem?_cons_zero, List.set_cons_succ, List.set_cons_zero, List.map_cons, List.map_nil, List.cons_append, List.nil_append, List.replicate_succ, List.replicate_zero, List.length_map, e]
  rfl
end VM

namespace VM
open PySem TL
def snd2 (u : U) : U := match u with
  | .tup [_, v] => v
  | u => u
theorem found_snd : ∀ (ls : List Str) (i : Nat), (found i ls).map snd2 = ((ls.map pcs).filter fun p => !p.isEmpty).map rU
  | [], _ => rfl
  | l :: ls, i => by
    show (found1 i l ++ found (i + 1) ls).map snd2 = _
    rw [List.map_append, found_snd ls (i + 1), List.map_cons]
    unfold found1
    by_cases h : (pcs l).isEmpty = true
    · rw [if_pos h, List.filter_cons_of_neg (by rw [h]; decide)]
      rfl
    · rw [if_neg h, List.filter_cons_of_pos (by simpa using h)]
      rfl
theorem found_form : ∀ (ls : List Str) (i : Nat), ∀ x ∈ found i ls, ∃ (k : Int) (r : List Str), x = .tup [.int k, rU r]
  | [], _, x, h => by cases h
  | l :: ls, i, x, h => by
    rcases List.mem_append.mp (show x ∈ found1 i l ++ found (i + 1) ls from h) with h | h
    · unfold found1 at h
      split at h
      · cases h
      · exact ⟨i, pcs l, by simpa [rU] using h⟩
    · exact found_form ls (i + 1) x h
theorem found_tells {rows : List (List Str)} {z : Str} (h : Tells rows z) : (found 0 (Txt.split z (sg 10))).map snd2 = rows.map rU := by
  obtain ⟨L, h1, h2, h3⟩ := h
  rw [found_snd]
  congr 1
  have e : (Txt.split z (sg 10)).map tl = L ++ [[]] := by rw [split_tl _ (by decide), h1, spl_ends fun l hl => (h3 l hl).1]
  have e2 : ((Txt.split z (sg 10)).map pcs).map (fun r => r.map tl) = (L ++ [[]]).map pcsL := by
    rw [← e, List.map_map, List.map_map]
    exact List.map_congr_left fun l _ => pcs_tl l
  have e3 : (((Txt.split z (sg 10)).map pcs).filter fun p => !p.isEmpty).map (fun r => r.map tl) = rows.map fun r => r.map tl := by
    have fm : ∀ l : List (List Str), (l.filter fun p => !p.isEmpty).map (fun r => r.map tl) = (l.map fun r => r.map tl).filter neL := fun l => by
      induction l with
      | nil => rfl
      | cons p l ih =>
        rw [List.map_cons, List.filter_cons, List.filter_cons, show neL (p.map tl) = !p.isEmpty by unfold neL; cases p <;> rfl]
        split
        · rw [List.map_cons, ih]
        · exact ih
    rw [fm, e2, List.map_append, List.filter_append, h2, List.map_cons, pcs_nil]
    simp [neL]
  have inj : ∀ {a b : List (List Str)}, a.map (fun r => r.map tl) = b.map (fun r => r.map tl) → a = b := fun {a b} => by
    induction a generalizing b with
    | nil => intro q; cases b with
      | nil => rfl
      | cons _ _ => simp at q
    | cons x a ih =>
      intro q
      cases b with
      | nil => simp at q
      | cons y b =>
        rw [List.map_cons, List.map_cons] at q
        injection q with q1 q2
        rw [map_tl_inj q1, ih q2]
  exact inj e3
theorem tells_codes {rows : List (List Str)} {z : Str} (h : Tells rows z) : ∀ c ∈ tl z, c < 0x110000 := fun c hc => by
  obtain ⟨L, h1, _, h3⟩ := h
  rw [h1] at hc
  unfold ends at hc
  obtain ⟨l, hl, hcl⟩ := List.mem_flatten.mp hc
  obtain ⟨l', hl', rfl⟩ := List.mem_map.mp hl
  rcases List.mem_append.mp hcl with q | q
  · have := (h3 l' hl').2 c q
    omega
  · have : c = 10 := by simpa using q
    omega
/-! ### the same -/
theorem C_eqb (h : Hs) (a b : Bool) : cmpS .eq h (.v (.bl a)) (.v (.bl b)) = some (a == b) := by cases a <;> cases b <;> rfl
theorem C_neb (h : Hs) (a b : Bool) : cmpS .ne h (.v (.bl a)) (.v (.bl b)) = some (!(a == b)) := by cases a <;> cases b <;> rfl
theorem C_isn (h : Hs) (u : U) : cmpS .is h (.v u) (.v .non) = some (isNon u) := rfl
theorem a_b : ∀ k, k ≤ 5 → [Ty.bool, Ty.str].any (isTy k) = (k == 1 || k == 3) := by decide
theorem same_str (n : Nat) (z : Str) : (cc prog (n + 1)).call 16 [.v (.str z), .v (.str z)] [] = .ok (.v (.bl true)) [] := by
  have q1 : ([Ty.bool, Ty.str].any (isTy 3)) = true := rfl
  have q2 : isNon (.str z) = false := rfl
  rw [call_eq (d := d_b_law_same) rfl, runF_eq _ _ _ _ _ rfl]
  simp only [d_b_law_same, b_law_same, Nat.reduceSub]
  simp only [e_s, e_t, e_var, e_c, e_gl, e_fn, e_bin, e_cmp, e_ch, e_nt, e_and, e_or, e_ife, e_tup, e_lst, e_neg, e_idx, e_slc, e_on, e_os, e_rev, e_nr, e_nil, e_cons, e_call, e_bi, e_isi, e_met, e_lc, r_v, r_r, i_v, i_r, i_l, t_ok, b1_ok, b2_ok, c1_ok, c2_ok, oB_ok, h1_ok, h2_ok, h3_t, h3_f, h4_ok, n1_ok, a1_ok, a2_t, a2_f, o1_ok, o2_t, o2_f, tr_v, tr_l, tr_r, ts_v, f1_t, f1_f, p1_ok, l1_ok, au_n, au_c, om_s, g1_ok, x1_ok, x2_ok, s1_ok, s2_ok, s3_ok, q1_ok, v1_ok, w1_n, w1_r, k1_ok, k2_ok, d1_ok, d2_ok, d3_ok, y1_ok, z1_ok, z2_ok, m1_ok, mG_ok, m2_ok, lc1_ok, lc2_ok, ofO_s, ofP_s, s_cons, s_nil, s_asg, s_ifs, s_for, s_ret, s_ex, g_nm, g_sub, S1_ok, nE_ok, N1_ok, R_ok, I1_t, I1_f, F1_ok, T1_ok, E1_ok, B0_ok, B1_ok, B2_ok, B3_ok, A_nx, A_rt, V_v, V_r, V_l, W_v, W_l, i_val, i_rng, i_enm, i_zip, iv_s, iv_l, iv_t, iv_f, ir_1, ir_2, ie_l, iz_1, iz_l, iz_t, t1_nm, t1_tp, ts_nil, ts_cons, k_none, k_some, B_add, B_sub, C_lt, C_le, C_gt, C_ge, C_eq, C_ne, C_eqs, C_nes, L_int, L_intb, L_abs, L_lenl, L_lent, L_lenf, L_tup, truU, List.getElem?_cons_succ, List.getElem?_cons_zero, List.set_cons_succ, List.set_cons_zero, List.map_cons, List.map_nil, List.cons_append, List.nil_append, List.replicate_succ, List.replicate_zero, ty_s, a_l3, C_isn, q2, q1, C_eqb, beq_self_eq_true, decide_true]
  rfl
theorem same_int (n : Nat) (i : Int) : (cc prog (n + 1)).call 16 [.v (.int i), .v (.int i)] [] = .ok (.v (.bl true)) [] := by
  have q1 : ([Ty.bool, Ty.str].any (isTy 2)) = false := rfl
  have q2 : isNon (.int i) = false := rfl
  have q3 : ([Ty.int].any (isTy 2)) = true := rfl
  have q4 : ([Ty.bool].any (isTy 2)) = false := rfl
  rw [call_eq (d := d_b_law_same) rfl, runF_eq _ _ _ _ _ rfl]
  simp only [d_b_law_same, b_law_same, Nat.reduceSub]
  simp only [e_s, e_t, e_var, e_c, e_gl, e_fn, e_bin, e_cmp, e_ch, e_nt, e_and, e_or, e_ife, e_tup, e_lst, e_neg, e_idx, e_slc, e_on, e_os, e_rev, e_nr, e_nil, e_cons, e_call, e_bi, e_isi, e_met, e_lc, r_v, r_r, i_v, i_r, i_l, t_ok, b1_ok, b2_ok, c1_ok, c2_ok, oB_ok, h1_ok, h2_ok, h3_t, h3_f, h4_ok, n1_ok, a1_ok, a2_t, a2_f, o1_ok, o2_t, o2_f, tr_v, tr_l, tr_r, ts_v, f1_t, f1_f, p1_ok, l1_ok, au_n, au_c, om_s, g1_ok, x1_ok, x2_ok, s1_ok, s2_ok, s3_ok, q1_ok, v1_ok, w1_n, w1_r, k1_ok, k2_ok, d1_ok, d2_ok, d3_ok, y1_ok, z1_ok, z2_ok, m1_ok, mG_ok, m2_ok, lc1_ok, lc2_ok, ofO_s, ofP_s, s_cons, s_nil, s_asg, s_ifs, s_for, s_ret, s_ex, g_nm, g_sub, S1_ok, nE_ok, N1_ok, R_ok, I1_t, I1_f, F1_ok, T1_ok, E1_ok, B0_ok, B1_ok, B2_ok, B3_ok, A_nx, A_rt, V_v, V_r, V_l, W_v, W_l, i_val, i_rng, i_enm, i_zip, iv_s, iv_l, iv_t, iv_f, ir_1, ir_2, ie_l, iz_1, iz_l, iz_t, t1_nm, t1_tp, ts_nil, ts_cons, k_none, k_some, B_add, B_sub, C_lt, C_le, C_gt, C_ge, C_eq, C_ne, C_eqs, C_nes, L_int, L_intb, L_abs, L_lenl, L_lent, L_lenf, L_tup, truU, List.getElem?_cons_succ, List.getElem?_cons_zero, List.set_cons_succ, List.set_cons_zero, List.map_cons, List.map_nil, List.cons_append, List.nil_append, List.replicate_succ, List.replicate_zero, ty_i, a_l2, C_isn, q2, q1, q3, q4, Bool.not_false, decide_true]
  rfl
theorem same_non (n : Nat) : (cc prog (n + 1)).call 16 [.v .non, .v .non] [] = .ok (.v (.bl true)) [] := by
  have q2 : isNon .non = true := rfl
  rw [call_eq (d := d_b_law_same) rfl, runF_eq _ _ _ _ _ rfl]
  simp only [d_b_law_same, b_law_same, Nat.reduceSub]
  simp only [e_s, e_t, e_var, e_c, e_gl, e_fn, e_bin, e_cmp, e_ch, e_nt, e_and, e_or, e_ife, e_tup, e_lst, e_neg, e_idx, e_slc, e_on, e_os, e_rev, e_nr, e_nil, e_cons, e_call, e_bi, e_isi, e_met, e_lc, r_v, r_r, i_v, i_r, i_l, t_ok, b1_ok, b2_ok, c1_ok, c2_ok, oB_ok, h1_ok, h2_ok, h3_t, h3_f, h4_ok, n1_ok, a1_ok, a2_t, a2_f, o1_ok, o2_t, o2_f, tr_v, tr_l, tr_r, ts_v, f1_t, f1_f, p1_ok, l1_ok, au_n, au_c, om_s, g1_ok, x1_ok, x2_ok, s1_ok, s2_ok, s3_ok, q1_ok, v1_ok, w1_n, w1_r, k1_ok, k2_ok, d1_ok, d2_ok, d3_ok, y1_ok, z1_ok, z2_ok, m1_ok, mG_ok, m2_ok, lc1_ok, lc2_ok, ofO_s, ofP_s, s_cons, s_nil, s_asg, s_ifs, s_for, s_ret, s_ex, g_nm, g_sub, S1_ok, nE_ok, N1_ok, R_ok, I1_t, I1_f, F1_ok, T1_ok, E1_ok, B0_ok, B1_ok, B2_ok, B3_ok, A_nx, A_rt, V_v, V_r, V_l, W_v, W_l, i_val, i_rng, i_enm, i_zip, iv_s, iv_l, iv_t, iv_f, ir_1, ir_2, ie_l, iz_1, iz_l, iz_t, t1_nm, t1_tp, ts_nil, ts_cons, k_none, k_some, B_add, B_sub, C_lt, C_le, C_gt, C_ge, C_eq, C_ne, C_eqs, C_nes, L_int, L_intb, L_abs, L_lenl, L_lent, L_lenf, L_tup, truU, List.getElem?_cons_succ, List.getElem?_cons_zero, List.set_cons_succ, List.set_cons_zero, List.map_cons, List.map_nil, List.cons_append, List.nil_append, List.replicate_succ, List.replicate_zero, ty_n, a_l0, C_isn, q2]
  rfl
theorem same_seq (n : Nat) {u : U} {us : List U} (hu : u = .lst us ∨ u = .tup us) (hl : us.length ≤ 1000) (each : ∀ v ∈ us, (cc prog (n + 1)).call 16 [.v v, .v v] [] = .ok (.v (.bl true)) []) : (cc prog (n + 2)).call 16 [.v u, .v u] [] = .ok (.v (.bl true)) [] := by
  have turn : ∀ x, x ∈ (us.map fun v => U.tup [v, v]) → ∃ ρ1, evT1 (cc prog (n + 1)) (.tp (.cons (.nm 2) (.cons (.nm 3) .nil))) [x] [some (.v u), some (.v u), none, none] [] = .ok ρ1 [] ∧ sE (evE (cc prog (n + 1)) b_law_same_1) ρ1 [] = .ok (.v (.bl true)) [] := fun x hx => by
    obtain ⟨v, hv, rfl⟩ := List.mem_map.mp hx
    refine ⟨[some (.v u), some (.v u), some (.v v), some (.v v)], by simp only [e_s, e_t, e_var, e_c, e_gl, e_fn, e_bin, e_cmp, e_ch, e_nt, e_and, e_or, e_ife, e_tup, e_lst, e_neg, e_idx, e_slc, e_on, e_os, e_rev, e_nr, e_nil, e_cons, e_call, e_bi, e_isi, e_met, e_lc, r_v, r_r, i_v, i_r, i_l, t_ok, b1_ok, b2_ok, c1_ok, c2_ok, oB_ok, h1_ok, h2_ok, h3_t, h3_f, h4_ok, n1_ok, a1_ok, a2_t, a2_f, o1_ok, o2_t, o2_f, tr_v, tr_l, tr_r, ts_v, f1_t, f1_f, p1_ok, l1_ok, au_n, au_c, om_s, g1_ok, x1_ok, x2_ok, s1_ok, s2_ok, s3_ok, q1_ok, v1_ok, w1_n, w1_r, k1_ok, k2_ok, d1_ok, d2_ok, d3_ok, y1_ok, z1_ok, z2_ok, m1_ok, mG_ok, m2_ok, lc1_ok, lc2_ok, ofO_s, ofP_s, s_cons, s_nil, s_asg, s_ifs, s_for, s_ret, s_ex, g_nm, g_sub, S1_ok, nE_ok, N1_ok, R_ok, I1_t, I1_f, F1_ok, T1_ok, E1_ok, B0_ok, B1_ok, B2_ok, B3_ok, A_nx, A_rt, V_v, V_r, V_l, W_v, W_l, i_val, i_rng, i_enm, i_zip, iv_s, iv_l, iv_t, iv_f, ir_1, ir_2, ie_l, iz_1, iz_l, iz_t, t1_nm, t1_tp, ts_nil, ts_cons, k_none, k_some, B_add, B_sub, C_lt, C_le, C_gt, C_ge, C_eq, C_ne, C_eqs, C_nes, L_int, L_intb, L_abs, L_lenl, L_lent, L_lenf, L_tup, truU, List.getElem?_cons_succ, List.getElem?_cons_zero, List.set_cons_succ, List.set_cons_zero, List.map_cons, List.map_nil, List.cons_append, List.nil_append, List.replicate_succ, List.replicate_zero], ?_⟩
    have e : doCall (cc prog (n + 1)) 16 [.v v, .v v] [] = .ok (.v (.bl true)) [] := doCall_v (us := [v, v]) _ (each v hv)
    simp only [b_law_same_1]
    simp only [e_s, e_t, e_var, e_c, e_gl, e_fn, e_bin, e_cmp, e_ch, e_nt, e_and, e_or, e_ife, e_tup, e_lst, e_neg, e_idx, e_slc, e_on, e_os, e_rev, e_nr, e_nil, e_cons, e_call, e_bi, e_isi, e_met, e_lc, r_v, r_r, i_v, i_r, i_l, t_ok, b1_ok, b2_ok, c1_ok, c2_ok, oB_ok, h1_ok, h2_ok, h3_t, h3_f, h4_ok, n1_ok, a1_ok, a2_t, a2_f, o1_ok, o2_t, o2_f, tr_v, tr_l, tr_r, ts_v, f1_t, f1_f, p1_ok, l1_ok, au_n, au_c, om_s, g1_ok, x1_ok, x2_ok, s1_ok, s2_ok, s3_ok, q1_ok, v1_ok, w1_n, w1_r, k1_ok, k2_ok, d1_ok, d2_ok, d3_ok, y1_ok, z1_ok, z2_ok, m1_ok, mG_ok, m2_ok, lc1_ok, lc2_ok, ofO_s, ofP_s, s_cons, s_nil, s_asg, s_ifs, s_for, s_ret, s_ex, g_nm, g_sub, S1_ok, nE_ok, N1_ok, R_ok, I1_t, I1_f, F1_ok, T1_ok, E1_ok, B0_ok, B1_ok, B2_ok, B3_ok, A_nx, A_rt, V_v, V_r, V_l, W_v, W_l, i_val, i_rng, i_enm, i_zip, iv_s, iv_l, iv_t, iv_f, ir_1, ir_2, ie_l, iz_1, iz_l, iz_t, t1_nm, t1_tp, ts_nil, ts_cons, k_none, k_some, B_add, B_sub, C_lt, C_le, C_gt, C_ge, C_eq, C_ne, C_eqs, C_nes, L_int, L_intb, L_abs, L_lenl, L_lent, L_lenf, L_tup, truU, List.getElem?_cons_succ, List.getElem?_cons_zero, List.set_cons_succ, List.set_cons_zero, List.map_cons, List.map_nil, List.cons_append, List.nil_append, List.replicate_succ, List.replicate_zero, ar2 16 _ _ _ rfl rfl, e]
  have wp : ∀ a b c d : Option S, wipeR [a, b, c, d] [2, 3] = [a, b, none, none] := fun _ _ _ _ => rfl
  have aT := allT [] (us := (us.map fun v => U.tup [v, v]).map fun _ => U.bl true) (fun u hu => by obtain ⟨_, _, rfl⟩ := List.mem_map.mp hu; rfl)
  have lm : (us.map fun v => U.tup [v, v]).length ≤ lim := by rw [List.length_map]; show _ ≤ 16777216; omega
  have z1 : ∀ (s : S), seqAll [] s = some (true, us) ∨ seqAll [] s = some (false, us) → compL (.zip s s) (evT1 (cc prog (n + 1)) (.tp (.cons (.nm 2) (.cons (.nm 3) .nil)))) (evK (cc prog (n + 1)) .none) (evE (cc prog (n + 1)) b_law_same_1) [some (.v u), some (.v u), none, none] us.length 0 [] [] = .ok ((us.map fun v => U.tup [v, v]).map fun _ => U.bl true) [] := fun s hs => by
    have cm := comp_all (src := .zip s s) (c := cc prog (n + 1)) (us.map fun v => U.tup [v, v]) (fun _ => U.bl true) (fun j x e => by
      rw [List.getElem?_map] at e
      cases e1 : us[j]? with
      | none => rw [e1] at e; cases e
      | some v =>
        rw [e1] at e
        cases e
        rcases hs with q | q <;> simp only [srcAt, q, e1]) (by
      rw [List.length_map]
      rcases hs with q | q <;> simp [srcEnd, q]) turn lm
    rw [List.length_map] at cm
    exact cm
  have ne1 : ∀ b : Bool, (!(b == b)) = false := by decide
  rw [call_eq (d := d_b_law_same) rfl, runF_eq _ _ _ _ _ rfl]
  simp only [d_b_law_same, b_law_same, Nat.reduceSub]
  rcases hu with rfl | rfl
  · simp only [e_s, e_t, e_var, e_c, e_gl, e_fn, e_bin, e_cmp, e_ch, e_nt, e_and, e_or, e_ife, e_tup, e_lst, e_neg, e_idx, e_slc, e_on, e_os, e_rev, e_nr, e_nil, e_cons, e_call, e_bi, e_isi, e_met, e_lc, r_v, r_r, i_v, i_r, i_l, t_ok, b1_ok, b2_ok, c1_ok, c2_ok, oB_ok, h1_ok, h2_ok, h3_t, h3_f, h4_ok, n1_ok, a1_ok, a2_t, a2_f, o1_ok, o2_t, o2_f, tr_v, tr_l, tr_r, ts_v, f1_t, f1_f, p1_ok, l1_ok, au_n, au_c, om_s, g1_ok, x1_ok, x2_ok, s1_ok, s2_ok, s3_ok, q1_ok, v1_ok, w1_n, w1_r, k1_ok, k2_ok, d1_ok, d2_ok, d3_ok, y1_ok, z1_ok, z2_ok, m1_ok, mG_ok, m2_ok, lc1_ok, lc2_ok, ofO_s, ofP_s, s_cons, s_nil, s_asg, s_ifs, s_for, s_ret, s_ex, g_nm, g_sub, S1_ok, nE_ok, N1_ok, R_ok, I1_t, I1_f, F1_ok, T1_ok, E1_ok, B0_ok, B1_ok, B2_ok, B3_ok, A_nx, A_rt, V_v, V_r, V_l, W_v, W_l, i_val, i_rng, i_enm, i_zip, iv_s, iv_l, iv_t, iv_f, ir_1, ir_2, ie_l, iz_1, iz_l, iz_t, t1_nm, t1_tp, ts_nil, ts_cons, k_none, k_some, B_add, B_sub, C_lt, C_le, C_gt, C_ge, C_eq, C_ne, C_eqs, C_nes, L_int, L_intb, L_abs, L_lenl, L_lent, L_lenf, L_tup, truU, List.getElem?_cons_succ, List.getElem?_cons_zero, List.set_cons_succ, List.set_cons_zero, List.map_cons, List.map_nil, List.cons_append, List.nil_append, List.replicate_succ, List.replicate_zero, ty_l, a_l5, C_neb, ne1, decide_true, wp, Nat.min_self, z1 (.v (.lst us)) (.inl rfl), aT]
    rfl
  · simp only [e_s, e_t, e_var, e_c, e_gl, e_fn, e_bin, e_cmp, e_ch, e_nt, e_and, e_or, e_ife, e_tup, e_lst, e_neg, e_idx, e_slc, e_on, e_os, e_rev, e_nr, e_nil, e_cons, e_call, e_bi, e_isi, e_met, e_lc, r_v, r_r, i_v, i_r, i_l, t_ok, b1_ok, b2_ok, c1_ok, c2_ok, oB_ok, h1_ok, h2_ok, h3_t, h3_f, h4_ok, n1_ok, a1_ok, a2_t, a2_f, o1_ok, o2_t, o2_f, tr_v, tr_l, tr_r, ts_v, f1_t, f1_f, p1_ok, l1_ok, au_n, au_c, om_s, g1_ok, x1_ok, x2_ok, s1_ok, s2_ok, s3_ok, q1_ok, v1_ok, w1_n, w1_r, k1_ok, k2_ok, d1_ok, d2_ok, d3_ok, y1_ok, z1_ok, z2_ok, m1_ok, mG_ok, m2_ok, lc1_ok, lc2_ok, ofO_s, ofP_s, s_cons, s_nil, s_asg, s_ifs, s_for, s_ret, s_ex, g_nm, g_sub, S1_ok, nE_ok, N1_ok, R_ok, I1_t, I1_f, F1_ok, T1_ok, E1_ok, B0_ok, B1_ok, B2_ok, B3_ok, A_nx, A_rt, V_v, V_r, V_l, W_v, W_l, i_val, i_rng, i_enm, i_zip, iv_s, iv_l, iv_t, iv_f, ir_1, ir_2, ie_l, iz_1, iz_l, iz_t, t1_nm, t1_tp, ts_nil, ts_cons, k_none, k_some, B_add, B_sub, C_lt, C_le, C_gt, C_ge, C_eq, C_ne, C_eqs, C_nes, L_int, L_intb, L_abs, L_lenl, L_lent, L_lenf, L_tup, truU, List.getElem?_cons_succ, List.getElem?_cons_zero, List.set_cons_succ, List.set_cons_zero, List.map_cons, List.map_nil, List.cons_append, List.nil_append, List.replicate_succ, List.replicate_zero, ty_t, a_l4, C_neb, ne1, decide_true, wp, Nat.min_self, z1 (.v (.tup us)) (.inr rfl), aT]
    rfl
end VM

namespace VM
open PySem TL
/-! ### numbers and their texts -/
def numS (i : Int) : Str := Str.ofString (toString i)
theorem tl_pos (m : Nat) : tl (numS (m : Int)) = numL m := tl_num m
theorem tl_neg (k : Nat) : tl (numS (-((k + 1 : Nat) : Int))) = 45 :: numL (k + 1) := by
  unfold numS
  show (Str.ofString (toString (Int.negSucc k))).cps.toList = _
  rw [PyProof.Rows.signs_ofString]
  show ("-" ++ Nat.repr (k + 1)).toList.map Char.toNat = _
  rw [String.toList_append, List.map_append, Nat.toList_repr]
  rfl
theorem numL_hd : ∀ (n : Nat), 0 < n → ∃ c r, numL n = c :: r ∧ c ≠ 48 := fun n => by
  induction n using Nat.strongRecOn with
  | _ n ih =>
    intro h0
    by_cases h : n < 10
    · exact ⟨48 + n, [], numL_lt h, by omega⟩
    · obtain ⟨c, r, e, hc⟩ := ih (n / 10) (by omega) (by omega)
      exact ⟨c, r ++ [48 + n % 10], by rw [numL_step (by omega), e]; rfl, hc⟩
theorem slc_s (h : Hs) (z : Str) (lo hi : Option Int) (q : z.length ≤ lim) : slcS h (.v (.str z)) lo hi = some (.v (.str ⟨(cut z.cps.toList lo hi).toArray⟩)) := if_pos q
theorem cut_hd {α : Type} (x : α) (r : List α) : cut (x :: r) none (some 1) = [x] := by unfold cut sIx; simp
theorem cut_tl {α : Type} (x : α) (r : List α) : cut (x :: r) (some 1) none = r := by
  unfold cut sIx
  simp
theorem X_s (h : Hs) {z : Str} {c : Nat} {r : List Nat} (e : tl z = c :: r) (q : z.length ≤ lim) : idxS h (.v (.str z)) (.v (.int 0)) = some (.v (.str (sg c))) := by
  show (if z.length ≤ lim then match ixU z.cps.toList.length 0 with
      | some j => (z.cps.toList[j]?).map fun c => RV.v (.str ⟨#[c]⟩)
      | none => none
    else none) = _
  have e : z.cps.toList = c :: r := e
  have ix : ixU (c :: r).length 0 = some 0 := by
    unfold ixU
    rw [if_pos (by decide), if_pos (by rw [List.length_cons]; omega)]
    rfl
  rw [if_pos q, e, ix]
  rfl
theorem L_int_s (h : Hs) {z : Str} {n : Int} (e : intText? z = some n) (q : z.length ≤ 640) : bltS .int h [.v (.str z)] = some (.v (.int n)) := by
  show (if z.length ≤ 640 then (intText? z).map fun n => RV.v (.int n) else none) = _
  rw [if_pos q, e]
  rfl
def figs : Str := ⟨#[48, 49, 50, 51, 52, 53, 54, 55, 56, 57]⟩
theorem C_in (h : Hs) (c : Nat) : cmpS .in h (.v (.str (sg c))) (.v (.str figs)) = some (decide (c ∈ [48, 49, 50, 51, 52, 53, 54, 55, 56, 57])) := rfl
theorem fig_in {c : Nat} (h : 48 ≤ c ∧ c ≤ 57) : decide (c ∈ [48, 49, 50, 51, 52, 53, 54, 55, 56, 57]) = true := by
  have : c = 48 ∨ c = 49 ∨ c = 50 ∨ c = 51 ∨ c = 52 ∨ c = 53 ∨ c = 54 ∨ c = 55 ∨ c = 56 ∨ c = 57 := by omega
  rcases this with h | h | h | h | h | h | h | h | h | h <;> subst h <;> decide
theorem L_len_s (h : Hs) {z : Str} (q : z.length ≤ lim) : bltS .len h [.v (.str z)] = some (.v (.int z.length)) := if_pos q
/-- number_in, from the figures F of the text p -/
theorem number_fig (n : Nat) {p F : Str} {c : Nat} {r : List Nat} {v : Int} (hF : tl F = c :: r) (hd : ∀ d ∈ tl F, 48 ≤ d ∧ d ≤ 57) (hl : p.length ≤ 100) (hlF : F.length ≤ 100) (hv : intText? p = some v) (hz : c = 48 → F = p ∧ r = [])
    (hfig : evE (cc prog n) (.ife (.cmp .eq (.slc (.var 0) .none (.some (.c (.int 1)))) (.c (.str ⟨#[45]⟩))) (.slc (.var 0) (.some (.c (.int 1))) .none) (.var 0)) [some (.v (.str p)), some (.v (.int 2000)), none, none] [] = .ok (.v (.str F)) []) :
    (cc prog (n + 1)).call 3 [.v (.str p), .v (.int 2000)] [] = .ok (.v (.int v)) [] := by
  have wp : ∀ a b c d : Option S, wipeR [a, b, c, d] [3] = [a, b, c, none] := fun _ _ _ _ => rfl
  have cm := comp_all (src := .str F) (g := evT1 (cc prog n) (.nm 3)) (f := evE (cc prog n) b_number_in_1) (c := cc prog n) (ρ := [some (.v (.str p)), some (.v (.int 2000)), some (.v (.str F)), none]) (h := []) (F.cps.toList.map fun c => U.str (sg c)) (fun _ => .bl true)
    (fun j x e => by rw [str_at]; exact e) (by rw [List.length_map]; exact str_end _ _) (fun x hx => by
      obtain ⟨d, hd', rfl⟩ := List.mem_map.mp hx
      refine ⟨[some (.v (.str p)), some (.v (.int 2000)), some (.v (.str F)), some (.v (.str (sg d)))], by simp only [e_s, e_t, e_var, e_c, e_gl, e_fn, e_bin, e_cmp, e_ch, e_nt, e_and, e_or, e_ife, e_tup, e_lst, e_neg, e_idx, e_slc, e_on, e_os, e_rev, e_nr, e_nil, e_cons, e_call, e_bi, e_isi, e_met, e_lc, r_v, r_r, i_v, i_r, i_l, t_ok, b1_ok, b2_ok, c1_ok, c2_ok, oB_ok, h1_ok, h2_ok, h3_t, h3_f, h4_ok, n1_ok, a1_ok, a2_t, a2_f, o1_ok, o2_t, o2_f, tr_v, tr_l, tr_r, ts_v, f1_t, f1_f, p1_ok, l1_ok, au_n, au_c, om_s, g1_ok, x1_ok, x2_ok, s1_ok, s2_ok, s3_ok, q1_ok, v1_ok, w1_n, w1_r, k1_ok, k2_ok, d1_ok, d2_ok, d3_ok, y1_ok, z1_ok, z2_ok, m1_ok, mG_ok, m2_ok, lc1_ok, lc2_ok, ofO_s, ofP_s, s_cons, s_nil, s_asg, s_ifs, s_for, s_ret, s_ex, g_nm, g_sub, S1_ok, nE_ok, N1_ok, R_ok, I1_t, I1_f, F1_ok, T1_ok, E1_ok, B0_ok, B1_ok, B2_ok, B3_ok, A_nx, A_rt, V_v, V_r, V_l, W_v, W_l, i_val, i_rng, i_enm, i_zip, iv_s, iv_l, iv_t, iv_f, ir_1, ir_2, ie_l, iz_1, iz_l, iz_t, t1_nm, t1_tp, ts_nil, ts_cons, k_none, k_some, B_add, B_sub, C_lt, C_le, C_gt, C_ge, C_eq, C_ne, C_eqs, C_nes, L_int, L_intb, L_abs, L_lenl, L_lent, L_lenf, L_tup, truU, List.getElem?_cons_succ, List.getElem?_cons_zero, List.set_cons_succ, List.set_cons_zero, List.map_cons, List.map_nil, List.cons_append, List.nil_append, List.replicate_succ, List.replicate_zero], ?_⟩
      have q := C_in [] d
      unfold figs at q
      simp only [b_number_in_1]
      simp only [e_s, e_t, e_var, e_c, e_gl, e_fn, e_bin, e_cmp, e_ch, e_nt, e_and, e_or, e_ife, e_tup, e_lst, e_neg, e_idx, e_slc, e_on, e_os, e_rev, e_nr, e_nil, e_cons, e_call, e_bi, e_isi, e_met, e_lc, r_v, r_r, i_v, i_r, i_l, t_ok, b1_ok, b2_ok, c1_ok, c2_ok, oB_ok, h1_ok, h2_ok, h3_t, h3_f, h4_ok, n1_ok, a1_ok, a2_t, a2_f, o1_ok, o2_t, o2_f, tr_v, tr_l, tr_r, ts_v, f1_t, f1_f, p1_ok, l1_ok, au_n, au_c, om_s, g1_ok, x1_ok, x2_ok, s1_ok, s2_ok, s3_ok, q1_ok, v1_ok, w1_n, w1_r, k1_ok, k2_ok, d1_ok, d2_ok, d3_ok, y1_ok, z1_ok, z2_ok, m1_ok, mG_ok, m2_ok, lc1_ok, lc2_ok, ofO_s, ofP_s, s_cons, s_nil, s_asg, s_ifs, s_for, s_ret, s_ex, g_nm, g_sub, S1_ok, nE_ok, N1_ok, R_ok, I1_t, I1_f, F1_ok, T1_ok, E1_ok, B0_ok, B1_ok, B2_ok, B3_ok, A_nx, A_rt, V_v, V_r, V_l, W_v, W_l, i_val, i_rng, i_enm, i_zip, iv_s, iv_l, iv_t, iv_f, ir_1, ir_2, ie_l, iz_1, iz_l, iz_t, t1_nm, t1_tp, ts_nil, ts_cons, k_none, k_some, B_add, B_sub, C_lt, C_le, C_gt, C_ge, C_eq, C_ne, C_eqs, C_nes, L_int, L_intb, L_abs, L_lenl, L_lent, L_lenf, L_tup, truU, List.getElem?_cons_succ, List.getElem?_cons_zero, List.set_cons_succ, List.set_cons_zero, List.map_cons, List.map_nil, List.cons_append, List.nil_append, List.replicate_succ, List.replicate_zero, q, fig_in (hd d hd')]) (by rw [List.length_map, ← len_tl]; show _ ≤ 16777216; omega)
  rw [List.length_map] at cm
  have aT := allT [] (us := (F.cps.toList.map fun c => U.str (sg c)).map fun _ => U.bl true) (fun u hu => by obtain ⟨_, _, rfl⟩ := List.mem_map.mp hu; rfl)
  have lF : F.length = r.length + 1 := by rw [len_tl, hF]; rfl
  have l1 : decide ((1 : Int) ≤ (F.length : Int)) = true := decide_eq_true (by omega)
  have l2 : decide ((F.length : Int) ≤ 2000) = true := decide_eq_true (by omega)
  have lm : F.length ≤ lim := by show _ ≤ 16777216; omega
  rw [call_eq (d := d_b_number_in) rfl, runF_eq _ _ _ _ _ rfl]
  simp only [d_b_number_in, b_number_in, Nat.reduceSub]
  simp only [s_cons, s_asg, List.map_cons, List.map_nil, List.cons_append, List.nil_append, List.replicate_succ, List.replicate_zero, hfig]
  by_cases hc : c = 48
  · obtain ⟨rfl, rfl⟩ := hz hc
    have d1 : decide (sg c = (⟨#[48]⟩ : Str)) = true := decide_eq_true (by rw [hc])
    have d2 : decide ((1 : Int) < (F.length : Int)) = false := decide_eq_false (by rw [lF]; decide)
    simp only [e_s, e_t, e_var, e_c, e_gl, e_fn, e_bin, e_cmp, e_ch, e_nt, e_and, e_or, e_ife, e_tup, e_lst, e_neg, e_idx, e_slc, e_on, e_os, e_rev, e_nr, e_nil, e_cons, e_call, e_bi, e_isi, e_met, e_lc, r_v, r_r, i_v, i_r, i_l, t_ok, b1_ok, b2_ok, c1_ok, c2_ok, oB_ok, h1_ok, h2_ok, h3_t, h3_f, h4_ok, n1_ok, a1_ok, a2_t, a2_f, o1_ok, o2_t, o2_f, tr_v, tr_l, tr_r, ts_v, f1_t, f1_f, p1_ok, l1_ok, au_n, au_c, om_s, g1_ok, x1_ok, x2_ok, s1_ok, s2_ok, s3_ok, q1_ok, v1_ok, w1_n, w1_r, k1_ok, k2_ok, d1_ok, d2_ok, d3_ok, y1_ok, z1_ok, z2_ok, m1_ok, mG_ok, m2_ok, lc1_ok, lc2_ok, ofO_s, ofP_s, s_cons, s_nil, s_asg, s_ifs, s_for, s_ret, s_ex, g_nm, g_sub, S1_ok, nE_ok, N1_ok, R_ok, I1_t, I1_f, F1_ok, T1_ok, E1_ok, B0_ok, B1_ok, B2_ok, B3_ok, A_nx, A_rt, V_v, V_r, V_l, W_v, W_l, i_val, i_rng, i_enm, i_zip, iv_s, iv_l, iv_t, iv_f, ir_1, ir_2, ie_l, iz_1, iz_l, iz_t, t1_nm, t1_tp, ts_nil, ts_cons, k_none, k_some, B_add, B_sub, C_lt, C_le, C_gt, C_ge, C_eq, C_ne, C_eqs, C_nes, L_int, L_intb, L_abs, L_lenl, L_lent, L_lenf, L_tup, truU, List.getElem?_cons_succ, List.getElem?_cons_zero, List.set_cons_succ, List.set_cons_zero, List.map_cons, List.map_nil, List.cons_append, List.nil_append, List.replicate_succ, List.replicate_zero, L_len_s _ lm, l1, l2, Bool.not_true, wp, cm, aT, X_s _ hF lm, d1, d2, decide_true, L_int_s _ hv (by omega)]
    rfl
  · have d1 : decide (sg c = (⟨#[48]⟩ : Str)) = false := decide_eq_false fun e => hc (by simpa using congrArg tl e)
    simp only [e_s, e_t, e_var, e_c, e_gl, e_fn, e_bin, e_cmp, e_ch, e_nt, e_and, e_or, e_ife, e_tup, e_lst, e_neg, e_idx, e_slc, e_on, e_os, e_rev, e_nr, e_nil, e_cons, e_call, e_bi, e_isi, e_met, e_lc, r_v, r_r, i_v, i_r, i_l, t_ok, b1_ok, b2_ok, c1_ok, c2_ok, oB_ok, h1_ok, h2_ok, h3_t, h3_f, h4_ok, n1_ok, a1_ok, a2_t, a2_f, o1_ok, o2_t, o2_f, tr_v, tr_l, tr_r, ts_v, f1_t, f1_f, p1_ok, l1_ok, au_n, au_c, om_s, g1_ok, x1_ok, x2_ok, s1_ok, s2_ok, s3_ok, q1_ok, v1_ok, w1_n, w1_r, k1_ok, k2_ok, d1_ok, d2_ok, d3_ok, y1_ok, z1_ok, z2_ok, m1_ok, mG_ok, m2_ok, lc1_ok, lc2_ok, ofO_s, ofP_s, s_cons, s_nil, s_asg, s_ifs, s_for, s_ret, s_ex, g_nm, g_sub, S1_ok, nE_ok, N1_ok, R_ok, I1_t, I1_f, F1_ok, T1_ok, E1_ok, B0_ok, B1_ok, B2_ok, B3_ok, A_nx, A_rt, V_v, V_r, V_l, W_v, W_l, i_val, i_rng, i_enm, i_zip, iv_s, iv_l, iv_t, iv_f, ir_1, ir_2, ie_l, iz_1, iz_l, iz_t, t1_nm, t1_tp, ts_nil, ts_cons, k_none, k_some, B_add, B_sub, C_lt, C_le, C_gt, C_ge, C_eq, C_ne, C_eqs, C_nes, L_int, L_intb, L_abs, L_lenl, L_lent, L_lenf, L_tup, truU, List.getElem?_cons_succ, List.getElem?_cons_zero, List.set_cons_succ, List.set_cons_zero, List.map_cons, List.map_nil, List.cons_append, List.nil_append, List.replicate_succ, List.replicate_zero, L_len_s _ lm, l1, l2, Bool.not_true, wp, cm, aT, X_s _ hF lm, d1, L_int_s _ hv (by omega)]
    rfl
theorem numL_short {m : Nat} (h : m < 10 ^ 61) : (numL m).length ≤ 61 := numL_len (by decide) h
theorem number_own (n : Nat) (i : Int) (hi : i.natAbs < 10 ^ 61) : (numS i).length ≤ 70 ∧ (cc prog (n + 2)).call 9 [.v (.str (numS i))] [] = .ok (.v (.int i)) [] := by
  have key : (numS i).length ≤ 70 ∧ (cc prog (n + 1)).call 3 [.v (.str (numS i)), .v (.int 2000)] [] = .ok (.v (.int i)) [] := by
    rcases Int.lt_or_le i 0 with h0 | h0
    · obtain ⟨k, rfl⟩ : ∃ k : Nat, i = -((k + 1 : Nat) : Int) := ⟨i.natAbs - 1, by omega⟩
      have sh := numL_short (m := k + 1) (by rw [Int.natAbs_neg, Int.natAbs_natCast] at hi; exact hi)
      have tn := tl_neg k
      have ln : (numS (-((k + 1 : Nat) : Int))).length ≤ 62 := by rw [len_tl, tn, List.length_cons]; omega
      obtain ⟨c, r, e, hc⟩ := numL_hd (k + 1) (by omega)
      refine ⟨by omega, number_fig n (F := ⟨(numL (k + 1)).toArray⟩) (c := c) (r := r) e (numL_digits (k + 1)) (by omega) (by rw [len_tl]; show (numL (k + 1)).length ≤ 100; omega) ?_ (fun q => absurd q hc) ?_⟩
      · have := intText_neg (x := numS (-((k + 1 : Nat) : Int))) tn (numL_digits (k + 1)) (numL_ne _) (by omega)
        rw [numL_val] at this
        exact this
      · have lm : (numS (-((k + 1 : Nat) : Int))).length ≤ lim := by show _ ≤ 16777216; omega
        have tn' : (numS (-((k + 1 : Nat) : Int))).cps.toList = 45 :: numL (k + 1) := tn
        have d1 : decide ((⟨([45] : List Nat).toArray⟩ : Str) = ⟨#[45]⟩) = true := rfl
        simp only [e_s, e_t, e_var, e_c, e_gl, e_fn, e_bin, e_cmp, e_ch, e_nt, e_and, e_or, e_ife, e_tup, e_lst, e_neg, e_idx, e_slc, e_on, e_os, e_rev, e_nr, e_nil, e_cons, e_call, e_bi, e_isi, e_met, e_lc, r_v, r_r, i_v, i_r, i_l, t_ok, b1_ok, b2_ok, c1_ok, c2_ok, oB_ok, h1_ok, h2_ok, h3_t, h3_f, h4_ok, n1_ok, a1_ok, a2_t, a2_f, o1_ok, o2_t, o2_f, tr_v, tr_l, tr_r, ts_v, f1_t, f1_f, p1_ok, l1_ok, au_n, au_c, om_s, g1_ok, x1_ok, x2_ok, s1_ok, s2_ok, s3_ok, q1_ok, v1_ok, w1_n, w1_r, k1_ok, k2_ok, d1_ok, d2_ok, d3_ok, y1_ok, z1_ok, z2_ok, m1_ok, mG_ok, m2_ok, lc1_ok, lc2_ok, ofO_s, ofP_s, s_cons, s_nil, s_asg, s_ifs, s_for, s_ret, s_ex, g_nm, g_sub, S1_ok, nE_ok, N1_ok, R_ok, I1_t, I1_f, F1_ok, T1_ok, E1_ok, B0_ok, B1_ok, B2_ok, B3_ok, A_nx, A_rt, V_v, V_r, V_l, W_v, W_l, i_val, i_rng, i_enm, i_zip, iv_s, iv_l, iv_t, iv_f, ir_1, ir_2, ie_l, iz_1, iz_l, iz_t, t1_nm, t1_tp, ts_nil, ts_cons, k_none, k_some, B_add, B_sub, C_lt, C_le, C_gt, C_ge, C_eq, C_ne, C_eqs, C_nes, L_int, L_intb, L_abs, L_lenl, L_lent, L_lenf, L_tup, truU, List.getElem?_cons_succ, List.getElem?_cons_zero, List.set_cons_succ, List.set_cons_zero, List.map_cons, List.map_nil, List.cons_append, List.nil_append, List.replicate_succ, List.replicate_zero, slc_s _ _ _ _ lm, tn', cut_hd, cut_tl, d1, decide_true]
    · obtain ⟨m, rfl⟩ := Int.eq_ofNat_of_zero_le h0
      have sh := numL_short (m := m) (by rw [Int.natAbs_natCast] at hi; exact hi)
      have tp := tl_pos m
      have ln : (numS (m : Int)).length ≤ 61 := by rw [len_tl, tp]; omega
      have lm : (numS (m : Int)).length ≤ lim := by show _ ≤ 16777216; omega
      have ex : ∃ c r, numL m = c :: r ∧ (c = 48 → r = []) := by
        by_cases hm : m = 0
        · subst hm
          exact ⟨48, [], by rw [numL_lt (by decide)], fun _ => rfl⟩
        · obtain ⟨c, r, e, hc⟩ := numL_hd m (by omega)
          exact ⟨c, r, e, fun q => absurd q hc⟩
      obtain ⟨c, r, e, hc⟩ := ex
      have tp' : (numS (m : Int)).cps.toList = c :: r := tp.trans e
      refine ⟨by omega, number_fig n (F := numS (m : Int)) (c := c) (r := r) tp' (fun d hd => numL_digits m d (by rw [← tp]; exact hd)) (by omega) (by omega) ?_ (fun q => ⟨rfl, hc q⟩) ?_⟩
      · have := intText_digits (x := numS (m : Int)) (by rw [show (numS (m : Int)).cps.toList = numL m from tp]; exact numL_digits m) (by rw [tp']; simp) (by omega)
        rw [show (numS (m : Int)).cps.toList = numL m from tp, numL_val] at this
        exact this
      · have c45 : c ≠ 45 := by
          have := numL_digits m c (by rw [e]; simp)
          omega
        have d1 : decide ((⟨([c] : List Nat).toArray⟩ : Str) = ⟨#[45]⟩) = false := decide_eq_false fun q => c45 (by simpa using congrArg tl q)
        simp only [e_s, e_t, e_var, e_c, e_gl, e_fn, e_bin, e_cmp, e_ch, e_nt, e_and, e_or, e_ife, e_tup, e_lst, e_neg, e_idx, e_slc, e_on, e_os, e_rev, e_nr, e_nil, e_cons, e_call, e_bi, e_isi, e_met, e_lc, r_v, r_r, i_v, i_r, i_l, t_ok, b1_ok, b2_ok, c1_ok, c2_ok, oB_ok, h1_ok, h2_ok, h3_t, h3_f, h4_ok, n1_ok, a1_ok, a2_t, a2_f, o1_ok, o2_t, o2_f, tr_v, tr_l, tr_r, ts_v, f1_t, f1_f, p1_ok, l1_ok, au_n, au_c, om_s, g1_ok, x1_ok, x2_ok, s1_ok, s2_ok, s3_ok, q1_ok, v1_ok, w1_n, w1_r, k1_ok, k2_ok, d1_ok, d2_ok, d3_ok, y1_ok, z1_ok, z2_ok, m1_ok, mG_ok, m2_ok, lc1_ok, lc2_ok, ofO_s, ofP_s, s_cons, s_nil, s_asg, s_ifs, s_for, s_ret, s_ex, g_nm, g_sub, S1_ok, nE_ok, N1_ok, R_ok, I1_t, I1_f, F1_ok, T1_ok, E1_ok, B0_ok, B1_ok, B2_ok, B3_ok, A_nx, A_rt, V_v, V_r, V_l, W_v, W_l, i_val, i_rng, i_enm, i_zip, iv_s, iv_l, iv_t, iv_f, ir_1, ir_2, ie_l, iz_1, iz_l, iz_t, t1_nm, t1_tp, ts_nil, ts_cons, k_none, k_some, B_add, B_sub, C_lt, C_le, C_gt, C_ge, C_eq, C_ne, C_eqs, C_nes, L_int, L_intb, L_abs, L_lenl, L_lent, L_lenf, L_tup, truU, List.getElem?_cons_succ, List.getElem?_cons_zero, List.set_cons_succ, List.set_cons_zero, List.map_cons, List.map_nil, List.cons_append, List.nil_append, List.replicate_succ, List.replicate_zero, slc_s _ _ _ _ lm, tp', cut_hd, d1]
  obtain ⟨k1, k2⟩ := key
  have e : doCall (cc prog (n + 1)) 3 [.v (.str (numS i)), .v (.int 2000)] [] = .ok (.v (.int i)) [] := doCall_v (us := [.str (numS i), .int 2000]) _ k2
  refine ⟨k1, ?_⟩
  rw [call_eq (d := d_b_number_of) rfl, runF_eq _ _ _ _ _ rfl]
  simp only [d_b_number_of, b_number_of, Nat.reduceSub]
  simp only [e_s, e_t, e_var, e_c, e_gl, e_fn, e_bin, e_cmp, e_ch, e_nt, e_and, e_or, e_ife, e_tup, e_lst, e_neg, e_idx, e_slc, e_on, e_os, e_rev, e_nr, e_nil, e_cons, e_call, e_bi, e_isi, e_met, e_lc, r_v, r_r, i_v, i_r, i_l, t_ok, b1_ok, b2_ok, c1_ok, c2_ok, oB_ok, h1_ok, h2_ok, h3_t, h3_f, h4_ok, n1_ok, a1_ok, a2_t, a2_f, o1_ok, o2_t, o2_f, tr_v, tr_l, tr_r, ts_v, f1_t, f1_f, p1_ok, l1_ok, au_n, au_c, om_s, g1_ok, x1_ok, x2_ok, s1_ok, s2_ok, s3_ok, q1_ok, v1_ok, w1_n, w1_r, k1_ok, k2_ok, d1_ok, d2_ok, d3_ok, y1_ok, z1_ok, z2_ok, m1_ok, mG_ok, m2_ok, lc1_ok, lc2_ok, ofO_s, ofP_s, s_cons, s_nil, s_asg, s_ifs, s_for, s_ret, s_ex, g_nm, g_sub, S1_ok, nE_ok, N1_ok, R_ok, I1_t, I1_f, F1_ok, T1_ok, E1_ok, B0_ok, B1_ok, B2_ok, B3_ok, A_nx, A_rt, V_v, V_r, V_l, W_v, W_l, i_val, i_rng, i_enm, i_zip, iv_s, iv_l, iv_t, iv_f, ir_1, ir_2, ie_l, iz_1, iz_l, iz_t, t1_nm, t1_tp, ts_nil, ts_cons, k_none, k_some, B_add, B_sub, C_lt, C_le, C_gt, C_ge, C_eq, C_ne, C_eqs, C_nes, L_int, L_intb, L_abs, L_lenl, L_lent, L_lenf, L_tup, truU, List.getElem?_cons_succ, List.getElem?_cons_zero, List.set_cons_succ, List.set_cons_zero, List.map_cons, List.map_nil, List.cons_append, List.nil_append, List.replicate_succ, List.replicate_zero, ty_s, a_s3, Bool.not_true, ar2 3 _ _ _ rfl rfl, e]
  rfl
end VM

namespace VM
open PySem TL
theorem nines : 10 ^ 61 < NumText.digitsVal (List.replicate 2000 57) := by decide +kernel
theorem rep_nines : rep [57] 2000 = List.replicate 2000 57 := by decide +kernel
theorem nine_int : ∃ N : Nat, 10 ^ 61 < N ∧ intText? ⟨(rep [57] 2000).toArray⟩ = some (N : Int) := by
  refine ⟨_, nines, ?_⟩
  rw [rep_nines]
  exact intText_digits (x := ⟨(List.replicate 2000 57).toArray⟩) (fun c hc => by have := List.eq_of_mem_replicate (show c ∈ List.replicate 2000 57 from hc); omega) (by show List.replicate 2000 57 ≠ []; rw [Ne, List.replicate_eq_nil_iff]; decide) (by rw [len_tl]; show (List.replicate 2000 57).length ≤ 4300; rw [List.length_replicate]; decide)
theorem B_muls (h : Hs) (a : Str) (k : Int) (q : -1000000 ≤ k ∧ k ≤ 1000000 ∧ a.length * k.toNat ≤ lim) : binS .mul h (.v (.str a)) (.v (.int k)) = some (.v (.str ⟨(rep a.cps.toList k).toArray⟩)) := if_pos q
theorem L_intL (h : Hs) {z : Str} {n : Int} (e : intText? z = some n) (q : z.length ≤ lim) : bltS .intL h [.v (.str z)] = some (.v (.int n)) := by
  show (if z.length ≤ lim then (intText? z).map fun n => RV.v (.int n) else none) = _
  rw [if_pos q, e]
  rfl
theorem nine_len : (⟨(rep [57] 2000).toArray⟩ : Str).length ≤ lim := by
  rw [rep_nines, len_tl]
  show (List.replicate 2000 57).length ≤ 16777216
  rw [List.length_replicate]
  decide
theorem nine_all : ∃ (z : Str) (N : Nat), (∀ m : Nat, m < 10 ^ 61 → m < N) ∧ intText? z = some (N : Int) ∧ z.length ≤ lim ∧ binS .mul [] (.v (.str ⟨#[57]⟩)) (.v (.int 2000)) = some (.v (.str z)) := by
  obtain ⟨N, h1, h2⟩ := nine_int
  exact ⟨_, N, fun m hm => Nat.lt_trans hm h1, h2, nine_len, B_muls [] ⟨#[57]⟩ 2000 ⟨by decide, by decide, by decide⟩⟩
theorem isnum_ok (n : Nat) (i : Int) : (cc prog (n + 1)).call 0 [.v (.int i)] [] = .ok (.v (.bl true)) [] := by
  have q3 : ([Ty.int].any (isTy 2)) = true := rfl
  have q4 : ([Ty.bool].any (isTy 2)) = false := rfl
  rw [call_eq (d := d_b_is_number) rfl, runF_eq _ _ _ _ _ rfl]
  simp only [d_b_is_number, b_is_number, Nat.reduceSub]
  simp only [e_s, e_t, e_var, e_c, e_gl, e_fn, e_bin, e_cmp, e_ch, e_nt, e_and, e_or, e_ife, e_tup, e_lst, e_neg, e_idx, e_slc, e_on, e_os, e_rev, e_nr, e_nil, e_cons, e_call, e_bi, e_isi, e_met, e_lc, r_v, r_r, i_v, i_r, i_l, t_ok, b1_ok, b2_ok, c1_ok, c2_ok, oB_ok, h1_ok, h2_ok, h3_t, h3_f, h4_ok, n1_ok, a1_ok, a2_t, a2_f, o1_ok, o2_t, o2_f, tr_v, tr_l, tr_r, ts_v, f1_t, f1_f, p1_ok, l1_ok, au_n, au_c, om_s, g1_ok, x1_ok, x2_ok, s1_ok, s2_ok, s3_ok, q1_ok, v1_ok, w1_n, w1_r, k1_ok, k2_ok, d1_ok, d2_ok, d3_ok, y1_ok, z1_ok, z2_ok, m1_ok, mG_ok, m2_ok, lc1_ok, lc2_ok, ofO_s, ofP_s, s_cons, s_nil, s_asg, s_ifs, s_for, s_ret, s_ex, g_nm, g_sub, S1_ok, nE_ok, N1_ok, R_ok, I1_t, I1_f, F1_ok, T1_ok, E1_ok, B0_ok, B1_ok, B2_ok, B3_ok, A_nx, A_rt, V_v, V_r, V_l, W_v, W_l, i_val, i_rng, i_enm, i_zip, iv_s, iv_l, iv_t, iv_f, ir_1, ir_2, ie_l, iz_1, iz_l, iz_t, t1_nm, t1_tp, ts_nil, ts_cons, k_none, k_some, B_add, B_sub, C_lt, C_le, C_gt, C_ge, C_eq, C_ne, C_eqs, C_nes, L_int, L_intb, L_abs, L_lenl, L_lent, L_lenf, L_tup, truU, List.getElem?_cons_succ, List.getElem?_cons_zero, List.set_cons_succ, List.set_cons_zero, List.map_cons, List.map_nil, List.cons_append, List.nil_append, List.replicate_succ, List.replicate_zero, ty_i, q3, q4, Bool.not_false]
  rfl
theorem lt_pow {m : Nat} (h : m < 10 ^ 61) : m < 2 ^ 250 := Nat.lt_of_lt_of_le h (by decide +kernel)
theorem log_1920 {m : Nat} (h : m < 10 ^ 61) : m.log2 < 1920 := by
  by_cases h0 : m = 0
  · subst h0; decide
  · exact Nat.lt_of_lt_of_le ((Nat.log2_lt h0).mpr (lt_pow h)) (by omega)
theorem L_str (h : Hs) {i : Int} (q : i.natAbs.log2 < 1920) : bltS .str h [.v (.int i)] = some (.v (.str (numS i))) := by
  show (if i.natAbs.log2 < 1920 then some (RV.v (.str (numS i))) else none) = _
  rw [if_pos q]
theorem gt_nine {i : Int} {N : Nat} (hi : i.natAbs < N) : decide ((N : Int) < (if i < 0 then -i else i)) = false := decide_eq_false (by split <;> omega)
/-- its body, with another number for the most figures -/
def poB (m : Int) : ISs := (.cons (.ifs (.or (.nt (.call 0 (.cons (.var 0) .nil) [] .nil)) (.cmp .gt (.bi .abs (.cons (.var 0) .nil)) (.bi .intL (.cons (.bin .mul (.c (.str ⟨#[57]⟩)) (.gl ⟨#[77, 79, 83, 84, 95, 70, 73, 71, 85, 82, 69, 83]⟩ (.int m))) .nil)))) (.cons .xx .nil) .nil) (.cons (.ret (.bi .str (.cons (.var 0) .nil))) .nil))
theorem po_gen (n : Nat) (i m : Int) (z9 : Str) (N : Nat) (m9 : binS .mul [] (.v (.str ⟨#[57]⟩)) (.v (.int m)) = some (.v (.str z9))) (l9 : bltS .intL [] [.v (.str z9)] = some (.v (.int (N : Int))))
    (gt : decide ((N : Int) < (if i < 0 then -i else i)) = false) (st1 : bltS .str [] [.v (.int i)] = some (.v (.str (numS i)))) :
    runF (cc prog (n + 1)) 1000000 ⟨1, 1, [], poB m⟩ [.v (.int i)] [] = .ok (.v (.str (numS i))) [] := by
  have e : doCall (cc prog (n + 1)) 0 [.v (.int i)] [] = .ok (.v (.bl true)) [] := doCall_v (us := [.int i]) _ (isnum_ok n i)
  rw [runF_eq _ _ _ _ _ rfl]
  simp only [poB, Nat.reduceSub]
  simp only [e_s, e_t, e_var, e_c, e_gl, e_fn, e_bin, e_cmp, e_ch, e_nt, e_and, e_or, e_ife, e_tup, e_lst, e_neg, e_idx, e_slc, e_on, e_os, e_rev, e_nr, e_nil, e_cons, e_call, e_bi, e_isi, e_met, e_lc, r_v, r_r, i_v, i_r, i_l, t_ok, b1_ok, b2_ok, c1_ok, c2_ok, oB_ok, h1_ok, h2_ok, h3_t, h3_f, h4_ok, n1_ok, a1_ok, a2_t, a2_f, o1_ok, o2_t, o2_f, tr_v, tr_l, tr_r, ts_v, f1_t, f1_f, p1_ok, l1_ok, au_n, au_c, om_s, g1_ok, x1_ok, x2_ok, s1_ok, s2_ok, s3_ok, q1_ok, v1_ok, w1_n, w1_r, k1_ok, k2_ok, d1_ok, d2_ok, d3_ok, y1_ok, z1_ok, z2_ok, m1_ok, mG_ok, m2_ok, lc1_ok, lc2_ok, ofO_s, ofP_s, s_cons, s_nil, s_asg, s_ifs, s_for, s_ret, s_ex, g_nm, g_sub, S1_ok, nE_ok, N1_ok, R_ok, I1_t, I1_f, F1_ok, T1_ok, E1_ok, B0_ok, B1_ok, B2_ok, B3_ok, A_nx, A_rt, V_v, V_r, V_l, W_v, W_l, i_val, i_rng, i_enm, i_zip, iv_s, iv_l, iv_t, iv_f, ir_1, ir_2, ie_l, iz_1, iz_l, iz_t, t1_nm, t1_tp, ts_nil, ts_cons, k_none, k_some, B_add, B_sub, C_lt, C_le, C_gt, C_ge, C_eq, C_ne, C_eqs, C_nes, L_int, L_intb, L_abs, L_lenl, L_lent, L_lenf, L_tup, truU, List.getElem?_cons_succ, List.getElem?_cons_zero, List.set_cons_succ, List.set_cons_zero, List.map_cons, List.map_nil, List.cons_append, List.nil_append, List.replicate_succ, List.replicate_zero, ar1 0 _ _ rfl rfl, e, Bool.not_true, m9, l9, gt, st1]
  rfl
theorem piece_of_ok (n : Nat) (i : Int) (hi : i.natAbs < 10 ^ 61) : (cc prog (n + 2)).call 10 [.v (.int i)] [] = .ok (.v (.str (numS i))) [] := by
  obtain ⟨z9, N, hN, eN, lN, m9⟩ := nine_all
  have hB : d_b_piece_of = ⟨1, 1, [], poB 2000⟩ := rfl
  rw [call_eq (d := d_b_piece_of) rfl, hB]
  exact po_gen n i 2000 z9 N m9 (L_intL [] eN lN) (gt_nine (hN _ hi)) (L_str [] (log_1920 hi))
end VM

namespace VM
open PySem TL
/-! ### rows drawn -/
def sevL : List U := [.str ⟨#[97]⟩, .str ⟨#[55]⟩, .str ⟨#[45]⟩, .str ⟨#[47]⟩, .str ⟨#[40]⟩, .str ⟨#[126]⟩, .str ⟨#[90]⟩]
theorem sevF {u : U} (h : u ∈ sevL) : ∃ c, u = .str (sg c) ∧ 33 ≤ c ∧ c ≤ 126 ∧ c ≠ 35 := by
  unfold sevL at h
  simp only [List.mem_cons, List.not_mem_nil, or_false] at h
  rcases h with rfl | rfl | rfl | rfl | rfl | rfl | rfl
  · exact ⟨97, rfl, by decide, by decide, by decide⟩
  · exact ⟨55, rfl, by decide, by decide, by decide⟩
  · exact ⟨45, rfl, by decide, by decide, by decide⟩
  · exact ⟨47, rfl, by decide, by decide, by decide⟩
  · exact ⟨40, rfl, by decide, by decide, by decide⟩
  · exact ⟨126, rfl, by decide, by decide, by decide⟩
  · exact ⟨90, rfl, by decide, by decide, by decide⟩
theorem take_hd (n t : Nat) {xs : List U} {m : Int} (hs : Hs) (hT : Tin t xs) (ht : t < 1000000000) (hm : 0 < m) (hm2 : m.natAbs < 2 ^ 250) :
    ∃ r xs', doCall (cc prog (n + 1)) 13 [.r 0, .v (.int m)] (.lst xs :: hs) = .ok (.v (.int r)) (.lst xs' :: hs) ∧ 0 ≤ r ∧ r < m ∧ Tin (t + 1) xs' := take_hp n t (h := .lst xs :: hs) (i := 0) rfl hT ht hm hm2
theorem of_hd (n t : Nat) {xs us : List U} (hs : Hs) (hT : Tin t xs) (ht : t < 1000000000) (h0 : us ≠ []) (h1 : us.length < 1000) :
    ∃ u xs', doCall (cc prog (n + 2)) 15 [.r 0, .v (.lst us)] (.lst xs :: hs) = .ok (.v u) (.lst xs' :: hs) ∧ u ∈ us ∧ Tin (t + 1) xs' := of_at n t (h := .lst xs :: hs) (i := 0) rfl hT ht h0 h1
theorem rng1 {r : Int} (h0 : 0 ≤ r) (h1 : r < 3) : rngN 0 (1 + r) 1 = some (1 + r.toNat) := by
  rw [rN_up (by omega) (by omega)]
  congr 1
  omega
theorem of_each {P : U → Prop} {Q : Str → Prop} (hP : ∀ u, P u → ∃ z, u = .str z ∧ Q z) : ∀ {us : List U}, (∀ (j : Nat) (u : U), us[j]? = some u → P u) → ∃ ys : List Str, us = ys.map .str ∧ ∀ y ∈ ys, Q y
  | [], _ => ⟨[], rfl, fun y hy => by cases hy⟩
  | u :: us, h => by
    obtain ⟨z, rfl, q⟩ := hP u (h 0 u rfl)
    obtain ⟨ys, e, k⟩ := of_each hP (us := us) fun j u e => h (j + 1) u (by simpa using e)
    refine ⟨z :: ys, by rw [e]; rfl, fun y hy => ?_⟩
    rcases List.mem_cons.mp hy with rfl | hy
    · exact q
    · exact k y hy
theorem join_singles : ∀ {ys : List Str}, (∀ y ∈ ys, ∃ c, tl y = [c] ∧ 33 ≤ c ∧ c ≤ 126 ∧ c ≠ 35) → (ys.map tl).flatten.length = ys.length ∧ ∀ c ∈ (ys.map tl).flatten, 33 ≤ c ∧ c ≤ 126 ∧ c ≠ 35
  | [], _ => ⟨rfl, fun c hc => by cases hc⟩
  | y :: ys, h => by
    obtain ⟨c, e, hc⟩ := h y (List.mem_cons_self ..)
    obtain ⟨h1, h2⟩ := join_singles (ys := ys) fun z hz => h z (List.mem_cons_of_mem _ hz)
    rw [List.map_cons, List.flatten_cons, e]
    refine ⟨by rw [List.length_append, h1, List.length_cons, List.length_cons, List.length_nil]; omega, fun d hd => ?_⟩
    rcases List.mem_append.mp hd with q | q
    · have : d = c := by simpa using q
      subst this; exact hc
    · exact h2 d q
theorem piece_draw (n t : Nat) (ht : t < 900000000) {xs : List U} (hT : Tin t xs) (hs : Hs) (a0 a2 a3 a4 a5 a6 a7 a8 a9 a10 a11 a12 : Option S) :
    ∃ p xs', sE (evE (cc prog (n + 2)) b_law_2) [a0, some (.r 0), a2, a3, a4, a5, a6, a7, a8, a9, a10, a11, a12] (.lst xs :: hs) = .ok (.v (.str p)) (.lst xs' :: hs) ∧ PcS p ∧ Tin (t + 4) xs' := by
  obtain ⟨r, x1, e1, r0, r1, T1⟩ := take_hd (n + 1) t (m := 3) hs hT (by omega) (by decide) (by decide)
  have wp : wipeR [a0, some (.r 0), a2, a3, a4, a5, a6, a7, a8, a9, a10, a11, a12] [12] = [a0, some (.r 0), a2, a3, a4, a5, a6, a7, a8, a9, a10, a11, none] := rfl
  obtain ⟨us, h', e2, l2, p2, x2, rfl, T2⟩ := comp_ix (src := .rng 0 1 (1 + r.toNat)) (g := evT1 (cc prog (n + 2)) (.nm 12)) (k := evK (cc prog (n + 2)) .none) (f := evE (cc prog (n + 2)) b_law_1) (ρ := [a0, some (.r 0), a2, a3, a4, a5, a6, a7, a8, a9, a10, a11, none]) (N := 1 + r.toNat)
    (Inv := fun i h => ∃ x2, h = .lst x2 :: hs ∧ Tin (t + 1 + i) x2) (P := fun _ u => ∃ c, u = .str (sg c) ∧ 33 ≤ c ∧ c ≤ 126 ∧ c ≠ 35)
    (fun h _ => rng_end _ _ _ _)
    (fun i h hi ⟨x2, e, T⟩ => by
      subst e
      obtain ⟨u, x3, e3, m3, T3⟩ := of_hd n (t + 1 + i) (us := sevL) hs T (by omega) (by simp [sevL]) (by simp [sevL])
      obtain ⟨c, rfl, hc⟩ := sevF m3
      refine ⟨.int (0 + i * 1), [a0, some (.r 0), a2, a3, a4, a5, a6, a7, a8, a9, a10, a11, some (.v (.int (0 + i * 1)))], rng_at _ hi, by simp only [e_s, e_t, e_var, e_c, e_gl, e_fn, e_bin, e_cmp, e_ch, e_nt, e_and, e_or, e_ife, e_tup, e_lst, e_neg, e_idx, e_slc, e_on, e_os, e_rev, e_nr, e_nil, e_cons, e_call, e_bi, e_isi, e_met, e_lc, r_v, r_r, i_v, i_r, i_l, t_ok, b1_ok, b2_ok, c1_ok, c2_ok, oB_ok, h1_ok, h2_ok, h3_t, h3_f, h4_ok, n1_ok, a1_ok, a2_t, a2_f, o1_ok, o2_t, o2_f, tr_v, tr_l, tr_r, ts_v, f1_t, f1_f, p1_ok, l1_ok, au_n, au_c, om_s, g1_ok, x1_ok, x2_ok, s1_ok, s2_ok, s3_ok, q1_ok, v1_ok, w1_n, w1_r, k1_ok, k2_ok, d1_ok, d2_ok, d3_ok, y1_ok, z1_ok, z2_ok, m1_ok, mG_ok, m2_ok, lc1_ok, lc2_ok, ofO_s, ofP_s, s_cons, s_nil, s_asg, s_ifs, s_for, s_ret, s_ex, g_nm, g_sub, S1_ok, nE_ok, N1_ok, R_ok, I1_t, I1_f, F1_ok, T1_ok, E1_ok, B0_ok, B1_ok, B2_ok, B3_ok, A_nx, A_rt, V_v, V_r, V_l, W_v, W_l, i_val, i_rng, i_enm, i_zip, iv_s, iv_l, iv_t, iv_f, ir_1, ir_2, ie_l, iz_1, iz_l, iz_t, t1_nm, t1_tp, ts_nil, ts_cons, k_none, k_some, B_add, B_sub, C_lt, C_le, C_gt, C_ge, C_eq, C_ne, C_eqs, C_nes, L_int, L_intb, L_abs, L_lenl, L_lent, L_lenf, L_tup, truU, List.getElem?_cons_succ, List.getElem?_cons_zero, List.set_cons_succ, List.set_cons_zero, List.map_cons, List.map_nil, List.cons_append, List.nil_append, List.replicate_succ, List.replicate_zero], by simp only [e_s, e_t, e_var, e_c, e_gl, e_fn, e_bin, e_cmp, e_ch, e_nt, e_and, e_or, e_ife, e_tup, e_lst, e_neg, e_idx, e_slc, e_on, e_os, e_rev, e_nr, e_nil, e_cons, e_call, e_bi, e_isi, e_met, e_lc, r_v, r_r, i_v, i_r, i_l, t_ok, b1_ok, b2_ok, c1_ok, c2_ok, oB_ok, h1_ok, h2_ok, h3_t, h3_f, h4_ok, n1_ok, a1_ok, a2_t, a2_f, o1_ok, o2_t, o2_f, tr_v, tr_l, tr_r, ts_v, f1_t, f1_f, p1_ok, l1_ok, au_n, au_c, om_s, g1_ok, x1_ok, x2_ok, s1_ok, s2_ok, s3_ok, q1_ok, v1_ok, w1_n, w1_r, k1_ok, k2_ok, d1_ok, d2_ok, d3_ok, y1_ok, z1_ok, z2_ok, m1_ok, mG_ok, m2_ok, lc1_ok, lc2_ok, ofO_s, ofP_s, s_cons, s_nil, s_asg, s_ifs, s_for, s_ret, s_ex, g_nm, g_sub, S1_ok, nE_ok, N1_ok, R_ok, I1_t, I1_f, F1_ok, T1_ok, E1_ok, B0_ok, B1_ok, B2_ok, B3_ok, A_nx, A_rt, V_v, V_r, V_l, W_v, W_l, i_val, i_rng, i_enm, i_zip, iv_s, iv_l, iv_t, iv_f, ir_1, ir_2, ie_l, iz_1, iz_l, iz_t, t1_nm, t1_tp, ts_nil, ts_cons, k_none, k_some, B_add, B_sub, C_lt, C_le, C_gt, C_ge, C_eq, C_ne, C_eqs, C_nes, L_int, L_intb, L_abs, L_lenl, L_lent, L_lenf, L_tup, truU, List.getElem?_cons_succ, List.getElem?_cons_zero, List.set_cons_succ, List.set_cons_zero, List.map_cons, List.map_nil, List.cons_append, List.nil_append, List.replicate_succ, List.replicate_zero], .str (sg c), .lst x3 :: hs, ?_, ⟨c, rfl, hc⟩, x3, rfl, T3⟩
      unfold sevL at e3
      simp only [b_law_1]
      simp only [e_s, e_t, e_var, e_c, e_gl, e_fn, e_bin, e_cmp, e_ch, e_nt, e_and, e_or, e_ife, e_tup, e_lst, e_neg, e_idx, e_slc, e_on, e_os, e_rev, e_nr, e_nil, e_cons, e_call, e_bi, e_isi, e_met, e_lc, r_v, r_r, i_v, i_r, i_l, t_ok, b1_ok, b2_ok, c1_ok, c2_ok, oB_ok, h1_ok, h2_ok, h3_t, h3_f, h4_ok, n1_ok, a1_ok, a2_t, a2_f, o1_ok, o2_t, o2_f, tr_v, tr_l, tr_r, ts_v, f1_t, f1_f, p1_ok, l1_ok, au_n, au_c, om_s, g1_ok, x1_ok, x2_ok, s1_ok, s2_ok, s3_ok, q1_ok, v1_ok, w1_n, w1_r, k1_ok, k2_ok, d1_ok, d2_ok, d3_ok, y1_ok, z1_ok, z2_ok, m1_ok, mG_ok, m2_ok, lc1_ok, lc2_ok, ofO_s, ofP_s, s_cons, s_nil, s_asg, s_ifs, s_for, s_ret, s_ex, g_nm, g_sub, S1_ok, nE_ok, N1_ok, R_ok, I1_t, I1_f, F1_ok, T1_ok, E1_ok, B0_ok, B1_ok, B2_ok, B3_ok, A_nx, A_rt, V_v, V_r, V_l, W_v, W_l, i_val, i_rng, i_enm, i_zip, iv_s, iv_l, iv_t, iv_f, ir_1, ir_2, ie_l, iz_1, iz_l, iz_t, t1_nm, t1_tp, ts_nil, ts_cons, k_none, k_some, B_add, B_sub, C_lt, C_le, C_gt, C_ge, C_eq, C_ne, C_eqs, C_nes, L_int, L_intb, L_abs, L_lenl, L_lent, L_lenf, L_tup, truU, List.getElem?_cons_succ, List.getElem?_cons_zero, List.set_cons_succ, List.set_cons_zero, List.map_cons, List.map_nil, List.cons_append, List.nil_append, List.replicate_succ, List.replicate_zero, ar2 15 _ _ _ rfl rfl, l2_ok _ [U.str ⟨#[97]⟩, U.str ⟨#[55]⟩, U.str ⟨#[45]⟩, U.str ⟨#[47]⟩, U.str ⟨#[40]⟩, U.str ⟨#[126]⟩, U.str ⟨#[90]⟩] (by show 7 ≤ 16777216; decide), e3]) (1 + r.toNat) 0 [] (.lst x1 :: hs) (by omega) ⟨x1, rfl, T1⟩ (by show 0 + _ ≤ 16777216; omega)
  obtain ⟨ys, rfl, hy⟩ := of_each (P := fun u => ∃ c, u = .str (sg c) ∧ 33 ≤ c ∧ c ≤ 126 ∧ c ≠ 35) (Q := fun z => ∃ c, tl z = [c] ∧ 33 ≤ c ∧ c ≤ 126 ∧ c ≠ 35) (fun u ⟨c, e, h⟩ => ⟨sg c, e, c, rfl, h⟩) p2
  rw [List.length_map] at l2
  obtain ⟨j1, j2⟩ := join_singles hy
  have tj : tl (Txt.join ⟨#[]⟩ ys) = (ys.map tl).flatten := by rw [join_eq, tl_join, show tl (⟨#[]⟩ : Str) = [] from rfl, joinL_nil]
  have sm := sum_short (fun z : Str => z.length) (m := 1) (l := ys) fun y hy' => by
    obtain ⟨c, e, _⟩ := hy y hy'
    rw [len_tl, e]
    exact Nat.le_refl 1
  have jn : metS .join (.lst x2 :: hs) (.v (.str ⟨#[]⟩)) [.v (.lst (ys.map .str))] = some (.v (.str (Txt.join ⟨#[]⟩ ys)), .lst x2 :: hs) := L_join _ (by
    show _ + _ * 0 ≤ 16777216
    rw [Nat.mul_zero]
    omega)
  refine ⟨Txt.join ⟨#[]⟩ ys, x2, ?_, ⟨by rw [len_tl, tj, j1]; omega, ?_, by rw [tj]; exact j2⟩, ?_⟩
  · simp only [b_law_2]
    rw [List.nil_append] at e2
    simp only [e_s, e_t, e_var, e_c, e_gl, e_fn, e_bin, e_cmp, e_ch, e_nt, e_and, e_or, e_ife, e_tup, e_lst, e_neg, e_idx, e_slc, e_on, e_os, e_rev, e_nr, e_nil, e_cons, e_call, e_bi, e_isi, e_met, e_lc, r_v, r_r, i_v, i_r, i_l, t_ok, b1_ok, b2_ok, c1_ok, c2_ok, oB_ok, h1_ok, h2_ok, h3_t, h3_f, h4_ok, n1_ok, a1_ok, a2_t, a2_f, o1_ok, o2_t, o2_f, tr_v, tr_l, tr_r, ts_v, f1_t, f1_f, p1_ok, l1_ok, au_n, au_c, om_s, g1_ok, x1_ok, x2_ok, s1_ok, s2_ok, s3_ok, q1_ok, v1_ok, w1_n, w1_r, k1_ok, k2_ok, d1_ok, d2_ok, d3_ok, y1_ok, z1_ok, z2_ok, m1_ok, mG_ok, m2_ok, lc1_ok, lc2_ok, ofO_s, ofP_s, s_cons, s_nil, s_asg, s_ifs, s_for, s_ret, s_ex, g_nm, g_sub, S1_ok, nE_ok, N1_ok, R_ok, I1_t, I1_f, F1_ok, T1_ok, E1_ok, B0_ok, B1_ok, B2_ok, B3_ok, A_nx, A_rt, V_v, V_r, V_l, W_v, W_l, i_val, i_rng, i_enm, i_zip, iv_s, iv_l, iv_t, iv_f, ir_1, ir_2, ie_l, iz_1, iz_l, iz_t, t1_nm, t1_tp, ts_nil, ts_cons, k_none, k_some, B_add, B_sub, C_lt, C_le, C_gt, C_ge, C_eq, C_ne, C_eqs, C_nes, L_int, L_intb, L_abs, L_lenl, L_lent, L_lenf, L_tup, truU, List.getElem?_cons_succ, List.getElem?_cons_zero, List.set_cons_succ, List.set_cons_zero, List.map_cons, List.map_nil, List.cons_append, List.nil_append, List.replicate_succ, List.replicate_zero, T_join, ar2 13 _ _ _ rfl rfl, e1, rng1 r0 r1, wp, e2, jn]
  · rw [tj]
    intro e
    have := congrArg List.length e
    rw [j1, List.length_nil] at this
    omega
  · obtain ⟨a', b', c', e', h3, h4⟩ := T2
    exact ⟨a', b', c', e', h3, by omega⟩
/-- a row drawn, as the list that is to be a tuple -/
theorem row_draw (n t : Nat) (ht : t < 890000000) {xs : List U} (hT : Tin t xs) (hs : Hs) (a0 a2 a3 a4 a5 a6 a7 a8 a9 a10 a11 a12 : Option S) :
    ∃ r xs', sE (evE (cc prog (n + 2)) (.bi .tuple (.cons (.lc (.nm 11) (.rng (.cons (.bin .add (.c (.int 1)) (.call 13 (.cons (.var 1) (.cons (.c (.int 3)) .nil)) [] .nil)) .nil)) .none b_law_2 [(⟨#[106]⟩, 11)]) .nil))) [a0, some (.r 0), a2, a3, a4, a5, a6, a7, a8, a9, a10, a11, a12] (.lst xs :: hs) = .ok (.v (rU r)) (.lst xs' :: hs) ∧ RowOk r ∧ Tin (t + 13) xs' := by
  obtain ⟨r, x1, e1, r0, r1, T1⟩ := take_hd (n + 1) t (m := 3) hs hT (by omega) (by decide) (by decide)
  have wp : wipeR [a0, some (.r 0), a2, a3, a4, a5, a6, a7, a8, a9, a10, a11, a12] [11] = [a0, some (.r 0), a2, a3, a4, a5, a6, a7, a8, a9, a10, none, a12] := rfl
  obtain ⟨us, h', e2, l2, p2, x2, rfl, T2⟩ := comp_ix (src := .rng 0 1 (1 + r.toNat)) (g := evT1 (cc prog (n + 2)) (.nm 11)) (k := evK (cc prog (n + 2)) .none) (f := evE (cc prog (n + 2)) b_law_2) (ρ := [a0, some (.r 0), a2, a3, a4, a5, a6, a7, a8, a9, a10, none, a12]) (N := 1 + r.toNat)
    (Inv := fun i h => ∃ x2, h = .lst x2 :: hs ∧ Tin (t + 1 + i * 4) x2) (P := fun _ u => ∃ z, u = .str z ∧ PcS z)
    (fun h _ => rng_end _ _ _ _)
    (fun i h hi ⟨x2, e, T⟩ => by
      subst e
      obtain ⟨p, x3, e3, hp, T3⟩ := piece_draw n (t + 1 + i * 4) (by omega) T hs a0 a2 a3 a4 a5 a6 a7 a8 a9 a10 (some (.v (.int (0 + i * 1)))) a12
      exact ⟨.int (0 + i * 1), [a0, some (.r 0), a2, a3, a4, a5, a6, a7, a8, a9, a10, some (.v (.int (0 + i * 1))), a12], rng_at _ hi, by simp only [e_s, e_t, e_var, e_c, e_gl, e_fn, e_bin, e_cmp, e_ch, e_nt, e_and, e_or, e_ife, e_tup, e_lst, e_neg, e_idx, e_slc, e_on, e_os, e_rev, e_nr, e_nil, e_cons, e_call, e_bi, e_isi, e_met, e_lc, r_v, r_r, i_v, i_r, i_l, t_ok, b1_ok, b2_ok, c1_ok, c2_ok, oB_ok, h1_ok, h2_ok, h3_t, h3_f, h4_ok, n1_ok, a1_ok, a2_t, a2_f, o1_ok, o2_t, o2_f, tr_v, tr_l, tr_r, ts_v, f1_t, f1_f, p1_ok, l1_ok, au_n, au_c, om_s, g1_ok, x1_ok, x2_ok, s1_ok, s2_ok, s3_ok, q1_ok, v1_ok, w1_n, w1_r, k1_ok, k2_ok, d1_ok, d2_ok, d3_ok, y1_ok, z1_ok, z2_ok, m1_ok, mG_ok, m2_ok, lc1_ok, lc2_ok, ofO_s, ofP_s, s_cons, s_nil, s_asg, s_ifs, s_for, s_ret, s_ex, g_nm, g_sub, S1_ok, nE_ok, N1_ok, R_ok, I1_t, I1_f, F1_ok, T1_ok, E1_ok, B0_ok, B1_ok, B2_ok, B3_ok, A_nx, A_rt, V_v, V_r, V_l, W_v, W_l, i_val, i_rng, i_enm, i_zip, iv_s, iv_l, iv_t, iv_f, ir_1, ir_2, ie_l, iz_1, iz_l, iz_t, t1_nm, t1_tp, ts_nil, ts_cons, k_none, k_some, B_add, B_sub, C_lt, C_le, C_gt, C_ge, C_eq, C_ne, C_eqs, C_nes, L_int, L_intb, L_abs, L_lenl, L_lent, L_lenf, L_tup, truU, List.getElem?_cons_succ, List.getElem?_cons_zero, List.set_cons_succ, List.set_cons_zero, List.map_cons, List.map_nil, List.cons_append, List.nil_append, List.replicate_succ, List.replicate_zero], by simp only [e_s, e_t, e_var, e_c, e_gl, e_fn, e_bin, e_cmp, e_ch, e_nt, e_and, e_or, e_ife, e_tup, e_lst, e_neg, e_idx, e_slc, e_on, e_os, e_rev, e_nr, e_nil, e_cons, e_call, e_bi, e_isi, e_met, e_lc, r_v, r_r, i_v, i_r, i_l, t_ok, b1_ok, b2_ok, c1_ok, c2_ok, oB_ok, h1_ok, h2_ok, h3_t, h3_f, h4_ok, n1_ok, a1_ok, a2_t, a2_f, o1_ok, o2_t, o2_f, tr_v, tr_l, tr_r, ts_v, f1_t, f1_f, p1_ok, l1_ok, au_n, au_c, om_s, g1_ok, x1_ok, x2_ok, s1_ok, s2_ok, s3_ok, q1_ok, v1_ok, w1_n, w1_r, k1_ok, k2_ok, d1_ok, d2_ok, d3_ok, y1_ok, z1_ok, z2_ok, m1_ok, mG_ok, m2_ok, lc1_ok, lc2_ok, ofO_s, ofP_s, s_cons, s_nil, s_asg, s_ifs, s_for, s_ret, s_ex, g_nm, g_sub, S1_ok, nE_ok, N1_ok, R_ok, I1_t, I1_f, F1_ok, T1_ok, E1_ok, B0_ok, B1_ok, B2_ok, B3_ok, A_nx, A_rt, V_v, V_r, V_l, W_v, W_l, i_val, i_rng, i_enm, i_zip, iv_s, iv_l, iv_t, iv_f, ir_1, ir_2, ie_l, iz_1, iz_l, iz_t, t1_nm, t1_tp, ts_nil, ts_cons, k_none, k_some, B_add, B_sub, C_lt, C_le, C_gt, C_ge, C_eq, C_ne, C_eqs, C_nes, L_int, L_intb, L_abs, L_lenl, L_lent, L_lenf, L_tup, truU, List.getElem?_cons_succ, List.getElem?_cons_zero, List.set_cons_succ, List.set_cons_zero, List.map_cons, List.map_nil, List.cons_append, List.nil_append, List.replicate_succ, List.replicate_zero], .str p, .lst x3 :: hs, e3, ⟨p, rfl, hp⟩, x3, rfl, by rw [Nat.succ_mul, ← Nat.add_assoc]; exact T3⟩) (1 + r.toNat) 0 [] (.lst x1 :: hs) (by omega) ⟨x1, rfl, by rw [Nat.zero_mul]; exact T1⟩ (by show 0 + _ ≤ 16777216; omega)
  obtain ⟨ys, rfl, hy⟩ := of_each (P := fun u => ∃ z, u = .str z ∧ PcS z) (Q := PcS) (fun u h => h) p2
  rw [List.length_map] at l2
  refine ⟨ys, x2, ?_, ⟨fun e => by rw [e] at l2; simp at l2; omega, by omega, hy⟩, ?_⟩
  · rw [List.nil_append] at e2
    simp only [e_s, e_t, e_var, e_c, e_gl, e_fn, e_bin, e_cmp, e_ch, e_nt, e_and, e_or, e_ife, e_tup, e_lst, e_neg, e_idx, e_slc, e_on, e_os, e_rev, e_nr, e_nil, e_cons, e_call, e_bi, e_isi, e_met, e_lc, r_v, r_r, i_v, i_r, i_l, t_ok, b1_ok, b2_ok, c1_ok, c2_ok, oB_ok, h1_ok, h2_ok, h3_t, h3_f, h4_ok, n1_ok, a1_ok, a2_t, a2_f, o1_ok, o2_t, o2_f, tr_v, tr_l, tr_r, ts_v, f1_t, f1_f, p1_ok, l1_ok, au_n, au_c, om_s, g1_ok, x1_ok, x2_ok, s1_ok, s2_ok, s3_ok, q1_ok, v1_ok, w1_n, w1_r, k1_ok, k2_ok, d1_ok, d2_ok, d3_ok, y1_ok, z1_ok, z2_ok, m1_ok, mG_ok, m2_ok, lc1_ok, lc2_ok, ofO_s, ofP_s, s_cons, s_nil, s_asg, s_ifs, s_for, s_ret, s_ex, g_nm, g_sub, S1_ok, nE_ok, N1_ok, R_ok, I1_t, I1_f, F1_ok, T1_ok, E1_ok, B0_ok, B1_ok, B2_ok, B3_ok, A_nx, A_rt, V_v, V_r, V_l, W_v, W_l, i_val, i_rng, i_enm, i_zip, iv_s, iv_l, iv_t, iv_f, ir_1, ir_2, ie_l, iz_1, iz_l, iz_t, t1_nm, t1_tp, ts_nil, ts_cons, k_none, k_some, B_add, B_sub, C_lt, C_le, C_gt, C_ge, C_eq, C_ne, C_eqs, C_nes, L_int, L_intb, L_abs, L_lenl, L_lent, L_lenf, L_tup, truU, List.getElem?_cons_succ, List.getElem?_cons_zero, List.set_cons_succ, List.set_cons_zero, List.map_cons, List.map_nil, List.cons_append, List.nil_append, List.replicate_succ, List.replicate_zero, ar2 13 _ _ _ rfl rfl, e1, rng1 r0 r1, wp, e2]
    rfl
  · obtain ⟨a', b', c', e', h3, h4⟩ := T2
    exact ⟨a', b', c', e', h3, by omega⟩
end VM

namespace VM
open PySem TL
theorem ownl_at (a o : MO) (hs : Hs) : (a :: (hs ++ [o]))[hs.length + 1]? = some o := by
  rw [List.getElem?_cons_succ, List.getElem?_append_right (Nat.le_refl _), Nat.sub_self]
  rfl
theorem ownl_set (a o o' : MO) (hs : Hs) : (a :: (hs ++ [o])).set (hs.length + 1) o' = a :: (hs ++ [o']) := by
  rw [List.set_cons_succ, List.set_append_right _ _ (Nat.le_refl _), Nat.sub_self]
  rfl
theorem T_apo (a : MO) (hs : Hs) (us : List U) : metT .append (a :: (hs ++ [.lst us])) (.r (hs.length + 1)) = true := by
  have e : seqS (a :: (hs ++ [.lst us])) (.r (hs.length + 1)) = some (true, us) := by
    simp only [seqS, ownl_at]
  show (match seqS (a :: (hs ++ [.lst us])) (.r (hs.length + 1)) with
    | some (true, _) => true
    | _ => false) = true
  rw [e]
theorem L_apo (a : MO) (hs : Hs) (us : List U) (u : U) (hl : us.length < lim) : metS .append (a :: (hs ++ [.lst us])) (.r (hs.length + 1)) [.v u] = some (.v .non, a :: (hs ++ [.lst (us ++ [u])])) := by
  show onL (a :: (hs ++ [.lst us])) (.r (hs.length + 1)) (fun n xs => if xs.length < lim then some (RV.v .non, (a :: (hs ++ [MO.lst us])).set n (.lst (xs ++ [u]))) else none) = _
  unfold onL
  dsimp only
  rw [ownl_at]
  dsimp only
  rw [if_pos hl, ownl_set]
theorem rng0 {r : Int} (h0 : 0 ≤ r) (h1 : r < 6) : rngN 0 r 1 = some r.toNat := rN_up h0 (by omega)
/-- the rows of a lap -/
theorem rows_draw (n t : Nat) (ht : t < 800000000) {xs : List U} (hT : Tin t xs) (hs : Hs) (a0 a2 a3 a5 a6 a7 a8 a9 a10 a11 a12 : Option S) :
    ∃ rows xs' b5, evS (cc prog (n + 2)) 1000000 (.fors (.nm 5) (.rng (.cons (.call 13 (.cons (.var 1) (.cons (.c (.int 6)) .nil)) [] .nil) .nil)) b_law_3) [a0, some (.r 0), a2, a3, some (.r (hs.length + 1)), a5, a6, a7, a8, a9, a10, a11, a12] (.lst xs :: (hs ++ [.lst []])) =
      .nx [a0, some (.r 0), a2, a3, some (.r (hs.length + 1)), b5, a6, a7, a8, a9, a10, a11, a12] (.lst xs' :: (hs ++ [.lst (rows.map rU)])) ∧ RowsOk rows ∧ Tin (t + 70) xs' := by
  obtain ⟨r, x1, e1, r0, r1, T1⟩ := take_hd (n + 1) t (m := 6) (hs ++ [.lst []]) hT (by omega) (by decide) (by decide)
  obtain ⟨ρ', h', e, rows, x2, b5, rfl, rfl, hl, hr, T⟩ := for_ex (src := .rng 0 1 r.toNat) (g := evT1 (cc prog (n + 2)) (.nm 5)) (b := evSs (cc prog (n + 2)) 1000000 b_law_3) (N := r.toNat)
    (Inv := fun i ρ h => ∃ (rows : List (List Str)) (x2 : List U) (b5 : Option S), ρ = [a0, some (.r 0), a2, a3, some (.r (hs.length + 1)), b5, a6, a7, a8, a9, a10, a11, a12] ∧ h = .lst x2 :: (hs ++ [.lst (rows.map rU)]) ∧ rows.length = i ∧ (∀ r ∈ rows, RowOk r) ∧ Tin (t + 1 + i * 13) x2)
    (fun ρ h _ => rng_end _ _ _ _)
    (fun i ρ h hi ⟨rows, x2, b5, q1, q2, hl, hr, T⟩ => by
      subst q1 q2
      obtain ⟨row, x3, e3, ro, T3⟩ := row_draw n (t + 1 + i * 13) (by omega) T (hs ++ [.lst (rows.map rU)]) a0 a2 a3 (some (.r (hs.length + 1))) (some (.v (.int (0 + i * 1)))) a6 a7 a8 a9 a10 a11 a12
      refine ⟨.int (0 + i * 1), [a0, some (.r 0), a2, a3, some (.r (hs.length + 1)), some (.v (.int (0 + i * 1))), a6, a7, a8, a9, a10, a11, a12], rng_at _ hi, by simp only [e_s, e_t, e_var, e_c, e_gl, e_fn, e_bin, e_cmp, e_ch, e_nt, e_and, e_or, e_ife, e_tup, e_lst, e_neg, e_idx, e_slc, e_on, e_os, e_rev, e_nr, e_nil, e_cons, e_call, e_bi, e_isi, e_met, e_lc, r_v, r_r, i_v, i_r, i_l, t_ok, b1_ok, b2_ok, c1_ok, c2_ok, oB_ok, h1_ok, h2_ok, h3_t, h3_f, h4_ok, n1_ok, a1_ok, a2_t, a2_f, o1_ok, o2_t, o2_f, tr_v, tr_l, tr_r, ts_v, f1_t, f1_f, p1_ok, l1_ok, au_n, au_c, om_s, g1_ok, x1_ok, x2_ok, s1_ok, s2_ok, s3_ok, q1_ok, v1_ok, w1_n, w1_r, k1_ok, k2_ok, d1_ok, d2_ok, d3_ok, y1_ok, z1_ok, z2_ok, m1_ok, mG_ok, m2_ok, lc1_ok, lc2_ok, ofO_s, ofP_s, s_cons, s_nil, s_asg, s_ifs, s_for, s_ret, s_ex, g_nm, g_sub, S1_ok, nE_ok, N1_ok, R_ok, I1_t, I1_f, F1_ok, T1_ok, E1_ok, B0_ok, B1_ok, B2_ok, B3_ok, A_nx, A_rt, V_v, V_r, V_l, W_v, W_l, i_val, i_rng, i_enm, i_zip, iv_s, iv_l, iv_t, iv_f, ir_1, ir_2, ie_l, iz_1, iz_l, iz_t, t1_nm, t1_tp, ts_nil, ts_cons, k_none, k_some, B_add, B_sub, C_lt, C_le, C_gt, C_ge, C_eq, C_ne, C_eqs, C_nes, L_int, L_intb, L_abs, L_lenl, L_lent, L_lenf, L_tup, truU, List.getElem?_cons_succ, List.getElem?_cons_zero, List.set_cons_succ, List.set_cons_zero, List.map_cons, List.map_nil, List.cons_append, List.nil_append, List.replicate_succ, List.replicate_zero], [a0, some (.r 0), a2, a3, some (.r (hs.length + 1)), some (.v (.int (0 + i * 1))), a6, a7, a8, a9, a10, a11, a12], .lst x3 :: (hs ++ [.lst (rows.map rU ++ [rU row])]), ?_, rows ++ [row], x3, _, rfl, ?_, ?_, ?_, ?_⟩
      · have lm : (rows.map rU).length < lim := by rw [List.length_map]; show _ < 16777216; omega
        simp only [b_law_3, s_cons, s_ex, e_met, e_s, e_var, List.getElem?_cons_succ, List.getElem?_cons_zero, r_r, i_r, m1_ok, T_apo, mG_ok, e_cons]
        rw [← e_s, e3]
        simp only [k1_ok, e_nil, k2_ok, m2_ok, L_apo _ _ _ _ lm, ofP_s, E1_ok, A_nx, s_nil]
      · rw [List.map_append]; rfl
      · rw [List.length_append, hl]; rfl
      · intro z hz
        rcases List.mem_append.mp hz with q | q
        · exact hr z q
        · have : z = row := by simpa using q
          subst this; exact ro
      · rw [Nat.succ_mul, ← Nat.add_assoc]; exact T3) r.toNat 0 [a0, some (.r 0), a2, a3, some (.r (hs.length + 1)), a5, a6, a7, a8, a9, a10, a11, a12] (.lst x1 :: (hs ++ [.lst []])) (by omega) ⟨[], x1, a5, rfl, rfl, rfl, (fun r hr => by cases hr), by rw [Nat.zero_mul]; exact T1⟩
  refine ⟨rows, x2, b5, ?_, ⟨by omega, hr⟩, ?_⟩
  · simp only [e_s, e_t, e_var, e_c, e_gl, e_fn, e_bin, e_cmp, e_ch, e_nt, e_and, e_or, e_ife, e_tup, e_lst, e_neg, e_idx, e_slc, e_on, e_os, e_rev, e_nr, e_nil, e_cons, e_call, e_bi, e_isi, e_met, e_lc, r_v, r_r, i_v, i_r, i_l, t_ok, b1_ok, b2_ok, c1_ok, c2_ok, oB_ok, h1_ok, h2_ok, h3_t, h3_f, h4_ok, n1_ok, a1_ok, a2_t, a2_f, o1_ok, o2_t, o2_f, tr_v, tr_l, tr_r, ts_v, f1_t, f1_f, p1_ok, l1_ok, au_n, au_c, om_s, g1_ok, x1_ok, x2_ok, s1_ok, s2_ok, s3_ok, q1_ok, v1_ok, w1_n, w1_r, k1_ok, k2_ok, d1_ok, d2_ok, d3_ok, y1_ok, z1_ok, z2_ok, m1_ok, mG_ok, m2_ok, lc1_ok, lc2_ok, ofO_s, ofP_s, s_cons, s_nil, s_asg, s_ifs, s_for, s_ret, s_ex, g_nm, g_sub, S1_ok, nE_ok, N1_ok, R_ok, I1_t, I1_f, F1_ok, T1_ok, E1_ok, B0_ok, B1_ok, B2_ok, B3_ok, A_nx, A_rt, V_v, V_r, V_l, W_v, W_l, i_val, i_rng, i_enm, i_zip, iv_s, iv_l, iv_t, iv_f, ir_1, ir_2, ie_l, iz_1, iz_l, iz_t, t1_nm, t1_tp, ts_nil, ts_cons, k_none, k_some, B_add, B_sub, C_lt, C_le, C_gt, C_ge, C_eq, C_ne, C_eqs, C_nes, L_int, L_intb, L_abs, L_lenl, L_lent, L_lenf, L_tup, truU, List.getElem?_cons_succ, List.getElem?_cons_zero, List.set_cons_succ, List.set_cons_zero, List.map_cons, List.map_nil, List.cons_append, List.nil_append, List.replicate_succ, List.replicate_zero, ar2 13 _ _ _ rfl rfl, e1, rng0 r0 r1, e]
  · obtain ⟨a', b', c', e', h3, h4⟩ := T
    exact ⟨a', b', c', e', h3, by omega⟩
theorem fz_at (c : CC) (k : Nat) {ρ : Rho} {h : Hs} {i n : Nat} {us : List U} (h1 : ρ[i]? = some (some (.r n))) (h2 : h[n]? = some (.lst us)) : evS c k (.fz i) ρ h = .nx (ρ.set i (some (.v (.lst us)))) (h.set n .dead) := by
  rw [evS]
  simp only [h1, h2]
end VM

namespace VM
open PySem TL
theorem ar1k (f n : Nat) (a : S) (e : prog[f]?.map FD.np = some 1) (e2 : prog[f]?.map FD.df = some []) : argsOf (cc prog n) f [] [0] [a] = some [a] := by
  unfold argsOf
  have h1 : (cc prog n).np f = 1 := by have : (cc prog n).np f = (prog[f]?.map FD.np).getD 0 := by cases n <;> rfl
                                       rw [this, e]; rfl
  have h2 : (cc prog n).df f = [] := by have : (cc prog n).df f = (prog[f]?.map FD.df).getD [] := by cases n <;> rfl
                                        rw [this, e2]; rfl
  rw [h1, h2]
  rfl
theorem tin_le {t t' : Nat} {xs : List U} (h : Tin t xs) (q : t ≤ t') : Tin t' xs := by
  obtain ⟨a', b', c', e', h3, h4⟩ := h
  exact ⟨a', b', c', e', h3, by omega⟩
/-- the pairs that rows_of tells -/
def prs (rows : List (List Str)) : List U := rows.zipIdx.map fun p => U.tup [.int (p.2 : Nat), rU p.1]
theorem prs_len (rows : List (List Str)) : (prs rows).length = rows.length := by unfold prs; rw [List.length_map, List.length_zipIdx]
theorem same_row (n : Nat) {r : List Str} (hr : RowOk r) : (cc prog (n + 2)).call 16 [.v (rU r), .v (rU r)] [] = .ok (.v (.bl true)) [] := same_seq n (us := r.map .str) (.inr rfl) (by rw [List.length_map]; have := hr.2.1; omega) fun v hv => by
  obtain ⟨z, _, rfl⟩ := List.mem_map.mp hv
  exact same_str n z
theorem same_prs (n : Nat) {rows : List (List Str)} (hr : RowsOk rows) : (cc prog (n + 4)).call 16 [.v (.tup (prs rows)), .v (.tup (prs rows))] [] = .ok (.v (.bl true)) [] := same_seq (n + 2) (us := prs rows) (.inr rfl) (by rw [prs_len]; have := hr.1; omega) fun v hv => by
  unfold prs at hv
  obtain ⟨p, hp, rfl⟩ := List.mem_map.mp hv
  exact same_seq (n + 1) (us := [.int (p.2 : Nat), rU p.1]) (.inr rfl) (by simp) fun v hv => by
    rcases List.mem_cons.mp hv with rfl | hv
    · exact same_int (n + 1) _
    · have : v = rU p.1 := by simpa using hv
      subst this
      exact same_row n (hr.2 _ (List.fst_mem_of_mem_zipIdx hp))
theorem same_rows (n : Nat) {rows : List (List Str)} (hr : RowsOk rows) : (cc prog (n + 3)).call 16 [.v (.lst (rows.map rU)), .v (.lst (rows.map rU))] [] = .ok (.v (.bl true)) [] := same_seq (n + 1) (us := rows.map rU) (.inl rfl) (by rw [List.length_map]; have := hr.1; omega) fun v hv => by
  obtain ⟨r, hr', rfl⟩ := List.mem_map.mp hv
  exact same_row n (hr.2 r hr')
theorem same_three (n : Nat) {rows : List (List Str)} (hr : RowsOk rows) : (cc prog (n + 5)).call 16 [.v (.lst [.str (toldS rows), .tup (prs rows), .lst (rows.map rU)]), .v (.lst [.str (toldS rows), .tup (prs rows), .lst (rows.map rU)])] [] = .ok (.v (.bl true)) [] := same_seq (n + 3) (.inl rfl) (by simp) fun v hv => by
  simp only [List.mem_cons, List.not_mem_nil, or_false] at hv
  rcases hv with rfl | rfl | rfl
  · exact same_str (n + 3) _
  · exact same_prs n hr
  · exact same_rows (n + 1) hr
theorem same_two (n : Nat) (i : Int) (k : Nat) (hk : k ≤ 100) : (cc prog (n + 3)).call 16 [.v (.lst [.str (numS i), .lst (.int i :: .int 0 :: List.replicate k .non)]), .v (.lst [.str (numS i), .lst (.int i :: .int 0 :: List.replicate k .non)])] [] = .ok (.v (.bl true)) [] := same_seq (n + 1) (.inl rfl) (by simp) fun v hv => by
  simp only [List.mem_cons, List.not_mem_nil, or_false] at hv
  rcases hv with rfl | rfl
  · exact same_str (n + 1) _
  · refine same_seq n (.inl rfl) (by simp; omega) fun v hv => ?_
    rcases List.mem_cons.mp hv with rfl | hv
    · exact same_int n _
    · rcases List.mem_cons.mp hv with rfl | hv
      · exact same_int n _
      · rw [List.eq_of_mem_replicate hv]
        exact same_non n
/-! the statements of a lap -/
theorem s_told (n : Nat) {rows : List (List Str)} (hr : RowsOk rows) (h : Hs) (a0 a1 a2 a3 a5 a6 a7 a8 a9 a10 a11 a12 : Option S) :
    evS (cc prog (n + 5)) 1000000 (.asg (.nm 6) (.call 18 (.cons (.var 4) .nil) [] .nil)) [a0, a1, a2, a3, some (.v (.lst (rows.map rU))), a5, a6, a7, a8, a9, a10, a11, a12] h = .nx [a0, a1, a2, a3, some (.v (.lst (rows.map rU))), a5, some (.v (.str (toldS rows))), a7, a8, a9, a10, a11, a12] h := by
  have e : doCall (cc prog (n + 5)) 18 [.v (.lst (rows.map rU))] h = .ok (.v (.str (toldS rows))) h := doCall_v (us := [.lst (rows.map rU)]) _ (told_ok (n + 4) hr).2
  simp only [e_s, e_t, e_var, e_c, e_gl, e_fn, e_bin, e_cmp, e_ch, e_nt, e_and, e_or, e_ife, e_tup, e_lst, e_neg, e_idx, e_slc, e_on, e_os, e_rev, e_nr, e_nil, e_cons, e_call, e_bi, e_isi, e_met, e_lc, r_v, r_r, i_v, i_r, i_l, t_ok, b1_ok, b2_ok, c1_ok, c2_ok, oB_ok, h1_ok, h2_ok, h3_t, h3_f, h4_ok, n1_ok, a1_ok, a2_t, a2_f, o1_ok, o2_t, o2_f, tr_v, tr_l, tr_r, ts_v, f1_t, f1_f, p1_ok, l1_ok, au_n, au_c, om_s, g1_ok, x1_ok, x2_ok, s1_ok, s2_ok, s3_ok, q1_ok, v1_ok, w1_n, w1_r, k1_ok, k2_ok, d1_ok, d2_ok, d3_ok, y1_ok, z1_ok, z2_ok, m1_ok, mG_ok, m2_ok, lc1_ok, lc2_ok, ofO_s, ofP_s, s_cons, s_nil, s_asg, s_ifs, s_for, s_ret, s_ex, g_nm, g_sub, S1_ok, nE_ok, N1_ok, R_ok, I1_t, I1_f, F1_ok, T1_ok, E1_ok, B0_ok, B1_ok, B2_ok, B3_ok, A_nx, A_rt, V_v, V_r, V_l, W_v, W_l, i_val, i_rng, i_enm, i_zip, iv_s, iv_l, iv_t, iv_f, ir_1, ir_2, ie_l, iz_1, iz_l, iz_t, t1_nm, t1_tp, ts_nil, ts_cons, k_none, k_some, B_add, B_sub, C_lt, C_le, C_gt, C_ge, C_eq, C_ne, C_eqs, C_nes, L_int, L_intb, L_abs, L_lenl, L_lent, L_lenf, L_tup, truU, List.getElem?_cons_succ, List.getElem?_cons_zero, List.set_cons_succ, List.set_cons_zero, List.map_cons, List.map_nil, List.cons_append, List.nil_append, List.replicate_succ, List.replicate_zero, ar1 18 _ _ rfl rfl, e]
theorem s_strewn (n t : Nat) (ht : t < 800000000) {xs : List U} (hT : Tin t xs) {rows : List (List Str)} (hr : RowsOk rows) (hs : Hs) (a0 a2 a3 a5 a6 a7 a8 a9 a10 a11 a12 : Option S) :
    ∃ xs', evS (cc prog (n + 5)) 1000000 (.asg (.nm 7) (.lc (.nm 10) (.val (.call 7 (.cons (.call 19 (.cons (.var 1) (.cons (.var 4) .nil)) [] .nil) .nil) [] .nil)) .none b_law_4 [(⟨#[105, 116, 115]⟩, 10)])) [a0, some (.r 0), a2, a3, some (.v (.lst (rows.map rU))), a5, a6, a7, a8, a9, a10, a11, a12] (.lst xs :: hs) =
      .nx [a0, some (.r 0), a2, a3, some (.v (.lst (rows.map rU))), a5, a6, some (.v (.lst (rows.map rU))), a8, a9, a10, a11, a12] (.lst xs' :: hs) ∧ Tin (t + 20) xs' := by
  obtain ⟨z, xs', e1, tells, zl, T⟩ := strewn_ok (n + 2) hr hT (by omega)
  have d1 : doCall (cc prog (n + 5)) 19 [.r 0, .v (.lst (rows.map rU))] (.lst xs :: hs) = .ok (.v (.str z)) (.lst xs' :: hs) := doCall_t (us := [.lst (rows.map rU)]) (r := .v (.str z)) (h := .lst xs :: hs) (i := 0) rfl e1
  have d2 : doCall (cc prog (n + 5)) 7 [.v (.str z)] (.lst xs' :: hs) = .ok (.v (.tup (found 0 (Txt.split z (sg 10))))) (.lst xs' :: hs) := doCall_v (us := [.str z]) _ (rows_of_ok (n + 3) z (by omega) (tells_codes tells))
  have wp : wipeR [a0, some (.r 0), a2, a3, some (.v (.lst (rows.map rU))), a5, a6, a7, a8, a9, a10, a11, a12] [10] = [a0, some (.r 0), a2, a3, some (.v (.lst (rows.map rU))), a5, a6, a7, a8, a9, none, a11, a12] := rfl
  have fl : (found 0 (Txt.split z (sg 10))).length ≤ lim := by
    have h1 := (split_len z (c := 10) (by decide)).1
    have h2 := found_len (Txt.split z (sg 10)) 0
    show _ ≤ 16777216
    omega
  have cm := comp_all (src := .seq (.v (.tup (found 0 (Txt.split z (sg 10)))))) (g := evT1 (cc prog (n + 5)) (.nm 10)) (f := evE (cc prog (n + 5)) b_law_4) (c := cc prog (n + 5)) (ρ := [a0, some (.r 0), a2, a3, some (.v (.lst (rows.map rU))), a5, a6, a7, a8, a9, none, a11, a12]) (h := .lst xs' :: hs) (found 0 (Txt.split z (sg 10))) snd2
    (fun j x e => by rw [tup_at]; exact e) (tup_end _ _) (fun x hx => by
      obtain ⟨k, r, rfl⟩ := found_form _ _ x hx
      refine ⟨[a0, some (.r 0), a2, a3, some (.v (.lst (rows.map rU))), a5, a6, a7, a8, a9, some (.v (.tup [.int k, rU r])), a11, a12], by simp only [e_s, e_t, e_var, e_c, e_gl, e_fn, e_bin, e_cmp, e_ch, e_nt, e_and, e_or, e_ife, e_tup, e_lst, e_neg, e_idx, e_slc, e_on, e_os, e_rev, e_nr, e_nil, e_cons, e_call, e_bi, e_isi, e_met, e_lc, r_v, r_r, i_v, i_r, i_l, t_ok, b1_ok, b2_ok, c1_ok, c2_ok, oB_ok, h1_ok, h2_ok, h3_t, h3_f, h4_ok, n1_ok, a1_ok, a2_t, a2_f, o1_ok, o2_t, o2_f, tr_v, tr_l, tr_r, ts_v, f1_t, f1_f, p1_ok, l1_ok, au_n, au_c, om_s, g1_ok, x1_ok, x2_ok, s1_ok, s2_ok, s3_ok, q1_ok, v1_ok, w1_n, w1_r, k1_ok, k2_ok, d1_ok, d2_ok, d3_ok, y1_ok, z1_ok, z2_ok, m1_ok, mG_ok, m2_ok, lc1_ok, lc2_ok, ofO_s, ofP_s, s_cons, s_nil, s_asg, s_ifs, s_for, s_ret, s_ex, g_nm, g_sub, S1_ok, nE_ok, N1_ok, R_ok, I1_t, I1_f, F1_ok, T1_ok, E1_ok, B0_ok, B1_ok, B2_ok, B3_ok, A_nx, A_rt, V_v, V_r, V_l, W_v, W_l, i_val, i_rng, i_enm, i_zip, iv_s, iv_l, iv_t, iv_f, ir_1, ir_2, ie_l, iz_1, iz_l, iz_t, t1_nm, t1_tp, ts_nil, ts_cons, k_none, k_some, B_add, B_sub, C_lt, C_le, C_gt, C_ge, C_eq, C_ne, C_eqs, C_nes, L_int, L_intb, L_abs, L_lenl, L_lent, L_lenf, L_tup, truU, List.getElem?_cons_succ, List.getElem?_cons_zero, List.set_cons_succ, List.set_cons_zero, List.map_cons, List.map_nil, List.cons_append, List.nil_append, List.replicate_succ, List.replicate_zero], ?_⟩
      have x1 : ∀ (h : Hs) (a b : U), idxS h (.v (.tup [a, b])) (.v (.int 1)) = some (.v b) := fun h a b => rfl
      simp only [b_law_4]
      simp only [e_s, e_t, e_var, e_c, e_gl, e_fn, e_bin, e_cmp, e_ch, e_nt, e_and, e_or, e_ife, e_tup, e_lst, e_neg, e_idx, e_slc, e_on, e_os, e_rev, e_nr, e_nil, e_cons, e_call, e_bi, e_isi, e_met, e_lc, r_v, r_r, i_v, i_r, i_l, t_ok, b1_ok, b2_ok, c1_ok, c2_ok, oB_ok, h1_ok, h2_ok, h3_t, h3_f, h4_ok, n1_ok, a1_ok, a2_t, a2_f, o1_ok, o2_t, o2_f, tr_v, tr_l, tr_r, ts_v, f1_t, f1_f, p1_ok, l1_ok, au_n, au_c, om_s, g1_ok, x1_ok, x2_ok, s1_ok, s2_ok, s3_ok, q1_ok, v1_ok, w1_n, w1_r, k1_ok, k2_ok, d1_ok, d2_ok, d3_ok, y1_ok, z1_ok, z2_ok, m1_ok, mG_ok, m2_ok, lc1_ok, lc2_ok, ofO_s, ofP_s, s_cons, s_nil, s_asg, s_ifs, s_for, s_ret, s_ex, g_nm, g_sub, S1_ok, nE_ok, N1_ok, R_ok, I1_t, I1_f, F1_ok, T1_ok, E1_ok, B0_ok, B1_ok, B2_ok, B3_ok, A_nx, A_rt, V_v, V_r, V_l, W_v, W_l, i_val, i_rng, i_enm, i_zip, iv_s, iv_l, iv_t, iv_f, ir_1, ir_2, ie_l, iz_1, iz_l, iz_t, t1_nm, t1_tp, ts_nil, ts_cons, k_none, k_some, B_add, B_sub, C_lt, C_le, C_gt, C_ge, C_eq, C_ne, C_eqs, C_nes, L_int, L_intb, L_abs, L_lenl, L_lent, L_lenf, L_tup, truU, List.getElem?_cons_succ, List.getElem?_cons_zero, List.set_cons_succ, List.set_cons_zero, List.map_cons, List.map_nil, List.cons_append, List.nil_append, List.replicate_succ, List.replicate_zero, x1]
      rfl) fl
  rw [found_tells tells] at cm
  refine ⟨xs', ?_, T⟩
  simp only [e_s, e_t, e_var, e_c, e_gl, e_fn, e_bin, e_cmp, e_ch, e_nt, e_and, e_or, e_ife, e_tup, e_lst, e_neg, e_idx, e_slc, e_on, e_os, e_rev, e_nr, e_nil, e_cons, e_call, e_bi, e_isi, e_met, e_lc, r_v, r_r, i_v, i_r, i_l, t_ok, b1_ok, b2_ok, c1_ok, c2_ok, oB_ok, h1_ok, h2_ok, h3_t, h3_f, h4_ok, n1_ok, a1_ok, a2_t, a2_f, o1_ok, o2_t, o2_f, tr_v, tr_l, tr_r, ts_v, f1_t, f1_f, p1_ok, l1_ok, au_n, au_c, om_s, g1_ok, x1_ok, x2_ok, s1_ok, s2_ok, s3_ok, q1_ok, v1_ok, w1_n, w1_r, k1_ok, k2_ok, d1_ok, d2_ok, d3_ok, y1_ok, z1_ok, z2_ok, m1_ok, mG_ok, m2_ok, lc1_ok, lc2_ok, ofO_s, ofP_s, s_cons, s_nil, s_asg, s_ifs, s_for, s_ret, s_ex, g_nm, g_sub, S1_ok, nE_ok, N1_ok, R_ok, I1_t, I1_f, F1_ok, T1_ok, E1_ok, B0_ok, B1_ok, B2_ok, B3_ok, A_nx, A_rt, V_v, V_r, V_l, W_v, W_l, i_val, i_rng, i_enm, i_zip, iv_s, iv_l, iv_t, iv_f, ir_1, ir_2, ie_l, iz_1, iz_l, iz_t, t1_nm, t1_tp, ts_nil, ts_cons, k_none, k_some, B_add, B_sub, C_lt, C_le, C_gt, C_ge, C_eq, C_ne, C_eqs, C_nes, L_int, L_intb, L_abs, L_lenl, L_lent, L_lenf, L_tup, truU, List.getElem?_cons_succ, List.getElem?_cons_zero, List.set_cons_succ, List.set_cons_zero, List.map_cons, List.map_nil, List.cons_append, List.nil_append, List.replicate_succ, List.replicate_zero, ar2 19 _ _ _ rfl rfl, d1, ar1 7 _ _ rfl rfl, d2, wp, cm]
theorem p3 (h : Hs) (x y z : U) : lst2 h (some [x, y, z]) = .ok (.nw (.lst [x, y, z])) h := l2_ok h _ (by show 3 ≤ 16777216; decide)
theorem p2 (h : Hs) (x y : U) : lst2 h (some [x, y]) = .ok (.nw (.lst [x, y])) h := l2_ok h _ (by show 2 ≤ 16777216; decide)
theorem p1 (h : Hs) (x : U) : lst2 h (some [x]) = .ok (.nw (.lst [x])) h := l2_ok h _ (by show 1 ≤ 16777216; decide)
theorem s_same1 (n t : Nat) (ht : t < 790000000) {xs : List U} (hT : Tin t xs) {rows : List (List Str)} (hr : RowsOk rows) (hs : Hs) (a0 a2 a3 a5 a8 a9 a10 a11 a12 : Option S) :
    ∃ xs', evS (cc prog (n + 5)) 1000000 (.ifs (.nt (.call 16 (.cons (.lst (.cons (.call 8 (.cons (.call 17 (.cons (.var 1) (.cons (.var 4) .nil)) [] .nil) .nil) [] .nil) (.cons (.call 7 .nil [(⟨#[116, 101, 120, 116]⟩, 0)] (.cons (.var 6) .nil)) (.cons (.var 7) .nil)))) (.cons (.lst (.cons (.var 6) (.cons (.bi .tuple (.cons (.lc (.tp (.cons (.nm 5) (.cons (.nm 8) .nil))) (.enm (.var 4)) .none b_law_5 [(⟨#[107]⟩, 5), (⟨#[111, 119, 110]⟩, 8)]) .nil)) (.cons (.var 4) .nil)))) .nil)) [] .nil)) (.cons (.ret (.c (.bl false))) .nil) .nil)
        [a0, some (.r 0), a2, a3, some (.v (.lst (rows.map rU))), a5, some (.v (.str (toldS rows))), some (.v (.lst (rows.map rU))), a8, a9, a10, a11, a12] (.lst xs :: hs) =
      .nx [a0, some (.r 0), a2, a3, some (.v (.lst (rows.map rU))), a5, some (.v (.str (toldS rows))), some (.v (.lst (rows.map rU))), a8, a9, a10, a11, a12] (.lst xs' :: hs) ∧ Tin (t + 10) xs' := by
  obtain ⟨us, u, xs', a, hu, hm, T⟩ := mixed_rows (n + 2) hr hT (by omega)
  have ie : item (doCall (cc prog (n + 5)) 17 [.r 0, .v (.lst (rows.map rU))] (.lst xs :: hs)) = .ok (.v u) (.lst xs' :: hs) := a.item (h := .lst xs :: hs) (i := 0) rfl
  have d8 : doCall (cc prog (n + 5)) 8 [.v u] (.lst xs' :: hs) = .ok (.v (.str (toldS rows))) (.lst xs' :: hs) := doCall_v (us := [u]) _ (text_of_ok (n + 1) hr hm hu)
  have tc := told_codes hr
  have d7 : doCall (cc prog (n + 5)) 7 [.v (.str (toldS rows))] (.lst xs' :: hs) = .ok (.v (.tup (prs rows))) (.lst xs' :: hs) := doCall_v (us := [.str (toldS rows)]) _ (by
    have := rows_of_ok (n + 3) (toldS rows) tc.1 tc.2
    rw [found_told hr] at this
    exact this)
  have d16 : doCall (cc prog (n + 5)) 16 [.v (.lst [.str (toldS rows), .tup (prs rows), .lst (rows.map rU)]), .v (.lst [.str (toldS rows), .tup (prs rows), .lst (rows.map rU)])] (.lst xs' :: hs) = .ok (.v (.bl true)) (.lst xs' :: hs) := doCall_v (us := [.lst [.str (toldS rows), .tup (prs rows), .lst (rows.map rU)], .lst [.str (toldS rows), .tup (prs rows), .lst (rows.map rU)]]) _ (same_three n hr)
  have wp : wipeR [a0, some (.r 0), a2, a3, some (.v (.lst (rows.map rU))), a5, some (.v (.str (toldS rows))), some (.v (.lst (rows.map rU))), a8, a9, a10, a11, a12] [5, 8] = [a0, some (.r 0), a2, a3, some (.v (.lst (rows.map rU))), none, some (.v (.str (toldS rows))), some (.v (.lst (rows.map rU))), none, a9, a10, a11, a12] := rfl
  have pl := prs_len rows
  have cm := comp_all (src := .enm (.v (.lst (rows.map rU)))) (g := evT1 (cc prog (n + 5)) (.tp (.cons (.nm 5) (.cons (.nm 8) .nil)))) (f := evE (cc prog (n + 5)) b_law_5) (c := cc prog (n + 5)) (ρ := [a0, some (.r 0), a2, a3, some (.v (.lst (rows.map rU))), none, some (.v (.str (toldS rows))), some (.v (.lst (rows.map rU))), none, a9, a10, a11, a12]) (h := .lst xs' :: hs) (prs rows) id
    (fun j x e => by
      rw [enm_at, List.getElem?_map]
      unfold prs at e
      rw [List.getElem?_map, List.getElem?_zipIdx] at e
      cases q : rows[j]? with
      | none => rw [q] at e; cases e
      | some r =>
        rw [q] at e
        cases e
        rw [Nat.zero_add]
        rfl) (by
      have := enm_end (.lst xs' :: hs) (rows.map rU)
      rw [List.length_map] at this
      rw [pl]
      exact this) (fun x hx => by
      unfold prs at hx
      obtain ⟨p, hp, rfl⟩ := List.mem_map.mp hx
      refine ⟨[a0, some (.r 0), a2, a3, some (.v (.lst (rows.map rU))), some (.v (.int (p.2 : Nat))), some (.v (.str (toldS rows))), some (.v (.lst (rows.map rU))), some (.v (rU p.1)), a9, a10, a11, a12], by simp only [e_s, e_t, e_var, e_c, e_gl, e_fn, e_bin, e_cmp, e_ch, e_nt, e_and, e_or, e_ife, e_tup, e_lst, e_neg, e_idx, e_slc, e_on, e_os, e_rev, e_nr, e_nil, e_cons, e_call, e_bi, e_isi, e_met, e_lc, r_v, r_r, i_v, i_r, i_l, t_ok, b1_ok, b2_ok, c1_ok, c2_ok, oB_ok, h1_ok, h2_ok, h3_t, h3_f, h4_ok, n1_ok, a1_ok, a2_t, a2_f, o1_ok, o2_t, o2_f, tr_v, tr_l, tr_r, ts_v, f1_t, f1_f, p1_ok, l1_ok, au_n, au_c, om_s, g1_ok, x1_ok, x2_ok, s1_ok, s2_ok, s3_ok, q1_ok, v1_ok, w1_n, w1_r, k1_ok, k2_ok, d1_ok, d2_ok, d3_ok, y1_ok, z1_ok, z2_ok, m1_ok, mG_ok, m2_ok, lc1_ok, lc2_ok, ofO_s, ofP_s, s_cons, s_nil, s_asg, s_ifs, s_for, s_ret, s_ex, g_nm, g_sub, S1_ok, nE_ok, N1_ok, R_ok, I1_t, I1_f, F1_ok, T1_ok, E1_ok, B0_ok, B1_ok, B2_ok, B3_ok, A_nx, A_rt, V_v, V_r, V_l, W_v, W_l, i_val, i_rng, i_enm, i_zip, iv_s, iv_l, iv_t, iv_f, ir_1, ir_2, ie_l, iz_1, iz_l, iz_t, t1_nm, t1_tp, ts_nil, ts_cons, k_none, k_some, B_add, B_sub, C_lt, C_le, C_gt, C_ge, C_eq, C_ne, C_eqs, C_nes, L_int, L_intb, L_abs, L_lenl, L_lent, L_lenf, L_tup, truU, List.getElem?_cons_succ, List.getElem?_cons_zero, List.set_cons_succ, List.set_cons_zero, List.map_cons, List.map_nil, List.cons_append, List.nil_append, List.replicate_succ, List.replicate_zero], ?_⟩
      simp only [b_law_5]
      simp only [e_s, e_t, e_var, e_c, e_gl, e_fn, e_bin, e_cmp, e_ch, e_nt, e_and, e_or, e_ife, e_tup, e_lst, e_neg, e_idx, e_slc, e_on, e_os, e_rev, e_nr, e_nil, e_cons, e_call, e_bi, e_isi, e_met, e_lc, r_v, r_r, i_v, i_r, i_l, t_ok, b1_ok, b2_ok, c1_ok, c2_ok, oB_ok, h1_ok, h2_ok, h3_t, h3_f, h4_ok, n1_ok, a1_ok, a2_t, a2_f, o1_ok, o2_t, o2_f, tr_v, tr_l, tr_r, ts_v, f1_t, f1_f, p1_ok, l1_ok, au_n, au_c, om_s, g1_ok, x1_ok, x2_ok, s1_ok, s2_ok, s3_ok, q1_ok, v1_ok, w1_n, w1_r, k1_ok, k2_ok, d1_ok, d2_ok, d3_ok, y1_ok, z1_ok, z2_ok, m1_ok, mG_ok, m2_ok, lc1_ok, lc2_ok, ofO_s, ofP_s, s_cons, s_nil, s_asg, s_ifs, s_for, s_ret, s_ex, g_nm, g_sub, S1_ok, nE_ok, N1_ok, R_ok, I1_t, I1_f, F1_ok, T1_ok, E1_ok, B0_ok, B1_ok, B2_ok, B3_ok, A_nx, A_rt, V_v, V_r, V_l, W_v, W_l, i_val, i_rng, i_enm, i_zip, iv_s, iv_l, iv_t, iv_f, ir_1, ir_2, ie_l, iz_1, iz_l, iz_t, t1_nm, t1_tp, ts_nil, ts_cons, k_none, k_some, B_add, B_sub, C_lt, C_le, C_gt, C_ge, C_eq, C_ne, C_eqs, C_nes, L_int, L_intb, L_abs, L_lenl, L_lent, L_lenf, L_tup, truU, List.getElem?_cons_succ, List.getElem?_cons_zero, List.set_cons_succ, List.set_cons_zero, List.map_cons, List.map_nil, List.cons_append, List.nil_append, List.replicate_succ, List.replicate_zero, p2_ok _ [U.int (p.2 : Nat), rU p.1] (by show 2 ≤ 16777216; decide)]
      rfl) (by rw [pl]; have := hr.1; show _ ≤ 16777216; omega)
  rw [List.map_id, pl] at cm
  refine ⟨xs', ?_, T⟩
  simp only [e_s, e_t, e_var, e_c, e_gl, e_fn, e_bin, e_cmp, e_ch, e_nt, e_and, e_or, e_ife, e_tup, e_lst, e_neg, e_idx, e_slc, e_on, e_os, e_rev, e_nr, e_nil, e_cons, e_call, e_bi, e_isi, e_met, e_lc, r_v, r_r, i_v, i_r, i_l, t_ok, b1_ok, b2_ok, c1_ok, c2_ok, oB_ok, h1_ok, h2_ok, h3_t, h3_f, h4_ok, n1_ok, a1_ok, a2_t, a2_f, o1_ok, o2_t, o2_f, tr_v, tr_l, tr_r, ts_v, f1_t, f1_f, p1_ok, l1_ok, au_n, au_c, om_s, g1_ok, x1_ok, x2_ok, s1_ok, s2_ok, s3_ok, q1_ok, v1_ok, w1_n, w1_r, k1_ok, k2_ok, d1_ok, d2_ok, d3_ok, y1_ok, z1_ok, z2_ok, m1_ok, mG_ok, m2_ok, lc1_ok, lc2_ok, ofO_s, ofP_s, s_cons, s_nil, s_asg, s_ifs, s_for, s_ret, s_ex, g_nm, g_sub, S1_ok, nE_ok, N1_ok, R_ok, I1_t, I1_f, F1_ok, T1_ok, E1_ok, B0_ok, B1_ok, B2_ok, B3_ok, A_nx, A_rt, V_v, V_r, V_l, W_v, W_l, i_val, i_rng, i_enm, i_zip, iv_s, iv_l, iv_t, iv_f, ir_1, ir_2, ie_l, iz_1, iz_l, iz_t, t1_nm, t1_tp, ts_nil, ts_cons, k_none, k_some, B_add, B_sub, C_lt, C_le, C_gt, C_ge, C_eq, C_ne, C_eqs, C_nes, L_int, L_intb, L_abs, L_lenl, L_lent, L_lenf, L_tup, truU, List.getElem?_cons_succ, List.getElem?_cons_zero, List.set_cons_succ, List.set_cons_zero, List.map_cons, List.map_nil, List.cons_append, List.nil_append, List.replicate_succ, List.replicate_zero, ar2 17 _ _ _ rfl rfl, ie, ar1 8 _ _ rfl rfl, d8, ar1k 7 _ _ rfl rfl, d7, p3, wp, List.length_map, cm, ar2 16 _ _ _ rfl rfl, d16, Bool.not_true]
end VM

namespace VM
open PySem TL
theorem ten_int : ∀ k, k < 60 → intText? ((⟨#[49]⟩ : Str) ++ ⟨(rep [48] (k : Nat)).toArray⟩) = some ((10 ^ k : Nat) : Int) := by decide +kernel
theorem ten_pow : ∀ k, k < 60 → (0 : Int) < ((10 ^ k : Nat) : Int) ∧ (((10 ^ k : Nat) : Int)).natAbs < 2 ^ 250 ∧ 10 ^ k < 10 ^ 60 := by decide +kernel
theorem ten_len : ∀ k, k < 60 → ((⟨#[49]⟩ : Str) ++ ⟨(rep [48] ((k : Nat) : Int)).toArray⟩).length ≤ 640 ∧ (⟨(rep [48] ((k : Nat) : Int)).toArray⟩ : Str).length ≤ 640 := by decide +kernel
/-- the number drawn -/
theorem own_num (n t : Nat) (ht : t < 790000000) {xs : List U} (hT : Tin t xs) (hs : Hs) (a0 a2 a3 a4 a5 a6 a7 a8 a9 a10 a11 a12 : Option S) :
    ∃ (i : Int) (xs' : List U), evS (cc prog (n + 5)) 1000000 (.asg (.nm 8) (.bin .mul (.call 13 (.cons (.var 1) (.cons (.bi .int (.cons (.bin .add (.c (.str ⟨#[49]⟩)) (.bin .mul (.c (.str ⟨#[48]⟩)) (.call 13 (.cons (.var 1) (.cons (.c (.int 60)) .nil)) [] .nil))) .nil)) .nil)) [] .nil) (.call 15 (.cons (.var 1) (.cons (.lst (.cons (.c (.int 1)) (.cons (.neg (.c (.int 1))) .nil))) .nil)) [] .nil)))
        [a0, some (.r 0), a2, a3, a4, a5, a6, a7, a8, a9, a10, a11, a12] (.lst xs :: hs) =
      .nx [a0, some (.r 0), a2, a3, a4, a5, a6, a7, some (.v (.int i)), a9, a10, a11, a12] (.lst xs' :: hs) ∧ i.natAbs < 10 ^ 61 ∧ Tin (t + 3) xs' := by
  obtain ⟨r, x1, e1, r0, r1, T1⟩ := take_hd (n + 4) t (m := 60) hs hT (by omega) (by decide) (by decide)
  obtain ⟨k, rfl⟩ := Int.eq_ofNat_of_zero_le r0
  have hk : k < 60 := by omega
  obtain ⟨p0, p1, p2'⟩ := ten_pow k hk
  obtain ⟨l1, l2⟩ := ten_len k hk
  obtain ⟨v, x2, e2, v0, v1, T2⟩ := take_hd (n + 4) _ (m := ((10 ^ k : Nat) : Int)) hs T1 (by omega) p0 p1
  obtain ⟨s, x3, e3, m3, T3⟩ := of_hd (n + 3) _ (us := [U.int 1, U.int (-1)]) hs T2 (by omega) (by simp) (by simp)
  have hsg : ∃ j : Int, s = .int j ∧ (j = 1 ∨ j = -1) := by
    simp only [List.mem_cons, List.not_mem_nil, or_false] at m3
    rcases m3 with rfl | rfl
    · exact ⟨1, rfl, .inl rfl⟩
    · exact ⟨-1, rfl, .inr rfl⟩
  obtain ⟨j, rfl, hj⟩ := hsg
  have bm : ∀ h : Hs, binS .mul h (.v (.str ⟨#[48]⟩)) (.v (.int (k : Int))) = some (.v (.str ⟨(rep [48] (k : Int)).toArray⟩)) := fun h => B_muls h ⟨#[48]⟩ (k : Int) ⟨by omega, by omega, by show 1 * _ ≤ 16777216; omega⟩
  have ba : ∀ h : Hs, binS .add h (.v (.str ⟨#[49]⟩)) (.v (.str ⟨(rep [48] (k : Int)).toArray⟩)) = some (.v (.str ((⟨#[49]⟩ : Str) ++ ⟨(rep [48] (k : Int)).toArray⟩))) := fun h => B_adds h _ _ (by show 1 + _ ≤ 16777216; omega)
  have bi : ∀ h : Hs, bltS .int h [.v (.str ((⟨#[49]⟩ : Str) ++ ⟨(rep [48] (k : Int)).toArray⟩))] = some (.v (.int ((10 ^ k : Nat) : Int))) := fun h => L_int_s h (ten_int k hk) l1
  have mu : ∀ h : Hs, binS .mul h (.v (.int v)) (.v (.int j)) = some (.v (.int (v * j))) := fun h => B_mul _ _ _ (by rcases hj with rfl | rfl <;> exact mulOk_r (by decide) (by decide))
  refine ⟨v * j, x3, ?_, ?_, T3⟩
  · generalize ((⟨#[49]⟩ : Str) ++ ⟨(rep [48] (k : Int)).toArray⟩) = y1 at *
    generalize (⟨(rep [48] (k : Int)).toArray⟩ : Str) = y0 at *
    generalize ((10 ^ k : Nat) : Int) = y2 at *
    simp only [e_s, e_t, e_var, e_c, e_gl, e_fn, e_bin, e_cmp, e_ch, e_nt, e_and, e_or, e_ife, e_tup, e_lst, e_neg, e_idx, e_slc, e_on, e_os, e_rev, e_nr, e_nil, e_cons, e_call, e_bi, e_isi, e_met, e_lc, r_v, r_r, i_v, i_r, i_l, t_ok, b1_ok, b2_ok, c1_ok, c2_ok, oB_ok, h1_ok, h2_ok, h3_t, h3_f, h4_ok, n1_ok, a1_ok, a2_t, a2_f, o1_ok, o2_t, o2_f, tr_v, tr_l, tr_r, ts_v, f1_t, f1_f, p1_ok, l1_ok, au_n, au_c, om_s, g1_ok, x1_ok, x2_ok, s1_ok, s2_ok, s3_ok, q1_ok, v1_ok, w1_n, w1_r, k1_ok, k2_ok, d1_ok, d2_ok, d3_ok, y1_ok, z1_ok, z2_ok, m1_ok, mG_ok, m2_ok, lc1_ok, lc2_ok, ofO_s, ofP_s, s_cons, s_nil, s_asg, s_ifs, s_for, s_ret, s_ex, g_nm, g_sub, S1_ok, nE_ok, N1_ok, R_ok, I1_t, I1_f, F1_ok, T1_ok, E1_ok, B0_ok, B1_ok, B2_ok, B3_ok, A_nx, A_rt, V_v, V_r, V_l, W_v, W_l, i_val, i_rng, i_enm, i_zip, iv_s, iv_l, iv_t, iv_f, ir_1, ir_2, ie_l, iz_1, iz_l, iz_t, t1_nm, t1_tp, ts_nil, ts_cons, k_none, k_some, B_add, B_sub, C_lt, C_le, C_gt, C_ge, C_eq, C_ne, C_eqs, C_nes, L_int, L_intb, L_abs, L_lenl, L_lent, L_lenf, L_tup, truU, List.getElem?_cons_succ, List.getElem?_cons_zero, List.set_cons_succ, List.set_cons_zero, List.map_cons, List.map_nil, List.cons_append, List.nil_append, List.replicate_succ, List.replicate_zero, ar2 13 _ _ _ rfl rfl, e1, bm, ba, bi, e2, p2, ar2 15 _ _ _ rfl rfl, e3, mu]
  · have : (v * j).natAbs = v.natAbs := by rcases hj with rfl | rfl <;> simp
    rw [this]
    have : v.natAbs < 10 ^ k := by omega
    exact Nat.lt_trans (Nat.lt_trans this p2') (by decide)
end VM

namespace VM
open PySem TL
theorem num_nought (n : Nat) : (cc prog (n + 3)).call 9 [.v (.str ⟨#[48]⟩)] [] = .ok (.v (.int 0)) [] := by kernel_rfl
theorem num_b1 (n : Nat) : (cc prog (n + 3)).call 9 [.v (.str ⟨#[45, 48]⟩)] [] = .ok (.v .non) [] := by kernel_rfl
theorem num_b2 (n : Nat) : (cc prog (n + 3)).call 9 [.v (.str ⟨#[48, 48]⟩)] [] = .ok (.v .non) [] := by kernel_rfl
theorem num_b3 (n : Nat) : (cc prog (n + 3)).call 9 [.v (.str ⟨#[48, 48, 55]⟩)] [] = .ok (.v .non) [] := by kernel_rfl
theorem num_b4 (n : Nat) : (cc prog (n + 3)).call 9 [.v (.str ⟨#[43, 49]⟩)] [] = .ok (.v .non) [] := by kernel_rfl
theorem num_b5 (n : Nat) : (cc prog (n + 3)).call 9 [.v (.str ⟨#[49, 46, 48]⟩)] [] = .ok (.v .non) [] := by kernel_rfl
theorem num_b6 (n : Nat) : (cc prog (n + 3)).call 9 [.v (.str ⟨#[]⟩)] [] = .ok (.v .non) [] := by kernel_rfl
theorem num_b7 (n : Nat) : (cc prog (n + 3)).call 9 [.v (.str ⟨#[120]⟩)] [] = .ok (.v .non) [] := by kernel_rfl
theorem num_b8 (n : Nat) : (cc prog (n + 3)).call 9 [.v (.str ⟨#[49, 47, 50]⟩)] [] = .ok (.v .non) [] := by kernel_rfl
def pcsU (z : Str) : List U := [.str z, .str ⟨#[48]⟩, .str ⟨#[45, 48]⟩, .str ⟨#[48, 48]⟩, .str ⟨#[48, 48, 55]⟩, .str ⟨#[43, 49]⟩, .str ⟨#[49, 46, 48]⟩, .str ⟨#[]⟩, .str ⟨#[120]⟩, .str ⟨#[49, 47, 50]⟩]
def pcsN (i : Int) : List U := .int i :: .int 0 :: List.replicate 8 .non
theorem num_each (n : Nat) (i : Int) (hi : i.natAbs < 10 ^ 61) : ∀ j, j < 10 → ∃ x u, (pcsU (numS i))[j]? = some x ∧ (pcsN i)[j]? = some u ∧ (cc prog (n + 3)).call 9 [.v x] [] = .ok (.v u) []
  | 0, _ => ⟨_, _, rfl, rfl, (number_own (n + 1) i hi).2⟩
  | 1, _ => ⟨_, _, rfl, rfl, num_nought n⟩
  | 2, _ => ⟨_, _, rfl, rfl, num_b1 n⟩
  | 3, _ => ⟨_, _, rfl, rfl, num_b2 n⟩
  | 4, _ => ⟨_, _, rfl, rfl, num_b3 n⟩
  | 5, _ => ⟨_, _, rfl, rfl, num_b4 n⟩
  | 6, _ => ⟨_, _, rfl, rfl, num_b5 n⟩
  | 7, _ => ⟨_, _, rfl, rfl, num_b6 n⟩
  | 8, _ => ⟨_, _, rfl, rfl, num_b7 n⟩
  | 9, _ => ⟨_, _, rfl, rfl, num_b8 n⟩
  | j + 10, h => by omega
theorem pieces_own (n : Nat) (i : Int) (hi : i.natAbs < 10 ^ 61) (h : Hs) (a0 a1 a2 a3 a4 a5 a6 a7 a9 a10 a11 a12 : Option S) :
    evS (cc prog (n + 5)) 1000000 (.asg (.nm 9) (.lst (.cons (.bi .str (.cons (.var 8) .nil)) (.cons (.c (.str ⟨#[48]⟩)) (.cons (.c (.str ⟨#[45, 48]⟩)) (.cons (.c (.str ⟨#[48, 48]⟩)) (.cons (.c (.str ⟨#[48, 48, 55]⟩)) (.cons (.c (.str ⟨#[43, 49]⟩)) (.cons (.c (.str ⟨#[49, 46, 48]⟩)) (.cons (.c (.str ⟨#[]⟩)) (.cons (.c (.str ⟨#[120]⟩)) (.cons (.c (.str ⟨#[49, 47, 50]⟩)) .nil))))))))))))
        [a0, a1, a2, a3, a4, a5, a6, a7, some (.v (.int i)), a9, a10, a11, a12] h =
      .nx [a0, a1, a2, a3, a4, a5, a6, a7, some (.v (.int i)), some (.v (.lst (pcsU (numS i)))), a10, a11, a12] h := by
  have p10 : ∀ (h : Hs) (a b c d e f g k l m : U), lst2 h (some [a, b, c, d, e, f, g, k, l, m]) = .ok (.nw (.lst [a, b, c, d, e, f, g, k, l, m])) h := fun h a b c d e f g k l m => l2_ok h _ (by show 10 ≤ 16777216; decide)
  simp only [e_s, e_t, e_var, e_c, e_gl, e_fn, e_bin, e_cmp, e_ch, e_nt, e_and, e_or, e_ife, e_tup, e_lst, e_neg, e_idx, e_slc, e_on, e_os, e_rev, e_nr, e_nil, e_cons, e_call, e_bi, e_isi, e_met, e_lc, r_v, r_r, i_v, i_r, i_l, t_ok, b1_ok, b2_ok, c1_ok, c2_ok, oB_ok, h1_ok, h2_ok, h3_t, h3_f, h4_ok, n1_ok, a1_ok, a2_t, a2_f, o1_ok, o2_t, o2_f, tr_v, tr_l, tr_r, ts_v, f1_t, f1_f, p1_ok, l1_ok, au_n, au_c, om_s, g1_ok, x1_ok, x2_ok, s1_ok, s2_ok, s3_ok, q1_ok, v1_ok, w1_n, w1_r, k1_ok, k2_ok, d1_ok, d2_ok, d3_ok, y1_ok, z1_ok, z2_ok, m1_ok, mG_ok, m2_ok, lc1_ok, lc2_ok, ofO_s, ofP_s, s_cons, s_nil, s_asg, s_ifs, s_for, s_ret, s_ex, g_nm, g_sub, S1_ok, nE_ok, N1_ok, R_ok, I1_t, I1_f, F1_ok, T1_ok, E1_ok, B0_ok, B1_ok, B2_ok, B3_ok, A_nx, A_rt, V_v, V_r, V_l, W_v, W_l, i_val, i_rng, i_enm, i_zip, iv_s, iv_l, iv_t, iv_f, ir_1, ir_2, ie_l, iz_1, iz_l, iz_t, t1_nm, t1_tp, ts_nil, ts_cons, k_none, k_some, B_add, B_sub, C_lt, C_le, C_gt, C_ge, C_eq, C_ne, C_eqs, C_nes, L_int, L_intb, L_abs, L_lenl, L_lent, L_lenf, L_tup, truU, List.getElem?_cons_succ, List.getElem?_cons_zero, List.set_cons_succ, List.set_cons_zero, List.map_cons, List.map_nil, List.cons_append, List.nil_append, List.replicate_succ, List.replicate_zero, L_str h (log_1920 hi), p10, pcsU]
theorem s_same2 (n : Nat) (i : Int) (hi : i.natAbs < 10 ^ 61) (h : Hs) (a0 a1 a2 a3 a4 a5 a6 a7 a10 a11 a12 : Option S) :
    evS (cc prog (n + 5)) 1000000 (.ifs (.nt (.call 16 (.cons (.lst (.cons (.call 10 (.cons (.var 8) .nil) [] .nil) (.cons (.lc (.nm 10) (.val (.var 9)) .none b_law_6 [(⟨#[105, 116, 115]⟩, 10)]) .nil))) (.cons (.lst (.cons (.bi .str (.cons (.var 8) .nil)) (.cons (.bin .add (.lst (.cons (.var 8) (.cons (.c (.int 0)) .nil))) (.bin .mul (.lst (.cons (.c .non) .nil)) (.c (.int 8)))) .nil))) .nil)) [] .nil)) (.cons (.ret (.c (.bl false))) .nil) .nil)
        [a0, a1, a2, a3, a4, a5, a6, a7, some (.v (.int i)), some (.v (.lst (pcsU (numS i)))), a10, a11, a12] h =
      .nx [a0, a1, a2, a3, a4, a5, a6, a7, some (.v (.int i)), some (.v (.lst (pcsU (numS i)))), a10, a11, a12] h := by
  have d10 : doCall (cc prog (n + 5)) 10 [.v (.int i)] h = .ok (.v (.str (numS i))) h := doCall_v (us := [.int i]) _ (piece_of_ok (n + 3) i hi)
  have wp : wipeR [a0, a1, a2, a3, a4, a5, a6, a7, some (.v (.int i)), some (.v (.lst (pcsU (numS i)))), a10, a11, a12] [10] = [a0, a1, a2, a3, a4, a5, a6, a7, some (.v (.int i)), some (.v (.lst (pcsU (numS i)))), none, a11, a12] := rfl
  obtain ⟨us, h', e2, l2, p2', rfl⟩ := comp_ix (src := .seq (.v (.lst (pcsU (numS i))))) (g := evT1 (cc prog (n + 5)) (.nm 10)) (k := evK (cc prog (n + 5)) .none) (f := evE (cc prog (n + 5)) b_law_6) (ρ := [a0, a1, a2, a3, a4, a5, a6, a7, some (.v (.int i)), some (.v (.lst (pcsU (numS i)))), none, a11, a12]) (N := 10)
    (Inv := fun _ h' => h' = h) (P := fun j u => (pcsN i)[j]? = some u)
    (fun h _ => lst_end h (pcsU (numS i)))
    (fun j h' hj e => by
      subst e
      obtain ⟨x, u, q1, q2, q3⟩ := num_each (n + 2) i hi j hj
      have d9 : doCall (cc prog (n + 5)) 9 [.v x] h' = .ok (.v u) h' := doCall_v (us := [x]) _ q3
      refine ⟨x, [a0, a1, a2, a3, a4, a5, a6, a7, some (.v (.int i)), some (.v (.lst (pcsU (numS i)))), some (.v x), a11, a12], by rw [lst_at]; exact q1, by simp only [e_s, e_t, e_var, e_c, e_gl, e_fn, e_bin, e_cmp, e_ch, e_nt, e_and, e_or, e_ife, e_tup, e_lst, e_neg, e_idx, e_slc, e_on, e_os, e_rev, e_nr, e_nil, e_cons, e_call, e_bi, e_isi, e_met, e_lc, r_v, r_r, i_v, i_r, i_l, t_ok, b1_ok, b2_ok, c1_ok, c2_ok, oB_ok, h1_ok, h2_ok, h3_t, h3_f, h4_ok, n1_ok, a1_ok, a2_t, a2_f, o1_ok, o2_t, o2_f, tr_v, tr_l, tr_r, ts_v, f1_t, f1_f, p1_ok, l1_ok, au_n, au_c, om_s, g1_ok, x1_ok, x2_ok, s1_ok, s2_ok, s3_ok, q1_ok, v1_ok, w1_n, w1_r, k1_ok, k2_ok, d1_ok, d2_ok, d3_ok, y1_ok, z1_ok, z2_ok, m1_ok, mG_ok, m2_ok, lc1_ok, lc2_ok, ofO_s, ofP_s, s_cons, s_nil, s_asg, s_ifs, s_for, s_ret, s_ex, g_nm, g_sub, S1_ok, nE_ok, N1_ok, R_ok, I1_t, I1_f, F1_ok, T1_ok, E1_ok, B0_ok, B1_ok, B2_ok, B3_ok, A_nx, A_rt, V_v, V_r, V_l, W_v, W_l, i_val, i_rng, i_enm, i_zip, iv_s, iv_l, iv_t, iv_f, ir_1, ir_2, ie_l, iz_1, iz_l, iz_t, t1_nm, t1_tp, ts_nil, ts_cons, k_none, k_some, B_add, B_sub, C_lt, C_le, C_gt, C_ge, C_eq, C_ne, C_eqs, C_nes, L_int, L_intb, L_abs, L_lenl, L_lent, L_lenf, L_tup, truU, List.getElem?_cons_succ, List.getElem?_cons_zero, List.set_cons_succ, List.set_cons_zero, List.map_cons, List.map_nil, List.cons_append, List.nil_append, List.replicate_succ, List.replicate_zero], by simp only [e_s, e_t, e_var, e_c, e_gl, e_fn, e_bin, e_cmp, e_ch, e_nt, e_and, e_or, e_ife, e_tup, e_lst, e_neg, e_idx, e_slc, e_on, e_os, e_rev, e_nr, e_nil, e_cons, e_call, e_bi, e_isi, e_met, e_lc, r_v, r_r, i_v, i_r, i_l, t_ok, b1_ok, b2_ok, c1_ok, c2_ok, oB_ok, h1_ok, h2_ok, h3_t, h3_f, h4_ok, n1_ok, a1_ok, a2_t, a2_f, o1_ok, o2_t, o2_f, tr_v, tr_l, tr_r, ts_v, f1_t, f1_f, p1_ok, l1_ok, au_n, au_c, om_s, g1_ok, x1_ok, x2_ok, s1_ok, s2_ok, s3_ok, q1_ok, v1_ok, w1_n, w1_r, k1_ok, k2_ok, d1_ok, d2_ok, d3_ok, y1_ok, z1_ok, z2_ok, m1_ok, mG_ok, m2_ok, lc1_ok, lc2_ok, ofO_s, ofP_s, s_cons, s_nil, s_asg, s_ifs, s_for, s_ret, s_ex, g_nm, g_sub, S1_ok, nE_ok, N1_ok, R_ok, I1_t, I1_f, F1_ok, T1_ok, E1_ok, B0_ok, B1_ok, B2_ok, B3_ok, A_nx, A_rt, V_v, V_r, V_l, W_v, W_l, i_val, i_rng, i_enm, i_zip, iv_s, iv_l, iv_t, iv_f, ir_1, ir_2, ie_l, iz_1, iz_l, iz_t, t1_nm, t1_tp, ts_nil, ts_cons, k_none, k_some, B_add, B_sub, C_lt, C_le, C_gt, C_ge, C_eq, C_ne, C_eqs, C_nes, L_int, L_intb, L_abs, L_lenl, L_lent, L_lenf, L_tup, truU, List.getElem?_cons_succ, List.getElem?_cons_zero, List.set_cons_succ, List.set_cons_zero, List.map_cons, List.map_nil, List.cons_append, List.nil_append, List.replicate_succ, List.replicate_zero], u, h', ?_, q2, rfl⟩
      simp only [b_law_6]
      simp only [e_s, e_t, e_var, e_c, e_gl, e_fn, e_bin, e_cmp, e_ch, e_nt, e_and, e_or, e_ife, e_tup, e_lst, e_neg, e_idx, e_slc, e_on, e_os, e_rev, e_nr, e_nil, e_cons, e_call, e_bi, e_isi, e_met, e_lc, r_v, r_r, i_v, i_r, i_l, t_ok, b1_ok, b2_ok, c1_ok, c2_ok, oB_ok, h1_ok, h2_ok, h3_t, h3_f, h4_ok, n1_ok, a1_ok, a2_t, a2_f, o1_ok, o2_t, o2_f, tr_v, tr_l, tr_r, ts_v, f1_t, f1_f, p1_ok, l1_ok, au_n, au_c, om_s, g1_ok, x1_ok, x2_ok, s1_ok, s2_ok, s3_ok, q1_ok, v1_ok, w1_n, w1_r, k1_ok, k2_ok, d1_ok, d2_ok, d3_ok, y1_ok, z1_ok, z2_ok, m1_ok, mG_ok, m2_ok, lc1_ok, lc2_ok, ofO_s, ofP_s, s_cons, s_nil, s_asg, s_ifs, s_for, s_ret, s_ex, g_nm, g_sub, S1_ok, nE_ok, N1_ok, R_ok, I1_t, I1_f, F1_ok, T1_ok, E1_ok, B0_ok, B1_ok, B2_ok, B3_ok, A_nx, A_rt, V_v, V_r, V_l, W_v, W_l, i_val, i_rng, i_enm, i_zip, iv_s, iv_l, iv_t, iv_f, ir_1, ir_2, ie_l, iz_1, iz_l, iz_t, t1_nm, t1_tp, ts_nil, ts_cons, k_none, k_some, B_add, B_sub, C_lt, C_le, C_gt, C_ge, C_eq, C_ne, C_eqs, C_nes, L_int, L_intb, L_abs, L_lenl, L_lent, L_lenf, L_tup, truU, List.getElem?_cons_succ, List.getElem?_cons_zero, List.set_cons_succ, List.set_cons_zero, List.map_cons, List.map_nil, List.cons_append, List.nil_append, List.replicate_succ, List.replicate_zero, ar1 9 _ _ rfl rfl, d9]) 10 0 [] h rfl rfl (by decide)
  have eu : us = pcsN i := List.ext_getElem? fun j => by
    by_cases q : j < 10
    · have : us[j]? = some us[j] := List.getElem?_eq_getElem (by omega)
      rw [this, ← p2' j _ this, Nat.zero_add]
    · rw [List.getElem?_eq_none (by omega), List.getElem?_eq_none (by show 10 ≤ j; omega)]
  subst eu
  rw [List.nil_append] at e2
  have d16 : doCall (cc prog (n + 5)) 16 [.v (.lst [.str (numS i), .lst (pcsN i)]), .v (.lst [.str (numS i), .lst (pcsN i)])] h' = .ok (.v (.bl true)) h' := doCall_v (us := [.lst [.str (numS i), .lst (pcsN i)], .lst [.str (numS i), .lst (pcsN i)]]) _ (same_two (n + 2) i 8 (by decide))
  have ml : ∀ h : Hs, binS .mul h (.v (.lst [.non])) (.v (.int 8)) = some (.nw (.lst (List.replicate 8 .non))) := fun h => rfl
  have al : ∀ h : Hs, binS .add h (.v (.lst [.int i, .int 0])) (.v (.lst (List.replicate 8 .non))) = some (.nw (.lst (pcsN i))) := fun h => rfl
  have il : iv1 (.ok (.v (.lst (pcsU (numS i)))) h') = .ok (.seq (.v (.lst (pcsU (numS i)))), 10) h' := rfl
  generalize pcsU (numS i) = pu at *
  generalize pcsN i = pn at *
  generalize List.replicate 8 U.non = rn at *
  simp only [e_s, e_t, e_var, e_c, e_gl, e_fn, e_bin, e_cmp, e_ch, e_nt, e_and, e_or, e_ife, e_tup, e_lst, e_neg, e_idx, e_slc, e_on, e_os, e_rev, e_nr, e_nil, e_cons, e_call, e_bi, e_isi, e_met, e_lc, r_v, r_r, i_v, i_r, i_l, t_ok, b1_ok, b2_ok, c1_ok, c2_ok, oB_ok, h1_ok, h2_ok, h3_t, h3_f, h4_ok, n1_ok, a1_ok, a2_t, a2_f, o1_ok, o2_t, o2_f, tr_v, tr_l, tr_r, ts_v, f1_t, f1_f, p1_ok, l1_ok, au_n, au_c, om_s, g1_ok, x1_ok, x2_ok, s1_ok, s2_ok, s3_ok, q1_ok, v1_ok, w1_n, w1_r, k1_ok, k2_ok, d1_ok, d2_ok, d3_ok, y1_ok, z1_ok, z2_ok, m1_ok, mG_ok, m2_ok, lc1_ok, lc2_ok, ofO_s, ofP_s, s_cons, s_nil, s_asg, s_ifs, s_for, s_ret, s_ex, g_nm, g_sub, S1_ok, nE_ok, N1_ok, R_ok, I1_t, I1_f, F1_ok, T1_ok, E1_ok, B0_ok, B1_ok, B2_ok, B3_ok, A_nx, A_rt, V_v, V_r, V_l, W_v, W_l, i_val, i_rng, i_enm, i_zip, iv_s, iv_l, iv_t, iv_f, ir_1, ir_2, ie_l, iz_1, iz_l, iz_t, t1_nm, t1_tp, ts_nil, ts_cons, k_none, k_some, B_add, B_sub, C_lt, C_le, C_gt, C_ge, C_eq, C_ne, C_eqs, C_nes, L_int, L_intb, L_abs, L_lenl, L_lent, L_lenf, L_tup, truU, List.getElem?_cons_succ, List.getElem?_cons_zero, List.set_cons_succ, List.set_cons_zero, List.map_cons, List.map_nil, List.cons_append, List.nil_append, List.replicate_succ, List.replicate_zero, ar1 10 _ _ rfl rfl, d10, il, wp, e2, p2, L_str h' (log_1920 hi), ml, p1, al, ar2 16 _ _ _ rfl rfl, d16, Bool.not_true]
end VM

namespace VM
open PySem TL
theorem seq1 {c : CC} {k : Nat} {s : IS} {ss : ISs} {ρ ρ1 : Rho} {h h1 : Hs} (e : evS c k s ρ h = .nx ρ1 h1) : evSs c k (.cons s ss) ρ h = evSs c k ss ρ1 h1 := by
  rw [s_cons, e]
  rfl
/-- a lap -/
theorem lap_ok (n t : Nat) (ht : t < 700000000) {xs : List U} (hT : Tin t xs) (hs : Hs) (a0 a2 a3 a4 a5 a6 a7 a8 a9 a10 a11 a12 : Option S) :
    ∃ xs' hs' b4 b5 b6 b7 b8 b9, evSs (cc prog (n + 5)) 1000000 b_law_7 [a0, some (.r 0), a2, a3, a4, a5, a6, a7, a8, a9, a10, a11, a12] (.lst xs :: hs) =
      .nx [a0, some (.r 0), a2, a3, b4, b5, b6, b7, b8, b9, a10, a11, a12] (.lst xs' :: hs') ∧ Tin (t + 1000) xs' := by
  obtain ⟨rows, x1, b5, e1, hr, T1⟩ := rows_draw (n + 3) t (by omega) hT hs a0 a2 a3 a5 a6 a7 a8 a9 a10 a11 a12
  have e2 := s_told n hr (.lst x1 :: (hs ++ [.dead])) a0 (some (.r 0)) a2 a3 b5 a6 a7 a8 a9 a10 a11 a12
  obtain ⟨x3, e3, T3⟩ := s_strewn n (t + 70) (by omega) T1 hr (hs ++ [.dead]) a0 a2 a3 b5 (some (.v (.str (toldS rows)))) a7 a8 a9 a10 a11 a12
  obtain ⟨x4, e4, T4⟩ := s_same1 n (t + 70 + 20) (by omega) T3 hr (hs ++ [.dead]) a0 a2 a3 b5 a8 a9 a10 a11 a12
  obtain ⟨i, x5, e5, hi, T5⟩ := own_num n _ (by omega) T4 (hs ++ [.dead]) a0 a2 a3 (some (.v (.lst (rows.map rU)))) b5 (some (.v (.str (toldS rows)))) (some (.v (.lst (rows.map rU)))) a8 a9 a10 a11 a12
  have e6 := pieces_own n i hi (.lst x5 :: (hs ++ [.dead])) a0 (some (.r 0)) a2 a3 (some (.v (.lst (rows.map rU)))) b5 (some (.v (.str (toldS rows)))) (some (.v (.lst (rows.map rU)))) a9 a10 a11 a12
  have e7 := s_same2 n i hi (.lst x5 :: (hs ++ [.dead])) a0 (some (.r 0)) a2 a3 (some (.v (.lst (rows.map rU)))) b5 (some (.v (.str (toldS rows)))) (some (.v (.lst (rows.map rU)))) a10 a11 a12
  have ez : evS (cc prog (n + 5)) 1000000 (.fz 4) [a0, some (.r 0), a2, a3, some (.r (hs.length + 1)), b5, a6, a7, a8, a9, a10, a11, a12] (.lst x1 :: (hs ++ [.lst (rows.map rU)])) = .nx [a0, some (.r 0), a2, a3, some (.v (.lst (rows.map rU))), b5, a6, a7, a8, a9, a10, a11, a12] (.lst x1 :: (hs ++ [.dead])) := by
    rw [fz_at (n := hs.length + 1) (us := rows.map rU) _ _ rfl (ownl_at _ _ _), ownl_set]
    rfl
  have e0 : evS (cc prog (n + 5)) 1000000 (.asg (.nm 4) (.nr (.lst .nil))) [a0, some (.r 0), a2, a3, a4, a5, a6, a7, a8, a9, a10, a11, a12] (.lst xs :: hs) = .nx [a0, some (.r 0), a2, a3, some (.r (hs.length + 1)), a5, a6, a7, a8, a9, a10, a11, a12] (.lst xs :: (hs ++ [.lst []])) := by
    simp only [e_s, e_t, e_var, e_c, e_gl, e_fn, e_bin, e_cmp, e_ch, e_nt, e_and, e_or, e_ife, e_tup, e_lst, e_neg, e_idx, e_slc, e_on, e_os, e_rev, e_nr, e_nil, e_cons, e_call, e_bi, e_isi, e_met, e_lc, r_v, r_r, i_v, i_r, i_l, t_ok, b1_ok, b2_ok, c1_ok, c2_ok, oB_ok, h1_ok, h2_ok, h3_t, h3_f, h4_ok, n1_ok, a1_ok, a2_t, a2_f, o1_ok, o2_t, o2_f, tr_v, tr_l, tr_r, ts_v, f1_t, f1_f, p1_ok, l1_ok, au_n, au_c, om_s, g1_ok, x1_ok, x2_ok, s1_ok, s2_ok, s3_ok, q1_ok, v1_ok, w1_n, w1_r, k1_ok, k2_ok, d1_ok, d2_ok, d3_ok, y1_ok, z1_ok, z2_ok, m1_ok, mG_ok, m2_ok, lc1_ok, lc2_ok, ofO_s, ofP_s, s_cons, s_nil, s_asg, s_ifs, s_for, s_ret, s_ex, g_nm, g_sub, S1_ok, nE_ok, N1_ok, R_ok, I1_t, I1_f, F1_ok, T1_ok, E1_ok, B0_ok, B1_ok, B2_ok, B3_ok, A_nx, A_rt, V_v, V_r, V_l, W_v, W_l, i_val, i_rng, i_enm, i_zip, iv_s, iv_l, iv_t, iv_f, ir_1, ir_2, ie_l, iz_1, iz_l, iz_t, t1_nm, t1_tp, ts_nil, ts_cons, k_none, k_some, B_add, B_sub, C_lt, C_le, C_gt, C_ge, C_eq, C_ne, C_eqs, C_nes, L_int, L_intb, L_abs, L_lenl, L_lent, L_lenf, L_tup, truU, List.getElem?_cons_succ, List.getElem?_cons_zero, List.set_cons_succ, List.set_cons_zero, List.map_cons, List.map_nil, List.cons_append, List.nil_append, List.replicate_succ, List.replicate_zero, l2_ok _ [] (by decide), List.length_cons]
  rw [show n + 3 + 2 = n + 5 from rfl] at e1
  refine ⟨x5, hs ++ [.dead], some (.v (.lst (rows.map rU))), b5, some (.v (.str (toldS rows))), some (.v (.lst (rows.map rU))), some (.v (.int i)), some (.v (.lst (pcsU (numS i)))), ?_, tin_le T5 (by omega)⟩
  exact (seq1 e0).trans ((seq1 e1).trans ((seq1 ez).trans ((seq1 e2).trans ((seq1 e3).trans ((seq1 e4).trans ((seq1 e5).trans ((seq1 e6).trans ((seq1 e7).trans (s_nil _ _ _ _)))))))))
def tailB : ISs := (.cons (.asg (.nm 3) (.lc (.nm 10) (.val (.tup (.cons (.c (.str ⟨#[97, 49]⟩)) (.cons (.c (.str ⟨#[49, 97]⟩)) (.cons (.c (.str ⟨#[]⟩)) (.cons (.c (.str ⟨#[65]⟩)) (.cons (.c (.str ⟨#[97, 95]⟩)) (.cons (.c (.str ⟨#[97, 98, 99, 100, 101, 102, 103, 104, 105, 106, 107, 108]⟩)) (.cons (.c (.str ⟨#[97, 98, 99, 100, 101, 102, 103, 104, 105, 106, 107, 108, 109]⟩)) (.cons (.c .non) (.cons (.c (.int 7)) (.cons (.c (.str ⟨#[122]⟩)) .nil)))))))))))) .none b_law_8 [(⟨#[105, 116, 115]⟩, 10)])) (.cons (.ifs (.nt (.call 16 (.cons (.var 3) (.cons (.lst (.cons (.c (.bl true)) (.cons (.c (.bl false)) (.cons (.c (.bl false)) (.cons (.c (.bl false)) (.cons (.c (.bl false)) (.cons (.c (.bl true)) (.cons (.c (.bl false)) (.cons (.c (.bl false)) (.cons (.c (.bl false)) (.cons (.c (.bl true)) .nil))))))))))) .nil)) [] .nil)) (.cons (.ret (.c (.bl false))) .nil) .nil) (.cons (.ret (.call 16 (.cons (.lst (.cons (.call 7 (.cons (.c (.str ⟨#[32, 97, 32, 32, 98, 32, 35, 32, 99, 10, 10, 35]⟩)) .nil) [] .nil) (.cons (.call 8 (.cons (.tup .nil) .nil) [] .nil) (.cons (.call 7 (.cons (.c (.str ⟨#[]⟩)) .nil) [] .nil) .nil)))) (.cons (.lst (.cons (.tup (.cons (.tup (.cons (.c (.int 0)) (.cons (.tup (.cons (.c (.str ⟨#[97]⟩)) (.cons (.c (.str ⟨#[98]⟩)) .nil))) .nil))) .nil)) (.cons (.c (.str ⟨#[]⟩)) (.cons (.tup .nil) .nil)))) .nil)) [] .nil)) .nil)))
theorem tail_ok (n : Nat) (h : Hs) (a0 a1 a2 a3 a4 a5 a6 a7 a8 a9 a10 a11 a12 : Option S) : evSs (cc prog (n + 9)) 1000000 tailB [a0, a1, a2, a3, a4, a5, a6, a7, a8, a9, a10, a11, a12] h = .rt (.v (.bl true)) h := by kernel_rfl
theorem law_ok (n : Nat) (ns : List Int) (hn : ns.length ≤ 63) : ∃ h, (cc prog (n + 10)).call 20 [.v (.frz (ns.map .int))] [] = .ok (.v (.bl true)) h := by
  obtain ⟨z, c1⟩ := cells_ok (n + 8) ns
  obtain ⟨xs, c2, T⟩ := box_ok (n + 8) z
  have d1 : doCall (cc prog (n + 9)) 14 [.v (.frz (ns.map .int)), .v (.int 1)] [] = .ok (.nw (.lst [.int z])) [] := doCall_vl (us := [.frz (ns.map .int), .int 1]) _ c1
  have d2 : doCall (cc prog (n + 9)) 12 [.v (.lst [.int z]), .v (.int 0)] [] = .ok (.nw (.lst xs)) [] := doCall_vl (us := [.lst [.int z], .int 0]) _ c2
  obtain ⟨ρ', h', e, x2, hs, b2, b3, b4, b5, b6, b7, b8, b9, rfl, rfl, T2⟩ := for_ex (src := .rng 0 1 6) (g := evT1 (cc prog (n + 9)) (.nm 2)) (b := evSs (cc prog (n + 9)) 1000000 b_law_7) (N := 6)
    (Inv := fun i ρ h => ∃ (x2 : List U) (hs : Hs) (b2 b3 b4 b5 b6 b7 b8 b9 : Option S), ρ = [some (.v (.frz (ns.map .int))), some (.r 0), b2, b3, b4, b5, b6, b7, b8, b9, none, none, none] ∧ h = .lst x2 :: hs ∧ Tin (0 + i * 1000) x2)
    (fun ρ h _ => rng_end _ _ _ _)
    (fun i ρ h hi ⟨x2, hs, b2, b3, b4, b5, b6, b7, b8, b9, q1, q2, T⟩ => by
      subst q1 q2
      obtain ⟨x3, hs', c4, c5, c6, c7, c8, c9, e3, T3⟩ := lap_ok (n + 4) (0 + i * 1000) (by omega) T hs (some (.v (.frz (ns.map .int)))) (some (.v (.int (0 + i * 1)))) b3 b4 b5 b6 b7 b8 b9 none none none
      exact ⟨.int (0 + i * 1), [some (.v (.frz (ns.map .int))), some (.r 0), some (.v (.int (0 + i * 1))), b3, b4, b5, b6, b7, b8, b9, none, none, none], rng_at _ hi, by simp only [e_s, e_t, e_var, e_c, e_gl, e_fn, e_bin, e_cmp, e_ch, e_nt, e_and, e_or, e_ife, e_tup, e_lst, e_neg, e_idx, e_slc, e_on, e_os, e_rev, e_nr, e_nil, e_cons, e_call, e_bi, e_isi, e_met, e_lc, r_v, r_r, i_v, i_r, i_l, t_ok, b1_ok, b2_ok, c1_ok, c2_ok, oB_ok, h1_ok, h2_ok, h3_t, h3_f, h4_ok, n1_ok, a1_ok, a2_t, a2_f, o1_ok, o2_t, o2_f, tr_v, tr_l, tr_r, ts_v, f1_t, f1_f, p1_ok, l1_ok, au_n, au_c, om_s, g1_ok, x1_ok, x2_ok, s1_ok, s2_ok, s3_ok, q1_ok, v1_ok, w1_n, w1_r, k1_ok, k2_ok, d1_ok, d2_ok, d3_ok, y1_ok, z1_ok, z2_ok, m1_ok, mG_ok, m2_ok, lc1_ok, lc2_ok, ofO_s, ofP_s, s_cons, s_nil, s_asg, s_ifs, s_for, s_ret, s_ex, g_nm, g_sub, S1_ok, nE_ok, N1_ok, R_ok, I1_t, I1_f, F1_ok, T1_ok, E1_ok, B0_ok, B1_ok, B2_ok, B3_ok, A_nx, A_rt, V_v, V_r, V_l, W_v, W_l, i_val, i_rng, i_enm, i_zip, iv_s, iv_l, iv_t, iv_f, ir_1, ir_2, ie_l, iz_1, iz_l, iz_t, t1_nm, t1_tp, ts_nil, ts_cons, k_none, k_some, B_add, B_sub, C_lt, C_le, C_gt, C_ge, C_eq, C_ne, C_eqs, C_nes, L_int, L_intb, L_abs, L_lenl, L_lent, L_lenf, L_tup, truU, List.getElem?_cons_succ, List.getElem?_cons_zero, List.set_cons_succ, List.set_cons_zero, List.map_cons, List.map_nil, List.cons_append, List.nil_append, List.replicate_succ, List.replicate_zero], _, _, e3, x3, hs', _, _, _, _, _, _, _, _, rfl, rfl, by rw [Nat.succ_mul, ← Nat.add_assoc]; exact T3⟩) 6 0 [some (.v (.frz (ns.map .int))), some (.r 0), none, none, none, none, none, none, none, none, none, none, none] [.lst xs] (by omega) ⟨xs, [], none, none, none, none, none, none, none, none, rfl, rfl, T⟩
  have hB : d_b_law.body = .cons (.asg (.nm 1) (.nr (.call 12 (.cons (.call 14 (.cons (.var 0) (.cons (.c (.int 1)) .nil)) [] .nil) (.cons (.c (.int 0)) .nil)) [] .nil))) (.cons (.fors (.nm 2) (.rng (.cons (.c (.int 6)) .nil)) b_law_7) tailB) := rfl
  have r6 : rngN 0 6 1 = some 6 := rfl
  rw [call_eq (d := d_b_law) rfl, runF_eq _ _ _ _ _ rfl, hB]
  simp only [show d_b_law.ns = 13 from rfl, show d_b_law.np = 1 from rfl, Nat.reduceSub]
  have tk := tail_ok n (.lst x2 :: hs) (some (.v (.frz (ns.map .int)))) (some (.r 0)) b2 b3 b4 b5 b6 b7 b8 b9 none none none
  generalize tailB = tb at *
  generalize b_law_7 = lb at *
  simp only [e_s, e_t, e_var, e_c, e_gl, e_fn, e_bin, e_cmp, e_ch, e_nt, e_and, e_or, e_ife, e_tup, e_lst, e_neg, e_idx, e_slc, e_on, e_os, e_rev, e_nr, e_nil, e_cons, e_call, e_bi, e_isi, e_met, e_lc, r_v, r_r, i_v, i_r, i_l, t_ok, b1_ok, b2_ok, c1_ok, c2_ok, oB_ok, h1_ok, h2_ok, h3_t, h3_f, h4_ok, n1_ok, a1_ok, a2_t, a2_f, o1_ok, o2_t, o2_f, tr_v, tr_l, tr_r, ts_v, f1_t, f1_f, p1_ok, l1_ok, au_n, au_c, om_s, g1_ok, x1_ok, x2_ok, s1_ok, s2_ok, s3_ok, q1_ok, v1_ok, w1_n, w1_r, k1_ok, k2_ok, d1_ok, d2_ok, d3_ok, y1_ok, z1_ok, z2_ok, m1_ok, mG_ok, m2_ok, lc1_ok, lc2_ok, ofO_s, ofP_s, s_cons, s_nil, s_asg, s_ifs, s_for, s_ret, s_ex, g_nm, g_sub, S1_ok, nE_ok, N1_ok, R_ok, I1_t, I1_f, F1_ok, T1_ok, E1_ok, B0_ok, B1_ok, B2_ok, B3_ok, A_nx, A_rt, V_v, V_r, V_l, W_v, W_l, i_val, i_rng, i_enm, i_zip, iv_s, iv_l, iv_t, iv_f, ir_1, ir_2, ie_l, iz_1, iz_l, iz_t, t1_nm, t1_tp, ts_nil, ts_cons, k_none, k_some, B_add, B_sub, C_lt, C_le, C_gt, C_ge, C_eq, C_ne, C_eqs, C_nes, L_int, L_intb, L_abs, L_lenl, L_lent, L_lenf, L_tup, truU, List.getElem?_cons_succ, List.getElem?_cons_zero, List.set_cons_succ, List.set_cons_zero, List.map_cons, List.map_nil, List.cons_append, List.nil_append, List.replicate_succ, List.replicate_zero, ar2 14 _ _ _ rfl rfl, d1, ar2 12 _ _ _ rfl rfl, d2, List.length_nil, r6, e, tk]
  exact ⟨_, rfl⟩
end VM

set_option maxHeartbeats 0
namespace VM
open PySem PySem.Spec PyProof.Rows L2 RZ
def tab : Tab where
  fns := [(⟨#[105, 115, 95, 110, 117, 109, 98, 101, 114]⟩, 0), (⟨#[116, 117, 112, 108, 101, 100]⟩, 1), (⟨#[105, 115, 95, 108, 97, 98, 101, 108, 95, 105, 110]⟩, 2), (⟨#[110, 117, 109, 98, 101, 114, 95, 105, 110]⟩, 3), (⟨#[105, 115, 95, 112, 105, 101, 99, 101]⟩, 4), (⟨#[114, 111, 119, 115, 95, 105, 110]⟩, 5), (⟨#[116, 111, 108, 100, 95, 114, 111, 119, 115]⟩, 6), (⟨#[114, 111, 119, 115, 95, 111, 102]⟩, 7), (⟨#[116, 101, 120, 116, 95, 111, 102]⟩, 8), (⟨#[110, 117, 109, 98, 101, 114, 95, 111, 102]⟩, 9), (⟨#[112, 105, 101, 99, 101, 95, 111, 102]⟩, 10), (⟨#[105, 115, 95, 108, 97, 98, 101, 108]⟩, 11), (⟨#[95, 108, 97, 119, 95, 98, 111, 120]⟩, 12), (⟨#[95, 108, 97, 119, 95, 116, 97, 107, 101]⟩, 13), (⟨#[95, 108, 97, 119, 95, 99, 101, 108, 108, 115]⟩, 14), (⟨#[95, 108, 97, 119, 95, 111, 102]⟩, 15), (⟨#[95, 108, 97, 119, 95, 115, 97, 109, 101]⟩, 16), (⟨#[95, 108, 97, 119, 95, 109, 105, 120, 101, 100]⟩, 17), (⟨#[95, 108, 97, 119, 95, 116, 111, 108, 100]⟩, 18), (⟨#[95, 108, 97, 119, 95, 115, 116, 114, 101, 119, 110]⟩, 19), (⟨#[108, 97, 119]⟩, 20)]
  nums := [(⟨#[77, 79, 83, 84, 95, 70, 73, 71, 85, 82, 69, 83]⟩, 2000), (⟨#[76, 79, 78, 71, 69, 83, 84, 95, 76, 65, 66, 69, 76]⟩, 12)]
  txts := [(⟨#[70, 73, 71, 85, 82, 69, 83]⟩, ⟨#[48, 49, 50, 51, 52, 53, 54, 55, 56, 57]⟩), (⟨#[76, 69, 84, 84, 69, 82, 83]⟩, ⟨#[97, 98, 99, 100, 101, 102, 103, 104, 105, 106, 107, 108, 109, 110, 111, 112, 113, 114, 115, 116, 117, 118, 119, 120, 121, 122]⟩)]
  frees := [⟨#[86, 97, 108, 117, 101, 69, 114, 114, 111, 114]⟩, ⟨#[97, 98, 115]⟩, ⟨#[97, 108, 108]⟩, ⟨#[98, 111, 111, 108]⟩, ⟨#[101, 110, 117, 109, 101, 114, 97, 116, 101]⟩, ⟨#[105, 110, 116]⟩, ⟨#[105, 115, 105, 110, 115, 116, 97, 110, 99, 101]⟩, ⟨#[108, 101, 110]⟩, ⟨#[108, 105, 115, 116]⟩, ⟨#[114, 97, 110, 103, 101]⟩, ⟨#[115, 116, 114]⟩, ⟨#[116, 117, 112, 108, 101]⟩, ⟨#[122, 105, 112]⟩]
  dig := true
  pats := [(0, 1, []), (1, 1, []), (2, 1, []), (3, 2, []), (4, 1, []), (5, 1, []), (6, 1, []), (7, 0, [(⟨#[116, 101, 120, 116]⟩, 0)]), (7, 1, []), (8, 1, []), (9, 1, []), (10, 1, []), (11, 1, []), (12, 2, []), (13, 2, []), (14, 2, []), (15, 2, []), (16, 2, []), (17, 2, []), (18, 1, []), (19, 2, [])]
def ats : Ats := [(⟨#[105, 115, 95, 110, 117, 109, 98, 101, 114]⟩, none), (⟨#[116, 117, 112, 108, 101, 100]⟩, none), (⟨#[105, 115, 95, 108, 97, 98, 101, 108, 95, 105, 110]⟩, none), (⟨#[110, 117, 109, 98, 101, 114, 95, 105, 110]⟩, none), (⟨#[105, 115, 95, 112, 105, 101, 99, 101]⟩, none), (⟨#[114, 111, 119, 115, 95, 105, 110]⟩, none), (⟨#[116, 111, 108, 100, 95, 114, 111, 119, 115]⟩, none), (⟨#[114, 111, 119, 115, 95, 111, 102]⟩, none), (⟨#[116, 101, 120, 116, 95, 111, 102]⟩, none), (⟨#[110, 117, 109, 98, 101, 114, 95, 111, 102]⟩, none), (⟨#[112, 105, 101, 99, 101, 95, 111, 102]⟩, none), (⟨#[105, 115, 95, 108, 97, 98, 101, 108]⟩, none), (⟨#[95, 108, 97, 119, 95, 98, 111, 120]⟩, none), (⟨#[95, 108, 97, 119, 95, 116, 97, 107, 101]⟩, none), (⟨#[95, 108, 97, 119, 95, 99, 101, 108, 108, 115]⟩, none), (⟨#[95, 108, 97, 119, 95, 111, 102]⟩, none), (⟨#[95, 108, 97, 119, 95, 115, 97, 109, 101]⟩, none), (⟨#[95, 108, 97, 119, 95, 109, 105, 120, 101, 100]⟩, none), (⟨#[95, 108, 97, 119, 95, 116, 111, 108, 100]⟩, none), (⟨#[95, 108, 97, 119, 95, 115, 116, 114, 101, 119, 110]⟩, none), (⟨#[108, 97, 119]⟩, none)]
def pss : List (List Str) := [[⟨#[116, 104, 105, 110, 103]⟩], [⟨#[118, 97, 108, 117, 101]⟩], [⟨#[116, 104, 105, 110, 103]⟩], [⟨#[112, 105, 101, 99, 101]⟩, ⟨#[109, 111, 115, 116]⟩], [⟨#[116, 104, 105, 110, 103]⟩], [⟨#[116, 101, 120, 116]⟩], [⟨#[114, 111, 119, 115]⟩], [⟨#[116, 101, 120, 116]⟩], [⟨#[114, 111, 119, 115]⟩], [⟨#[112, 105, 101, 99, 101]⟩], [⟨#[110, 117, 109, 98, 101, 114]⟩], [⟨#[116, 104, 105, 110, 103]⟩], [⟨#[115, 99, 114, 105, 112, 116]⟩, ⟨#[107]⟩], [⟨#[116, 105, 110]⟩, ⟨#[98, 101, 108, 111, 119, 95, 115, 111]⟩], [⟨#[115, 99, 114, 105, 112, 116]⟩, ⟨#[109, 111, 115, 116, 95, 115, 111]⟩], [⟨#[116, 105, 110]⟩, ⟨#[103, 111, 111, 100, 115, 95, 115, 111]⟩], [⟨#[103, 111, 116]⟩, ⟨#[100, 117, 101]⟩], [⟨#[116, 105, 110]⟩, ⟨#[109, 97, 116, 116, 101, 114]⟩], [⟨#[114, 111, 119, 115, 95, 115, 111]⟩], [⟨#[116, 105, 110]⟩, ⟨#[114, 111, 119, 115, 95, 115, 111]⟩], [⟨#[115, 99, 114, 105, 112, 116]⟩]]
def top (i : Nat) : Stmt := PySem.Challenge.pw_collectedwords_k40_whole_words_of_texts.main.body.getD i (.Pass ⟨0, 0, 0, 0⟩)
def e_b_is_number : He.DefD := ⟨(⟨#[105, 115, 95, 110, 117, 109, 98, 101, 114]⟩, none), ⟨#[105, 115, 95, 110, 117, 109, 98, 101, 114]⟩, ⟨#[105, 115, 95, 110, 117, 109, 98, 101, 114]⟩, defArgs (top 3), defBody (top 3), defScope (top 3), [], []⟩
def e_b_tupled : He.DefD := ⟨(⟨#[116, 117, 112, 108, 101, 100]⟩, none), ⟨#[116, 117, 112, 108, 101, 100]⟩, ⟨#[116, 117, 112, 108, 101, 100]⟩, defArgs (top 4), defBody (top 4), defScope (top 4), [], []⟩
def e_b_is_label_in : He.DefD := ⟨(⟨#[105, 115, 95, 108, 97, 98, 101, 108, 95, 105, 110]⟩, none), ⟨#[105, 115, 95, 108, 97, 98, 101, 108, 95, 105, 110]⟩, ⟨#[105, 115, 95, 108, 97, 98, 101, 108, 95, 105, 110]⟩, defArgs (top 10), defBody (top 10), defScope (top 10), [], []⟩
def e_b_number_in : He.DefD := ⟨(⟨#[110, 117, 109, 98, 101, 114, 95, 105, 110]⟩, none), ⟨#[110, 117, 109, 98, 101, 114, 95, 105, 110]⟩, ⟨#[110, 117, 109, 98, 101, 114, 95, 105, 110]⟩, defArgs (top 11), defBody (top 11), defScope (top 11), [], []⟩
def e_b_is_piece : He.DefD := ⟨(⟨#[105, 115, 95, 112, 105, 101, 99, 101]⟩, none), ⟨#[105, 115, 95, 112, 105, 101, 99, 101]⟩, ⟨#[105, 115, 95, 112, 105, 101, 99, 101]⟩, defArgs (top 12), defBody (top 12), defScope (top 12), [], []⟩
def e_b_rows_in : He.DefD := ⟨(⟨#[114, 111, 119, 115, 95, 105, 110]⟩, none), ⟨#[114, 111, 119, 115, 95, 105, 110]⟩, ⟨#[114, 111, 119, 115, 95, 105, 110]⟩, defArgs (top 13), defBody (top 13), defScope (top 13), [], []⟩
def e_b_told_rows : He.DefD := ⟨(⟨#[116, 111, 108, 100, 95, 114, 111, 119, 115]⟩, none), ⟨#[116, 111, 108, 100, 95, 114, 111, 119, 115]⟩, ⟨#[116, 111, 108, 100, 95, 114, 111, 119, 115]⟩, defArgs (top 14), defBody (top 14), defScope (top 14), [], []⟩
def e_b_rows_of : He.DefD := ⟨(⟨#[114, 111, 119, 115, 95, 111, 102]⟩, none), ⟨#[114, 111, 119, 115, 95, 111, 102]⟩, ⟨#[114, 111, 119, 115, 95, 111, 102]⟩, defArgs (top 15), defBody (top 15), defScope (top 15), [], []⟩
def e_b_text_of : He.DefD := ⟨(⟨#[116, 101, 120, 116, 95, 111, 102]⟩, none), ⟨#[116, 101, 120, 116, 95, 111, 102]⟩, ⟨#[116, 101, 120, 116, 95, 111, 102]⟩, defArgs (top 16), defBody (top 16), defScope (top 16), [], []⟩
def e_b_number_of : He.DefD := ⟨(⟨#[110, 117, 109, 98, 101, 114, 95, 111, 102]⟩, none), ⟨#[110, 117, 109, 98, 101, 114, 95, 111, 102]⟩, ⟨#[110, 117, 109, 98, 101, 114, 95, 111, 102]⟩, defArgs (top 17), defBody (top 17), defScope (top 17), [], []⟩
def e_b_piece_of : He.DefD := ⟨(⟨#[112, 105, 101, 99, 101, 95, 111, 102]⟩, none), ⟨#[112, 105, 101, 99, 101, 95, 111, 102]⟩, ⟨#[112, 105, 101, 99, 101, 95, 111, 102]⟩, defArgs (top 18), defBody (top 18), defScope (top 18), [], []⟩
def e_b_is_label : He.DefD := ⟨(⟨#[105, 115, 95, 108, 97, 98, 101, 108]⟩, none), ⟨#[105, 115, 95, 108, 97, 98, 101, 108]⟩, ⟨#[105, 115, 95, 108, 97, 98, 101, 108]⟩, defArgs (top 19), defBody (top 19), defScope (top 19), [], []⟩
def e_b_law_box : He.DefD := ⟨(⟨#[95, 108, 97, 119, 95, 98, 111, 120]⟩, none), ⟨#[95, 108, 97, 119, 95, 98, 111, 120]⟩, ⟨#[95, 108, 97, 119, 95, 98, 111, 120]⟩, defArgs (top 21), defBody (top 21), defScope (top 21), [], []⟩
def e_b_law_take : He.DefD := ⟨(⟨#[95, 108, 97, 119, 95, 116, 97, 107, 101]⟩, none), ⟨#[95, 108, 97, 119, 95, 116, 97, 107, 101]⟩, ⟨#[95, 108, 97, 119, 95, 116, 97, 107, 101]⟩, defArgs (top 22), defBody (top 22), defScope (top 22), [], []⟩
def e_b_law_cells : He.DefD := ⟨(⟨#[95, 108, 97, 119, 95, 99, 101, 108, 108, 115]⟩, none), ⟨#[95, 108, 97, 119, 95, 99, 101, 108, 108, 115]⟩, ⟨#[95, 108, 97, 119, 95, 99, 101, 108, 108, 115]⟩, defArgs (top 23), defBody (top 23), defScope (top 23), [], []⟩
def e_b_law_of : He.DefD := ⟨(⟨#[95, 108, 97, 119, 95, 111, 102]⟩, none), ⟨#[95, 108, 97, 119, 95, 111, 102]⟩, ⟨#[95, 108, 97, 119, 95, 111, 102]⟩, defArgs (top 24), defBody (top 24), defScope (top 24), [], []⟩
def e_b_law_same : He.DefD := ⟨(⟨#[95, 108, 97, 119, 95, 115, 97, 109, 101]⟩, none), ⟨#[95, 108, 97, 119, 95, 115, 97, 109, 101]⟩, ⟨#[95, 108, 97, 119, 95, 115, 97, 109, 101]⟩, defArgs (top 25), defBody (top 25), defScope (top 25), [], []⟩
def e_b_law_mixed : He.DefD := ⟨(⟨#[95, 108, 97, 119, 95, 109, 105, 120, 101, 100]⟩, none), ⟨#[95, 108, 97, 119, 95, 109, 105, 120, 101, 100]⟩, ⟨#[95, 108, 97, 119, 95, 109, 105, 120, 101, 100]⟩, defArgs (top 26), defBody (top 26), defScope (top 26), [], []⟩
def e_b_law_told : He.DefD := ⟨(⟨#[95, 108, 97, 119, 95, 116, 111, 108, 100]⟩, none), ⟨#[95, 108, 97, 119, 95, 116, 111, 108, 100]⟩, ⟨#[95, 108, 97, 119, 95, 116, 111, 108, 100]⟩, defArgs (top 27), defBody (top 27), defScope (top 27), [], []⟩
def e_b_law_strewn : He.DefD := ⟨(⟨#[95, 108, 97, 119, 95, 115, 116, 114, 101, 119, 110]⟩, none), ⟨#[95, 108, 97, 119, 95, 115, 116, 114, 101, 119, 110]⟩, ⟨#[95, 108, 97, 119, 95, 115, 116, 114, 101, 119, 110]⟩, defArgs (top 28), defBody (top 28), defScope (top 28), [], []⟩
def e_b_law : He.DefD := ⟨(⟨#[108, 97, 119]⟩, none), ⟨#[108, 97, 119]⟩, ⟨#[108, 97, 119]⟩, defArgs (top 29), defBody (top 29), defScope (top 29), [], []⟩
def fnl : List He.DefD := [e_b_is_number, e_b_tupled, e_b_is_label_in, e_b_number_in, e_b_is_piece, e_b_rows_in, e_b_told_rows, e_b_rows_of, e_b_text_of, e_b_number_of, e_b_piece_of, e_b_is_label, e_b_law_box, e_b_law_take, e_b_law_cells, e_b_law_of, e_b_law_same, e_b_law_mixed, e_b_law_told, e_b_law_strewn, e_b_law]
def loose : List Str := ([⟨#[105, 115, 95, 110, 117, 109, 98, 101, 114]⟩, ⟨#[116, 117, 112, 108, 101, 100]⟩, ⟨#[105, 115, 95, 108, 97, 98, 101, 108, 95, 105, 110]⟩, ⟨#[110, 117, 109, 98, 101, 114, 95, 105, 110]⟩, ⟨#[105, 115, 95, 112, 105, 101, 99, 101]⟩, ⟨#[114, 111, 119, 115, 95, 105, 110]⟩, ⟨#[116, 111, 108, 100, 95, 114, 111, 119, 115]⟩, ⟨#[114, 111, 119, 115, 95, 111, 102]⟩, ⟨#[116, 101, 120, 116, 95, 111, 102]⟩, ⟨#[110, 117, 109, 98, 101, 114, 95, 111, 102]⟩, ⟨#[112, 105, 101, 99, 101, 95, 111, 102]⟩, ⟨#[105, 115, 95, 108, 97, 98, 101, 108]⟩, ⟨#[95, 108, 97, 119, 95, 98, 111, 120]⟩, ⟨#[95, 108, 97, 119, 95, 116, 97, 107, 101]⟩, ⟨#[95, 108, 97, 119, 95, 99, 101, 108, 108, 115]⟩, ⟨#[95, 108, 97, 119, 95, 111, 102]⟩, ⟨#[95, 108, 97, 119, 95, 115, 97, 109, 101]⟩, ⟨#[95, 108, 97, 119, 95, 109, 105, 120, 101, 100]⟩, ⟨#[95, 108, 97, 119, 95, 116, 111, 108, 100]⟩, ⟨#[95, 108, 97, 119, 95, 115, 116, 114, 101, 119, 110]⟩, ⟨#[85, 110, 102, 105, 116]⟩, ⟨#[70, 73, 71, 85, 82, 69, 83]⟩, ⟨#[76, 69, 84, 84, 69, 82, 83]⟩, ⟨#[76, 79, 78, 71, 69, 83, 84, 95, 76, 65, 66, 69, 76]⟩, ⟨#[77, 79, 83, 84, 95, 70, 73, 71, 85, 82, 69, 83]⟩] : List Str)
abbrev Rw : PySem.W.OpenRow := PySem.W.OpenLaw.row PySem.Challenge.rw_collectedwords_k40_whole_words_of_texts
abbrev hkL : PySem.W.Hook := hookM 4 (faOf tab) fnl
def obL (s : PySem.W.SharedT) : He.AlD × Option (Option Value) := obsM 4 (faOf tab) fnl (HandSHeadRun.getT s)
theorem obL_eq (s : PySem.W.SharedT) : obL s = hkL.obs s.abs := obsM_eq (HandSHeadRun.getT_eq s)
theorem runL (w : World) : HandSHeadRun.RunEq Rw (PySem.W.view Rw.prog [29]) hkL obL 3000 loose w := by
  intro os
  kernel_rfl
theorem s_b_is_number : FnScope [⟨#[116, 104, 105, 110, 103]⟩] [⟨#[116, 104, 105, 110, 103]⟩] (defScope (top 3)) := ⟨rfl, rfl, rfl, by decide +kernel, rfl, by decide +kernel, by decide +kernel⟩
theorem o_b_is_number : okSs tab b_is_number ⟨[⟨#[116, 104, 105, 110, 103]⟩], defScope (top 3), none⟩ (defBody (top 3)) = true := by decide +kernel
theorem f_b_is_number {K : PySem.W.Frag} {mg : Str → Option Value} (c : He.SaysD (faOf tab) fnl K) : DefF tab (gOf ats K) K mg prog 0 d_b_is_number (pss.getD 0 []) :=
  defF_of c 0 (d := e_b_is_number) rfl rfl rfl rfl _ _ s_b_is_number rfl rfl (by decide) rfl o_b_is_number (fun kV doc pm an cdv ct us hl => match us, hl with | [_], _ => rfl) (fun n ks hm => .inl (plainPat (by decide +kernel) hm))
theorem s_b_tupled : FnScope [⟨#[118, 97, 108, 117, 101]⟩, ⟨#[111, 119, 110]⟩] [⟨#[118, 97, 108, 117, 101]⟩] (defScope (top 4)) := ⟨rfl, rfl, rfl, by decide +kernel, rfl, by decide +kernel, by decide +kernel⟩
theorem o_b_tupled : okSs tab b_tupled ⟨[⟨#[118, 97, 108, 117, 101]⟩, ⟨#[111, 119, 110]⟩], defScope (top 4), none⟩ (defBody (top 4)) = true := by decide +kernel
theorem f_b_tupled {K : PySem.W.Frag} {mg : Str → Option Value} (c : He.SaysD (faOf tab) fnl K) : DefF tab (gOf ats K) K mg prog 1 d_b_tupled (pss.getD 1 []) :=
  defF_of c 1 (d := e_b_tupled) rfl rfl rfl rfl _ _ s_b_tupled rfl rfl (by decide) rfl o_b_tupled (fun kV doc pm an cdv ct us hl => match us, hl with | [_], _ => rfl) (fun n ks hm => .inl (plainPat (by decide +kernel) hm))
theorem s_b_is_label_in : FnScope [⟨#[116, 104, 105, 110, 103]⟩, ⟨#[115, 105, 103, 110]⟩] [⟨#[116, 104, 105, 110, 103]⟩] (defScope (top 10)) := ⟨rfl, rfl, rfl, by decide +kernel, rfl, by decide +kernel, by decide +kernel⟩
theorem o_b_is_label_in : okSs tab b_is_label_in ⟨[⟨#[116, 104, 105, 110, 103]⟩, ⟨#[115, 105, 103, 110]⟩], defScope (top 10), none⟩ (defBody (top 10)) = true := by decide +kernel
theorem f_b_is_label_in {K : PySem.W.Frag} {mg : Str → Option Value} (c : He.SaysD (faOf tab) fnl K) : DefF tab (gOf ats K) K mg prog 2 d_b_is_label_in (pss.getD 2 []) :=
  defF_of c 2 (d := e_b_is_label_in) rfl rfl rfl rfl _ _ s_b_is_label_in rfl rfl (by decide) rfl o_b_is_label_in (fun kV doc pm an cdv ct us hl => match us, hl with | [_], _ => rfl) (fun n ks hm => .inl (plainPat (by decide +kernel) hm))
theorem s_b_number_in : FnScope [⟨#[112, 105, 101, 99, 101]⟩, ⟨#[109, 111, 115, 116]⟩, ⟨#[102, 105, 103, 117, 114, 101, 115]⟩, ⟨#[115, 105, 103, 110]⟩] [⟨#[112, 105, 101, 99, 101]⟩, ⟨#[109, 111, 115, 116]⟩] (defScope (top 11)) := ⟨rfl, rfl, rfl, by decide +kernel, rfl, by decide +kernel, by decide +kernel⟩
theorem o_b_number_in : okSs tab b_number_in ⟨[⟨#[112, 105, 101, 99, 101]⟩, ⟨#[109, 111, 115, 116]⟩, ⟨#[102, 105, 103, 117, 114, 101, 115]⟩, ⟨#[115, 105, 103, 110]⟩], defScope (top 11), none⟩ (defBody (top 11)) = true := by decide +kernel
theorem f_b_number_in {K : PySem.W.Frag} {mg : Str → Option Value} (c : He.SaysD (faOf tab) fnl K) : DefF tab (gOf ats K) K mg prog 3 d_b_number_in (pss.getD 3 []) :=
  defF_of c 3 (d := e_b_number_in) rfl rfl rfl rfl _ _ s_b_number_in rfl rfl (by decide) rfl o_b_number_in (fun kV doc pm an cdv ct us hl => match us, hl with | [_, _], _ => rfl) (fun n ks hm => .inl (plainPat (by decide +kernel) hm))
theorem s_b_is_piece : FnScope [⟨#[116, 104, 105, 110, 103]⟩, ⟨#[115, 105, 103, 110]⟩] [⟨#[116, 104, 105, 110, 103]⟩] (defScope (top 12)) := ⟨rfl, rfl, rfl, by decide +kernel, rfl, by decide +kernel, by decide +kernel⟩
theorem o_b_is_piece : okSs tab b_is_piece ⟨[⟨#[116, 104, 105, 110, 103]⟩, ⟨#[115, 105, 103, 110]⟩], defScope (top 12), none⟩ (defBody (top 12)) = true := by decide +kernel
theorem f_b_is_piece {K : PySem.W.Frag} {mg : Str → Option Value} (c : He.SaysD (faOf tab) fnl K) : DefF tab (gOf ats K) K mg prog 4 d_b_is_piece (pss.getD 4 []) :=
  defF_of c 4 (d := e_b_is_piece) rfl rfl rfl rfl _ _ s_b_is_piece rfl rfl (by decide) rfl o_b_is_piece (fun kV doc pm an cdv ct us hl => match us, hl with | [_], _ => rfl) (fun n ks hm => .inl (plainPat (by decide +kernel) hm))
theorem s_b_rows_in : FnScope [⟨#[116, 101, 120, 116]⟩, ⟨#[102, 111, 117, 110, 100]⟩, ⟨#[110, 117, 109, 98, 101, 114]⟩, ⟨#[108, 105, 110, 101]⟩, ⟨#[112, 105, 101, 99, 101, 115]⟩, ⟨#[112, 105, 101, 99, 101]⟩] [⟨#[116, 101, 120, 116]⟩] (defScope (top 13)) := ⟨rfl, rfl, rfl, by decide +kernel, rfl, by decide +kernel, by decide +kernel⟩
theorem o_b_rows_in : okSs tab b_rows_in ⟨[⟨#[116, 101, 120, 116]⟩, ⟨#[102, 111, 117, 110, 100]⟩, ⟨#[110, 117, 109, 98, 101, 114]⟩, ⟨#[108, 105, 110, 101]⟩, ⟨#[112, 105, 101, 99, 101, 115]⟩, ⟨#[112, 105, 101, 99, 101]⟩], defScope (top 13), none⟩ (defBody (top 13)) = true := by decide +kernel
theorem f_b_rows_in {K : PySem.W.Frag} {mg : Str → Option Value} (c : He.SaysD (faOf tab) fnl K) : DefF tab (gOf ats K) K mg prog 5 d_b_rows_in (pss.getD 5 []) :=
  defF_of c 5 (d := e_b_rows_in) rfl rfl rfl rfl _ _ s_b_rows_in rfl rfl (by decide) rfl o_b_rows_in (fun kV doc pm an cdv ct us hl => match us, hl with | [_], _ => rfl) (fun n ks hm => .inl (plainPat (by decide +kernel) hm))
theorem s_b_told_rows : FnScope [⟨#[114, 111, 119, 115]⟩, ⟨#[114, 111, 119]⟩] [⟨#[114, 111, 119, 115]⟩] (defScope (top 14)) := ⟨rfl, rfl, rfl, by decide +kernel, rfl, by decide +kernel, by decide +kernel⟩
theorem o_b_told_rows : okSs tab b_told_rows ⟨[⟨#[114, 111, 119, 115]⟩, ⟨#[114, 111, 119]⟩], defScope (top 14), none⟩ (defBody (top 14)) = true := by decide +kernel
theorem f_b_told_rows {K : PySem.W.Frag} {mg : Str → Option Value} (c : He.SaysD (faOf tab) fnl K) : DefF tab (gOf ats K) K mg prog 6 d_b_told_rows (pss.getD 6 []) :=
  defF_of c 6 (d := e_b_told_rows) rfl rfl rfl rfl _ _ s_b_told_rows rfl rfl (by decide) rfl o_b_told_rows (fun kV doc pm an cdv ct us hl => match us, hl with | [_], _ => rfl) (fun n ks hm => .inl (plainPat (by decide +kernel) hm))
theorem s_b_rows_of : FnScope [⟨#[116, 101, 120, 116]⟩] [⟨#[116, 101, 120, 116]⟩] (defScope (top 15)) := ⟨rfl, rfl, rfl, by decide +kernel, rfl, by decide +kernel, by decide +kernel⟩
theorem o_b_rows_of : okSs tab b_rows_of ⟨[⟨#[116, 101, 120, 116]⟩], defScope (top 15), none⟩ (defBody (top 15)) = true := by decide +kernel
theorem f_b_rows_of {K : PySem.W.Frag} {mg : Str → Option Value} (c : He.SaysD (faOf tab) fnl K) : DefF tab (gOf ats K) K mg prog 7 d_b_rows_of (pss.getD 7 []) :=
  defF_of c 7 (d := e_b_rows_of) rfl rfl rfl rfl _ _ s_b_rows_of rfl rfl (by decide) rfl o_b_rows_of (fun kV doc pm an cdv ct us hl => match us, hl with | [_], _ => rfl) (fun n ks hm => by
    have e : tab.pats.filter (fun p => p.1 == 7) = [(7, 0, [(⟨#[116, 101, 120, 116]⟩, 0)]), (7, 1, [])] := by decide +kernel
    have h2 : (7, n, ks) ∈ tab.pats.filter (fun p => p.1 == 7) := List.mem_filter.mpr ⟨hm, by simp⟩
    rw [e] at h2
    simp only [List.mem_cons, List.not_mem_nil, or_false] at h2
    rcases h2 with h2 | h2
    · cases h2
      refine .inr fun kV doc pm an cdv ct us ws full l1 l2 e => ?_
      match us, ws, l1, l2 with
      | [], [_], _, _ => cases e; rfl
    · cases h2; exact .inl rfl)
theorem s_b_text_of : FnScope [⟨#[114, 111, 119, 115]⟩, ⟨#[111, 119, 110]⟩, ⟨#[114, 111, 119]⟩, ⟨#[112, 105, 101, 99, 101]⟩] [⟨#[114, 111, 119, 115]⟩] (defScope (top 16)) := ⟨rfl, rfl, rfl, by decide +kernel, rfl, by decide +kernel, by decide +kernel⟩
theorem o_b_text_of : okSs tab b_text_of ⟨[⟨#[114, 111, 119, 115]⟩, ⟨#[111, 119, 110]⟩, ⟨#[114, 111, 119]⟩, ⟨#[112, 105, 101, 99, 101]⟩], defScope (top 16), none⟩ (defBody (top 16)) = true := by decide +kernel
theorem f_b_text_of {K : PySem.W.Frag} {mg : Str → Option Value} (c : He.SaysD (faOf tab) fnl K) : DefF tab (gOf ats K) K mg prog 8 d_b_text_of (pss.getD 8 []) :=
  defF_of c 8 (d := e_b_text_of) rfl rfl rfl rfl _ _ s_b_text_of rfl rfl (by decide) rfl o_b_text_of (fun kV doc pm an cdv ct us hl => match us, hl with | [_], _ => rfl) (fun n ks hm => .inl (plainPat (by decide +kernel) hm))
theorem s_b_number_of : FnScope [⟨#[112, 105, 101, 99, 101]⟩] [⟨#[112, 105, 101, 99, 101]⟩] (defScope (top 17)) := ⟨rfl, rfl, rfl, by decide +kernel, rfl, by decide +kernel, by decide +kernel⟩
theorem o_b_number_of : okSs tab b_number_of ⟨[⟨#[112, 105, 101, 99, 101]⟩], defScope (top 17), none⟩ (defBody (top 17)) = true := by decide +kernel
theorem f_b_number_of {K : PySem.W.Frag} {mg : Str → Option Value} (c : He.SaysD (faOf tab) fnl K) : DefF tab (gOf ats K) K mg prog 9 d_b_number_of (pss.getD 9 []) :=
  defF_of c 9 (d := e_b_number_of) rfl rfl rfl rfl _ _ s_b_number_of rfl rfl (by decide) rfl o_b_number_of (fun kV doc pm an cdv ct us hl => match us, hl with | [_], _ => rfl) (fun n ks hm => .inl (plainPat (by decide +kernel) hm))
theorem s_b_piece_of : FnScope [⟨#[110, 117, 109, 98, 101, 114]⟩] [⟨#[110, 117, 109, 98, 101, 114]⟩] (defScope (top 18)) := ⟨rfl, rfl, rfl, by decide +kernel, rfl, by decide +kernel, by decide +kernel⟩
theorem o_b_piece_of : okSs tab b_piece_of ⟨[⟨#[110, 117, 109, 98, 101, 114]⟩], defScope (top 18), none⟩ (defBody (top 18)) = true := by decide +kernel
theorem f_b_piece_of {K : PySem.W.Frag} {mg : Str → Option Value} (c : He.SaysD (faOf tab) fnl K) : DefF tab (gOf ats K) K mg prog 10 d_b_piece_of (pss.getD 10 []) :=
  defF_of c 10 (d := e_b_piece_of) rfl rfl rfl rfl _ _ s_b_piece_of rfl rfl (by decide) rfl o_b_piece_of (fun kV doc pm an cdv ct us hl => match us, hl with | [_], _ => rfl) (fun n ks hm => .inl (plainPat (by decide +kernel) hm))
theorem s_b_is_label : FnScope [⟨#[116, 104, 105, 110, 103]⟩] [⟨#[116, 104, 105, 110, 103]⟩] (defScope (top 19)) := ⟨rfl, rfl, rfl, by decide +kernel, rfl, by decide +kernel, by decide +kernel⟩
theorem o_b_is_label : okSs tab b_is_label ⟨[⟨#[116, 104, 105, 110, 103]⟩], defScope (top 19), none⟩ (defBody (top 19)) = true := by decide +kernel
theorem f_b_is_label {K : PySem.W.Frag} {mg : Str → Option Value} (c : He.SaysD (faOf tab) fnl K) : DefF tab (gOf ats K) K mg prog 11 d_b_is_label (pss.getD 11 []) :=
  defF_of c 11 (d := e_b_is_label) rfl rfl rfl rfl _ _ s_b_is_label rfl rfl (by decide) rfl o_b_is_label (fun kV doc pm an cdv ct us hl => match us, hl with | [_], _ => rfl) (fun n ks hm => .inl (plainPat (by decide +kernel) hm))
theorem s_b_law_box : FnScope [⟨#[115, 99, 114, 105, 112, 116]⟩, ⟨#[107]⟩, ⟨#[98, 105, 116, 95, 115, 111]⟩] [⟨#[115, 99, 114, 105, 112, 116]⟩, ⟨#[107]⟩] (defScope (top 21)) := ⟨rfl, rfl, rfl, by decide +kernel, rfl, by decide +kernel, by decide +kernel⟩
theorem o_b_law_box : okSs tab b_law_box ⟨[⟨#[115, 99, 114, 105, 112, 116]⟩, ⟨#[107]⟩, ⟨#[98, 105, 116, 95, 115, 111]⟩], defScope (top 21), none⟩ (defBody (top 21)) = true := by decide +kernel
theorem f_b_law_box {K : PySem.W.Frag} {mg : Str → Option Value} (c : He.SaysD (faOf tab) fnl K) : DefF tab (gOf ats K) K mg prog 12 d_b_law_box (pss.getD 12 []) :=
  defF_of c 12 (d := e_b_law_box) rfl rfl rfl rfl _ _ s_b_law_box rfl rfl (by decide) rfl o_b_law_box (fun kV doc pm an cdv ct us hl => match us, hl with | [_, _], _ => rfl) (fun n ks hm => .inl (plainPat (by decide +kernel) hm))
theorem s_b_law_take : FnScope [⟨#[116, 105, 110]⟩, ⟨#[98, 101, 108, 111, 119, 95, 115, 111]⟩, ⟨#[111, 110, 99, 101, 95, 115, 111]⟩, ⟨#[119, 105, 100, 101, 95, 115, 111]⟩, ⟨#[116, 119, 105, 99, 101, 95, 115, 111]⟩, ⟨#[100, 114, 97, 119, 110, 95, 115, 111]⟩] [⟨#[116, 105, 110]⟩, ⟨#[98, 101, 108, 111, 119, 95, 115, 111]⟩] (defScope (top 22)) := ⟨rfl, rfl, rfl, by decide +kernel, rfl, by decide +kernel, by decide +kernel⟩
theorem o_b_law_take : okSs tab b_law_take ⟨[⟨#[116, 105, 110]⟩, ⟨#[98, 101, 108, 111, 119, 95, 115, 111]⟩, ⟨#[111, 110, 99, 101, 95, 115, 111]⟩, ⟨#[119, 105, 100, 101, 95, 115, 111]⟩, ⟨#[116, 119, 105, 99, 101, 95, 115, 111]⟩, ⟨#[100, 114, 97, 119, 110, 95, 115, 111]⟩], defScope (top 22), none⟩ (defBody (top 22)) = true := by decide +kernel
theorem f_b_law_take {K : PySem.W.Frag} {mg : Str → Option Value} (c : He.SaysD (faOf tab) fnl K) : DefF tab (gOf ats K) K mg prog 13 d_b_law_take (pss.getD 13 []) :=
  defF_of c 13 (d := e_b_law_take) rfl rfl rfl rfl _ _ s_b_law_take rfl rfl (by decide) rfl o_b_law_take (fun kV doc pm an cdv ct us hl => match us, hl with | [_, _], _ => rfl) (fun n ks hm => .inl (plainPat (by decide +kernel) hm))
theorem s_b_law_cells : FnScope [⟨#[115, 99, 114, 105, 112, 116]⟩, ⟨#[109, 111, 115, 116, 95, 115, 111]⟩, ⟨#[99, 101, 108, 108, 115, 95, 115, 111]⟩, ⟨#[107]⟩, ⟨#[98, 105, 116, 95, 115, 111]⟩, ⟨#[97, 116, 95, 115, 111]⟩] [⟨#[115, 99, 114, 105, 112, 116]⟩, ⟨#[109, 111, 115, 116, 95, 115, 111]⟩] (defScope (top 23)) := ⟨rfl, rfl, rfl, by decide +kernel, rfl, by decide +kernel, by decide +kernel⟩
theorem o_b_law_cells : okSs tab b_law_cells ⟨[⟨#[115, 99, 114, 105, 112, 116]⟩, ⟨#[109, 111, 115, 116, 95, 115, 111]⟩, ⟨#[99, 101, 108, 108, 115, 95, 115, 111]⟩, ⟨#[107]⟩, ⟨#[98, 105, 116, 95, 115, 111]⟩, ⟨#[97, 116, 95, 115, 111]⟩], defScope (top 23), none⟩ (defBody (top 23)) = true := by decide +kernel
theorem f_b_law_cells {K : PySem.W.Frag} {mg : Str → Option Value} (c : He.SaysD (faOf tab) fnl K) : DefF tab (gOf ats K) K mg prog 14 d_b_law_cells (pss.getD 14 []) :=
  defF_of c 14 (d := e_b_law_cells) rfl rfl rfl rfl _ _ s_b_law_cells rfl rfl (by decide) rfl o_b_law_cells (fun kV doc pm an cdv ct us hl => match us, hl with | [_, _], _ => rfl) (fun n ks hm => .inl (plainPat (by decide +kernel) hm))
theorem s_b_law_of : FnScope [⟨#[116, 105, 110]⟩, ⟨#[103, 111, 111, 100, 115, 95, 115, 111]⟩] [⟨#[116, 105, 110]⟩, ⟨#[103, 111, 111, 100, 115, 95, 115, 111]⟩] (defScope (top 24)) := ⟨rfl, rfl, rfl, by decide +kernel, rfl, by decide +kernel, by decide +kernel⟩
theorem o_b_law_of : okSs tab b_law_of ⟨[⟨#[116, 105, 110]⟩, ⟨#[103, 111, 111, 100, 115, 95, 115, 111]⟩], defScope (top 24), none⟩ (defBody (top 24)) = true := by decide +kernel
theorem f_b_law_of {K : PySem.W.Frag} {mg : Str → Option Value} (c : He.SaysD (faOf tab) fnl K) : DefF tab (gOf ats K) K mg prog 15 d_b_law_of (pss.getD 15 []) :=
  defF_of c 15 (d := e_b_law_of) rfl rfl rfl rfl _ _ s_b_law_of rfl rfl (by decide) rfl o_b_law_of (fun kV doc pm an cdv ct us hl => match us, hl with | [_, _], _ => rfl) (fun n ks hm => .inl (plainPat (by decide +kernel) hm))
theorem s_b_law_same : FnScope [⟨#[103, 111, 116]⟩, ⟨#[100, 117, 101]⟩, ⟨#[109, 105, 110, 101]⟩, ⟨#[105, 116, 115]⟩] [⟨#[103, 111, 116]⟩, ⟨#[100, 117, 101]⟩] (defScope (top 25)) := ⟨rfl, rfl, rfl, by decide +kernel, rfl, by decide +kernel, by decide +kernel⟩
theorem o_b_law_same : okSs tab b_law_same ⟨[⟨#[103, 111, 116]⟩, ⟨#[100, 117, 101]⟩, ⟨#[109, 105, 110, 101]⟩, ⟨#[105, 116, 115]⟩], defScope (top 25), none⟩ (defBody (top 25)) = true := by decide +kernel
theorem f_b_law_same {K : PySem.W.Frag} {mg : Str → Option Value} (c : He.SaysD (faOf tab) fnl K) : DefF tab (gOf ats K) K mg prog 16 d_b_law_same (pss.getD 16 []) :=
  defF_of c 16 (d := e_b_law_same) rfl rfl rfl rfl _ _ s_b_law_same rfl rfl (by decide) rfl o_b_law_same (fun kV doc pm an cdv ct us hl => match us, hl with | [_, _], _ => rfl) (fun n ks hm => .inl (plainPat (by decide +kernel) hm))
theorem s_b_law_mixed : FnScope [⟨#[116, 105, 110]⟩, ⟨#[109, 97, 116, 116, 101, 114]⟩, ⟨#[114, 111, 119, 95, 115, 111]⟩, ⟨#[98, 105, 116]⟩] [⟨#[116, 105, 110]⟩, ⟨#[109, 97, 116, 116, 101, 114]⟩] (defScope (top 26)) := ⟨rfl, rfl, rfl, by decide +kernel, rfl, by decide +kernel, by decide +kernel⟩
theorem o_b_law_mixed : okSs tab b_law_mixed ⟨[⟨#[116, 105, 110]⟩, ⟨#[109, 97, 116, 116, 101, 114]⟩, ⟨#[114, 111, 119, 95, 115, 111]⟩, ⟨#[98, 105, 116]⟩], defScope (top 26), none⟩ (defBody (top 26)) = true := by decide +kernel
theorem f_b_law_mixed {K : PySem.W.Frag} {mg : Str → Option Value} (c : He.SaysD (faOf tab) fnl K) : DefF tab (gOf ats K) K mg prog 17 d_b_law_mixed (pss.getD 17 []) :=
  defF_of c 17 (d := e_b_law_mixed) rfl rfl rfl rfl _ _ s_b_law_mixed rfl rfl (by decide) rfl o_b_law_mixed (fun kV doc pm an cdv ct us hl => match us, hl with | [_, _], _ => rfl) (fun n ks hm => .inl (plainPat (by decide +kernel) hm))
theorem s_b_law_told : FnScope [⟨#[114, 111, 119, 115, 95, 115, 111]⟩, ⟨#[111, 119, 110]⟩] [⟨#[114, 111, 119, 115, 95, 115, 111]⟩] (defScope (top 27)) := ⟨rfl, rfl, rfl, by decide +kernel, rfl, by decide +kernel, by decide +kernel⟩
theorem o_b_law_told : okSs tab b_law_told ⟨[⟨#[114, 111, 119, 115, 95, 115, 111]⟩, ⟨#[111, 119, 110]⟩], defScope (top 27), none⟩ (defBody (top 27)) = true := by decide +kernel
theorem f_b_law_told {K : PySem.W.Frag} {mg : Str → Option Value} (c : He.SaysD (faOf tab) fnl K) : DefF tab (gOf ats K) K mg prog 18 d_b_law_told (pss.getD 18 []) :=
  defF_of c 18 (d := e_b_law_told) rfl rfl rfl rfl _ _ s_b_law_told rfl rfl (by decide) rfl o_b_law_told (fun kV doc pm an cdv ct us hl => match us, hl with | [_], _ => rfl) (fun n ks hm => .inl (plainPat (by decide +kernel) hm))
theorem s_b_law_strewn : FnScope [⟨#[116, 105, 110]⟩, ⟨#[114, 111, 119, 115, 95, 115, 111]⟩, ⟨#[102, 111, 117, 110, 100]⟩, ⟨#[111, 119, 110]⟩] [⟨#[116, 105, 110]⟩, ⟨#[114, 111, 119, 115, 95, 115, 111]⟩] (defScope (top 28)) := ⟨rfl, rfl, rfl, by decide +kernel, rfl, by decide +kernel, by decide +kernel⟩
theorem o_b_law_strewn : okSs tab b_law_strewn ⟨[⟨#[116, 105, 110]⟩, ⟨#[114, 111, 119, 115, 95, 115, 111]⟩, ⟨#[102, 111, 117, 110, 100]⟩, ⟨#[111, 119, 110]⟩], defScope (top 28), none⟩ (defBody (top 28)) = true := by decide +kernel
theorem f_b_law_strewn {K : PySem.W.Frag} {mg : Str → Option Value} (c : He.SaysD (faOf tab) fnl K) : DefF tab (gOf ats K) K mg prog 19 d_b_law_strewn (pss.getD 19 []) :=
  defF_of c 19 (d := e_b_law_strewn) rfl rfl rfl rfl _ _ s_b_law_strewn rfl rfl (by decide) rfl o_b_law_strewn (fun kV doc pm an cdv ct us hl => match us, hl with | [_, _], _ => rfl) (fun n ks hm => .inl (plainPat (by decide +kernel) hm))
theorem s_b_law : FnScope [⟨#[115, 99, 114, 105, 112, 116]⟩, ⟨#[116, 105, 110]⟩, ⟨#[108, 97, 112]⟩, ⟨#[108, 97, 98, 101, 108, 115, 95, 115, 111]⟩, ⟨#[114, 111, 119, 115, 95, 115, 111]⟩, ⟨#[107]⟩, ⟨#[116, 111, 108, 100, 95, 115, 111]⟩, ⟨#[115, 116, 114, 101, 119, 110, 95, 115, 111]⟩, ⟨#[111, 119, 110]⟩, ⟨#[112, 105, 101, 99, 101, 115, 95, 115, 111]⟩, ⟨#[105, 116, 115]⟩, ⟨#[106]⟩, ⟨#[105]⟩] [⟨#[115, 99, 114, 105, 112, 116]⟩] (defScope (top 29)) := ⟨rfl, rfl, rfl, by decide +kernel, rfl, by decide +kernel, by decide +kernel⟩
theorem o_b_law : okSs tab b_law ⟨[⟨#[115, 99, 114, 105, 112, 116]⟩, ⟨#[116, 105, 110]⟩, ⟨#[108, 97, 112]⟩, ⟨#[108, 97, 98, 101, 108, 115, 95, 115, 111]⟩, ⟨#[114, 111, 119, 115, 95, 115, 111]⟩, ⟨#[107]⟩, ⟨#[116, 111, 108, 100, 95, 115, 111]⟩, ⟨#[115, 116, 114, 101, 119, 110, 95, 115, 111]⟩, ⟨#[111, 119, 110]⟩, ⟨#[112, 105, 101, 99, 101, 115, 95, 115, 111]⟩, ⟨#[105, 116, 115]⟩, ⟨#[106]⟩, ⟨#[105]⟩], defScope (top 29), none⟩ (defBody (top 29)) = true := by decide +kernel
theorem f_b_law {K : PySem.W.Frag} {mg : Str → Option Value} (c : He.SaysD (faOf tab) fnl K) : DefF tab (gOf ats K) K mg prog 20 d_b_law (pss.getD 20 []) :=
  defF_of c 20 (d := e_b_law) rfl rfl rfl rfl _ _ s_b_law rfl rfl (by decide) rfl o_b_law (fun kV doc pm an cdv ct us hl => match us, hl with | [_], _ => rfl) (fun n ks hm => .inl (plainPat (by decide +kernel) hm))
theorem allDefs {K : PySem.W.Frag} {mg : Str → Option Value} (c : He.SaysD (faOf tab) fnl K) : ∀ f d, prog[f]? = some d → DefF tab (gOf ats K) K mg prog f d (pss.getD f []) := fun f d h => by
  match f, h with
  | 0, h => cases h; exact f_b_is_number c
  | 1, h => cases h; exact f_b_tupled c
  | 2, h => cases h; exact f_b_is_label_in c
  | 3, h => cases h; exact f_b_number_in c
  | 4, h => cases h; exact f_b_is_piece c
  | 5, h => cases h; exact f_b_rows_in c
  | 6, h => cases h; exact f_b_told_rows c
  | 7, h => cases h; exact f_b_rows_of c
  | 8, h => cases h; exact f_b_text_of c
  | 9, h => cases h; exact f_b_number_of c
  | 10, h => cases h; exact f_b_piece_of c
  | 11, h => cases h; exact f_b_is_label c
  | 12, h => cases h; exact f_b_law_box c
  | 13, h => cases h; exact f_b_law_take c
  | 14, h => cases h; exact f_b_law_cells c
  | 15, h => cases h; exact f_b_law_of c
  | 16, h => cases h; exact f_b_law_same c
  | 17, h => cases h; exact f_b_law_mixed c
  | 18, h => cases h; exact f_b_law_told c
  | 19, h => cases h; exact f_b_law_strewn c
  | 20, h => cases h; exact f_b_law c
  | k + 21, h => cases h
theorem law_join {lv : Nat} (hr : Room lv callerA) (law : ∀ ns : List Int, ns.length ≤ 63 → ∃ h, (cc prog lv).call 20 [.v (.frz (ns.map .int))] [] = .ok (.v (.bl true)) h) : PySem.Challenge.rw_collectedwords_k40_whole_words_of_texts.Holds := by
  w_on; o_law
  refine HandSHeadRun.head_any (r := PySem.W.OpenLaw.row PySem.Challenge.rw_collectedwords_k40_whole_words_of_texts) (q := PySem.W.view (PySem.W.OpenLaw.row PySem.Challenge.rw_collectedwords_k40_whole_words_of_texts).prog [29]) (H := hkL) (ob := obL) (M := 3000) (loose := loose) (d := HandSHeadRun.topDef (PySem.W.OpenLaw.row PySem.Challenge.rw_collectedwords_k40_whole_words_of_texts).prog 29) (kwd := []) obL_eq
    (by kernel_rfl) (fun s => by kernel_rfl) runL (by kernel_rfl) (by kernel_rfl) (by kernel_rfl) (by rfl) (by first | assumption | decide +kernel) (by decide +kernel) ⟨rfl, rfl, rfl, rfl, rfl, by decide +kernel⟩ ?hw ?hc
  case hw => w_witness2
  case hc =>
    refine L2.walk_ofE (l := PySem.Challenge.rw_collectedwords_k40_whole_words_of_texts) (n := 63) (k := lv) (x := ⟨#[115, 99, 114, 105, 112, 116]⟩) (CX := L2.CX0) rfl (by decide) (by kernel_rfl) hr ?F (fun _ _ _ _ z => z)
    intro w mg fa h Y G hmg0
    obtain ⟨K, KX, c, dg⟩ := Y
    have hmg : mg (⟨#[108, 97, 119]⟩ : Str) = some (.ref fa) := by
      have e : (HandSHeadRun.topDef (PySem.W.OpenLaw.row PySem.Challenge.rw_collectedwords_k40_whole_words_of_texts).prog 29).name = (⟨#[108, 97, 119]⟩ : Str) := by kernel_rfl
      rw [← e]
      exact hmg0
    have PF : ProgF tab (gOf ats K) K mg prog pss := progF_of (fun _ => dg) c KX G (allDefs c) (by decide +kernel) (by decide +kernel)
    have hfa : fa = (gOf ats K).fa 20 := by
      have := PF.fns ⟨#[108, 97, 119]⟩ 20 (by decide +kernel)
      rw [hmg] at this
      cases this
      rfl
    subst hfa
    obtain ⟨fd, sp, hb, hsp, hF⟩ := law_place c (P := (PySem.Challenge.rw_collectedwords_k40_whole_words_of_texts).prog) (w := w) (d := d_b_law) (x := ⟨#[115, 99, 114, 105, 112, 116]⟩) (dd := e_b_law) PF rfl rfl rfl rfl rfl rfl (fun kV doc pm an cdv ct us hl => match us, hl with | [_], _ => rfl) law
    exact ⟨K, fd, sp, KX, hb, hsp, fun base _ _ => hF base⟩
end VM

theorem PySem.Challenge.cw_collectedwords_k40_whole_words_of_texts_holds : PySem.Challenge.rw_collectedwords_k40_whole_words_of_texts.Holds := by
  exact VM.law_join (lv := 10) ⟨rfl, by decide, by decide⟩ fun ns hn => VM.law_ok 0 ns hn
