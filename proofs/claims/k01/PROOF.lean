import PyProof.Rows.All
import Wide.All
import OpenK.AllK
import Wide.FinOn
import HandS.ForMost
import HandS.ForExc
import HandS.Defaults
import HandS.More
import HandS.Wide
import HandS.Deep
import HandS.TupAny
import HandS.Flow
import HandS.Style
import HandS.IsInst
import HandS.Property
import HandS.Steps
import HandS.RevRange
import HandS.Exc
import HandS.TryMany
import HandS.ExcField
import HandS.ExcInit
import HandS.CallSlots
import KE.GoesMore
import HandS.Iter
import HandS.Comp
import HandS.Small
import HandS.HeadHook1
import HandS.HeadHook2
import HandS.HeadHook3
import HandS.HeadHook4
import HandS.HeadEnd
import HandS.Head0
import HandS.Head1
import HandS.Head2
import PySem.Challenge.RW_splitalike_k01_cuts_by_lengths
import KE.KStateDown
import Lean
set_option Elab.async false
set_option linter.all false
set_option maxRecDepth 100000
section
set_option maxHeartbeats 200000
namespace SP
open PySem

/-- pure data -/
inductive D where
  | non | bl (b : Bool) | int (i : Int) | str (x : Str)
  | tup (ds : List D) | lst (ds : List D)
  | obj (C : String) (fs : List (String × D))
  | dct (kvs : List (D × D))
instance : Inhabited D := ⟨.non⟩
/-- an exception as a value -/
structure Ex where
  cls : String
  fs : List (String × D)
/-- what a slot holds: data, a located object, a caught exception -/
inductive Vl where
  | d (d : D) | loc (n : Nat) | exc (e : Ex)
/-- a located object -/
inductive MO where
  | dead | lst (xs : List Vl) | dct (kvs : List (D × Vl)) | ins (C : String) (fs : List (String × Vl))
abbrev Store := List MO
inductive Out (α : Type) where
  | ok (a : α) | err (e : Ex)
abbrev Rs (α : Type) := Option (Out α × Store)
abbrev Env := List (Option Vl)

mutual
def D.eqv : D → D → Bool
  | .non, .non => true
  | .bl a, .bl b => a == b
  | .bl a, .int j => (if a then 1 else 0) == j
  | .int i, .bl b => i == (if b then 1 else 0)
  | .int i, .int j => i == j
  | .str x, .str y => x == y
  | .lst xs, .lst ys => D.eqvs xs ys
  | .tup xs, .tup ys => D.eqvs xs ys
  | _, _ => false
def D.eqvs : List D → List D → Bool
  | [], [] => true
  | x :: xs, y :: ys => D.eqv x y && D.eqvs xs ys
  | [], _ :: _ => false
  | _ :: _, [] => false
end
mutual
/-- data without objects and dicts, its texts well made -/
def D.plain : D → Bool
  | .non | .bl _ | .int _ => true
  | .str x => PyData.strOk x
  | .tup xs | .lst xs => D.plains xs
  | .obj _ _ | .dct _ => false
def D.plains : List D → Bool
  | [] => true
  | x :: xs => D.plain x && D.plains xs
end
mutual
def D.depth : D → Nat
  | .lst xs | .tup xs => D.depths xs + 1
  | _ => 0
def D.depths : List D → Nat
  | [] => 0
  | x :: xs => max (D.depth x) (D.depths xs)
end
def D.shp (d : D) : Bool := d.plain && decide (d.depth ≤ 64)
/-- == of two data -/
def D.eqq (a b : D) : Option Bool := if a.shp && b.shp then some (D.eqv a b) else none
/-- neither list nor tuple -/
def D.flat : D → Bool
  | .non | .bl _ | .int _ | .str _ => true
  | _ => false
/-- an int or a text: a dict's key -/
def D.scal : D → Bool
  | .int _ | .str _ => true
  | _ => false
def D.truth : D → Option Bool
  | .non => some false
  | .bl b => some b
  | .int i => some (decide (i ≠ 0))
  | .str x => if x.length ≤ 16777216 then some (decide (x.length ≠ 0)) else none
  | .lst xs => some (decide (xs.length ≠ 0))
  | .tup xs => some (decide (xs.length ≠ 0))
  | _ => none

/-- the greatest length of a list or a text -/
def SZ : Nat := 16777216

def dats : List Vl → Option (List D)
  | [] => some []
  | .d d :: r => match dats r with
    | some ds => some (d :: ds)
    | none => none
  | _ :: _ => none
def datf : List (String × Vl) → Option (List (String × D))
  | [] => some []
  | (f, .d d) :: r => match datf r with
    | some ds => some ((f, d) :: ds)
    | none => none
  | _ :: _ => none
/-- what stands at a place, as data (lists, instances) -/
def MO.toD : MO → Option D
  | .lst xs => match dats xs with
    | some ds => some (.lst ds)
    | none => none
  | .ins C fs => match datf fs with
    | some gs => some (.obj C gs)
    | none => none
  | _ => none
/-- a value as data that may be looked at -/
def peek (st : Store) : Vl → Option D
  | .d d => some d
  | .loc n => match st[n]? with
    | some o => o.toD
    | none => none
  | .exc _ => none
/-- a value made data: a located object is let go -/
def emb (st : Store) : Vl → Option (D × Store)
  | .d d => some (d, st)
  | .loc n => match st[n]? with
    | some o => match o.toD with
      | some d => some (d, st.set n .dead)
      | none => none
    | none => none
  | .exc _ => none
def embs (st : Store) : List Vl → Option (List D × Store)
  | [] => some ([], st)
  | v :: r => match emb st v with
    | some (d, st1) => match embs st1 r with
      | some (ds, st2) => some (d :: ds, st2)
      | none => none
    | none => none

def bnd {α β : Type} (m : Rs α) (k : α → Store → Rs β) : Rs β := match m with
  | none => none
  | some (.err e, st) => some (.err e, st)
  | some (.ok a, st) => k a st

/-- an error is not let out here -/
def noErr {α : Type} (m : Rs α) : Rs α := match m with
  | some (.ok a, st) => some (.ok a, st)
  | _ => none
/-- a list made: located or data -/
def mkList (m : Bool) (vs : List Vl) (st : Store) : Rs Vl := if vs.length ≤ SZ then
    (if m then some (.ok (.loc st.length), st ++ [.lst vs]) else match embs st vs with
    | some (ds, st1) => some (.ok (.d (.lst ds)), st1)
    | none => none) else none
def ret1 (d : D) (st : Store) : Rs Vl := some (.ok (.d d), st)

inductive Bop where | add | sub | mul | fdiv | mod | pow
  deriving DecidableEq
inductive Cop where | eq | ne | lt | le | gt | ge | is | isnot | isin | notin
  deriving DecidableEq
mutual
inductive T where
  | con (d : D) | var (i : Nat) | glo (x : String)
  | bin (o : Bop) (a b : T) | neg (a : T) | not (a : T)
  | band (a b : T) | bor (a b : T)
  | cmp (o : Cop) (a b : T) | chain (o p : Cop) (a b c : T)
  | ite (c a b : T) | tup (ts : Ts) | lst (ts : Ts) | dict0
  | ix (a i : T) | slc (a : T) (lo hi : To) | rev (a : T)
  | fld (a : T) (f : String)
  | call (f : String) (ts : Ts) | bi (f : String) (ts : Ts)
  | isin (a : T) (c : String)
  | meth (a : T) (m : String) (ts : Ts)
  | comp (own : List Nat) (e : T) (g : Tg) (it : It) (fs : Ts)
  | comp2 (own own2 : List Nat) (e : T) (g : Tg) (it : It) (fs : Ts) (g2 : Tg) (it2 : It) (fs2 : Ts)
  | loc (t : T)
inductive Ts where | nil | cons (t : T) (r : Ts)
inductive To where | none | some (t : T)
inductive It where
  | seq (t : T) | rng1 (a : T) | rng2 (a b : T) | enu (t : T)
inductive Tg where
  | nm (i : Nat) | tp (gs : Tgs) | ix (a i : T)
inductive Tgs where | nil | cons (g : Tg) (r : Tgs)
end
mutual
inductive S where
  | ex (t : T) | asg (g : Tg) (t : T) | fset (a : T) (f : String) (t : T) | par (is : List Nat) (ts : Ts) | aug (i : Nat) (o : Bop) (t : T)
  | ret (t : T) | retN | ite (c : T) (a b : Ss) | for_ (g : Tg) (it : It) (b : Ss) | whl (c : T) (b : Ss)
  | raise (C : String) (ts : Ts) | try_ (b : Ss) (hs : Hs) | brk | cont | pass | stuck
inductive Ss where | nil | cons (s : S) (r : Ss)
inductive Hs where | nil | cons (c : String) (i : Nat) (b : Ss) (r : Hs)
end
def Ts.of : List T → Ts
  | [] => .nil
  | t :: r => .cons t (Ts.of r)

def mulOk (i j : Int) : Bool := decide (i.natAbs.log2 + j.natAbs.log2 < 1000000)
def divOk (j : Int) : Bool := decide (0 < j ∧ j.natAbs.log2 < 9000)
def powOk (i j : Int) : Bool := decide (0 ≤ j ∧ j ≤ 1000000 ∧ i.natAbs < 2 ^ 64)
/-- the bodies of defs: a call's answer -/
abbrev Fns := String → List Vl → Store → Rs Vl
structure Cfg where
  call : Fns
  glob : String → Option D
  /-- C's attribute f: a property (its def), or a field -/
  prop : String → String → Option (Option String)
  /-- C's method f: its def -/
  meth : String → String → Option String
  /-- the own classes -/
  cls : String → Bool

def callM (G : Cfg) (C f : String) (args : List Vl) (st : Store) : Rs Vl := match G.meth C f with
  | some h => G.call h args st
  | none => none
def binI (o : Bop) (i j : Int) : Option D := match o with
  | .add => some (.int (i + j))
  | .sub => some (.int (i - j))
  | .mul => if mulOk i j then some (.int (i * j)) else none
  | .fdiv => if divOk j then some (.int (i / j)) else none
  | .mod => if 0 < j then some (.int (i % j)) else none
  | .pow => if powOk i j then some (.int (i ^ j.toNat)) else none
def rep (xs : List D) (k : Int) : List D := (List.replicate k.toNat xs).flatten
def repS (a : Str) (k : Int) : Str := ⟨(List.replicate k.toNat a.cps.toList).flatten.toArray⟩
/-- an operator of data; lists come as (inr items) -/
def binD (o : Bop) (x y : D) : Option (D ⊕ List D) := match o, x, y with
  | o, .int i, .int j => (binI o i j).map .inl
  | .add, .str a, .str b => if a.length + b.length ≤ SZ then some (.inl (.str (a ++ b))) else none
  | .add, .lst xs, .lst ys => if xs.length + ys.length ≤ SZ then some (.inr (xs ++ ys)) else none
  | .add, .tup xs, .tup ys => if xs.length + ys.length ≤ SZ then some (.inl (.tup (xs ++ ys))) else none
  | .mul, .lst xs, .int k => if xs.length * k.toNat ≤ SZ ∧ -(2 ^ 63) ≤ k ∧ k < 2 ^ 63 then some (.inr (rep xs k)) else none
  | .mul, .str a, .int k => if 1 ≤ k ∧ k ≤ 1000000 ∧ a.length * k.toNat ≤ SZ then some (.inl (.str (repS a k))) else none
  | _, _, _ => none
/-- the own method of an operator -/
def opName : Bop → String
  | .add => "__add__" | .sub => "__sub__" | .mul => "__mul__" | .fdiv => "__floordiv__" | .mod => "__mod__" | .pow => "__pow__"
def binV (G : Cfg) (m : Bool) (o : Bop) (x y : Vl) (st : Store) : Rs Vl := match x with
  | .d (.obj C fs) => noErr (callM G C (opName o) [x, y] st)
  | _ => match peek st x, peek st y with
    | some a, some b => match binD o a b with
      | some (.inl d) => ret1 d st
      | some (.inr ds) => mkList m (ds.map .d) st
      | none => none
    | _, _ => none
def cmpI (o : Cop) (i j : Int) : Option Bool := match o with
  | .lt => some (decide (i < j))
  | .le => some (decide (i ≤ j))
  | .gt => some (decide (j < i))
  | .ge => some (decide (j ≤ i))
  | _ => none
/-- x in y, of data -/
def inD (x y : D) : Option Bool := match y with
  | .lst ds => if x.shp && (D.lst ds).shp then some (ds.any fun z => D.eqv z x) else none
  | .tup ds => if x.flat && ds.all D.flat then some (ds.any fun z => D.eqv z x) else none
  | .str z => match x with
    | .str c => if c.cps.size = 1 then some (decide (c.cps.getD 0 0 ∈ z.cps.toList)) else none
    | _ => none
  | .dct kvs => match x with
    | .str k => some (kvs.any fun kv => D.eqv kv.1 (.str k))
    | _ => none
  | _ => none
def D.isNon : D → Bool
  | .non => true
  | _ => false
def cmpN (o : Cop) (x y : D) : Option Bool := match x, y with
  | .int i, .int j => cmpI o i j
  | _, _ => none
def cmpD (o : Cop) (x y : D) : Option Bool := match o with
  | .eq => D.eqq x y
  | .ne => (D.eqq x y).map (!·)
  | .is => if y.isNon then some x.isNon else none
  | .isnot => if y.isNon then some (!x.isNon) else none
  | .isin => inD x y
  | .notin => (inD x y).map (!·)
  | .lt => cmpN .lt x y
  | .le => cmpN .le x y
  | .gt => cmpN .gt x y
  | .ge => cmpN .ge x y
/-- a located dict's item -/
def dlook (kvs : List (D × Vl)) (k : D) : Option Vl := match kvs with
  | [] => none
  | (a, v) :: r => if D.eqv a k then some v else dlook r k
def dput (kvs : List (D × Vl)) (k : D) (v : Vl) : List (D × Vl) :=
  if (kvs.any fun kv => D.eqv kv.1 k) then kvs.map (fun kv => if D.eqv kv.1 k then (kv.1, v) else kv) else kvs ++ [(k, v)]
def ddel (kvs : List (D × Vl)) (k : D) : List (D × Vl) := match kvs with
  | [] => []
  | (a, w) :: r => if D.eqv a k then r else (a, w) :: ddel r k
/-- x in a located object -/
def cmpL (b : Bool) (st : Store) (k : D) (n : Nat) : Rs Vl := match st[n]? with
  | some (.dct kvs) => if k.scal then ret1 (.bl (if b then !(dlook kvs k).isSome else (dlook kvs k).isSome)) st else none
  | some (.lst xs) => match dats xs with
    | some ds => match inD k (.lst ds) with
      | some c => ret1 (.bl (if b then !c else c)) st
      | none => none
    | none => none
  | _ => none
def cmpP (o : Cop) (x y : Vl) (st : Store) : Rs Vl := match peek st x with
  | some a => match peek st y with
    | some b => match cmpD o a b with
      | some c => ret1 (.bl c) st
      | none => none
    | none => none
  | none => none
def cmpV (G : Cfg) (o : Cop) (x y : Vl) (st : Store) : Rs Vl := match o with
  | .eq => match x with
    | .d (.obj C fs) => noErr (callM G C "__eq__" [x, y] st)
    | _ => cmpP .eq x y st
  | .isin => match y with
    | .d (.obj C fs) => noErr (callM G C "__contains__" [y, x] st)
    | .loc n => match peek st x with
      | some k => cmpL false st k n
      | none => none
    | _ => cmpP .isin x y st
  | .notin => match y with
    | .loc n => match peek st x with
      | some k => cmpL true st k n
      | none => none
    | _ => cmpP .notin x y st
  | o => cmpP o x y st
def truthV (st : Store) : Vl → Option Bool
  | .d d => d.truth
  | .loc n => match st[n]? with
    | some (.lst xs) => some (decide (xs.length ≠ 0))
    | some (.dct kvs) => some (decide (kvs.length ≠ 0))
    | _ => none
  | .exc _ => none
/-- a place in a sequence -/
def ixN (n : Nat) (i : Int) : Option Nat := if 0 ≤ i then (if i < n then some i.toNat else none) else if -(n : Int) ≤ i then some (i + n).toNat else none
def atI {α : Type} (xs : List α) (i : Int) : Option α := (ixN xs.length i).bind fun j => xs[j]?
def ixV (x i : Vl) (st : Store) : Rs Vl := match x, i with
  | .d (.lst ds), .d (.int k) => match atI ds k with
    | some d => ret1 d st
    | none => none
  | .d (.tup ds), .d (.int k) => match atI ds k with
    | some d => ret1 d st
    | none => none
  | .d (.str z), .d (.int k) => if z.length ≤ SZ then (match atI z.cps.toList k with
    | some c => ret1 (.str ⟨#[c]⟩) st
    | none => none) else none
  | .d (.dct kvs), .d (.str k) => match kvs.find? fun kv => D.eqv kv.1 (.str k) with
    | some kv => ret1 kv.2 st
    | none => none
  | .loc n, .d k => match st[n]? with
    | some (.lst xs) => match k with
      | .int k => match atI xs k with
        | some v => some (.ok v, st)
        | none => none
      | _ => none
    | some (.dct kvs) => if k.scal then (match dlook kvs k with
      | some v => some (.ok v, st)
      | none => none) else none
    | _ => none
  | _, _ => none
/-- the bounds of a slice -/
def sIx (n d : Nat) (b : Option Int) : Nat := match b with
  | none => d
  | some i => if i < 0 then (i + n).toNat else min i.toNat n
def cutL {α : Type} (xs : List α) (lo hi : Option Int) : List α := (xs.drop (sIx xs.length 0 lo)).take (sIx xs.length xs.length hi - sIx xs.length 0 lo)
def slcV (m : Bool) (x : Vl) (lo hi : Option Int) (st : Store) : Rs Vl := match peek st x with
  | some (.lst ds) => mkList m ((cutL ds lo hi).map .d) st
  | some (.tup ds) => ret1 (.tup (cutL ds lo hi)) st
  | some (.str z) => if z.length ≤ SZ then ret1 (.str ⟨(cutL z.cps.toList lo hi).toArray⟩) st else none
  | _ => none
def asInt : Vl → Option Int
  | .d (.int i) => some i
  | _ => none
def lookF {α : Type} (f : String) : List (String × α) → Option α
  | [] => none
  | (g, v) :: r => if f = g then some v else lookF f r
def putF {α : Type} (f : String) (v : α) : List (String × α) → List (String × α)
  | [] => [(f, v)]
  | (g, w) :: r => if g = f then (g, v) :: r else (g, w) :: putF f v r
def fdV (G : Cfg) (C f : String) (x : Vl) (o : Option Vl) (st : Store) : Rs Vl := match G.prop C f with
  | some (some h) => noErr (G.call h [x] st)
  | some none => (match o with
    | some d => some (.ok d, st)
    | none => none)
  | none => none
def fldV (G : Cfg) (x : Vl) (f : String) (st : Store) : Rs Vl := match x with
  | .d (.obj C fs) => fdV G C f x ((lookF f fs).map .d) st
  | .loc n => match st[n]? with
    | some (.ins C fs) => fdV G C f x (lookF f fs) st
    | _ => none
  | .exc e => match lookF f e.fs with
    | some d => ret1 d st
    | none => none
  | _ => none
/-- what may be written into a place -/
def okv : Vl → Bool
  | .exc _ => false
  | _ => true

def dInts : List D → Option (List Int)
  | [] => some []
  | .int i :: r => match dInts r with
    | some is => some (i :: is)
    | none => none
  | _ :: _ => none
def dBools : List D → Option (List Bool)
  | [] => some []
  | .bl i :: r => match dBools r with
    | some is => some (i :: is)
    | none => none
  | _ :: _ => none
def dStrs : List D → Option (List Str)
  | [] => some []
  | .str i :: r => match dStrs r with
    | some is => some (i :: is)
    | none => none
  | _ :: _ => none
def maxL : Int → List Int → Int
  | m, [] => m
  | m, x :: r => maxL (if x > m then x else m) r
def minL : Int → List Int → Int
  | m, [] => m
  | m, x :: r => minL (if x < m then x else m) r
def bi1 (m : Bool) (f : String) (x : Vl) (st : Store) : Rs Vl := match f with
  | "len" => (match x with
    | .loc n => match st[n]? with
      | some (.lst xs) => ret1 (.int xs.length) st
      | some (.dct kvs) => ret1 (.int kvs.length) st
      | _ => none
    | .d (.lst ds) => ret1 (.int ds.length) st
    | .d (.tup ds) => ret1 (.int ds.length) st
    | .d (.str z) => if z.length ≤ SZ then ret1 (.int z.length) st else none
    | _ => none)
  | "int" => (match x with
    | .d (.int i) => ret1 (.int i) st
    | .d (.bl b) => ret1 (.int (if b then 1 else 0)) st
    | _ => none)
  | "list" => (match peek st x with
    | some (.lst ds) => mkList m (ds.map .d) st
    | some (.tup ds) => mkList m (ds.map .d) st
    | _ => none)
  | "tuple" => (match peek st x with
    | some (.lst ds) => ret1 (.tup ds) st
    | some (.tup ds) => ret1 (.tup ds) st
    | _ => none)
  | "sum" => (match peek st x with
    | some (.lst ds) => match dInts ds with
      | some ns => ret1 (.int ns.sum) st
      | none => none
    | _ => none)
  | "all" => (match peek st x with
    | some (.lst ds) => match dBools ds with
      | some ns => ret1 (.bl (ns.all id)) st
      | none => none
    | _ => none)
  | "any" => (match peek st x with
    | some (.lst ds) => match dBools ds with
      | some ns => ret1 (.bl (ns.any id)) st
      | none => none
    | _ => none)
  | "max" => (match peek st x with
    | some (.lst ds) => match dInts ds with
      | some (n :: ns) => ret1 (.int (maxL n ns)) st
      | _ => none
    | _ => none)
  | "min" => (match peek st x with
    | some (.lst ds) => match dInts ds with
      | some (n :: ns) => ret1 (.int (minL n ns)) st
      | _ => none
    | _ => none)
  | _ => none
def bi2 (f : String) (x y : Vl) (st : Store) : Rs Vl := match f, x, y with
  | "max", .d (.int i), .d (.int j) => ret1 (.int (if j > i then j else i)) st
  | "min", .d (.int i), .d (.int j) => ret1 (.int (if j < i then j else i)) st
  | _, _, _ => none
def biV (m : Bool) (f : String) (vs : List Vl) (st : Store) : Rs Vl := match vs with
  | [x] => bi1 m f x st
  | [x, y] => bi2 f x y st
  | _ => none
def btys : List String := ["int", "bool", "str", "tuple", "list"]
/-- isinstance -/
def isV (G : Cfg) (st : Store) (c : String) (x : Vl) : Option Bool := if G.cls c || btys.contains c then (match x with
  | .d .non => some false
  | .d (.bl _) => some (c == "bool" || c == "int")
  | .d (.int _) => some (c == "int")
  | .d (.str _) => some (c == "str")
  | .d (.tup _) => some (c == "tuple")
  | .d (.lst _) => some (c == "list")
  | .d (.obj C _) => if G.cls C then some (c == C) else none
  | .loc n => match st[n]? with
    | some (.lst _) => some (c == "list")
    | some (.ins C _) => if G.cls C then some (c == C) else none
    | _ => none
  | _ => none) else none
/-- a built-in type's method of data -/
def methD (m : Bool) (x : D) (f : String) (vs : List Vl) (st : Store) : Rs Vl := match x, f, vs with
  | .str z, "join", [v] => (match peek st v with
    | some (.lst ds) => match dStrs ds with
      | some xs => if (xs.map (·.length)).sum + xs.length * z.length ≤ SZ then ret1 (.str (Txt.join z xs)) st else none
      | none => none
    | _ => none)
  | .lst ds, "index", [.d k] => if k.shp && (D.lst ds).shp then (match ds.findIdx? fun z => D.eqv z k with
    | some j => ret1 (.int j) st
    | none => none) else none
  | _, _, _ => none
/-- a built-in type's method of a located object -/
def methL (n : Nat) (o : MO) (f : String) (vs : List Vl) (st : Store) : Rs Vl := match o, f, vs with
  | .lst xs, "append", [v] => if okv v && decide (xs.length < SZ) then some (.ok (.d .non), st.set n (.lst (xs ++ [v]))) else none
  | .lst xs, "extend", [v] => (match peek st v with
    | some (.lst ds) => if decide (xs.length + ds.length ≤ SZ) then some (.ok (.d .non), st.set n (.lst (xs ++ ds.map .d))) else none
    | _ => none)
  | .lst xs, "pop", [] => match xs[xs.length - 1]? with
    | some v => some (.ok v, st.set n (.lst xs.dropLast))
    | none => none
  | .lst xs, "index", [.d k] => (match dats xs with
    | some ds => methD false (.lst ds) "index" [.d k] st
    | none => none)
  | _, _, _ => none
def methV (m : Bool) (x : Vl) (f : String) (vs : List Vl) (st : Store) : Rs Vl := match x with
  | .d d => methD m d f vs st
  | .loc n => match st[n]? with
    | some o => methL n o f vs st
    | none => none
  | .exc _ => none
/-- what receives a method's call -/
inductive RK where | own (C : String) | str | lst
/-- the methods of built-in types -/
def bmB : String → String → Bool
  | "str", "join" => true
  | "list", "index" => true
  | "list", "append" => true
  | "list", "extend" => true
  | "list", "pop" => true
  | _, _ => false
def rcv (G : Cfg) (f : String) (st : Store) : Vl → Option RK
  | .d (.obj C fs) => if (lookF f fs).isNone && (G.meth C f).isSome then some (.own C) else none
  | .d (.str _) => if bmB "str" f then some .str else none
  | .d (.lst _) => if bmB "list" f then some .lst else none
  | .loc n => match st[n]? with
    | some (.ins C fs) => if (lookF f fs).isNone && (G.meth C f).isSome then some (.own C) else none
    | some (.lst _) => if bmB "list" f then some .lst else none
    | _ => none
  | _ => none

inductive Fl where
  | next | brk | cont | ret (v : Vl) | err (e : Ex)
abbrev RS := Option (Fl × Env × Store)
/-- a while: the step says: again, or the end -/
inductive Stp where
  | again (ρ : Env) (st : Store) | stop (f : Fl) (ρ : Env) (st : Store)
def loopF (step : Env → Store → Option Stp) : Nat → Env → Store → RS
  | 0, _, _ => none
  | n + 1, ρ, st => match step ρ st with
    | none => none
    | some (.again ρ1 st1) => loopF step n ρ1 st1
    | some (.stop f ρ1 st1) => some (f, ρ1, st1)
open Classical in
noncomputable def loopM (step : Env → Store → Option Stp) (ρ : Env) (st : Store) : RS :=
  if h : ∃ n r, loopF step n ρ st = some r then some (Classical.choose (Classical.choose_spec h)) else none
theorem loopF_mono {step : Env → Store → Option Stp} : ∀ {n : Nat} {ρ : Env} {st : Store} {r : Fl × Env × Store}, loopF step n ρ st = some r → loopF step (n + 1) ρ st = some r
  | 0, _, _, _, h => by cases h
  | n + 1, ρ, st, r, h => by
    unfold loopF at h ⊢
    cases e : step ρ st with
    | none => rw [e] at h; cases h
    | some p =>
      rw [e] at h
      cases p with
      | again ρ1 st1 => exact loopF_mono h
      | stop f ρ1 st1 => exact h
theorem loopF_le {step : Env → Store → Option Stp} {n m : Nat} {ρ : Env} {st : Store} {r : Fl × Env × Store} (h : loopF step n ρ st = some r) (hm : n ≤ m) : loopF step m ρ st = some r := by
  induction hm with
  | refl => exact h
  | step _ ih => exact loopF_mono ih
theorem loopM_of {step : Env → Store → Option Stp} {n : Nat} {ρ : Env} {st : Store} {r : Fl × Env × Store} (h : loopF step n ρ st = some r) : loopM step ρ st = some r := by
  have hx : ∃ n r, loopF step n ρ st = some r := ⟨n, r, h⟩
  unfold loopM
  rw [dif_pos hx]
  have h2 := Classical.choose_spec (Classical.choose_spec hx)
  have a1 := loopF_le h (Nat.le_max_left n (Classical.choose hx))
  have a2 := loopF_le h2 (Nat.le_max_right n (Classical.choose hx))
  rw [a1] at a2
  exact a2.symm
theorem loopM_some {step : Env → Store → Option Stp} {ρ : Env} {st : Store} {r : Fl × Env × Store} (h : loopM step ρ st = some r) : ∃ n, loopF step n ρ st = some r := by
  unfold loopM at h
  by_cases hx : ∃ n r, loopF step n ρ st = some r
  · rw [dif_pos hx] at h
    have h2 := Classical.choose_spec (Classical.choose_spec hx)
    rw [Option.some.inj h] at h2
    exact ⟨_, h2⟩
  · rw [dif_neg hx] at h
    cases h
theorem loopM_again {step : Env → Store → Option Stp} {ρ ρ1 : Env} {st st1 : Store} {r : Fl × Env × Store} (h : step ρ st = some (.again ρ1 st1)) (h2 : loopM step ρ1 st1 = some r) : loopM step ρ st = some r := by
  obtain ⟨n, e⟩ := loopM_some h2
  exact loopM_of (n := n + 1) (by unfold loopF; rw [h]; exact e)
theorem loopM_stop {step : Env → Store → Option Stp} {ρ ρ1 : Env} {st st1 : Store} {f : Fl} (h : step ρ st = some (.stop f ρ1 st1)) : loopM step ρ st = some (f, ρ1, st1) :=
  loopM_of (n := 1) (by unfold loopF; rw [h])

def enumV : Nat → List D → List Vl
  | _, [] => []
  | k, d :: r => .d (.tup [.int k, d]) :: enumV (k + 1) r
/-- the items that a for walks: data, or a located list (which may not change) -/
inductive Its where
  | vs (vs : List Vl) | at_ (n : Nat) (vs : List Vl) | en (n : Nat) (us : List Vl) (ds : List D)
def Its.items : Its → List Vl
  | .vs us => us
  | .at_ _ us => us
  | .en _ _ ds => enumV 0 ds
/-- the located list still stands as it was -/
def Its.still (s : Its) (st : Store) : Prop := match s with
  | .vs _ => True
  | .at_ n us => st[n]? = some (.lst us)
  | .en n us _ => st[n]? = some (.lst us)
open Classical in
/-- a for: body at (item, ρ, st) -/
noncomputable def forF (s : Its) (body : Vl → Env → Store → RS) : List Vl → Env → Store → RS
  | [], ρ, st => if s.still st then some (.next, ρ, st) else none
  | v :: r, ρ, st => if s.still st then (match body v ρ st with
    | none => none
    | some (.next, ρ1, st1) => forF s body r ρ1 st1
    | some (.cont, ρ1, st1) => forF s body r ρ1 st1
    | some (.brk, ρ1, st1) => some (.next, ρ1, st1)
    | some (f, ρ1, st1) => some (f, ρ1, st1)) else none
open Classical in
/-- a comprehension: elt at (item, st): some value, or none where a test fails -/
noncomputable def cmpF (s : Its) (elt : Vl → Store → Rs (Option Vl)) : List Vl → Store → Rs (List Vl)
  | [], st => if s.still st then some (.ok [], st) else none
  | v :: r, st => if s.still st then bnd (elt v st) (fun o st1 => bnd (cmpF s elt r st1) (fun vs st2 => some (.ok (match o with | some x => x :: vs | none => vs), st2))) else none
open Classical in
noncomputable def cmpFF (s : Its) (elt : Vl → Store → Rs (List Vl)) : List Vl → Store → Rs (List Vl)
  | [], st => if s.still st then some (.ok [], st) else none
  | v :: r, st => if s.still st then bnd (elt v st) (fun o st1 => bnd (cmpFF s elt r st1) (fun vs st2 => some (.ok (o ++ vs), st2))) else none
def rng (lo : Int) (n : Nat) : List Vl := (List.range n).map fun (k : Nat) => Vl.d (D.int (lo + (k : Int)))
def smallI (i : Int) : Bool := decide (-(2 ^ 62) ≤ i ∧ i < 2 ^ 62)
def seqIts (st : Store) : Vl → Option Its
  | .d (.lst ds) => some (.vs (ds.map .d))
  | .d (.tup ds) => some (.vs (ds.map .d))
  | .d (.str z) => if z.length ≤ SZ then some (.vs (z.cps.toList.map fun c => .d (.str ⟨#[c]⟩))) else none
  | .loc n => match st[n]? with
    | some (.lst vs) => some (.at_ n vs)
    | _ => none
  | _ => none
def enumIts (st : Store) (v : Vl) : Option Its := match v with
  | .d (.lst ds) => some (.vs (enumV 0 ds))
  | .d (.tup ds) => some (.vs (enumV 0 ds))
  | .loc n => match st[n]? with
    | some (.lst us) => match dats us with
      | some ds => some (.en n us ds)
      | none => none
    | _ => none
  | _ => none

/-- how a term is asked: its value; its value, lists located; its truth -/
inductive Md where | v | l | t
  deriving DecidableEq
def Md.isL : Md → Bool
  | .l => true
  | _ => false
/-- behind a term that knows no truth of its own -/
def fin (q : Md) (r : Rs Vl) : Rs Vl := match q with
  | .t => bnd r fun x st => match truthV st x with
    | some k => ret1 (.bl k) st
    | none => none
  | _ => r
def bndB {β : Type} (m : Rs Vl) (k : Bool → Store → Rs β) : Rs β := bnd m fun x st => match x with
  | .d (.bl c) => k c st
  | _ => none
/-- behind a comparison -/
def finB (q : Md) (r : Rs Vl) : Rs Vl := match q with
  | .t => bndB r fun c st => ret1 (.bl c) st
  | _ => r
/-- a comprehension's own slots forgotten -/
def wipeE (ρ : Env) : List Nat → Env
  | [] => ρ
  | i :: is => (wipeE ρ is).set i none
mutual
noncomputable def evT (G : Cfg) : T → Md → Env → Store → Rs Vl
  | .con d, q, ρ, st => fin q (ret1 d st)
  | .var i, q, ρ, st => fin q (match ρ[i]? with
    | some (some v) => some (.ok v, st)
    | _ => none)
  | .glo x, q, ρ, st => fin q (match G.glob x with
    | some d => ret1 d st
    | none => none)
  | .bin o a b, q, ρ, st => fin q (bnd (evT G a .v ρ st) fun x st1 => bnd (evT G b .v ρ st1) fun y st2 => binV G q.isL o x y st2)
  | .neg a, q, ρ, st => fin q (bnd (evT G a .v ρ st) fun x st1 => match x with
    | .d (.int i) => ret1 (.int (-i)) st1
    | _ => none)
  | .not a, q, ρ, st => match q with
    | .t => bndB (evT G a .t ρ st) fun c st1 => ret1 (.bl (!c)) st1
    | _ => bnd (evT G a .v ρ st) fun x st1 => match truthV st1 x with
      | some c => ret1 (.bl (!c)) st1
      | none => none
  | .band a b, q, ρ, st => match q with
    | .t => bndB (evT G a .t ρ st) fun c st1 => match c with
      | true => evT G b .t ρ st1
      | false => ret1 (.bl false) st1
    | q => bnd (evT G a q ρ st) fun x st1 => match truthV st1 x with
      | some true => evT G b q ρ st1
      | some false => some (.ok x, st1)
      | none => none
  | .bor a b, q, ρ, st => match q with
    | .t => bndB (evT G a .t ρ st) fun c st1 => match c with
      | true => ret1 (.bl true) st1
      | false => evT G b .t ρ st1
    | q => bnd (evT G a q ρ st) fun x st1 => match truthV st1 x with
      | some true => some (.ok x, st1)
      | some false => evT G b q ρ st1
      | none => none
  | .cmp o a b, q, ρ, st => finB q (bnd (evT G a .v ρ st) fun x st1 => bnd (evT G b .v ρ st1) fun y st2 => cmpV G o x y st2)
  | .chain o p a b c, q, ρ, st => finB q (bnd (evT G a .v ρ st) fun x st1 => bnd (evT G b .v ρ st1) fun y st2 => bndB (cmpV G o x y st2) fun z st3 => match z with
    | true => bnd (evT G c .v ρ st3) fun w st4 => cmpV G p y w st4
    | false => ret1 (.bl false) st3)
  | .ite c a b, q, ρ, st => bndB (evT G c .t ρ st) fun k st1 => match k with
    | true => evT G a q ρ st1
    | false => evT G b q ρ st1
  | .tup ts, q, ρ, st => fin q (bnd (evTs G ts ρ st) fun vs st1 => match embs st1 vs with
    | some (ds, st2) => if ds.length ≤ SZ then ret1 (.tup ds) st2 else none
    | none => none)
  | .lst ts, q, ρ, st => fin q (bnd (evTs G ts ρ st) fun vs st1 => mkList q.isL vs st1)
  | .dict0, q, ρ, st => fin q (some (.ok (.loc st.length), st ++ [.dct []]))
  | .ix a i, q, ρ, st => fin q (bnd (evT G a .v ρ st) fun x st1 => bnd (evT G i .v ρ st1) fun y st2 => ixV x y st2)
  | .slc a lo hi, q, ρ, st => fin q (bnd (evT G a .v ρ st) fun x st1 => bnd (evO G lo ρ st1) fun l st2 => bnd (evO G hi ρ st2) fun h st3 => slcV q.isL x l h st3)
  | .rev a, q, ρ, st => fin q (bnd (evT G a .v ρ st) fun x st1 => match peek st1 x with
    | some (.lst ds) => mkList q.isL (ds.reverse.map .d) st1
    | _ => none)
  | .fld a f, q, ρ, st => fin q (bnd (evT G a .v ρ st) fun x st1 => fldV G x f st1)
  | .call f ts, q, ρ, st => fin q (bnd (evTs G ts ρ st) fun vs st1 => G.call f vs st1)
  | .bi f ts, q, ρ, st => fin q (bnd (evTs G ts ρ st) fun vs st1 => biV q.isL f vs st1)
  | .isin a c, q, ρ, st => fin q (bnd (evT G a .v ρ st) fun x st1 => match isV G st1 c x with
    | some b => ret1 (.bl b) st1
    | none => none)
  | .meth a f ts, q, ρ, st => fin q (bnd (evT G a .v ρ st) fun x st1 => match rcv G f st1 x with
    | some (.own C) => bnd (evTs G ts ρ st1) fun vs st2 => callM G C f (x :: vs) st2
    | some .str => bnd (evTs G ts ρ st1) fun vs st2 => methV q.isL x f vs st2
    | some .lst => bnd (evTs G ts ρ st1) fun vs st2 => methV q.isL x f vs st2
    | none => none)
  | .comp own e g it fs, q, ρ, st => fin q (bnd (evI G it ρ st) fun s st1 => bnd (noErr (cmpF s (fun v st2 => match stG G g v (wipeE ρ own) st2 with
      | some (ρ1, st3) => bndB (evF G fs ρ1 st3) fun c st4 => match c with
        | true => bnd (evT G e .v ρ1 st4) fun x st5 => some (.ok (some x), st5)
        | false => some (.ok none, st4)
      | none => none) s.items st1)) fun vs st2 => mkList q.isL vs st2)
  | .comp2 own own2 e g it fs g2 it2 fs2, q, ρ, st => fin q (bnd (evI G it ρ st) fun s st1 => bnd (noErr (cmpFF s (fun v st2 => match stG G g v (wipeE ρ own) st2 with
      | some (ρ1, st3) => bndB (evF G fs ρ1 st3) fun c st4 => match c with
        | true => bnd (evI G it2 ρ1 st4) fun s2 st5 => cmpF s2 (fun v2 st6 => match stG G g2 v2 (wipeE ρ1 own2) st6 with
          | some (ρ2, st7) => bndB (evF G fs2 ρ2 st7) fun c st8 => match c with
            | true => bnd (evT G e .v ρ2 st8) fun x st9 => some (.ok (some x), st9)
            | false => some (.ok none, st8)
          | none => none) s2.items st5
        | false => some (.ok [], st4)
      | none => none) s.items st1)) fun vs st2 => mkList q.isL vs st2)
  | .loc t, q, ρ, st => fin q (evT G t .l ρ st)
noncomputable def evTs (G : Cfg) : Ts → Env → Store → Rs (List Vl)
  | .nil, ρ, st => some (.ok [], st)
  | .cons t r, ρ, st => bnd (evT G t .v ρ st) fun x st1 => bnd (evTs G r ρ st1) fun xs st2 => some (.ok (x :: xs), st2)
noncomputable def evO (G : Cfg) : To → Env → Store → Rs (Option Int)
  | .none, ρ, st => some (.ok none, st)
  | .some t, ρ, st => bnd (evT G t .v ρ st) fun x st1 => match x with
    | .d (.int i) => some (.ok (some i), st1)
    | _ => none
/-- a comprehension's tests -/
noncomputable def evF (G : Cfg) : Ts → Env → Store → Rs Vl
  | .nil, ρ, st => ret1 (.bl true) st
  | .cons t r, ρ, st => bndB (evT G t .t ρ st) fun c st1 => match c with
    | true => evF G r ρ st1
    | false => ret1 (.bl false) st1
noncomputable def evI (G : Cfg) : It → Env → Store → Rs Its
  | .seq t, ρ, st => bnd (evT G t .v ρ st) fun x st1 => match seqIts st1 x with
    | some s => some (.ok s, st1)
    | none => none
  | .enu t, ρ, st => bnd (evT G t .v ρ st) fun x st1 => match enumIts st1 x with
    | some s => some (.ok s, st1)
    | none => none
  | .rng1 a, ρ, st => bnd (evT G a .v ρ st) fun x st1 => match asInt x with
    | some n => if smallI n then some (.ok (.vs (rng 0 n.toNat)), st1) else none
    | none => none
  | .rng2 a b, ρ, st => bnd (evT G a .v ρ st) fun x st1 => bnd (evT G b .v ρ st1) fun y st2 => match asInt x, asInt y with
    | some i, some j => if smallI i && smallI j then some (.ok (.vs (rng i (j - i).toNat)), st2) else none
    | _, _ => none
/-- a store into a target -/
noncomputable def stG (G : Cfg) : Tg → Vl → Env → Store → Option (Env × Store)
  | .nm i, v, ρ, st => some (ρ.set i (some v), st)
  | .tp gs, v, ρ, st => match v with
    | .d (.tup ds) => stGs G gs (ds.map .d) ρ st
    | _ => none
  | .ix a i, v, ρ, st => match evT G a .v ρ st with
    | some (.ok (.loc n), st1) => match evT G i .v ρ st1 with
      | some (.ok (.d k), st2) => match st2[n]? with
        | some (.lst xs) => match k with
          | .int k => match ixN xs.length k with
            | some j => if okv v then some (ρ, st2.set n (.lst (xs.set j v))) else none
            | none => none
          | _ => none
        | some (.dct kvs) => if k.scal && okv v && decide (kvs.length < SZ) then some (ρ, st2.set n (.dct (dput kvs k v))) else none
        | _ => none
      | _ => none
    | _ => none
noncomputable def stGs (G : Cfg) : Tgs → List Vl → Env → Store → Option (Env × Store)
  | .nil, vs, ρ, st => match vs with
    | [] => some (ρ, st)
    | _ :: _ => none
  | .cons g r, vs, ρ, st => match vs with
    | v :: vs => match stG G g v ρ st with
      | some (ρ1, st1) => stGs G r vs ρ1 st1
      | none => none
    | [] => none
end
/-- an exception's fields, from the arguments of its class -/
def setAll (ρ : Env) : List Nat → List Vl → Env
  | i :: is, v :: vs => setAll (ρ.set i (some v)) is vs
  | _, _ => ρ
/-- the augmented operators: + and - -/
def augI (o : Bop) (a b : Int) : Int := match o with
  | .add => a + b
  | _ => a - b
def bndS {α : Type} (m : Rs α) (ρ : Env) (k : α → Store → RS) : RS := match m with
  | some (.ok a, st) => k a st
  | some (.err e, st) => some (.err e, ρ, st)
  | none => none
/-- behind a while's body -/
def turnW (r : RS) : Option Stp := match r with
  | some (.next, ρ1, st2) => some (.again ρ1 st2)
  | some (.cont, ρ1, st2) => some (.again ρ1 st2)
  | some (.brk, ρ1, st2) => some (.stop .next ρ1 st2)
  | some (.ret v, ρ1, st2) => some (.stop (.ret v) ρ1 st2)
  | some (.err e, ρ1, st2) => some (.stop (.err e) ρ1 st2)
  | none => none
def stepW (m : Rs Vl) (ρ : Env) (k : Store → RS) : Option Stp := match m with
  | some (.ok x, st1) => match x with
    | .d (.bl true) => turnW (k st1)
    | .d (.bl false) => some (.stop .next ρ st1)
    | _ => none
  | some (.err e, st1) => some (.stop (.err e) ρ st1)
  | none => none
mutual
noncomputable def evS (G : Cfg) (exF : String → List String) : S → Env → Store → RS
  | .ex t, ρ, st => bndS (evT G t .v ρ st) ρ fun _ st1 => some (.next, ρ, st1)
  | .asg g t, ρ, st => bndS (evT G t .v ρ st) ρ fun v st1 => match stG G g v ρ st1 with
    | some (ρ1, st2) => some (.next, ρ1, st2)
    | none => none
  | .fset a f t, ρ, st => bndS (evT G t .v ρ st) ρ fun v st1 => bndS (evT G a .v ρ st1) ρ fun x st2 => match x with
    | .loc n => match st2[n]? with
      | some (.ins C fs) => if okv v && decide (fs.length < 900) && decide (G.prop C f = some none) then some (.next, ρ, st2.set n (.ins C (putF f v fs))) else none
      | _ => none
    | _ => none
  | .par is ts, ρ, st => bndS (evTs G ts ρ st) ρ fun vs st1 => if vs.length = is.length then some (.next, setAll ρ is vs, st1) else none
  | .aug i o t, ρ, st => match ρ[i]? with
    | some (some (.d (.int a))) => bndS (evT G t .v ρ st) ρ fun y st1 => match y with
      | .d (.int b) => some (.next, ρ.set i (some (.d (.int (augI o a b)))), st1)
      | _ => none
    | _ => none
  | .ret t, ρ, st => bndS (evT G t .v ρ st) ρ fun v st1 => some (.ret v, ρ, st1)
  | .retN, ρ, st => some (.ret (.d .non), ρ, st)
  | .ite c a b, ρ, st => bndS (evT G c .t ρ st) ρ fun x st1 => match x with
    | .d (.bl true) => evSs G exF a ρ st1
    | .d (.bl false) => evSs G exF b ρ st1
    | _ => none
  | .for_ g it b, ρ, st => bndS (evI G it ρ st) ρ fun s st1 => forF s (fun v ρ1 st2 => match stG G g v ρ1 st2 with
      | some (ρ2, st3) => evSs G exF b ρ2 st3
      | none => none) s.items ρ st1
  | .whl c b, ρ, st => loopM (fun ρ st => stepW (evT G c .t ρ st) ρ fun st1 => evSs G exF b ρ st1) ρ st
  | .raise C ts, ρ, st => match evTs G ts ρ st with
    | some (.ok vs, st1) => match embs st1 vs with
      | some (ds, st2) => if (exF C).length = ds.length then some (.err ⟨C, (exF C).zip ds⟩, ρ, st2) else none
      | none => none
    | some (.err e, st1) => some (.err e, ρ, st1)
    | none => none
  | .try_ b hs, ρ, st => match evSs G exF b ρ st with
    | some (.err e, ρ1, st1) => evHs G exF hs e ρ1 st1
    | r => r
  | .brk, ρ, st => some (.brk, ρ, st)
  | .cont, ρ, st => some (.cont, ρ, st)
  | .pass, ρ, st => some (.next, ρ, st)
  | .stuck, ρ, st => none
noncomputable def evSs (G : Cfg) (exF : String → List String) : Ss → Env → Store → RS
  | .nil, ρ, st => some (.next, ρ, st)
  | .cons s r, ρ, st => match evS G exF s ρ st with
    | some (.next, ρ1, st1) => evSs G exF r ρ1 st1
    | r => r
noncomputable def evHs (G : Cfg) (exF : String → List String) : Hs → Ex → Env → Store → RS
  | .nil, e, ρ, st => some (.err e, ρ, st)
  | .cons c i b r, e, ρ, st => if e.cls = c then (match evSs G exF b (ρ.set i (some (.exc e))) st with
    | some (f, ρ1, st1) => some (f, ρ1.set i none, st1)
    | none => none) else evHs G exF r e ρ st
end

structure Fn where
  np : Nat
  nn : Nat
  dfl : List D := []
  body : Ss
  keep : Bool := false
  rloc : Bool := false
structure Pg where
  fns : List (String × Fn)
  meths : List ((String × String) × String)
  props : List ((String × String) × Option String)
  globs : List (String × D)
  exFs : List (String × List String)
  /-- the own classes; those whose objects are data once they are made -/
  clss : List String
  frzs : List String
  /-- the defs that are called by their names -/
  gfs : List String
def Pg.fn (P : Pg) (f : String) : Option Fn := P.fns.lookup f
def Pg.glob (P : Pg) (f : String) : Option D := P.globs.lookup f
def Pg.meth (P : Pg) (C f : String) : Option String := P.meths.lookup (C, f)
def Pg.prop (P : Pg) (C f : String) : Option (Option String) := P.props.lookup (C, f)
def Pg.exF (P : Pg) (C : String) : List String := (P.exFs.lookup C).getD []
def Pg.cls (P : Pg) (C : String) : Bool := P.clss.contains C
def Pg.frz (P : Pg) (C : String) : Bool := P.frzs.contains C
def Pg.gf (P : Pg) (C : String) : Bool := P.gfs.contains C
def Pg.cfg (P : Pg) (call : Fns) : Cfg := ⟨call, P.glob, P.prop, P.meth, P.cls⟩
open Classical in
/-- a frame's end: the entry's store stands as it was (or the frame keeps what it has done) -/
noncomputable def shut (f : Fn) (st st1 : Store) : Option Store := if f.keep then some st1 else if st1.take st.length = st then some st else none
noncomputable def leave (f : Fn) (st : Store) (fl : Fl) (st1 : Store) : Rs Vl := match shut f st st1 with
  | none => none
  | some st2 => match fl with
    | .next => some (.ok (.d .non), st2)
    | .err e => some (.err e, st2)
    | .ret v => match v with
      | .d d => some (.ok (.d d), st2)
      | .loc k => if f.keep then some (.ok (.loc k), st1) else if k < st.length then some (.ok (.loc k), st2) else (match st1[k]? with
        | some o => match o.toD with
          | some d => if f.rloc then some (.ok (.loc st.length), st2 ++ [o]) else some (.ok (.d d), st2)
          | none => none
        | none => none)
      | .exc _ => none
    | _ => none
noncomputable def runFn (P : Pg) (call : Fns) (f : Fn) (args : List Vl) (st : Store) : Rs Vl :=
  let as := args ++ (f.dfl.drop (args.length + f.dfl.length - f.np)).map Vl.d
  if as.length = f.np then (match evSs (P.cfg call) P.exF f.body (as.map some ++ List.replicate (f.nn - f.np) none) st with
    | some (fl, _, st1) => leave f st fl st1
    | none => none) else none
open Classical in
/-- a def's or a class's answer, calls at most n deep -/
noncomputable def ev (P : Pg) : Nat → Fns
  | 0, _, _, _ => none
  | n + 1, f, args, st => if P.cls f then (match (P.meth f "__init__").bind P.fn with
      | some g => match runFn P (ev P n) g (.loc st.length :: args) (st ++ [.ins f []]) with
        | some (.ok (.d .non), st1) => if P.frz f then (match st1[st.length]? with
            | some o => match o.toD with
              | some d => if st1.take st.length = st then some (.ok (.d d), st) else none
              | none => none
            | none => none) else some (.ok (.loc st.length), st1)
        | some (.err e, st1) => if st1.take st.length = st then some (.err e, st) else none
        | _ => none
      | none => none)
    else (match P.fn f with
      | some g => runFn P (ev P n) g args st
      | none => none)
abbrev S! (x : String) : Str := Str.ofString x
def tabG (tabs : List (String × List (Str × Int))) : List (String × D) := tabs.map fun e => (e.1, .dct (e.2.map fun p => (.str p.1, .int p.2)))
end SP

end

section
set_option maxHeartbeats 1000000
namespace SP
open PySem

class HFn (P : Pg) (f : String) (g : outParam Fn) : Prop where
  fn : P.fn f = some g
  cls : P.cls f = false
class HsC (P : Pg) (C : String) (h : outParam String) (g : outParam Fn) (z : outParam Bool) : Prop where
  cls : P.cls C = true
  ini : P.meth C "__init__" = some h
  fn : P.fn h = some g
  frz : P.frz C = z
class HsG (P : Pg) (x : String) (d : outParam D) : Prop where
  eq : P.glob x = some d
class HsM (P : Pg) (C m : String) (h : outParam String) : Prop where
  eq : P.meth C m = some h
class HsP (P : Pg) (C f : String) (o : outParam (Option String)) : Prop where
  eq : P.prop C f = some o
class HsK (P : Pg) (C : String) (b : outParam Bool) : Prop where
  eq : P.cls C = b
section
variable {P : Pg} {n : Nat}
theorem ev_fn {f : String} {g : Fn} [h : HFn P f g] (args : List Vl) (st : Store) : ev P (n + 1) f args st = runFn P (ev P n) g args st := by
  conv => lhs; unfold ev
  rw [h.cls, h.fn]
  rfl
theorem glob_eq {x : String} {d : D} [h : HsG P x d] : P.glob x = some d := h.eq
theorem meth_eq {C m h' : String} [h : HsM P C m h'] : P.meth C m = some h' := h.eq
theorem prop_eq {C m : String} {o : Option String} [h : HsP P C m o] : P.prop C m = some o := h.eq
theorem cls_eq {C : String} {o : Bool} [h : HsK P C o] : P.cls C = o := h.eq
theorem ev_fn2 {f : String} {g : Fn} (hc : P.cls f = false) (hf : P.fn f = some g) (args : List Vl) (st : Store) : ev P (n + 1) f args st = runFn P (ev P n) g args st := by
  conv => lhs; unfold ev
  rw [hc, hf]
  rfl
theorem ev_cls {C f : String} {g : Fn} (args : List Vl) (st : Store) [h : HsC P C f g true] {o : MO} {d : D} {st2 : Store} (e : runFn P (ev P n) g (.loc st.length :: args) (st ++ [.ins C []]) = some (.ok (.d .non), st ++ o :: st2)) (eo : o.toD = some d) :
    ev P (n + 1) C args st = some (.ok (.d d), st) := by
  unfold ev
  rw [h.cls, h.ini, h.frz]
  dsimp only [if_true, Option.bind_some]
  rw [if_pos rfl, h.fn]
  dsimp only
  rw [e]
  dsimp only
  rw [if_pos rfl, show (st ++ o :: st2)[st.length]? = some o by simp]
  dsimp only
  rw [eo]
  dsimp only
  rw [if_pos (by simp)]
end
section
variable {α β : Type}
theorem bnd_ok (a : α) (st : Store) (k : α → Store → Rs β) : bnd (some (.ok a, st)) k = k a st := rfl
theorem bnd_err (e : Ex) (st : Store) (k : α → Store → Rs β) : bnd (some (.err e, st)) k = some (.err e, st) := rfl
theorem bnd_none (k : α → Store → Rs β) : bnd (none : Rs α) k = none := rfl
theorem bndB_ok (b : Bool) (st : Store) (k : Bool → Store → Rs β) : bndB (some (.ok (.d (.bl b)), st)) k = k b st := rfl
theorem bndS_ok (a : α) (st : Store) (ρ : Env) (k : α → Store → RS) : bndS (some (.ok a, st)) ρ k = k a st := rfl
theorem bndS_err (e : Ex) (st : Store) (ρ : Env) (k : α → Store → RS) : bndS (some (.err e, st)) ρ k = some (.err e, ρ, st) := rfl
theorem noErr_ok (a : α) (st : Store) : noErr (some (.ok a, st)) = some (.ok a, st) := rfl
theorem finv (r : Rs Vl) : fin .v r = r := rfl
theorem fin_l (r : Rs Vl) : fin .l r = r := rfl
theorem fin_t (x : Vl) (st : Store) : fin .t (some (.ok x, st)) = match truthV st x with
    | some k => ret1 (.bl k) st
    | none => none := rfl
theorem finBv (r : Rs Vl) : finB .v r = r := rfl
theorem finB_l (r : Rs Vl) : finB .l r = r := rfl
theorem finB_t (b : Bool) (st : Store) : finB .t (some (.ok (.d (.bl b)), st)) = some (.ok (.d (.bl b)), st) := rfl
theorem g0 (a : α) (l : List α) : (a :: l)[0]? = some a := rfl
theorem gS (a : α) (l : List α) (n : Nat) : (a :: l)[n + 1]? = l[n]? := rfl
theorem s0 (a b : α) (l : List α) : (a :: l).set 0 b = b :: l := rfl
theorem sS (a b : α) (l : List α) (n : Nat) : (a :: l).set (n + 1) b = a :: l.set n b := rfl
theorem gA0 (R : List α) (a : α) (l : List α) : (R ++ a :: l)[R.length]? = some a := by simp
theorem gA (R : List α) (l : List α) (n : Nat) : (R ++ l)[R.length + n]? = l[n]? := by
  rw [List.getElem?_append_right (by omega), Nat.add_sub_cancel_left]
theorem sA0 (R : List α) (a b : α) (l : List α) : (R ++ a :: l).set R.length b = R ++ b :: l := by simp
theorem sA (R : List α) (b : α) (l : List α) (n : Nat) : (R ++ l).set (R.length + n) b = R ++ l.set n b := by
  rw [List.set_append_right _ _ (by omega), Nat.add_sub_cancel_left]
theorem take_A (R l : List α) : (R ++ l).take R.length = R := by simp
end
theorem forF_rule {s : Its} {body : Vl → Env → Store → RS} {Q : Fl × Env × Store → Prop} (I : List Vl → Env → Store → Prop)
    (step : ∀ v r ρ st, I (v :: r) ρ st → s.still st ∧ ((∃ ρ1 st1, (body v ρ st = some (.next, ρ1, st1) ∨ body v ρ st = some (.cont, ρ1, st1)) ∧ I r ρ1 st1) ∨ (∃ ρ1 st1, body v ρ st = some (.brk, ρ1, st1) ∧ Q (.next, ρ1, st1)) ∨ (∃ x ρ1 st1, body v ρ st = some (.ret x, ρ1, st1) ∧ Q (.ret x, ρ1, st1)) ∨ (∃ x ρ1 st1, body v ρ st = some (.err x, ρ1, st1) ∧ Q (.err x, ρ1, st1))))
    (nil : ∀ ρ st, I [] ρ st → s.still st ∧ Q (.next, ρ, st)) : ∀ vs ρ st, I vs ρ st → ∃ r, forF s body vs ρ st = some r ∧ Q r := by
  intro vs
  induction vs with
  | nil =>
    intro ρ st h
    obtain ⟨h1, h2⟩ := nil ρ st h
    exact ⟨_, by unfold forF; rw [if_pos h1], h2⟩
  | cons v r ih =>
    intro ρ st h
    obtain ⟨h1, h2⟩ := step v r ρ st h
    unfold forF
    rw [if_pos h1]
    rcases h2 with ⟨ρ1, st1, e, h3⟩ | ⟨ρ1, st1, e, q⟩ | ⟨x, ρ1, st1, e, q⟩ | ⟨x, ρ1, st1, e, q⟩
    · obtain ⟨r', e', q⟩ := ih ρ1 st1 h3
      rcases e with e | e <;> rw [e] <;> exact ⟨r', e', q⟩
    · rw [e]; exact ⟨_, rfl, q⟩
    · rw [e]; exact ⟨_, rfl, q⟩
    · rw [e]; exact ⟨_, rfl, q⟩
/-- a for that runs to its end: n the turns gone -/
theorem forF_inv {s : Its} {body : Vl → Env → Store → RS} (I : Nat → Env → Store → Prop) {vs : List Vl} {ρ : Env} {st : Store} (h0 : I 0 ρ st)
    (step : ∀ n v ρ st, vs[n]? = some v → I n ρ st → ∃ ρ1 st1, body v ρ st = some (.next, ρ1, st1) ∧ I (n + 1) ρ1 st1)
    (hs : ∀ n ρ st, n ≤ vs.length → I n ρ st → s.still st) : ∃ ρ1 st1, forF s body vs ρ st = some (.next, ρ1, st1) ∧ I vs.length ρ1 st1 := by
  suffices H : ∀ (k : Nat) (ρ : Env) (st : Store), k ≤ vs.length → I k ρ st → ∃ ρ1 st1, forF s body (vs.drop k) ρ st = some (.next, ρ1, st1) ∧ I vs.length ρ1 st1 from H 0 ρ st (Nat.zero_le _) h0
  intro k
  induction hk : vs.length - k generalizing k with
  | zero =>
    intro ρ st hle h
    have : k = vs.length := by omega
    subst this
    rw [List.drop_length]
    exact ⟨ρ, st, by unfold forF; rw [if_pos (hs _ _ _ (Nat.le_refl _) h)], h⟩
  | succ m ih =>
    intro ρ st hle h
    have hlt : k < vs.length := by omega
    rw [List.drop_eq_getElem_cons hlt]
    obtain ⟨ρ1, st1, e, h1⟩ := step k _ ρ st (List.getElem?_eq_getElem hlt) h
    obtain ⟨ρ2, st2, e2, h2⟩ := ih (k + 1) (by omega) ρ1 st1 (by omega) h1
    refine ⟨ρ2, st2, ?_, h2⟩
    unfold forF
    rw [if_pos (hs _ _ _ hle h), e]
    exact e2
theorem cmpF_map {s : Its} {elt : Vl → Store → Rs (Option Vl)} (f : Vl → Option Vl) {vs : List Vl} {st : Store} (hs : s.still st) (h : ∀ v ∈ vs, elt v st = some (.ok (f v), st)) : cmpF s elt vs st = some (.ok (vs.filterMap f), st) := by
  induction vs with
  | nil => unfold cmpF; rw [if_pos hs]; rfl
  | cons v r ih =>
    unfold cmpF
    rw [if_pos hs, h v List.mem_cons_self, bnd_ok, ih fun w hw => h w (List.mem_cons_of_mem _ hw), bnd_ok, List.filterMap_cons]
    cases f v <;> rfl
theorem cmpF_inv {s : Its} {elt : Vl → Store → Rs (Option Vl)} (I : Store → Prop) (Qv : Vl → Prop) {vs : List Vl} (hs : ∀ st, I st → s.still st) (h : ∀ v st, v ∈ vs → I st → ∃ w st1, elt v st = some (.ok (some w), st1) ∧ Qv w ∧ I st1) :
    ∀ st, I st → ∃ ws st1, cmpF s elt vs st = some (.ok ws, st1) ∧ ws.length = vs.length ∧ (∀ w ∈ ws, Qv w) ∧ I st1 := by
  induction vs with
  | nil => intro st h0; exact ⟨[], st, by unfold cmpF; rw [if_pos (hs _ h0)], rfl, (fun w hw => by cases hw), h0⟩
  | cons v r ih =>
    intro st h0
    obtain ⟨w, st1, e1, q1, i1⟩ := h v st List.mem_cons_self h0
    obtain ⟨ws, st2, e2, l2, q2, i2⟩ := ih (fun w st hw => h w st (List.mem_cons_of_mem _ hw)) st1 i1
    refine ⟨w :: ws, st2, ?_, by simp [l2], ?_, i2⟩
    · unfold cmpF
      rw [if_pos (hs _ h0), e1, bnd_ok, e2, bnd_ok]
    · intro x hx
      rcases List.mem_cons.mp hx with rfl | hx
      · exact q1
      · exact q2 x hx
section
variable {G : Cfg} {X : String → List String} {q : Md} {ρ : Env} {st st1 : Store}
def kTr (o : Option Bool) (st : Store) : Rs Vl := match o with
  | some k => ret1 (.bl k) st
  | none => none
theorem kTr_ok (b : Bool) : kTr (some b) st = some (.ok (.d (.bl b)), st) := rfl
theorem fin_t' (x : Vl) : fin .t (some (.ok x, st)) = kTr (truthV st x) st := rfl
theorem fin_tE (e : Ex) : fin .t (some (.err e, st)) = some (.err e, st) := rfl
theorem tr_bl (b : Bool) : truthV st (.d (.bl b)) = some b := rfl
theorem tr_int (i : Int) : truthV st (.d (.int i)) = some (decide (i ≠ 0)) := rfl
theorem tr_non : truthV st (.d .non) = some false := rfl
theorem tr_lst (ds : List D) : truthV st (.d (.lst ds)) = some (decide (ds.length ≠ 0)) := rfl
theorem tr_tup (ds : List D) : truthV st (.d (.tup ds)) = some (decide (ds.length ≠ 0)) := rfl
theorem tr_str {x : Str} (h : x.length ≤ 16777216) : truthV st (.d (.str x)) = some (decide (x.length ≠ 0)) := by
  unfold truthV D.truth; dsimp only; rw [if_pos h]
def kTrL (o : Option MO) : Option Bool := match o with
    | some (.lst xs) => some (decide (xs.length ≠ 0))
    | some (.dct kvs) => some (decide (kvs.length ≠ 0))
    | _ => none
theorem tr_loc (n : Nat) : truthV st (.loc n) = kTrL st[n]? := rfl
theorem kTrL_lst (xs : List Vl) : kTrL (some (.lst xs)) = some (decide (xs.length ≠ 0)) := rfl
theorem kTrL_dct (xs : List (D × Vl)) : kTrL (some (.dct xs)) = some (decide (xs.length ≠ 0)) := rfl
theorem isL_v : Md.isL .v = false := rfl
theorem isL_l : Md.isL .l = true := rfl
theorem isL_t : Md.isL .t = false := rfl
theorem evT_con (d : D) : evT G (.con d) q ρ st = fin q (some (.ok (.d d), st)) := by rw [evT]; rfl
def kVar (q : Md) (o : Option (Option Vl)) (st : Store) : Rs Vl := fin q (match o with
    | some (some v) => some (.ok v, st)
    | _ => none)
theorem evT_var (i : Nat) : evT G (.var i) q ρ st = kVar q ρ[i]? st := by rw [evT]; rfl
theorem kVar_ok (v : Vl) : kVar q (some (some v)) st = fin q (some (.ok v, st)) := rfl
def kGlo (q : Md) (o : Option D) (st : Store) : Rs Vl := fin q (match o with
    | some d => ret1 d st
    | none => none)
theorem evT_glo (x : String) : evT G (.glo x) q ρ st = kGlo q (G.glob x) st := by rw [evT]; rfl
theorem kGlo_ok (d : D) : kGlo q (some d) st = fin q (some (.ok (.d d), st)) := rfl
noncomputable def kBin1 (G : Cfg) (q : Md) (o : Bop) (b : T) (ρ : Env) (r : Rs Vl) : Rs Vl := fin q (bnd r fun x st1 => bnd (evT G b .v ρ st1) fun y st2 => binV G q.isL o x y st2)
def kBin2 (G : Cfg) (q : Md) (o : Bop) (x : Vl) (r : Rs Vl) : Rs Vl := fin q (bnd r fun y st2 => binV G q.isL o x y st2)
theorem evT_bin (o : Bop) (a b : T) : evT G (.bin o a b) q ρ st = kBin1 G q o b ρ (evT G a .v ρ st) := by rw [evT]; rfl
theorem kBin1_ok (o : Bop) (b : T) (x : Vl) : kBin1 G q o b ρ (some (.ok x, st)) = kBin2 G q o x (evT G b .v ρ st) := rfl
theorem kBin2_ok (o : Bop) (x y : Vl) : kBin2 G q o x (some (.ok y, st)) = fin q (binV G q.isL o x y st) := rfl
def kNeg (q : Md) (r : Rs Vl) : Rs Vl := fin q (bnd r fun x st1 => match x with
    | .d (.int i) => ret1 (.int (-i)) st1
    | _ => none)
theorem evT_neg (a : T) : evT G (.neg a) q ρ st = kNeg q (evT G a .v ρ st) := by rw [evT]; rfl
theorem kNeg_ok (i : Int) : kNeg q (some (.ok (.d (.int i)), st)) = fin q (some (.ok (.d (.int (-i))), st)) := rfl
def kNotT (r : Rs Vl) : Rs Vl := bndB r fun c st1 => ret1 (.bl (!c)) st1
def kNotV (r : Rs Vl) : Rs Vl := bnd r fun x st1 => match truthV st1 x with
      | some c => ret1 (.bl (!c)) st1
      | none => none
def kNot' (o : Option Bool) (st : Store) : Rs Vl := match o with
      | some c => ret1 (.bl (!c)) st
      | none => none
theorem evT_not_t (a : T) : evT G (.not a) .t ρ st = kNotT (evT G a .t ρ st) := by rw [evT]; rfl
theorem evT_not_v (a : T) : evT G (.not a) .v ρ st = kNotV (evT G a .v ρ st) := by rw [evT]; rfl; intro h; cases h
theorem kNotT_ok (b : Bool) : kNotT (some (.ok (.d (.bl b)), st)) = some (.ok (.d (.bl (!b))), st) := rfl
theorem kNotV_ok (x : Vl) : kNotV (some (.ok x, st)) = kNot' (truthV st x) st := rfl
theorem kNot'_ok (b : Bool) : kNot' (some b) st = some (.ok (.d (.bl (!b))), st) := rfl
noncomputable def kAndT (G : Cfg) (b : T) (ρ : Env) (r : Rs Vl) : Rs Vl := bndB r fun c st1 => match c with
      | true => evT G b .t ρ st1
      | false => ret1 (.bl false) st1
noncomputable def kOrT (G : Cfg) (b : T) (ρ : Env) (r : Rs Vl) : Rs Vl := bndB r fun c st1 => match c with
      | true => ret1 (.bl true) st1
      | false => evT G b .t ρ st1
noncomputable def kAndV (G : Cfg) (q : Md) (b : T) (ρ : Env) (r : Rs Vl) : Rs Vl := bnd r fun x st1 => match truthV st1 x with
      | some true => evT G b q ρ st1
      | some false => some (.ok x, st1)
      | none => none
noncomputable def kAndV' (G : Cfg) (q : Md) (b : T) (ρ : Env) (x : Vl) (st1 : Store) (o : Option Bool) : Rs Vl := match o with
      | some true => evT G b q ρ st1
      | some false => some (.ok x, st1)
      | none => none
noncomputable def kOrV (G : Cfg) (q : Md) (b : T) (ρ : Env) (r : Rs Vl) : Rs Vl := bnd r fun x st1 => match truthV st1 x with
      | some true => some (.ok x, st1)
      | some false => evT G b q ρ st1
      | none => none
noncomputable def kOrV' (G : Cfg) (q : Md) (b : T) (ρ : Env) (x : Vl) (st1 : Store) (o : Option Bool) : Rs Vl := match o with
      | some true => some (.ok x, st1)
      | some false => evT G b q ρ st1
      | none => none
theorem evT_and_t (a b : T) : evT G (.band a b) .t ρ st = kAndT G b ρ (evT G a .t ρ st) := by rw [evT]; rfl
theorem evT_and_v (a b : T) : evT G (.band a b) .v ρ st = kAndV G .v b ρ (evT G a .v ρ st) := by rw [evT]; rfl; intro h; cases h
theorem evT_and_l (a b : T) : evT G (.band a b) .l ρ st = kAndV G .l b ρ (evT G a .l ρ st) := by rw [evT]; rfl; intro h; cases h
theorem evT_or_t (a b : T) : evT G (.bor a b) .t ρ st = kOrT G b ρ (evT G a .t ρ st) := by rw [evT]; rfl
theorem evT_or_v (a b : T) : evT G (.bor a b) .v ρ st = kOrV G .v b ρ (evT G a .v ρ st) := by rw [evT]; rfl; intro h; cases h
theorem evT_or_l (a b : T) : evT G (.bor a b) .l ρ st = kOrV G .l b ρ (evT G a .l ρ st) := by rw [evT]; rfl; intro h; cases h
theorem kAndT_t (b : T) : kAndT G b ρ (some (.ok (.d (.bl true)), st)) = evT G b .t ρ st := rfl
theorem kAndT_f (b : T) : kAndT G b ρ (some (.ok (.d (.bl false)), st)) = some (.ok (.d (.bl false)), st) := rfl
theorem kOrT_f (b : T) : kOrT G b ρ (some (.ok (.d (.bl false)), st)) = evT G b .t ρ st := rfl
theorem kOrT_t (b : T) : kOrT G b ρ (some (.ok (.d (.bl true)), st)) = some (.ok (.d (.bl true)), st) := rfl
theorem kAndV_ok (b : T) (x : Vl) : kAndV G q b ρ (some (.ok x, st)) = kAndV' G q b ρ x st (truthV st x) := rfl
theorem kOrV_ok (b : T) (x : Vl) : kOrV G q b ρ (some (.ok x, st)) = kOrV' G q b ρ x st (truthV st x) := rfl
theorem kAndV'_t (b : T) (x : Vl) : kAndV' G q b ρ x st (some true) = evT G b q ρ st := rfl
theorem kAndV'_f (b : T) (x : Vl) : kAndV' G q b ρ x st (some false) = some (.ok x, st) := rfl
theorem kOrV'_t (b : T) (x : Vl) : kOrV' G q b ρ x st (some true) = some (.ok x, st) := rfl
theorem kOrV'_f (b : T) (x : Vl) : kOrV' G q b ρ x st (some false) = evT G b q ρ st := rfl
noncomputable def kCmp1 (G : Cfg) (q : Md) (o : Cop) (b : T) (ρ : Env) (r : Rs Vl) : Rs Vl := finB q (bnd r fun x st1 => bnd (evT G b .v ρ st1) fun y st2 => cmpV G o x y st2)
def kCmp2 (G : Cfg) (q : Md) (o : Cop) (x : Vl) (r : Rs Vl) : Rs Vl := finB q (bnd r fun y st2 => cmpV G o x y st2)
theorem evT_cmp (o : Cop) (a b : T) : evT G (.cmp o a b) q ρ st = kCmp1 G q o b ρ (evT G a .v ρ st) := by rw [evT]; rfl
theorem kCmp1_ok (o : Cop) (b : T) (x : Vl) : kCmp1 G q o b ρ (some (.ok x, st)) = kCmp2 G q o x (evT G b .v ρ st) := rfl
theorem kCmp2_ok (o : Cop) (x y : Vl) : kCmp2 G q o x (some (.ok y, st)) = finB q (cmpV G o x y st) := rfl
noncomputable def kCh1 (G : Cfg) (q : Md) (o p : Cop) (b c : T) (ρ : Env) (r : Rs Vl) : Rs Vl := finB q (bnd r fun x st1 => bnd (evT G b .v ρ st1) fun y st2 => bndB (cmpV G o x y st2) fun z st3 => match z with
    | true => bnd (evT G c .v ρ st3) fun w st4 => cmpV G p y w st4
    | false => ret1 (.bl false) st3)
noncomputable def kCh2 (G : Cfg) (q : Md) (o p : Cop) (x : Vl) (c : T) (ρ : Env) (r : Rs Vl) : Rs Vl := finB q (bnd r fun y st2 => bndB (cmpV G o x y st2) fun z st3 => match z with
    | true => bnd (evT G c .v ρ st3) fun w st4 => cmpV G p y w st4
    | false => ret1 (.bl false) st3)
noncomputable def kCh3 (G : Cfg) (q : Md) (p : Cop) (y : Vl) (c : T) (ρ : Env) (r : Rs Vl) : Rs Vl := finB q (bndB r fun z st3 => match z with
    | true => bnd (evT G c .v ρ st3) fun w st4 => cmpV G p y w st4
    | false => ret1 (.bl false) st3)
theorem evT_chain (o p : Cop) (a b c : T) : evT G (.chain o p a b c) q ρ st = kCh1 G q o p b c ρ (evT G a .v ρ st) := by rw [evT]; rfl
theorem kCh1_ok (o p : Cop) (b c : T) (x : Vl) : kCh1 G q o p b c ρ (some (.ok x, st)) = kCh2 G q o p x c ρ (evT G b .v ρ st) := rfl
theorem kCh2_ok (o p : Cop) (c : T) (x y : Vl) : kCh2 G q o p x c ρ (some (.ok y, st)) = kCh3 G q p y c ρ (cmpV G o x y st) := rfl
theorem kCh3_t (p : Cop) (c : T) (y : Vl) : kCh3 G q p y c ρ (some (.ok (.d (.bl true)), st)) = kCmp2 G q p y (evT G c .v ρ st) := rfl
theorem kCh3_f (p : Cop) (c : T) (y : Vl) : kCh3 G q p y c ρ (some (.ok (.d (.bl false)), st)) = finB q (some (.ok (.d (.bl false)), st)) := rfl
noncomputable def kIte (G : Cfg) (q : Md) (a b : T) (ρ : Env) (r : Rs Vl) : Rs Vl := bndB r fun k st1 => match k with
    | true => evT G a q ρ st1
    | false => evT G b q ρ st1
theorem evT_ite (c a b : T) : evT G (.ite c a b) q ρ st = kIte G q a b ρ (evT G c .t ρ st) := by rw [evT]; rfl
theorem kIte_t (a b : T) : kIte G q a b ρ (some (.ok (.d (.bl true)), st)) = evT G a q ρ st := rfl
theorem kIte_f (a b : T) : kIte G q a b ρ (some (.ok (.d (.bl false)), st)) = evT G b q ρ st := rfl
/- lists of terms -/
noncomputable def kTs1 (G : Cfg) (r : Ts) (ρ : Env) (m : Rs Vl) : Rs (List Vl) := bnd m fun x st1 => bnd (evTs G r ρ st1) fun xs st2 => some (.ok (x :: xs), st2)
def kTs2 (x : Vl) (m : Rs (List Vl)) : Rs (List Vl) := bnd m fun xs st2 => some (.ok (x :: xs), st2)
theorem evTs_of_nil : evTs G (Ts.of []) ρ st = some (.ok [], st) := by unfold Ts.of; rw [evTs]
theorem evTs_of_cons (t : T) (r : List T) : evTs G (Ts.of (t :: r)) ρ st = kTs1 G (Ts.of r) ρ (evT G t .v ρ st) := by
  conv => lhs; unfold Ts.of
  rw [evTs]; rfl
theorem kTs1_ok (r : Ts) (x : Vl) : kTs1 G r ρ (some (.ok x, st)) = kTs2 x (evTs G r ρ st) := rfl
theorem kTs2_ok (x : Vl) (xs : List Vl) : kTs2 x (some (.ok xs, st)) = some (.ok (x :: xs), st) := rfl
def kTup (q : Md) (r : Rs (List Vl)) : Rs Vl := fin q (bnd r fun vs st1 => match embs st1 vs with
    | some (ds, st2) => if ds.length ≤ SZ then ret1 (.tup ds) st2 else none
    | none => none)
def kTup' (q : Md) (o : Option (List D × Store)) : Rs Vl := fin q (match o with
    | some (ds, st2) => if ds.length ≤ SZ then ret1 (.tup ds) st2 else none
    | none => none)
theorem evT_tup (ts : Ts) : evT G (.tup ts) q ρ st = kTup q (evTs G ts ρ st) := by rw [evT]; rfl
theorem kTup_ok (vs : List Vl) : kTup q (some (.ok vs, st)) = kTup' q (embs st vs) := rfl
theorem kTup'_ok {ds : List D} (h : ds.length ≤ 16777216) : kTup' q (some (ds, st)) = fin q (some (.ok (.d (.tup ds)), st)) := by
  unfold kTup'; dsimp only; rw [if_pos (show ds.length ≤ SZ from h)]; rfl
def kEmb1 (r : List Vl) (o : Option (D × Store)) : Option (List D × Store) := match o with
    | some (d, st1) => match embs st1 r with
      | some (ds, st2) => some (d :: ds, st2)
      | none => none
    | none => none
def kEmb2 (d : D) (o : Option (List D × Store)) : Option (List D × Store) := match o with
      | some (ds, st2) => some (d :: ds, st2)
      | none => none
theorem embs_nil : embs st [] = some ([], st) := rfl
theorem embs_d (d : D) (r : List Vl) : embs st (.d d :: r) = kEmb2 d (embs st r) := rfl
theorem embs_loc (n : Nat) (r : List Vl) : embs st (.loc n :: r) = kEmb1 r (emb st (.loc n)) := rfl
theorem kEmb1_ok (r : List Vl) (d : D) : kEmb1 r (some (d, st)) = kEmb2 d (embs st r) := rfl
theorem kEmb2_ok (d : D) (ds : List D) : kEmb2 d (some (ds, st)) = some (d :: ds, st) := rfl
def kEmb (n : Nat) (st : Store) (o : Option D) : Option (D × Store) := match o with
  | some d => some (d, st.set n .dead)
  | none => none
theorem emb_d (d : D) : emb st (.d d) = some (d, st) := rfl
theorem emb_loc (n : Nat) : emb st (.loc n) = kEmb n st (st[n]?.bind MO.toD) := by
  unfold emb kEmb
  dsimp only
  cases st[n]? with
  | none => rfl
  | some o => rfl
theorem kEmb_ok (n : Nat) (d : D) : kEmb n st (some d) = some (d, st.set n .dead) := rfl
theorem bind_some' {α β : Type} (a : α) (f : α → Option β) : (some a).bind f = f a := rfl
def kToL (o : Option (List D)) : Option D := match o with
    | some ds => some (.lst ds)
    | none => none
theorem toD_lst (xs : List Vl) : MO.toD (.lst xs) = kToL (dats xs) := rfl
theorem kToL_ok (ds : List D) : kToL (some ds) = some (.lst ds) := rfl
def kToO (C : String) (o : Option (List (String × D))) : Option D := match o with
    | some ds => some (.obj C ds)
    | none => none
theorem toD_ins (C : String) (xs : List (String × Vl)) : MO.toD (.ins C xs) = kToO C (datf xs) := rfl
theorem kToO_ok (C : String) (ds : List (String × D)) : kToO C (some ds) = some (.obj C ds) := rfl
def kDats (d : D) (o : Option (List D)) : Option (List D) := match o with
    | some ds => some (d :: ds)
    | none => none
theorem dats_nil : dats [] = some [] := rfl
theorem dats_cons (d : D) (r : List Vl) : dats (.d d :: r) = kDats d (dats r) := rfl
theorem kDats_ok (d : D) (ds : List D) : kDats d (some ds) = some (d :: ds) := rfl
theorem datsM {α : Type} (f : α → D) (l : List α) : dats (l.map fun a => .d (f a)) = some (l.map f) := by
  induction l with
  | nil => rfl
  | cons a r ih => rw [List.map_cons, dats_cons, ih]; rfl
theorem dats_mapd (l : List D) : dats (l.map .d) = some l := by
  have := datsM (fun d => d) l
  rw [List.map_id'] at this
  exact this
theorem dats_app (l r : List Vl) {a b : List D} (h1 : dats l = some a) (h2 : dats r = some b) : dats (l ++ r) = some (a ++ b) := by
  induction l generalizing a with
  | nil => cases h1; exact h2
  | cons x l ih =>
    cases x with
    | d d =>
      rw [dats_cons] at h1
      cases h3 : dats l with
      | none => rw [h3] at h1; cases h1
      | some ds =>
        rw [h3] at h1
        cases h1
        rw [List.cons_append, dats_cons, ih h3]
        rfl
    | loc _ => cases h1
    | exc _ => cases h1
theorem datf_nil : datf [] = some [] := rfl
def kDatf (f : String) (d : D) (o : Option (List (String × D))) : Option (List (String × D)) := match o with
    | some ds => some ((f, d) :: ds)
    | none => none
theorem datf_cons (f : String) (d : D) (r : List (String × Vl)) : datf ((f, .d d) :: r) = kDatf f d (datf r) := rfl
theorem kDatf_ok (f : String) (d : D) (ds : List (String × D)) : kDatf f d (some ds) = some ((f, d) :: ds) := rfl
def kLst (q : Md) (r : Rs (List Vl)) : Rs Vl := fin q (bnd r fun vs st1 => mkList q.isL vs st1)
theorem evT_lst (ts : Ts) : evT G (.lst ts) q ρ st = kLst q (evTs G ts ρ st) := by rw [evT]; rfl
theorem kLst_ok (vs : List Vl) : kLst q (some (.ok vs, st)) = fin q (mkList q.isL vs st) := rfl
theorem mkList_t {vs : List Vl} (h : vs.length ≤ 16777216) : mkList true vs st = some (.ok (.loc st.length), st ++ [.lst vs]) := by
  unfold mkList; rw [if_pos (show vs.length ≤ SZ from h)]; rfl
def kMk (o : Option (List D × Store)) : Rs Vl := match o with
    | some (ds, st1) => some (.ok (.d (.lst ds)), st1)
    | none => none
theorem mkList_f {vs : List Vl} (h : vs.length ≤ 16777216) : mkList false vs st = kMk (embs st vs) := by
  unfold mkList; rw [if_pos (show vs.length ≤ SZ from h)]; rfl
theorem kMk_ok (ds : List D) : kMk (some (ds, st)) = some (.ok (.d (.lst ds)), st) := rfl
theorem embs_mapd (l : List D) : embs st (l.map .d) = some (l, st) := by
  induction l with
  | nil => rfl
  | cons a r ih => rw [List.map_cons, embs_d, ih]; rfl
theorem embs_map {α : Type} (f : α → D) (l : List α) : embs st (l.map fun a => .d (f a)) = some (l.map f, st) := by
  induction l with
  | nil => rfl
  | cons a r ih => rw [List.map_cons, embs_d, ih]; rfl
theorem evT_dict0 : evT G .dict0 q ρ st = fin q (some (.ok (.loc st.length), st ++ [.dct []])) := by rw [evT]
noncomputable def kIx1 (G : Cfg) (q : Md) (i : T) (ρ : Env) (r : Rs Vl) : Rs Vl := fin q (bnd r fun x st1 => bnd (evT G i .v ρ st1) fun y st2 => ixV x y st2)
def kIx2 (q : Md) (x : Vl) (r : Rs Vl) : Rs Vl := fin q (bnd r fun y st2 => ixV x y st2)
theorem evT_ix (a i : T) : evT G (.ix a i) q ρ st = kIx1 G q i ρ (evT G a .v ρ st) := by rw [evT]; rfl
theorem kIx1_ok (i : T) (x : Vl) : kIx1 G q i ρ (some (.ok x, st)) = kIx2 q x (evT G i .v ρ st) := rfl
theorem kIx2_ok (x y : Vl) : kIx2 q x (some (.ok y, st)) = fin q (ixV x y st) := rfl
noncomputable def kSl1 (G : Cfg) (q : Md) (lo hi : To) (ρ : Env) (r : Rs Vl) : Rs Vl := fin q (bnd r fun x st1 => bnd (evO G lo ρ st1) fun l st2 => bnd (evO G hi ρ st2) fun h st3 => slcV q.isL x l h st3)
noncomputable def kSl2 (G : Cfg) (q : Md) (x : Vl) (hi : To) (ρ : Env) (r : Rs (Option Int)) : Rs Vl := fin q (bnd r fun l st2 => bnd (evO G hi ρ st2) fun h st3 => slcV q.isL x l h st3)
def kSl3 (q : Md) (x : Vl) (l : Option Int) (r : Rs (Option Int)) : Rs Vl := fin q (bnd r fun h st3 => slcV q.isL x l h st3)
theorem evT_slc (a : T) (lo hi : To) : evT G (.slc a lo hi) q ρ st = kSl1 G q lo hi ρ (evT G a .v ρ st) := by rw [evT]; rfl
theorem kSl1_ok (lo hi : To) (x : Vl) : kSl1 G q lo hi ρ (some (.ok x, st)) = kSl2 G q x hi ρ (evO G lo ρ st) := rfl
theorem kSl2_ok (hi : To) (x : Vl) (l : Option Int) : kSl2 G q x hi ρ (some (.ok l, st)) = kSl3 q x l (evO G hi ρ st) := rfl
theorem kSl3_ok (x : Vl) (l h : Option Int) : kSl3 q x l (some (.ok h, st)) = fin q (slcV q.isL x l h st) := rfl
def kO (r : Rs Vl) : Rs (Option Int) := bnd r fun x st1 => match x with
    | .d (.int i) => some (.ok (some i), st1)
    | _ => none
theorem evO_none : evO G .none ρ st = some (.ok none, st) := by rw [evO]
theorem evO_some (t : T) : evO G (.some t) ρ st = kO (evT G t .v ρ st) := by rw [evO]; rfl
theorem kO_ok (i : Int) : kO (some (.ok (.d (.int i)), st)) = some (.ok (some i), st) := rfl
def kRev (q : Md) (r : Rs Vl) : Rs Vl := fin q (bnd r fun x st1 => match peek st1 x with
    | some (.lst ds) => mkList q.isL (ds.reverse.map .d) st1
    | _ => none)
def kRev' (q : Md) (st : Store) (o : Option D) : Rs Vl := fin q (match o with
    | some (.lst ds) => mkList q.isL (ds.reverse.map .d) st
    | _ => none)
theorem evT_rev (a : T) : evT G (.rev a) q ρ st = kRev q (evT G a .v ρ st) := by rw [evT]; rfl
theorem kRev_ok (x : Vl) : kRev q (some (.ok x, st)) = kRev' q st (peek st x) := rfl
theorem kRev'_ok (ds : List D) : kRev' q st (some (.lst ds)) = fin q (mkList q.isL (ds.reverse.map .d) st) := rfl
def kFld (G : Cfg) (q : Md) (f : String) (r : Rs Vl) : Rs Vl := fin q (bnd r fun x st1 => fldV G x f st1)
theorem evT_fld (a : T) (f : String) : evT G (.fld a f) q ρ st = kFld G q f (evT G a .v ρ st) := by rw [evT]; rfl
theorem kFld_ok (f : String) (x : Vl) : kFld G q f (some (.ok x, st)) = fin q (fldV G x f st) := rfl
theorem fldV_obj (C f : String) (fs : List (String × D)) : fldV G (.d (.obj C fs)) f st = fdV G C f (.d (.obj C fs)) ((lookF f fs).map .d) st := rfl
def kFdL (G : Cfg) (n : Nat) (f : String) (st : Store) (o : Option MO) : Rs Vl := match o with
    | some (.ins C fs) => fdV G C f (.loc n) (lookF f fs) st
    | _ => none
theorem fldV_loc (n : Nat) (f : String) : fldV G (.loc n) f st = kFdL G n f st st[n]? := rfl
theorem kFdL_ok (n : Nat) (f C : String) (fs : List (String × Vl)) : kFdL G n f st (some (.ins C fs)) = fdV G C f (.loc n) (lookF f fs) st := rfl
def kFd (G : Cfg) (x : Vl) (o : Option Vl) (st : Store) (p : Option (Option String)) : Rs Vl := match p with
  | some (some h) => noErr (G.call h [x] st)
  | some none => (match o with
    | some d => some (.ok d, st)
    | none => none)
  | none => none
theorem fdV_eq (C f : String) (x : Vl) (o : Option Vl) : fdV G C f x o st = kFd G x o st (G.prop C f) := rfl
theorem kFd_f (x d : Vl) : kFd G x (some d) st (some none) = some (.ok d, st) := rfl
theorem kFd_p (x : Vl) (o : Option Vl) (h : String) : kFd G x o st (some (some h)) = noErr (G.call h [x] st) := rfl
theorem lookF_hit {α : Type} (f : String) (v : α) (r : List (String × α)) : lookF f ((f, v) :: r) = some v := by unfold lookF; rw [if_pos rfl]
theorem lookF_miss {α : Type} {f g : String} (v : α) (r : List (String × α)) (h : f ≠ g) : lookF f ((g, v) :: r) = lookF f r := by
  conv => lhs; unfold lookF
  rw [if_neg h]
theorem lookF_nil {α : Type} (f : String) : lookF f ([] : List (String × α)) = none := rfl
theorem putF_hit {α : Type} (f : String) (v w : α) (r : List (String × α)) : putF f v ((f, w) :: r) = (f, v) :: r := by unfold putF; rw [if_pos rfl]
theorem putF_miss {α : Type} {f g : String} (v w : α) (r : List (String × α)) (h : g ≠ f) : putF f v ((g, w) :: r) = (g, w) :: putF f v r := by
  conv => lhs; unfold putF
  rw [if_neg h]
theorem putF_nil {α : Type} (f : String) (v : α) : putF f v [] = [(f, v)] := rfl
def kCall (G : Cfg) (q : Md) (f : String) (r : Rs (List Vl)) : Rs Vl := fin q (bnd r fun vs st1 => G.call f vs st1)
theorem evT_call (f : String) (ts : Ts) : evT G (.call f ts) q ρ st = kCall G q f (evTs G ts ρ st) := by rw [evT]; rfl
theorem kCall_ok (f : String) (vs : List Vl) : kCall G q f (some (.ok vs, st)) = fin q (G.call f vs st) := rfl
def kBi (q : Md) (f : String) (r : Rs (List Vl)) : Rs Vl := fin q (bnd r fun vs st1 => biV q.isL f vs st1)
theorem evT_bi (f : String) (ts : Ts) : evT G (.bi f ts) q ρ st = kBi q f (evTs G ts ρ st) := by rw [evT]; rfl
theorem kBi_1 (f : String) (x : Vl) : kBi q f (some (.ok [x], st)) = fin q (bi1 q.isL f x st) := rfl
theorem kBi_2 (f : String) (x y : Vl) : kBi q f (some (.ok [x, y], st)) = fin q (bi2 f x y st) := rfl
def kIs (G : Cfg) (q : Md) (c : String) (r : Rs Vl) : Rs Vl := fin q (bnd r fun x st1 => match isV G st1 c x with
    | some b => ret1 (.bl b) st1
    | none => none)
def kIs' (q : Md) (st : Store) (o : Option Bool) : Rs Vl := fin q (match o with
    | some b => ret1 (.bl b) st
    | none => none)
theorem evT_isin (a : T) (c : String) : evT G (.isin a c) q ρ st = kIs G q c (evT G a .v ρ st) := by rw [evT]; rfl
theorem kIs_ok (c : String) (x : Vl) : kIs G q c (some (.ok x, st)) = kIs' q st (isV G st c x) := rfl
theorem kIs'_ok (b : Bool) : kIs' q st (some b) = fin q (some (.ok (.d (.bl b)), st)) := rfl
noncomputable def kMe1 (G : Cfg) (q : Md) (f : String) (ts : Ts) (ρ : Env) (r : Rs Vl) : Rs Vl := fin q (bnd r fun x st1 => match rcv G f st1 x with
    | some (.own C) => bnd (evTs G ts ρ st1) fun vs st2 => callM G C f (x :: vs) st2
    | some .str => bnd (evTs G ts ρ st1) fun vs st2 => methV q.isL x f vs st2
    | some .lst => bnd (evTs G ts ρ st1) fun vs st2 => methV q.isL x f vs st2
    | none => none)
noncomputable def kMe2 (G : Cfg) (q : Md) (f : String) (ts : Ts) (ρ : Env) (x : Vl) (st1 : Store) (o : Option RK) : Rs Vl := fin q (match o with
    | some (.own C) => bnd (evTs G ts ρ st1) fun vs st2 => callM G C f (x :: vs) st2
    | some .str => bnd (evTs G ts ρ st1) fun vs st2 => methV q.isL x f vs st2
    | some .lst => bnd (evTs G ts ρ st1) fun vs st2 => methV q.isL x f vs st2
    | none => none)
def kMeO (G : Cfg) (q : Md) (C f : String) (x : Vl) (r : Rs (List Vl)) : Rs Vl := fin q (bnd r fun vs st2 => callM G C f (x :: vs) st2)
def kMeB (q : Md) (f : String) (x : Vl) (r : Rs (List Vl)) : Rs Vl := fin q (bnd r fun vs st2 => methV q.isL x f vs st2)
theorem evT_meth (a : T) (f : String) (ts : Ts) : evT G (.meth a f ts) q ρ st = kMe1 G q f ts ρ (evT G a .v ρ st) := by rw [evT]; rfl
theorem kMe1_ok (f : String) (ts : Ts) (x : Vl) : kMe1 G q f ts ρ (some (.ok x, st)) = kMe2 G q f ts ρ x st (rcv G f st x) := rfl
theorem kMe2_own (f C : String) (ts : Ts) (x : Vl) : kMe2 G q f ts ρ x st (some (.own C)) = kMeO G q C f x (evTs G ts ρ st) := rfl
theorem kMe2_str (f : String) (ts : Ts) (x : Vl) : kMe2 G q f ts ρ x st (some .str) = kMeB q f x (evTs G ts ρ st) := rfl
theorem kMe2_lst (f : String) (ts : Ts) (x : Vl) : kMe2 G q f ts ρ x st (some .lst) = kMeB q f x (evTs G ts ρ st) := rfl
theorem kMeO_ok (C f : String) (x : Vl) (vs : List Vl) : kMeO G q C f x (some (.ok vs, st)) = fin q (callM G C f (x :: vs) st) := rfl
theorem kMeB_ok (f : String) (x : Vl) (vs : List Vl) : kMeB q f x (some (.ok vs, st)) = fin q (methV q.isL x f vs st) := rfl
def kCM (G : Cfg) (args : List Vl) (st : Store) (o : Option String) : Rs Vl := match o with
  | some h => G.call h args st
  | none => none
theorem callM_eq (C f : String) (args : List Vl) : callM G C f args st = kCM G args st (G.meth C f) := rfl
theorem kCM_ok (h : String) (args : List Vl) : kCM G args st (some h) = G.call h args st := rfl
theorem evT_loc (t : T) : evT G (.loc t) q ρ st = fin q (evT G t .l ρ st) := by rw [evT]
/- targets -/
theorem stG_nm (i : Nat) (v : Vl) : stG G (.nm i) v ρ st = some (ρ.set i (some v), st) := by rw [stG]
theorem stG_tp (gs : Tgs) (ds : List D) : stG G (.tp gs) (.d (.tup ds)) ρ st = stGs G gs (ds.map .d) ρ st := by rw [stG]
theorem stGs_nil : stGs G .nil [] ρ st = some (ρ, st) := by rw [stGs]
noncomputable def kGs (G : Cfg) (r : Tgs) (vs : List Vl) (o : Option (Env × Store)) : Option (Env × Store) := match o with
      | some (ρ1, st1) => stGs G r vs ρ1 st1
      | none => none
theorem stGs_cons (g : Tg) (r : Tgs) (v : Vl) (vs : List Vl) : stGs G (.cons g r) (v :: vs) ρ st = kGs G r vs (stG G g v ρ st) := by rw [stGs]; rfl
theorem kGs_ok (r : Tgs) (vs : List Vl) : kGs G r vs (some (ρ, st)) = stGs G r vs ρ st := rfl
noncomputable def kGi1 (G : Cfg) (i : T) (v : Vl) (ρ : Env) (r : Rs Vl) : Option (Env × Store) := match r with
    | some (.ok (.loc n), st1) => match evT G i .v ρ st1 with
      | some (.ok (.d k), st2) => match st2[n]? with
        | some (.lst xs) => match k with
          | .int k => match ixN xs.length k with
            | some j => if okv v then some (ρ, st2.set n (.lst (xs.set j v))) else none
            | none => none
          | _ => none
        | some (.dct kvs) => if k.scal && okv v && decide (kvs.length < SZ) then some (ρ, st2.set n (.dct (dput kvs k v))) else none
        | _ => none
      | _ => none
    | _ => none
def kGi2 (n : Nat) (v : Vl) (ρ : Env) (r : Rs Vl) : Option (Env × Store) := match r with
      | some (.ok (.d k), st2) => match st2[n]? with
        | some (.lst xs) => match k with
          | .int k => match ixN xs.length k with
            | some j => if okv v then some (ρ, st2.set n (.lst (xs.set j v))) else none
            | none => none
          | _ => none
        | some (.dct kvs) => if k.scal && okv v && decide (kvs.length < SZ) then some (ρ, st2.set n (.dct (dput kvs k v))) else none
        | _ => none
      | _ => none
def kGi3 (n : Nat) (v : Vl) (k : D) (ρ : Env) (st2 : Store) (o : Option MO) : Option (Env × Store) := match o with
        | some (.lst xs) => match k with
          | .int k => match ixN xs.length k with
            | some j => if okv v then some (ρ, st2.set n (.lst (xs.set j v))) else none
            | none => none
          | _ => none
        | some (.dct kvs) => if k.scal && okv v && decide (kvs.length < SZ) then some (ρ, st2.set n (.dct (dput kvs k v))) else none
        | _ => none
def kGi4 (n : Nat) (v : Vl) (xs : List Vl) (ρ : Env) (st2 : Store) (o : Option Nat) : Option (Env × Store) := match o with
            | some j => if okv v then some (ρ, st2.set n (.lst (xs.set j v))) else none
            | none => none
theorem stG_ix (a i : T) (v : Vl) : stG G (.ix a i) v ρ st = kGi1 G i v ρ (evT G a .v ρ st) := by rw [stG]; rfl
theorem kGi1_ok (i : T) (v : Vl) (n : Nat) : kGi1 G i v ρ (some (.ok (.loc n), st)) = kGi2 n v ρ (evT G i .v ρ st) := rfl
theorem kGi2_ok (n : Nat) (v : Vl) (k : D) : kGi2 n v ρ (some (.ok (.d k), st)) = kGi3 n v k ρ st st[n]? := rfl
theorem kGi3_lst (n : Nat) (v : Vl) (k : Int) (xs : List Vl) : kGi3 n v (.int k) ρ st (some (.lst xs)) = kGi4 n v xs ρ st (ixN xs.length k) := rfl
theorem kGi4_d (n : Nat) (d : D) (xs : List Vl) (j : Nat) : kGi4 n (.d d) xs ρ st (some j) = some (ρ, st.set n (.lst (xs.set j (.d d)))) := rfl
theorem kGi4_loc (n m : Nat) (xs : List Vl) (j : Nat) : kGi4 n (.loc m) xs ρ st (some j) = some (ρ, st.set n (.lst (xs.set j (.loc m)))) := rfl
theorem kGi3_dct_d {n : Nat} {d : D} {k : D} {kvs : List (D × Vl)} (hk : k.scal = true) (h : kvs.length < 16777216) : kGi3 n (.d d) k ρ st (some (.dct kvs)) = some (ρ, st.set n (.dct (dput kvs k (.d d)))) := by
  unfold kGi3; dsimp only; rw [hk, if_pos (by simp only [okv, Bool.true_and, decide_eq_true_eq]; exact h)]
theorem kGi3_dct_loc {n m : Nat} {k : D} {kvs : List (D × Vl)} (hk : k.scal = true) (h : kvs.length < 16777216) : kGi3 n (.loc m) k ρ st (some (.dct kvs)) = some (ρ, st.set n (.dct (dput kvs k (.loc m)))) := by
  unfold kGi3; dsimp only; rw [hk, if_pos (by simp only [okv, Bool.true_and, decide_eq_true_eq]; exact h)]
/- statements -/
noncomputable def kSs (G : Cfg) (X : String → List String) (r : Ss) (m : RS) : RS := match m with
    | some (.next, ρ1, st1) => evSs G X r ρ1 st1
    | r => r
theorem evSs_nil : evSs G X .nil ρ st = some (.next, ρ, st) := by rw [evSs]
theorem evSs_cons (s : S) (r : Ss) : evSs G X (.cons s r) ρ st = kSs G X r (evS G X s ρ st) := by rw [evSs]; rfl
theorem kSs_next (r : Ss) : kSs G X r (some (.next, ρ, st)) = evSs G X r ρ st := rfl
theorem kSs_ret (r : Ss) (v : Vl) : kSs G X r (some (.ret v, ρ, st)) = some (.ret v, ρ, st) := rfl
theorem kSs_err (r : Ss) (v : Ex) : kSs G X r (some (.err v, ρ, st)) = some (.err v, ρ, st) := rfl
theorem kSs_brk (r : Ss) : kSs G X r (some (.brk, ρ, st)) = some (.brk, ρ, st) := rfl
theorem kSs_cont (r : Ss) : kSs G X r (some (.cont, ρ, st)) = some (.cont, ρ, st) := rfl
theorem kSs_nil (m : RS) : kSs G X .nil m = m := by
  unfold kSs
  cases m with
  | none => rfl
  | some p => obtain ⟨f, ρ, st⟩ := p; cases f <;> first | rfl | exact evSs_nil
def kEx (ρ : Env) (r : Rs Vl) : RS := bndS r ρ fun _ st1 => some (.next, ρ, st1)
theorem evS_ex (t : T) : evS G X (.ex t) ρ st = kEx ρ (evT G t .v ρ st) := by rw [evS]; rfl
theorem kEx_ok (v : Vl) : kEx ρ (some (.ok v, st)) = some (.next, ρ, st) := rfl
noncomputable def kAsg (G : Cfg) (g : Tg) (ρ : Env) (r : Rs Vl) : RS := bndS r ρ fun v st1 => match stG G g v ρ st1 with
    | some (ρ1, st2) => some (.next, ρ1, st2)
    | none => none
def kAsg' (o : Option (Env × Store)) : RS := match o with
    | some (ρ1, st2) => some (.next, ρ1, st2)
    | none => none
theorem evS_asg (g : Tg) (t : T) : evS G X (.asg g t) ρ st = kAsg G g ρ (evT G t .v ρ st) := by rw [evS]; rfl
theorem kAsg_ok (g : Tg) (v : Vl) : kAsg G g ρ (some (.ok v, st)) = kAsg' (stG G g v ρ st) := rfl
theorem kAsg'_ok : kAsg' (some (ρ, st)) = some (.next, ρ, st) := rfl
theorem kAsg_err (g : Tg) (e : Ex) : kAsg G g ρ (some (.err e, st)) = some (.err e, ρ, st) := rfl
noncomputable def kFs1 (G : Cfg) (a : T) (f : String) (ρ : Env) (r : Rs Vl) : RS := bndS r ρ fun v st1 => bndS (evT G a .v ρ st1) ρ fun x st2 => match x with
    | .loc n => match st2[n]? with
      | some (.ins C fs) => if okv v && decide (fs.length < 900) && decide (G.prop C f = some none) then some (.next, ρ, st2.set n (.ins C (putF f v fs))) else none
      | _ => none
    | _ => none
def kFs2 (G : Cfg) (v : Vl) (f : String) (ρ : Env) (r : Rs Vl) : RS := bndS r ρ fun x st2 => match x with
    | .loc n => match st2[n]? with
      | some (.ins C fs) => if okv v && decide (fs.length < 900) && decide (G.prop C f = some none) then some (.next, ρ, st2.set n (.ins C (putF f v fs))) else none
      | _ => none
    | _ => none
def kFs3 (G : Cfg) (v : Vl) (f : String) (ρ : Env) (n : Nat) (st2 : Store) (o : Option MO) : RS := match o with
      | some (.ins C fs) => if okv v && decide (fs.length < 900) && decide (G.prop C f = some none) then some (.next, ρ, st2.set n (.ins C (putF f v fs))) else none
      | _ => none
theorem evS_fset (a : T) (f : String) (t : T) : evS G X (.fset a f t) ρ st = kFs1 G a f ρ (evT G t .v ρ st) := by rw [evS]; rfl
theorem kFs1_ok (a : T) (f : String) (v : Vl) : kFs1 G a f ρ (some (.ok v, st)) = kFs2 G v f ρ (evT G a .v ρ st) := rfl
theorem kFs2_ok (v : Vl) (f : String) (n : Nat) : kFs2 G v f ρ (some (.ok (.loc n), st)) = kFs3 G v f ρ n st st[n]? := rfl
theorem kFs3_d {d : D} {f C : String} {n : Nat} {fs : List (String × Vl)} (h1 : fs.length < 900) (h2 : G.prop C f = some none) : kFs3 G (.d d) f ρ n st (some (.ins C fs)) = some (.next, ρ, st.set n (.ins C (putF f (.d d) fs))) := by
  unfold kFs3; dsimp only; rw [if_pos (by simp [okv, h1, h2])]
theorem kFs3_loc {m : Nat} {f C : String} {n : Nat} {fs : List (String × Vl)} (h1 : fs.length < 900) (h2 : G.prop C f = some none) : kFs3 G (.loc m) f ρ n st (some (.ins C fs)) = some (.next, ρ, st.set n (.ins C (putF f (.loc m) fs))) := by
  unfold kFs3; dsimp only; rw [if_pos (by simp [okv, h1, h2])]
def kPar (is : List Nat) (ρ : Env) (r : Rs (List Vl)) : RS := bndS r ρ fun vs st1 => if vs.length = is.length then some (.next, setAll ρ is vs, st1) else none
theorem evS_par (is : List Nat) (ts : Ts) : evS G X (.par is ts) ρ st = kPar is ρ (evTs G ts ρ st) := by rw [evS]; rfl
theorem kPar_2 (i j : Nat) (x y : Vl) : kPar [i, j] ρ (some (.ok [x, y], st)) = some (.next, (ρ.set i (some x)).set j (some y), st) := rfl
theorem kPar_3 (i j k : Nat) (x y z : Vl) : kPar [i, j, k] ρ (some (.ok [x, y, z], st)) = some (.next, ((ρ.set i (some x)).set j (some y)).set k (some z), st) := rfl
noncomputable def kAug (G : Cfg) (i : Nat) (o : Bop) (t : T) (ρ : Env) (st : Store) (v : Option (Option Vl)) : RS := match v with
    | some (some (.d (.int a))) => bndS (evT G t .v ρ st) ρ fun y st1 => match y with
      | .d (.int b) => some (.next, ρ.set i (some (.d (.int (augI o a b)))), st1)
      | _ => none
    | _ => none
def kAug2 (i : Nat) (o : Bop) (a : Int) (ρ : Env) (r : Rs Vl) : RS := bndS r ρ fun y st1 => match y with
      | .d (.int b) => some (.next, ρ.set i (some (.d (.int (augI o a b)))), st1)
      | _ => none
theorem evS_aug (i : Nat) (o : Bop) (t : T) : evS G X (.aug i o t) ρ st = kAug G i o t ρ st ρ[i]? := by rw [evS]; rfl
theorem kAug_ok (i : Nat) (o : Bop) (t : T) (a : Int) : kAug G i o t ρ st (some (some (.d (.int a)))) = kAug2 i o a ρ (evT G t .v ρ st) := rfl
theorem kAug2_ok (i : Nat) (o : Bop) (a b : Int) : kAug2 i o a ρ (some (.ok (.d (.int b)), st)) = some (.next, ρ.set i (some (.d (.int (augI o a b)))), st) := rfl
theorem augI_add (a b : Int) : augI .add a b = a + b := rfl
theorem augI_sub (a b : Int) : augI .sub a b = a - b := rfl
def kRet (ρ : Env) (r : Rs Vl) : RS := bndS r ρ fun v st1 => some (.ret v, ρ, st1)
theorem evS_ret (t : T) : evS G X (.ret t) ρ st = kRet ρ (evT G t .v ρ st) := by rw [evS]; rfl
theorem kRet_ok (v : Vl) : kRet ρ (some (.ok v, st)) = some (.ret v, ρ, st) := rfl
theorem evS_retN : evS G X .retN ρ st = some (.ret (.d .non), ρ, st) := by rw [evS]
noncomputable def kIf (G : Cfg) (X : String → List String) (a b : Ss) (ρ : Env) (r : Rs Vl) : RS := bndS r ρ fun x st1 => match x with
    | .d (.bl true) => evSs G X a ρ st1
    | .d (.bl false) => evSs G X b ρ st1
    | _ => none
theorem evS_if (c : T) (a b : Ss) : evS G X (.ite c a b) ρ st = kIf G X a b ρ (evT G c .t ρ st) := by rw [evS]; rfl
theorem kIf_t (a b : Ss) : kIf G X a b ρ (some (.ok (.d (.bl true)), st)) = evSs G X a ρ st := rfl
theorem kIf_f (a b : Ss) : kIf G X a b ρ (some (.ok (.d (.bl false)), st)) = evSs G X b ρ st := rfl
noncomputable def bodyF (G : Cfg) (X : String → List String) (g : Tg) (b : Ss) (v : Vl) (ρ : Env) (st : Store) : RS := match stG G g v ρ st with
      | some (ρ2, st3) => evSs G X b ρ2 st3
      | none => none
noncomputable def kBody (G : Cfg) (X : String → List String) (b : Ss) (o : Option (Env × Store)) : RS := match o with
      | some (ρ2, st3) => evSs G X b ρ2 st3
      | none => none
theorem bodyF_eq (g : Tg) (b : Ss) (v : Vl) : bodyF G X g b v ρ st = kBody G X b (stG G g v ρ st) := rfl
theorem kBody_ok (b : Ss) : kBody G X b (some (ρ, st)) = evSs G X b ρ st := rfl
noncomputable def kFor (G : Cfg) (X : String → List String) (g : Tg) (b : Ss) (ρ : Env) (r : Rs Its) : RS := bndS r ρ fun s st1 => forF s (fun v ρ1 st2 => match stG G g v ρ1 st2 with
      | some (ρ2, st3) => evSs G X b ρ2 st3
      | none => none) s.items ρ st1
theorem evS_for (g : Tg) (it : It) (b : Ss) : evS G X (.for_ g it b) ρ st = kFor G X g b ρ (evI G it ρ st) := by rw [evS]; rfl
theorem kFor_ok (g : Tg) (b : Ss) (s : Its) : kFor G X g b ρ (some (.ok s, st)) = forF s (bodyF G X g b) s.items ρ st := rfl
noncomputable def stepWh (G : Cfg) (X : String → List String) (c : T) (b : Ss) (ρ : Env) (st : Store) : Option Stp := stepW (evT G c .t ρ st) ρ fun st1 => evSs G X b ρ st1
noncomputable def kWh (G : Cfg) (X : String → List String) (b : Ss) (ρ : Env) (m : Rs Vl) : Option Stp := stepW m ρ fun st1 => evSs G X b ρ st1
theorem stepWh_eq (c : T) (b : Ss) : stepWh G X c b ρ st = kWh G X b ρ (evT G c .t ρ st) := rfl
theorem kWh_t (b : Ss) : kWh G X b ρ (some (.ok (.d (.bl true)), st)) = turnW (evSs G X b ρ st) := rfl
theorem kWh_f (b : Ss) : kWh G X b ρ (some (.ok (.d (.bl false)), st)) = some (.stop .next ρ st) := rfl
theorem turnW_next : turnW (some (.next, ρ, st)) = some (.again ρ st) := rfl
theorem turnW_cont : turnW (some (.cont, ρ, st)) = some (.again ρ st) := rfl
theorem turnW_brk : turnW (some (.brk, ρ, st)) = some (.stop .next ρ st) := rfl
theorem turnW_ret (v : Vl) : turnW (some (.ret v, ρ, st)) = some (.stop (.ret v) ρ st) := rfl
theorem evS_whl (c : T) (b : Ss) : evS G X (.whl c b) ρ st = loopM (stepWh G X c b) ρ st := by rw [evS]; rfl
theorem evS_brk : evS G X .brk ρ st = some (.brk, ρ, st) := by rw [evS]
theorem evS_cont : evS G X .cont ρ st = some (.cont, ρ, st) := by rw [evS]
theorem evS_pass : evS G X .pass ρ st = some (.next, ρ, st) := by rw [evS]
/- iterables -/
def kSeq (r : Rs Vl) : Rs Its := bnd r fun x st1 => match seqIts st1 x with
    | some s => some (.ok s, st1)
    | none => none
def kSeq' (st : Store) (o : Option Its) : Rs Its := match o with
    | some s => some (.ok s, st)
    | none => none
theorem evI_seq (t : T) : evI G (.seq t) ρ st = kSeq (evT G t .v ρ st) := by rw [evI]; rfl
theorem kSeq_ok (x : Vl) : kSeq (some (.ok x, st)) = kSeq' st (seqIts st x) := rfl
theorem kSeq'_ok (s : Its) : kSeq' st (some s) = some (.ok s, st) := rfl
def kEnu (r : Rs Vl) : Rs Its := bnd r fun x st1 => match enumIts st1 x with
    | some s => some (.ok s, st1)
    | none => none
theorem evI_enu (t : T) : evI G (.enu t) ρ st = kEnu (evT G t .v ρ st) := by rw [evI]; rfl
theorem kEnu_ok (x : Vl) : kEnu (some (.ok x, st)) = kSeq' st (enumIts st x) := rfl
theorem enumIts_lst (ds : List D) : enumIts st (.d (.lst ds)) = some (.vs (enumV 0 ds)) := rfl
theorem seqIts_lst (ds : List D) : seqIts st (.d (.lst ds)) = some (.vs (ds.map .d)) := rfl
theorem seqIts_tup (ds : List D) : seqIts st (.d (.tup ds)) = some (.vs (ds.map .d)) := rfl
theorem seqIts_str {z : Str} (h : z.length ≤ 16777216) : seqIts st (.d (.str z)) = some (.vs (z.cps.toList.map fun c => .d (.str ⟨#[c]⟩))) := by
  unfold seqIts; dsimp only; rw [if_pos (show z.length ≤ SZ from h)]
def kSqL (n : Nat) (o : Option MO) : Option Its := match o with
    | some (.lst vs) => some (.at_ n vs)
    | _ => none
theorem seqIts_loc (n : Nat) : seqIts st (.loc n) = kSqL n st[n]? := rfl
theorem kSqL_ok (n : Nat) (vs : List Vl) : kSqL n (some (.lst vs)) = some (.at_ n vs) := rfl
def kEnL (n : Nat) (o : Option MO) : Option Its := match o with
    | some (.lst us) => match dats us with
      | some ds => some (.en n us ds)
      | none => none
    | _ => none
def kEnL' (n : Nat) (us : List Vl) (o : Option (List D)) : Option Its := match o with
      | some ds => some (.en n us ds)
      | none => none
theorem enumIts_loc (n : Nat) : enumIts st (.loc n) = kEnL n st[n]? := rfl
theorem kEnL_ok (n : Nat) (us : List Vl) : kEnL n (some (.lst us)) = kEnL' n us (dats us) := rfl
theorem kEnL'_ok (n : Nat) (us : List Vl) (ds : List D) : kEnL' n us (some ds) = some (.en n us ds) := rfl
def kR1 (r : Rs Vl) : Rs Its := bnd r fun x st1 => match asInt x with
    | some n => if smallI n then some (.ok (.vs (rng 0 n.toNat)), st1) else none
    | none => none
theorem evI_rng1 (a : T) : evI G (.rng1 a) ρ st = kR1 (evT G a .v ρ st) := by rw [evI]; rfl
theorem kR1_ok {i : Int} (h : smallI i = true) : kR1 (some (.ok (.d (.int i)), st)) = some (.ok (.vs (rng 0 i.toNat)), st) := by
  unfold kR1; rw [bnd_ok]; dsimp only [asInt]; rw [if_pos h]
noncomputable def kR2 (G : Cfg) (b : T) (ρ : Env) (r : Rs Vl) : Rs Its := bnd r fun x st1 => bnd (evT G b .v ρ st1) fun y st2 => match asInt x, asInt y with
    | some i, some j => if smallI i && smallI j then some (.ok (.vs (rng i (j - i).toNat)), st2) else none
    | _, _ => none
def kR3 (x : Vl) (r : Rs Vl) : Rs Its := bnd r fun y st2 => match asInt x, asInt y with
    | some i, some j => if smallI i && smallI j then some (.ok (.vs (rng i (j - i).toNat)), st2) else none
    | _, _ => none
theorem evI_rng2 (a b : T) : evI G (.rng2 a b) ρ st = kR2 G b ρ (evT G a .v ρ st) := by rw [evI]; rfl
theorem kR2_ok (b : T) (x : Vl) : kR2 G b ρ (some (.ok x, st)) = kR3 x (evT G b .v ρ st) := rfl
theorem kR3_ok {i j : Int} (h : smallI i = true) (h2 : smallI j = true) : kR3 (.d (.int i)) (some (.ok (.d (.int j)), st)) = some (.ok (.vs (rng i (j - i).toNat)), st) := by
  unfold kR3; rw [bnd_ok]; dsimp only [asInt]; rw [h, h2]; rfl
theorem smallI_of {i : Int} (h1 : -(2 ^ 62) ≤ i) (h2 : i < 2 ^ 62) : smallI i = true := decide_eq_true ⟨h1, h2⟩
/- comprehensions -/
noncomputable def eltC (G : Cfg) (own : List Nat) (e : T) (g : Tg) (fs : Ts) (ρ : Env) (v : Vl) (st : Store) : Rs (Option Vl) := match stG G g v (wipeE ρ own) st with
      | some (ρ1, st3) => bndB (evF G fs ρ1 st3) fun c st4 => match c with
        | true => bnd (evT G e .v ρ1 st4) fun x st5 => some (.ok (some x), st5)
        | false => some (.ok none, st4)
      | none => none
noncomputable def kC1 (G : Cfg) (e : T) (fs : Ts) (o : Option (Env × Store)) : Rs (Option Vl) := match o with
      | some (ρ1, st3) => bndB (evF G fs ρ1 st3) fun c st4 => match c with
        | true => bnd (evT G e .v ρ1 st4) fun x st5 => some (.ok (some x), st5)
        | false => some (.ok none, st4)
      | none => none
noncomputable def kC2 (G : Cfg) (e : T) (ρ1 : Env) (r : Rs Vl) : Rs (Option Vl) := bndB r fun c st4 => match c with
        | true => bnd (evT G e .v ρ1 st4) fun x st5 => some (.ok (some x), st5)
        | false => some (.ok none, st4)
def kC3 (r : Rs Vl) : Rs (Option Vl) := bnd r fun x st5 => some (.ok (some x), st5)
theorem eltC_eq (own : List Nat) (e : T) (g : Tg) (fs : Ts) (v : Vl) : eltC G own e g fs ρ v st = kC1 G e fs (stG G g v (wipeE ρ own) st) := rfl
theorem kC1_ok (e : T) (fs : Ts) : kC1 G e fs (some (ρ, st)) = kC2 G e ρ (evF G fs ρ st) := rfl
theorem kC2_t (e : T) : kC2 G e ρ (some (.ok (.d (.bl true)), st)) = kC3 (evT G e .v ρ st) := rfl
theorem kC2_f (e : T) : kC2 G e ρ (some (.ok (.d (.bl false)), st)) = some (.ok none, st) := rfl
theorem kC3_ok (x : Vl) : kC3 (some (.ok x, st)) = some (.ok (some x), st) := rfl
theorem evF_of_nil : evF G (Ts.of []) ρ st = some (.ok (.d (.bl true)), st) := by unfold Ts.of; rw [evF]; rfl
noncomputable def kF (G : Cfg) (r : Ts) (ρ : Env) (m : Rs Vl) : Rs Vl := bndB m fun c st1 => match c with
    | true => evF G r ρ st1
    | false => ret1 (.bl false) st1
theorem evF_of_cons (t : T) (r : List T) : evF G (Ts.of (t :: r)) ρ st = kF G (Ts.of r) ρ (evT G t .t ρ st) := by
  conv => lhs; unfold Ts.of
  rw [evF]; rfl
theorem kF_t (r : Ts) : kF G r ρ (some (.ok (.d (.bl true)), st)) = evF G r ρ st := rfl
theorem kF_f (r : Ts) : kF G r ρ (some (.ok (.d (.bl false)), st)) = some (.ok (.d (.bl false)), st) := rfl
theorem kF_b (b : Bool) : kF G (Ts.of []) ρ (some (.ok (.d (.bl b)), st)) = some (.ok (.d (.bl b)), st) := by cases b <;> first | rfl | (rw [kF_t, evF_of_nil])
noncomputable def kCo (G : Cfg) (q : Md) (own : List Nat) (e : T) (g : Tg) (fs : Ts) (ρ : Env) (r : Rs Its) : Rs Vl := fin q (bnd r fun s st1 => bnd (noErr (cmpF s (eltC G own e g fs ρ) s.items st1)) fun vs st2 => mkList q.isL vs st2)
def kCo2 (q : Md) (r : Rs (List Vl)) : Rs Vl := fin q (bnd (noErr r) fun vs st2 => mkList q.isL vs st2)
theorem evT_comp (own : List Nat) (e : T) (g : Tg) (it : It) (fs : Ts) : evT G (.comp own e g it fs) q ρ st = kCo G q own e g fs ρ (evI G it ρ st) := by rw [evT]; rfl
theorem kCo_ok (own : List Nat) (e : T) (g : Tg) (fs : Ts) (s : Its) : kCo G q own e g fs ρ (some (.ok s, st)) = kCo2 q (cmpF s (eltC G own e g fs ρ) s.items st) := rfl
theorem kCo2_ok (vs : List Vl) : kCo2 q (some (.ok vs, st)) = fin q (mkList q.isL vs st) := rfl
noncomputable def eltC2 (G : Cfg) (own own2 : List Nat) (e : T) (g : Tg) (fs : Ts) (g2 : Tg) (it2 : It) (fs2 : Ts) (ρ : Env) (v : Vl) (st : Store) : Rs (List Vl) := match stG G g v (wipeE ρ own) st with
      | some (ρ1, st3) => bndB (evF G fs ρ1 st3) fun c st4 => match c with
        | true => bnd (evI G it2 ρ1 st4) fun s2 st5 => cmpF s2 (eltC G own2 e g2 fs2 ρ1) s2.items st5
        | false => some (.ok [], st4)
      | none => none
noncomputable def kCC (G : Cfg) (q : Md) (own own2 : List Nat) (e : T) (g : Tg) (fs : Ts) (g2 : Tg) (it2 : It) (fs2 : Ts) (ρ : Env) (r : Rs Its) : Rs Vl := fin q (bnd r fun s st1 => bnd (noErr (cmpFF s (eltC2 G own own2 e g fs g2 it2 fs2 ρ) s.items st1)) fun vs st2 => mkList q.isL vs st2)
theorem evT_comp2 (own own2 : List Nat) (e : T) (g : Tg) (it : It) (fs : Ts) (g2 : Tg) (it2 : It) (fs2 : Ts) : evT G (.comp2 own own2 e g it fs g2 it2 fs2) q ρ st = kCC G q own own2 e g fs g2 it2 fs2 ρ (evI G it ρ st) := by rw [evT]; rfl
theorem kCC_ok (own own2 : List Nat) (e : T) (g : Tg) (fs : Ts) (g2 : Tg) (it2 : It) (fs2 : Ts) (s : Its) : kCC G q own own2 e g fs g2 it2 fs2 ρ (some (.ok s, st)) = kCo2 q (cmpFF s (eltC2 G own own2 e g fs g2 it2 fs2 ρ) s.items st) := rfl
noncomputable def kD1 (G : Cfg) (own2 : List Nat) (e : T) (fs : Ts) (g2 : Tg) (it2 : It) (fs2 : Ts) (o : Option (Env × Store)) : Rs (List Vl) := match o with
      | some (ρ1, st3) => bndB (evF G fs ρ1 st3) fun c st4 => match c with
        | true => bnd (evI G it2 ρ1 st4) fun s2 st5 => cmpF s2 (eltC G own2 e g2 fs2 ρ1) s2.items st5
        | false => some (.ok [], st4)
      | none => none
noncomputable def kD2 (G : Cfg) (own2 : List Nat) (e : T) (g2 : Tg) (it2 : It) (fs2 : Ts) (ρ1 : Env) (r : Rs Vl) : Rs (List Vl) := bndB r fun c st4 => match c with
        | true => bnd (evI G it2 ρ1 st4) fun s2 st5 => cmpF s2 (eltC G own2 e g2 fs2 ρ1) s2.items st5
        | false => some (.ok [], st4)
noncomputable def kD3 (G : Cfg) (own2 : List Nat) (e : T) (g2 : Tg) (fs2 : Ts) (ρ1 : Env) (r : Rs Its) : Rs (List Vl) := bnd r fun s2 st5 => cmpF s2 (eltC G own2 e g2 fs2 ρ1) s2.items st5
theorem eltC2_eq (own own2 : List Nat) (e : T) (g : Tg) (fs : Ts) (g2 : Tg) (it2 : It) (fs2 : Ts) (v : Vl) : eltC2 G own own2 e g fs g2 it2 fs2 ρ v st = kD1 G own2 e fs g2 it2 fs2 (stG G g v (wipeE ρ own) st) := rfl
theorem kD1_ok (own2 : List Nat) (e : T) (fs : Ts) (g2 : Tg) (it2 : It) (fs2 : Ts) : kD1 G own2 e fs g2 it2 fs2 (some (ρ, st)) = kD2 G own2 e g2 it2 fs2 ρ (evF G fs ρ st) := rfl
theorem kD2_t (own2 : List Nat) (e : T) (g2 : Tg) (it2 : It) (fs2 : Ts) : kD2 G own2 e g2 it2 fs2 ρ (some (.ok (.d (.bl true)), st)) = kD3 G own2 e g2 fs2 ρ (evI G it2 ρ st) := rfl
theorem kD2_f (own2 : List Nat) (e : T) (g2 : Tg) (it2 : It) (fs2 : Ts) : kD2 G own2 e g2 it2 fs2 ρ (some (.ok (.d (.bl false)), st)) = some (.ok [], st) := rfl
theorem kD3_ok (own2 : List Nat) (e : T) (g2 : Tg) (fs2 : Ts) (s : Its) : kD3 G own2 e g2 fs2 ρ (some (.ok s, st)) = cmpF s (eltC G own2 e g2 fs2 ρ) s.items st := rfl
end
section
variable {G : Cfg} {m : Bool} {q : Md} {st : Store}
theorem add_int (i j : Int) : binV G m .add (.d (.int i)) (.d (.int j)) st = some (.ok (.d (.int (i + j))), st) := rfl
theorem sub_int (i j : Int) : binV G m .sub (.d (.int i)) (.d (.int j)) st = some (.ok (.d (.int (i - j))), st) := rfl
theorem mul_int {i j : Int} (h : mulOk i j = true) : binV G m .mul (.d (.int i)) (.d (.int j)) st = some (.ok (.d (.int (i * j))), st) := by
  unfold binV; dsimp only [peek, binD, binI]; rw [if_pos h]; rfl
theorem fdiv_int {i j : Int} (h : divOk j = true) : binV G m .fdiv (.d (.int i)) (.d (.int j)) st = some (.ok (.d (.int (i / j))), st) := by
  unfold binV; dsimp only [peek, binD, binI]; rw [if_pos h]; rfl
theorem mod_int {i j : Int} (h : 0 < j) : binV G m .mod (.d (.int i)) (.d (.int j)) st = some (.ok (.d (.int (i % j))), st) := by
  unfold binV; dsimp only [peek, binD, binI]; rw [if_pos h]; rfl
theorem pow_int {i j : Int} (h : powOk i j = true) : binV G m .pow (.d (.int i)) (.d (.int j)) st = some (.ok (.d (.int (i ^ j.toNat))), st) := by
  unfold binV; dsimp only [peek, binD, binI]; rw [if_pos h]; rfl
theorem add_str {a b : Str} (h : a.length + b.length ≤ 16777216) : binV G m .add (.d (.str a)) (.d (.str b)) st = some (.ok (.d (.str (a ++ b))), st) := by
  unfold binV; dsimp only [peek, binD]; rw [if_pos (show _ ≤ SZ from h)]; rfl
theorem mul_str {a : Str} {k : Int} (h1 : 1 ≤ k) (h2 : k ≤ 1000000) (h3 : a.length * k.toNat ≤ 16777216) : binV G m .mul (.d (.str a)) (.d (.int k)) st = some (.ok (.d (.str (repS a k))), st) := by
  unfold binV; dsimp only [peek, binD]; rw [if_pos ⟨h1, h2, h3⟩]; rfl
theorem add_tup {a b : List D} (h : a.length + b.length ≤ 16777216) : binV G m .add (.d (.tup a)) (.d (.tup b)) st = some (.ok (.d (.tup (a ++ b))), st) := by
  unfold binV; dsimp only [peek, binD]; rw [if_pos (show _ ≤ SZ from h)]; rfl
theorem add_lst {a b : List D} (h : a.length + b.length ≤ 16777216) : binV G m .add (.d (.lst a)) (.d (.lst b)) st = mkList m ((a ++ b).map .d) st := by
  unfold binV; dsimp only [peek, binD]; rw [if_pos (show _ ≤ SZ from h)]
def kBP (G : Cfg) (m : Bool) (o : Bop) (x y : Option D) (st : Store) : Rs Vl := match x, y with
    | some a, some b => match binD o a b with
      | some (.inl d) => ret1 d st
      | some (.inr ds) => mkList m (ds.map .d) st
      | none => none
    | _, _ => none
theorem bin_loc (o : Bop) (n : Nat) (y : Vl) : binV G m o (.loc n) y st = kBP G m o (st[n]?.bind MO.toD) (peek st y) st := by
  unfold binV kBP
  dsimp only [peek]
  cases st[n]? <;> rfl
theorem bin_lloc (o : Bop) (n : Nat) (ds : List D) : binV G m o (.d (.lst ds)) (.loc n) st = kBP G m o (some (.lst ds)) (st[n]?.bind MO.toD) st := by
  unfold binV kBP
  dsimp only [peek]
  cases st[n]? <;> rfl
theorem kBP_d (o : Bop) (a b : D) : kBP G m o (some a) (some b) st = match binD o a b with
      | some (.inl d) => ret1 d st
      | some (.inr ds) => mkList m (ds.map .d) st
      | none => none := rfl
theorem kBP_add {a b : List D} (h : a.length + b.length ≤ 16777216) : kBP G m .add (some (.lst a)) (some (.lst b)) st = mkList m ((a ++ b).map .d) st := by
  unfold kBP; dsimp only [binD]; rw [if_pos (show _ ≤ SZ from h)]
theorem mul_lst {a : List D} {k : Int} (h : a.length * k.toNat ≤ 16777216) (h1 : -(2 ^ 63) ≤ k) (h2 : k < 2 ^ 63) : binV G m .mul (.d (.lst a)) (.d (.int k)) st = mkList m ((rep a k).map .d) st := by
  unfold binV; dsimp only [peek, binD]; rw [if_pos ⟨show _ ≤ SZ from h, h1, h2⟩]
theorem lt_int (i j : Int) : cmpV G .lt (.d (.int i)) (.d (.int j)) st = some (.ok (.d (.bl (decide (i < j)))), st) := rfl
theorem le_int (i j : Int) : cmpV G .le (.d (.int i)) (.d (.int j)) st = some (.ok (.d (.bl (decide (i ≤ j)))), st) := rfl
theorem gt_int (i j : Int) : cmpV G .gt (.d (.int i)) (.d (.int j)) st = some (.ok (.d (.bl (decide (j < i)))), st) := rfl
theorem ge_int (i j : Int) : cmpV G .ge (.d (.int i)) (.d (.int j)) st = some (.ok (.d (.bl (decide (j ≤ i)))), st) := rfl
theorem shp_noobj {a : D} (h : a.shp = true) : ∀ C fs, a ≠ .obj C fs := by
  intro C fs e
  subst e
  cases h
theorem eq_d {a b : D} (h1 : a.shp = true) (h2 : b.shp = true) : cmpV G .eq (.d a) (.d b) st = some (.ok (.d (.bl (D.eqv a b))), st) := by
  have e : cmpV G .eq (.d a) (.d b) st = cmpP .eq (.d a) (.d b) st := by
    cases a <;> first | rfl | exact absurd rfl (shp_noobj h1 _ _)
  rw [e]
  unfold cmpP
  dsimp only [peek, cmpD]
  unfold D.eqq
  rw [h1, h2]
  rfl
theorem ne_d {a b : D} (h1 : a.shp = true) (h2 : b.shp = true) : cmpV G .ne (.d a) (.d b) st = some (.ok (.d (.bl (!D.eqv a b))), st) := by
  unfold cmpV cmpP
  dsimp only [peek, cmpD]
  unfold D.eqq
  rw [h1, h2]
  rfl
theorem eq_int (i j : Int) : cmpV G .eq (.d (.int i)) (.d (.int j)) st = some (.ok (.d (.bl (decide (i = j)))), st) := rfl
theorem ne_int (i j : Int) : cmpV G .ne (.d (.int i)) (.d (.int j)) st = some (.ok (.d (.bl (!decide (i = j)))), st) := rfl
theorem is_non (d : D) : cmpV G .is (.d d) (.d .non) st = some (.ok (.d (.bl d.isNon)), st) := rfl
theorem isnot_non (d : D) : cmpV G .isnot (.d d) (.d .non) st = some (.ok (.d (.bl (!d.isNon))), st) := rfl
def kP1 (o : Cop) (y : Vl) (st : Store) (x : Option D) : Rs Vl := match x with
  | some a => match peek st y with
    | some b => match cmpD o a b with
      | some c => ret1 (.bl c) st
      | none => none
    | none => none
  | none => none
def kP2 (o : Cop) (a : D) (st : Store) (y : Option D) : Rs Vl := match y with
    | some b => match cmpD o a b with
      | some c => ret1 (.bl c) st
      | none => none
    | none => none
def kP3 (st : Store) (o : Option Bool) : Rs Vl := match o with
      | some c => ret1 (.bl c) st
      | none => none
theorem cmpP_eq (o : Cop) (x y : Vl) : cmpP o x y st = kP1 o y st (peek st x) := rfl
theorem kP1_ok (o : Cop) (y : Vl) (a : D) : kP1 o y st (some a) = kP2 o a st (peek st y) := rfl
theorem kP2_ok (o : Cop) (a b : D) : kP2 o a st (some b) = kP3 st (cmpD o a b) := rfl
theorem kP3_ok (b : Bool) : kP3 st (some b) = some (.ok (.d (.bl b)), st) := rfl
theorem peek_d (d : D) : peek st (.d d) = some d := rfl
theorem peek_loc (n : Nat) : peek st (.loc n) = st[n]?.bind MO.toD := by
  unfold peek
  dsimp only
  cases st[n]? <;> rfl
theorem cmp_eq_loc (n : Nat) (y : Vl) : cmpV G .eq (.loc n) y st = cmpP .eq (.loc n) y st := rfl
theorem cmp_ne (x y : Vl) : cmpV G .ne x y st = cmpP .ne x y st := rfl
theorem cmp_eq_l (ds : List D) (y : Vl) : cmpV G .eq (.d (.lst ds)) y st = cmpP .eq (.d (.lst ds)) y st := rfl
theorem cmp_eq_t (ds : List D) (y : Vl) : cmpV G .eq (.d (.tup ds)) y st = cmpP .eq (.d (.tup ds)) y st := rfl
theorem cmpD_eq {a b : D} (h1 : a.shp = true) (h2 : b.shp = true) : cmpD .eq a b = some (D.eqv a b) := by
  unfold cmpD D.eqq
  rw [h1, h2]; rfl
theorem cmpD_ne {a b : D} (h1 : a.shp = true) (h2 : b.shp = true) : cmpD .ne a b = some (!D.eqv a b) := by
  unfold cmpD D.eqq
  rw [h1, h2]; rfl
theorem in_d {a b : D} (h : ∀ C fs, b ≠ .obj C fs) : cmpV G .isin (.d a) (.d b) st = kP3 st (inD a b) := by
  unfold cmpV
  cases b <;> first | rfl | exact absurd rfl (h _ _)
theorem notin_d (a b : D) : cmpV G .notin (.d a) (.d b) st = kP3 st ((inD a b).map (!·)) := rfl
def kInL (b : Bool) (k : D) (st : Store) (o : Option MO) : Rs Vl := match o with
  | some (.dct kvs) => if k.scal then ret1 (.bl (if b then !(dlook kvs k).isSome else (dlook kvs k).isSome)) st else none
  | some (.lst xs) => match dats xs with
    | some ds => match inD k (.lst ds) with
      | some c => ret1 (.bl (if b then !c else c)) st
      | none => none
    | none => none
  | _ => none
def kInL2 (b : Bool) (k : D) (st : Store) (o : Option (List D)) : Rs Vl := match o with
    | some ds => match inD k (.lst ds) with
      | some c => ret1 (.bl (if b then !c else c)) st
      | none => none
    | none => none
def kInL3 (b : Bool) (st : Store) (o : Option Bool) : Rs Vl := match o with
      | some c => ret1 (.bl (if b then !c else c)) st
      | none => none
theorem in_loc (a : D) (n : Nat) : cmpV G .isin (.d a) (.loc n) st = kInL false a st st[n]? := rfl
theorem notin_loc (a : D) (n : Nat) : cmpV G .notin (.d a) (.loc n) st = kInL true a st st[n]? := rfl
theorem kInL_lst (b : Bool) (k : D) (xs : List Vl) : kInL b k st (some (.lst xs)) = kInL2 b k st (dats xs) := rfl
theorem kInL_dct {b : Bool} {k : D} (h : k.scal = true) (kvs : List (D × Vl)) : kInL b k st (some (.dct kvs)) = some (.ok (.d (.bl (if b then !(dlook kvs k).isSome else (dlook kvs k).isSome))), st) := by
  unfold kInL; dsimp only; rw [if_pos h]; rfl
theorem kInL2_ok (b : Bool) (k : D) (ds : List D) : kInL2 b k st (some ds) = kInL3 b st (inD k (.lst ds)) := rfl
theorem kInL3_f (c : Bool) : kInL3 false st (some c) = some (.ok (.d (.bl c)), st) := rfl
theorem kInL3_t (c : Bool) : kInL3 true st (some c) = some (.ok (.d (.bl (!c))), st) := rfl
theorem inD_lst {x : D} {ds : List D} (h1 : x.shp = true) (h2 : (D.lst ds).shp = true) : inD x (.lst ds) = some (ds.any fun z => D.eqv z x) := by
  unfold inD; dsimp only; rw [h1, h2]; rfl
theorem inD_tup {x : D} {ds : List D} (h1 : x.flat = true) (h2 : ds.all D.flat = true) : inD x (.tup ds) = some (ds.any fun z => D.eqv z x) := by
  unfold inD; dsimp only; rw [h1, h2]; rfl
theorem inD_ch (c : Nat) (z : Str) : inD (.str ⟨#[c]⟩) (.str z) = some (decide (c ∈ z.cps.toList)) := rfl
theorem inD_dct (k : Str) (kvs : List (D × D)) : inD (.str k) (.dct kvs) = some (kvs.any fun kv => D.eqv kv.1 (.str k)) := rfl
/- subscripts -/
def kAt (st : Store) (o : Option D) : Rs Vl := match o with
    | some d => ret1 d st
    | none => none
theorem ix_lst (ds : List D) (k : Int) : ixV (.d (.lst ds)) (.d (.int k)) st = kAt st (atI ds k) := rfl
theorem ixTup (ds : List D) (k : Int) : ixV (.d (.tup ds)) (.d (.int k)) st = kAt st (atI ds k) := rfl
theorem kAt_ok (d : D) : kAt st (some d) = some (.ok (.d d), st) := rfl
def kAtS (st : Store) (o : Option Nat) : Rs Vl := match o with
    | some c => ret1 (.str ⟨#[c]⟩) st
    | none => none
theorem ixStr {z : Str} (h : z.length ≤ 16777216) (k : Int) : ixV (.d (.str z)) (.d (.int k)) st = kAtS st (atI z.cps.toList k) := by
  unfold ixV; dsimp only; rw [if_pos (show z.length ≤ SZ from h)]; rfl
theorem kAtS_ok (c : Nat) : kAtS st (some c) = some (.ok (.d (.str ⟨#[c]⟩)), st) := rfl
def kIxL (k : D) (st : Store) (o : Option MO) : Rs Vl := match o with
    | some (.lst xs) => match k with
      | .int k => match atI xs k with
        | some v => some (.ok v, st)
        | none => none
      | _ => none
    | some (.dct kvs) => if k.scal then (match dlook kvs k with
      | some v => some (.ok v, st)
      | none => none) else none
    | _ => none
def kAtV (st : Store) (o : Option Vl) : Rs Vl := match o with
    | some v => some (.ok v, st)
    | none => none
theorem ix_loc (n : Nat) (k : D) : ixV (.loc n) (.d k) st = kIxL k st st[n]? := rfl
theorem kIxL_lst (k : Int) (xs : List Vl) : kIxL (.int k) st (some (.lst xs)) = kAtV st (atI xs k) := rfl
theorem kIxL_dct {k : D} (h : k.scal = true) (kvs : List (D × Vl)) : kIxL k st (some (.dct kvs)) = kAtV st (dlook kvs k) := by
  unfold kIxL; dsimp only; rw [if_pos h]; rfl
theorem kAtV_ok (v : Vl) : kAtV st (some v) = some (.ok v, st) := rfl
def kDk (st : Store) (o : Option (D × D)) : Rs Vl := match o with
    | some kv => ret1 kv.2 st
    | none => none
theorem ix_dct (kvs : List (D × D)) (k : Str) : ixV (.d (.dct kvs)) (.d (.str k)) st = kDk st (kvs.find? fun kv => D.eqv kv.1 (.str k)) := rfl
theorem kDk_ok (a b : D) : kDk st (some (a, b)) = some (.ok (.d b), st) := rfl
theorem ixN_nat {n : Nat} {i : Int} (h : 0 ≤ i) (h2 : i < n) : ixN n i = some i.toNat := by
  unfold ixN; rw [if_pos h, if_pos h2]
theorem ixN_neg {n : Nat} {i : Int} (h : i < 0) (h2 : -(n : Int) ≤ i) : ixN n i = some (i + n).toNat := by
  unfold ixN; rw [if_neg (by omega), if_pos h2]
theorem atI_nat {α : Type} {xs : List α} {i : Int} (h : 0 ≤ i) (h2 : i < xs.length) : atI xs i = xs[i.toNat]? := by
  unfold atI; rw [ixN_nat h h2]; rfl
theorem atI_neg {α : Type} {xs : List α} {i : Int} (h : i < 0) (h2 : -(xs.length : Int) ≤ i) : atI xs i = xs[(i + xs.length).toNat]? := by
  unfold atI; rw [ixN_neg h h2]; rfl
theorem at0 {α : Type} (a : α) (r : List α) : atI (a :: r) 0 = some a := by
  rw [atI_nat (by omega) (by simp only [List.length_cons]; omega)]; rfl
theorem at1 {α : Type} (a b : α) (r : List α) : atI (a :: b :: r) 1 = some b := by
  rw [atI_nat (by omega) (by simp only [List.length_cons]; omega)]; rfl
theorem at2 {α : Type} (a b c : α) (r : List α) : atI (a :: b :: c :: r) 2 = some c := by
  rw [atI_nat (by omega) (by simp only [List.length_cons]; omega)]; rfl
theorem at3 {α : Type} (a b c d : α) (r : List α) : atI (a :: b :: c :: d :: r) 3 = some d := by
  rw [atI_nat (by omega) (by simp only [List.length_cons]; omega)]; rfl
theorem atm1 {α : Type} (l : List α) (a : α) : atI (l ++ [a]) (-1) = some a := by
  rw [atI_neg (by omega) (by simp only [List.length_append, List.length_cons, List.length_nil]; omega)]
  have : (-1 + ((l ++ [a]).length : Int)).toNat = l.length := by simp only [List.length_append, List.length_cons, List.length_nil]; omega
  rw [this]
  simp
/- slices -/
def kSc (m : Bool) (lo hi : Option Int) (st : Store) (o : Option D) : Rs Vl := match o with
  | some (.lst ds) => mkList m ((cutL ds lo hi).map .d) st
  | some (.tup ds) => ret1 (.tup (cutL ds lo hi)) st
  | some (.str z) => if z.length ≤ SZ then ret1 (.str ⟨(cutL z.cps.toList lo hi).toArray⟩) st else none
  | _ => none
theorem slcV_eq (x : Vl) (lo hi : Option Int) : slcV m x lo hi st = kSc m lo hi st (peek st x) := rfl
theorem kSc_lst (lo hi : Option Int) (ds : List D) : kSc m lo hi st (some (.lst ds)) = mkList m ((cutL ds lo hi).map .d) st := rfl
theorem kSc_tup (lo hi : Option Int) (ds : List D) : kSc m lo hi st (some (.tup ds)) = some (.ok (.d (.tup (cutL ds lo hi))), st) := rfl
theorem kSc_str (lo hi : Option Int) {z : Str} (h : z.length ≤ 16777216) : kSc m lo hi st (some (.str z)) = some (.ok (.d (.str ⟨(cutL z.cps.toList lo hi).toArray⟩)), st) := by
  unfold kSc; dsimp only; rw [if_pos (show z.length ≤ SZ from h)]; rfl
/- built-ins -/
theorem len_lst (ds : List D) : bi1 m "len" (.d (.lst ds)) st = some (.ok (.d (.int ds.length)), st) := rfl
theorem len_tup (ds : List D) : bi1 m "len" (.d (.tup ds)) st = some (.ok (.d (.int ds.length)), st) := rfl
theorem len_str {z : Str} (h : z.length ≤ 16777216) : bi1 m "len" (.d (.str z)) st = some (.ok (.d (.int z.length)), st) := by
  unfold bi1; dsimp only; rw [if_pos (show z.length ≤ SZ from h)]
  try rfl
def kLn (st : Store) (o : Option MO) : Rs Vl := match o with
      | some (.lst xs) => ret1 (.int xs.length) st
      | some (.dct kvs) => ret1 (.int kvs.length) st
      | _ => none
theorem len_loc (n : Nat) : bi1 m "len" (.loc n) st = kLn st st[n]? := rfl
theorem kLn_lst (xs : List Vl) : kLn st (some (.lst xs)) = some (.ok (.d (.int xs.length)), st) := rfl
theorem kLn_dct (xs : List (D × Vl)) : kLn st (some (.dct xs)) = some (.ok (.d (.int xs.length)), st) := rfl
theorem int_int (i : Int) : bi1 m "int" (.d (.int i)) st = some (.ok (.d (.int i)), st) := rfl
theorem int_bl (b : Bool) : bi1 m "int" (.d (.bl b)) st = some (.ok (.d (.int (if b then 1 else 0))), st) := rfl
def kLi (m : Bool) (st : Store) (o : Option D) : Rs Vl := match o with
    | some (.lst ds) => mkList m (ds.map .d) st
    | some (.tup ds) => mkList m (ds.map .d) st
    | _ => none
theorem list_eq (x : Vl) : bi1 m "list" x st = kLi m st (peek st x) := rfl
theorem kLi_lst (ds : List D) : kLi m st (some (.lst ds)) = mkList m (ds.map .d) st := rfl
theorem kLi_tup (ds : List D) : kLi m st (some (.tup ds)) = mkList m (ds.map .d) st := rfl
def kTu (st : Store) (o : Option D) : Rs Vl := match o with
    | some (.lst ds) => ret1 (.tup ds) st
    | some (.tup ds) => ret1 (.tup ds) st
    | _ => none
theorem tuple_eq (x : Vl) : bi1 m "tuple" x st = kTu st (peek st x) := rfl
theorem kTu_lst (ds : List D) : kTu st (some (.lst ds)) = some (.ok (.d (.tup ds)), st) := rfl
theorem kTu_tup (ds : List D) : kTu st (some (.tup ds)) = some (.ok (.d (.tup ds)), st) := rfl
def kDI (f : List Int → Rs Vl) (o : Option D) : Rs Vl := match o with
    | some (.lst ds) => match dInts ds with
      | some ns => f ns
      | none => none
    | _ => none
theorem dInts_map {α : Type} (f : α → Int) (l : List α) : dInts (l.map fun a => .int (f a)) = some (l.map f) := by
  induction l with
  | nil => rfl
  | cons a r ih => rw [List.map_cons]; unfold dInts; rw [ih]; rfl
theorem dInts_mapi (l : List Int) : dInts (l.map .int) = some l := by
  have := dInts_map (fun d => d) l
  rw [List.map_id'] at this
  exact this
theorem dBools_map {α : Type} (f : α → Bool) (l : List α) : dBools (l.map fun a => .bl (f a)) = some (l.map f) := by
  induction l with
  | nil => rfl
  | cons a r ih => rw [List.map_cons]; unfold dBools; rw [ih]; rfl
theorem dStrs_mapi (l : List Str) : dStrs (l.map .str) = some l := by
  induction l with
  | nil => rfl
  | cons a r ih => rw [List.map_cons]; unfold dStrs; rw [ih]
theorem sum_lst {ds : List D} {ns : List Int} (h : dInts ds = some ns) : bi1 m "sum" (.d (.lst ds)) st = some (.ok (.d (.int ns.sum)), st) := by
  unfold bi1; dsimp only [peek]; rw [h]; rfl
theorem all_lst {ds : List D} {ns : List Bool} (h : dBools ds = some ns) : bi1 m "all" (.d (.lst ds)) st = some (.ok (.d (.bl (ns.all id))), st) := by
  unfold bi1; dsimp only [peek]; rw [h]; rfl
theorem any_lst {ds : List D} {ns : List Bool} (h : dBools ds = some ns) : bi1 m "any" (.d (.lst ds)) st = some (.ok (.d (.bl (ns.any id))), st) := by
  unfold bi1; dsimp only [peek]; rw [h]; rfl
theorem max_lst {ds : List D} {n : Int} {ns : List Int} (h : dInts ds = some (n :: ns)) : bi1 m "max" (.d (.lst ds)) st = some (.ok (.d (.int (maxL n ns))), st) := by
  unfold bi1; dsimp only [peek]; rw [h]; rfl
theorem min_lst {ds : List D} {n : Int} {ns : List Int} (h : dInts ds = some (n :: ns)) : bi1 m "min" (.d (.lst ds)) st = some (.ok (.d (.int (minL n ns))), st) := by
  unfold bi1; dsimp only [peek]; rw [h]; rfl
theorem max_2 (i j : Int) : bi2 "max" (.d (.int i)) (.d (.int j)) st = some (.ok (.d (.int (if j > i then j else i))), st) := rfl
theorem min_2 (i j : Int) : bi2 "min" (.d (.int i)) (.d (.int j)) st = some (.ok (.d (.int (if j < i then j else i))), st) := rfl
/- isinstance -/
theorem is_bt {c : String} (x : D) (h : btys.contains c = true) : isV G st c (.d x) = match x with
    | .non => some false
    | .bl _ => some (c == "bool" || c == "int")
    | .int _ => some (c == "int")
    | .str _ => some (c == "str")
    | .tup _ => some (c == "tuple")
    | .lst _ => some (c == "list")
    | .obj C _ => if G.cls C then some (c == C) else none
    | _ => none := by
  unfold isV; rw [h, Bool.or_true, if_pos rfl]; cases x <;> rfl
theorem is_own {c : String} (x : D) (h : G.cls c = true) : isV G st c (.d x) = match x with
    | .non => some false
    | .bl _ => some (c == "bool" || c == "int")
    | .int _ => some (c == "int")
    | .str _ => some (c == "str")
    | .tup _ => some (c == "tuple")
    | .lst _ => some (c == "list")
    | .obj C _ => if G.cls C then some (c == C) else none
    | _ => none := by
  unfold isV; rw [h, Bool.true_or, if_pos rfl]; cases x <;> rfl
def kIsL (G : Cfg) (c : String) (o : Option MO) : Option Bool := match o with
    | some (.lst _) => some (c == "list")
    | some (.ins C _) => if G.cls C then some (c == C) else none
    | _ => none
theorem is_loc {c : String} (n : Nat) (h : btys.contains c = true) : isV G st c (.loc n) = kIsL G c st[n]? := by
  unfold isV; rw [h, Bool.or_true, if_pos rfl]; rfl
theorem kIsL_lst (c : String) (xs : List Vl) : kIsL G c (some (.lst xs)) = some (c == "list") := rfl
/- methods -/
theorem rcv_str (f : String) (x : Str) : rcv G f st (.d (.str x)) = if bmB "str" f then some .str else none := rfl
theorem rcv_lst (f : String) (ds : List D) : rcv G f st (.d (.lst ds)) = if bmB "list" f then some .lst else none := rfl
theorem bm_join : bmB "str" "join" = true := rfl
theorem bm_app : bmB "list" "append" = true := rfl
theorem bm_ext : bmB "list" "extend" = true := rfl
theorem bm_pop : bmB "list" "pop" = true := rfl
theorem bm_index : bmB "list" "index" = true := rfl
theorem rcv_obj {f C h : String} {fs : List (String × D)} (h1 : lookF f fs = none) (h2 : G.meth C f = some h) : rcv G f st (.d (.obj C fs)) = some (.own C) := by
  unfold rcv; dsimp only; rw [h1, h2]; rfl
def kRc (G : Cfg) (f : String) (o : Option MO) : Option RK := match o with
    | some (.ins C fs) => if (lookF f fs).isNone && (G.meth C f).isSome then some (.own C) else none
    | some (.lst _) => if bmB "list" f then some .lst else none
    | _ => none
theorem rcv_loc (f : String) (n : Nat) : rcv G f st (.loc n) = kRc G f st[n]? := rfl
theorem kRc_lst (f : String) (xs : List Vl) : kRc G f (some (.lst xs)) = if bmB "list" f then some .lst else none := rfl
theorem kRc_ins {f C h : String} {fs : List (String × Vl)} (h1 : lookF f fs = none) (h2 : G.meth C f = some h) : kRc G f (some (.ins C fs)) = some (.own C) := by
  unfold kRc; dsimp only; rw [h1, h2]; rfl
def kMl (n : Nat) (f : String) (vs : List Vl) (st : Store) (o : Option MO) : Rs Vl := match o with
    | some o => methL n o f vs st
    | none => none
theorem meth_loc (n : Nat) (f : String) (vs : List Vl) : methV m (.loc n) f vs st = kMl n f vs st st[n]? := rfl
theorem meth_d (x : D) (f : String) (vs : List Vl) : methV m (.d x) f vs st = methD m x f vs st := rfl
theorem app_d {n : Nat} {xs : List Vl} {d : D} (h : xs.length < 16777216) : kMl n "append" [.d d] st (some (.lst xs)) = some (.ok (.d .non), st.set n (.lst (xs ++ [.d d]))) := by
  show (if okv (.d d) && decide (xs.length < SZ) then some (Out.ok (Vl.d D.non), st.set n (.lst (xs ++ [.d d]))) else none) = _
  rw [if_pos (by simp only [okv, Bool.true_and, decide_eq_true_eq]; exact h)]
theorem app_loc {n k : Nat} {xs : List Vl} (h : xs.length < 16777216) : kMl n "append" [.loc k] st (some (.lst xs)) = some (.ok (.d .non), st.set n (.lst (xs ++ [.loc k]))) := by
  show (if okv (.loc k) && decide (xs.length < SZ) then some (Out.ok (Vl.d D.non), st.set n (.lst (xs ++ [.loc k]))) else none) = _
  rw [if_pos (by simp only [okv, Bool.true_and, decide_eq_true_eq]; exact h)]
theorem ext_d {n : Nat} {xs : List Vl} {ds : List D} (h : xs.length + ds.length ≤ 16777216) : kMl n "extend" [.d (.lst ds)] st (some (.lst xs)) = some (.ok (.d .non), st.set n (.lst (xs ++ ds.map .d))) := by
  show (if decide (xs.length + ds.length ≤ SZ) then some (Out.ok (Vl.d D.non), st.set n (.lst (xs ++ ds.map .d))) else none) = _
  rw [if_pos (decide_eq_true (show _ ≤ SZ from h))]
theorem pop_l (n : Nat) (xs : List Vl) (v : Vl) : kMl n "pop" [] st (some (.lst (xs ++ [v]))) = some (.ok v, st.set n (.lst xs)) := by
  unfold kMl methL; simp
theorem join_l {z : Str} {xs : List Str} (h : (xs.map (·.length)).sum + xs.length * z.length ≤ 16777216) : methD m (.str z) "join" [.d (.lst (xs.map .str))] st = some (.ok (.d (.str (Txt.join z xs))), st) := by
  show (match dStrs (xs.map D.str) with
      | some (xs : List Str) => if (xs.map (fun (y : Str) => y.length)).sum + xs.length * z.length ≤ SZ then ret1 (.str (Txt.join z xs)) st else none
      | none => none) = _
  rw [dStrs_mapi]; dsimp only; rw [if_pos (show _ ≤ SZ from h)]; rfl
theorem index_l {ds : List D} {k : D} {j : Nat} (h1 : k.shp = true) (h2 : (D.lst ds).shp = true) (h : (ds.findIdx? fun z => D.eqv z k) = some j) : methD m (.lst ds) "index" [.d k] st = some (.ok (.d (.int j)), st) := by
  show (if k.shp && (D.lst ds).shp then (match ds.findIdx? fun z => D.eqv z k with
    | some j => ret1 (.int j) st
    | none => none) else none) = _
  rw [h1, h2, h]; rfl
theorem index_loc {n : Nat} {xs : List Vl} {ds : List D} {k : D} {j : Nat} (h0 : dats xs = some ds) (h1 : k.shp = true) (h2 : (D.lst ds).shp = true) (h : (ds.findIdx? fun z => D.eqv z k) = some j) : kMl n "index" [.d k] st (some (.lst xs)) = some (.ok (.d (.int j)), st) := by
  show (match dats xs with
    | some ds => methD false (.lst ds) "index" [.d k] st
    | none => none) = _
  rw [h0]; exact index_l h1 h2 h
end
section
variable {P : Pg} {c : Fns}
noncomputable def kRun (g : Fn) (st : Store) (r : RS) : Rs Vl := match r with
    | some (fl, _, st1) => leave g st fl st1
    | none => none
theorem run_eq {g : Fn} {args : List Vl} {st : Store} (h : args.length = g.np) (hd : args.length + g.dfl.length - g.np = g.dfl.length) : runFn P c g args st = kRun g st (evSs (P.cfg c) P.exF g.body (args.map some ++ List.replicate (g.nn - g.np) none) st) := by
  unfold runFn
  dsimp only
  rw [hd, List.drop_length, List.map_nil, List.append_nil, if_pos h]
  rfl
/-- with defaults -/
theorem run_dfl {g : Fn} {args : List Vl} {st : Store} (as : List Vl) (h : args ++ (g.dfl.drop (args.length + g.dfl.length - g.np)).map Vl.d = as) (h2 : as.length = g.np) : runFn P c g args st = kRun g st (evSs (P.cfg c) P.exF g.body (as.map some ++ List.replicate (g.nn - g.np) none) st) := by
  unfold runFn
  dsimp only
  rw [h, if_pos h2]
  rfl
theorem leave_next {g : Fn} {st : Store} {ρ : Env} (h : g.keep = false) (l : List MO) : kRun g st (some (.next, ρ, st ++ l)) = some (.ok (.d .non), st) := by
  unfold kRun leave shut
  dsimp only
  rw [h, take_A, if_neg Bool.false_ne_true, if_pos rfl]
theorem leave_next0 {g : Fn} {st : Store} {ρ : Env} (h : g.keep = false) : kRun g st (some (.next, ρ, st)) = some (.ok (.d .non), st) := by
  have := leave_next (ρ := ρ) (st := st) h []
  rw [List.append_nil] at this
  exact this
theorem leave_d {g : Fn} {st : Store} {ρ : Env} (h : g.keep = false) (d : D) (l : List MO) : kRun g st (some (.ret (.d d), ρ, st ++ l)) = some (.ok (.d d), st) := by
  unfold kRun leave shut
  dsimp only
  rw [h, take_A, if_neg Bool.false_ne_true, if_pos rfl]
theorem leave_d0 {g : Fn} {st : Store} {ρ : Env} (h : g.keep = false) (d : D) : kRun g st (some (.ret (.d d), ρ, st)) = some (.ok (.d d), st) := by
  have := leave_d (ρ := ρ) (st := st) h d []
  rw [List.append_nil] at this
  exact this
theorem leave_loc {g : Fn} {st : Store} {ρ : Env} (h : g.keep = false) (h2 : g.rloc = false) (l : List MO) (k : Nat) {o : MO} {d : D} (e : l[k]? = some o) (ed : o.toD = some d) : kRun g st (some (.ret (.loc (st.length + k)), ρ, st ++ l)) = some (.ok (.d d), st) := by
  unfold kRun leave shut
  dsimp only
  rw [h, take_A, if_neg Bool.false_ne_true, if_pos rfl]
  dsimp only
  rw [if_neg Bool.false_ne_true, if_neg (by omega), gA, e]
  dsimp only
  rw [ed]
  dsimp only
  rw [h2, if_neg Bool.false_ne_true]
theorem leave_loc0 {g : Fn} {st : Store} {ρ : Env} (h : g.keep = false) (h2 : g.rloc = false) (l : List MO) {o : MO} {d : D} (ed : o.toD = some d) : kRun g st (some (.ret (.loc st.length), ρ, st ++ o :: l)) = some (.ok (.d d), st) :=
  leave_loc h h2 (o :: l) 0 rfl ed
theorem leave_rloc {g : Fn} {st : Store} {ρ : Env} (h : g.keep = false) (h2 : g.rloc = true) (l : List MO) (k : Nat) {o : MO} {d : D} (e : l[k]? = some o) (ed : o.toD = some d) : kRun g st (some (.ret (.loc (st.length + k)), ρ, st ++ l)) = some (.ok (.loc st.length), st ++ [o]) := by
  unfold kRun leave shut
  dsimp only
  rw [h, take_A, if_neg Bool.false_ne_true, if_pos rfl]
  dsimp only
  rw [if_neg Bool.false_ne_true, if_neg (by omega), gA, e]
  dsimp only
  rw [ed]
  dsimp only
  rw [h2, if_pos rfl]
theorem leave_rloc0 {g : Fn} {st : Store} {ρ : Env} (h : g.keep = false) (h2 : g.rloc = true) (l : List MO) {o : MO} {d : D} (ed : o.toD = some d) : kRun g st (some (.ret (.loc st.length), ρ, st ++ o :: l)) = some (.ok (.loc st.length), st ++ [o]) :=
  leave_rloc h h2 (o :: l) 0 rfl ed
theorem keep_next {g : Fn} {st st1 : Store} {ρ : Env} (h : g.keep = true) : kRun g st (some (.next, ρ, st1)) = some (.ok (.d .non), st1) := by
  unfold kRun leave shut
  dsimp only
  rw [h, if_pos rfl]
theorem keep_ret {g : Fn} {st st1 : Store} {ρ : Env} (h : g.keep = true) (d : D) : kRun g st (some (.ret (.d d), ρ, st1)) = some (.ok (.d d), st1) := by
  unfold kRun leave shut
  dsimp only
  rw [h, if_pos rfl]
theorem keep_loc {g : Fn} {st st1 : Store} {ρ : Env} (h : g.keep = true) (k : Nat) : kRun g st (some (.ret (.loc k), ρ, st1)) = some (.ok (.loc k), st1) := by
  unfold kRun leave shut
  dsimp only
  rw [h, if_pos rfl]
  dsimp only
  rw [if_pos rfl]
end
end SP
namespace SP
theorem log2_64 {n : Nat} (h : n < 2 ^ 64) : n.log2 < 64 := by
  by_cases h0 : n = 0
  · subst h0; decide
  · exact (Nat.log2_lt h0).mpr h
theorem mulOk_of {i j : Int} (h1 : i.natAbs < 2 ^ 64) (h2 : j.natAbs < 2 ^ 64) : mulOk i j = true := by
  have := log2_64 h1
  have := log2_64 h2
  unfold mulOk
  exact decide_eq_true (by omega)
theorem divOk_of {j : Int} (h1 : 0 < j) (h2 : j < 2 ^ 64) : divOk j = true := by
  have := log2_64 (n := j.natAbs) (by omega)
  unfold divOk
  exact decide_eq_true ⟨h1, by omega⟩
theorem powOk_of {i j : Int} (h1 : i.natAbs < 2 ^ 64) (h2 : 0 ≤ j) (h3 : j ≤ 1000000) : powOk i j = true := by
  unfold powOk
  exact decide_eq_true ⟨h2, h3, h1⟩
section
variable {G : Cfg} {m : Bool} {st : Store}
theorem mul_i64 {i j : Int} (h1 : i.natAbs < 2 ^ 64) (h2 : j.natAbs < 2 ^ 64) : binV G m .mul (.d (.int i)) (.d (.int j)) st = some (.ok (.d (.int (i * j))), st) := mul_int (mulOk_of h1 h2)
theorem fdiv_i64 {i j : Int} (h1 : 0 < j) (h2 : j < 2 ^ 64) : binV G m .fdiv (.d (.int i)) (.d (.int j)) st = some (.ok (.d (.int (i / j))), st) := fdiv_int (divOk_of h1 h2)
theorem pow_i64 {i j : Int} (h1 : i.natAbs < 2 ^ 64) (h2 : 0 ≤ j) (h3 : j ≤ 1000000) : binV G m .pow (.d (.int i)) (.d (.int j)) st = some (.ok (.d (.int (i ^ j.toNat))), st) := pow_int (powOk_of h1 h2 h3)
theorem kR1_i {i : Int} (h1 : -4611686018427387904 ≤ i) (h2 : i < 4611686018427387904) : kR1 (some (.ok (.d (.int i)), st)) = some (.ok (.vs (rng 0 i.toNat)), st) := kR1_ok (smallI_of h1 h2)
theorem kR3_i {i j : Int} (h1 : -4611686018427387904 ≤ i) (h2 : i < 4611686018427387904) (h3 : -4611686018427387904 ≤ j) (h4 : j < 4611686018427387904) : kR3 (.d (.int i)) (some (.ok (.d (.int j)), st)) = some (.ok (.vs (rng i (j - i).toNat)), st) := kR3_ok (smallI_of h1 h2) (smallI_of h3 h4)
theorem decT {p : Prop} [Decidable p] (h : p) : decide p = true := decide_eq_true h
theorem decF {p : Prop} [Decidable p] (h : ¬ p) : decide p = false := decide_eq_false h
end
end SP
namespace SP
theorem cmpF_ix {s : Its} {elt : Vl → Store → Rs (Option Vl)} (I : Nat → Store → Prop) (Qv : Vl → Prop) {vs : List Vl} (hs : ∀ i st, I i st → s.still st) (h : ∀ i v st, v ∈ vs → i < vs.length → I i st → ∃ w st1, elt v st = some (.ok (some w), st1) ∧ Qv w ∧ I (i + 1) st1) {st : Store} (h0 : I 0 st) :
    ∃ ws st1, cmpF s elt vs st = some (.ok ws, st1) ∧ ws.length = vs.length ∧ (∀ w ∈ ws, Qv w) ∧ I vs.length st1 := by
  suffices H : ∀ (us : List Vl) (k : Nat) (st : Store), k + us.length = vs.length → (∀ v ∈ us, v ∈ vs) → I k st → ∃ ws st1, cmpF s elt us st = some (.ok ws, st1) ∧ ws.length = us.length ∧ (∀ w ∈ ws, Qv w) ∧ I vs.length st1 from H vs 0 st (by omega) (fun v hv => hv) h0
  intro us
  induction us with
  | nil =>
    intro k st hk hv hI
    have : k = vs.length := by simpa using hk
    subst this
    exact ⟨[], st, by unfold cmpF; rw [if_pos (hs _ _ hI)], rfl, (fun w hw => by cases hw), hI⟩
  | cons v r ih =>
    intro k st hk hv hI
    rw [List.length_cons] at hk
    obtain ⟨w, st1, e1, q1, i1⟩ := h k v st (hv v List.mem_cons_self) (by omega) hI
    obtain ⟨ws, st2, e2, l2, q2, i2⟩ := ih (k + 1) st1 (by omega) (fun v hv' => hv v (List.mem_cons_of_mem _ hv')) i1
    refine ⟨w :: ws, st2, ?_, by simp [l2], ?_, i2⟩
    · unfold cmpF
      rw [if_pos (hs _ _ hI), e1, bnd_ok, e2, bnd_ok]
    · intro x hx
      rcases List.mem_cons.mp hx with rfl | hx
      · exact q1
      · exact q2 x hx
theorem rng_len (lo : Int) (n : Nat) : (rng lo n).length = n := by simp [rng]
theorem mem_rng {lo : Int} {n : Nat} {v : Vl} (h : v ∈ rng lo n) : ∃ i : Int, v = .d (.int i) ∧ lo ≤ i ∧ i < lo + n := by
  unfold rng at h
  obtain ⟨k, hk, rfl⟩ := List.mem_map.mp h
  have := List.mem_range.mp hk
  exact ⟨_, rfl, by omega, by omega⟩
theorem get_rng {lo : Int} {n k : Nat} {v : Vl} (h : (rng lo n)[k]? = some v) : v = .d (.int (lo + k)) ∧ k < n := by
  unfold rng at h
  rw [List.getElem?_map] at h
  obtain ⟨j, hj, rfl⟩ := Option.map_eq_some_iff.mp h
  have := List.getElem?_eq_some_iff.mp hj
  obtain ⟨h1, h2⟩ := this
  simp at h1 h2
  subst h2
  exact ⟨rfl, h1⟩
end SP
namespace SP
section
variable {P : Pg} {c : Fns}
theorem cfg_call : (P.cfg c).call = c := rfl
theorem cfg_glob : (P.cfg c).glob = P.glob := rfl
theorem cfg_prop : (P.cfg c).prop = P.prop := rfl
theorem cfg_meth : (P.cfg c).meth = P.meth := rfl
theorem cfg_cls : (P.cfg c).cls = P.cls := rfl
end
/-- with what stands in the goal, generalized -/
theorem useC {s : Its} {elt : Vl → Store → Rs (Option Vl)} {vs : List Vl} {st : Store} {z : Rs (List Vl)} (hc : cmpF s elt vs st = z) (I : Nat → Store → Prop) (Qv : Vl → Prop) (h0 : I 0 st) (hs : ∀ i st, I i st → s.still st) (h : ∀ i v st, v ∈ vs → i < vs.length → I i st → ∃ w st1, elt v st = some (.ok (some w), st1) ∧ Qv w ∧ I (i + 1) st1) :
    ∃ ws st1, z = some (.ok ws, st1) ∧ ws.length = vs.length ∧ (∀ w ∈ ws, Qv w) ∧ I vs.length st1 := by
  subst hc
  exact cmpF_ix I Qv hs h h0
theorem useM {s : Its} {elt : Vl → Store → Rs (Option Vl)} {vs : List Vl} {st : Store} {z : Rs (List Vl)} (hc : cmpF s elt vs st = z) (f : Vl → Option Vl) (hs : s.still st) (h : ∀ v ∈ vs, elt v st = some (.ok (f v), st)) : z = some (.ok (vs.filterMap f), st) := by
  subst hc
  exact cmpF_map f hs h
theorem useF {s : Its} {body : Vl → Env → Store → RS} {vs : List Vl} {ρ : Env} {st : Store} {z : RS} (hc : forF s body vs ρ st = z) (I : Nat → Env → Store → Prop) (h0 : I 0 ρ st)
    (hs : ∀ n ρ st, n ≤ vs.length → I n ρ st → s.still st) (step : ∀ n v ρ st, vs[n]? = some v → I n ρ st → ∃ ρ1 st1, body v ρ st = some (.next, ρ1, st1) ∧ I (n + 1) ρ1 st1) : ∃ ρ1 st1, z = some (.next, ρ1, st1) ∧ I vs.length ρ1 st1 := by
  subst hc
  exact forF_inv I h0 step hs
theorem useW {step : Env → Store → Option Stp} {ρ : Env} {st : Store} {z : RS} (hc : loopM step ρ st = z) (I : Nat → Env → Store → Prop) (Q : Fl × Env × Store → Prop) (m : Nat) (h0 : I m ρ st)
    (h : ∀ n ρ st, I n ρ st → (∃ f ρ1 st1, step ρ st = some (.stop f ρ1 st1) ∧ Q (f, ρ1, st1)) ∨ (∃ k ρ1 st1, k < n ∧ step ρ st = some (.again ρ1 st1) ∧ I k ρ1 st1)) : ∃ r, z = some r ∧ Q r := by
  subst hc
  induction m using Nat.strongRecOn generalizing ρ st with
  | ind m ih =>
    rcases h m ρ st h0 with ⟨f, ρ1, st1, e, q⟩ | ⟨k, ρ1, st1, hk, e, i⟩
    · exact ⟨_, loopM_stop e, q⟩
    · obtain ⟨r, e2, q⟩ := ih k hk i
      exact ⟨r, loopM_again e e2, q⟩
theorem still_vs {vs : List Vl} {st : Store} : (Its.vs vs).still st := trivial
/-- every value is of a kind -/
theorem vs_map {α : Type} (f : α → Vl) (p : α → Prop) : ∀ ws : List Vl, (∀ w ∈ ws, ∃ a, w = f a ∧ p a) → ∃ as : List α, ws = as.map f ∧ (∀ a ∈ as, p a)
  | [], _ => ⟨[], rfl, fun a h => by cases h⟩
  | w :: r, h => by
    obtain ⟨a, rfl, pa⟩ := h w List.mem_cons_self
    obtain ⟨as, rfl, pas⟩ := vs_map f p r fun w hw => h w (List.mem_cons_of_mem _ hw)
    refine ⟨a :: as, rfl, fun x hx => ?_⟩
    rcases List.mem_cons.mp hx with rfl | hx
    · exact pa
    · exact pas x hx
end SP
namespace SP
theorem kIte_ii {G : Cfg} {ρ : Env} {st : Store} (a b : Int) (c : Bool) : kIte G .v (.con (.int a)) (.con (.int b)) ρ (some (.ok (.d (.bl c)), st)) = some (.ok (.d (.int (if c then a else b))), st) := by
  cases c
  · rw [kIte_f, evT_con, finv]; rfl
  · rw [kIte_t, evT_con, finv]; rfl
end SP
namespace SP
theorem useMap {α : Type} {s : Its} {elt : Vl → Store → Rs (Option Vl)} {vs : List Vl} {st : Store} {z : Rs (List Vl)} (hc : cmpF s elt vs st = z) (l : List α) (g : α → Vl) (f : α → Vl) (hv : vs = l.map g) (hs : s.still st) (h : ∀ a ∈ l, elt (g a) st = some (.ok (some (f a)), st)) : z = some (.ok (l.map f), st) := by
  subst hc hv
  induction l with
  | nil => unfold cmpF; rw [List.map_nil]; dsimp only; rw [if_pos hs]; rfl
  | cons a r ih =>
    rw [List.map_cons]
    unfold cmpF
    rw [if_pos hs, h a List.mem_cons_self, bnd_ok, ih fun b hb => h b (List.mem_cons_of_mem _ hb), bnd_ok]
    rfl
theorem useFil {α : Type} {s : Its} {elt : Vl → Store → Rs (Option Vl)} {vs : List Vl} {st : Store} {z : Rs (List Vl)} (hc : cmpF s elt vs st = z) (l : List α) (g : α → Vl) (p : α → Bool) (f : α → Vl) (hv : vs = l.map g) (hs : s.still st) (h : ∀ a ∈ l, elt (g a) st = some (.ok (if p a then some (f a) else none), st)) : z = some (.ok ((l.filter p).map f), st) := by
  subst hc hv
  induction l with
  | nil => unfold cmpF; rw [List.map_nil]; dsimp only; rw [if_pos hs]; rfl
  | cons a r ih =>
    rw [List.map_cons]
    unfold cmpF
    rw [if_pos hs, h a List.mem_cons_self, bnd_ok, ih fun b hb => h b (List.mem_cons_of_mem _ hb), bnd_ok, List.filter_cons]
    cases p a <;> rfl
theorem kC2_b {G : Cfg} {ρ : Env} {st : Store} (e : T) (b : Bool) : kC2 G e ρ (some (.ok (.d (.bl b)), st)) = if b then kC3 (evT G e .v ρ st) else some (.ok none, st) := by cases b <;> rfl
theorem kIf_b {G : Cfg} {X : String → List String} {ρ : Env} {st : Store} (a b : Ss) (c : Bool) : kIf G X a b ρ (some (.ok (.d (.bl c)), st)) = if c then evSs G X a ρ st else evSs G X b ρ st := by cases c <;> rfl
end SP

end

section
set_option maxHeartbeats 200000
namespace PF
open PySem SP
/-- _law_names -/
def b__law_names : Ss := (.cons (.asg (.nm 2) (.loc (.lst (Ts.of []))))
  (.cons (.for_ (.nm 3) (.rng1 (.var 1)) (.cons (.asg (.nm 4) (.call "_law_word" (Ts.of [(.var 0), (.ite (.cmp .eq (.call "_law_draw" (Ts.of [(.var 0), (.con (.int 4))])) (.con (.int 0))) (.con (.int 12)) (.con (.int 2)))])))
  (.cons (.asg (.nm 5) (.comp [6] (.var 6) (.nm 6) (.seq (.comp [7] (.bin .mul (.con (.str (S! "a"))) (.var 7)) (.nm 7) (.rng2 (.con (.int 1)) (.con (.int 13))) (Ts.of []))) (Ts.of [(.cmp .notin (.var 6) (.var 2))])))
  (.cons (.ex (.meth (.var 2) "append" (Ts.of [(.ite (.cmp .isin (.var 4) (.var 2)) (.ix (.var 5) (.con (.int 0))) (.var 4))])))
  .nil))))
  (.cons (.ret (.var 2))
  .nil)))
def f__law_names : Fn where
  np := 2
  nn := 8
  dfl := []
  keep := true
  rloc := false
  body := b__law_names
theorem r__law_names {P : Pg} {c : Fns} {st : Store} (a0 a1 : Vl) : runFn P c f__law_names [a0, a1] st = kRun f__law_names st (evSs (P.cfg c) P.exF b__law_names [some a0, some a1, none, none, none, none, none, none] st) := run_eq rfl rfl

/-- _law_word -/
def b__law_word : Ss := (.cons (.asg (.nm 2) (.con (.str (S! "abcdefghijklmnopqrstuvwxyz"))))
  (.cons (.ret (.meth (.con (.str (S! ""))) "join" (Ts.of [(.comp [3] (.ix (.var 2) (.call "_law_draw" (Ts.of [(.var 0), (.con (.int 26))]))) (.nm 3) (.rng1 (.bin .add (.con (.int 1)) (.call "_law_draw" (Ts.of [(.var 0), (.var 1)])))) (Ts.of []))])))
  .nil))
def f__law_word : Fn where
  np := 2
  nn := 4
  dfl := []
  keep := true
  rloc := false
  body := b__law_word
theorem r__law_word {P : Pg} {c : Fns} {st : Store} (a0 a1 : Vl) : runFn P c f__law_word [a0, a1] st = kRun f__law_word st (evSs (P.cfg c) P.exF b__law_word [some a0, some a1, none, none] st) := run_eq rfl rfl

/-- _law_draw -/
def b__law_draw : Ss := (.cons (.asg (.nm 2) (.ix (.var 0) (.con (.int 1))))
  (.cons (.asg (.ix (.var 0) (.con (.int 1))) (.bin .add (.var 2) (.con (.int 1))))
  (.cons (.asg (.nm 3) (.bin .mod (.bi "int" (Ts.of [(.var 2)])) (.bi "len" (Ts.of [(.ix (.var 0) (.con (.int 0)))]))))
  (.cons (.asg (.nm 4) (.bi "int" (Ts.of [(.ix (.ix (.var 0) (.con (.int 0))) (.var 3))])))
  (.cons (.ite (.cmp .ge (.var 4) (.bin .pow (.con (.int 10)) (.con (.int 18)))) (.cons (.asg (.ix (.ix (.var 0) (.con (.int 0))) (.var 3)) (.bin .fdiv (.var 4) (.var 1)))
  (.cons (.ret (.bin .mod (.bi "int" (Ts.of [(.var 4)])) (.var 1)))
  .nil)) .nil)
  (.cons (.asg (.nm 5) (.bin .pow (.bi "int" (Ts.of [(.bin .add (.bin .add (.bin .mul (.bin .mod (.bi "int" (Ts.of [(.var 4)])) (.con (.int 1000000007))) (.con (.int 48271))) (.bin .mul (.var 2) (.con (.int 7919)))) (.con (.int 104729)))])) (.con (.int 5))))
  (.cons (.ret (.bin .mod (.bin .fdiv (.bi "int" (Ts.of [(.bin .mod (.bi "int" (Ts.of [(.var 5)])) (.con (.int 2147483647)))])) (.con (.int 8))) (.var 1)))
  .nil)))))))
def f__law_draw : Fn where
  np := 2
  nn := 6
  dfl := []
  keep := true
  rloc := false
  body := b__law_draw
theorem r__law_draw {P : Pg} {c : Fns} {st : Store} (a0 a1 : Vl) : runFn P c f__law_draw [a0, a1] st = kRun f__law_draw st (evSs (P.cfg c) P.exF b__law_draw [some a0, some a1, none, none, none, none] st) := run_eq rfl rfl

/-- _law_cell -/
def b__law_cell : Ss := (.cons (.asg (.nm 1) (.call "_law_draw" (Ts.of [(.var 0), (.con (.int 16))])))
  (.cons (.ite (.cmp .lt (.var 1) (.con (.int 11))) (.cons (.ret (.call "_law_draw" (Ts.of [(.var 0), (.con (.int 7))])))
  .nil) .nil)
  (.cons (.ite (.cmp .lt (.var 1) (.con (.int 15))) (.cons (.ret (.call "_law_draw" (Ts.of [(.var 0), (.con (.int 30))])))
  .nil) .nil)
  (.cons (.ret (.bin .add (.bin .mul (.call "_law_draw" (Ts.of [(.var 0), (.con (.int 1000003))])) (.bin .pow (.con (.int 10)) (.con (.int 20)))) (.call "_law_draw" (Ts.of [(.var 0), (.con (.int 1000003))]))))
  .nil))))
def f__law_cell : Fn where
  np := 1
  nn := 2
  dfl := []
  keep := true
  rloc := false
  body := b__law_cell
theorem r__law_cell {P : Pg} {c : Fns} {st : Store} (a0 : Vl) : runFn P c f__law_cell [a0] st = kRun f__law_cell st (evSs (P.cfg c) P.exF b__law_cell [some a0, none] st) := run_eq rfl rfl

/-- Reader.__init__ -/
def b_Reader___init__ : Ss := (.cons (.ite (.cmp .gt (.bi "len" (Ts.of [(.var 1)])) (.glo "MOST_LINES")) (.cons .stuck
  .nil) .nil)
  (.cons (.ite (.not (.var 1)) (.cons .stuck
  .nil) .nil)
  (.cons (.ex (.call "check_lines" (Ts.of [(.var 1)])))
  (.cons (.fset (.var 0) "lines" (.bi "tuple" (Ts.of [(.comp [2, 3] (.tup (Ts.of [(.var 2), (.call "tidy_line" (Ts.of [(.var 3)]))])) (.tp (.cons (.nm 2) (.cons (.nm 3) .nil))) (.seq (.var 1)) (Ts.of []))])))
  (.cons (.ex (.call "check_ways" (Ts.of [(.fld (.var 0) "lines")])))
  .nil)))))
def f_Reader___init__ : Fn where
  np := 2
  nn := 4
  dfl := []
  keep := true
  rloc := false
  body := b_Reader___init__
theorem r_Reader___init__ {P : Pg} {c : Fns} {st : Store} (a0 a1 : Vl) : runFn P c f_Reader___init__ [a0, a1] st = kRun f_Reader___init__ st (evSs (P.cfg c) P.exF b_Reader___init__ [some a0, some a1, none, none] st) := run_eq rfl rfl

/-- check_lines -/
def b_check_lines : Ss := (.cons (.asg (.nm 1) (.loc (.lst (Ts.of []))))
  (.cons (.for_ (.tp (.cons (.nm 2) (.cons (.tp (.cons (.nm 3) (.cons (.nm 4) .nil))) .nil))) (.enu (.var 0)) (.cons (.ite (.bor (.not (.call "fits_name" (Ts.of [(.var 3)]))) (.bor (.cmp .isin (.var 3) (.var 1)) (.not (.call "fits_line" (Ts.of [(.var 4)]))))) (.cons .stuck
  .nil) .nil)
  (.cons (.ex (.meth (.var 1) "append" (Ts.of [(.var 3)])))
  .nil)))
  (.cons (.for_ (.tp (.cons (.nm 2) (.cons (.tp (.cons (.nm 3) (.cons (.nm 4) .nil))) .nil))) (.enu (.var 0)) (.cons (.ite (.comp [5] (.var 5) (.nm 5) (.seq (.call "targets_of" (Ts.of [(.var 4)]))) (Ts.of [(.cmp .notin (.var 5) (.var 1))])) (.cons .stuck
  .nil) .nil)
  .nil))
  .nil)))
def f_check_lines : Fn where
  np := 1
  nn := 6
  dfl := []
  keep := false
  rloc := false
  body := b_check_lines
theorem r_check_lines {P : Pg} {c : Fns} {st : Store} (a0 : Vl) : runFn P c f_check_lines [a0] st = kRun f_check_lines st (evSs (P.cfg c) P.exF b_check_lines [some a0, none, none, none, none, none] st) := run_eq rfl rfl

/-- fits_name -/
def b_fits_name : Ss := (.cons (.ret (.band (.chain .le .le (.con (.int 1)) (.bi "len" (Ts.of [(.var 0)])) (.con (.int 12))) (.bi "all" (Ts.of [(.comp [1] (.cmp .isin (.var 1) (.glo "LETTERS")) (.nm 1) (.seq (.var 0)) (Ts.of []))]))))
  .nil)
def f_fits_name : Fn where
  np := 1
  nn := 2
  dfl := []
  keep := false
  rloc := false
  body := b_fits_name
theorem r_fits_name {P : Pg} {c : Fns} {st : Store} (a0 : Vl) : runFn P c f_fits_name [a0] st = kRun f_fits_name st (evSs (P.cfg c) P.exF b_fits_name [some a0, none] st) := run_eq rfl rfl

/-- fits_line -/
def b_fits_line : Ss := (.cons (.ite (.bor (.not (.var 0)) (.bor (.cmp .notin (.ix (.var 0) (.con (.int 0))) (.glo "SIZES")) (.cmp .ne (.bi "len" (Ts.of [(.var 0)])) (.ix (.glo "SIZES") (.ix (.var 0) (.con (.int 0))))))) (.cons (.ret (.con (.bl false)))
  .nil) .nil)
  (.cons (.ite (.cmp .eq (.ix (.var 0) (.con (.int 0))) (.con (.str (S! "case")))) (.cons (.ret (.call "fits_ways" (Ts.of [(.ix (.var 0) (.con (.int 1)))])))
  .nil) .nil)
  (.cons (.ret (.bor (.cmp .notin (.ix (.var 0) (.con (.int 0))) (.glo "LEAST")) (.chain .le .le (.ix (.glo "LEAST") (.ix (.var 0) (.con (.int 0)))) (.ix (.var 0) (.con (.int 1))) (.ix (.glo "GREATEST") (.ix (.var 0) (.con (.int 0)))))))
  .nil)))
def f_fits_line : Fn where
  np := 1
  nn := 1
  dfl := []
  keep := false
  rloc := false
  body := b_fits_line
theorem r_fits_line {P : Pg} {c : Fns} {st : Store} (a0 : Vl) : runFn P c f_fits_line [a0] st = kRun f_fits_line st (evSs (P.cfg c) P.exF b_fits_line [some a0] st) := run_eq rfl rfl

/-- fits_ways -/
def b_fits_ways : Ss := (.cons (.asg (.nm 1) (.loc (.lst (Ts.of []))))
  (.cons (.for_ (.nm 2) (.seq (.var 0)) (.cons (.ite (.bor (.cmp .ne (.bi "len" (Ts.of [(.var 2)])) (.con (.int 2))) (.bor (.not (.chain .le .le (.con (.int 0)) (.ix (.var 2) (.con (.int 0))) (.glo "MOST_VALUE"))) (.cmp .isin (.ix (.var 2) (.con (.int 0))) (.var 1)))) (.cons (.ret (.con (.bl false)))
  .nil) .nil)
  (.cons (.ex (.meth (.var 1) "append" (Ts.of [(.ix (.var 2) (.con (.int 0)))])))
  .nil)))
  (.cons (.ret (.con (.bl true)))
  .nil)))
def f_fits_ways : Fn where
  np := 1
  nn := 3
  dfl := []
  keep := false
  rloc := false
  body := b_fits_ways
theorem r_fits_ways {P : Pg} {c : Fns} {st : Store} (a0 : Vl) : runFn P c f_fits_ways [a0] st = kRun f_fits_ways st (evSs (P.cfg c) P.exF b_fits_ways [some a0, none, none] st) := run_eq rfl rfl

/-- targets_of -/
def b_targets_of : Ss := (.cons (.ite (.cmp .isin (.ix (.var 0) (.con (.int 0))) (.tup (Ts.of [(.con (.str (S! "cut"))), (.con (.str (S! "refuse")))]))) (.cons (.ret (.lst (Ts.of [])))
  .nil) .nil)
  (.cons (.ite (.cmp .eq (.ix (.var 0) (.con (.int 0))) (.con (.str (S! "case")))) (.cons (.ret (.bin .add (.comp [1, 2] (.var 2) (.tp (.cons (.nm 1) (.cons (.nm 2) .nil))) (.seq (.ix (.var 0) (.con (.int 1)))) (Ts.of [])) (.lst (Ts.of [(.ix (.var 0) (.con (.int 2)))]))))
  .nil) .nil)
  (.cons (.ite (.cmp .eq (.ix (.var 0) (.con (.int 0))) (.con (.str (S! "upto")))) (.cons (.ret (.lst (Ts.of [(.ix (.var 0) (.con (.int 2))), (.ix (.var 0) (.con (.int 3)))])))
  .nil) .nil)
  (.cons (.ret (.lst (Ts.of [(.ix (.var 0) (.bin .sub (.bi "len" (Ts.of [(.var 0)])) (.con (.int 1))))])))
  .nil))))
def f_targets_of : Fn where
  np := 1
  nn := 3
  dfl := []
  keep := false
  rloc := false
  body := b_targets_of
theorem r_targets_of {P : Pg} {c : Fns} {st : Store} (a0 : Vl) : runFn P c f_targets_of [a0] st = kRun f_targets_of st (evSs (P.cfg c) P.exF b_targets_of [some a0, none, none] st) := run_eq rfl rfl

/-- tidy_line -/
def b_tidy_line : Ss := (.cons (.ite (.cmp .eq (.ix (.var 0) (.con (.int 0))) (.con (.str (S! "case")))) (.cons (.ret (.tup (Ts.of [(.con (.str (S! "case"))), (.bi "tuple" (Ts.of [(.comp [1] (.bi "tuple" (Ts.of [(.var 1)])) (.nm 1) (.seq (.ix (.var 0) (.con (.int 1)))) (Ts.of []))])), (.ix (.var 0) (.con (.int 2)))])))
  .nil) .nil)
  (.cons (.ret (.bi "tuple" (Ts.of [(.var 0)])))
  .nil))
def f_tidy_line : Fn where
  np := 1
  nn := 2
  dfl := []
  keep := false
  rloc := false
  body := b_tidy_line
theorem r_tidy_line {P : Pg} {c : Fns} {st : Store} (a0 : Vl) : runFn P c f_tidy_line [a0] st = kRun f_tidy_line st (evSs (P.cfg c) P.exF b_tidy_line [some a0, none] st) := run_eq rfl rfl

/-- check_ways -/
def b_check_ways : Ss := (.cons (.asg (.nm 1) (.call "silent_ways" (Ts.of [(.var 0)])))
  (.cons (.for_ (.nm 2) (.rng1 (.bi "len" (Ts.of [(.var 0)]))) (.cons (.ite (.cmp .isin (.var 2) (.call "reached" (Ts.of [(.var 1), (.var 2)]))) (.cons .stuck
  .nil) .nil)
  .nil))
  (.cons (.asg (.nm 3) (.bin .add (.lst (Ts.of [(.con (.int 0))])) (.call "reached" (Ts.of [(.var 1), (.con (.int 0))]))))
  (.cons (.for_ (.tp (.cons (.nm 2) (.cons (.tp (.cons (.nm 4) (.cons (.nm 5) .nil))) .nil))) (.enu (.var 0)) (.cons (.ite (.band (.cmp .isin (.var 2) (.var 3)) (.cmp .isin (.ix (.var 5) (.con (.int 0))) (.tup (Ts.of [(.con (.str (S! "cut"))), (.con (.str (S! "skip"))), (.con (.str (S! "refuse")))])))) (.cons .stuck
  .nil) .nil)
  .nil))
  .nil))))
def f_check_ways : Fn where
  np := 1
  nn := 6
  dfl := []
  keep := false
  rloc := false
  body := b_check_ways
theorem r_check_ways {P : Pg} {c : Fns} {st : Store} (a0 : Vl) : runFn P c f_check_ways [a0] st = kRun f_check_ways st (evSs (P.cfg c) P.exF b_check_ways [some a0, none, none, none, none, none] st) := run_eq rfl rfl

/-- silent_ways -/
def b_silent_ways : Ss := (.cons (.asg (.nm 1) (.comp [2, 3] (.var 2) (.tp (.cons (.nm 2) (.cons (.nm 3) .nil))) (.seq (.var 0)) (Ts.of [])))
  (.cons (.asg (.nm 4) (.loc (.lst (Ts.of []))))
  (.cons (.for_ (.tp (.cons (.nm 2) (.cons (.nm 3) .nil))) (.seq (.var 0)) (.cons (.asg (.nm 5) (.ite (.cmp .isin (.ix (.var 3) (.con (.int 0))) (.glo "READING")) (.lst (Ts.of [])) (.call "targets_of" (Ts.of [(.var 3)]))))
  (.cons (.ex (.meth (.var 4) "append" (Ts.of [(.comp [6] (.meth (.var 1) "index" (Ts.of [(.var 6)])) (.nm 6) (.seq (.var 5)) (Ts.of []))])))
  .nil)))
  (.cons (.ret (.var 4))
  .nil))))
def f_silent_ways : Fn where
  np := 1
  nn := 7
  dfl := []
  keep := false
  rloc := false
  body := b_silent_ways
theorem r_silent_ways {P : Pg} {c : Fns} {st : Store} (a0 : Vl) : runFn P c f_silent_ways [a0] st = kRun f_silent_ways st (evSs (P.cfg c) P.exF b_silent_ways [some a0, none, none, none, none, none, none] st) := run_eq rfl rfl

/-- reached -/
def b_reached : Ss := (.cons (.asg (.nm 2) (.loc (.lst (Ts.of []))))
  (.cons (.asg (.nm 3) (.loc (.bi "list" (Ts.of [(.ix (.var 0) (.var 1))]))))
  (.cons (.whl (.var 3) (.cons (.asg (.nm 4) (.meth (.var 3) "pop" (Ts.of [])))
  (.cons (.ite (.cmp .notin (.var 4) (.var 2)) (.cons (.ex (.meth (.var 2) "append" (Ts.of [(.var 4)])))
  (.cons (.ex (.meth (.var 3) "extend" (Ts.of [(.ix (.var 0) (.var 4))])))
  .nil)) .nil)
  .nil)))
  (.cons (.ret (.var 2))
  .nil))))
def f_reached : Fn where
  np := 2
  nn := 5
  dfl := []
  keep := false
  rloc := false
  body := b_reached
theorem r_reached {P : Pg} {c : Fns} {st : Store} (a0 a1 : Vl) : runFn P c f_reached [a0, a1] st = kRun f_reached st (evSs (P.cfg c) P.exF b_reached [some a0, some a1, none, none, none] st) := run_eq rfl rfl

/-- begin -/
def b_begin : Ss := (.cons (.ret (.ix (.call "settle" (Ts.of [(.var 0), (.con (.int 0)), (.con .non)])) (.con (.int 0))))
  .nil)
def f_begin : Fn where
  np := 1
  nn := 1
  dfl := []
  keep := false
  rloc := false
  body := b_begin
theorem r_begin {P : Pg} {c : Fns} {st : Store} (a0 : Vl) : runFn P c f_begin [a0] st = kRun f_begin st (evSs (P.cfg c) P.exF b_begin [some a0] st) := run_eq rfl rfl

/-- settle -/
def b_settle : Ss := (.cons (.asg (.nm 3) (.con (.bl false)))
  (.cons (.whl (.cmp .ge (.var 1) (.con (.int 0))) (.cons (.asg (.nm 4) (.ix (.fld (.var 0) "lines") (.var 1)))
  (.cons (.asg (.nm 5) (.ix (.var 4) (.con (.int 0))))
  (.cons (.ite (.cmp .isin (.var 5) (.glo "READING")) (.cons (.ret (.tup (Ts.of [(.tup (Ts.of [(.var 1), (.var 2), (.ite (.cmp .eq (.var 5) (.con (.str (S! "jump")))) (.ix (.var 4) (.con (.int 1))) (.con (.int 1)))])), (.var 3)])))
  .nil) .nil)
  (.cons (.ite (.cmp .eq (.var 5) (.con (.str (S! "skip")))) (.cons (.asg (.nm 6) (.ite (.cmp .is (.var 2) (.con .non)) (.neg (.con (.int 1))) (.bin .add (.var 2) (.ix (.var 4) (.con (.int 1))))))
  (.cons (.ite (.cmp .gt (.var 6) (.con (.int 0))) (.cons (.ret (.tup (Ts.of [(.tup (Ts.of [(.var 1), (.con .non), (.var 6)])), (.var 3)])))
  .nil) .nil)
  (.cons (.asg (.nm 1) (.ite (.cmp .eq (.var 6) (.con (.int 0))) (.ix (.var 4) (.con (.int 2))) (.neg (.con (.int 1)))))
  (.cons (.asg (.nm 2) (.con .non))
  .nil)))) (.cons (.ite (.cmp .eq (.var 5) (.con (.str (S! "set")))) (.cons (.par [1, 2] (Ts.of [(.ix (.var 4) (.con (.int 2))), (.ix (.var 4) (.con (.int 1)))]))
  .nil) (.cons (.ite (.cmp .eq (.var 5) (.con (.str (S! "upto")))) (.cons (.asg (.nm 1) (.ite (.band (.cmp .isnot (.var 2) (.con .non)) (.cmp .le (.var 2) (.ix (.var 4) (.con (.int 1))))) (.ix (.var 4) (.con (.int 2))) (.ix (.var 4) (.con (.int 3)))))
  .nil) (.cons (.ite (.cmp .eq (.var 5) (.con (.str (S! "cut")))) (.cons (.asg (.tp (.cons (.nm 1) (.cons (.nm 2) (.cons (.nm 3) .nil)))) (.tup (Ts.of [(.con (.int 0)), (.con .non), (.con (.bl true))])))
  .nil) (.cons (.asg (.nm 1) (.neg (.con (.int 1))))
  .nil))
  .nil))
  .nil))
  .nil))
  .nil)))))
  (.cons (.ret (.tup (Ts.of [(.tup (Ts.of [(.neg (.con (.int 1))), (.con .non), (.con (.int 0))])), (.var 3)])))
  .nil)))
def f_settle : Fn where
  np := 3
  nn := 7
  dfl := []
  keep := false
  rloc := false
  body := b_settle
theorem r_settle {P : Pg} {c : Fns} {st : Store} (a0 a1 a2 : Vl) : runFn P c f_settle [a0, a1, a2] st = kRun f_settle st (evSs (P.cfg c) P.exF b_settle [some a0, some a1, some a2, none, none, none, none] st) := run_eq rfl rfl

/-- _law_places -/
def b__law_places : Ss := (.cons (.asg (.nm 2) (.loc (.lst (Ts.of []))))
  (.cons (.asg (.nm 3) (.con (.int 0)))
  (.cons (.for_ (.nm 4) (.rng1 (.bi "len" (Ts.of [(.var 0)]))) (.cons (.ite (.cmp .lt (.var 3) (.bi "len" (Ts.of [(.var 0)]))) (.cons (.asg (.nm 5) (.bin .add (.ix (.var 0) (.var 3)) (.var 1)))
  (.cons (.asg (.nm 3) (.ite (.cmp .ge (.var 5) (.con (.int 0))) (.bin .add (.bin .add (.var 3) (.con (.int 1))) (.var 5)) (.bin .add (.bi "len" (Ts.of [(.var 0)])) (.con (.int 1)))))
  (.cons (.ite (.cmp .le (.var 3) (.bi "len" (Ts.of [(.var 0)]))) (.cons (.ex (.meth (.var 2) "append" (Ts.of [(.var 3)])))
  .nil) .nil)
  .nil))) .nil)
  .nil))
  (.cons (.ret (.var 2))
  .nil))))
def f__law_places : Fn where
  np := 2
  nn := 6
  dfl := []
  keep := false
  rloc := false
  body := b__law_places
theorem r__law_places {P : Pg} {c : Fns} {st : Store} (a0 a1 : Vl) : runFn P c f__law_places [a0, a1] st = kRun f__law_places st (evSs (P.cfg c) P.exF b__law_places [some a0, some a1, none, none, none, none] st) := run_eq rfl rfl

/-- cuts -/
def b_cuts : Ss := (.cons (.ret (.loc (.bi "list" (Ts.of [(.ix (.call "traced" (Ts.of [(.call "compiled" (Ts.of [(.var 0)])), (.call "cells_of" (Ts.of [(.var 1)]))])) (.con (.int 0)))]))))
  .nil)
def f_cuts : Fn where
  np := 2
  nn := 2
  dfl := []
  keep := false
  rloc := true
  body := b_cuts
theorem r_cuts {P : Pg} {c : Fns} {st : Store} (a0 a1 : Vl) : runFn P c f_cuts [a0, a1] st = kRun f_cuts st (evSs (P.cfg c) P.exF b_cuts [some a0, some a1] st) := run_eq rfl rfl

/-- traced -/
def b_traced : Ss := (.cons (.asg (.nm 2) (.call "begin" (Ts.of [(.var 0)])))
  (.cons (.asg (.nm 3) (.loc (.lst (Ts.of []))))
  (.cons (.asg (.nm 4) (.loc (.lst (Ts.of []))))
  (.cons (.for_ (.tp (.cons (.nm 5) (.cons (.nm 6) .nil))) (.enu (.var 1)) (.cons (.asg (.nm 7) (.ix (.var 2) (.con (.int 0))))
  (.cons (.asg (.tp (.cons (.nm 2) (.cons (.nm 8) (.cons (.nm 9) .nil)))) (.call "step" (Ts.of [(.var 0), (.var 2), (.var 6)])))
  (.cons (.ite (.cmp .isnot (.var 9) (.con .non)) (.cons (.ex (.meth (.var 4) "append" (Ts.of [(.tup (Ts.of [(.var 7), (.var 9)]))])))
  .nil) .nil)
  (.cons (.ite (.var 8) (.cons (.ex (.meth (.var 3) "append" (Ts.of [(.bin .add (.var 5) (.con (.int 1)))])))
  .nil) .nil)
  (.cons (.ite (.cmp .lt (.ix (.var 2) (.con (.int 0))) (.con (.int 0))) (.cons (.ret (.tup (Ts.of [(.bi "tuple" (Ts.of [(.var 3)])), (.bin .add (.var 5) (.con (.int 1))), (.var 4)])))
  .nil) .nil)
  .nil))))))
  (.cons (.ret (.tup (Ts.of [(.bi "tuple" (Ts.of [(.var 3)])), (.con .non), (.var 4)])))
  .nil)))))
def f_traced : Fn where
  np := 2
  nn := 10
  dfl := []
  keep := false
  rloc := false
  body := b_traced
theorem r_traced {P : Pg} {c : Fns} {st : Store} (a0 a1 : Vl) : runFn P c f_traced [a0, a1] st = kRun f_traced st (evSs (P.cfg c) P.exF b_traced [some a0, some a1, none, none, none, none, none, none, none, none] st) := run_eq rfl rfl

/-- step -/
def b_step : Ss := (.cons (.asg (.tp (.cons (.nm 3) (.cons (.nm 4) (.cons (.nm 5) .nil)))) (.var 1))
  (.cons (.ite (.cmp .lt (.var 3) (.con (.int 0))) (.cons (.ret (.tup (Ts.of [(.var 1), (.con (.bl false)), (.con .non)])))
  .nil) .nil)
  (.cons (.asg (.nm 6) (.ix (.fld (.var 0) "lines") (.var 3)))
  (.cons (.asg (.nm 7) (.ix (.var 6) (.con (.int 0))))
  (.cons (.asg (.nm 8) (.ite (.band (.cmp .ne (.var 7) (.con (.str (S! "skip")))) (.bor (.cmp .ne (.var 7) (.con (.str (S! "jump")))) (.cmp .eq (.var 5) (.ix (.var 6) (.con (.int 1)))))) (.con (.int 0)) (.con .non)))
  (.cons (.ite (.cmp .gt (.var 5) (.con (.int 1))) (.cons (.ret (.tup (Ts.of [(.tup (Ts.of [(.var 3), (.var 4), (.bin .sub (.var 5) (.con (.int 1)))])), (.con (.bl false)), (.var 8)])))
  .nil) .nil)
  (.cons (.asg (.nm 9) (.ix (.var 6) (.bin .sub (.bi "len" (Ts.of [(.var 6)])) (.con (.int 1)))))
  (.cons (.ite (.cmp .eq (.var 7) (.con (.str (S! "case")))) (.cons (.asg (.nm 8) (.call "exit_of" (Ts.of [(.ix (.var 6) (.con (.int 1))), (.var 2)])))
  (.cons (.asg (.nm 9) (.ite (.cmp .lt (.var 8) (.bi "len" (Ts.of [(.ix (.var 6) (.con (.int 1)))]))) (.ix (.ix (.ix (.var 6) (.con (.int 1))) (.var 8)) (.con (.int 1))) (.var 9)))
  .nil)) .nil)
  (.cons (.asg (.tp (.cons (.nm 10) (.cons (.nm 11) .nil))) (.call "settle" (Ts.of [(.var 0), (.var 9), (.call "kept_by" (Ts.of [(.var 6), (.var 4), (.var 2)]))])))
  (.cons (.ret (.tup (Ts.of [(.var 10), (.var 11), (.var 8)])))
  .nil))))))))))
def f_step : Fn where
  np := 3
  nn := 12
  dfl := []
  keep := false
  rloc := false
  body := b_step
theorem r_step {P : Pg} {c : Fns} {st : Store} (a0 a1 a2 : Vl) : runFn P c f_step [a0, a1, a2] st = kRun f_step st (evSs (P.cfg c) P.exF b_step [some a0, some a1, some a2, none, none, none, none, none, none, none, none, none] st) := run_eq rfl rfl

/-- exit_of -/
def b_exit_of : Ss := (.cons (.for_ (.tp (.cons (.nm 2) (.cons (.tp (.cons (.nm 3) (.cons (.nm 4) .nil))) .nil))) (.enu (.var 0)) (.cons (.ite (.cmp .eq (.var 3) (.var 1)) (.cons (.ret (.var 2))
  .nil) .nil)
  .nil))
  (.cons (.ret (.bi "len" (Ts.of [(.var 0)])))
  .nil))
def f_exit_of : Fn where
  np := 2
  nn := 5
  dfl := []
  keep := false
  rloc := false
  body := b_exit_of
theorem r_exit_of {P : Pg} {c : Fns} {st : Store} (a0 a1 : Vl) : runFn P c f_exit_of [a0, a1] st = kRun f_exit_of st (evSs (P.cfg c) P.exF b_exit_of [some a0, some a1, none, none, none] st) := run_eq rfl rfl

/-- kept_by -/
def b_kept_by : Ss := (.cons (.ite (.cmp .eq (.ix (.var 0) (.con (.int 0))) (.con (.str (S! "take")))) (.cons (.ret (.var 2))
  .nil) .nil)
  (.cons (.ite (.cmp .eq (.ix (.var 0) (.con (.int 0))) (.con (.str (S! "rest")))) (.cons (.ret (.bin .mod (.bi "int" (Ts.of [(.var 2)])) (.ix (.var 0) (.con (.int 1)))))
  .nil) .nil)
  (.cons (.ret (.ite (.cmp .eq (.ix (.var 0) (.con (.int 0))) (.con (.str (S! "cap")))) (.bi "min" (Ts.of [(.var 2), (.ix (.var 0) (.con (.int 1)))])) (.var 1)))
  .nil)))
def f_kept_by : Fn where
  np := 3
  nn := 3
  dfl := []
  keep := false
  rloc := false
  body := b_kept_by
theorem r_kept_by {P : Pg} {c : Fns} {st : Store} (a0 a1 a2 : Vl) : runFn P c f_kept_by [a0, a1, a2] st = kRun f_kept_by st (evSs (P.cfg c) P.exF b_kept_by [some a0, some a1, some a2] st) := run_eq rfl rfl

/-- compiled -/
def b_compiled : Ss := (.cons (.asg (.nm 2) (.meth (.var 0) "names" (Ts.of [])))
  (.cons (.asg (.nm 3) (.loc (.lst (Ts.of []))))
  (.cons (.for_ (.tp (.cons (.nm 4) (.cons (.nm 5) .nil))) (.seq (.fld (.var 0) "lines")) (.cons (.ex (.meth (.var 3) "append" (Ts.of [(.call "numbered" (Ts.of [(.var 5), (.var 2), (.comp [6, 7] (.var 7) (.tp (.cons (.nm 6) (.cons (.nm 7) .nil))) (.seq (.var 1)) (Ts.of [(.cmp .eq (.var 6) (.var 4))]))]))])))
  .nil))
  (.cons (.ret (.call "Machine" (Ts.of [(.bi "tuple" (Ts.of [(.var 2)])), (.bi "tuple" (Ts.of [(.var 3)]))])))
  .nil))))
def f_compiled : Fn where
  np := 2
  nn := 8
  dfl := [(.tup [])]
  keep := false
  rloc := false
  body := b_compiled
theorem r_compiled_1 {P : Pg} {c : Fns} {st : Store} (a0 : Vl) : runFn P c f_compiled [a0] st = kRun f_compiled st (evSs (P.cfg c) P.exF b_compiled [some a0, some (.d (.tup [])), none, none, none, none, none, none] st) := run_dfl [a0, (.d (.tup []))] rfl rfl
theorem r_compiled {P : Pg} {c : Fns} {st : Store} (a0 a1 : Vl) : runFn P c f_compiled [a0, a1] st = kRun f_compiled st (evSs (P.cfg c) P.exF b_compiled [some a0, some a1, none, none, none, none, none, none] st) := run_dfl [a0, a1] rfl rfl

/-- Reader.names -/
def b_Reader_names : Ss := (.cons (.ret (.comp [1, 2] (.var 1) (.tp (.cons (.nm 1) (.cons (.nm 2) .nil))) (.seq (.fld (.var 0) "lines")) (Ts.of [])))
  .nil)
def f_Reader_names : Fn where
  np := 1
  nn := 3
  dfl := []
  keep := false
  rloc := false
  body := b_Reader_names
theorem r_Reader_names {P : Pg} {c : Fns} {st : Store} (a0 : Vl) : runFn P c f_Reader_names [a0] st = kRun f_Reader_names st (evSs (P.cfg c) P.exF b_Reader_names [some a0, none, none] st) := run_eq rfl rfl

/-- numbered -/
def b_numbered : Ss := (.cons (.asg (.nm 3) (.ix (.var 0) (.con (.int 0))))
  (.cons (.ite (.cmp .isin (.var 3) (.tup (Ts.of [(.con (.str (S! "cut"))), (.con (.str (S! "refuse")))]))) (.cons (.ret (.tup (Ts.of [(.var 3)])))
  .nil) .nil)
  (.cons (.ite (.cmp .eq (.var 3) (.con (.str (S! "case")))) (.cons (.asg (.nm 4) (.loc (.lst (Ts.of []))))
  (.cons (.for_ (.tp (.cons (.nm 5) (.cons (.tp (.cons (.nm 6) (.cons (.nm 7) .nil))) .nil))) (.enu (.ix (.var 0) (.con (.int 1)))) (.cons (.ex (.meth (.var 4) "append" (Ts.of [(.tup (Ts.of [(.var 6), (.ite (.cmp .isin (.var 5) (.var 2)) (.neg (.con (.int 1))) (.meth (.var 1) "index" (Ts.of [(.var 7)])))]))])))
  .nil))
  (.cons (.ret (.tup (Ts.of [(.var 3), (.bi "tuple" (Ts.of [(.var 4)])), (.ite (.cmp .isin (.bi "len" (Ts.of [(.var 4)])) (.var 2)) (.neg (.con (.int 1))) (.meth (.var 1) "index" (Ts.of [(.ix (.var 0) (.con (.int 2)))])))])))
  .nil))) .nil)
  (.cons (.ite (.cmp .eq (.var 3) (.con (.str (S! "upto")))) (.cons (.ret (.tup (Ts.of [(.var 3), (.ix (.var 0) (.con (.int 1))), (.meth (.var 1) "index" (Ts.of [(.ix (.var 0) (.con (.int 2)))])), (.meth (.var 1) "index" (Ts.of [(.ix (.var 0) (.con (.int 3)))]))])))
  .nil) .nil)
  (.cons (.ite (.band (.cmp .eq (.var 3) (.con (.str (S! "jump")))) (.var 2)) (.cons (.ret (.tup (Ts.of [(.var 3), (.con (.int 1)), (.neg (.con (.int 1)))])))
  .nil) .nil)
  (.cons (.asg (.nm 8) (.ite (.var 2) (.neg (.con (.int 1))) (.meth (.var 1) "index" (Ts.of [(.ix (.var 0) (.bin .sub (.bi "len" (Ts.of [(.var 0)])) (.con (.int 1))))]))))
  (.cons (.ret (.ite (.cmp .eq (.var 3) (.con (.str (S! "take")))) (.tup (Ts.of [(.var 3), (.var 8)])) (.tup (Ts.of [(.var 3), (.ix (.var 0) (.con (.int 1))), (.var 8)]))))
  .nil)))))))
def f_numbered : Fn where
  np := 3
  nn := 9
  dfl := []
  keep := false
  rloc := false
  body := b_numbered
theorem r_numbered {P : Pg} {c : Fns} {st : Store} (a0 a1 a2 : Vl) : runFn P c f_numbered [a0, a1, a2] st = kRun f_numbered st (evSs (P.cfg c) P.exF b_numbered [some a0, some a1, some a2, none, none, none, none, none, none] st) := run_eq rfl rfl

/-- Machine.__init__ -/
def b_Machine___init__ : Ss := (.cons (.fset (.var 0) "labels" (.var 1))
  (.cons (.fset (.var 0) "lines" (.var 2))
  .nil))
def f_Machine___init__ : Fn where
  np := 3
  nn := 3
  dfl := []
  keep := true
  rloc := false
  body := b_Machine___init__
theorem r_Machine___init__ {P : Pg} {c : Fns} {st : Store} (a0 a1 a2 : Vl) : runFn P c f_Machine___init__ [a0, a1, a2] st = kRun f_Machine___init__ st (evSs (P.cfg c) P.exF b_Machine___init__ [some a0, some a1, some a2] st) := run_eq rfl rfl

/-- cells_of -/
def b_cells_of : Ss := (.cons (.ret (.meth (.call "to_row" (Ts.of [(.var 0)])) "cells" (Ts.of [])))
  .nil)
def f_cells_of : Fn where
  np := 1
  nn := 1
  dfl := []
  keep := false
  rloc := false
  body := b_cells_of
theorem r_cells_of {P : Pg} {c : Fns} {st : Store} (a0 : Vl) : runFn P c f_cells_of [a0] st = kRun f_cells_of st (evSs (P.cfg c) P.exF b_cells_of [some a0] st) := run_eq rfl rfl

/-- Row.cells -/
def b_Row_cells : Ss := (.cons (.ite (.cmp .gt (.fld (.var 0) "size") (.glo "MOST_CELLS")) (.cons .stuck
  .nil) .nil)
  (.cons (.asg (.nm 1) (.loc (.lst (Ts.of []))))
  (.cons (.for_ (.tp (.cons (.nm 2) (.cons (.nm 3) .nil))) (.seq (.fld (.var 0) "runs")) (.cons (.ex (.meth (.var 1) "extend" (Ts.of [(.bin .mul (.lst (Ts.of [(.var 3)])) (.var 2))])))
  .nil))
  (.cons (.ret (.var 1))
  .nil))))
def f_Row_cells : Fn where
  np := 1
  nn := 4
  dfl := []
  keep := false
  rloc := false
  body := b_Row_cells
theorem r_Row_cells {P : Pg} {c : Fns} {st : Store} (a0 : Vl) : runFn P c f_Row_cells [a0] st = kRun f_Row_cells st (evSs (P.cfg c) P.exF b_Row_cells [some a0, none, none, none] st) := run_eq rfl rfl

/-- Row.size -/
def b_Row_size : Ss := (.cons (.ret (.bi "sum" (Ts.of [(.comp [1, 2] (.var 1) (.tp (.cons (.nm 1) (.cons (.nm 2) .nil))) (.seq (.fld (.var 0) "runs")) (Ts.of []))])))
  .nil)
def f_Row_size : Fn where
  np := 1
  nn := 3
  dfl := []
  keep := false
  rloc := false
  body := b_Row_size
theorem r_Row_size {P : Pg} {c : Fns} {st : Store} (a0 : Vl) : runFn P c f_Row_size [a0] st = kRun f_Row_size st (evSs (P.cfg c) P.exF b_Row_size [some a0, none, none] st) := run_eq rfl rfl

/-- to_row -/
def b_to_row : Ss := (.cons (.ret (.ite (.isin (.var 0) "Row") (.var 0) (.call "Row" (Ts.of [(.var 0)]))))
  .nil)
def f_to_row : Fn where
  np := 1
  nn := 1
  dfl := []
  keep := false
  rloc := false
  body := b_to_row
theorem r_to_row {P : Pg} {c : Fns} {st : Store} (a0 : Vl) : runFn P c f_to_row [a0] st = kRun f_to_row st (evSs (P.cfg c) P.exF b_to_row [some a0] st) := run_eq rfl rfl

/-- Row.__init__ -/
def b_Row___init__ : Ss := (.cons (.ex (.call "check_cells" (Ts.of [(.var 1)])))
  (.cons (.fset (.var 0) "runs" (.call "merged" (Ts.of [(.bin .add (.comp [3] (.tup (Ts.of [(.con (.int 1)), (.var 3)])) (.nm 3) (.seq (.var 1)) (Ts.of [])) (.bi "list" (Ts.of [(.var 2)])))])))
  .nil))
def f_Row___init__ : Fn where
  np := 3
  nn := 4
  dfl := [(.tup []), (.tup [])]
  keep := true
  rloc := false
  body := b_Row___init__
theorem r_Row___init___1 {P : Pg} {c : Fns} {st : Store} (a0 : Vl) : runFn P c f_Row___init__ [a0] st = kRun f_Row___init__ st (evSs (P.cfg c) P.exF b_Row___init__ [some a0, some (.d (.tup [])), some (.d (.tup [])), none] st) := run_dfl [a0, (.d (.tup [])), (.d (.tup []))] rfl rfl
theorem r_Row___init___2 {P : Pg} {c : Fns} {st : Store} (a0 a1 : Vl) : runFn P c f_Row___init__ [a0, a1] st = kRun f_Row___init__ st (evSs (P.cfg c) P.exF b_Row___init__ [some a0, some a1, some (.d (.tup [])), none] st) := run_dfl [a0, a1, (.d (.tup []))] rfl rfl
theorem r_Row___init__ {P : Pg} {c : Fns} {st : Store} (a0 a1 a2 : Vl) : runFn P c f_Row___init__ [a0, a1, a2] st = kRun f_Row___init__ st (evSs (P.cfg c) P.exF b_Row___init__ [some a0, some a1, some a2, none] st) := run_dfl [a0, a1, a2] rfl rfl

/-- check_cells -/
def b_check_cells : Ss := (.cons (.for_ (.nm 1) (.seq (.var 0)) (.cons (.ite (.cmp .lt (.var 1) (.con (.int 0))) (.cons .stuck
  .nil) .nil)
  .nil))
  .nil)
def f_check_cells : Fn where
  np := 1
  nn := 2
  dfl := []
  keep := false
  rloc := false
  body := b_check_cells
theorem r_check_cells {P : Pg} {c : Fns} {st : Store} (a0 : Vl) : runFn P c f_check_cells [a0] st = kRun f_check_cells st (evSs (P.cfg c) P.exF b_check_cells [some a0, none] st) := run_eq rfl rfl

/-- merged -/
def b_merged : Ss := (.cons (.asg (.nm 1) (.loc (.lst (Ts.of []))))
  (.cons (.for_ (.tp (.cons (.nm 2) (.cons (.nm 3) .nil))) (.seq (.var 0)) (.cons (.ite (.band (.cmp .gt (.var 2) (.con (.int 0))) (.band (.var 1) (.cmp .eq (.ix (.ix (.var 1) (.neg (.con (.int 1)))) (.con (.int 1))) (.var 3)))) (.cons (.asg (.ix (.var 1) (.neg (.con (.int 1)))) (.tup (Ts.of [(.bin .add (.ix (.ix (.var 1) (.neg (.con (.int 1)))) (.con (.int 0))) (.var 2)), (.var 3)])))
  .nil) (.cons (.ite (.cmp .gt (.var 2) (.con (.int 0))) (.cons (.ex (.meth (.var 1) "append" (Ts.of [(.tup (Ts.of [(.var 2), (.var 3)]))])))
  .nil) .nil)
  .nil))
  .nil))
  (.cons (.ite (.cmp .gt (.bi "len" (Ts.of [(.var 1)])) (.glo "MOST_RUNS")) (.cons .stuck
  .nil) .nil)
  (.cons (.ret (.bi "tuple" (Ts.of [(.var 1)])))
  .nil))))
def f_merged : Fn where
  np := 1
  nn := 4
  dfl := []
  keep := false
  rloc := false
  body := b_merged
theorem r_merged {P : Pg} {c : Fns} {st : Store} (a0 : Vl) : runFn P c f_merged [a0] st = kRun f_merged st (evSs (P.cfg c) P.exF b_merged [some a0, none, none, none] st) := run_eq rfl rfl

end PF

end

section
set_option maxHeartbeats 1000000
namespace SP
open PySem
local macro_rules | `(tactic| simp_arith [$xs,*]) => `(tactic| simp (disch := first | assumption | omega | (with_unfolding_all rfl) | (simp only [List.length_map, List.length_append, List.length_cons, List.length_nil, List.length_range]; omega)) only [g0, gS, s0, sS, gA0, gA, sA0, sA, take_A, noErr_ok, finv, fin_l, finBv, finB_l, finB_t, glob_eq, meth_eq, prop_eq, cls_eq, cfg_call, cfg_glob, cfg_prop, cfg_meth, cfg_cls, List.map_cons, List.map_nil, List.append_assoc, List.cons_append, List.nil_append, List.replicate, Option.map_some, List.length_cons, List.length_nil, Nat.reduceAdd, Nat.reduceSub, Nat.zero_add, decide_true, decide_false, Bool.not_true, Bool.not_false, Its.items, wipeE, kTr_ok, fin_t', fin_tE, tr_bl, tr_int, tr_non, tr_lst, tr_tup, tr_str, tr_loc, kTrL_lst, kTrL_dct, isL_v, isL_l, isL_t, evT_con, evT_var, kVar_ok, evT_glo, kGlo_ok, evT_bin, kBin1_ok, kBin2_ok, evT_neg, kNeg_ok, evT_not_t, evT_not_v, kNotT_ok, kNotV_ok, kNot'_ok, evT_and_t, evT_and_v, evT_and_l, evT_or_t, evT_or_v, evT_or_l, kAndT_t, kAndT_f, kOrT_f, kOrT_t, kAndV_ok, kOrV_ok, kAndV'_t, kAndV'_f, kOrV'_t, kOrV'_f, evT_cmp, kCmp1_ok, kCmp2_ok, evT_chain, kCh1_ok, kCh2_ok, kCh3_t, kCh3_f, evT_ite, kIte_t, kIte_f, evTs_of_nil, evTs_of_cons, kTs1_ok, kTs2_ok, evT_tup, kTup_ok, kTup'_ok, embs_nil, embs_d, embs_loc, kEmb1_ok, kEmb2_ok, emb_d, emb_loc, kEmb_ok, bind_some', toD_lst, kToL_ok, toD_ins, kToO_ok, dats_nil, dats_cons, kDats_ok, datsM, dats_mapd, datf_nil, datf_cons, kDatf_ok, evT_lst, kLst_ok, mkList_t, mkList_f, kMk_ok, embs_mapd, embs_map, evT_dict0, evT_ix, kIx1_ok, kIx2_ok, evT_slc, kSl1_ok, kSl2_ok, kSl3_ok, evO_none, evO_some, kO_ok, evT_rev, kRev_ok, kRev'_ok, evT_fld, kFld_ok, fldV_obj, fldV_loc, kFdL_ok, fdV_eq, kFd_f, kFd_p, lookF_hit, lookF_nil, putF_hit, putF_nil, evT_call, kCall_ok, evT_bi, kBi_1, kBi_2, evT_isin, kIs_ok, kIs'_ok, evT_meth, kMe1_ok, kMe2_own, kMe2_str, kMe2_lst, kMeO_ok, kMeB_ok, callM_eq, kCM_ok, evT_loc, stG_nm, stG_tp, stGs_nil, stGs_cons, kGs_ok, stG_ix, kGi1_ok, kGi2_ok, kGi3_lst, kGi4_d, kGi4_loc, kGi3_dct_d, kGi3_dct_loc, evSs_nil, evSs_cons, kSs_next, kSs_ret, kSs_err, kSs_brk, kSs_cont, evS_ex, kEx_ok, evS_asg, kAsg_ok, kAsg'_ok, kAsg_err, evS_fset, kFs1_ok, kFs2_ok, kFs3_d, kFs3_loc, evS_par, kPar_2, kPar_3, evS_aug, kAug_ok, kAug2_ok, augI_add, augI_sub, evS_ret, kRet_ok, evS_retN, evS_if, kIf_t, kIf_f, kBody_ok, evS_for, kFor_ok, kWh_t, kWh_f, turnW_next, turnW_cont, turnW_brk, turnW_ret, evS_whl, evS_brk, evS_cont, evS_pass, evI_seq, kSeq_ok, kSeq'_ok, evI_enu, kEnu_ok, enumIts_lst, seqIts_lst, seqIts_tup, seqIts_str, seqIts_loc, kSqL_ok, enumIts_loc, kEnL_ok, kEnL'_ok, evI_rng1, evI_rng2, kR2_ok, kC1_ok, kC2_t, kC2_f, kC3_ok, evF_of_nil, evF_of_cons, kF_t, kF_f, kF_b, evT_comp, kCo_ok, kCo2_ok, evT_comp2, kCC_ok, kD1_ok, kD2_t, kD2_f, kD3_ok, add_int, sub_int, mod_int, add_str, mul_str, add_tup, add_lst, bin_loc, bin_lloc, kBP_add, mul_lst, lt_int, le_int, gt_int, ge_int, eq_int, ne_int, is_non, isnot_non, kP1_ok, kP2_ok, kP3_ok, peek_d, peek_loc, cmp_eq_loc, cmp_eq_l, cmp_eq_t, cmpD_eq, cmpD_ne, notin_d, in_loc, notin_loc, kInL_lst, kInL_dct, kInL2_ok, kInL3_f, kInL3_t, inD_lst, inD_tup, inD_ch, inD_dct, ix_lst, ixTup, kAt_ok, ixStr, kAtS_ok, ix_loc, kIxL_lst, kIxL_dct, kAtV_ok, ix_dct, kDk_ok, at0, at1, at2, at3, slcV_eq, kSc_lst, kSc_tup, kSc_str, len_lst, len_tup, len_str, len_loc, kLn_lst, kLn_dct, int_int, int_bl, list_eq, kLi_lst, kLi_tup, tuple_eq, kTu_lst, kTu_tup, sum_lst, all_lst, any_lst, max_lst, min_lst, max_2, min_2, is_loc, kIsL_lst, rcv_str, rcv_lst, bm_join, bm_app, bm_ext, bm_pop, bm_index, rcv_obj, rcv_loc, kRc_lst, kRc_ins, meth_loc, meth_d, app_d, app_loc, ext_d, pop_l, join_l, index_l, index_loc, leave_next, leave_next0, leave_d, leave_d0, leave_loc0, leave_rloc0, keep_next, keep_ret, keep_loc, mul_i64, fdiv_i64, pow_i64, kR1_i, kR3_i, ixN_nat, Int.toNat_natCast, Int.reduceToNat, List.length_map, List.getElem?_map, Int.toNat_zero, Int.toNat_one, ne_eq, Int.cast_ofNat_Int, List.map_map, Int.reducePow, decT, decF, List.map_set, if_true, if_false, Bool.false_eq_true, eq_self, kIte_ii, $xs,*])
/-- the pen, at the bottom of the store -/
def pn (g : Store) (ns : List Int) (k : Int) : Store := g ++ [.lst (ns.map fun i => .d (.int i)), .lst [.loc g.length, .d (.int k)]]
section
variable {g : Store} {ns : List Int} {k : Int} {R : Store}
theorem pen_i : (pn g ns k ++ R)[g.length]? = some (.lst (ns.map fun i => .d (.int i))) := by simp [pn]
theorem pen_o : (pn g ns k ++ R)[g.length + 1]? = some (.lst [.loc g.length, .d (.int k)]) := by
  unfold pn
  rw [List.append_assoc, gA]
  rfl
theorem pen_so (k' : Int) : (pn g ns k ++ R).set (g.length + 1) (.lst [.loc g.length, .d (.int k')]) = pn g ns k' ++ R := by
  unfold pn
  rw [List.append_assoc, sA, List.append_assoc]
  rfl
theorem pen_si (j : Nat) (v : Int) : (pn g ns k ++ R).set g.length (.lst ((ns.map fun i => Vl.d (.int i)).set j (.d (.int v)))) = pn g (ns.set j v) k ++ R := by
  have e : (ns.map fun i => Vl.d (.int i)).set j (.d (.int v)) = (ns.set j v).map fun i => Vl.d (.int i) := by rw [List.map_set]
  rw [e]
  unfold pn
  rw [List.append_assoc, List.append_assoc]
  exact sA0 g _ _ _
theorem pn_len : (pn g ns k ++ R).length = R.length + (g.length + 2) := by simp [pn]; omega
theorem pg0 {a : MO} {l : Store} : (pn g ns k ++ (R ++ a :: l))[R.length + (g.length + 2)]? = some a := by
  have e : pn g ns k ++ (R ++ a :: l) = (pn g ns k ++ R) ++ a :: l := by rw [List.append_assoc]
  rw [e, ← pn_len (g := g) (ns := ns) (k := k) (R := R)]
  exact gA0 _ _ _
theorem pg1 {a b : MO} {l : Store} : (pn g ns k ++ (R ++ a :: b :: l))[R.length + (g.length + 2) + 1]? = some b := by
  have e : pn g ns k ++ (R ++ a :: b :: l) = (pn g ns k ++ R) ++ a :: b :: l := by rw [List.append_assoc]
  rw [e, ← pn_len (g := g) (ns := ns) (k := k) (R := R), gA]
  rfl
theorem ps0 {a b : MO} {l : Store} : (pn g ns k ++ (R ++ a :: l)).set (R.length + (g.length + 2)) b = pn g ns k ++ (R ++ b :: l) := by
  have e : ∀ a, pn g ns k ++ (R ++ a :: l) = (pn g ns k ++ R) ++ a :: l := fun a => by rw [List.append_assoc]
  rw [e, e, ← pn_len (g := g) (ns := ns) (k := k) (R := R)]
  exact sA0 _ _ _ _
theorem ps1 {a b c : MO} {l : Store} : (pn g ns k ++ (R ++ a :: b :: l)).set (R.length + (g.length + 2) + 1) c = pn g ns k ++ (R ++ a :: c :: l) := by
  have e : ∀ b, pn g ns k ++ (R ++ a :: b :: l) = (pn g ns k ++ R) ++ a :: b :: l := fun b => by rw [List.append_assoc]
  rw [e, e, ← pn_len (g := g) (ns := ns) (k := k) (R := R), sA]
  rfl
end
theorem draw_raw {P : Pg} [HFn P "_law_draw" PF.f__law_draw] (n : Nat) (g : Store) {ns : List Int} (hns : ns ≠ []) (hl : ns.length ≤ 63) {k : Int} (hk : 0 ≤ k) (hk2 : k ≤ 2 ^ 40) {many : Int} (hm : 0 < many) (hm2 : many ≤ 2 ^ 40) (R : Store) :
    ∃ r ns', ns'.length = ns.length ∧ 0 ≤ r ∧ r < many ∧ ev P (n + 1) "_law_draw" [.loc (g.length + 1), .d (.int many)] (pn g ns k ++ R) = some (.ok (.d (.int r)), pn g ns' (k + 1) ++ R) := by
  have hl0 : 0 < ns.length := List.length_pos_iff.mpr hns
  have hlI : (0 : Int) < (ns.length : Int) := by omega
  have q0 := Int.emod_nonneg k (b := (ns.length : Int)) (by omega)
  have q1 := Int.emod_lt_of_pos k hlI
  obtain ⟨j, hj⟩ := Int.eq_ofNat_of_zero_le q0
  have hjl : j < ns.length := by omega
  obtain ⟨c, hc⟩ : ∃ c, ns[j]? = some c := ⟨_, List.getElem?_eq_getElem hjl⟩
  have hm64 : many < 2 ^ 64 := by omega
  rw [ev_fn, PF.r__law_draw]
  simp_arith [PF.b__law_draw, pen_i, pen_o, pen_so, hj, atI_nat, hc]
  by_cases hb : (1000000000000000000 : Int) ≤ c
  · simp_arith [pen_i, pen_o, pen_so]
    refine ⟨c % many, ns.set j (c / many), by simp, Int.emod_nonneg _ (by omega), Int.emod_lt_of_pos _ hm, ?_⟩
    rw [keep_ret rfl]
    rw [← pen_si]
  · have hb2 : ¬ (1000000000000000000 : Int) ≤ c := hb
    simp_arith [pen_i, pen_o, pen_so]
    refine ⟨_, ns, rfl, ?_, ?_, keep_ret rfl _⟩
    · exact Int.emod_nonneg _ (by omega)
    · exact Int.emod_lt_of_pos _ hm
structure PnOk (ns : List Int) (k : Int) (K : Int) : Prop where
  ne : ns ≠ []
  len : ns.length ≤ 63
  nn : 0 ≤ k
  le : k ≤ K
theorem PnOk.mono {ns : List Int} {k K K' : Int} (h : PnOk ns k K) (l : K ≤ K') : PnOk ns k K' := ⟨h.ne, h.len, h.nn, by have := h.le; omega⟩
theorem draw_ok {P : Pg} [HFn P "_law_draw" PF.f__law_draw] (n : Nat) (g : Store) {ns : List Int} {k K : Int} (h : PnOk ns k K) (hK : K ≤ 2 ^ 40) {many : Int} (hm : 0 < many) (hm2 : many ≤ 2 ^ 40) (R : Store) :
    ∃ r ns' k', PnOk ns' k' (K + 1) ∧ 0 ≤ r ∧ r < many ∧ ev P (n + 1) "_law_draw" [.loc (g.length + 1), .d (.int many)] (pn g ns k ++ R) = some (.ok (.d (.int r)), pn g ns' k' ++ R) := by
  have h1 := h.le
  have h2 := h.nn
  obtain ⟨r, ns', hl, h3, h4, e⟩ := draw_raw (P := P) n g h.ne h.len h.nn (by omega) hm hm2 R
  refine ⟨r, ns', k + 1, ⟨fun q => h.ne (by
    rw [q] at hl
    exact List.length_eq_zero_iff.mp hl.symm), by rw [hl]; exact h.len, by omega, by omega⟩, h3, h4, e⟩
/-- a name as they are drawn -/
structure Nm (x : Str) : Prop where
  lo : 1 ≤ x.length
  hi : x.length ≤ 12
  ch : ∀ c ∈ x.cps.toList, 97 ≤ c ∧ c ≤ 122
theorem join_codes : ∀ xs : List Str, (Txt.join (S! "") xs).cps.toList = (xs.map fun x => x.cps.toList).flatten := by
  intro xs
  show (Builtin.Str.glued (S! "") xs).cps.toList = _
  rw [StrLaws.glued_eq_join]
  induction xs with
  | nil => rfl
  | cons x r ih =>
    cases r with
    | nil => simp [Str.join]
    | cons y r =>
      have e : Str.join (S! "") (x :: y :: r) = x ++ S! "" ++ Str.join (S! "") (y :: r) := rfl
      rw [e]
      show (x.cps ++ (S! "").cps ++ (Str.join (S! "") (y :: r)).cps).toList = _
      rw [Array.toList_append, Array.toList_append, ih]
      have e2 : (S! "").cps.toList = [] := by decide
      rw [e2]
      simp
theorem sum1 {α : Type} : ∀ cs : List α, (cs.map fun _ => 1).sum = cs.length
  | [] => rfl
  | c :: r => by rw [List.map_cons, List.sum_cons, sum1 r, List.length_cons]; omega
theorem flat1 : ∀ cs : List Nat, (cs.map fun c => [c]).flatten = cs
  | [] => rfl
  | c :: r => by rw [List.map_cons, List.flatten_cons, flat1 r]; rfl
section
variable {P : Pg} [HFn P "_law_draw" PF.f__law_draw]
theorem word_ok [HFn P "_law_word" PF.f__law_word] (n : Nat) (g : Store) {ns : List Int} {k K : Int} (h : PnOk ns k K) (hK : K ≤ 2 ^ 30) {most : Int} (hm : 0 < most) (hm2 : most ≤ 12) (R : Store) :
    ∃ w ns' k', PnOk ns' k' (K + 13) ∧ Nm w ∧ ev P (n + 2) "_law_word" [.loc (g.length + 1), .d (.int most)] (pn g ns k ++ R) = some (.ok (.d (.str w)), pn g ns' k' ++ R) := by
  obtain ⟨r, ns1, k1, p1, r0, r1, e1⟩ := draw_ok (P := P) n g h (by omega) hm (by omega) R
  rw [ev_fn, PF.r__law_word]
  simp_arith [PF.b__law_word, e1, rng_len]
  generalize hc : cmpF _ _ _ _ = z
  obtain ⟨ws, st1, rfl, hl, hq, ns2, k2, p2, rfl⟩ := useC hc (fun i st => ∃ ns k, PnOk ns k (K + 1 + i) ∧ st = pn g ns k ++ R) (fun v => ∃ c : Nat, v = .d (.str ⟨#[c]⟩) ∧ (97 ≤ c ∧ c ≤ 122)) ⟨_, _, by simpa using p1, rfl⟩ (fun _ _ _ => trivial) (by
    rintro i v st hv hi ⟨ns, k, p, rfl⟩
    rw [rng_len] at hi
    obtain ⟨r2, ns3, k3, p3, r20, r21, e3⟩ := draw_ok (P := P) n g p (by omega) (many := 26) (by omega) (by omega) R
    obtain ⟨c, h1, h2⟩ : ∃ c, (S! "abcdefghijklmnopqrstuvwxyz").cps.toList[r2.toNat]? = some c ∧ 97 ≤ c ∧ c ≤ 122 := by
      have hlt : r2.toNat < (S! "abcdefghijklmnopqrstuvwxyz").cps.toList.length := by
        have : (S! "abcdefghijklmnopqrstuvwxyz").cps.toList.length = 26 := by decide +kernel
        omega
      refine ⟨_, List.getElem?_eq_getElem hlt, ?_⟩
      have : ∀ c ∈ (S! "abcdefghijklmnopqrstuvwxyz").cps.toList, 97 ≤ c ∧ c ≤ 122 := by decide +kernel
      exact this _ (List.getElem_mem hlt)
    have hL : (S! "abcdefghijklmnopqrstuvwxyz").cps.toList.length = 26 := by decide +kernel
    have hS : (S! "abcdefghijklmnopqrstuvwxyz").length ≤ 16777216 := by decide +kernel
    have hA : atI (S! "abcdefghijklmnopqrstuvwxyz").cps.toList r2 = some c := by
      rw [atI_nat r20 (by omega)]
      exact h1
    refine ⟨_, pn g ns3 k3 ++ R, ?_, ⟨c, rfl, h2⟩, ns3, k3, by
      have e : K + 1 + ((i + 1 : Nat) : Int) = K + 1 + i + 1 := by omega
      rw [e]; exact p3, rfl⟩
    simp_arith [eltC_eq, e3, hA])
  obtain ⟨cs, rfl, hcs⟩ := vs_map (fun c : Nat => .d (.str ⟨#[c]⟩)) _ ws hq
  rw [List.length_map, rng_len] at hl
  rw [rng_len] at p2
  have hlen : (Txt.join (S! "") (cs.map fun c => (⟨#[c]⟩ : Str))).cps.toList = cs := by
    rw [join_codes, List.map_map]
    exact flat1 cs
  have hlen2 : (Txt.join (S! "") (cs.map fun c => (⟨#[c]⟩ : Str))).length = cs.length := by
    show (Txt.join (S! "") (cs.map fun c => (⟨#[c]⟩ : Str))).cps.size = _
    rw [← Array.length_toList, hlen]
  have hj : methD false (.str (S! "")) "join" [.d (.lst (cs.map fun c => .str ⟨#[c]⟩))] (pn g ns2 k2 ++ R) = some (.ok (.d (.str (Txt.join (S! "") (cs.map fun c => (⟨#[c]⟩ : Str))))), pn g ns2 k2 ++ R) := by
    have e : (cs.map fun c => D.str ⟨#[c]⟩) = (cs.map fun c => (⟨#[c]⟩ : Str)).map D.str := by rw [List.map_map]; rfl
    rw [e]
    refine join_l (m := false) ?_
    have e1 : ((cs.map fun c => (⟨#[c]⟩ : Str)).map fun x => x.length).sum = cs.length := by
      rw [List.map_map]
      exact sum1 cs
    have e2 : (S! "").length = 0 := by decide
    rw [e1, e2, List.length_map]
    omega
  simp_arith [embs_map, hj]
  refine ⟨_, ns2, k2, p2.mono (by omega), ⟨by omega, by omega, ?_⟩, keep_ret rfl _⟩
  rw [hlen]
  exact hcs
end
end SP

end

section
set_option maxHeartbeats 1000000
namespace SP
open PySem
def D.ok (n : Nat) (d : D) : Bool := d.plain && decide (d.depth ≤ n)
theorem ok_shp {n : Nat} {d : D} (h : d.ok n = true) (hn : n ≤ 64) : d.shp = true := by
  unfold D.ok at h
  rw [Bool.and_eq_true, decide_eq_true_eq] at h
  unfold D.shp
  rw [Bool.and_eq_true, decide_eq_true_eq]
  exact ⟨h.1, by omega⟩
theorem ok_mono {n m : Nat} {d : D} (h : d.ok n = true) (hn : n ≤ m) : d.ok m = true := by
  unfold D.ok at h ⊢
  rw [Bool.and_eq_true, decide_eq_true_eq] at h ⊢
  exact ⟨h.1, by omega⟩
theorem plains_of : ∀ {ds : List D}, (∀ d ∈ ds, d.plain = true) → D.plains ds = true
  | [], _ => rfl
  | d :: r, h => by
    simp only [D.plains, Bool.and_eq_true]
    exact ⟨h d List.mem_cons_self, plains_of fun e he => h e (List.mem_cons_of_mem _ he)⟩
theorem depths_of {n : Nat} : ∀ {ds : List D}, (∀ d ∈ ds, d.depth ≤ n) → D.depths ds ≤ n
  | [], _ => Nat.zero_le _
  | d :: r, h => by
    simp only [D.depths]
    have h1 := h d List.mem_cons_self
    have h2 := depths_of (ds := r) fun e he => h e (List.mem_cons_of_mem _ he)
    omega
theorem ok_lst {n : Nat} {ds : List D} (h : ∀ d ∈ ds, d.ok n = true) : (D.lst ds).ok (n + 1) = true := by
  have h1 : ∀ d ∈ ds, d.plain = true ∧ d.depth ≤ n := fun d hd => by
    have := h d hd
    unfold D.ok at this
    rw [Bool.and_eq_true, decide_eq_true_eq] at this
    exact this
  unfold D.ok
  rw [Bool.and_eq_true, decide_eq_true_eq]
  refine ⟨?_, ?_⟩
  · simp only [D.plain]
    exact plains_of fun d hd => (h1 d hd).1
  · simp only [D.depth]
    have := depths_of fun d hd => (h1 d hd).2
    omega
theorem ok_tup {n : Nat} {ds : List D} (h : ∀ d ∈ ds, d.ok n = true) : (D.tup ds).ok (n + 1) = true := by
  have h1 : ∀ d ∈ ds, d.plain = true ∧ d.depth ≤ n := fun d hd => by
    have := h d hd
    unfold D.ok at this
    rw [Bool.and_eq_true, decide_eq_true_eq] at this
    exact this
  unfold D.ok
  rw [Bool.and_eq_true, decide_eq_true_eq]
  refine ⟨?_, ?_⟩
  · simp only [D.plain]
    exact plains_of fun d hd => (h1 d hd).1
  · simp only [D.depth]
    have := depths_of fun d hd => (h1 d hd).2
    omega
theorem ok_int (n : Nat) (i : Int) : (D.int i).ok n = true := by simp [D.ok, D.plain, D.depth]
theorem ok_bl (n : Nat) (i : Bool) : (D.bl i).ok n = true := by simp [D.ok, D.plain, D.depth]
theorem ok_non (n : Nat) : D.non.ok n = true := by simp [D.ok, D.plain, D.depth]
theorem ok_str {n : Nat} {x : Str} (h : PyData.strOk x = true) : (D.str x).ok n = true := by simp [D.ok, D.plain, D.depth, h]
theorem shp_int (i : Int) : (D.int i).shp = true := rfl
theorem shp_bl (i : Bool) : (D.bl i).shp = true := rfl
theorem shp_non : D.non.shp = true := rfl
theorem shp_str {x : Str} (h : PyData.strOk x = true) : (D.str x).shp = true := ok_shp (ok_str (n := 0) h) (by omega)
theorem Nm.ok {x : Str} (h : Nm x) : PyData.strOk x = true := by
  unfold PyData.strOk
  rw [Array.all_eq_true']
  intro c hc
  have := h.ch c (by simpa using hc)
  exact decide_eq_true (by omega)
theorem Nm.lok {x : Str} (h : Nm x) : x.length ≤ 16777216 := by have := h.hi; omega
mutual
def D.nb : D → Bool
  | .non | .int _ | .str _ => true
  | .tup xs | .lst xs => D.nbs xs
  | _ => false
def D.nbs : List D → Bool
  | [] => true
  | x :: xs => D.nb x && D.nbs xs
end
mutual
theorem eqv_nb : ∀ (a b : D), a.nb = true → b.nb = true → (D.eqv a b = true ↔ a = b)
  | a, b, ha, hb => by
    cases a <;> cases b <;> first
      | (simp [D.nb] at ha; done)
      | (simp [D.nb] at hb; done)
      | (simp [D.eqv]; done)
      | (rename_i xs ys
         simp only [D.eqv]
         rw [eqvs_nb xs ys (by simpa [D.nb] using ha) (by simpa [D.nb] using hb)]
         simp)
theorem eqvs_nb : ∀ (a b : List D), D.nbs a = true → D.nbs b = true → (D.eqvs a b = true ↔ a = b)
  | [], [], _, _ => by simp [D.eqvs]
  | [], _ :: _, _, _ => by simp [D.eqvs]
  | _ :: _, [], _, _ => by simp [D.eqvs]
  | x :: xs, y :: ys, ha, hb => by
    simp only [D.nbs, Bool.and_eq_true] at ha hb
    simp only [D.eqvs, Bool.and_eq_true, eqv_nb x y ha.1 hb.1, eqvs_nb xs ys ha.2 hb.2, List.cons.injEq]
end
theorem nbs_of : ∀ {ds : List D}, (∀ d ∈ ds, d.nb = true) → D.nbs ds = true
  | [], _ => rfl
  | d :: r, h => by
    simp only [D.nbs, Bool.and_eq_true]
    exact ⟨h d List.mem_cons_self, nbs_of fun e he => h e (List.mem_cons_of_mem _ he)⟩
theorem nb_int (i : Int) : (D.int i).nb = true := rfl
theorem nb_str (i : Str) : (D.str i).nb = true := rfl
theorem nb_non : D.non.nb = true := rfl
theorem nb_lst {ds : List D} (h : ∀ d ∈ ds, d.nb = true) : (D.lst ds).nb = true := by simp only [D.nb]; exact nbs_of h
theorem nb_tup {ds : List D} (h : ∀ d ∈ ds, d.nb = true) : (D.tup ds).nb = true := by simp only [D.nb]; exact nbs_of h
theorem eqv_self {a : D} (h : a.nb = true) : D.eqv a a = true := (eqv_nb a a h h).mpr rfl
open Classical in
theorem eqv_dec {a b : D} (ha : a.nb = true) (hb : b.nb = true) : D.eqv a b = decide (a = b) := by
  cases q : D.eqv a b with
  | true => exact (decide_eq_true ((eqv_nb a b ha hb).mp q)).symm
  | false =>
    refine (decide_eq_false fun e => ?_).symm
    rw [(eqv_nb a b ha hb).mpr e] at q
    cases q
theorem eqv_str (x y : Str) : D.eqv (.str x) (.str y) = decide (x = y) := by
  simp only [D.eqv]
  cases q : decide (x = y) with
  | true => rw [of_decide_eq_true q]; simp
  | false => simpa using q
theorem eqv_int (x y : Int) : D.eqv (.int x) (.int y) = decide (x = y) := by
  simp only [D.eqv]
  cases q : decide (x = y) with
  | true => rw [of_decide_eq_true q]; simp
  | false => simpa using q
theorem any_str (xs : List Str) (x : Str) : ((xs.map D.str).any fun z => D.eqv z (.str x)) = decide (x ∈ xs) := by
  induction xs with
  | nil => rfl
  | cons y r ih =>
    rw [List.map_cons, List.any_cons, ih, eqv_str]
    by_cases h : y = x
    · subst h; simp
    · have : ¬ x = y := fun e => h e.symm
      simp [h, this]
theorem any_int (xs : List Int) (x : Int) : ((xs.map D.int).any fun z => D.eqv z (.int x)) = decide (x ∈ xs) := by
  induction xs with
  | nil => rfl
  | cons y r ih =>
    rw [List.map_cons, List.any_cons, ih, eqv_int]
    by_cases h : y = x
    · subst h; simp
    · have : ¬ x = y := fun e => h e.symm
      simp [h, this]
theorem flat_strs (xs : List Str) : (xs.map D.str).all D.flat = true := by
  simp [D.flat]
theorem dats_strs (xs : List Str) : dats (xs.map fun x => .d (.str x)) = some (xs.map .str) := datsM _ _
theorem shp_strs {xs : List Str} (h : ∀ x ∈ xs, PyData.strOk x = true) : (D.lst (xs.map .str)).shp = true := by
  refine ok_shp (ok_lst (n := 0) fun d hd => ?_) (by omega)
  obtain ⟨x, hx, rfl⟩ := List.mem_map.mp hd
  exact ok_str (h x hx)
theorem shp_ints (xs : List Int) : (D.lst (xs.map .int)).shp = true := by
  refine ok_shp (ok_lst (n := 0) fun d hd => ?_) (by omega)
  obtain ⟨x, hx, rfl⟩ := List.mem_map.mp hd
  exact ok_int _ _
/-- n times a -/
def aN (n : Nat) : Str := repS (S! "a") n
theorem aN_codes (n : Nat) : (aN n).cps.toList = List.replicate n 97 := by
  show (List.replicate ((n : Int).toNat) (S! "a").cps.toList).flatten.toArray.toList = _
  have e : (S! "a").cps.toList = [97] := by decide
  rw [e, Int.toNat_natCast]
  simp
theorem aN_len (n : Nat) : (aN n).length = n := by
  show (aN n).cps.size = n
  rw [← Array.length_toList, aN_codes, List.length_replicate]
theorem aN_nm {n : Nat} (h1 : 1 ≤ n) (h2 : n ≤ 12) : Nm (aN n) := by
  refine ⟨by rw [aN_len]; exact h1, by rw [aN_len]; exact h2, fun c hc => ?_⟩
  rw [aN_codes] at hc
  have := List.eq_of_mem_replicate hc
  omega
def cands : List Str := (List.range 12).map fun i => aN (i + 1)
theorem cands_nodup : cands.Nodup := by
  unfold cands
  refine (List.pairwise_map).mpr (List.Pairwise.imp (fun {a b} h e => h ?_) List.nodup_range)
  have := congrArg Str.length e
  rw [aN_len, aN_len] at this
  omega
theorem spare {found : List Str} (h : found.length < 12) : ∃ x r, cands.filter (fun x => !decide (x ∈ found)) = x :: r ∧ x ∉ found ∧ Nm x := by
  cases q : cands.filter (fun x => !decide (x ∈ found)) with
  | nil =>
    exfalso
    have hs : cands ⊆ found := fun x hx => by
      have := List.filter_eq_nil_iff.mp q x hx
      simpa using this
    have := List.Nodup.length_le_of_subset cands_nodup hs
    have e : cands.length = 12 := by simp [cands]
    omega
  | cons x r =>
    have hx : x ∈ cands.filter (fun x => !decide (x ∈ found)) := by rw [q]; exact List.mem_cons_self
    obtain ⟨h1, h2⟩ := List.mem_filter.mp hx
    refine ⟨x, r, rfl, by simpa using h2, ?_⟩
    unfold cands at h1
    obtain ⟨i, hi, rfl⟩ := List.mem_map.mp h1
    have := List.mem_range.mp hi
    exact aN_nm (by omega) (by omega)
end SP

end

section
set_option maxHeartbeats 1000000
namespace SP
open PySem
local macro_rules | `(tactic| simp_arith [$xs,*]) => `(tactic| simp (disch := first | assumption | omega | (with_unfolding_all rfl) | (simp only [List.length_map, List.length_append, List.length_cons, List.length_nil, List.length_range]; omega)) only [g0, gS, s0, sS, gA0, gA, sA0, sA, take_A, noErr_ok, finv, fin_l, finBv, finB_l, finB_t, glob_eq, meth_eq, prop_eq, cls_eq, cfg_call, cfg_glob, cfg_prop, cfg_meth, cfg_cls, List.map_cons, List.map_nil, List.append_assoc, List.cons_append, List.nil_append, List.replicate, Option.map_some, List.length_cons, List.length_nil, Nat.reduceAdd, Nat.reduceSub, Nat.zero_add, decide_true, decide_false, Bool.not_true, Bool.not_false, Its.items, wipeE, kTr_ok, fin_t', fin_tE, tr_bl, tr_int, tr_non, tr_lst, tr_tup, tr_str, tr_loc, kTrL_lst, kTrL_dct, isL_v, isL_l, isL_t, evT_con, evT_var, kVar_ok, evT_glo, kGlo_ok, evT_bin, kBin1_ok, kBin2_ok, evT_neg, kNeg_ok, evT_not_t, evT_not_v, kNotT_ok, kNotV_ok, kNot'_ok, evT_and_t, evT_and_v, evT_and_l, evT_or_t, evT_or_v, evT_or_l, kAndT_t, kAndT_f, kOrT_f, kOrT_t, kAndV_ok, kOrV_ok, kAndV'_t, kAndV'_f, kOrV'_t, kOrV'_f, evT_cmp, kCmp1_ok, kCmp2_ok, evT_chain, kCh1_ok, kCh2_ok, kCh3_t, kCh3_f, evT_ite, kIte_t, kIte_f, evTs_of_nil, evTs_of_cons, kTs1_ok, kTs2_ok, evT_tup, kTup_ok, kTup'_ok, embs_nil, embs_d, embs_loc, kEmb1_ok, kEmb2_ok, emb_d, emb_loc, kEmb_ok, bind_some', toD_lst, kToL_ok, toD_ins, kToO_ok, dats_nil, dats_cons, kDats_ok, datsM, dats_mapd, datf_nil, datf_cons, kDatf_ok, evT_lst, kLst_ok, mkList_t, mkList_f, kMk_ok, embs_mapd, embs_map, evT_dict0, evT_ix, kIx1_ok, kIx2_ok, evT_slc, kSl1_ok, kSl2_ok, kSl3_ok, evO_none, evO_some, kO_ok, evT_rev, kRev_ok, kRev'_ok, evT_fld, kFld_ok, fldV_obj, fldV_loc, kFdL_ok, fdV_eq, kFd_f, kFd_p, lookF_hit, lookF_nil, putF_hit, putF_nil, evT_call, kCall_ok, evT_bi, kBi_1, kBi_2, evT_isin, kIs_ok, kIs'_ok, evT_meth, kMe1_ok, kMe2_own, kMe2_str, kMe2_lst, kMeO_ok, kMeB_ok, callM_eq, kCM_ok, evT_loc, stG_nm, stG_tp, stGs_nil, stGs_cons, kGs_ok, stG_ix, kGi1_ok, kGi2_ok, kGi3_lst, kGi4_d, kGi4_loc, kGi3_dct_d, kGi3_dct_loc, evSs_nil, evSs_cons, kSs_next, kSs_ret, kSs_err, kSs_brk, kSs_cont, evS_ex, kEx_ok, evS_asg, kAsg_ok, kAsg'_ok, kAsg_err, evS_fset, kFs1_ok, kFs2_ok, kFs3_d, kFs3_loc, evS_par, kPar_2, kPar_3, evS_aug, kAug_ok, kAug2_ok, augI_add, augI_sub, evS_ret, kRet_ok, evS_retN, evS_if, kIf_t, kIf_f, kBody_ok, evS_for, kFor_ok, kWh_t, kWh_f, turnW_next, turnW_cont, turnW_brk, turnW_ret, evS_whl, evS_brk, evS_cont, evS_pass, evI_seq, kSeq_ok, kSeq'_ok, evI_enu, kEnu_ok, enumIts_lst, seqIts_lst, seqIts_tup, seqIts_str, seqIts_loc, kSqL_ok, enumIts_loc, kEnL_ok, kEnL'_ok, evI_rng1, evI_rng2, kR2_ok, kC1_ok, kC2_t, kC2_f, kC3_ok, evF_of_nil, evF_of_cons, kF_t, kF_f, kF_b, evT_comp, kCo_ok, kCo2_ok, evT_comp2, kCC_ok, kD1_ok, kD2_t, kD2_f, kD3_ok, add_int, sub_int, mod_int, add_str, mul_str, add_tup, add_lst, bin_loc, bin_lloc, kBP_add, mul_lst, lt_int, le_int, gt_int, ge_int, eq_int, ne_int, is_non, isnot_non, kP1_ok, kP2_ok, kP3_ok, peek_d, peek_loc, cmp_eq_loc, cmp_eq_l, cmp_eq_t, cmpD_eq, cmpD_ne, notin_d, in_loc, notin_loc, kInL_lst, kInL_dct, kInL2_ok, kInL3_f, kInL3_t, inD_lst, inD_tup, inD_ch, inD_dct, ix_lst, ixTup, kAt_ok, ixStr, kAtS_ok, ix_loc, kIxL_lst, kIxL_dct, kAtV_ok, ix_dct, kDk_ok, at0, at1, at2, at3, slcV_eq, kSc_lst, kSc_tup, kSc_str, len_lst, len_tup, len_str, len_loc, kLn_lst, kLn_dct, int_int, int_bl, list_eq, kLi_lst, kLi_tup, tuple_eq, kTu_lst, kTu_tup, sum_lst, all_lst, any_lst, max_lst, min_lst, max_2, min_2, is_loc, kIsL_lst, rcv_str, rcv_lst, bm_join, bm_app, bm_ext, bm_pop, bm_index, rcv_obj, rcv_loc, kRc_lst, kRc_ins, meth_loc, meth_d, app_d, app_loc, ext_d, pop_l, join_l, index_l, index_loc, leave_next, leave_next0, leave_d, leave_d0, leave_loc0, leave_rloc0, keep_next, keep_ret, keep_loc, mul_i64, fdiv_i64, pow_i64, kR1_i, kR3_i, ixN_nat, Int.toNat_natCast, Int.reduceToNat, List.length_map, List.getElem?_map, Int.toNat_zero, Int.toNat_one, ne_eq, Int.cast_ofNat_Int, List.map_map, Int.reducePow, decT, decF, List.map_set, if_true, if_false, Bool.false_eq_true, eq_self, kIte_ii, $xs,*])
section
variable {P : Pg} [HFn P "_law_draw" PF.f__law_draw] [HFn P "_law_word" PF.f__law_word]
theorem names_ok [HFn P "_law_names" PF.f__law_names] (n : Nat) (g : Store) {ns : List Int} {k K : Int} (h : PnOk ns k K) (hK : K ≤ 2 ^ 29) (many : Nat) (hm : many ≤ 11) (R : Store) :
    ∃ (xs : List Str) (ns' : List Int) (k' : Int), PnOk ns' k' (K + 14 * many) ∧ xs.length = many ∧ xs.Nodup ∧ (∀ x ∈ xs, Nm x) ∧ ev P (n + 3) "_law_names" [.loc (g.length + 1), .d (.int many)] (pn g ns k ++ R) = some (.ok (.loc (R.length + (g.length + 2))), pn g ns' k' ++ (R ++ [.lst (xs.map fun x => .d (.str x))])) := by
  rw [ev_fn, PF.r__law_names]
  simp_arith [PF.b__law_names, pn_len]
  generalize hc : forF _ _ _ _ _ = z
  obtain ⟨ρ1, st1, rfl, ns2, k2, xs, a3, a4, a5, rfl, rfl, p2, hl, hnd, hnm⟩ := useF hc (fun i ρ st => ∃ ns k, ∃ (xs : List Str), ∃ a3 a4 a5, ρ = [some (.loc (g.length + 1)), some (.d (.int many)), some (.loc (R.length + (g.length + 2))), a3, a4, a5, none, none] ∧ st = pn g ns k ++ (R ++ [.lst (xs.map fun x => .d (.str x))]) ∧ PnOk ns k (K + 14 * i) ∧ xs.length = i ∧ xs.Nodup ∧ ∀ x ∈ xs, Nm x)
    ⟨ns, k, [], none, none, none, rfl, rfl, h.mono (by omega), rfl, List.nodup_nil, fun x hx => by cases hx⟩ (fun _ _ _ _ _ => trivial) (by
    rintro i v ρ st hv ⟨ns, k, xs, a3, a4, a5, rfl, rfl, p, hl, hnd, hnm⟩
    obtain ⟨rfl, hi⟩ := get_rng hv
    obtain ⟨r, ns1, k1, p1, r0, r1, e1⟩ := draw_ok (P := P) (n + 1) g p (by omega) (many := 4) (by omega) (by omega) (R ++ [.lst (xs.map fun x => .d (.str x))])
    obtain ⟨w, ns2, k2, p2, hw, e2⟩ := word_ok (P := P) n g p1 (by omega) (most := if (decide (r = 0)) = true then 12 else 2) (by split <;> omega) (by split <;> omega) (R ++ [.lst (xs.map fun x => .d (.str x))])
    have hs0 : (S! "a").length = 1 := by decide
    have hxo : ∀ x ∈ xs, PyData.strOk x = true := fun x hx => (hnm x hx).ok
    have hxs := shp_strs hxo
    have hws := shp_str hw.ok
    obtain ⟨y, rest, q1, q2, q3⟩ := spare (found := xs) (by omega)
    simp_arith [bodyF_eq, e1, e2]
    generalize hc1 : cmpF _ _ _ _ = z1
    have h1 := useMap hc1 (List.range 12) (fun k => .d (.int (1 + (k : Int)))) (fun k => .d (.str (aN (k + 1)))) rfl trivial (by
      intro k hk
      have hk := List.mem_range.mp hk
      have e : repS (S! "a") (1 + (k : Int)) = aN (k + 1) := by
        unfold aN
        rw [show (1 + (k : Int)) = ((k + 1 : Nat) : Int) by omega]
      simp (disch := first | assumption | omega | (rw [hs0]; omega)) only [g0, gS, s0, sS, gA0, gA, sA0, sA, take_A, noErr_ok, finv, fin_l, finBv, finB_l, finB_t, glob_eq, meth_eq, prop_eq, cls_eq, cfg_call, cfg_glob, cfg_prop, cfg_meth, cfg_cls, List.map_cons, List.map_nil, List.append_assoc, List.cons_append, List.nil_append, List.replicate, Option.map_some, List.length_cons, List.length_nil, Nat.reduceAdd, Nat.reduceSub, Nat.zero_add, decide_true, decide_false, Bool.not_true, Bool.not_false, Its.items, wipeE, kTr_ok, fin_t', fin_tE, tr_bl, tr_int, tr_non, tr_lst, tr_tup, tr_str, tr_loc, kTrL_lst, kTrL_dct, isL_v, isL_l, isL_t, evT_con, evT_var, kVar_ok, evT_glo, kGlo_ok, evT_bin, kBin1_ok, kBin2_ok, evT_neg, kNeg_ok, evT_not_t, evT_not_v, kNotT_ok, kNotV_ok, kNot'_ok, evT_and_t, evT_and_v, evT_and_l, evT_or_t, evT_or_v, evT_or_l, kAndT_t, kAndT_f, kOrT_f, kOrT_t, kAndV_ok, kOrV_ok, kAndV'_t, kAndV'_f, kOrV'_t, kOrV'_f, evT_cmp, kCmp1_ok, kCmp2_ok, evT_chain, kCh1_ok, kCh2_ok, kCh3_t, kCh3_f, evT_ite, kIte_t, kIte_f, evTs_of_nil, evTs_of_cons, kTs1_ok, kTs2_ok, evT_tup, kTup_ok, kTup'_ok, embs_nil, embs_d, embs_loc, kEmb1_ok, kEmb2_ok, emb_d, emb_loc, kEmb_ok, bind_some', toD_lst, kToL_ok, toD_ins, kToO_ok, dats_nil, dats_cons, kDats_ok, datsM, dats_mapd, datf_nil, datf_cons, kDatf_ok, evT_lst, kLst_ok, mkList_t, mkList_f, kMk_ok, embs_mapd, embs_map, evT_dict0, evT_ix, kIx1_ok, kIx2_ok, evT_slc, kSl1_ok, kSl2_ok, kSl3_ok, evO_none, evO_some, kO_ok, evT_rev, kRev_ok, kRev'_ok, evT_fld, kFld_ok, fldV_obj, fldV_loc, kFdL_ok, fdV_eq, kFd_f, kFd_p, lookF_hit, lookF_nil, putF_hit, putF_nil, evT_call, kCall_ok, evT_bi, kBi_1, kBi_2, evT_isin, kIs_ok, kIs'_ok, evT_meth, kMe1_ok, kMe2_own, kMe2_str, kMe2_lst, kMeO_ok, kMeB_ok, callM_eq, kCM_ok, evT_loc, stG_nm, stG_tp, stGs_nil, stGs_cons, kGs_ok, stG_ix, kGi1_ok, kGi2_ok, kGi3_lst, kGi4_d, kGi4_loc, kGi3_dct_d, kGi3_dct_loc, evSs_nil, evSs_cons, kSs_next, kSs_ret, kSs_err, kSs_brk, kSs_cont, evS_ex, kEx_ok, evS_asg, kAsg_ok, kAsg'_ok, kAsg_err, evS_fset, kFs1_ok, kFs2_ok, kFs3_d, kFs3_loc, evS_par, kPar_2, kPar_3, evS_aug, kAug_ok, kAug2_ok, augI_add, augI_sub, evS_ret, kRet_ok, evS_retN, evS_if, kIf_t, kIf_f, kBody_ok, evS_for, kFor_ok, kWh_t, kWh_f, turnW_next, turnW_cont, turnW_brk, turnW_ret, evS_whl, evS_brk, evS_cont, evS_pass, evI_seq, kSeq_ok, kSeq'_ok, evI_enu, kEnu_ok, enumIts_lst, seqIts_lst, seqIts_tup, seqIts_str, seqIts_loc, kSqL_ok, enumIts_loc, kEnL_ok, kEnL'_ok, evI_rng1, evI_rng2, kR2_ok, kC1_ok, kC2_t, kC2_f, kC3_ok, evF_of_nil, evF_of_cons, kF_t, kF_f, kF_b, evT_comp, kCo_ok, kCo2_ok, evT_comp2, kCC_ok, kD1_ok, kD2_t, kD2_f, kD3_ok, add_int, sub_int, mod_int, add_str, mul_str, add_tup, add_lst, bin_loc, bin_lloc, kBP_add, mul_lst, lt_int, le_int, gt_int, ge_int, eq_int, ne_int, is_non, isnot_non, kP1_ok, kP2_ok, kP3_ok, peek_d, peek_loc, cmp_eq_loc, cmp_eq_l, cmp_eq_t, cmpD_eq, cmpD_ne, notin_d, in_loc, notin_loc, kInL_lst, kInL_dct, kInL2_ok, kInL3_f, kInL3_t, inD_lst, inD_tup, inD_ch, inD_dct, ix_lst, ixTup, kAt_ok, ixStr, kAtS_ok, ix_loc, kIxL_lst, kIxL_dct, kAtV_ok, ix_dct, kDk_ok, at0, at1, at2, at3, slcV_eq, kSc_lst, kSc_tup, kSc_str, len_lst, len_tup, len_str, len_loc, kLn_lst, kLn_dct, int_int, int_bl, list_eq, kLi_lst, kLi_tup, tuple_eq, kTu_lst, kTu_tup, sum_lst, all_lst, any_lst, max_lst, min_lst, max_2, min_2, is_loc, kIsL_lst, rcv_str, rcv_lst, bm_join, bm_app, bm_ext, bm_pop, bm_index, rcv_obj, rcv_loc, kRc_lst, kRc_ins, meth_loc, meth_d, app_d, app_loc, ext_d, pop_l, join_l, index_l, index_loc, leave_next, leave_next0, leave_d, leave_d0, leave_loc0, leave_rloc0, keep_next, keep_ret, keep_loc, mul_i64, fdiv_i64, pow_i64, kR1_i, kR3_i, ixN_nat, Int.toNat_natCast, Int.reduceToNat, List.length_map, List.getElem?_map, Int.toNat_zero, Int.toNat_one, ne_eq, Int.cast_ofNat_Int, List.map_map, Int.reducePow, decT, decF, List.map_set, if_true, if_false, Bool.false_eq_true, eq_self, kIte_ii, eltC_eq, e])
    subst h1
    simp_arith [embs_map, List.length_range]
    generalize hc2 : cmpF _ _ _ _ = z2
    have h2 := useFil hc2 cands (fun x => .d (.str x)) (fun x => !decide (x ∈ xs)) (fun x => .d (.str x)) (by unfold cands; simp [List.map_map, Function.comp_def]) trivial (by
      intro x hx
      have hx : PyData.strOk x = true := by
        obtain ⟨i, hi, rfl⟩ := List.mem_map.mp hx
        have := List.mem_range.mp hi
        exact (aN_nm (by omega) (by omega)).ok
      have hx := shp_str hx
      simp_arith [eltC_eq, pg0, dats_strs, inD_lst, any_str, kC2_b, kF_b]
      cases decide (x ∈ xs) <;> simp_arith [bnd_ok])
    subst h2
    rw [q1]
    have hlen : rest.length < 100 := by
      have := List.length_filter_le (fun x => !decide (x ∈ xs)) cands
      rw [q1] at this
      simp [cands] at this
      omega
    by_cases hin : w ∈ xs
    · simp (disch := first | assumption | omega | rfl | (simp only [List.length_map, List.length_append, List.length_cons, List.length_nil, List.length_range]; omega)) only [g0, gS, s0, sS, gA0, gA, sA0, sA, take_A, noErr_ok, finv, fin_l, finBv, finB_l, finB_t, glob_eq, meth_eq, prop_eq, cls_eq, cfg_call, cfg_glob, cfg_prop, cfg_meth, cfg_cls, List.map_cons, List.map_nil, List.append_assoc, List.cons_append, List.nil_append, List.replicate, Option.map_some, List.length_cons, List.length_nil, Nat.reduceAdd, Nat.reduceSub, Nat.zero_add, decide_true, decide_false, Bool.not_true, Bool.not_false, Its.items, wipeE, kTr_ok, fin_t', fin_tE, tr_bl, tr_int, tr_non, tr_lst, tr_tup, tr_str, tr_loc, kTrL_lst, kTrL_dct, isL_v, isL_l, isL_t, evT_con, evT_var, kVar_ok, evT_glo, kGlo_ok, evT_bin, kBin1_ok, kBin2_ok, evT_neg, kNeg_ok, evT_not_t, evT_not_v, kNotT_ok, kNotV_ok, kNot'_ok, evT_and_t, evT_and_v, evT_and_l, evT_or_t, evT_or_v, evT_or_l, kAndT_t, kAndT_f, kOrT_f, kOrT_t, kAndV_ok, kOrV_ok, kAndV'_t, kAndV'_f, kOrV'_t, kOrV'_f, evT_cmp, kCmp1_ok, kCmp2_ok, evT_chain, kCh1_ok, kCh2_ok, kCh3_t, kCh3_f, evT_ite, kIte_t, kIte_f, evTs_of_nil, evTs_of_cons, kTs1_ok, kTs2_ok, evT_tup, kTup_ok, kTup'_ok, embs_nil, embs_d, embs_loc, kEmb1_ok, kEmb2_ok, emb_d, emb_loc, kEmb_ok, bind_some', toD_lst, kToL_ok, toD_ins, kToO_ok, dats_nil, dats_cons, kDats_ok, datsM, dats_mapd, datf_nil, datf_cons, kDatf_ok, evT_lst, kLst_ok, mkList_t, mkList_f, kMk_ok, embs_mapd, embs_map, evT_dict0, evT_ix, kIx1_ok, kIx2_ok, evT_slc, kSl1_ok, kSl2_ok, kSl3_ok, evO_none, evO_some, kO_ok, evT_rev, kRev_ok, kRev'_ok, evT_fld, kFld_ok, fldV_obj, fldV_loc, kFdL_ok, fdV_eq, kFd_f, kFd_p, lookF_hit, lookF_nil, putF_hit, putF_nil, evT_call, kCall_ok, evT_bi, kBi_1, kBi_2, evT_isin, kIs_ok, kIs'_ok, evT_meth, kMe1_ok, kMe2_own, kMe2_str, kMe2_lst, kMeO_ok, kMeB_ok, callM_eq, kCM_ok, evT_loc, stG_nm, stG_tp, stGs_nil, stGs_cons, kGs_ok, stG_ix, kGi1_ok, kGi2_ok, kGi3_lst, kGi4_d, kGi4_loc, kGi3_dct_d, kGi3_dct_loc, evSs_nil, evSs_cons, kSs_next, kSs_ret, kSs_err, kSs_brk, kSs_cont, evS_ex, kEx_ok, evS_asg, kAsg_ok, kAsg'_ok, kAsg_err, evS_fset, kFs1_ok, kFs2_ok, kFs3_d, kFs3_loc, evS_par, kPar_2, kPar_3, evS_aug, kAug_ok, kAug2_ok, augI_add, augI_sub, evS_ret, kRet_ok, evS_retN, evS_if, kIf_t, kIf_f, kBody_ok, evS_for, kFor_ok, kWh_t, kWh_f, turnW_next, turnW_cont, turnW_brk, turnW_ret, evS_whl, evS_brk, evS_cont, evS_pass, evI_seq, kSeq_ok, kSeq'_ok, evI_enu, kEnu_ok, enumIts_lst, seqIts_lst, seqIts_tup, seqIts_str, seqIts_loc, kSqL_ok, enumIts_loc, kEnL_ok, kEnL'_ok, evI_rng1, evI_rng2, kR2_ok, kC1_ok, kC2_t, kC2_f, kC3_ok, evF_of_nil, evF_of_cons, kF_t, kF_f, kF_b, evT_comp, kCo_ok, kCo2_ok, evT_comp2, kCC_ok, kD1_ok, kD2_t, kD2_f, kD3_ok, add_int, sub_int, mod_int, add_str, mul_str, add_tup, add_lst, bin_loc, bin_lloc, kBP_add, mul_lst, lt_int, le_int, gt_int, ge_int, eq_int, ne_int, is_non, isnot_non, kP1_ok, kP2_ok, kP3_ok, peek_d, peek_loc, cmp_eq_loc, cmp_eq_l, cmp_eq_t, cmpD_eq, cmpD_ne, notin_d, in_loc, notin_loc, kInL_lst, kInL_dct, kInL2_ok, kInL3_f, kInL3_t, inD_lst, inD_tup, inD_ch, inD_dct, ix_lst, ixTup, kAt_ok, ixStr, kAtS_ok, ix_loc, kIxL_lst, kIxL_dct, kAtV_ok, ix_dct, kDk_ok, at0, at1, at2, at3, slcV_eq, kSc_lst, kSc_tup, kSc_str, len_lst, len_tup, len_str, len_loc, kLn_lst, kLn_dct, int_int, int_bl, list_eq, kLi_lst, kLi_tup, tuple_eq, kTu_lst, kTu_tup, sum_lst, all_lst, any_lst, max_lst, min_lst, max_2, min_2, is_loc, kIsL_lst, rcv_str, rcv_lst, bm_join, bm_app, bm_ext, bm_pop, bm_index, rcv_obj, rcv_loc, kRc_lst, kRc_ins, meth_loc, meth_d, app_d, app_loc, ext_d, pop_l, join_l, index_l, index_loc, leave_next, leave_next0, leave_d, leave_d0, leave_loc0, leave_rloc0, keep_next, keep_ret, keep_loc, mul_i64, fdiv_i64, pow_i64, kR1_i, kR3_i, ixN_nat, Int.toNat_natCast, Int.reduceToNat, List.length_map, List.getElem?_map, Int.toNat_zero, Int.toNat_one, ne_eq, Int.cast_ofNat_Int, List.map_map, Int.reducePow, decT, decF, List.map_set, if_true, if_false, Bool.false_eq_true, eq_self, kIte_ii, embs_map, pg0, ps0, dats_strs, inD_lst, any_str]
      refine ⟨_, _, rfl, ns2, k2, xs ++ [y], _, _, _, rfl, by rw [List.map_append]; rfl, p2.mono (by omega), by simp [hl], ?_, ?_⟩
      · exact List.nodup_append.mpr ⟨hnd, by simp, by intro a ha b hb; simp at hb; subst hb; intro e; subst e; exact q2 ha⟩
      · intro x hx
        rcases List.mem_append.mp hx with hx | hx
        · exact hnm x hx
        · simp at hx; subst hx; exact q3
    · simp (disch := first | assumption | omega | rfl | (simp only [List.length_map, List.length_append, List.length_cons, List.length_nil, List.length_range]; omega)) only [g0, gS, s0, sS, gA0, gA, sA0, sA, take_A, noErr_ok, finv, fin_l, finBv, finB_l, finB_t, glob_eq, meth_eq, prop_eq, cls_eq, cfg_call, cfg_glob, cfg_prop, cfg_meth, cfg_cls, List.map_cons, List.map_nil, List.append_assoc, List.cons_append, List.nil_append, List.replicate, Option.map_some, List.length_cons, List.length_nil, Nat.reduceAdd, Nat.reduceSub, Nat.zero_add, decide_true, decide_false, Bool.not_true, Bool.not_false, Its.items, wipeE, kTr_ok, fin_t', fin_tE, tr_bl, tr_int, tr_non, tr_lst, tr_tup, tr_str, tr_loc, kTrL_lst, kTrL_dct, isL_v, isL_l, isL_t, evT_con, evT_var, kVar_ok, evT_glo, kGlo_ok, evT_bin, kBin1_ok, kBin2_ok, evT_neg, kNeg_ok, evT_not_t, evT_not_v, kNotT_ok, kNotV_ok, kNot'_ok, evT_and_t, evT_and_v, evT_and_l, evT_or_t, evT_or_v, evT_or_l, kAndT_t, kAndT_f, kOrT_f, kOrT_t, kAndV_ok, kOrV_ok, kAndV'_t, kAndV'_f, kOrV'_t, kOrV'_f, evT_cmp, kCmp1_ok, kCmp2_ok, evT_chain, kCh1_ok, kCh2_ok, kCh3_t, kCh3_f, evT_ite, kIte_t, kIte_f, evTs_of_nil, evTs_of_cons, kTs1_ok, kTs2_ok, evT_tup, kTup_ok, kTup'_ok, embs_nil, embs_d, embs_loc, kEmb1_ok, kEmb2_ok, emb_d, emb_loc, kEmb_ok, bind_some', toD_lst, kToL_ok, toD_ins, kToO_ok, dats_nil, dats_cons, kDats_ok, datsM, dats_mapd, datf_nil, datf_cons, kDatf_ok, evT_lst, kLst_ok, mkList_t, mkList_f, kMk_ok, embs_mapd, embs_map, evT_dict0, evT_ix, kIx1_ok, kIx2_ok, evT_slc, kSl1_ok, kSl2_ok, kSl3_ok, evO_none, evO_some, kO_ok, evT_rev, kRev_ok, kRev'_ok, evT_fld, kFld_ok, fldV_obj, fldV_loc, kFdL_ok, fdV_eq, kFd_f, kFd_p, lookF_hit, lookF_nil, putF_hit, putF_nil, evT_call, kCall_ok, evT_bi, kBi_1, kBi_2, evT_isin, kIs_ok, kIs'_ok, evT_meth, kMe1_ok, kMe2_own, kMe2_str, kMe2_lst, kMeO_ok, kMeB_ok, callM_eq, kCM_ok, evT_loc, stG_nm, stG_tp, stGs_nil, stGs_cons, kGs_ok, stG_ix, kGi1_ok, kGi2_ok, kGi3_lst, kGi4_d, kGi4_loc, kGi3_dct_d, kGi3_dct_loc, evSs_nil, evSs_cons, kSs_next, kSs_ret, kSs_err, kSs_brk, kSs_cont, evS_ex, kEx_ok, evS_asg, kAsg_ok, kAsg'_ok, kAsg_err, evS_fset, kFs1_ok, kFs2_ok, kFs3_d, kFs3_loc, evS_par, kPar_2, kPar_3, evS_aug, kAug_ok, kAug2_ok, augI_add, augI_sub, evS_ret, kRet_ok, evS_retN, evS_if, kIf_t, kIf_f, kBody_ok, evS_for, kFor_ok, kWh_t, kWh_f, turnW_next, turnW_cont, turnW_brk, turnW_ret, evS_whl, evS_brk, evS_cont, evS_pass, evI_seq, kSeq_ok, kSeq'_ok, evI_enu, kEnu_ok, enumIts_lst, seqIts_lst, seqIts_tup, seqIts_str, seqIts_loc, kSqL_ok, enumIts_loc, kEnL_ok, kEnL'_ok, evI_rng1, evI_rng2, kR2_ok, kC1_ok, kC2_t, kC2_f, kC3_ok, evF_of_nil, evF_of_cons, kF_t, kF_f, kF_b, evT_comp, kCo_ok, kCo2_ok, evT_comp2, kCC_ok, kD1_ok, kD2_t, kD2_f, kD3_ok, add_int, sub_int, mod_int, add_str, mul_str, add_tup, add_lst, bin_loc, bin_lloc, kBP_add, mul_lst, lt_int, le_int, gt_int, ge_int, eq_int, ne_int, is_non, isnot_non, kP1_ok, kP2_ok, kP3_ok, peek_d, peek_loc, cmp_eq_loc, cmp_eq_l, cmp_eq_t, cmpD_eq, cmpD_ne, notin_d, in_loc, notin_loc, kInL_lst, kInL_dct, kInL2_ok, kInL3_f, kInL3_t, inD_lst, inD_tup, inD_ch, inD_dct, ix_lst, ixTup, kAt_ok, ixStr, kAtS_ok, ix_loc, kIxL_lst, kIxL_dct, kAtV_ok, ix_dct, kDk_ok, at0, at1, at2, at3, slcV_eq, kSc_lst, kSc_tup, kSc_str, len_lst, len_tup, len_str, len_loc, kLn_lst, kLn_dct, int_int, int_bl, list_eq, kLi_lst, kLi_tup, tuple_eq, kTu_lst, kTu_tup, sum_lst, all_lst, any_lst, max_lst, min_lst, max_2, min_2, is_loc, kIsL_lst, rcv_str, rcv_lst, bm_join, bm_app, bm_ext, bm_pop, bm_index, rcv_obj, rcv_loc, kRc_lst, kRc_ins, meth_loc, meth_d, app_d, app_loc, ext_d, pop_l, join_l, index_l, index_loc, leave_next, leave_next0, leave_d, leave_d0, leave_loc0, leave_rloc0, keep_next, keep_ret, keep_loc, mul_i64, fdiv_i64, pow_i64, kR1_i, kR3_i, ixN_nat, Int.toNat_natCast, Int.reduceToNat, List.length_map, List.getElem?_map, Int.toNat_zero, Int.toNat_one, ne_eq, Int.cast_ofNat_Int, List.map_map, Int.reducePow, decT, decF, List.map_set, if_true, if_false, Bool.false_eq_true, eq_self, kIte_ii, embs_map, pg0, ps0, dats_strs, inD_lst, any_str]
      refine ⟨_, _, rfl, ns2, k2, xs ++ [w], _, _, _, rfl, by rw [List.map_append]; rfl, p2.mono (by omega), by simp [hl], ?_, ?_⟩
      · exact List.nodup_append.mpr ⟨hnd, by simp, by intro a ha b hb; simp at hb; subst hb; intro e; subst e; exact hin ha⟩
      · intro x hx
        rcases List.mem_append.mp hx with hx | hx
        · exact hnm x hx
        · simp at hx; subst hx; exact hw)
  simp_arith [keep_loc]
  exact ⟨xs, ns2, k2, by simpa [rng_len] using p2, by simpa [rng_len] using hl, hnd, hnm, rfl⟩
end
end SP
namespace SP
local macro_rules | `(tactic| simp_arith [$xs,*]) => `(tactic| simp (disch := first | assumption | omega | (with_unfolding_all rfl) | (simp only [List.length_map, List.length_append, List.length_cons, List.length_nil, List.length_range]; omega)) only [g0, gS, s0, sS, gA0, gA, sA0, sA, take_A, noErr_ok, finv, fin_l, finBv, finB_l, finB_t, glob_eq, meth_eq, prop_eq, cls_eq, cfg_call, cfg_glob, cfg_prop, cfg_meth, cfg_cls, List.map_cons, List.map_nil, List.append_assoc, List.cons_append, List.nil_append, List.replicate, Option.map_some, List.length_cons, List.length_nil, Nat.reduceAdd, Nat.reduceSub, Nat.zero_add, decide_true, decide_false, Bool.not_true, Bool.not_false, Its.items, wipeE, kTr_ok, fin_t', fin_tE, tr_bl, tr_int, tr_non, tr_lst, tr_tup, tr_str, tr_loc, kTrL_lst, kTrL_dct, isL_v, isL_l, isL_t, evT_con, evT_var, kVar_ok, evT_glo, kGlo_ok, evT_bin, kBin1_ok, kBin2_ok, evT_neg, kNeg_ok, evT_not_t, evT_not_v, kNotT_ok, kNotV_ok, kNot'_ok, evT_and_t, evT_and_v, evT_and_l, evT_or_t, evT_or_v, evT_or_l, kAndT_t, kAndT_f, kOrT_f, kOrT_t, kAndV_ok, kOrV_ok, kAndV'_t, kAndV'_f, kOrV'_t, kOrV'_f, evT_cmp, kCmp1_ok, kCmp2_ok, evT_chain, kCh1_ok, kCh2_ok, kCh3_t, kCh3_f, evT_ite, kIte_t, kIte_f, evTs_of_nil, evTs_of_cons, kTs1_ok, kTs2_ok, evT_tup, kTup_ok, kTup'_ok, embs_nil, embs_d, embs_loc, kEmb1_ok, kEmb2_ok, emb_d, emb_loc, kEmb_ok, bind_some', toD_lst, kToL_ok, toD_ins, kToO_ok, dats_nil, dats_cons, kDats_ok, datsM, dats_mapd, datf_nil, datf_cons, kDatf_ok, evT_lst, kLst_ok, mkList_t, mkList_f, kMk_ok, embs_mapd, embs_map, evT_dict0, evT_ix, kIx1_ok, kIx2_ok, evT_slc, kSl1_ok, kSl2_ok, kSl3_ok, evO_none, evO_some, kO_ok, evT_rev, kRev_ok, kRev'_ok, evT_fld, kFld_ok, fldV_obj, fldV_loc, kFdL_ok, fdV_eq, kFd_f, kFd_p, lookF_hit, lookF_nil, putF_hit, putF_nil, evT_call, kCall_ok, evT_bi, kBi_1, kBi_2, evT_isin, kIs_ok, kIs'_ok, evT_meth, kMe1_ok, kMe2_own, kMe2_str, kMe2_lst, kMeO_ok, kMeB_ok, callM_eq, kCM_ok, evT_loc, stG_nm, stG_tp, stGs_nil, stGs_cons, kGs_ok, stG_ix, kGi1_ok, kGi2_ok, kGi3_lst, kGi4_d, kGi4_loc, kGi3_dct_d, kGi3_dct_loc, evSs_nil, evSs_cons, kSs_next, kSs_ret, kSs_err, kSs_brk, kSs_cont, evS_ex, kEx_ok, evS_asg, kAsg_ok, kAsg'_ok, kAsg_err, evS_fset, kFs1_ok, kFs2_ok, kFs3_d, kFs3_loc, evS_par, kPar_2, kPar_3, evS_aug, kAug_ok, kAug2_ok, augI_add, augI_sub, evS_ret, kRet_ok, evS_retN, evS_if, kIf_t, kIf_f, kBody_ok, evS_for, kFor_ok, kWh_t, kWh_f, turnW_next, turnW_cont, turnW_brk, turnW_ret, evS_whl, evS_brk, evS_cont, evS_pass, evI_seq, kSeq_ok, kSeq'_ok, evI_enu, kEnu_ok, enumIts_lst, seqIts_lst, seqIts_tup, seqIts_str, seqIts_loc, kSqL_ok, enumIts_loc, kEnL_ok, kEnL'_ok, evI_rng1, evI_rng2, kR2_ok, kC1_ok, kC2_t, kC2_f, kC3_ok, evF_of_nil, evF_of_cons, kF_t, kF_f, kF_b, evT_comp, kCo_ok, kCo2_ok, evT_comp2, kCC_ok, kD1_ok, kD2_t, kD2_f, kD3_ok, add_int, sub_int, mod_int, add_str, mul_str, add_tup, add_lst, bin_loc, bin_lloc, kBP_add, mul_lst, lt_int, le_int, gt_int, ge_int, eq_int, ne_int, is_non, isnot_non, kP1_ok, kP2_ok, kP3_ok, peek_d, peek_loc, cmp_eq_loc, cmp_eq_l, cmp_eq_t, cmpD_eq, cmpD_ne, notin_d, in_loc, notin_loc, kInL_lst, kInL_dct, kInL2_ok, kInL3_f, kInL3_t, inD_lst, inD_tup, inD_ch, inD_dct, ix_lst, ixTup, kAt_ok, ixStr, kAtS_ok, ix_loc, kIxL_lst, kIxL_dct, kAtV_ok, ix_dct, kDk_ok, at0, at1, at2, at3, slcV_eq, kSc_lst, kSc_tup, kSc_str, len_lst, len_tup, len_str, len_loc, kLn_lst, kLn_dct, int_int, int_bl, list_eq, kLi_lst, kLi_tup, tuple_eq, kTu_lst, kTu_tup, sum_lst, all_lst, any_lst, max_lst, min_lst, max_2, min_2, is_loc, kIsL_lst, rcv_str, rcv_lst, bm_join, bm_app, bm_ext, bm_pop, bm_index, rcv_obj, rcv_loc, kRc_lst, kRc_ins, meth_loc, meth_d, app_d, app_loc, ext_d, pop_l, join_l, index_l, index_loc, leave_next, leave_next0, leave_d, leave_d0, leave_loc0, leave_rloc0, keep_next, keep_ret, keep_loc, mul_i64, fdiv_i64, pow_i64, kR1_i, kR3_i, ixN_nat, Int.toNat_natCast, Int.reduceToNat, List.length_map, List.getElem?_map, Int.toNat_zero, Int.toNat_one, ne_eq, Int.cast_ofNat_Int, List.map_map, Int.reducePow, decT, decF, List.map_set, if_true, if_false, Bool.false_eq_true, eq_self, kIte_ii, $xs,*])
section
variable {P : Pg} [HFn P "_law_draw" PF.f__law_draw]
theorem cell_ok [HFn P "_law_cell" PF.f__law_cell] (n : Nat) (g : Store) {ns : List Int} {k K : Int} (h : PnOk ns k K) (hK : K ≤ 2 ^ 30) (R : Store) :
    ∃ (c : Int) (ns' : List Int) (k' : Int), PnOk ns' k' (K + 3) ∧ 0 ≤ c ∧ c < 2 ^ 100 ∧ ev P (n + 2) "_law_cell" [.loc (g.length + 1)] (pn g ns k ++ R) = some (.ok (.d (.int c)), pn g ns' k' ++ R) := by
  obtain ⟨r, ns1, k1, p1, r0, r1, e1⟩ := draw_ok (P := P) n g h (by omega) (many := 16) (by omega) (by omega) R
  obtain ⟨a, ns2, k2, p2, a0, a1, e2⟩ := draw_ok (P := P) n g p1 (by omega) (many := 7) (by omega) (by omega) R
  obtain ⟨b, ns3, k3, p3, b0, b1, e3⟩ := draw_ok (P := P) n g p1 (by omega) (many := 30) (by omega) (by omega) R
  obtain ⟨c, ns4, k4, p4, c0, c1, e4⟩ := draw_ok (P := P) n g p1 (by omega) (many := 1000003) (by omega) (by omega) R
  obtain ⟨d, ns5, k5, p5, d0, d1, e5⟩ := draw_ok (P := P) n g p4 (by omega) (many := 1000003) (by omega) (by omega) R
  rw [ev_fn, PF.r__law_cell]
  by_cases h1 : r < 11
  · refine ⟨a, ns2, k2, p2.mono (by omega), a0, by omega, ?_⟩
    simp_arith [PF.b__law_cell, e1, e2]
    exact keep_ret rfl _
  · by_cases h2 : r < 15
    · refine ⟨b, ns3, k3, p3.mono (by omega), b0, by omega, ?_⟩
      simp_arith [PF.b__law_cell, e1, e3]
      exact keep_ret rfl _
    · refine ⟨c * 100000000000000000000 + d, ns5, k5, p5.mono (by omega), by omega, by omega, ?_⟩
      have hm : mulOk c 100000000000000000000 = true := by
        have : c.natAbs.log2 < 64 := log2_64 (by omega)
        have h3 : (100000000000000000000 : Int).natAbs.log2 < 100 := by decide +kernel
        unfold mulOk
        exact decide_eq_true (by omega)
      simp_arith [PF.b__law_cell, e1, e4, e5, mul_int]
      exact keep_ret rfl _
end
end SP

end

section
set_option maxHeartbeats 1000000
namespace SP
open PySem
theorem ofStr_eq (f g : String) : (Str.ofString f = Str.ofString g) = (f = g) := by
  refine propext ⟨fun q => ?_, fun h => by rw [h]⟩
  have q1 := congrArg (fun s : Str => s.cps.toList) q
  have q2 : f.toList.map Char.toNat = g.toList.map Char.toNat := by
    have e1 := Str.ofString_eq_toList f
    have e2 := Str.ofString_eq_toList g
    simp only [e1, e2] at q1
    simpa using q1
  exact String.toList_inj.mp ((List.map_inj_right fun a b hab => Char.ext (UInt32.toNat_inj.mp hab)).mp q2)
theorem lenS1 (st : Store) (x : MO) : (st ++ [x]).length = st.length + 1 := by simp
section
variable {G : Cfg} {st : Store}
theorem embs_comp {α : Type} (f : α → D) (l : List α) : embs st (l.map (Vl.d ∘ f)) = some (l.map f, st) := embs_map f l
theorem dats_comp {α : Type} (f : α → D) (l : List α) : dats (l.map (Vl.d ∘ f)) = some (l.map f) := datsM f l
theorem cmp_ne_loc (n : Nat) (y : Vl) : cmpV G .ne (.loc n) y st = cmpP .ne (.loc n) y st := rfl
theorem enumIts_tup (ds : List D) : enumIts st (.d (.tup ds)) = some (.vs (enumV 0 ds)) := rfl
theorem in_t (a : D) (ds : List D) : cmpV G .isin (.d a) (.d (.tup ds)) st = kP3 st (inD a (.tup ds)) := rfl
theorem in_l (a : D) (ds : List D) : cmpV G .isin (.d a) (.d (.lst ds)) st = kP3 st (inD a (.lst ds)) := rfl
theorem in_s (a : D) (z : Str) : cmpV G .isin (.d a) (.d (.str z)) st = kP3 st (inD a (.str z)) := rfl
theorem in_c (a : D) (ds : List (D × D)) : cmpV G .isin (.d a) (.d (.dct ds)) st = kP3 st (inD a (.dct ds)) := rfl
theorem cmp_eq_i (i : Int) (y : Vl) : cmpV G .eq (.d (.int i)) y st = cmpP .eq (.d (.int i)) y st := rfl
theorem cmp_eq_s (i : Str) (y : Vl) : cmpV G .eq (.d (.str i)) y st = cmpP .eq (.d (.str i)) y st := rfl
theorem eq_str {x y : Str} (h1 : PyData.strOk x = true) (h2 : PyData.strOk y = true) : cmpV G .eq (.d (.str x)) (.d (.str y)) st = some (.ok (.d (.bl (decide (x = y)))), st) := by
  rw [eq_d (shp_str h1) (shp_str h2), eqv_str]
theorem ne_str {x y : Str} (h1 : PyData.strOk x = true) (h2 : PyData.strOk y = true) : cmpV G .ne (.d (.str x)) (.d (.str y)) st = some (.ok (.d (.bl (!decide (x = y)))), st) := by
  rw [ne_d (shp_str h1) (shp_str h2), eqv_str]
end
theorem strOk_lit (x : String) : PyData.strOk (Str.ofString x) = true := by
  unfold PyData.strOk
  rw [Array.all_eq_true']
  intro c hc
  rw [Str.ofString_eq_toList] at hc
  have hc : c ∈ x.toList.map Char.toNat := by simpa using hc
  obtain ⟨ch, _, rfl⟩ := List.mem_map.mp hc
  have : ch.toNat < 0x110000 := by
    have := ch.valid
    rcases this with h | h
    · exact Nat.lt_trans h (by decide)
    · exact h.2
  exact decide_eq_true this
section
variable {G : Cfg} {st : Store}
theorem eq_ll (f g : String) : cmpV G .eq (.d (.str (Str.ofString f))) (.d (.str (Str.ofString g))) st = some (.ok (.d (.bl (decide (f = g)))), st) := by
  rw [eq_str (strOk_lit f) (strOk_lit g)]
  simp only [ofStr_eq]
theorem ne_ll (f g : String) : cmpV G .ne (.d (.str (Str.ofString f))) (.d (.str (Str.ofString g))) st = some (.ok (.d (.bl (!decide (f = g)))), st) := by
  rw [ne_str (strOk_lit f) (strOk_lit g)]
  simp only [ofStr_eq]
theorem inD_tupE (x : D) (ds : List D) : inD x (.tup ds) = if x.flat && ds.all D.flat then some (ds.any fun z => D.eqv z x) else none := rfl
theorem flat_int (i : Int) : D.flat (.int i) = true := rfl
theorem flat_str (i : Str) : D.flat (.str i) = true := rfl
theorem flat_bl (i : Bool) : D.flat (.bl i) = true := rfl
theorem flat_non : D.flat .non = true := rfl
end
local macro_rules | `(tactic| simp_arith [$xs,*]) => `(tactic| simp (disch := first | assumption | omega | (with_unfolding_all rfl) | (simp only [List.length_map, List.length_append, List.length_cons, List.length_nil, List.length_range]; omega)) only [g0, gS, s0, sS, gA0, gA, sA0, sA, take_A, noErr_ok, finv, fin_l, finBv, finB_l, finB_t, glob_eq, meth_eq, prop_eq, cls_eq, cfg_call, cfg_glob, cfg_prop, cfg_meth, cfg_cls, List.map_cons, List.map_nil, List.append_assoc, List.cons_append, List.nil_append, List.replicate, Option.map_some, List.length_cons, List.length_nil, Nat.reduceAdd, Nat.reduceSub, Nat.zero_add, decide_true, decide_false, Bool.not_true, Bool.not_false, Its.items, wipeE, kTr_ok, fin_t', fin_tE, tr_bl, tr_int, tr_non, tr_lst, tr_tup, tr_str, tr_loc, kTrL_lst, kTrL_dct, isL_v, isL_l, isL_t, evT_con, evT_var, kVar_ok, evT_glo, kGlo_ok, evT_bin, kBin1_ok, kBin2_ok, evT_neg, kNeg_ok, evT_not_t, evT_not_v, kNotT_ok, kNotV_ok, kNot'_ok, evT_and_t, evT_and_v, evT_and_l, evT_or_t, evT_or_v, evT_or_l, kAndT_t, kAndT_f, kOrT_f, kOrT_t, kAndV_ok, kOrV_ok, kAndV'_t, kAndV'_f, kOrV'_t, kOrV'_f, evT_cmp, kCmp1_ok, kCmp2_ok, evT_chain, kCh1_ok, kCh2_ok, kCh3_t, kCh3_f, evT_ite, kIte_t, kIte_f, evTs_of_nil, evTs_of_cons, kTs1_ok, kTs2_ok, evT_tup, kTup_ok, kTup'_ok, embs_nil, embs_d, embs_loc, kEmb1_ok, kEmb2_ok, emb_d, emb_loc, kEmb_ok, bind_some', toD_lst, kToL_ok, toD_ins, kToO_ok, dats_nil, dats_cons, kDats_ok, datsM, dats_mapd, datf_nil, datf_cons, kDatf_ok, evT_lst, kLst_ok, mkList_t, mkList_f, kMk_ok, embs_mapd, embs_map, evT_dict0, evT_ix, kIx1_ok, kIx2_ok, evT_slc, kSl1_ok, kSl2_ok, kSl3_ok, evO_none, evO_some, kO_ok, evT_rev, kRev_ok, kRev'_ok, evT_fld, kFld_ok, fldV_obj, fldV_loc, kFdL_ok, fdV_eq, kFd_f, kFd_p, lookF_hit, lookF_nil, putF_hit, putF_nil, evT_call, kCall_ok, evT_bi, kBi_1, kBi_2, evT_isin, kIs_ok, kIs'_ok, evT_meth, kMe1_ok, kMe2_own, kMe2_str, kMe2_lst, kMeO_ok, kMeB_ok, callM_eq, kCM_ok, evT_loc, stG_nm, stG_tp, stGs_nil, stGs_cons, kGs_ok, stG_ix, kGi1_ok, kGi2_ok, kGi3_lst, kGi4_d, kGi4_loc, kGi3_dct_d, kGi3_dct_loc, evSs_nil, evSs_cons, kSs_next, kSs_ret, kSs_err, kSs_brk, kSs_cont, evS_ex, kEx_ok, evS_asg, kAsg_ok, kAsg'_ok, kAsg_err, evS_fset, kFs1_ok, kFs2_ok, kFs3_d, kFs3_loc, evS_par, kPar_2, kPar_3, evS_aug, kAug_ok, kAug2_ok, augI_add, augI_sub, evS_ret, kRet_ok, evS_retN, evS_if, kIf_t, kIf_f, kBody_ok, evS_for, kFor_ok, kWh_t, kWh_f, turnW_next, turnW_cont, turnW_brk, turnW_ret, evS_whl, evS_brk, evS_cont, evS_pass, evI_seq, kSeq_ok, kSeq'_ok, evI_enu, kEnu_ok, enumIts_lst, seqIts_lst, seqIts_tup, seqIts_str, seqIts_loc, kSqL_ok, enumIts_loc, kEnL_ok, kEnL'_ok, evI_rng1, evI_rng2, kR2_ok, kC1_ok, kC2_t, kC2_f, kC3_ok, evF_of_nil, evF_of_cons, kF_t, kF_f, kF_b, evT_comp, kCo_ok, kCo2_ok, evT_comp2, kCC_ok, kD1_ok, kD2_t, kD2_f, kD3_ok, add_int, sub_int, mod_int, add_str, mul_str, add_tup, add_lst, bin_loc, bin_lloc, kBP_add, mul_lst, lt_int, le_int, gt_int, ge_int, eq_int, ne_int, is_non, isnot_non, kP1_ok, kP2_ok, kP3_ok, peek_d, peek_loc, cmp_eq_loc, cmp_eq_l, cmp_eq_t, cmpD_eq, cmpD_ne, notin_d, in_loc, notin_loc, kInL_lst, kInL_dct, kInL2_ok, kInL3_f, kInL3_t, inD_lst, inD_tup, inD_ch, inD_dct, ix_lst, ixTup, kAt_ok, ixStr, kAtS_ok, ix_loc, kIxL_lst, kIxL_dct, kAtV_ok, ix_dct, kDk_ok, at0, at1, at2, at3, slcV_eq, kSc_lst, kSc_tup, kSc_str, len_lst, len_tup, len_str, len_loc, kLn_lst, kLn_dct, int_int, int_bl, list_eq, kLi_lst, kLi_tup, tuple_eq, kTu_lst, kTu_tup, sum_lst, all_lst, any_lst, max_lst, min_lst, max_2, min_2, is_loc, kIsL_lst, rcv_str, rcv_lst, bm_join, bm_app, bm_ext, bm_pop, bm_index, rcv_obj, rcv_loc, kRc_lst, kRc_ins, meth_loc, meth_d, app_d, app_loc, ext_d, pop_l, join_l, index_l, index_loc, leave_next, leave_next0, leave_d, leave_d0, leave_loc0, leave_rloc0, keep_next, keep_ret, keep_loc, mul_i64, fdiv_i64, pow_i64, kR1_i, kR3_i, ixN_nat, Int.toNat_natCast, Int.reduceToNat, List.length_map, List.getElem?_map, Int.toNat_zero, Int.toNat_one, ne_eq, Int.cast_ofNat_Int, List.map_map, Int.reducePow, decT, decF, List.map_set, if_true, if_false, Bool.false_eq_true, eq_self, kIte_ii, in_t, in_l, in_s, in_c, ofStr_eq, String.reduceEq, eqv_str, eqv_int, kC2_b, kIf_b, eq_ll, ne_ll, List.any_cons, List.any_nil, List.find?_cons_of_pos, List.find?_cons_of_neg, Bool.or_false, Bool.false_or, Bool.or_true, Bool.true_or, Bool.and_true, Bool.true_and, Bool.and_false, Bool.false_and, Option.map_some, inD_dct, Nat.reduceLeDiff, Nat.reduceEqDiff, ne_eq, not_false_eq_true, not_true_eq_false, List.all_cons, List.all_nil, flat_int, flat_str, flat_non, flat_bl, Int.reduceSub, Int.reduceAdd, Int.natCast_add, Int.cast_ofNat_Int, enumIts_tup, lenS1, take_A, embs_comp, dats_comp, cmp_ne_loc, $xs,*])
def LET : Str := S! "abcdefghijklmnopqrstuvwxyz"
theorem let_codes : LET.cps.toList = (List.range 26).map (· + 97) := by decide +kernel
theorem mem_let (c : Nat) : c ∈ LET.cps.toList ↔ 97 ≤ c ∧ c ≤ 122 := by
  rw [let_codes, List.mem_map]
  constructor
  · rintro ⟨a, ha, rfl⟩
    have := List.mem_range.mp ha
    omega
  · intro h
    exact ⟨c - 97, List.mem_range.mpr (by omega), by omega⟩
noncomputable instance (x : Str) : Decidable (Nm x) := Classical.propDecidable _
/-- a name as the program asks it -/
noncomputable def nmQ (x : Str) : Bool := decide (Nm x)
section
variable {P : Pg}
theorem fits_name_ok [HFn P "fits_name" PF.f_fits_name] [HsG P "LETTERS" (.str LET)] (n : Nat) {x : Str} (hx : x.length ≤ 16777216) (st : Store) : ev P (n + 1) "fits_name" [.d (.str x)] st = some (.ok (.d (.bl (nmQ x))), st) := by
  rw [ev_fn, PF.r_fits_name]
  have hcl : x.cps.toList.length = x.length := Array.length_toList
  by_cases h1 : (1 : Int) ≤ x.length
  · by_cases h2 : (x.length : Int) ≤ 12
    · simp_arith [PF.b_fits_name]
      generalize hc : cmpF _ _ _ _ = z
      have h3 := useMap hc x.cps.toList (fun c => .d (.str ⟨#[c]⟩)) (fun c => .d (.bl (decide (c ∈ LET.cps.toList)))) rfl trivial (by
        intro c _
        simp_arith [eltC_eq])
      subst h3
      have h4 : (x.cps.toList.map fun c => Vl.d (.bl (decide (c ∈ LET.cps.toList)))).length ≤ 16777216 := by rw [List.length_map, hcl]; exact hx
      have h5 := all_lst (m := false) (st := st) (dBools_map (fun c => decide (c ∈ LET.cps.toList)) x.cps.toList)
      simp_arith [embs_map, h5]
      have h6 : ((x.cps.toList.map fun c => decide (c ∈ LET.cps.toList)).all id) = nmQ x := by
        unfold nmQ
        rw [List.all_map]
        by_cases h : Nm x
        · rw [decide_eq_true h, List.all_eq_true]
          intro c hc
          exact decide_eq_true ((mem_let c).mpr (h.ch c hc))
        · rw [decide_eq_false h]
          cases q : x.cps.toList.all (id ∘ fun c => decide (c ∈ LET.cps.toList)) with
          | false => rfl
          | true =>
            exact absurd ⟨by omega, by omega, fun c hc => (mem_let c).mp (of_decide_eq_true (List.all_eq_true.mp q c hc))⟩ h
      rw [h6]
      exact leave_d0 rfl _
    · have h : nmQ x = false := decide_eq_false fun h => by have := h.hi; omega
      rw [h]
      simp_arith [PF.b_fits_name]
      exact leave_d0 rfl _
  · have h : nmQ x = false := decide_eq_false fun h => by have := h.lo; omega
    rw [h]
    simp_arith [PF.b_fits_name]
    exact leave_d0 rfl _
end

/-- a line of a reader -/
inductive Ln where
  | kase (ws : List (Int × Str)) (o : Str) | take (t : Str) | rest (w : Int) (t : Str) | cap (n : Int) (t : Str) | jump (n : Int) (t : Str)
  | set (n : Int) (t : Str) | upto (n : Int) (t o : Str) | skip (c : Int) (t : Str) | cut | refuse
def wayD (w : Int × Str) : D := .tup [.int w.1, .str w.2]
def seqD (b : Bool) (ds : List D) : D := if b then .lst ds else .tup ds
/-- as it is handed in: its ways a list, or a tuple -/
def Ln.raw (b : Bool) : Ln → D
  | .kase ws o => .tup [.str (S! "case"), seqD b (ws.map wayD), .str o]
  | .take t => .tup [.str (S! "take"), .str t]
  | .rest w t => .tup [.str (S! "rest"), .int w, .str t]
  | .cap w t => .tup [.str (S! "cap"), .int w, .str t]
  | .jump w t => .tup [.str (S! "jump"), .int w, .str t]
  | .set w t => .tup [.str (S! "set"), .int w, .str t]
  | .upto w t o => .tup [.str (S! "upto"), .int w, .str t, .str o]
  | .skip w t => .tup [.str (S! "skip"), .int w, .str t]
  | .cut => .tup [.str (S! "cut")]
  | .refuse => .tup [.str (S! "refuse")]
def Ln.tg : Ln → List Str
  | .kase ws o => ws.map (·.2) ++ [o]
  | .take t | .rest _ t | .cap _ t | .jump _ t | .set _ t | .skip _ t => [t]
  | .upto _ t o => [t, o]
  | .cut | .refuse => []
/-- valid by itself -/
structure WaysOk (ws : List (Int × Str)) : Prop where
  len : ws.length ≤ 6
  bd : ∀ w ∈ ws, 0 ≤ w.1 ∧ w.1 ≤ 5
  nd : (ws.map (·.1)).Nodup
def Ln.ok : Ln → Prop
  | .kase ws _ => WaysOk ws
  | .rest w _ => 2 ≤ w ∧ w ≤ 4
  | .cap w _ => 0 ≤ w ∧ w ≤ 5
  | .jump w _ => 1 ≤ w ∧ w ≤ 4
  | .set w _ => 0 ≤ w ∧ w ≤ 5
  | .upto w _ _ => 0 ≤ w ∧ w ≤ 5
  | .skip w _ => -3 ≤ w ∧ w ≤ 4
  | _ => True
def sizesD : D := .dct ([(S! "case", 3), (S! "take", 2), (S! "rest", 3), (S! "cap", 3), (S! "jump", 3), (S! "set", 3), (S! "upto", 4), (S! "skip", 3), (S! "cut", 1), (S! "refuse", 1)].map fun p => (.str p.1, .int p.2))
def leastD : D := .dct ([(S! "rest", 2), (S! "cap", 0), (S! "jump", 1), (S! "set", 0), (S! "upto", 0), (S! "skip", -3)].map fun p => (.str p.1, .int p.2))
def greatD : D := .dct ([(S! "rest", 4), (S! "cap", 5), (S! "jump", 4), (S! "set", 5), (S! "upto", 5), (S! "skip", 4)].map fun p => (.str p.1, .int p.2))
section
variable {st : Store}
theorem sz_case : ixV (.d sizesD) (.d (.str (S! "case"))) st = some (.ok (.d (.int 3)), st) := by rfl
theorem sz_take : ixV (.d sizesD) (.d (.str (S! "take"))) st = some (.ok (.d (.int 2)), st) := by rfl
theorem sz_rest : ixV (.d sizesD) (.d (.str (S! "rest"))) st = some (.ok (.d (.int 3)), st) := by rfl
theorem sz_cap : ixV (.d sizesD) (.d (.str (S! "cap"))) st = some (.ok (.d (.int 3)), st) := by rfl
theorem sz_jump : ixV (.d sizesD) (.d (.str (S! "jump"))) st = some (.ok (.d (.int 3)), st) := by rfl
theorem sz_set : ixV (.d sizesD) (.d (.str (S! "set"))) st = some (.ok (.d (.int 3)), st) := by rfl
theorem sz_upto : ixV (.d sizesD) (.d (.str (S! "upto"))) st = some (.ok (.d (.int 4)), st) := by rfl
theorem sz_skip : ixV (.d sizesD) (.d (.str (S! "skip"))) st = some (.ok (.d (.int 3)), st) := by rfl
theorem sz_cut : ixV (.d sizesD) (.d (.str (S! "cut"))) st = some (.ok (.d (.int 1)), st) := by rfl
theorem sz_refuse : ixV (.d sizesD) (.d (.str (S! "refuse"))) st = some (.ok (.d (.int 1)), st) := by rfl
theorem le_rest : ixV (.d leastD) (.d (.str (S! "rest"))) st = some (.ok (.d (.int 2)), st) := by rfl
theorem le_cap : ixV (.d leastD) (.d (.str (S! "cap"))) st = some (.ok (.d (.int 0)), st) := by rfl
theorem le_jump : ixV (.d leastD) (.d (.str (S! "jump"))) st = some (.ok (.d (.int 1)), st) := by rfl
theorem le_set : ixV (.d leastD) (.d (.str (S! "set"))) st = some (.ok (.d (.int 0)), st) := by rfl
theorem le_upto : ixV (.d leastD) (.d (.str (S! "upto"))) st = some (.ok (.d (.int 0)), st) := by rfl
theorem le_skip : ixV (.d leastD) (.d (.str (S! "skip"))) st = some (.ok (.d (.int (-3))), st) := by rfl
theorem gr_rest : ixV (.d greatD) (.d (.str (S! "rest"))) st = some (.ok (.d (.int 4)), st) := by rfl
theorem gr_cap : ixV (.d greatD) (.d (.str (S! "cap"))) st = some (.ok (.d (.int 5)), st) := by rfl
theorem gr_jump : ixV (.d greatD) (.d (.str (S! "jump"))) st = some (.ok (.d (.int 4)), st) := by rfl
theorem gr_set : ixV (.d greatD) (.d (.str (S! "set"))) st = some (.ok (.d (.int 5)), st) := by rfl
theorem gr_upto : ixV (.d greatD) (.d (.str (S! "upto"))) st = some (.ok (.d (.int 5)), st) := by rfl
theorem gr_skip : ixV (.d greatD) (.d (.str (S! "skip"))) st = some (.ok (.d (.int 4)), st) := by rfl
theorem nsz_case : inD (.str (S! "case")) sizesD = some true := by rfl
theorem nle_case : inD (.str (S! "case")) leastD = some false := by rfl
theorem nsz_take : inD (.str (S! "take")) sizesD = some true := by rfl
theorem nle_take : inD (.str (S! "take")) leastD = some false := by rfl
theorem nsz_rest : inD (.str (S! "rest")) sizesD = some true := by rfl
theorem nle_rest : inD (.str (S! "rest")) leastD = some true := by rfl
theorem nsz_cap : inD (.str (S! "cap")) sizesD = some true := by rfl
theorem nle_cap : inD (.str (S! "cap")) leastD = some true := by rfl
theorem nsz_jump : inD (.str (S! "jump")) sizesD = some true := by rfl
theorem nle_jump : inD (.str (S! "jump")) leastD = some true := by rfl
theorem nsz_set : inD (.str (S! "set")) sizesD = some true := by rfl
theorem nle_set : inD (.str (S! "set")) leastD = some true := by rfl
theorem nsz_upto : inD (.str (S! "upto")) sizesD = some true := by rfl
theorem nle_upto : inD (.str (S! "upto")) leastD = some true := by rfl
theorem nsz_skip : inD (.str (S! "skip")) sizesD = some true := by rfl
theorem nle_skip : inD (.str (S! "skip")) leastD = some true := by rfl
theorem nsz_cut : inD (.str (S! "cut")) sizesD = some true := by rfl
theorem nle_cut : inD (.str (S! "cut")) leastD = some false := by rfl
theorem nsz_refuse : inD (.str (S! "refuse")) sizesD = some true := by rfl
theorem nle_refuse : inD (.str (S! "refuse")) leastD = some false := by rfl
end
section
variable {P : Pg} [HsG P "MOST_VALUE" (.int 5)]
theorem fits_ways_ok [HFn P "fits_ways" PF.f_fits_ways] (n : Nat) (b : Bool) {ws : List (Int × Str)} (h : WaysOk ws) (st : Store) : ev P (n + 1) "fits_ways" [.d (seqD b (ws.map wayD))] st = some (.ok (.d (.bl true)), st) := by
  rw [ev_fn, PF.r_fits_ways]
  have hs : ∀ (G : Cfg) (a1 a2 : Option Vl) (st : Store), evI G (.seq (.var 0)) [some (.d (seqD b (ws.map wayD))), a1, a2] st = some (.ok (.vs (ws.map fun w => .d (wayD w))), st) := fun G a1 a2 st => by
    cases b <;> simp_arith [seqD] <;> rfl
  simp_arith [PF.b_fits_ways, hs]
  generalize hc : forF _ _ _ _ _ = z
  obtain ⟨ρ1, st1, rfl, a2, rfl, rfl⟩ := useF hc (fun i ρ s => ∃ a2, ρ = [some (.d (seqD b (ws.map wayD))), some (.loc st.length), a2] ∧ s = st ++ [.lst ((ws.take i).map fun w => .d (.int w.1))]) ⟨none, rfl, rfl⟩ (fun _ _ _ _ _ => trivial) (by
    rintro i v ρ s hv ⟨a2, rfl, rfl⟩
    rw [List.getElem?_map] at hv
    obtain ⟨w, hw, rfl⟩ := Option.map_eq_some_iff.mp hv
    obtain ⟨hi, hw'⟩ := List.getElem?_eq_some_iff.mp hw
    have hm : w ∈ ws := by rw [← hw']; exact List.getElem_mem hi
    obtain ⟨h1, h2⟩ := h.bd w hm
    have hnd : w.1 ∉ (ws.take i).map (·.1) := by
      have := h.nd
      rw [← List.take_append_drop i ws, List.drop_eq_getElem_cons hi, hw', List.map_append, List.nodup_append] at this
      intro hm
      exact this.2.2 _ hm _ (by simp) rfl
    have hl : (ws.take i).length < 100 := by
      have := h.len
      rw [List.length_take]
      omega
    have e3 : dats ((ws.take i).map fun w => Vl.d (.int w.1)) = some ((ws.take i).map fun w => .int w.1) := datsM _ _
    have e4 : inD (.int w.1) (.lst ((ws.take i).map fun w => D.int w.1)) = some false := by
      have e5 : ((ws.take i).map fun w => D.int w.1) = ((ws.take i).map (·.1)).map D.int := by rw [List.map_map]; rfl
      rw [e5, inD_lst (shp_int _) (shp_ints _), any_int, decide_eq_false hnd]
    refine ⟨_, _, ?_, some (.d (wayD w)), rfl, rfl⟩
    simp_arith [bodyF_eq, wayD, e3, e4, List.take_add_one, hw, Option.toList_some, List.map_append])
  simp_arith [bnd_ok]
  exact leave_d rfl _ _
theorem fits_line_ok [HFn P "fits_ways" PF.f_fits_ways] [HFn P "fits_line" PF.f_fits_line] [HsG P "SIZES" sizesD] [HsG P "LEAST" leastD] [HsG P "GREATEST" greatD] (n : Nat) (b : Bool) {l : Ln} (h : l.ok) (st : Store) : ev P (n + 2) "fits_line" [.d (l.raw b)] st = some (.ok (.d (.bl true)), st) := by
  rw [ev_fn, PF.r_fits_line]
  cases l with
  | kase ws o =>
    have h : WaysOk ws := h
    have e2 := fits_ways_ok (P := P) n b h st
    simp_arith [PF.b_fits_line, Ln.raw, e2, sz_case, sz_take, sz_rest, sz_cap, sz_jump, sz_set, sz_upto, sz_skip, sz_cut, sz_refuse, le_rest, le_cap, le_jump, le_set, le_upto, le_skip, gr_rest, gr_cap, gr_jump, gr_set, gr_upto, gr_skip, nsz_case, nle_case, nsz_take, nle_take, nsz_rest, nle_rest, nsz_cap, nle_cap, nsz_jump, nle_jump, nsz_set, nle_set, nsz_upto, nle_upto, nsz_skip, nle_skip, nsz_cut, nle_cut, nsz_refuse, nle_refuse]
    exact leave_d0 rfl _
  | take t =>
    simp_arith [PF.b_fits_line, Ln.raw, sz_case, sz_take, sz_rest, sz_cap, sz_jump, sz_set, sz_upto, sz_skip, sz_cut, sz_refuse, le_rest, le_cap, le_jump, le_set, le_upto, le_skip, gr_rest, gr_cap, gr_jump, gr_set, gr_upto, gr_skip, nsz_case, nle_case, nsz_take, nle_take, nsz_rest, nle_rest, nsz_cap, nle_cap, nsz_jump, nle_jump, nsz_set, nle_set, nsz_upto, nle_upto, nsz_skip, nle_skip, nsz_cut, nle_cut, nsz_refuse, nle_refuse]
    exact leave_d0 rfl _
  | cut =>
    simp_arith [PF.b_fits_line, Ln.raw, sz_case, sz_take, sz_rest, sz_cap, sz_jump, sz_set, sz_upto, sz_skip, sz_cut, sz_refuse, le_rest, le_cap, le_jump, le_set, le_upto, le_skip, gr_rest, gr_cap, gr_jump, gr_set, gr_upto, gr_skip, nsz_case, nle_case, nsz_take, nle_take, nsz_rest, nle_rest, nsz_cap, nle_cap, nsz_jump, nle_jump, nsz_set, nle_set, nsz_upto, nle_upto, nsz_skip, nle_skip, nsz_cut, nle_cut, nsz_refuse, nle_refuse]
    exact leave_d0 rfl _
  | refuse =>
    simp_arith [PF.b_fits_line, Ln.raw, sz_case, sz_take, sz_rest, sz_cap, sz_jump, sz_set, sz_upto, sz_skip, sz_cut, sz_refuse, le_rest, le_cap, le_jump, le_set, le_upto, le_skip, gr_rest, gr_cap, gr_jump, gr_set, gr_upto, gr_skip, nsz_case, nle_case, nsz_take, nle_take, nsz_rest, nle_rest, nsz_cap, nle_cap, nsz_jump, nle_jump, nsz_set, nle_set, nsz_upto, nle_upto, nsz_skip, nle_skip, nsz_cut, nle_cut, nsz_refuse, nle_refuse]
    exact leave_d0 rfl _
  | _ =>
    obtain ⟨h1, h2⟩ := h
    simp_arith [PF.b_fits_line, Ln.raw, sz_case, sz_take, sz_rest, sz_cap, sz_jump, sz_set, sz_upto, sz_skip, sz_cut, sz_refuse, le_rest, le_cap, le_jump, le_set, le_upto, le_skip, gr_rest, gr_cap, gr_jump, gr_set, gr_upto, gr_skip, nsz_case, nle_case, nsz_take, nle_take, nsz_rest, nle_rest, nsz_cap, nle_cap, nsz_jump, nle_jump, nsz_set, nle_set, nsz_upto, nle_upto, nsz_skip, nle_skip, nsz_cut, nle_cut, nsz_refuse, nle_refuse]
    exact leave_d0 rfl _
theorem targets_ok [HFn P "targets_of" PF.f_targets_of] (n : Nat) (b : Bool) (l : Ln) (hl : l.tg.length ≤ 100) (st : Store) : ev P (n + 1) "targets_of" [.d (l.raw b)] st = some (.ok (.d (.lst (l.tg.map .str))), st) := by
  rw [ev_fn, PF.r_targets_of]
  cases l with
  | kase ws o =>
    have hl : ws.length ≤ 99 := by
      have : (ws.map (·.2) ++ [o]).length ≤ 100 := hl
      rw [List.length_append, List.length_map] at this
      simpa using this
    have hs : ∀ (G : Cfg) (a1 a2 : Option Vl) (st : Store), evI G (.seq (.ix (.var 0) (.con (.int 1)))) [some (.d (.tup [.str (S! "case"), seqD b (ws.map wayD), .str o])), a1, a2] st = some (.ok (.vs (ws.map fun w => .d (wayD w))), st) := fun G a1 a2 st => by
      cases b <;> simp_arith [seqD] <;> rfl
    simp_arith [PF.b_targets_of, Ln.raw, inD_tupE, hs]
    generalize hc : cmpF _ _ _ _ = z
    have h1 := useMap hc ws (fun w => .d (wayD w)) (fun w => .d (.str w.2)) rfl trivial (by
      intro w hw
      simp_arith [eltC_eq, wayD])
    subst h1
    simp_arith [embs_map, embs_mapd]
    have : (ws.map fun w => D.str w.2) ++ [D.str o] = ((Ln.kase ws o).tg.map .str) := by
      show _ = (ws.map (·.2) ++ [o]).map D.str
      rw [List.map_append, List.map_map]
      rfl
    rw [this]
    exact leave_d0 rfl _
  | cut =>
    simp_arith [PF.b_targets_of, Ln.raw, inD_tupE]
    exact leave_d0 rfl _
  | refuse =>
    simp_arith [PF.b_targets_of, Ln.raw, inD_tupE]
    exact leave_d0 rfl _
  | _ =>
    simp_arith [PF.b_targets_of, Ln.raw, inD_tupE]
    exact leave_d0 rfl _
theorem tidy_ok [HFn P "tidy_line" PF.f_tidy_line] (n : Nat) (b : Bool) (l : Ln) (hl : l.tg.length ≤ 100) (st : Store) : ev P (n + 1) "tidy_line" [.d (l.raw b)] st = some (.ok (.d (l.raw false)), st) := by
  rw [ev_fn, PF.r_tidy_line]
  cases l with
  | kase ws o =>
    have hl : ws.length ≤ 99 := by
      have : (ws.map (·.2) ++ [o]).length ≤ 100 := hl
      rw [List.length_append, List.length_map] at this
      simpa using this
    have hs : ∀ (G : Cfg) (a1 : Option Vl) (st : Store), evI G (.seq (.ix (.var 0) (.con (.int 1)))) [some (.d (.tup [.str (S! "case"), seqD b (ws.map wayD), .str o])), a1] st = some (.ok (.vs (ws.map fun w => .d (wayD w))), st) := fun G a1 st => by
      cases b <;> simp_arith [seqD] <;> rfl
    simp_arith [PF.b_tidy_line, Ln.raw, hs]
    generalize hc : cmpF _ _ _ _ = z
    have h1 := useMap hc ws (fun w => .d (wayD w)) (fun w => .d (wayD w)) rfl trivial (by
      intro w hw
      simp_arith [eltC_eq, wayD])
    subst h1
    simp_arith [embs_map]
    exact leave_d0 rfl _
  | _ =>
    simp_arith [PF.b_tidy_line, Ln.raw]
    exact leave_d0 rfl _
end
end SP

end

section
set_option maxHeartbeats 1000000
namespace SP
open PySem
local macro_rules | `(tactic| simp_arith [$xs,*]) => `(tactic| simp (disch := first | assumption | omega | (with_unfolding_all rfl) | (simp only [List.length_map, List.length_append, List.length_cons, List.length_nil, List.length_range]; omega)) only [g0, gS, s0, sS, gA0, gA, sA0, sA, take_A, noErr_ok, finv, fin_l, finBv, finB_l, finB_t, glob_eq, meth_eq, prop_eq, cls_eq, cfg_call, cfg_glob, cfg_prop, cfg_meth, cfg_cls, List.map_cons, List.map_nil, List.append_assoc, List.cons_append, List.nil_append, List.replicate, Option.map_some, List.length_cons, List.length_nil, Nat.reduceAdd, Nat.reduceSub, Nat.zero_add, decide_true, decide_false, Bool.not_true, Bool.not_false, Its.items, wipeE, kTr_ok, fin_t', fin_tE, tr_bl, tr_int, tr_non, tr_lst, tr_tup, tr_str, tr_loc, kTrL_lst, kTrL_dct, isL_v, isL_l, isL_t, evT_con, evT_var, kVar_ok, evT_glo, kGlo_ok, evT_bin, kBin1_ok, kBin2_ok, evT_neg, kNeg_ok, evT_not_t, evT_not_v, kNotT_ok, kNotV_ok, kNot'_ok, evT_and_t, evT_and_v, evT_and_l, evT_or_t, evT_or_v, evT_or_l, kAndT_t, kAndT_f, kOrT_f, kOrT_t, kAndV_ok, kOrV_ok, kAndV'_t, kAndV'_f, kOrV'_t, kOrV'_f, evT_cmp, kCmp1_ok, kCmp2_ok, evT_chain, kCh1_ok, kCh2_ok, kCh3_t, kCh3_f, evT_ite, kIte_t, kIte_f, evTs_of_nil, evTs_of_cons, kTs1_ok, kTs2_ok, evT_tup, kTup_ok, kTup'_ok, embs_nil, embs_d, embs_loc, kEmb1_ok, kEmb2_ok, emb_d, emb_loc, kEmb_ok, bind_some', toD_lst, kToL_ok, toD_ins, kToO_ok, dats_nil, dats_cons, kDats_ok, datsM, dats_mapd, datf_nil, datf_cons, kDatf_ok, evT_lst, kLst_ok, mkList_t, mkList_f, kMk_ok, embs_mapd, embs_map, evT_dict0, evT_ix, kIx1_ok, kIx2_ok, evT_slc, kSl1_ok, kSl2_ok, kSl3_ok, evO_none, evO_some, kO_ok, evT_rev, kRev_ok, kRev'_ok, evT_fld, kFld_ok, fldV_obj, fldV_loc, kFdL_ok, fdV_eq, kFd_f, kFd_p, lookF_hit, lookF_nil, putF_hit, putF_nil, evT_call, kCall_ok, evT_bi, kBi_1, kBi_2, evT_isin, kIs_ok, kIs'_ok, evT_meth, kMe1_ok, kMe2_own, kMe2_str, kMe2_lst, kMeO_ok, kMeB_ok, callM_eq, kCM_ok, evT_loc, stG_nm, stG_tp, stGs_nil, stGs_cons, kGs_ok, stG_ix, kGi1_ok, kGi2_ok, kGi3_lst, kGi4_d, kGi4_loc, kGi3_dct_d, kGi3_dct_loc, evSs_nil, evSs_cons, kSs_next, kSs_ret, kSs_err, kSs_brk, kSs_cont, evS_ex, kEx_ok, evS_asg, kAsg_ok, kAsg'_ok, kAsg_err, evS_fset, kFs1_ok, kFs2_ok, kFs3_d, kFs3_loc, evS_par, kPar_2, kPar_3, evS_aug, kAug_ok, kAug2_ok, augI_add, augI_sub, evS_ret, kRet_ok, evS_retN, evS_if, kIf_t, kIf_f, kBody_ok, evS_for, kFor_ok, kWh_t, kWh_f, turnW_next, turnW_cont, turnW_brk, turnW_ret, evS_whl, evS_brk, evS_cont, evS_pass, evI_seq, kSeq_ok, kSeq'_ok, evI_enu, kEnu_ok, enumIts_lst, seqIts_lst, seqIts_tup, seqIts_str, seqIts_loc, kSqL_ok, enumIts_loc, kEnL_ok, kEnL'_ok, evI_rng1, evI_rng2, kR2_ok, kC1_ok, kC2_t, kC2_f, kC3_ok, evF_of_nil, evF_of_cons, kF_t, kF_f, kF_b, evT_comp, kCo_ok, kCo2_ok, evT_comp2, kCC_ok, kD1_ok, kD2_t, kD2_f, kD3_ok, add_int, sub_int, mod_int, add_str, mul_str, add_tup, add_lst, bin_loc, bin_lloc, kBP_add, mul_lst, lt_int, le_int, gt_int, ge_int, eq_int, ne_int, is_non, isnot_non, kP1_ok, kP2_ok, kP3_ok, peek_d, peek_loc, cmp_eq_loc, cmp_eq_l, cmp_eq_t, cmpD_eq, cmpD_ne, notin_d, in_loc, notin_loc, kInL_lst, kInL_dct, kInL2_ok, kInL3_f, kInL3_t, inD_lst, inD_tup, inD_ch, inD_dct, ix_lst, ixTup, kAt_ok, ixStr, kAtS_ok, ix_loc, kIxL_lst, kIxL_dct, kAtV_ok, ix_dct, kDk_ok, at0, at1, at2, at3, slcV_eq, kSc_lst, kSc_tup, kSc_str, len_lst, len_tup, len_str, len_loc, kLn_lst, kLn_dct, int_int, int_bl, list_eq, kLi_lst, kLi_tup, tuple_eq, kTu_lst, kTu_tup, sum_lst, all_lst, any_lst, max_lst, min_lst, max_2, min_2, is_loc, kIsL_lst, rcv_str, rcv_lst, bm_join, bm_app, bm_ext, bm_pop, bm_index, rcv_obj, rcv_loc, kRc_lst, kRc_ins, meth_loc, meth_d, app_d, app_loc, ext_d, pop_l, join_l, index_l, index_loc, leave_next, leave_next0, leave_d, leave_d0, leave_loc0, leave_rloc0, keep_next, keep_ret, keep_loc, mul_i64, fdiv_i64, pow_i64, kR1_i, kR3_i, ixN_nat, Int.toNat_natCast, Int.reduceToNat, List.length_map, List.getElem?_map, Int.toNat_zero, Int.toNat_one, ne_eq, Int.cast_ofNat_Int, List.map_map, Int.reducePow, decT, decF, List.map_set, if_true, if_false, Bool.false_eq_true, eq_self, kIte_ii, in_t, in_l, in_s, in_c, ofStr_eq, String.reduceEq, eqv_str, eqv_int, kC2_b, kIf_b, eq_ll, ne_ll, List.any_cons, List.any_nil, List.find?_cons_of_pos, List.find?_cons_of_neg, Bool.or_false, Bool.false_or, Bool.or_true, Bool.true_or, Bool.and_true, Bool.true_and, Bool.and_false, Bool.false_and, Option.map_some, inD_dct, Nat.reduceLeDiff, Nat.reduceEqDiff, ne_eq, not_false_eq_true, not_true_eq_false, List.all_cons, List.all_nil, flat_int, flat_str, flat_non, flat_bl, Int.reduceSub, Int.reduceAdd, Int.natCast_add, Int.cast_ofNat_Int, enumIts_tup, lenS1, take_A, embs_comp, dats_comp, cmp_ne_loc, $xs,*])
theorem get_enum : ∀ {ds : List D} {k i : Nat} {v : Vl}, (enumV k ds)[i]? = some v → ∃ d, ds[i]? = some d ∧ v = .d (.tup [.int (((k + i : Nat)) : Int), d])
  | [], k, i, v, h => by unfold enumV at h; cases i <;> cases h
  | d :: r, k, 0, v, h => by
    unfold enumV at h
    cases h
    exact ⟨d, rfl, rfl⟩
  | d :: r, k, i + 1, v, h => by
    unfold enumV at h
    obtain ⟨d', h1, h2⟩ := get_enum (show (enumV (k + 1) r)[i]? = some v from h)
    exact ⟨d', h1, by rw [h2, show k + 1 + i = k + (i + 1) by omega]⟩
theorem enum_len : ∀ (ds : List D) (k : Nat), (enumV k ds).length = ds.length
  | [], _ => rfl
  | _ :: r, k => by unfold enumV; rw [List.length_cons, List.length_cons, enum_len r (k + 1)]
/-- lines handed in -/
def lnD (b : Bool) (x : Str × Ln) : D := .tup [.str x.1, x.2.raw b]
abbrev Rdr := List (Str × Ln)
def nms (L : Rdr) : List Str := L.map (·.1)
def posOf (xs : List Str) (t : Str) : Nat := (xs.findIdx? fun z => decide (z = t)).getD 0
theorem posOf_ok {xs : List Str} {t : Str} (h : t ∈ xs) : (xs.findIdx? fun z => decide (z = t)) = some (posOf xs t) ∧ xs[posOf xs t]? = some t ∧ posOf xs t < xs.length := by
  cases q : xs.findIdx? fun z => decide (z = t) with
  | none =>
    exfalso
    have := List.findIdx?_eq_none_iff.mp q t h
    simp at this
  | some j =>
    obtain ⟨h1, h2, _⟩ := List.findIdx?_eq_some_iff_getElem.mp q
    have e : posOf xs t = j := by unfold posOf; rw [q]; rfl
    rw [e]
    refine ⟨rfl, ?_, h1⟩
    rw [List.getElem?_eq_getElem h1]
    simpa using h2
theorem idx_strs (xs : List Str) (t : Str) : ((xs.map D.str).findIdx? fun z => D.eqv z (.str t)) = xs.findIdx? fun z => decide (z = t) := by
  rw [List.findIdx?_map]
  have e : ((fun z => D.eqv z (.str t)) ∘ D.str) = fun z => decide (z = t) := funext fun z => eqv_str z t
  rw [e]
def Ln.reads : Ln → Bool
  | .kase _ _ | .take _ | .rest _ _ | .cap _ _ | .jump _ _ => true
  | _ => false
/-- a cut, a skip, a refuse -/
def Ln.ends : Ln → Bool
  | .cut | .refuse | .skip _ _ => true
  | _ => false
/-- where a line goes without reading -/
def sil (L : Rdr) (l : Ln) : List Nat := if l.reads then [] else l.tg.map (posOf (nms L))
def silD (L : Rdr) (l : Ln) : D := .lst ((sil L l).map fun (j : Nat) => D.int (j : Int))
structure RdOk (L : Rdr) : Prop where
  lo : 1 ≤ L.length
  hi : L.length ≤ 8
  nm : ∀ x ∈ L, Nm x.1
  nd : (nms L).Nodup
  ok : ∀ x ∈ L, x.2.ok
  tg : ∀ x ∈ L, ∀ t ∈ x.2.tg, t ∈ nms L
  rk : ∃ r : Nat → Nat, ∀ i x, L[i]? = some x → ∀ j ∈ sil L x.2, r j < r i
  bg : ∃ B : Nat → Prop, B 0 ∧ ∀ i x, L[i]? = some x → B i → x.2.ends = false ∧ ∀ j ∈ sil L x.2, B j
theorem Ln.tg_len {l : Ln} (h : l.ok) : l.tg.length ≤ 7 := by
  cases l with
  | kase ws o =>
    have h : WaysOk _ := h
    have := h.len
    show (ws.map (·.2) ++ [o]).length ≤ 7
    rw [List.length_append, List.length_map, List.length_cons, List.length_nil]
    omega
  | _ => simp [Ln.tg]
section
variable {P : Pg} [HFn P "fits_name" PF.f_fits_name] [HsG P "LETTERS" (.str LET)] [HsG P "MOST_VALUE" (.int 5)] [HFn P "fits_ways" PF.f_fits_ways] [HFn P "fits_line" PF.f_fits_line] [HsG P "SIZES" sizesD] [HsG P "LEAST" leastD] [HsG P "GREATEST" greatD] [HFn P "targets_of" PF.f_targets_of]
theorem check_lines_ok [HFn P "check_lines" PF.f_check_lines] (n : Nat) (c b : Bool) {L : Rdr} (h : RdOk L) (st : Store) : ev P (n + 3) "check_lines" [.d (seqD c (L.map (lnD b)))] st = some (.ok (.d .non), st) := by
  rw [ev_fn, PF.r_check_lines]
  have he : ∀ (G : Cfg) (a1 a2 a3 a4 a5 : Option Vl) (st : Store), evI G (.enu (.var 0)) [some (.d (seqD c (L.map (lnD b)))), a1, a2, a3, a4, a5] st = some (.ok (.vs (enumV 0 (L.map (lnD b)))), st) := fun G a1 a2 a3 a4 a5 st => by
    cases c <;> simp_arith [seqD] <;> rfl
  simp_arith [PF.b_check_lines, he]
  generalize hc : forF _ _ _ _ _ = z
  have hno : ∀ x ∈ nms L, PyData.strOk x = true := fun x hx => by
    obtain ⟨y, hy, rfl⟩ := List.mem_map.mp hx
    exact (h.nm y hy).ok
  obtain ⟨ρ1, st1, rfl, a2, a3, a4, rfl, rfl⟩ := useF hc (fun i ρ s => ∃ a2 a3 a4, ρ = [some (.d (seqD c (L.map (lnD b)))), some (.loc st.length), a2, a3, a4, none] ∧ s = st ++ [.lst (((nms L).take i).map fun x => .d (.str x))]) ⟨none, none, none, rfl, rfl⟩ (fun _ _ _ _ _ => trivial) (by
    rintro i v ρ s hv ⟨a2, a3, a4, rfl, rfl⟩
    obtain ⟨d, hd, rfl⟩ := get_enum hv
    rw [List.getElem?_map] at hd
    obtain ⟨x, hx, rfl⟩ := Option.map_eq_some_iff.mp hd
    obtain ⟨hi, hx'⟩ := List.getElem?_eq_some_iff.mp hx
    have hm : x ∈ L := by rw [← hx']; exact List.getElem_mem hi
    have hn := h.nm x hm
    have e1 := fits_name_ok (P := P) (n + 1) hn.lok (st ++ [.lst (((nms L).take i).map fun x => .d (.str x))])
    have e2 := fits_line_ok (P := P) n b (h.ok x hm) (st ++ [.lst (((nms L).take i).map fun x => .d (.str x))])
    have hxi : (nms L)[i]? = some x.1 := by
      unfold nms
      rw [List.getElem?_map, hx]
      rfl
    have hnd : x.1 ∉ (nms L).take i := by
      have hi' : i < (nms L).length := (List.getElem?_eq_some_iff.mp hxi).1
      have hg : (nms L)[i] = x.1 := (List.getElem?_eq_some_iff.mp hxi).2
      have := h.nd
      rw [← List.take_append_drop i (nms L), List.drop_eq_getElem_cons hi', hg, List.nodup_append] at this
      intro hm
      exact this.2.2 _ hm _ (by simp) rfl
    have hl : ((nms L).take i).length < 100 := by
      have := h.hi
      have e : (nms L).length = L.length := by simp [nms]
      rw [List.length_take]
      omega
    have e3 : dats (((nms L).take i).map fun x => Vl.d (.str x)) = some (((nms L).take i).map D.str) := dats_strs _
    have e4 : inD (.str x.1) (.lst (((nms L).take i).map D.str)) = some false := by
      rw [inD_lst (shp_str hn.ok) (shp_strs fun y hy => hno y (List.mem_of_mem_take hy)), any_str, decide_eq_false hnd]
    have e5 : nmQ x.1 = true := decide_eq_true hn
    refine ⟨_, _, ?_, some (.d (.int ((0 + i : Nat) : Int))), some (.d (.str x.1)), some (.d (x.2.raw b)), rfl, rfl⟩
    simp_arith [bodyF_eq, lnD, e1, e2, e3, e4, e5, List.take_add_one, hxi, Option.toList_some, List.map_append])
  rw [enum_len, List.length_map]
  have e0 : (nms L).take L.length = nms L := by
    rw [List.take_of_length_le]
    simp [nms]
  rw [e0]
  simp_arith [he]
  generalize hc : forF _ _ _ _ _ = z
  obtain ⟨ρ1, st1, rfl, a2, a3, a4, rfl, rfl⟩ := useF hc (fun i ρ s => ∃ a2 a3 a4, ρ = [some (.d (seqD c (L.map (lnD b)))), some (.loc st.length), a2, a3, a4, none] ∧ s = st ++ [.lst ((nms L).map fun x => .d (.str x))]) ⟨_, _, _, rfl, rfl⟩ (fun _ _ _ _ _ => trivial) (by
    rintro i v ρ s hv ⟨a2, a3, a4, rfl, rfl⟩
    obtain ⟨d, hd, rfl⟩ := get_enum hv
    rw [List.getElem?_map] at hd
    obtain ⟨x, hx, rfl⟩ := Option.map_eq_some_iff.mp hd
    obtain ⟨hi, hx'⟩ := List.getElem?_eq_some_iff.mp hx
    have hm : x ∈ L := by rw [← hx']; exact List.getElem_mem hi
    have hk := h.ok x hm
    have hl := Ln.tg_len hk
    have e1 := targets_ok (P := P) (n + 1) b x.2 (by omega) (st ++ [.lst ((nms L).map fun x => .d (.str x))])
    refine ⟨_, _, ?_, some (.d (.int ((0 + i : Nat) : Int))), some (.d (.str x.1)), some (.d (x.2.raw b)), rfl, rfl⟩
    simp_arith [bodyF_eq, lnD, e1]
    generalize hc2 : cmpF _ _ _ _ = z2
    have h2 := useFil hc2 x.2.tg (fun t => .d (.str t)) (fun _ => false) (fun t => .d (.str t)) (by first | rfl | simp [List.map_map, Function.comp_def]) trivial (by
      intro t ht
      have ht2 := h.tg x hm t ht
      have e3 : dats ((nms L).map fun x => Vl.d (.str x)) = some ((nms L).map D.str) := dats_strs _
      have e4 : inD (.str t) (.lst ((nms L).map D.str)) = some true := by
        rw [inD_lst (shp_str (hno t ht2)) (shp_strs hno), any_str, decide_eq_true ht2]
      simp_arith [eltC_eq, e3, e4])
    subst h2
    rw [show x.2.tg.filter (fun _ => false) = [] by simp]
    simp_arith [bnd_ok])
  simp_arith [bnd_ok]
  exact leave_next rfl _
def readingD : D := .tup [.str (S! "case"), .str (S! "take"), .str (S! "rest"), .str (S! "cap"), .str (S! "jump")]
theorem reads_in (b : Bool) (l : Ln) : ∃ w r, l.raw b = .tup (.str w :: r) ∧ inD (.str w) readingD = some l.reads := by
  cases l <;> exact ⟨_, _, rfl, rfl⟩
theorem in_reading {G : Cfg} {st : Store} (a : D) : cmpV G .isin (.d a) (.d readingD) st = kP3 st (inD a readingD) := rfl
theorem silent_ok [HFn P "silent_ways" PF.f_silent_ways] [HsG P "READING" readingD] (n : Nat) {L : Rdr} (h : RdOk L) (st : Store) : ev P (n + 2) "silent_ways" [.d (.tup (L.map (lnD false)))] st = some (.ok (.d (.lst (L.map fun x => silD L x.2))), st) := by
  rw [ev_fn, PF.r_silent_ways]
  have hno : ∀ x ∈ nms L, PyData.strOk x = true := fun x hx => by
    obtain ⟨y, hy, rfl⟩ := List.mem_map.mp hx
    exact (h.nm y hy).ok
  have hL := h.hi
  simp_arith [PF.b_silent_ways]
  generalize hc : cmpF _ _ _ _ = z
  have h1 := useMap hc L (fun x => .d (lnD false x)) (fun x => .d (.str x.1)) (by first | rfl | simp [List.map_map, Function.comp_def]) trivial (by
    intro x hx
    simp_arith [eltC_eq, lnD])
  subst h1
  simp_arith [embs_map]
  generalize hc : forF _ _ _ _ _ = z
  obtain ⟨ρ1, st1, rfl, a2, a3, a5, rfl, rfl⟩ := useF hc (fun i ρ s => ∃ a2 a3 a5, ρ = [some (.d (.tup (L.map (lnD false)))), some (.d (.lst (L.map fun x => .str x.1))), a2, a3, some (.loc st.length), a5, none] ∧ s = st ++ [.lst ((L.take i).map fun x => .d (silD L x.2))]) ⟨none, none, none, rfl, rfl⟩ (fun _ _ _ _ _ => trivial) (by
    rintro i v ρ s hv ⟨a2, a3, a5, rfl, rfl⟩
    simp only [List.getElem?_map, List.map_map] at hv
    obtain ⟨x, hx, rfl⟩ := Option.map_eq_some_iff.mp hv
    obtain ⟨hi, hx'⟩ := List.getElem?_eq_some_iff.mp hx
    have hm : x ∈ L := by rw [← hx']; exact List.getElem_mem hi
    have hk := h.ok x hm
    have hl := Ln.tg_len hk
    have hl2 : (L.take i).length < 100 := by
      rw [List.length_take]
      omega
    obtain ⟨w, r, hw, hr⟩ := reads_in false x.2
    have e1 := targets_ok (P := P) n false x.2 (by omega) (st ++ [.lst ((L.take i).map fun x => .d (silD L x.2))])
    rw [hw] at e1
    cases hq : x.2.reads with
    | true =>
      rw [hq] at hr
      have hs : silD L x.2 = .lst [] := by unfold silD sil; rw [hq]; rfl
      refine ⟨_, _, ?_, some (.d (.str x.1)), some (.d (x.2.raw false)), some (.d (.lst [])), rfl, rfl⟩
      simp_arith [bodyF_eq, lnD, hw, in_reading, hr, Function.comp, cmpF, still_vs, hx, List.take_add_one, Option.toList_some, List.map_append, hs]
    | false =>
      rw [hq] at hr
      have hs : silD L x.2 = .lst (x.2.tg.map fun t => .int (posOf (nms L) t : Int)) := by unfold silD sil; rw [hq, if_neg Bool.false_ne_true, List.map_map]; rfl
      refine ⟨_, _, ?_, some (.d (.str x.1)), some (.d (x.2.raw false)), some (.d (.lst (x.2.tg.map D.str))), rfl, rfl⟩
      simp_arith [bodyF_eq, lnD, hw, in_reading, hr, Function.comp, e1]
      generalize hc2 : cmpF _ _ _ _ = z2
      have h2 := useMap hc2 x.2.tg (fun t => .d (.str t)) (fun t => .d (.int (posOf (nms L) t : Int))) (by first | rfl | simp [List.map_map, Function.comp_def]) trivial (by
        intro t ht
        have ht2 := h.tg x hm t ht
        obtain ⟨p1, p2, p3⟩ := posOf_ok ht2
        have e3 : (L.map fun x => D.str x.1) = (nms L).map D.str := by unfold nms; rw [List.map_map]; rfl
        have e4 := index_l (m := false) (st := st ++ [.lst ((L.take i).map fun x => .d (silD L x.2))]) (shp_str (hno t ht2)) (shp_strs hno) ((idx_strs (nms L) t).trans p1)
        simp_arith [eltC_eq, e3, e4])
      subst h2
      simp_arith [embs_map, hx, List.take_add_one, Option.toList_some, List.map_append, hs])
  rw [List.length_map, List.take_length]
  simp_arith [bnd_ok]
  exact leave_loc0 rfl rfl [] (by rw [toD_lst, datsM]; rfl)
end
end SP

end

section
set_option maxHeartbeats 1000000
namespace SP
open PySem
local macro_rules | `(tactic| simp_arith [$xs,*]) => `(tactic| simp (disch := first | assumption | omega | (with_unfolding_all rfl) | (simp only [List.length_map, List.length_append, List.length_cons, List.length_nil, List.length_range]; omega)) only [g0, gS, s0, sS, gA0, gA, sA0, sA, take_A, noErr_ok, finv, fin_l, finBv, finB_l, finB_t, glob_eq, meth_eq, prop_eq, cls_eq, cfg_call, cfg_glob, cfg_prop, cfg_meth, cfg_cls, List.map_cons, List.map_nil, List.append_assoc, List.cons_append, List.nil_append, List.replicate, Option.map_some, List.length_cons, List.length_nil, Nat.reduceAdd, Nat.reduceSub, Nat.zero_add, decide_true, decide_false, Bool.not_true, Bool.not_false, Its.items, wipeE, kTr_ok, fin_t', fin_tE, tr_bl, tr_int, tr_non, tr_lst, tr_tup, tr_str, tr_loc, kTrL_lst, kTrL_dct, isL_v, isL_l, isL_t, evT_con, evT_var, kVar_ok, evT_glo, kGlo_ok, evT_bin, kBin1_ok, kBin2_ok, evT_neg, kNeg_ok, evT_not_t, evT_not_v, kNotT_ok, kNotV_ok, kNot'_ok, evT_and_t, evT_and_v, evT_and_l, evT_or_t, evT_or_v, evT_or_l, kAndT_t, kAndT_f, kOrT_f, kOrT_t, kAndV_ok, kOrV_ok, kAndV'_t, kAndV'_f, kOrV'_t, kOrV'_f, evT_cmp, kCmp1_ok, kCmp2_ok, evT_chain, kCh1_ok, kCh2_ok, kCh3_t, kCh3_f, evT_ite, kIte_t, kIte_f, evTs_of_nil, evTs_of_cons, kTs1_ok, kTs2_ok, evT_tup, kTup_ok, kTup'_ok, embs_nil, embs_d, embs_loc, kEmb1_ok, kEmb2_ok, emb_d, emb_loc, kEmb_ok, bind_some', toD_lst, kToL_ok, toD_ins, kToO_ok, dats_nil, dats_cons, kDats_ok, datsM, dats_mapd, datf_nil, datf_cons, kDatf_ok, evT_lst, kLst_ok, mkList_t, mkList_f, kMk_ok, embs_mapd, embs_map, evT_dict0, evT_ix, kIx1_ok, kIx2_ok, evT_slc, kSl1_ok, kSl2_ok, kSl3_ok, evO_none, evO_some, kO_ok, evT_rev, kRev_ok, kRev'_ok, evT_fld, kFld_ok, fldV_obj, fldV_loc, kFdL_ok, fdV_eq, kFd_f, kFd_p, lookF_hit, lookF_nil, putF_hit, putF_nil, evT_call, kCall_ok, evT_bi, kBi_1, kBi_2, evT_isin, kIs_ok, kIs'_ok, evT_meth, kMe1_ok, kMe2_own, kMe2_str, kMe2_lst, kMeO_ok, kMeB_ok, callM_eq, kCM_ok, evT_loc, stG_nm, stG_tp, stGs_nil, stGs_cons, kGs_ok, stG_ix, kGi1_ok, kGi2_ok, kGi3_lst, kGi4_d, kGi4_loc, kGi3_dct_d, kGi3_dct_loc, evSs_nil, evSs_cons, kSs_next, kSs_ret, kSs_err, kSs_brk, kSs_cont, evS_ex, kEx_ok, evS_asg, kAsg_ok, kAsg'_ok, kAsg_err, evS_fset, kFs1_ok, kFs2_ok, kFs3_d, kFs3_loc, evS_par, kPar_2, kPar_3, evS_aug, kAug_ok, kAug2_ok, augI_add, augI_sub, evS_ret, kRet_ok, evS_retN, evS_if, kIf_t, kIf_f, kBody_ok, evS_for, kFor_ok, kWh_t, kWh_f, turnW_next, turnW_cont, turnW_brk, turnW_ret, evS_whl, evS_brk, evS_cont, evS_pass, evI_seq, kSeq_ok, kSeq'_ok, evI_enu, kEnu_ok, enumIts_lst, seqIts_lst, seqIts_tup, seqIts_str, seqIts_loc, kSqL_ok, enumIts_loc, kEnL_ok, kEnL'_ok, evI_rng1, evI_rng2, kR2_ok, kC1_ok, kC2_t, kC2_f, kC3_ok, evF_of_nil, evF_of_cons, kF_t, kF_f, kF_b, evT_comp, kCo_ok, kCo2_ok, evT_comp2, kCC_ok, kD1_ok, kD2_t, kD2_f, kD3_ok, add_int, sub_int, mod_int, add_str, mul_str, add_tup, add_lst, bin_loc, bin_lloc, kBP_add, mul_lst, lt_int, le_int, gt_int, ge_int, eq_int, ne_int, is_non, isnot_non, kP1_ok, kP2_ok, kP3_ok, peek_d, peek_loc, cmp_eq_loc, cmp_eq_l, cmp_eq_t, cmpD_eq, cmpD_ne, notin_d, in_loc, notin_loc, kInL_lst, kInL_dct, kInL2_ok, kInL3_f, kInL3_t, inD_lst, inD_tup, inD_ch, inD_dct, ix_lst, ixTup, kAt_ok, ixStr, kAtS_ok, ix_loc, kIxL_lst, kIxL_dct, kAtV_ok, ix_dct, kDk_ok, at0, at1, at2, at3, slcV_eq, kSc_lst, kSc_tup, kSc_str, len_lst, len_tup, len_str, len_loc, kLn_lst, kLn_dct, int_int, int_bl, list_eq, kLi_lst, kLi_tup, tuple_eq, kTu_lst, kTu_tup, sum_lst, all_lst, any_lst, max_lst, min_lst, max_2, min_2, is_loc, kIsL_lst, rcv_str, rcv_lst, bm_join, bm_app, bm_ext, bm_pop, bm_index, rcv_obj, rcv_loc, kRc_lst, kRc_ins, meth_loc, meth_d, app_d, app_loc, ext_d, pop_l, join_l, index_l, index_loc, leave_next, leave_next0, leave_d, leave_d0, leave_loc0, leave_rloc0, keep_next, keep_ret, keep_loc, mul_i64, fdiv_i64, pow_i64, kR1_i, kR3_i, ixN_nat, Int.toNat_natCast, Int.reduceToNat, List.length_map, List.getElem?_map, Int.toNat_zero, Int.toNat_one, ne_eq, Int.cast_ofNat_Int, List.map_map, Int.reducePow, decT, decF, List.map_set, if_true, if_false, Bool.false_eq_true, eq_self, kIte_ii, in_t, in_l, in_s, in_c, ofStr_eq, String.reduceEq, eqv_str, eqv_int, kC2_b, kIf_b, eq_ll, ne_ll, List.any_cons, List.any_nil, List.find?_cons_of_pos, List.find?_cons_of_neg, Bool.or_false, Bool.false_or, Bool.or_true, Bool.true_or, Bool.and_true, Bool.true_and, Bool.and_false, Bool.false_and, Option.map_some, inD_dct, Nat.reduceLeDiff, Nat.reduceEqDiff, ne_eq, not_false_eq_true, not_true_eq_false, List.all_cons, List.all_nil, flat_int, flat_str, flat_non, flat_bl, Int.reduceSub, Int.reduceAdd, Int.natCast_add, Int.cast_ofNat_Int, enumIts_tup, lenS1, take_A, embs_comp, dats_comp, cmp_ne_loc, $xs,*])
def natsD (l : List Nat) : D := .lst (l.map fun (j : Nat) => D.int (j : Int))
theorem any_nat (xs : List Nat) (x : Nat) : ((xs.map fun (j : Nat) => D.int (j : Int)).any fun z => D.eqv z (.int (x : Int))) = decide (x ∈ xs) := by
  induction xs with
  | nil => rfl
  | cons y r ih =>
    rw [List.map_cons, List.any_cons, ih, eqv_int]
    by_cases h : y = x
    · subst h; simp
    · have : ¬ x = y := fun e => h e.symm
      have h2 : ¬ (y : Int) = (x : Int) := by omega
      simp [h2, this]
theorem shp_nats (xs : List Nat) : (natsD xs).shp = true := by
  refine ok_shp (ok_lst (n := 0) fun d hd => ?_) (by omega)
  obtain ⟨x, hx, rfl⟩ := List.mem_map.mp hd
  exact ok_int _ _
theorem in_nats (xs : List Nat) (x : Nat) : inD (.int (x : Int)) (natsD xs) = some (decide (x ∈ xs)) := by
  unfold natsD
  rw [inD_lst (shp_int _) (shp_nats xs), any_nat]
theorem nil_or_snoc {α : Type} (F : List α) : F = [] ∨ ∃ F0 x, F = F0 ++ [x] := by
  rcases List.eq_nil_or_concat F with h | ⟨a, b, h⟩
  · exact .inl h
  · exact .inr ⟨a, b, by rw [h, List.concat_eq_append]⟩
section
variable {P : Pg}
/-- what can be come to, as far as it is asked -/
theorem reached_ok [HFn P "reached" PF.f_reached] (n : Nat) (W : List (List Nat)) (hW : W.length ≤ 8) (hM : ∀ w ∈ W, w.length ≤ 7) (C : Nat → Prop) (a : Nat) (h0 : ∀ w, W[a]? = some w → ∀ j ∈ w, C j) (ha : a < W.length) (hC : ∀ i, C i → i < W.length ∧ ∀ w, W[i]? = some w → ∀ j ∈ w, C j) (st : Store) :
    ∃ R : List Nat, (∀ j ∈ R, C j) ∧ R.length ≤ 8 ∧ ev P (n + 1) "reached" [.d (.lst (W.map natsD)), .d (.int (a : Int))] st = some (.ok (.d (natsD R)), st) := by
  rw [ev_fn, PF.r_reached]
  obtain ⟨w0, hw0⟩ : ∃ w, W[a]? = some w := ⟨_, List.getElem?_eq_getElem ha⟩
  have hat : ∀ (i : Nat) w, W[i]? = some w → atI (W.map natsD) (i : Int) = some (natsD w) := fun i w hw => by
    have hi := (List.getElem?_eq_some_iff.mp hw).1
    rw [atI_nat (by omega) (by rw [List.length_map]; omega), Int.toNat_natCast, List.getElem?_map, hw]
    rfl
  have hl0 : w0.length ≤ 7 := hM w0 (List.mem_of_getElem? hw0)
  simp_arith [PF.b_reached, hat a w0 hw0, natsD]
  generalize hc : loopM _ _ _ = z
  obtain ⟨r, rfl, ρ1, R, F, rfl, hR, hlR⟩ := useW hc (fun m ρ s => ∃ (R F : List Nat) (a4 : Option Vl), ρ = [some (.d (.lst (W.map natsD))), some (.d (.int (a : Int))), some (.loc st.length), some (.loc (st.length + 1)), a4] ∧ s = st ++ [.lst (R.map fun (j : Nat) => .d (.int (j : Int))), .lst (F.map fun (j : Nat) => .d (.int (j : Int)))] ∧ (∀ j ∈ R, C j) ∧ (∀ j ∈ F, C j) ∧ R.Nodup ∧ R.length ≤ W.length ∧ F.length ≤ 7 * (R.length + 1) ∧ m = (W.length - R.length) * 8 + F.length)
    (fun r => ∃ (ρ1 : Option Vl) (R F : List Nat), r = (.next, [some (.d (.lst (W.map natsD))), some (.d (.int (a : Int))), some (.loc st.length), some (.loc (st.length + 1)), ρ1], st ++ [.lst (R.map fun (j : Nat) => .d (.int (j : Int))), .lst (F.map fun (j : Nat) => .d (.int (j : Int)))]) ∧ (∀ j ∈ R, C j) ∧ R.length ≤ W.length) (W.length * 8 + w0.length)
    ⟨[], w0, none, rfl, by simp [List.map_map, Function.comp_def], (fun j hj => by cases hj), h0 w0 hw0, List.nodup_nil, by simp, by simpa using hl0, by simp⟩ (by
    rintro m ρ s ⟨R, F, a4, rfl, rfl, hR, hF, hnd, hlR, hlF, rfl⟩
    rcases nil_or_snoc F with rfl | ⟨F, x, rfl⟩
    · refine .inl ⟨.next, _, _, ?_, a4, R, [], rfl, hR, hlR⟩
      simp_arith [stepWh_eq]
    · have hx : C x := hF x (by simp)
      obtain ⟨hxW, hxC⟩ := hC x hx
      have hF' : ∀ j ∈ F, C j := fun j hj => hF j (by simp [hj])
      have e2 : inD (.int (x : Int)) (.lst (R.map fun (j : Nat) => D.int (j : Int))) = some (decide (x ∈ R)) := in_nats R x
      have e3 : dats (R.map fun (j : Nat) => Vl.d (.int (j : Int))) = some (R.map fun (j : Nat) => D.int (j : Int)) := datsM _ _
      have e4 : ((F ++ [x]).map fun (j : Nat) => Vl.d (.int (j : Int))) = (F.map fun (j : Nat) => Vl.d (.int (j : Int))) ++ [.d (.int (x : Int))] := by simp
      rw [List.length_append, List.length_cons, List.length_nil] at hlF
      have h1 : ∀ k : Nat, decide (¬ (k + 1 = 0)) = true := fun k => by simp
      have h2 : ∀ k : Nat, decide (¬ (k + (0 + 1) = 0)) = true := fun k => by simp
      by_cases hin : x ∈ R
      · refine .inr ⟨_, _, _, ?_, ?_, R, F, some (.d (.int (x : Int))), rfl, rfl, hR, hF', hnd, hlR, by omega, rfl⟩
        · simp only [List.length_append, List.length_cons, List.length_nil]; omega
        · simp_arith [stepWh_eq, e2, e3, e4, List.length_append, h1, h2]
      · obtain ⟨w, hw⟩ : ∃ w, W[x]? = some w := ⟨_, List.getElem?_eq_getElem hxW⟩
        have hwl : w.length ≤ 7 := hM w (List.mem_of_getElem? hw)
        have hnd2 : (R ++ [x]).Nodup := List.nodup_append.mpr ⟨hnd, by simp, by intro a ha b hb; simp at hb; subst hb; intro e; subst e; exact hin ha⟩
        have hl2 : (R ++ [x]).length ≤ W.length := by
          have : (R ++ [x]) ⊆ List.range W.length := fun j hj => by
            rcases List.mem_append.mp hj with hj | hj
            · exact List.mem_range.mpr (hC j (hR j hj)).1
            · simp at hj; subst hj; exact List.mem_range.mpr hxW
          have := List.Nodup.length_le_of_subset hnd2 this
          rwa [List.length_range] at this
        rw [List.length_append, List.length_cons, List.length_nil] at hl2
        refine .inr ⟨_, _, st ++ [.lst ((R ++ [x]).map fun (j : Nat) => .d (.int (j : Int))), .lst ((F ++ w).map fun (j : Nat) => .d (.int (j : Int)))], ?_, ?_, R ++ [x], F ++ w, some (.d (.int (x : Int))), rfl, rfl, ?_, ?_, hnd2, ?_, ?_, rfl⟩
        · simp only [List.length_append, List.length_cons, List.length_nil]; omega
        · simp_arith [stepWh_eq, e2, e3, e4, List.length_append, h1, h2, hat x w hw, natsD, List.map_append]
          rfl
        · intro j hj
          rcases List.mem_append.mp hj with hj | hj
          · exact hR j hj
          · simp at hj; subst hj; exact hx
        · intro j hj
          rcases List.mem_append.mp hj with hj | hj
          · exact hF' j hj
          · exact hxC w hw j hj
        · simp only [List.length_append, List.length_cons, List.length_nil]; omega
        · simp only [List.length_append, List.length_cons, List.length_nil]; omega)
  rw [kSs_next]
  refine ⟨R, hR, by omega, ?_⟩
  simp_arith [bnd_ok]
  exact leave_loc0 rfl rfl _ (by rw [toD_lst, datsM]; rfl)
theorem sil_silD (L : Rdr) (l : Ln) : silD L l = natsD (sil L l) := rfl
theorem ends_in (b : Bool) (l : Ln) : ∃ w r, l.raw b = .tup (.str w :: r) ∧ inD (.str w) (.tup [.str (S! "cut"), .str (S! "skip"), .str (S! "refuse")]) = some l.ends := by
  cases l <;> exact ⟨_, _, rfl, rfl⟩
theorem sil_len {L : Rdr} {x : Str × Ln} (h : x.2.ok) : (sil L x.2).length ≤ 7 := by
  have := Ln.tg_len h
  unfold sil
  split
  · simp
  · rw [List.length_map]; exact this
theorem sil_lt {L : Rdr} (h : RdOk L) {x : Str × Ln} (hx : x ∈ L) : ∀ j ∈ sil L x.2, j < L.length := by
  intro j hj
  unfold sil at hj
  split at hj
  · cases hj
  · obtain ⟨t, ht, rfl⟩ := List.mem_map.mp hj
    have := (posOf_ok (h.tg x hx t ht)).2.2
    simpa [nms] using this
theorem check_ways_ok [HFn P "fits_name" PF.f_fits_name] [HsG P "LETTERS" (.str LET)] [HsG P "MOST_VALUE" (.int 5)] [HFn P "fits_ways" PF.f_fits_ways] [HFn P "fits_line" PF.f_fits_line] [HsG P "SIZES" sizesD] [HsG P "LEAST" leastD] [HsG P "GREATEST" greatD] [HFn P "targets_of" PF.f_targets_of]
    [HFn P "silent_ways" PF.f_silent_ways] [HsG P "READING" readingD] [HFn P "reached" PF.f_reached] [HFn P "check_ways" PF.f_check_ways] (n : Nat) {L : Rdr} (h : RdOk L) (st : Store) : ev P (n + 3) "check_ways" [.d (.tup (L.map (lnD false)))] st = some (.ok (.d .non), st) := by
  rw [ev_fn, PF.r_check_ways]
  have e1 := silent_ok (P := P) n h st
  have hL := h.hi
  have hL0 := h.lo
  have eW : (L.map fun x => silD L x.2) = (L.map fun x => sil L x.2).map natsD := by rw [List.map_map]; rfl
  rw [eW] at e1
  have hWg : ∀ (i : Nat) w, (L.map fun x => sil L x.2)[i]? = some w → ∃ x, L[i]? = some x ∧ w = sil L x.2 := fun i w hw => by
    rw [List.getElem?_map] at hw
    obtain ⟨x, h1, h2⟩ := Option.map_eq_some_iff.mp hw
    exact ⟨x, h1, h2.symm⟩
  have hWl : (L.map fun x => sil L x.2).length ≤ 8 := by rw [List.length_map]; exact hL
  have hWm : ∀ w ∈ (L.map fun x => sil L x.2), w.length ≤ 7 := fun w hw => by
    obtain ⟨x, hx, rfl⟩ := List.mem_map.mp hw
    exact sil_len (h.ok x hx)
  have hlW : (L.map fun x => sil L x.2).length = L.length := List.length_map ..
  generalize (L.map fun x => sil L x.2) = W at e1 hWg hWl hWm hlW
  obtain ⟨r, hr⟩ := h.rk
  obtain ⟨B, hB0, hB⟩ := h.bg
  simp_arith [PF.b_check_ways, e1]
  generalize hc : forF _ _ _ _ _ = z
  obtain ⟨ρ1, st1, rfl, a2, rfl, rfl⟩ := useF hc (fun i ρ s => ∃ a2, ρ = [some (.d (.tup (L.map (lnD false)))), some (.d (.lst (W.map natsD))), a2, none, none, none] ∧ st = s) ⟨none, rfl, rfl⟩ (fun _ _ _ _ _ => trivial) (by
    rintro i v ρ s hv ⟨a2, rfl, rfl⟩
    obtain ⟨rfl, hi⟩ := get_rng hv
    have hi : i < L.length := by omega
    obtain ⟨R, hR, hRl, e2⟩ := reached_ok (P := P) (n + 1) W hWl hWm (fun j => r j < r i ∧ j < L.length) i (fun w hw j hj => by
      obtain ⟨x, h1, rfl⟩ := hWg i w hw
      exact ⟨hr i x h1 j hj, sil_lt h (List.mem_of_getElem? h1) j hj⟩) (by rw [hlW]; exact hi) (fun k ⟨hk, hk2⟩ => ⟨by rw [hlW]; exact hk2, fun w hw j hj => by
      obtain ⟨x, h1, rfl⟩ := hWg k w hw
      exact ⟨Nat.lt_trans (hr k x h1 j hj) hk, sil_lt h (List.mem_of_getElem? h1) j hj⟩⟩) st
    have hni : i ∉ R := fun hm => by
      have := (hR i hm).1
      omega
    have e3 : inD (.int (i : Int)) (natsD R) = some false := by rw [in_nats, decide_eq_false hni]
    have e4 : cmpV (P.cfg (ev P (n + 2))) .isin (.d (.int (i : Int))) (.d (natsD R)) st = kP3 st (inD (.int (i : Int)) (natsD R)) := rfl
    refine ⟨_, _, ?_, some (.d (.int (i : Int))), rfl, rfl⟩
    simp_arith [bodyF_eq, Int.zero_add, e2, e3, e4])
  obtain ⟨R, hR, hRl, e2⟩ := reached_ok (P := P) (n + 1) W hWl hWm (fun j => B j ∧ j < L.length) 0 (fun w hw j hj => by
    obtain ⟨x, h1, rfl⟩ := hWg 0 w hw
    exact ⟨(hB 0 x h1 hB0).2 j hj, sil_lt h (List.mem_of_getElem? h1) j hj⟩) (by omega) (fun k ⟨hk, hk2⟩ => ⟨by rw [hlW]; exact hk2, fun w hw j hj => by
    obtain ⟨x, h1, rfl⟩ := hWg k w hw
    exact ⟨(hB k x h1 hk).2 j hj, sil_lt h (List.mem_of_getElem? h1) j hj⟩⟩) st
  have e2 : ev P (n + 2) "reached" [.d (.lst (W.map natsD)), .d (.int 0)] st = some (.ok (.d (natsD R)), st) := e2
  have e5 : binV (P.cfg (ev P (n + 2))) false .add (.d (.lst [.int 0])) (.d (natsD R)) st = some (.ok (.d (natsD (0 :: R))), st) := by
    unfold natsD
    rw [add_lst (by simp only [List.length_map, List.length_cons, List.length_nil]; omega), mkList_f (by simp only [List.length_map, List.length_append, List.length_cons, List.length_nil]; omega), embs_mapd]
    rfl
  simp_arith [e2, e5]
  generalize hc : forF _ _ _ _ _ = z
  obtain ⟨ρ1, st1, rfl, a2, a4, a5, rfl, rfl⟩ := useF hc (fun i ρ s => ∃ a2 a4 a5, ρ = [some (.d (.tup (L.map (lnD false)))), some (.d (.lst (W.map natsD))), a2, some (.d (natsD (0 :: R))), a4, a5] ∧ st = s) ⟨_, _, _, rfl, rfl⟩ (fun _ _ _ _ _ => trivial) (by
    rintro i v ρ s hv ⟨a2, a4, a5, rfl, rfl⟩
    obtain ⟨d, hd, rfl⟩ := get_enum hv
    rw [List.getElem?_map] at hd
    obtain ⟨x, hx, rfl⟩ := Option.map_eq_some_iff.mp hd
    obtain ⟨w, rr, hw, hin⟩ := ends_in false x.2
    rw [Nat.zero_add]
    refine ⟨_, _, ?_, some (.d (.int (i : Int))), some (.d (.str x.1)), some (.d (x.2.raw false)), rfl, rfl⟩
    have e4 : cmpV (P.cfg (ev P (n + 2))) .isin (.d (.int (i : Int))) (.d (natsD (0 :: R))) st = some (.ok (.d (.bl (decide (i ∈ 0 :: R)))), st) := by
      show kP3 st (inD (.int (i : Int)) (natsD (0 :: R))) = _
      rw [in_nats]
      rfl
    by_cases hm : i ∈ 0 :: R
    · have hBi : B i := by
        rcases List.mem_cons.mp hm with rfl | hm
        · exact hB0
        · exact (hR i hm).1
      have he := (hB i x hx hBi).1
      rw [he] at hin
      rw [decide_eq_true hm] at e4
      simp_arith [bodyF_eq, lnD, hw, e4, hin]
    · rw [decide_eq_false hm] at e4
      simp_arith [bodyF_eq, lnD, hw, e4])
  simp_arith [bnd_ok]
  exact leave_next0 rfl
end
end SP

end

section
set_option maxHeartbeats 1000000
namespace SP
open PySem
local macro_rules | `(tactic| simp_arith [$xs,*]) => `(tactic| simp (disch := first | assumption | omega | (with_unfolding_all rfl) | (simp only [List.length_map, List.length_append, List.length_cons, List.length_nil, List.length_range]; omega)) only [g0, gS, s0, sS, gA0, gA, sA0, sA, take_A, noErr_ok, finv, fin_l, finBv, finB_l, finB_t, glob_eq, meth_eq, prop_eq, cls_eq, cfg_call, cfg_glob, cfg_prop, cfg_meth, cfg_cls, List.map_cons, List.map_nil, List.append_assoc, List.cons_append, List.nil_append, List.replicate, Option.map_some, List.length_cons, List.length_nil, Nat.reduceAdd, Nat.reduceSub, Nat.zero_add, decide_true, decide_false, Bool.not_true, Bool.not_false, Its.items, wipeE, kTr_ok, fin_t', fin_tE, tr_bl, tr_int, tr_non, tr_lst, tr_tup, tr_str, tr_loc, kTrL_lst, kTrL_dct, isL_v, isL_l, isL_t, evT_con, evT_var, kVar_ok, evT_glo, kGlo_ok, evT_bin, kBin1_ok, kBin2_ok, evT_neg, kNeg_ok, evT_not_t, evT_not_v, kNotT_ok, kNotV_ok, kNot'_ok, evT_and_t, evT_and_v, evT_and_l, evT_or_t, evT_or_v, evT_or_l, kAndT_t, kAndT_f, kOrT_f, kOrT_t, kAndV_ok, kOrV_ok, kAndV'_t, kAndV'_f, kOrV'_t, kOrV'_f, evT_cmp, kCmp1_ok, kCmp2_ok, evT_chain, kCh1_ok, kCh2_ok, kCh3_t, kCh3_f, evT_ite, kIte_t, kIte_f, evTs_of_nil, evTs_of_cons, kTs1_ok, kTs2_ok, evT_tup, kTup_ok, kTup'_ok, embs_nil, embs_d, embs_loc, kEmb1_ok, kEmb2_ok, emb_d, emb_loc, kEmb_ok, bind_some', toD_lst, kToL_ok, toD_ins, kToO_ok, dats_nil, dats_cons, kDats_ok, datsM, dats_mapd, datf_nil, datf_cons, kDatf_ok, evT_lst, kLst_ok, mkList_t, mkList_f, kMk_ok, embs_mapd, embs_map, evT_dict0, evT_ix, kIx1_ok, kIx2_ok, evT_slc, kSl1_ok, kSl2_ok, kSl3_ok, evO_none, evO_some, kO_ok, evT_rev, kRev_ok, kRev'_ok, evT_fld, kFld_ok, fldV_obj, fldV_loc, kFdL_ok, fdV_eq, kFd_f, kFd_p, lookF_hit, lookF_nil, putF_hit, putF_nil, evT_call, kCall_ok, evT_bi, kBi_1, kBi_2, evT_isin, kIs_ok, kIs'_ok, evT_meth, kMe1_ok, kMe2_own, kMe2_str, kMe2_lst, kMeO_ok, kMeB_ok, callM_eq, kCM_ok, evT_loc, stG_nm, stG_tp, stGs_nil, stGs_cons, kGs_ok, stG_ix, kGi1_ok, kGi2_ok, kGi3_lst, kGi4_d, kGi4_loc, kGi3_dct_d, kGi3_dct_loc, evSs_nil, evSs_cons, kSs_next, kSs_ret, kSs_err, kSs_brk, kSs_cont, evS_ex, kEx_ok, evS_asg, kAsg_ok, kAsg'_ok, kAsg_err, evS_fset, kFs1_ok, kFs2_ok, kFs3_d, kFs3_loc, evS_par, kPar_2, kPar_3, evS_aug, kAug_ok, kAug2_ok, augI_add, augI_sub, evS_ret, kRet_ok, evS_retN, evS_if, kIf_t, kIf_f, kBody_ok, evS_for, kFor_ok, kWh_t, kWh_f, turnW_next, turnW_cont, turnW_brk, turnW_ret, evS_whl, evS_brk, evS_cont, evS_pass, evI_seq, kSeq_ok, kSeq'_ok, evI_enu, kEnu_ok, enumIts_lst, seqIts_lst, seqIts_tup, seqIts_str, seqIts_loc, kSqL_ok, enumIts_loc, kEnL_ok, kEnL'_ok, evI_rng1, evI_rng2, kR2_ok, kC1_ok, kC2_t, kC2_f, kC3_ok, evF_of_nil, evF_of_cons, kF_t, kF_f, kF_b, evT_comp, kCo_ok, kCo2_ok, evT_comp2, kCC_ok, kD1_ok, kD2_t, kD2_f, kD3_ok, add_int, sub_int, mod_int, add_str, mul_str, add_tup, add_lst, bin_loc, bin_lloc, kBP_add, mul_lst, lt_int, le_int, gt_int, ge_int, eq_int, ne_int, is_non, isnot_non, kP1_ok, kP2_ok, kP3_ok, peek_d, peek_loc, cmp_eq_loc, cmp_eq_l, cmp_eq_t, cmpD_eq, cmpD_ne, notin_d, in_loc, notin_loc, kInL_lst, kInL_dct, kInL2_ok, kInL3_f, kInL3_t, inD_lst, inD_tup, inD_ch, inD_dct, ix_lst, ixTup, kAt_ok, ixStr, kAtS_ok, ix_loc, kIxL_lst, kIxL_dct, kAtV_ok, ix_dct, kDk_ok, at0, at1, at2, at3, slcV_eq, kSc_lst, kSc_tup, kSc_str, len_lst, len_tup, len_str, len_loc, kLn_lst, kLn_dct, int_int, int_bl, list_eq, kLi_lst, kLi_tup, tuple_eq, kTu_lst, kTu_tup, sum_lst, all_lst, any_lst, max_lst, min_lst, max_2, min_2, is_loc, kIsL_lst, rcv_str, rcv_lst, bm_join, bm_app, bm_ext, bm_pop, bm_index, rcv_obj, rcv_loc, kRc_lst, kRc_ins, meth_loc, meth_d, app_d, app_loc, ext_d, pop_l, join_l, index_l, index_loc, leave_next, leave_next0, leave_d, leave_d0, leave_loc0, leave_rloc0, keep_next, keep_ret, keep_loc, mul_i64, fdiv_i64, pow_i64, kR1_i, kR3_i, ixN_nat, Int.toNat_natCast, Int.reduceToNat, List.length_map, List.getElem?_map, Int.toNat_zero, Int.toNat_one, ne_eq, Int.cast_ofNat_Int, List.map_map, Int.reducePow, decT, decF, List.map_set, if_true, if_false, Bool.false_eq_true, eq_self, kIte_ii, in_t, in_l, in_s, in_c, ofStr_eq, String.reduceEq, eqv_str, eqv_int, kC2_b, kIf_b, eq_ll, ne_ll, List.any_cons, List.any_nil, List.find?_cons_of_pos, List.find?_cons_of_neg, Bool.or_false, Bool.false_or, Bool.or_true, Bool.true_or, Bool.and_true, Bool.true_and, Bool.and_false, Bool.false_and, Option.map_some, inD_dct, Nat.reduceLeDiff, Nat.reduceEqDiff, ne_eq, not_false_eq_true, not_true_eq_false, List.all_cons, List.all_nil, flat_int, flat_str, flat_non, flat_bl, Int.reduceSub, Int.reduceAdd, Int.natCast_add, Int.cast_ofNat_Int, enumIts_tup, lenS1, take_A, embs_comp, dats_comp, cmp_ne_loc, $xs,*])
def rdD (L : Rdr) : D := .obj "Reader" [("lines", .tup (L.map (lnD false)))]
section
variable {P : Pg} [HFn P "fits_name" PF.f_fits_name] [HsG P "LETTERS" (.str LET)] [HsG P "MOST_VALUE" (.int 5)] [HFn P "fits_ways" PF.f_fits_ways] [HFn P "fits_line" PF.f_fits_line] [HsG P "SIZES" sizesD] [HsG P "LEAST" leastD] [HsG P "GREATEST" greatD] [HFn P "targets_of" PF.f_targets_of]
  [HFn P "silent_ways" PF.f_silent_ways] [HsG P "READING" readingD] [HFn P "reached" PF.f_reached] [HFn P "check_ways" PF.f_check_ways] [HFn P "check_lines" PF.f_check_lines] [HFn P "tidy_line" PF.f_tidy_line] [HsG P "MOST_LINES" (.int 8)]
theorem reader_ok [HsC P "Reader" "Reader.__init__" PF.f_Reader___init__ true] [HsP P "Reader" "lines" none] (n : Nat) (c b : Bool) {L : Rdr} (h : RdOk L) (st : Store) : ev P (n + 4) "Reader" [.d (seqD c (L.map (lnD b)))] st = some (.ok (.d (rdD L)), st) := by
  have hL := h.hi
  have hL0 := h.lo
  refine ev_cls (o := .ins "Reader" [("lines", .d (.tup (L.map (lnD false))))]) (st2 := []) _ _ ?_ rfl
  rw [PF.r_Reader___init__]
  have hln : ∀ st : Store, bi1 false "len" (.d (seqD c (L.map (lnD b)))) st = some (.ok (.d (.int (L.length : Int))), st) := fun st => by
    cases c <;> simp_arith [seqD] <;> simp
  have htr : ∀ st : Store, truthV st (.d (seqD c (L.map (lnD b)))) = some true := fun st => by
    have : decide (L.length ≠ 0) = true := decide_eq_true (by omega)
    cases c <;> simp (disch := first | assumption | omega | (with_unfolding_all rfl) | (simp only [List.length_map, List.length_append, List.length_cons, List.length_nil, List.length_range]; omega)) only [tr_lst, tr_tup, seqD, List.length_map, this, if_true, if_false, Bool.false_eq_true]
  have hsq : ∀ st : Store, seqIts st (.d (seqD c (L.map (lnD b)))) = some (.vs (L.map fun x => .d (lnD b x))) := fun st => by
    cases c <;> simp [seqD, seqIts, List.map_map, Function.comp_def]
  have e1 := check_lines_ok (P := P) n c b h (st ++ [.ins "Reader" []])
  have e2 := check_ways_ok (P := P) n h (st ++ [.ins "Reader" [("lines", .d (.tup (L.map (lnD false))))]])
  have hp : (P.cfg (ev P (n + 3))).prop "Reader" "lines" = some none := prop_eq
  simp_arith [PF.b_Reader___init__, hln, htr, hsq, e1]
  generalize hc : cmpF _ _ _ _ = z
  have h1 := useMap hc L (fun x => .d (lnD b x)) (fun x => .d (lnD false x)) rfl trivial (by
    intro x hx
    have hk := h.ok x hx
    have hl := Ln.tg_len hk
    have e3 := tidy_ok (P := P) (n + 2) b x.2 (by omega) (st ++ [.ins "Reader" []])
    simp_arith [eltC_eq, lnD, e3])
  subst h1
  simp_arith [embs_map, hp, e2]
  exact keep_next rfl
end
/-- a line of a machine -/
inductive Mn where
  | kase (ws : List (Int × Int)) (o : Int) | take (t : Int) | rest (w t : Int) | cap (n t : Int) | jump (n t : Int)
  | set (n t : Int) | upto (n t o : Int) | skip (c t : Int) | cut | refuse
def Mn.d : Mn → D
  | .kase ws o => .tup [.str (S! "case"), .tup (ws.map fun w => .tup [.int w.1, .int w.2]), .int o]
  | .take t => .tup [.str (S! "take"), .int t]
  | .rest w t => .tup [.str (S! "rest"), .int w, .int t]
  | .cap w t => .tup [.str (S! "cap"), .int w, .int t]
  | .jump w t => .tup [.str (S! "jump"), .int w, .int t]
  | .set w t => .tup [.str (S! "set"), .int w, .int t]
  | .upto w t o => .tup [.str (S! "upto"), .int w, .int t, .int o]
  | .skip w t => .tup [.str (S! "skip"), .int w, .int t]
  | .cut => .tup [.str (S! "cut")]
  | .refuse => .tup [.str (S! "refuse")]
def numb (N : List Str) : Ln → Mn
  | .kase ws o => .kase (ws.map fun w => (w.1, (posOf N w.2 : Int))) (posOf N o)
  | .take t => .take (posOf N t)
  | .rest w t => .rest w (posOf N t)
  | .cap w t => .cap w (posOf N t)
  | .jump w t => .jump w (posOf N t)
  | .set w t => .set w (posOf N t)
  | .upto w t o => .upto w (posOf N t) (posOf N o)
  | .skip w t => .skip w (posOf N t)
  | .cut => .cut
  | .refuse => .refuse
def mcD (N : List Str) (M : List Mn) : D := .obj "Machine" [("labels", .tup (N.map .str)), ("lines", .tup (M.map Mn.d))]
section
variable {P : Pg}
theorem index_ok {N : List Str} (hN : ∀ x ∈ N, PyData.strOk x = true) {t : Str} (ht : t ∈ N) (m : Bool) (st : Store) : methD m (.lst (N.map .str)) "index" [.d (.str t)] st = some (.ok (.d (.int (posOf N t : Int))), st) :=
  index_l (shp_str (hN t ht)) (shp_strs hN) ((idx_strs N t).trans (posOf_ok ht).1)
theorem numbered_ok [HFn P "numbered" PF.f_numbered] (n : Nat) {N : List Str} (hN : ∀ x ∈ N, PyData.strOk x = true) (hNl : N.length ≤ 8) {l : Ln} (hk : l.ok) (ht : ∀ t ∈ l.tg, t ∈ N) (st : Store) :
    ev P (n + 1) "numbered" [.d (l.raw false), .d (.lst (N.map .str)), .d (.lst [])] st = some (.ok (.d (numb N l).d), st) := by
  rw [ev_fn, PF.r_numbered]
  cases l with
  | kase ws o =>
    have hw : WaysOk ws := hk
    have hwl := hw.len
    have e0 : ∀ i : Int, inD (.int i) (.lst []) = some false := fun _ => rfl
    simp_arith [PF.b_numbered, Ln.raw, inD_tupE, seqD]
    generalize hc : forF _ _ _ _ _ = z
    obtain ⟨ρ1, st1, rfl, a5, a6, a7, rfl, rfl⟩ := useF hc (fun i ρ s => ∃ a5 a6 a7, ρ = [some (.d (.tup [.str (S! "case"), .tup (ws.map wayD), .str o])), some (.d (.lst (N.map .str))), some (.d (.lst [])), some (.d (.str (S! "case"))), some (.loc st.length), a5, a6, a7, none] ∧ s = st ++ [.lst ((ws.take i).map fun w => .d (.tup [.int w.1, .int (posOf N w.2 : Int)]))]) ⟨none, none, none, rfl, rfl⟩ (fun _ _ _ _ _ => trivial) (by
      rintro i v ρ s hv ⟨a5, a6, a7, rfl, rfl⟩
      obtain ⟨d, hd, rfl⟩ := get_enum hv
      rw [List.getElem?_map] at hd
      obtain ⟨w, hw, rfl⟩ := Option.map_eq_some_iff.mp hd
      have hm : w ∈ ws := List.mem_of_getElem? hw
      have hl2 : (ws.take i).length < 100 := by
        rw [List.length_take]
        omega
      have e1 := index_ok hN (ht w.2 (by simp [Ln.tg]; exact .inl ⟨_, hm⟩)) false (st ++ [.lst ((ws.take i).map fun w => .d (.tup [.int w.1, .int (posOf N w.2 : Int)]))])
      refine ⟨_, _, ?_, some (.d (.int ((0 + i : Nat) : Int))), some (.d (.int w.1)), some (.d (.str w.2)), rfl, rfl⟩
      simp_arith [bodyF_eq, wayD, e0, e1, hw, List.take_add_one, Option.toList_some, List.map_append])
    rw [enum_len, List.length_map, List.take_length]
    have e1 := index_ok hN (ht o (by simp [Ln.tg])) false (st ++ [.lst (ws.map fun w => .d (.tup [.int w.1, .int (posOf N w.2 : Int)]))])
    have e3 : dats (ws.map fun w => Vl.d (.tup [.int w.1, .int (posOf N w.2 : Int)])) = some (ws.map fun w => D.tup [.int w.1, .int (posOf N w.2 : Int)]) := datsM _ _
    simp_arith [e0, e1, e3]
    have e4 : (numb N (.kase ws o)).d = .tup [.str (S! "case"), .tup (ws.map fun w => D.tup [.int w.1, .int (posOf N w.2 : Int)]), .int (posOf N o : Int)] := by
      simp [numb, Mn.d, List.map_map, Function.comp_def]
    rw [e4]
    exact leave_d rfl _ _
  | cut =>
    simp_arith [PF.b_numbered, Ln.raw, inD_tupE]
    exact leave_d0 rfl _
  | refuse =>
    simp_arith [PF.b_numbered, Ln.raw, inD_tupE]
    exact leave_d0 rfl _
  | upto w t o =>
    have e1 := index_ok hN (ht t (by simp [Ln.tg])) false st
    have e2 := index_ok hN (ht o (by simp [Ln.tg])) false st
    simp_arith [PF.b_numbered, Ln.raw, inD_tupE, e1, e2]
    exact leave_d0 rfl _
  | take t =>
    have e1 := index_ok hN (ht t (by simp [Ln.tg])) false st
    simp_arith [PF.b_numbered, Ln.raw, inD_tupE, e1]
    exact leave_d0 rfl _
  | rest w t | cap w t | jump w t | set w t | skip w t =>
    have e1 := index_ok hN (ht t (by simp [Ln.tg])) false st
    simp_arith [PF.b_numbered, Ln.raw, inD_tupE, e1]
    exact leave_d0 rfl _
theorem names_rd [HFn P "Reader.names" PF.f_Reader_names] [HsP P "Reader" "lines" none] (n : Nat) {L : Rdr} (hL : L.length ≤ 100) (st : Store) : ev P (n + 1) "Reader.names" [.d (rdD L)] st = some (.ok (.d (.lst ((nms L).map .str))), st) := by
  rw [ev_fn, PF.r_Reader_names]
  have hp : (P.cfg (ev P n)).prop "Reader" "lines" = some none := prop_eq
  simp_arith [PF.b_Reader_names, rdD, hp]
  generalize hc : cmpF _ _ _ _ = z
  have h1 := useMap hc L (fun x => .d (lnD false x)) (fun x => .d (.str x.1)) (by first | rfl | simp [List.map_map, Function.comp_def]) trivial (by
    intro x hx
    simp_arith [eltC_eq, lnD])
  subst h1
  simp_arith [embs_map]
  have : (L.map fun x => D.str x.1) = (nms L).map .str := by unfold nms; rw [List.map_map]; rfl
  rw [this]
  exact leave_d0 rfl _
theorem compiled_ok [HFn P "numbered" PF.f_numbered] [HFn P "Reader.names" PF.f_Reader_names] [HsM P "Reader" "names" "Reader.names"] [HsP P "Reader" "lines" none] [HFn P "compiled" PF.f_compiled] [HsC P "Machine" "Machine.__init__" PF.f_Machine___init__ true] [HsP P "Machine" "lines" none] [HsP P "Machine" "labels" none]
    (n : Nat) {L : Rdr} (h : RdOk L) (st : Store) : ev P (n + 2) "compiled" [.d (rdD L)] st = some (.ok (.d (mcD (nms L) (L.map fun x => numb (nms L) x.2))), st) := by
  rw [ev_fn, PF.r_compiled_1]
  have hL := h.hi
  have hno : ∀ x ∈ nms L, PyData.strOk x = true := fun x hx => by
    obtain ⟨y, hy, rfl⟩ := List.mem_map.mp hx
    exact (h.nm y hy).ok
  have e1 := names_rd (P := P) n (L := L) (by omega) st
  have hp : (P.cfg (ev P (n + 1))).prop "Reader" "lines" = some none := prop_eq
  have hm : (P.cfg (ev P (n + 1))).meth "Reader" "names" = some "Reader.names" := meth_eq
  have hr : rcv (P.cfg (ev P (n + 1))) "names" st (.d (rdD L)) = some (.own "Reader") := rcv_obj rfl hm
  have hcm : ∀ args st, callM (P.cfg (ev P (n + 1))) "Reader" "names" args st = ev P (n + 1) "Reader.names" args st := fun args st => by
    rw [callM_eq, hm]; rfl
  have hfl : ∀ st, fldV (P.cfg (ev P (n + 1))) (.d (rdD L)) "lines" st = some (.ok (.d (.tup (L.map (lnD false)))), st) := fun st => by
    unfold rdD
    rw [fldV_obj, lookF_hit, fdV_eq, hp]; rfl
  simp_arith [PF.b_compiled, hr, hcm, e1, hfl]
  generalize hc : forF _ _ _ _ _ = z
  obtain ⟨ρ1, st1, rfl, a4, a5, rfl, rfl⟩ := useF hc (fun i ρ s => ∃ a4 a5, ρ = [some (.d (rdD L)), some (.d (.tup [])), some (.d (.lst ((nms L).map .str))), some (.loc st.length), a4, a5, none, none] ∧ s = st ++ [.lst ((L.take i).map fun x => .d (numb (nms L) x.2).d)]) ⟨none, none, rfl, rfl⟩ (fun _ _ _ _ _ => trivial) (by
    rintro i v ρ s hv ⟨a4, a5, rfl, rfl⟩
    simp only [List.getElem?_map, List.map_map] at hv
    obtain ⟨x, hx, rfl⟩ := Option.map_eq_some_iff.mp hv
    have hm : x ∈ L := List.mem_of_getElem? hx
    have hl2 : (L.take i).length < 100 := by
      rw [List.length_take]
      omega
    have e2 := numbered_ok (P := P) n hno (by simpa [nms] using hL) (h.ok x hm) (h.tg x hm) (st ++ [.lst ((L.take i).map fun x => .d (numb (nms L) x.2).d)])
    refine ⟨_, _, ?_, some (.d (.str x.1)), some (.d (x.2.raw false)), rfl, rfl⟩
    simp_arith [bodyF_eq, lnD, Function.comp, cmpF, still_vs, e2, hx, List.take_add_one, Option.toList_some, List.map_append])
  rw [List.length_map, List.take_length]
  have e3 : dats (L.map fun x => Vl.d (numb (nms L) x.2).d) = some (L.map fun x => (numb (nms L) x.2).d) := datsM _ _
  have e4 : ev P (n + 1) "Machine" [.d (.tup ((nms L).map .str)), .d (.tup (L.map fun x => (numb (nms L) x.2).d))] (st ++ [.lst (L.map fun x => .d (numb (nms L) x.2).d)]) = some (.ok (.d (mcD (nms L) (L.map fun x => numb (nms L) x.2))), st ++ [.lst (L.map fun x => .d (numb (nms L) x.2).d)]) := by
    refine ev_cls (o := .ins "Machine" [("labels", .d (.tup ((nms L).map .str))), ("lines", .d (.tup (L.map fun x => (numb (nms L) x.2).d)))]) (st2 := []) _ _ ?_ (by simp [MO.toD, datf, mcD, List.map_map, Function.comp_def])
    rw [PF.r_Machine___init__]
    have h1 : (P.cfg (ev P n)).prop "Machine" "lines" = some none := prop_eq
    have h2 : (P.cfg (ev P n)).prop "Machine" "labels" = some none := prop_eq
    have h3 : "labels" ≠ "lines" := by decide
    generalize st ++ [.lst (L.map fun x => .d (numb (nms L) x.2).d)] = st2
    simp_arith [PF.b_Machine___init__, h1, h2, putF_miss]
    exact keep_next rfl
  simp_arith [e3, e4]
  exact leave_d rfl _ _
end
end SP

end

section
set_option maxHeartbeats 1000000
namespace SP
open PySem
local macro_rules | `(tactic| simp_arith [$xs,*]) => `(tactic| simp (disch := first | assumption | omega | (with_unfolding_all rfl) | (simp only [List.length_map, List.length_append, List.length_cons, List.length_nil, List.length_range]; omega)) only [g0, gS, s0, sS, gA0, gA, sA0, sA, take_A, noErr_ok, finv, fin_l, finBv, finB_l, finB_t, glob_eq, meth_eq, prop_eq, cls_eq, cfg_call, cfg_glob, cfg_prop, cfg_meth, cfg_cls, List.map_cons, List.map_nil, List.append_assoc, List.cons_append, List.nil_append, List.replicate, Option.map_some, List.length_cons, List.length_nil, Nat.reduceAdd, Nat.reduceSub, Nat.zero_add, decide_true, decide_false, Bool.not_true, Bool.not_false, Its.items, wipeE, kTr_ok, fin_t', fin_tE, tr_bl, tr_int, tr_non, tr_lst, tr_tup, tr_str, tr_loc, kTrL_lst, kTrL_dct, isL_v, isL_l, isL_t, evT_con, evT_var, kVar_ok, evT_glo, kGlo_ok, evT_bin, kBin1_ok, kBin2_ok, evT_neg, kNeg_ok, evT_not_t, evT_not_v, kNotT_ok, kNotV_ok, kNot'_ok, evT_and_t, evT_and_v, evT_and_l, evT_or_t, evT_or_v, evT_or_l, kAndT_t, kAndT_f, kOrT_f, kOrT_t, kAndV_ok, kOrV_ok, kAndV'_t, kAndV'_f, kOrV'_t, kOrV'_f, evT_cmp, kCmp1_ok, kCmp2_ok, evT_chain, kCh1_ok, kCh2_ok, kCh3_t, kCh3_f, evT_ite, kIte_t, kIte_f, evTs_of_nil, evTs_of_cons, kTs1_ok, kTs2_ok, evT_tup, kTup_ok, kTup'_ok, embs_nil, embs_d, embs_loc, kEmb1_ok, kEmb2_ok, emb_d, emb_loc, kEmb_ok, bind_some', toD_lst, kToL_ok, toD_ins, kToO_ok, dats_nil, dats_cons, kDats_ok, datsM, dats_mapd, datf_nil, datf_cons, kDatf_ok, evT_lst, kLst_ok, mkList_t, mkList_f, kMk_ok, embs_mapd, embs_map, evT_dict0, evT_ix, kIx1_ok, kIx2_ok, evT_slc, kSl1_ok, kSl2_ok, kSl3_ok, evO_none, evO_some, kO_ok, evT_rev, kRev_ok, kRev'_ok, evT_fld, kFld_ok, fldV_obj, fldV_loc, kFdL_ok, fdV_eq, kFd_f, kFd_p, lookF_hit, lookF_nil, putF_hit, putF_nil, evT_call, kCall_ok, evT_bi, kBi_1, kBi_2, evT_isin, kIs_ok, kIs'_ok, evT_meth, kMe1_ok, kMe2_own, kMe2_str, kMe2_lst, kMeO_ok, kMeB_ok, callM_eq, kCM_ok, evT_loc, stG_nm, stG_tp, stGs_nil, stGs_cons, kGs_ok, stG_ix, kGi1_ok, kGi2_ok, kGi3_lst, kGi4_d, kGi4_loc, kGi3_dct_d, kGi3_dct_loc, evSs_nil, evSs_cons, kSs_next, kSs_ret, kSs_err, kSs_brk, kSs_cont, evS_ex, kEx_ok, evS_asg, kAsg_ok, kAsg'_ok, kAsg_err, evS_fset, kFs1_ok, kFs2_ok, kFs3_d, kFs3_loc, evS_par, kPar_2, kPar_3, evS_aug, kAug_ok, kAug2_ok, augI_add, augI_sub, evS_ret, kRet_ok, evS_retN, evS_if, kIf_t, kIf_f, kBody_ok, evS_for, kFor_ok, kWh_t, kWh_f, turnW_next, turnW_cont, turnW_brk, turnW_ret, evS_whl, evS_brk, evS_cont, evS_pass, evI_seq, kSeq_ok, kSeq'_ok, evI_enu, kEnu_ok, enumIts_lst, seqIts_lst, seqIts_tup, seqIts_str, seqIts_loc, kSqL_ok, enumIts_loc, kEnL_ok, kEnL'_ok, evI_rng1, evI_rng2, kR2_ok, kC1_ok, kC2_t, kC2_f, kC3_ok, evF_of_nil, evF_of_cons, kF_t, kF_f, kF_b, evT_comp, kCo_ok, kCo2_ok, evT_comp2, kCC_ok, kD1_ok, kD2_t, kD2_f, kD3_ok, add_int, sub_int, mod_int, add_str, mul_str, add_tup, add_lst, bin_loc, bin_lloc, kBP_add, mul_lst, lt_int, le_int, gt_int, ge_int, eq_int, ne_int, is_non, isnot_non, kP1_ok, kP2_ok, kP3_ok, peek_d, peek_loc, cmp_eq_loc, cmp_eq_l, cmp_eq_t, cmpD_eq, cmpD_ne, notin_d, in_loc, notin_loc, kInL_lst, kInL_dct, kInL2_ok, kInL3_f, kInL3_t, inD_lst, inD_tup, inD_ch, inD_dct, ix_lst, ixTup, kAt_ok, ixStr, kAtS_ok, ix_loc, kIxL_lst, kIxL_dct, kAtV_ok, ix_dct, kDk_ok, at0, at1, at2, at3, slcV_eq, kSc_lst, kSc_tup, kSc_str, len_lst, len_tup, len_str, len_loc, kLn_lst, kLn_dct, int_int, int_bl, list_eq, kLi_lst, kLi_tup, tuple_eq, kTu_lst, kTu_tup, sum_lst, all_lst, any_lst, max_lst, min_lst, max_2, min_2, is_loc, kIsL_lst, rcv_str, rcv_lst, bm_join, bm_app, bm_ext, bm_pop, bm_index, rcv_obj, rcv_loc, kRc_lst, kRc_ins, meth_loc, meth_d, app_d, app_loc, ext_d, pop_l, join_l, index_l, index_loc, leave_next, leave_next0, leave_d, leave_d0, leave_loc0, leave_rloc0, keep_next, keep_ret, keep_loc, mul_i64, fdiv_i64, pow_i64, kR1_i, kR3_i, ixN_nat, Int.toNat_natCast, Int.reduceToNat, List.length_map, List.getElem?_map, Int.toNat_zero, Int.toNat_one, ne_eq, Int.cast_ofNat_Int, List.map_map, Int.reducePow, decT, decF, List.map_set, if_true, if_false, Bool.false_eq_true, eq_self, kIte_ii, in_t, in_l, in_s, in_c, ofStr_eq, String.reduceEq, eqv_str, eqv_int, kC2_b, kIf_b, eq_ll, ne_ll, List.any_cons, List.any_nil, List.find?_cons_of_pos, List.find?_cons_of_neg, Bool.or_false, Bool.false_or, Bool.or_true, Bool.true_or, Bool.and_true, Bool.true_and, Bool.and_false, Bool.false_and, Option.map_some, inD_dct, Nat.reduceLeDiff, Nat.reduceEqDiff, ne_eq, not_false_eq_true, not_true_eq_false, List.all_cons, List.all_nil, flat_int, flat_str, flat_non, flat_bl, Int.reduceSub, Int.reduceAdd, Int.natCast_add, Int.cast_ofNat_Int, enumIts_tup, lenS1, take_A, embs_comp, dats_comp, cmp_ne_loc, $xs,*])
def kD : Option Int → D
  | none => .non
  | some k => .int k
structure Sta where
  line : Int
  kept : Option Int
  left : Int
def Sta.d (s : Sta) : D := .tup [.int s.line, kD s.kept, .int s.left]
/-- silent lines gone through -/
def setl (M : List Mn) : Nat → Int → Option Int → Bool → Option (Sta × Bool)
  | 0, _, _, _ => none
  | f + 1, line, kept, cut => if line < 0 then some (⟨-1, none, 0⟩, cut) else match M[line.toNat]? with
    | none => none
    | some m => match m with
      | .kase _ _ | .take _ | .rest _ _ | .cap _ _ => some (⟨line, kept, 1⟩, cut)
      | .jump n _ => some (⟨line, kept, n⟩, cut)
      | .skip c t => match kept with
        | none => setl M f (-1) none cut
        | some k => if 0 < k + c then some (⟨line, none, k + c⟩, cut) else if k + c = 0 then setl M f t none cut else setl M f (-1) none cut
      | .set n t => setl M f t (some n) cut
      | .upto n t o => match kept with
        | none => setl M f o none cut
        | some k => if k ≤ n then setl M f t (some k) cut else setl M f o (some k) cut
      | .cut => setl M f 0 none true
      | .refuse => setl M f (-1) kept cut
section
variable {P : Pg} [HsG P "READING" readingD] [HsP P "Machine" "lines" none]
theorem lines_of (N : List Str) (M : List Mn) (n : Nat) (st : Store) : fldV (P.cfg (ev P n)) (.d (mcD N M)) "lines" st = some (.ok (.d (.tup (M.map Mn.d))), st) := by
  have hp : (P.cfg (ev P n)).prop "Machine" "lines" = some none := prop_eq
  unfold mcD
  rw [fldV_obj, lookF_miss _ _ (by decide), lookF_hit, fdV_eq, hp]
  rfl
theorem rd_take : inD (.str (S! "take")) readingD = some true := rfl
theorem rd_rest : inD (.str (S! "rest")) readingD = some true := rfl
theorem rd_cap : inD (.str (S! "cap")) readingD = some true := rfl
theorem rd_jump : inD (.str (S! "jump")) readingD = some true := rfl
theorem rd_case : inD (.str (S! "case")) readingD = some true := rfl
theorem rd_set : inD (.str (S! "set")) readingD = some false := rfl
theorem rd_skip : inD (.str (S! "skip")) readingD = some false := rfl
theorem rd_upto : inD (.str (S! "upto")) readingD = some false := rfl
theorem rd_cut : inD (.str (S! "cut")) readingD = some false := rfl
theorem rd_refuse : inD (.str (S! "refuse")) readingD = some false := rfl
theorem non_non : D.isNon .non = true := rfl
theorem non_int (i : Int) : D.isNon (.int i) = false := rfl
theorem settle_ok [HFn P "settle" PF.f_settle] (n : Nat) (N : List Str) (M : List Mn) {f : Nat} {line : Int} {kept : Option Int} {r : Sta × Bool} (h : setl M f line kept false = some r) (st : Store) :
    ev P (n + 1) "settle" [.d (mcD N M), .d (.int line), .d (kD kept)] st = some (.ok (.d (.tup [r.1.d, .bl r.2])), st) := by
  rw [ev_fn, PF.r_settle]
  simp_arith [PF.b_settle]
  generalize hc : loopM _ _ _ = z
  obtain ⟨q, rfl, hq⟩ := useW hc (fun m ρ s => ∃ (line : Int) (kept : Option Int) (cut : Bool) (a4 a5 a6 : Option Vl), ρ = [some (.d (mcD N M)), some (.d (.int line)), some (.d (kD kept)), some (.d (.bl cut)), a4, a5, a6] ∧ st = s ∧ setl M m line kept cut = some r)
    (fun q => (∃ ρ, q = (.ret (.d (.tup [r.1.d, .bl r.2])), ρ, st)) ∨ (∃ a0 a1 a2 a4 a5 a6, q = (.next, [a0, a1, a2, some (.d (.bl r.2)), a4, a5, a6], st) ∧ r.1 = ⟨-1, none, 0⟩)) f ⟨line, kept, false, none, none, none, rfl, rfl, h⟩ (by
    rintro m ρ s ⟨line, kept, cut, a4, a5, a6, rfl, rfl, hs⟩
    cases m with
    | zero => cases hs
    | succ m =>
      unfold setl at hs
      by_cases hl : line < 0
      · rw [if_pos hl] at hs
        cases hs
        refine .inl ⟨_, _, _, ?_, .inr ⟨some (.d (mcD N M)), some (.d (.int line)), some (.d (kD kept)), a4, a5, a6, rfl, rfl⟩⟩
        simp_arith [stepWh_eq]
      · rw [if_neg hl] at hs
        cases hm : M[line.toNat]? with
        | none => rw [hm] at hs; cases hs
        | some x =>
          rw [hm] at hs
          have hlt := (List.getElem?_eq_some_iff.mp hm).1
          have hat : atI (M.map Mn.d) line = some x.d := by
            rw [atI_nat (by omega) (by rw [List.length_map]; omega), List.getElem?_map, hm]
            rfl
          cases x with
          | kase ws o =>
            cases hs
            refine .inl ⟨_, [some (.d (mcD N M)), some (.d (.int line)), some (.d (kD kept)), some (.d (.bl cut)), some (.d (Mn.d (.kase ws o))), some (.d (.str (S! "case"))), a6], _, ?_, .inl ⟨_, rfl⟩⟩
            simp_arith [stepWh_eq, lines_of, hat, Mn.d, in_reading, rd_case, Sta.d]
          | take t =>
            cases hs
            refine .inl ⟨_, [some (.d (mcD N M)), some (.d (.int line)), some (.d (kD kept)), some (.d (.bl cut)), some (.d (Mn.d (.take t))), some (.d (.str (S! "take"))), a6], _, ?_, .inl ⟨_, rfl⟩⟩
            simp_arith [stepWh_eq, lines_of, hat, Mn.d, in_reading, rd_take, Sta.d]
          | rest w t =>
            cases hs
            refine .inl ⟨_, [some (.d (mcD N M)), some (.d (.int line)), some (.d (kD kept)), some (.d (.bl cut)), some (.d (Mn.d (.rest w t))), some (.d (.str (S! "rest"))), a6], _, ?_, .inl ⟨_, rfl⟩⟩
            simp_arith [stepWh_eq, lines_of, hat, Mn.d, in_reading, rd_rest, Sta.d]
          | cap w t =>
            cases hs
            refine .inl ⟨_, [some (.d (mcD N M)), some (.d (.int line)), some (.d (kD kept)), some (.d (.bl cut)), some (.d (Mn.d (.cap w t))), some (.d (.str (S! "cap"))), a6], _, ?_, .inl ⟨_, rfl⟩⟩
            simp_arith [stepWh_eq, lines_of, hat, Mn.d, in_reading, rd_cap, Sta.d]
          | jump w t =>
            cases hs
            refine .inl ⟨_, [some (.d (mcD N M)), some (.d (.int line)), some (.d (kD kept)), some (.d (.bl cut)), some (.d (Mn.d (.jump w t))), some (.d (.str (S! "jump"))), a6], _, ?_, .inl ⟨_, rfl⟩⟩
            simp_arith [stepWh_eq, lines_of, hat, Mn.d, in_reading, rd_jump, Sta.d]
          | set w t =>
            refine .inr ⟨m, _, _, Nat.lt_succ_self _, ?_, t, some w, cut, some (.d (Mn.d (.set w t))), some (.d (.str (S! "set"))), a6, rfl, rfl, hs⟩
            simp_arith [stepWh_eq, lines_of, hat, Mn.d, in_reading, rd_set, kD]
          | cut =>
            refine .inr ⟨m, _, _, Nat.lt_succ_self _, ?_, 0, none, true, some (.d (Mn.d (.cut))), some (.d (.str (S! "cut"))), a6, rfl, rfl, hs⟩
            simp_arith [stepWh_eq, lines_of, hat, Mn.d, in_reading, rd_cut, kD]
          | refuse =>
            refine .inr ⟨m, _, _, Nat.lt_succ_self _, ?_, -1, kept, cut, some (.d (Mn.d (.refuse))), some (.d (.str (S! "refuse"))), a6, rfl, rfl, hs⟩
            simp_arith [stepWh_eq, lines_of, hat, Mn.d, in_reading, rd_refuse]
          | upto w t o =>
            cases kept with
            | none =>
              refine .inr ⟨m, _, _, Nat.lt_succ_self _, ?_, o, none, cut, some (.d (Mn.d (.upto w t o))), some (.d (.str (S! "upto"))), a6, rfl, rfl, hs⟩
              simp_arith [stepWh_eq, lines_of, hat, Mn.d, in_reading, rd_upto, kD, non_non, non_int]
            | some k =>
              dsimp only at hs
              by_cases hk : k ≤ w
              · rw [if_pos hk] at hs
                refine .inr ⟨m, _, _, Nat.lt_succ_self _, ?_, t, some k, cut, some (.d (Mn.d (.upto w t o))), some (.d (.str (S! "upto"))), a6, rfl, rfl, hs⟩
                simp_arith [stepWh_eq, lines_of, hat, Mn.d, in_reading, rd_upto, kD, non_non, non_int]
              · rw [if_neg hk] at hs
                refine .inr ⟨m, _, _, Nat.lt_succ_self _, ?_, o, some k, cut, some (.d (Mn.d (.upto w t o))), some (.d (.str (S! "upto"))), a6, rfl, rfl, hs⟩
                simp_arith [stepWh_eq, lines_of, hat, Mn.d, in_reading, rd_upto, kD, non_non, non_int]
          | skip w t =>
            cases kept with
            | none =>
              refine .inr ⟨m, _, _, Nat.lt_succ_self _, ?_, -1, none, cut, some (.d (Mn.d (.skip w t))), some (.d (.str (S! "skip"))), some (.d (.int (-1))), rfl, rfl, hs⟩
              simp_arith [stepWh_eq, lines_of, hat, Mn.d, in_reading, rd_skip, kD, non_non, non_int]
            | some k =>
              dsimp only at hs
              by_cases hk : 0 < k + w
              · rw [if_pos hk] at hs
                cases hs
                refine .inl ⟨_, [some (.d (mcD N M)), some (.d (.int line)), some (.d (kD (some k))), some (.d (.bl cut)), some (.d (Mn.d (.skip w t))), some (.d (.str (S! "skip"))), some (.d (.int (k + w)))], _, ?_, .inl ⟨_, rfl⟩⟩
                simp_arith [stepWh_eq, lines_of, hat, Mn.d, in_reading, rd_skip, kD, non_non, non_int, Sta.d]
              · rw [if_neg hk] at hs
                by_cases hz : k + w = 0
                · rw [if_pos hz] at hs
                  refine .inr ⟨m, _, _, Nat.lt_succ_self _, ?_, t, none, cut, some (.d (Mn.d (.skip w t))), some (.d (.str (S! "skip"))), some (.d (.int (k + w))), rfl, rfl, hs⟩
                  simp_arith [stepWh_eq, lines_of, hat, Mn.d, in_reading, rd_skip, kD, non_non, non_int]
                · rw [if_neg hz] at hs
                  refine .inr ⟨m, _, _, Nat.lt_succ_self _, ?_, -1, none, cut, some (.d (Mn.d (.skip w t))), some (.d (.str (S! "skip"))), some (.d (.int (k + w))), rfl, rfl, hs⟩
                  simp_arith [stepWh_eq, lines_of, hat, Mn.d, in_reading, rd_skip, kD, non_non, non_int])
  rcases hq with ⟨ρ, rfl⟩ | ⟨a0, a1, a2, a4, a5, a6, rfl, hr⟩
  · simp_arith [bnd_ok]
    exact leave_d0 rfl _
  · simp_arith [bnd_ok]
    rw [hr]
    exact leave_d0 rfl _
end
end SP

end

section
set_option maxHeartbeats 1000000
namespace SP
open PySem
local macro_rules | `(tactic| simp_arith [$xs,*]) => `(tactic| simp (disch := first | assumption | omega | (with_unfolding_all rfl) | (simp only [List.length_map, List.length_append, List.length_cons, List.length_nil, List.length_range]; omega)) only [g0, gS, s0, sS, gA0, gA, sA0, sA, take_A, noErr_ok, finv, fin_l, finBv, finB_l, finB_t, glob_eq, meth_eq, prop_eq, cls_eq, cfg_call, cfg_glob, cfg_prop, cfg_meth, cfg_cls, List.map_cons, List.map_nil, List.append_assoc, List.cons_append, List.nil_append, List.replicate, Option.map_some, List.length_cons, List.length_nil, Nat.reduceAdd, Nat.reduceSub, Nat.zero_add, decide_true, decide_false, Bool.not_true, Bool.not_false, Its.items, wipeE, kTr_ok, fin_t', fin_tE, tr_bl, tr_int, tr_non, tr_lst, tr_tup, tr_str, tr_loc, kTrL_lst, kTrL_dct, isL_v, isL_l, isL_t, evT_con, evT_var, kVar_ok, evT_glo, kGlo_ok, evT_bin, kBin1_ok, kBin2_ok, evT_neg, kNeg_ok, evT_not_t, evT_not_v, kNotT_ok, kNotV_ok, kNot'_ok, evT_and_t, evT_and_v, evT_and_l, evT_or_t, evT_or_v, evT_or_l, kAndT_t, kAndT_f, kOrT_f, kOrT_t, kAndV_ok, kOrV_ok, kAndV'_t, kAndV'_f, kOrV'_t, kOrV'_f, evT_cmp, kCmp1_ok, kCmp2_ok, evT_chain, kCh1_ok, kCh2_ok, kCh3_t, kCh3_f, evT_ite, kIte_t, kIte_f, evTs_of_nil, evTs_of_cons, kTs1_ok, kTs2_ok, evT_tup, kTup_ok, kTup'_ok, embs_nil, embs_d, embs_loc, kEmb1_ok, kEmb2_ok, emb_d, emb_loc, kEmb_ok, bind_some', toD_lst, kToL_ok, toD_ins, kToO_ok, dats_nil, dats_cons, kDats_ok, datsM, dats_mapd, datf_nil, datf_cons, kDatf_ok, evT_lst, kLst_ok, mkList_t, mkList_f, kMk_ok, embs_mapd, embs_map, evT_dict0, evT_ix, kIx1_ok, kIx2_ok, evT_slc, kSl1_ok, kSl2_ok, kSl3_ok, evO_none, evO_some, kO_ok, evT_rev, kRev_ok, kRev'_ok, evT_fld, kFld_ok, fldV_obj, fldV_loc, kFdL_ok, fdV_eq, kFd_f, kFd_p, lookF_hit, lookF_nil, putF_hit, putF_nil, evT_call, kCall_ok, evT_bi, kBi_1, kBi_2, evT_isin, kIs_ok, kIs'_ok, evT_meth, kMe1_ok, kMe2_own, kMe2_str, kMe2_lst, kMeO_ok, kMeB_ok, callM_eq, kCM_ok, evT_loc, stG_nm, stG_tp, stGs_nil, stGs_cons, kGs_ok, stG_ix, kGi1_ok, kGi2_ok, kGi3_lst, kGi4_d, kGi4_loc, kGi3_dct_d, kGi3_dct_loc, evSs_nil, evSs_cons, kSs_next, kSs_ret, kSs_err, kSs_brk, kSs_cont, evS_ex, kEx_ok, evS_asg, kAsg_ok, kAsg'_ok, kAsg_err, evS_fset, kFs1_ok, kFs2_ok, kFs3_d, kFs3_loc, evS_par, kPar_2, kPar_3, evS_aug, kAug_ok, kAug2_ok, augI_add, augI_sub, evS_ret, kRet_ok, evS_retN, evS_if, kIf_t, kIf_f, kBody_ok, evS_for, kFor_ok, kWh_t, kWh_f, turnW_next, turnW_cont, turnW_brk, turnW_ret, evS_whl, evS_brk, evS_cont, evS_pass, evI_seq, kSeq_ok, kSeq'_ok, evI_enu, kEnu_ok, enumIts_lst, seqIts_lst, seqIts_tup, seqIts_str, seqIts_loc, kSqL_ok, enumIts_loc, kEnL_ok, kEnL'_ok, evI_rng1, evI_rng2, kR2_ok, kC1_ok, kC2_t, kC2_f, kC3_ok, evF_of_nil, evF_of_cons, kF_t, kF_f, kF_b, evT_comp, kCo_ok, kCo2_ok, evT_comp2, kCC_ok, kD1_ok, kD2_t, kD2_f, kD3_ok, add_int, sub_int, mod_int, add_str, mul_str, add_tup, add_lst, bin_loc, bin_lloc, kBP_add, mul_lst, lt_int, le_int, gt_int, ge_int, eq_int, ne_int, is_non, isnot_non, kP1_ok, kP2_ok, kP3_ok, peek_d, peek_loc, cmp_eq_loc, cmp_eq_l, cmp_eq_t, cmpD_eq, cmpD_ne, notin_d, in_loc, notin_loc, kInL_lst, kInL_dct, kInL2_ok, kInL3_f, kInL3_t, inD_lst, inD_tup, inD_ch, inD_dct, ix_lst, ixTup, kAt_ok, ixStr, kAtS_ok, ix_loc, kIxL_lst, kIxL_dct, kAtV_ok, ix_dct, kDk_ok, at0, at1, at2, at3, slcV_eq, kSc_lst, kSc_tup, kSc_str, len_lst, len_tup, len_str, len_loc, kLn_lst, kLn_dct, int_int, int_bl, list_eq, kLi_lst, kLi_tup, tuple_eq, kTu_lst, kTu_tup, sum_lst, all_lst, any_lst, max_lst, min_lst, max_2, min_2, is_loc, kIsL_lst, rcv_str, rcv_lst, bm_join, bm_app, bm_ext, bm_pop, bm_index, rcv_obj, rcv_loc, kRc_lst, kRc_ins, meth_loc, meth_d, app_d, app_loc, ext_d, pop_l, join_l, index_l, index_loc, leave_next, leave_next0, leave_d, leave_d0, leave_loc0, leave_rloc0, keep_next, keep_ret, keep_loc, mul_i64, fdiv_i64, pow_i64, kR1_i, kR3_i, ixN_nat, Int.toNat_natCast, Int.reduceToNat, List.length_map, List.getElem?_map, Int.toNat_zero, Int.toNat_one, ne_eq, Int.cast_ofNat_Int, List.map_map, Int.reducePow, decT, decF, List.map_set, if_true, if_false, Bool.false_eq_true, eq_self, kIte_ii, in_t, in_l, in_s, in_c, ofStr_eq, String.reduceEq, eqv_str, eqv_int, kC2_b, kIf_b, eq_ll, ne_ll, List.any_cons, List.any_nil, List.find?_cons_of_pos, List.find?_cons_of_neg, Bool.or_false, Bool.false_or, Bool.or_true, Bool.true_or, Bool.and_true, Bool.true_and, Bool.and_false, Bool.false_and, Option.map_some, inD_dct, Nat.reduceLeDiff, Nat.reduceEqDiff, ne_eq, not_false_eq_true, not_true_eq_false, List.all_cons, List.all_nil, flat_int, flat_str, flat_non, flat_bl, Int.reduceSub, Int.reduceAdd, Int.natCast_add, Int.cast_ofNat_Int, enumIts_tup, lenS1, take_A, embs_comp, dats_comp, cmp_ne_loc, $xs,*])
theorem useFr {s : Its} {body : Vl → Env → Store → RS} {vs : List Vl} {ρ : Env} {st : Store} {z : RS} (hc : forF s body vs ρ st = z) (I : List Vl → Env → Store → Prop) (Q : Fl × Env × Store → Prop) (h0 : I vs ρ st)
    (step : ∀ v r ρ st, I (v :: r) ρ st → s.still st ∧ ((∃ ρ1 st1, (body v ρ st = some (.next, ρ1, st1) ∨ body v ρ st = some (.cont, ρ1, st1)) ∧ I r ρ1 st1) ∨ (∃ ρ1 st1, body v ρ st = some (.brk, ρ1, st1) ∧ Q (.next, ρ1, st1)) ∨ (∃ x ρ1 st1, body v ρ st = some (.ret x, ρ1, st1) ∧ Q (.ret x, ρ1, st1)) ∨ (∃ x ρ1 st1, body v ρ st = some (.err x, ρ1, st1) ∧ Q (.err x, ρ1, st1))))
    (nil : ∀ ρ st, I [] ρ st → s.still st ∧ Q (.next, ρ, st)) : ∃ r, z = some r ∧ Q r := by
  subst hc
  exact forF_rule I step nil vs ρ st h0
def exitOf : List (Int × Int) → Int → Nat
  | [], _ => 0
  | w :: r, c => if w.1 = c then 0 else exitOf r c + 1
theorem exit_cons (w : Int × Int) (r : List (Int × Int)) (c : Int) : exitOf (w :: r) c = if w.1 = c then 0 else exitOf r c + 1 := rfl
theorem exitOf_le : ∀ (ws : List (Int × Int)) (c : Int), exitOf ws c ≤ ws.length
  | [], _ => Nat.le_refl _
  | w :: r, c => by
    unfold exitOf
    split
    · exact Nat.zero_le _
    · rw [List.length_cons]; have := exitOf_le r c; omega
def wyD (w : Int × Int) : D := .tup [.int w.1, .int w.2]
/-- the way of a case line -/
def wayOf (ws : List (Int × Int)) (o c : Int) : Int := match ws[exitOf ws c]? with
  | some w => w.2
  | none => o
/-- a cell read by a line, or skipped: the state behind, a cut, the rule -/
def stepM (M : List Mn) (f : Nat) (s : Sta) (c : Int) : Option (Sta × Bool × Option Int) :=
  if s.line < 0 then some (s, false, none) else match M[s.line.toNat]? with
  | none => none
  | some m => match m with
    | .kase ws o => if 1 < s.left then some (⟨s.line, s.kept, s.left - 1⟩, false, some 0) else match setl M f (wayOf ws o c) s.kept false with
      | some (s', b) => some (s', b, some (exitOf ws c : Int))
      | none => none
    | .take t => if 1 < s.left then some (⟨s.line, s.kept, s.left - 1⟩, false, some 0) else match setl M f t (some c) false with
      | some (s', b) => some (s', b, some 0)
      | none => none
    | .rest w t => if 1 < s.left then some (⟨s.line, s.kept, s.left - 1⟩, false, some 0) else if 0 < w then match setl M f t (some (c % w)) false with
      | some (s', b) => some (s', b, some 0)
      | none => none else none
    | .cap w t => if 1 < s.left then some (⟨s.line, s.kept, s.left - 1⟩, false, some 0) else match setl M f t (some (if w < c then w else c)) false with
      | some (s', b) => some (s', b, some 0)
      | none => none
    | .jump w t => if 1 < s.left then some (⟨s.line, s.kept, s.left - 1⟩, false, if s.left = w then some 0 else none) else match setl M f t s.kept false with
      | some (s', b) => some (s', b, if s.left = w then some 0 else none)
      | none => none
    | .skip w t => if 1 < s.left then some (⟨s.line, s.kept, s.left - 1⟩, false, none) else match setl M f t s.kept false with
      | some (s', b) => some (s', b, none)
      | none => none
    | _ => none
section
variable {P : Pg}
theorem exit_ok [HFn P "exit_of" PF.f_exit_of] (n : Nat) (ws : List (Int × Int)) (c : Int) (st : Store) : ev P (n + 1) "exit_of" [.d (.tup (ws.map wyD)), .d (.int c)] st = some (.ok (.d (.int (exitOf ws c : Int))), st) := by
  rw [ev_fn, PF.r_exit_of]
  simp_arith [PF.b_exit_of]
  generalize hc : forF _ _ _ _ _ = z
  obtain ⟨q, rfl, hq⟩ := useFr hc (fun vs ρ s => ∃ (k : Nat) (us : List (Int × Int)) (a2 a3 a4 : Option Vl), vs = enumV k (us.map wyD) ∧ ρ = [some (.d (.tup (ws.map wyD))), some (.d (.int c)), a2, a3, a4] ∧ st = s ∧ k + exitOf us c = exitOf ws c ∧ k + us.length = ws.length)
    (fun q => (∃ ρ, q = (.ret (.d (.int (exitOf ws c : Int))), ρ, st)) ∨ (exitOf ws c = ws.length ∧ ∃ a1 a2 a3 a4, q = (.next, [some (.d (.tup (ws.map wyD))), a1, a2, a3, a4], st))) ⟨0, ws, none, none, none, rfl, rfl, rfl, by omega, by omega⟩ (by
    rintro v r ρ s ⟨k, us, a2, a3, a4, hv, rfl, rfl, h1, h2⟩
    cases us with
    | nil => cases hv
    | cons w us =>
      rw [List.map_cons] at hv
      unfold enumV at hv
      cases hv
      refine ⟨trivial, ?_⟩
      rw [exit_cons] at h1
      by_cases hw : w.1 = c
      · rw [if_pos hw] at h1
        rw [Nat.add_zero] at h1
        rw [← h1]
        refine .inr (.inr (.inl ⟨_, [some (.d (.tup (ws.map wyD))), some (.d (.int c)), some (.d (.int (k : Int))), some (.d (.int w.1)), some (.d (.int w.2))], _, ?_, .inl ⟨_, rfl⟩⟩))
        simp_arith [bodyF_eq, wyD]
      · rw [if_neg hw] at h1
        rw [List.length_cons] at h2
        refine .inl ⟨_, _, .inl ?_, k + 1, us, some (.d (.int (k : Int))), some (.d (.int w.1)), some (.d (.int w.2)), rfl, rfl, rfl, by omega, by omega⟩
        simp_arith [bodyF_eq, wyD])
    (by
    rintro ρ s ⟨k, us, a2, a3, a4, hv, rfl, rfl, h1, h2⟩
    refine ⟨trivial, .inr ⟨?_, _, _, _, _, rfl⟩⟩
    cases us with
    | nil =>
      simp only [exitOf, List.length_nil] at h1 h2
      omega
    | cons w us => cases hv)
  rcases hq with ⟨ρ, rfl⟩ | ⟨he, a1, a2, a3, a4, rfl⟩
  · simp_arith [bnd_ok]
    exact leave_d0 rfl _
  · rw [he]
    simp_arith [bnd_ok]
    exact leave_d0 rfl _
/-- what is kept -/
def keepM (m : Mn) (kept : Option Int) (c : Int) : Option Int := match m with
  | .take _ => some c
  | .rest w _ => some (c % w)
  | .cap w _ => some (if w < c then w else c)
  | _ => kept
theorem kept_ok [HFn P "kept_by" PF.f_kept_by] (n : Nat) (m : Mn) (hm : ∀ w t, m = .rest w t → 0 < w) (kept : Option Int) (c : Int) (st : Store) : ev P (n + 1) "kept_by" [.d m.d, .d (kD kept), .d (.int c)] st = some (.ok (.d (kD (keepM m kept c))), st) := by
  rw [ev_fn, PF.r_kept_by]
  cases m with
  | rest w t =>
    have hw := hm w t rfl
    simp_arith [PF.b_kept_by, Mn.d]
    exact leave_d0 rfl _
  | _ =>
    simp_arith [PF.b_kept_by, Mn.d]
    exact leave_d0 rfl _
theorem ne_int' {G : Cfg} {st : Store} (i j : Int) : cmpV G .eq (.d (.int i)) (.d (.int j)) st = some (.ok (.d (.bl (decide (i = j)))), st) := rfl
theorem step_ok [HsG P "READING" readingD] [HsP P "Machine" "lines" none] [HFn P "settle" PF.f_settle] [HFn P "exit_of" PF.f_exit_of] [HFn P "kept_by" PF.f_kept_by] [HFn P "step" PF.f_step] (n : Nat) (N : List Str) (M : List Mn) {f : Nat} {s : Sta} {c : Int} {r : Sta × Bool × Option Int} (h : stepM M f s c = some r) (st : Store) :
    ev P (n + 2) "step" [.d (mcD N M), .d s.d, .d (.int c)] st = some (.ok (.d (.tup [r.1.d, .bl r.2.1, kD r.2.2])), st) := by
  rw [ev_fn, PF.r_step]
  obtain ⟨line, kept, left⟩ := s
  unfold stepM at h
  dsimp only at h
  by_cases hl : line < 0
  · rw [if_pos hl] at h
    cases h
    simp_arith [PF.b_step, Sta.d]
    exact leave_d0 rfl _
  · rw [if_neg hl] at h
    cases hm : M[line.toNat]? with
    | none => rw [hm] at h; cases h
    | some x =>
      rw [hm] at h
      have hlt := (List.getElem?_eq_some_iff.mp hm).1
      have hat : atI (M.map Mn.d) line = some x.d := by
        rw [atI_nat (by omega) (by rw [List.length_map]; omega), List.getElem?_map, hm]
        rfl
      have hk : ∀ w t, x = .rest w t → 0 < w ∨ 1 < left := fun w t e => by
        subst e
        by_cases h1 : 1 < left
        · exact .inr h1
        · dsimp only at h
          rw [if_neg h1] at h
          by_cases h2 : 0 < w
          · exact .inl h2
          · rw [if_neg h2] at h; cases h
      by_cases h1 : 1 < left
      · cases x with
        | jump w t =>
          dsimp only at h
          rw [if_pos h1] at h
          cases h
          by_cases hj : left = w
          · rw [if_pos hj]
            simp_arith [PF.b_step, Sta.d, lines_of, hat, Mn.d]
            exact leave_d0 rfl _
          · rw [if_neg hj]
            simp_arith [PF.b_step, Sta.d, lines_of, hat, Mn.d]
            exact leave_d0 rfl _
        | kase _ _ | take _ | rest _ _ | cap _ _ | skip _ _ =>
          dsimp only at h
          rw [if_pos h1] at h
          cases h
          simp_arith [PF.b_step, Sta.d, lines_of, hat, Mn.d]
          exact leave_d0 rfl _
        | _ => cases h
      · cases x with
        | kase ws o =>
          dsimp only at h
          rw [if_neg h1] at h
          cases hs : setl M f (wayOf ws o c) kept false with
          | none => rw [hs] at h; cases h
          | some q =>
            obtain ⟨s', b⟩ := q
            rw [hs] at h
            cases h
            have e1 := settle_ok (P := P) n N M hs st
            have e2 := exit_ok (P := P) n ws c st
            have e3 := kept_ok (P := P) n (.kase ws o) (fun w t e => by cases e) kept c st
            have e5 : (ws.map fun w => D.tup [.int w.1, .int w.2]) = ws.map wyD := rfl
            rw [show (Mn.kase ws o).d = .tup [.str (S! "case"), .tup (ws.map wyD), .int o] from rfl] at e3 hat
            by_cases hx : exitOf ws c < ws.length
            · have hw : ws[exitOf ws c]? = some ws[exitOf ws c] := List.getElem?_eq_getElem hx
              have hat2 : atI (ws.map wyD) (exitOf ws c : Int) = some (.tup [.int ws[exitOf ws c].1, .int ws[exitOf ws c].2]) := by
                rw [atI_nat (by omega) (by rw [List.length_map]; omega), Int.toNat_natCast, List.getElem?_map, hw]
                rfl
              have hwo : wayOf ws o c = ws[exitOf ws c].2 := by unfold wayOf; rw [hw]
              rw [hwo] at e1
              simp_arith [PF.b_step, Sta.d, lines_of, hat, e1, e2, e3, hat2, keepM]
              exact leave_d0 rfl _
            · have hw : ws[exitOf ws c]? = none := List.getElem?_eq_none (by omega)
              have hwo : wayOf ws o c = o := by unfold wayOf; rw [hw]
              rw [hwo] at e1
              simp_arith [PF.b_step, Sta.d, lines_of, hat, e1, e2, e3, keepM]
              exact leave_d0 rfl _
        | jump w t =>
          dsimp only at h
          rw [if_neg h1] at h
          cases hs : setl M f t kept false with
          | none => rw [hs] at h; cases h
          | some q =>
            obtain ⟨s', b⟩ := q
            rw [hs] at h
            cases h
            have e1 := settle_ok (P := P) n N M hs st
            have e3 := kept_ok (P := P) n (.jump w t) (fun w t e => by cases e) kept c st
            rw [show (Mn.jump w t).d = .tup [.str (S! "jump"), .int w, .int t] from rfl] at e3 hat
            by_cases hj : left = w
            · rw [if_pos hj]
              simp_arith [PF.b_step, Sta.d, lines_of, hat, e1, e3, keepM]
              exact leave_d0 rfl _
            · rw [if_neg hj]
              simp_arith [PF.b_step, Sta.d, lines_of, hat, e1, e3, keepM]
              exact leave_d0 rfl _
        | take t =>
          dsimp only at h
          rw [if_neg h1] at h
          cases hs : setl M f t (some c) false with
          | none => rw [hs] at h; cases h
          | some q =>
            obtain ⟨s', b⟩ := q
            rw [hs] at h
            cases h
            have e1 := settle_ok (P := P) n N M hs st
            have e3 := kept_ok (P := P) n (.take t) (fun w t e => by cases e) kept c st
            rw [show (Mn.take t).d = .tup [.str (S! "take"), .int t] from rfl] at e3 hat
            simp_arith [PF.b_step, Sta.d, lines_of, hat, e1, e3, keepM]
            exact leave_d0 rfl _
        | skip w t =>
          dsimp only at h
          rw [if_neg h1] at h
          cases hs : setl M f t kept false with
          | none => rw [hs] at h; cases h
          | some q =>
            obtain ⟨s', b⟩ := q
            rw [hs] at h
            cases h
            have e1 := settle_ok (P := P) n N M hs st
            have e3 := kept_ok (P := P) n (.skip w t) (fun w t e => by cases e) kept c st
            rw [show (Mn.skip w t).d = .tup [.str (S! "skip"), .int w, .int t] from rfl] at e3 hat
            simp_arith [PF.b_step, Sta.d, lines_of, hat, e1, e3, keepM]
            exact leave_d0 rfl _
        | cap w t =>
          dsimp only at h
          rw [if_neg h1] at h
          cases hs : setl M f t (some (if w < c then w else c)) false with
          | none => rw [hs] at h; cases h
          | some q =>
            obtain ⟨s', b⟩ := q
            rw [hs] at h
            cases h
            have e1 := settle_ok (P := P) n N M hs st
            have e3 := kept_ok (P := P) n (.cap w t) (fun w t e => by cases e) kept c st
            rw [show (Mn.cap w t).d = .tup [.str (S! "cap"), .int w, .int t] from rfl] at e3 hat
            simp_arith [PF.b_step, Sta.d, lines_of, hat, e1, e3, keepM]
            exact leave_d0 rfl _
        | rest w t =>
          dsimp only at h
          rw [if_neg h1] at h
          have hw : 0 < w := (hk w t rfl).resolve_right h1
          rw [if_pos hw] at h
          cases hs : setl M f t (some (c % w)) false with
          | none => rw [hs] at h; cases h
          | some q =>
            obtain ⟨s', b⟩ := q
            rw [hs] at h
            cases h
            have e1 := settle_ok (P := P) n N M hs st
            have e3 := kept_ok (P := P) n (.rest w t) (fun w t e => by cases e; exact hw) kept c st
            rw [show (Mn.rest w t).d = .tup [.str (S! "rest"), .int w, .int t] from rfl] at e3 hat
            simp_arith [PF.b_step, Sta.d, lines_of, hat, e1, e3, keepM]
            exact leave_d0 rfl _
        | _ => cases h
end
end SP

end

section
set_option maxHeartbeats 1000000
namespace SP
open PySem
local macro_rules | `(tactic| simp_arith [$xs,*]) => `(tactic| simp (disch := first | assumption | omega | (with_unfolding_all rfl) | (simp only [List.length_map, List.length_append, List.length_cons, List.length_nil, List.length_range]; omega)) only [g0, gS, s0, sS, gA0, gA, sA0, sA, take_A, noErr_ok, finv, fin_l, finBv, finB_l, finB_t, glob_eq, meth_eq, prop_eq, cls_eq, cfg_call, cfg_glob, cfg_prop, cfg_meth, cfg_cls, List.map_cons, List.map_nil, List.append_assoc, List.cons_append, List.nil_append, List.replicate, Option.map_some, List.length_cons, List.length_nil, Nat.reduceAdd, Nat.reduceSub, Nat.zero_add, decide_true, decide_false, Bool.not_true, Bool.not_false, Its.items, wipeE, kTr_ok, fin_t', fin_tE, tr_bl, tr_int, tr_non, tr_lst, tr_tup, tr_str, tr_loc, kTrL_lst, kTrL_dct, isL_v, isL_l, isL_t, evT_con, evT_var, kVar_ok, evT_glo, kGlo_ok, evT_bin, kBin1_ok, kBin2_ok, evT_neg, kNeg_ok, evT_not_t, evT_not_v, kNotT_ok, kNotV_ok, kNot'_ok, evT_and_t, evT_and_v, evT_and_l, evT_or_t, evT_or_v, evT_or_l, kAndT_t, kAndT_f, kOrT_f, kOrT_t, kAndV_ok, kOrV_ok, kAndV'_t, kAndV'_f, kOrV'_t, kOrV'_f, evT_cmp, kCmp1_ok, kCmp2_ok, evT_chain, kCh1_ok, kCh2_ok, kCh3_t, kCh3_f, evT_ite, kIte_t, kIte_f, evTs_of_nil, evTs_of_cons, kTs1_ok, kTs2_ok, evT_tup, kTup_ok, kTup'_ok, embs_nil, embs_d, embs_loc, kEmb1_ok, kEmb2_ok, emb_d, emb_loc, kEmb_ok, bind_some', toD_lst, kToL_ok, toD_ins, kToO_ok, dats_nil, dats_cons, kDats_ok, datsM, dats_mapd, datf_nil, datf_cons, kDatf_ok, evT_lst, kLst_ok, mkList_t, mkList_f, kMk_ok, embs_mapd, embs_map, evT_dict0, evT_ix, kIx1_ok, kIx2_ok, evT_slc, kSl1_ok, kSl2_ok, kSl3_ok, evO_none, evO_some, kO_ok, evT_rev, kRev_ok, kRev'_ok, evT_fld, kFld_ok, fldV_obj, fldV_loc, kFdL_ok, fdV_eq, kFd_f, kFd_p, lookF_hit, lookF_nil, putF_hit, putF_nil, evT_call, kCall_ok, evT_bi, kBi_1, kBi_2, evT_isin, kIs_ok, kIs'_ok, evT_meth, kMe1_ok, kMe2_own, kMe2_str, kMe2_lst, kMeO_ok, kMeB_ok, callM_eq, kCM_ok, evT_loc, stG_nm, stG_tp, stGs_nil, stGs_cons, kGs_ok, stG_ix, kGi1_ok, kGi2_ok, kGi3_lst, kGi4_d, kGi4_loc, kGi3_dct_d, kGi3_dct_loc, evSs_nil, evSs_cons, kSs_next, kSs_ret, kSs_err, kSs_brk, kSs_cont, evS_ex, kEx_ok, evS_asg, kAsg_ok, kAsg'_ok, kAsg_err, evS_fset, kFs1_ok, kFs2_ok, kFs3_d, kFs3_loc, evS_par, kPar_2, kPar_3, evS_aug, kAug_ok, kAug2_ok, augI_add, augI_sub, evS_ret, kRet_ok, evS_retN, evS_if, kIf_t, kIf_f, kBody_ok, evS_for, kFor_ok, kWh_t, kWh_f, turnW_next, turnW_cont, turnW_brk, turnW_ret, evS_whl, evS_brk, evS_cont, evS_pass, evI_seq, kSeq_ok, kSeq'_ok, evI_enu, kEnu_ok, enumIts_lst, seqIts_lst, seqIts_tup, seqIts_str, seqIts_loc, kSqL_ok, enumIts_loc, kEnL_ok, kEnL'_ok, evI_rng1, evI_rng2, kR2_ok, kC1_ok, kC2_t, kC2_f, kC3_ok, evF_of_nil, evF_of_cons, kF_t, kF_f, kF_b, evT_comp, kCo_ok, kCo2_ok, evT_comp2, kCC_ok, kD1_ok, kD2_t, kD2_f, kD3_ok, add_int, sub_int, mod_int, add_str, mul_str, add_tup, add_lst, bin_loc, bin_lloc, kBP_add, mul_lst, lt_int, le_int, gt_int, ge_int, eq_int, ne_int, is_non, isnot_non, kP1_ok, kP2_ok, kP3_ok, peek_d, peek_loc, cmp_eq_loc, cmp_eq_l, cmp_eq_t, cmpD_eq, cmpD_ne, notin_d, in_loc, notin_loc, kInL_lst, kInL_dct, kInL2_ok, kInL3_f, kInL3_t, inD_lst, inD_tup, inD_ch, inD_dct, ix_lst, ixTup, kAt_ok, ixStr, kAtS_ok, ix_loc, kIxL_lst, kIxL_dct, kAtV_ok, ix_dct, kDk_ok, at0, at1, at2, at3, slcV_eq, kSc_lst, kSc_tup, kSc_str, len_lst, len_tup, len_str, len_loc, kLn_lst, kLn_dct, int_int, int_bl, list_eq, kLi_lst, kLi_tup, tuple_eq, kTu_lst, kTu_tup, sum_lst, all_lst, any_lst, max_lst, min_lst, max_2, min_2, is_loc, kIsL_lst, rcv_str, rcv_lst, bm_join, bm_app, bm_ext, bm_pop, bm_index, rcv_obj, rcv_loc, kRc_lst, kRc_ins, meth_loc, meth_d, app_d, app_loc, ext_d, pop_l, join_l, index_l, index_loc, leave_next, leave_next0, leave_d, leave_d0, leave_loc0, leave_rloc0, keep_next, keep_ret, keep_loc, mul_i64, fdiv_i64, pow_i64, kR1_i, kR3_i, ixN_nat, Int.toNat_natCast, Int.reduceToNat, List.length_map, List.getElem?_map, Int.toNat_zero, Int.toNat_one, ne_eq, Int.cast_ofNat_Int, List.map_map, Int.reducePow, decT, decF, List.map_set, if_true, if_false, Bool.false_eq_true, eq_self, kIte_ii, in_t, in_l, in_s, in_c, ofStr_eq, String.reduceEq, eqv_str, eqv_int, kC2_b, kIf_b, eq_ll, ne_ll, List.any_cons, List.any_nil, List.find?_cons_of_pos, List.find?_cons_of_neg, Bool.or_false, Bool.false_or, Bool.or_true, Bool.true_or, Bool.and_true, Bool.true_and, Bool.and_false, Bool.false_and, Option.map_some, inD_dct, Nat.reduceLeDiff, Nat.reduceEqDiff, ne_eq, not_false_eq_true, not_true_eq_false, List.all_cons, List.all_nil, flat_int, flat_str, flat_non, flat_bl, Int.reduceSub, Int.reduceAdd, Int.natCast_add, Int.cast_ofNat_Int, enumIts_tup, lenS1, take_A, embs_comp, dats_comp, cmp_ne_loc, $xs,*])
structure Trc where
  cuts : List Int
  ref : Option Int
  used : List (Int × Int)
def cutL1 (b : Bool) (p : Nat) : List Int := if b then [(p : Int) + 1] else []
def useL1 (line : Int) : Option Int → List (Int × Int)
  | none => []
  | some k => [(line, k)]
def traceM (M : List Mn) (f : Nat) : Sta → List Int → Nat → Option Trc
  | _, [], _ => some ⟨[], none, []⟩
  | s, c :: cs, p => match stepM M f s c with
    | none => none
    | some (s', b, k) => if s'.line < 0 then some ⟨cutL1 b p, some ((p : Int) + 1), useL1 s.line k⟩ else match traceM M f s' cs (p + 1) with
      | none => none
      | some t => some ⟨cutL1 b p ++ t.cuts, t.ref, useL1 s.line k ++ t.used⟩
def useD (w : Int × Int) : D := .tup [.int w.1, .int w.2]
def Trc.d (t : Trc) : D := .tup [.tup (t.cuts.map .int), kD t.ref, .lst (t.used.map useD)]
def beginM (M : List Mn) (f : Nat) : Option Sta := (setl M f 0 none false).map (·.1)
section
variable {P : Pg} [HsG P "READING" readingD] [HsP P "Machine" "lines" none] [HFn P "settle" PF.f_settle] [HFn P "exit_of" PF.f_exit_of] [HFn P "kept_by" PF.f_kept_by] [HFn P "step" PF.f_step]
theorem begin_ok [HFn P "begin" PF.f_begin] (n : Nat) (N : List Str) (M : List Mn) {f : Nat} {s : Sta} (h : beginM M f = some s) (st : Store) : ev P (n + 2) "begin" [.d (mcD N M)] st = some (.ok (.d s.d), st) := by
  rw [ev_fn, PF.r_begin]
  unfold beginM at h
  obtain ⟨r, hr, rfl⟩ := Option.map_eq_some_iff.mp h
  have e1 : ev P (n + 1) "settle" [.d (mcD N M), .d (.int 0), .d .non] st = some (.ok (.d (.tup [r.1.d, .bl r.2])), st) := settle_ok (P := P) n N M hr st
  simp_arith [PF.b_begin, e1]
  exact leave_d0 rfl _
theorem isNon_k (k : Option Int) : (kD k).isNon = !k.isSome := by cases k <;> rfl
theorem traced_ok [HFn P "begin" PF.f_begin] [HFn P "traced" PF.f_traced] (n : Nat) (N : List Str) (M : List Mn) {f : Nat} {z0 : Sta} (h0 : beginM M f = some z0) (cs : List Int) (hl : cs.length ≤ 1000000) {t : Trc} (h : traceM M f z0 cs 0 = some t) (st : Store) :
    ev P (n + 3) "traced" [.d (mcD N M), .d (.lst (cs.map .int))] st = some (.ok (.d t.d), st) := by
  rw [ev_fn, PF.r_traced]
  have e1 := begin_ok (P := P) n N M h0 st
  simp_arith [PF.b_traced, e1]
  generalize hc : forF _ _ _ _ _ = z
  obtain ⟨q, rfl, hq⟩ := useFr hc (fun vs ρ s => ∃ (k : Nat) (us : List Int) (sta : Sta) (pl : List Int) (ul : List (Int × Int)) (a5 a6 a7 a8 a9 : Option Vl) (t' : Trc), vs = enumV k (us.map .int) ∧ ρ = [some (.d (mcD N M)), some (.d (.lst (cs.map .int))), some (.d sta.d), some (.loc st.length), some (.loc (st.length + 1)), a5, a6, a7, a8, a9] ∧ s = st ++ [.lst (pl.map fun i => .d (.int i)), .lst (ul.map fun w => .d (useD w))] ∧ traceM M f sta us k = some t' ∧ t.cuts = pl ++ t'.cuts ∧ t.ref = t'.ref ∧ t.used = ul ++ t'.used ∧ k + us.length ≤ 1000000 ∧ pl.length ≤ k ∧ ul.length ≤ k)
    (fun q => (∃ ρ s, q = (.ret (.d t.d), ρ, st ++ s)) ∨ (t.ref = none ∧ ∃ a0 a1 a2 a5 a6 a7 a8 a9, q = (.next, [a0, a1, a2, some (.loc st.length), some (.loc (st.length + 1)), a5, a6, a7, a8, a9], st ++ [.lst (t.cuts.map fun i => .d (.int i)), .lst (t.used.map fun w => .d (useD w))]))) ⟨0, cs, z0, [], [], none, none, none, none, none, t, rfl, rfl, rfl, h, rfl, rfl, rfl, by omega, by simp, by simp⟩ (by
    rintro v r ρ s ⟨k, us, sta, pl, ul, a5, a6, a7, a8, a9, t', hv, rfl, rfl, ht, h1, h2, h3, h4, h5, h6⟩
    cases us with
    | nil => cases hv
    | cons c us =>
      rw [List.map_cons] at hv
      unfold enumV at hv
      cases hv
      refine ⟨trivial, ?_⟩
      unfold traceM at ht
      cases hs : stepM M f sta c with
      | none => rw [hs] at ht; cases ht
      | some q =>
        obtain ⟨s', b, sp⟩ := q
        rw [hs] at ht
        dsimp only at ht
        rw [List.length_cons] at h4
        have e3 : Sta.d sta = .tup [.int sta.line, kD sta.kept, .int sta.left] := rfl
        have e2 := fun st => step_ok (P := P) n N M hs st
        rw [e3] at e2
        have e4 : Sta.d s' = .tup [.int s'.line, kD s'.kept, .int s'.left] := rfl
        have e5 : ∀ l : List (Int × Int), dats (l.map fun w => Vl.d (useD w)) = some (l.map useD) := fun l => datsM _ _
        have e6 : ∀ l : List Int, dats (l.map fun i => Vl.d (.int i)) = some (l.map .int) := fun l => datsM _ _
        by_cases hneg : s'.line < 0
        · rw [if_pos hneg] at ht
          cases ht
          refine .inr (.inr (.inl ⟨.d t.d, [some (.d (mcD N M)), some (.d (.lst (cs.map .int))), some (.d s'.d), some (.loc st.length), some (.loc (st.length + 1)), some (.d (.int (k : Int))), some (.d (.int c)), some (.d (.int sta.line)), some (.d (.bl b)), some (.d (kD sp))], st ++ [.lst ((pl ++ cutL1 b k).map fun i => .d (.int i)), .dead], ?_, .inl ⟨_, _, rfl⟩⟩))
          have e7 : t.d = .tup [.tup ((pl ++ cutL1 b k).map .int), .int ((k : Int) + 1), .lst ((ul ++ useL1 sta.line sp).map useD)] := by
            unfold Trc.d
            rw [h1, h2, h3]
            rfl
          rw [e7]
          have e9 : ∀ (l : List Int) (y : Int), dats ((l.map fun i => Vl.d (.int i)) ++ [.d (.int y)]) = some (l.map .int ++ [.int y]) := fun l y => dats_app _ _ (e6 l) rfl
          cases sp with
          | none =>
            cases b <;> simp_arith [bodyF_eq, e2, e3, e4, e5, e6, e9, isNon_k, Option.isSome_none, Option.isSome_some, cutL1, useL1, List.map_append, List.append_nil] <;> rfl
          | some x =>
            have e8 : ∀ l : List (Int × Int), dats ((l.map fun w => Vl.d (useD w)) ++ [.d (.tup [.int sta.line, .int x])]) = some (l.map useD ++ [.tup [.int sta.line, .int x]]) := fun l => dats_app _ _ (e5 l) rfl
            have ex : kD (some x) = .int x := rfl
            cases b <;> simp_arith [bodyF_eq, e2, e3, e4, e5, e6, e8, e9, ex, non_int, isNon_k, Option.isSome_none, Option.isSome_some, cutL1, useL1, List.map_append, List.append_nil] <;> rfl
        · rw [if_neg hneg] at ht
          cases ht2 : traceM M f s' us (k + 1) with
          | none => rw [ht2] at ht; cases ht
          | some t2 =>
            rw [ht2] at ht
            cases ht
            refine .inl ⟨[some (.d (mcD N M)), some (.d (.lst (cs.map .int))), some (.d s'.d), some (.loc st.length), some (.loc (st.length + 1)), some (.d (.int (k : Int))), some (.d (.int c)), some (.d (.int sta.line)), some (.d (.bl b)), some (.d (kD sp))], st ++ [.lst ((pl ++ cutL1 b k).map fun i => .d (.int i)), .lst ((ul ++ useL1 sta.line sp).map fun w => .d (useD w))], .inl ?_, k + 1, us, s', pl ++ cutL1 b k, ul ++ useL1 sta.line sp, _, _, _, _, _, t2, rfl, rfl, rfl, ht2, by rw [h1, List.append_assoc], h2, by rw [h3, List.append_assoc], by omega, ?_, ?_⟩
            · cases sp with
              | none =>
                cases b <;> simp_arith [bodyF_eq, e2, e3, e4, isNon_k, Option.isSome_none, Option.isSome_some, cutL1, useL1, List.map_append, List.append_nil] <;> rfl
              | some x =>
                have ex : kD (some x) = .int x := rfl
                cases b <;> simp_arith [bodyF_eq, e2, e3, e4, ex, non_int, isNon_k, Option.isSome_none, Option.isSome_some, cutL1, useL1, List.map_append, List.append_nil] <;> rfl
            · rw [List.length_append]
              cases b <;> simp [cutL1] <;> omega
            · rw [List.length_append]
              cases sp <;> simp [useL1] <;> omega)
    (by
    rintro ρ s ⟨k, us, sta, pl, ul, a5, a6, a7, a8, a9, t', hv, rfl, rfl, ht, h1, h2, h3, h4, h5, h6⟩
    cases us with
    | nil =>
      cases ht
      rw [List.append_nil] at h1 h3
      exact ⟨trivial, .inr ⟨h2, _, _, _, _, _, _, _, _, by rw [h1, h3]⟩⟩
    | cons w us => cases hv)
  rcases hq with ⟨ρ, s, rfl⟩ | ⟨he, a0, a1, a2, a5, a6, a7, a8, a9, rfl⟩
  · simp_arith [bnd_ok]
    exact leave_d rfl _ _
  · have e5 : ∀ l : List (Int × Int), dats (l.map fun w => Vl.d (useD w)) = some (l.map useD) := fun l => datsM _ _
    have e6 : ∀ l : List Int, dats (l.map fun i => Vl.d (.int i)) = some (l.map .int) := fun l => datsM _ _
    simp_arith [e5, e6]
    have e7 : t.d = .tup [.tup (t.cuts.map .int), .non, .lst (t.used.map useD)] := by unfold Trc.d; rw [he]; rfl
    rw [e7]
    exact leave_d rfl _ _
end
end SP

end

section
set_option maxHeartbeats 1000000
namespace SP
open PySem
local macro_rules | `(tactic| simp_arith [$xs,*]) => `(tactic| simp (disch := first | assumption | omega | (with_unfolding_all rfl) | (simp only [List.length_map, List.length_append, List.length_cons, List.length_nil, List.length_range]; omega)) only [g0, gS, s0, sS, gA0, gA, sA0, sA, take_A, noErr_ok, finv, fin_l, finBv, finB_l, finB_t, glob_eq, meth_eq, prop_eq, cls_eq, cfg_call, cfg_glob, cfg_prop, cfg_meth, cfg_cls, List.map_cons, List.map_nil, List.append_assoc, List.cons_append, List.nil_append, List.replicate, Option.map_some, List.length_cons, List.length_nil, Nat.reduceAdd, Nat.reduceSub, Nat.zero_add, decide_true, decide_false, Bool.not_true, Bool.not_false, Its.items, wipeE, kTr_ok, fin_t', fin_tE, tr_bl, tr_int, tr_non, tr_lst, tr_tup, tr_str, tr_loc, kTrL_lst, kTrL_dct, isL_v, isL_l, isL_t, evT_con, evT_var, kVar_ok, evT_glo, kGlo_ok, evT_bin, kBin1_ok, kBin2_ok, evT_neg, kNeg_ok, evT_not_t, evT_not_v, kNotT_ok, kNotV_ok, kNot'_ok, evT_and_t, evT_and_v, evT_and_l, evT_or_t, evT_or_v, evT_or_l, kAndT_t, kAndT_f, kOrT_f, kOrT_t, kAndV_ok, kOrV_ok, kAndV'_t, kAndV'_f, kOrV'_t, kOrV'_f, evT_cmp, kCmp1_ok, kCmp2_ok, evT_chain, kCh1_ok, kCh2_ok, kCh3_t, kCh3_f, evT_ite, kIte_t, kIte_f, evTs_of_nil, evTs_of_cons, kTs1_ok, kTs2_ok, evT_tup, kTup_ok, kTup'_ok, embs_nil, embs_d, embs_loc, kEmb1_ok, kEmb2_ok, emb_d, emb_loc, kEmb_ok, bind_some', toD_lst, kToL_ok, toD_ins, kToO_ok, dats_nil, dats_cons, kDats_ok, datsM, dats_mapd, datf_nil, datf_cons, kDatf_ok, evT_lst, kLst_ok, mkList_t, mkList_f, kMk_ok, embs_mapd, embs_map, evT_dict0, evT_ix, kIx1_ok, kIx2_ok, evT_slc, kSl1_ok, kSl2_ok, kSl3_ok, evO_none, evO_some, kO_ok, evT_rev, kRev_ok, kRev'_ok, evT_fld, kFld_ok, fldV_obj, fldV_loc, kFdL_ok, fdV_eq, kFd_f, kFd_p, lookF_hit, lookF_nil, putF_hit, putF_nil, evT_call, kCall_ok, evT_bi, kBi_1, kBi_2, evT_isin, kIs_ok, kIs'_ok, evT_meth, kMe1_ok, kMe2_own, kMe2_str, kMe2_lst, kMeO_ok, kMeB_ok, callM_eq, kCM_ok, evT_loc, stG_nm, stG_tp, stGs_nil, stGs_cons, kGs_ok, stG_ix, kGi1_ok, kGi2_ok, kGi3_lst, kGi4_d, kGi4_loc, kGi3_dct_d, kGi3_dct_loc, evSs_nil, evSs_cons, kSs_next, kSs_ret, kSs_err, kSs_brk, kSs_cont, evS_ex, kEx_ok, evS_asg, kAsg_ok, kAsg'_ok, kAsg_err, evS_fset, kFs1_ok, kFs2_ok, kFs3_d, kFs3_loc, evS_par, kPar_2, kPar_3, evS_aug, kAug_ok, kAug2_ok, augI_add, augI_sub, evS_ret, kRet_ok, evS_retN, evS_if, kIf_t, kIf_f, kBody_ok, evS_for, kFor_ok, kWh_t, kWh_f, turnW_next, turnW_cont, turnW_brk, turnW_ret, evS_whl, evS_brk, evS_cont, evS_pass, evI_seq, kSeq_ok, kSeq'_ok, evI_enu, kEnu_ok, enumIts_lst, seqIts_lst, seqIts_tup, seqIts_str, seqIts_loc, kSqL_ok, enumIts_loc, kEnL_ok, kEnL'_ok, evI_rng1, evI_rng2, kR2_ok, kC1_ok, kC2_t, kC2_f, kC3_ok, evF_of_nil, evF_of_cons, kF_t, kF_f, kF_b, evT_comp, kCo_ok, kCo2_ok, evT_comp2, kCC_ok, kD1_ok, kD2_t, kD2_f, kD3_ok, add_int, sub_int, mod_int, add_str, mul_str, add_tup, add_lst, bin_loc, bin_lloc, kBP_add, mul_lst, lt_int, le_int, gt_int, ge_int, eq_int, ne_int, is_non, isnot_non, kP1_ok, kP2_ok, kP3_ok, peek_d, peek_loc, cmp_eq_loc, cmp_eq_l, cmp_eq_t, cmpD_eq, cmpD_ne, notin_d, in_loc, notin_loc, kInL_lst, kInL_dct, kInL2_ok, kInL3_f, kInL3_t, inD_lst, inD_tup, inD_ch, inD_dct, ix_lst, ixTup, kAt_ok, ixStr, kAtS_ok, ix_loc, kIxL_lst, kIxL_dct, kAtV_ok, ix_dct, kDk_ok, at0, at1, at2, at3, slcV_eq, kSc_lst, kSc_tup, kSc_str, len_lst, len_tup, len_str, len_loc, kLn_lst, kLn_dct, int_int, int_bl, list_eq, kLi_lst, kLi_tup, tuple_eq, kTu_lst, kTu_tup, sum_lst, all_lst, any_lst, max_lst, min_lst, max_2, min_2, is_loc, kIsL_lst, rcv_str, rcv_lst, bm_join, bm_app, bm_ext, bm_pop, bm_index, rcv_obj, rcv_loc, kRc_lst, kRc_ins, meth_loc, meth_d, app_d, app_loc, ext_d, pop_l, join_l, index_l, index_loc, leave_next, leave_next0, leave_d, leave_d0, leave_loc0, leave_rloc0, keep_next, keep_ret, keep_loc, mul_i64, fdiv_i64, pow_i64, kR1_i, kR3_i, ixN_nat, Int.toNat_natCast, Int.reduceToNat, List.length_map, List.getElem?_map, Int.toNat_zero, Int.toNat_one, ne_eq, Int.cast_ofNat_Int, List.map_map, Int.reducePow, decT, decF, List.map_set, if_true, if_false, Bool.false_eq_true, eq_self, kIte_ii, in_t, in_l, in_s, in_c, ofStr_eq, String.reduceEq, eqv_str, eqv_int, kC2_b, kIf_b, eq_ll, ne_ll, List.any_cons, List.any_nil, List.find?_cons_of_pos, List.find?_cons_of_neg, Bool.or_false, Bool.false_or, Bool.or_true, Bool.true_or, Bool.and_true, Bool.true_and, Bool.and_false, Bool.false_and, Option.map_some, inD_dct, Nat.reduceLeDiff, Nat.reduceEqDiff, ne_eq, not_false_eq_true, not_true_eq_false, List.all_cons, List.all_nil, flat_int, flat_str, flat_non, flat_bl, Int.reduceSub, Int.reduceAdd, Int.natCast_add, Int.cast_ofNat_Int, enumIts_tup, lenS1, take_A, embs_comp, dats_comp, cmp_ne_loc, $xs,*])
def mrg1 (acc : List (Int × Int)) (r : Int × Int) : List (Int × Int) := if 0 < r.1 then (match acc.getLast? with
    | some q => if q.2 = r.2 then acc.dropLast ++ [(q.1 + r.1, r.2)] else acc ++ [r]
    | none => acc ++ [r]) else acc
def mrg (rs : List (Int × Int)) : List (Int × Int) := rs.foldl mrg1 []
theorem mrg1_len (acc : List (Int × Int)) (r : Int × Int) : (mrg1 acc r).length ≤ acc.length + 1 := by
  unfold mrg1
  split
  · split
    · split
      · rw [List.length_append, List.length_dropLast, List.length_cons, List.length_nil]; omega
      · rw [List.length_append, List.length_cons, List.length_nil]; omega
    · rw [List.length_append, List.length_cons, List.length_nil]; omega
  · omega
def rowD (rs : List (Int × Int)) : D := .obj "Row" [("runs", .tup (rs.map wyD))]
theorem ixN_m1 (m : Nat) : ixN (m + 1) (-1) = some m := by
  rw [ixN_neg (by omega) (by omega)]
  congr 1
  omega
section
variable {P : Pg}
theorem check_cells_ok [HFn P "check_cells" PF.f_check_cells] (n : Nat) (b : Bool) (cs : List Int) (h : ∀ c ∈ cs, 0 ≤ c) (st : Store) : ev P (n + 1) "check_cells" [.d (seqD b (cs.map .int))] st = some (.ok (.d .non), st) := by
  rw [ev_fn, PF.r_check_cells]
  have hs : ∀ (G : Cfg) (a1 : Option Vl) (st : Store), evI G (.seq (.var 0)) [some (.d (seqD b (cs.map .int))), a1] st = some (.ok (.vs (cs.map fun c => .d (.int c))), st) := fun G a1 st => by
    cases b <;> simp_arith [seqD] <;> rfl
  simp_arith [PF.b_check_cells, hs]
  generalize hc : forF _ _ _ _ _ = z
  obtain ⟨ρ1, st1, rfl, a1, rfl, rfl⟩ := useF hc (fun i ρ s => ∃ a1, ρ = [some (.d (seqD b (cs.map .int))), a1] ∧ st = s) ⟨none, rfl, rfl⟩ (fun _ _ _ _ _ => trivial) (by
    rintro i v ρ s hv ⟨a1, rfl, rfl⟩
    rw [List.getElem?_map] at hv
    obtain ⟨c, hx, rfl⟩ := Option.map_eq_some_iff.mp hv
    have h0 := h c (List.mem_of_getElem? hx)
    refine ⟨_, _, ?_, some (.d (.int c)), rfl, rfl⟩
    simp_arith [bodyF_eq])
  simp_arith [bnd_ok]
  exact leave_next0 rfl
theorem merged_ok [HFn P "merged" PF.f_merged] [HsG P "MOST_RUNS" (.int 1000)] (n : Nat) (rs : List (Int × Int)) (hl : rs.length ≤ 1000000) (h : (mrg rs).length ≤ 1000) (st : Store) : ev P (n + 1) "merged" [.d (.lst (rs.map wyD))] st = some (.ok (.d (.tup ((mrg rs).map wyD))), st) := by
  rw [ev_fn, PF.r_merged]
  simp_arith [PF.b_merged]
  generalize hc : forF _ _ _ _ _ = z
  obtain ⟨q, rfl, a2, a3, rfl⟩ := useFr hc (fun vs ρ s => ∃ (us acc : List (Int × Int)) (a2 a3 : Option Vl), vs = us.map (fun w => Vl.d (wyD w)) ∧ ρ = [some (.d (.lst (rs.map wyD))), some (.loc st.length), a2, a3] ∧ s = st ++ [.lst (acc.map fun w => .d (wyD w))] ∧ us.foldl mrg1 acc = mrg rs ∧ acc.length + us.length ≤ 1000000)
    (fun q => ∃ a2 a3, q = (.next, [some (.d (.lst (rs.map wyD))), some (.loc st.length), a2, a3], st ++ [.lst ((mrg rs).map fun w => .d (wyD w))])) ⟨rs, [], none, none, by simp [List.map_map, Function.comp_def], rfl, rfl, rfl, by simpa using hl⟩ (by
    rintro v r ρ s ⟨us, acc, a2, a3, hv, rfl, rfl, h1, h2⟩
    cases us with
    | nil => cases hv
    | cons w us =>
      rw [List.map_cons] at hv
      cases hv
      rw [List.foldl_cons] at h1
      rw [List.length_cons] at h2
      have hml := mrg1_len acc w
      refine ⟨trivial, .inl ⟨[some (.d (.lst (rs.map wyD))), some (.loc st.length), some (.d (.int w.1)), some (.d (.int w.2))], st ++ [.lst ((mrg1 acc w).map fun w => .d (wyD w))], .inl ?_, us, mrg1 acc w, _, _, rfl, rfl, rfl, h1, by omega⟩⟩
      have hwy : wyD w = .tup [.int w.1, .int w.2] := rfl
      by_cases hp : 0 < w.1
      · rcases nil_or_snoc acc with rfl | ⟨acc, q, rfl⟩
        · have e : mrg1 [] w = [w] := by unfold mrg1; rw [if_pos hp]; rfl
          rw [e]
          simp_arith [bodyF_eq, hwy]
        · have h2' : acc.length < 1000000 := by
            rw [List.length_append, List.length_cons, List.length_nil] at h2
            omega
          have hwq : wyD q = .tup [.int q.1, .int q.2] := rfl
          have h3 : ∀ k : Nat, decide (¬ (k + 1 = 0)) = true := fun k => by simp
          have e1 : ((acc ++ [q]).map fun w => Vl.d (wyD w)) = (acc.map fun w => Vl.d (wyD w)) ++ [.d (wyD q)] := by simp
          have e2 : ∀ (l : List Vl) (a b : Vl), (l ++ [a]).set l.length b = l ++ [b] := fun l a b => by simp
          have e3 := e2 (acc.map fun w => Vl.d (wyD w))
          rw [List.length_map] at e3
          by_cases hq : q.2 = w.2
          · have e : mrg1 (acc ++ [q]) w = acc ++ [(q.1 + w.1, w.2)] := by unfold mrg1; rw [if_pos hp]; simp [hq]
            rw [e]
            simp_arith [bodyF_eq, e1, List.length_append, h3, hwy, hwq, atm1, ixN_m1, hq, e3, List.map_append]
            rfl
          · have e : mrg1 (acc ++ [q]) w = acc ++ [q] ++ [w] := by unfold mrg1; rw [if_pos hp]; simp [hq]
            rw [e]
            simp_arith [bodyF_eq, e1, List.length_append, h3, hwy, hwq, atm1, List.map_append]
      · have e : mrg1 acc w = acc := by unfold mrg1; rw [if_neg hp]
        rw [e]
        simp_arith [bodyF_eq, hwy])
    (by
    rintro ρ s ⟨us, acc, a2, a3, hv, rfl, rfl, h1, h2⟩
    cases us with
    | nil =>
      rw [List.foldl_nil] at h1
      subst h1
      exact ⟨trivial, _, _, rfl⟩
    | cons w us => cases hv)
  have e5 : ∀ l : List (Int × Int), dats (l.map fun w => Vl.d (wyD w)) = some (l.map wyD) := fun l => datsM _ _
  simp_arith [e5]
  exact leave_d rfl _ _
theorem row_core [HFn P "check_cells" PF.f_check_cells] [HFn P "merged" PF.f_merged] [HsG P "MOST_RUNS" (.int 1000)] [HsP P "Row" "runs" none] (n : Nat) (b c : Bool) (cs : List Int) (rs : List (Int × Int)) (h : ∀ c ∈ cs, 0 ≤ c) (hl : cs.length + rs.length ≤ 1000000) (hm : (mrg (cs.map (fun c => (1, c)) ++ rs)).length ≤ 1000) (st : Store) :
    kRun PF.f_Row___init__ (st ++ [.ins "Row" []]) (evSs (P.cfg (ev P (n + 1))) P.exF PF.b_Row___init__ [some (.loc st.length), some (.d (seqD b (cs.map .int))), some (.d (seqD c (rs.map wyD))), none] (st ++ [.ins "Row" []])) = some (.ok (.d .non), st ++ [.ins "Row" [("runs", .d (.tup ((mrg (cs.map (fun c => (1, c)) ++ rs)).map wyD)))]]) := by
  have e1 := check_cells_ok (P := P) n b cs h (st ++ [.ins "Row" []])
  have e2 := merged_ok (P := P) n (cs.map (fun c => (1, c)) ++ rs) (by rw [List.length_append, List.length_map]; exact hl) hm (st ++ [.ins "Row" []])
  have hp : (P.cfg (ev P (n + 1))).prop "Row" "runs" = some none := prop_eq
  have hsq : ∀ st : Store, seqIts st (.d (seqD b (cs.map .int))) = some (.vs (cs.map fun c => .d (.int c))) := fun st => by
    cases b <;> simp [seqD, seqIts, List.map_map, Function.comp_def]
  have hli : ∀ st : Store, bi1 false "list" (.d (seqD c (rs.map wyD))) st = some (.ok (.d (.lst (rs.map wyD))), st) := fun st => by
    cases c <;> simp_arith [seqD]
  simp_arith [PF.b_Row___init__, e1, hsq, hli]
  generalize hc : cmpF _ _ _ _ = z
  have h1 := useMap hc cs (fun c => .d (.int c)) (fun c => .d (wyD (1, c))) rfl trivial (by
    intro c hc
    simp_arith [eltC_eq, wyD])
  subst h1
  have e3 : (cs.map fun c => wyD (1, c)) ++ rs.map wyD = (cs.map (fun c => ((1 : Int), c)) ++ rs).map wyD := by
    rw [List.map_append, List.map_map]
    rfl
  have e4 : (cs.map fun c => Vl.d (wyD (1, c))).length ≤ 16777216 := by rw [List.length_map]; omega
  rw [kCo2_ok, isL_v, mkList_f e4, embs_map, kMk_ok, finv, kBin1_ok]
  have hli2 : evT (P.cfg (ev P (n + 1))) (.bi "list" (Ts.of [.var 2])) .v [some (.loc st.length), some (.d (seqD b (cs.map .int))), some (.d (seqD c (rs.map wyD))), none] (st ++ [.ins "Row" []]) = some (.ok (.d (.lst (rs.map wyD))), st ++ [.ins "Row" []]) := by
    simp_arith [hli]
  rw [hli2, kBin2_ok, isL_v, add_lst (by rw [List.length_map, List.length_map]; omega), e3, mkList_f (by rw [List.length_map, List.length_map, List.length_append, List.length_map]; omega), embs_mapd, kMk_ok, finv]
  simp_arith [e2, hp]
  exact keep_next rfl
/-- Row(cells, runs) -/
theorem row2_ok [HFn P "check_cells" PF.f_check_cells] [HFn P "merged" PF.f_merged] [HsG P "MOST_RUNS" (.int 1000)] [HsC P "Row" "Row.__init__" PF.f_Row___init__ true] [HsP P "Row" "runs" none] (n : Nat) (b c : Bool) (cs : List Int) (rs : List (Int × Int)) (h : ∀ c ∈ cs, 0 ≤ c) (hl : cs.length + rs.length ≤ 1000000) (hm : (mrg (cs.map (fun c => (1, c)) ++ rs)).length ≤ 1000) (st : Store) :
    ev P (n + 2) "Row" [.d (seqD b (cs.map .int)), .d (seqD c (rs.map wyD))] st = some (.ok (.d (rowD (mrg (cs.map (fun c => (1, c)) ++ rs)))), st) := by
  refine ev_cls (o := .ins "Row" [("runs", .d (.tup ((mrg (cs.map (fun c => (1, c)) ++ rs)).map wyD)))]) (st2 := []) _ _ ?_ rfl
  rw [PF.r_Row___init__]
  exact row_core n b c cs rs h hl hm st
def mrgC (cs : List Int) : List (Int × Int) := mrg (cs.map fun c => (1, c))
theorem mrg_len : ∀ (rs acc : List (Int × Int)), (rs.foldl mrg1 acc).length ≤ acc.length + rs.length
  | [], acc => by simp
  | r :: rs, acc => by
    rw [List.foldl_cons, List.length_cons]
    have := mrg_len rs (mrg1 acc r)
    have := mrg1_len acc r
    omega
theorem row1_ok [HFn P "check_cells" PF.f_check_cells] [HFn P "merged" PF.f_merged] [HsG P "MOST_RUNS" (.int 1000)] [HsC P "Row" "Row.__init__" PF.f_Row___init__ true] [HsP P "Row" "runs" none] (n : Nat) (b : Bool) (cs : List Int) (h : ∀ c ∈ cs, 0 ≤ c) (hl : cs.length ≤ 1000) (st : Store) :
    ev P (n + 2) "Row" [.d (seqD b (cs.map .int))] st = some (.ok (.d (rowD (mrgC cs))), st) := by
  refine ev_cls (o := .ins "Row" [("runs", .d (.tup ((mrgC cs).map wyD)))]) (st2 := []) _ _ ?_ rfl
  rw [PF.r_Row___init___2]
  have := row_core (P := P) n b false cs [] h (by simpa using (by omega : cs.length ≤ 1000000)) (by
    rw [List.append_nil]
    have := mrg_len (cs.map fun c => (1, c)) []
    rw [List.length_map] at this
    simp only [List.length_nil, Nat.zero_add] at this
    exact Nat.le_trans this hl) st
  rw [List.append_nil] at this
  exact this
/-- the cells of runs -/
def cellsR (rs : List (Int × Int)) : List Int := (rs.map fun r => List.replicate r.1.toNat r.2).flatten
def sizeR (rs : List (Int × Int)) : Int := (rs.map (·.1)).sum
end
end SP

end

section
set_option maxHeartbeats 1000000
namespace SP
open PySem
local macro_rules | `(tactic| simp_arith [$xs,*]) => `(tactic| simp (disch := first | assumption | omega | (with_unfolding_all rfl) | (simp only [List.length_map, List.length_append, List.length_cons, List.length_nil, List.length_range]; omega)) only [g0, gS, s0, sS, gA0, gA, sA0, sA, take_A, noErr_ok, finv, fin_l, finBv, finB_l, finB_t, glob_eq, meth_eq, prop_eq, cls_eq, cfg_call, cfg_glob, cfg_prop, cfg_meth, cfg_cls, List.map_cons, List.map_nil, List.append_assoc, List.cons_append, List.nil_append, List.replicate, Option.map_some, List.length_cons, List.length_nil, Nat.reduceAdd, Nat.reduceSub, Nat.zero_add, decide_true, decide_false, Bool.not_true, Bool.not_false, Its.items, wipeE, kTr_ok, fin_t', fin_tE, tr_bl, tr_int, tr_non, tr_lst, tr_tup, tr_str, tr_loc, kTrL_lst, kTrL_dct, isL_v, isL_l, isL_t, evT_con, evT_var, kVar_ok, evT_glo, kGlo_ok, evT_bin, kBin1_ok, kBin2_ok, evT_neg, kNeg_ok, evT_not_t, evT_not_v, kNotT_ok, kNotV_ok, kNot'_ok, evT_and_t, evT_and_v, evT_and_l, evT_or_t, evT_or_v, evT_or_l, kAndT_t, kAndT_f, kOrT_f, kOrT_t, kAndV_ok, kOrV_ok, kAndV'_t, kAndV'_f, kOrV'_t, kOrV'_f, evT_cmp, kCmp1_ok, kCmp2_ok, evT_chain, kCh1_ok, kCh2_ok, kCh3_t, kCh3_f, evT_ite, kIte_t, kIte_f, evTs_of_nil, evTs_of_cons, kTs1_ok, kTs2_ok, evT_tup, kTup_ok, kTup'_ok, embs_nil, embs_d, embs_loc, kEmb1_ok, kEmb2_ok, emb_d, emb_loc, kEmb_ok, bind_some', toD_lst, kToL_ok, toD_ins, kToO_ok, dats_nil, dats_cons, kDats_ok, datsM, dats_mapd, datf_nil, datf_cons, kDatf_ok, evT_lst, kLst_ok, mkList_t, mkList_f, kMk_ok, embs_mapd, embs_map, evT_dict0, evT_ix, kIx1_ok, kIx2_ok, evT_slc, kSl1_ok, kSl2_ok, kSl3_ok, evO_none, evO_some, kO_ok, evT_rev, kRev_ok, kRev'_ok, evT_fld, kFld_ok, fldV_obj, fldV_loc, kFdL_ok, fdV_eq, kFd_f, kFd_p, lookF_hit, lookF_nil, putF_hit, putF_nil, evT_call, kCall_ok, evT_bi, kBi_1, kBi_2, evT_isin, kIs_ok, kIs'_ok, evT_meth, kMe1_ok, kMe2_own, kMe2_str, kMe2_lst, kMeO_ok, kMeB_ok, callM_eq, kCM_ok, evT_loc, stG_nm, stG_tp, stGs_nil, stGs_cons, kGs_ok, stG_ix, kGi1_ok, kGi2_ok, kGi3_lst, kGi4_d, kGi4_loc, kGi3_dct_d, kGi3_dct_loc, evSs_nil, evSs_cons, kSs_next, kSs_ret, kSs_err, kSs_brk, kSs_cont, evS_ex, kEx_ok, evS_asg, kAsg_ok, kAsg'_ok, kAsg_err, evS_fset, kFs1_ok, kFs2_ok, kFs3_d, kFs3_loc, evS_par, kPar_2, kPar_3, evS_aug, kAug_ok, kAug2_ok, augI_add, augI_sub, evS_ret, kRet_ok, evS_retN, evS_if, kIf_t, kIf_f, kBody_ok, evS_for, kFor_ok, kWh_t, kWh_f, turnW_next, turnW_cont, turnW_brk, turnW_ret, evS_whl, evS_brk, evS_cont, evS_pass, evI_seq, kSeq_ok, kSeq'_ok, evI_enu, kEnu_ok, enumIts_lst, seqIts_lst, seqIts_tup, seqIts_str, seqIts_loc, kSqL_ok, enumIts_loc, kEnL_ok, kEnL'_ok, evI_rng1, evI_rng2, kR2_ok, kC1_ok, kC2_t, kC2_f, kC3_ok, evF_of_nil, evF_of_cons, kF_t, kF_f, kF_b, evT_comp, kCo_ok, kCo2_ok, evT_comp2, kCC_ok, kD1_ok, kD2_t, kD2_f, kD3_ok, add_int, sub_int, mod_int, add_str, mul_str, add_tup, add_lst, bin_loc, bin_lloc, kBP_add, mul_lst, lt_int, le_int, gt_int, ge_int, eq_int, ne_int, is_non, isnot_non, kP1_ok, kP2_ok, kP3_ok, peek_d, peek_loc, cmp_eq_loc, cmp_eq_l, cmp_eq_t, cmpD_eq, cmpD_ne, notin_d, in_loc, notin_loc, kInL_lst, kInL_dct, kInL2_ok, kInL3_f, kInL3_t, inD_lst, inD_tup, inD_ch, inD_dct, ix_lst, ixTup, kAt_ok, ixStr, kAtS_ok, ix_loc, kIxL_lst, kIxL_dct, kAtV_ok, ix_dct, kDk_ok, at0, at1, at2, at3, slcV_eq, kSc_lst, kSc_tup, kSc_str, len_lst, len_tup, len_str, len_loc, kLn_lst, kLn_dct, int_int, int_bl, list_eq, kLi_lst, kLi_tup, tuple_eq, kTu_lst, kTu_tup, sum_lst, all_lst, any_lst, max_lst, min_lst, max_2, min_2, is_loc, kIsL_lst, rcv_str, rcv_lst, bm_join, bm_app, bm_ext, bm_pop, bm_index, rcv_obj, rcv_loc, kRc_lst, kRc_ins, meth_loc, meth_d, app_d, app_loc, ext_d, pop_l, join_l, index_l, index_loc, leave_next, leave_next0, leave_d, leave_d0, leave_loc0, leave_rloc0, keep_next, keep_ret, keep_loc, mul_i64, fdiv_i64, pow_i64, kR1_i, kR3_i, ixN_nat, Int.toNat_natCast, Int.reduceToNat, List.length_map, List.getElem?_map, Int.toNat_zero, Int.toNat_one, ne_eq, Int.cast_ofNat_Int, List.map_map, Int.reducePow, decT, decF, List.map_set, if_true, if_false, Bool.false_eq_true, eq_self, kIte_ii, in_t, in_l, in_s, in_c, ofStr_eq, String.reduceEq, eqv_str, eqv_int, kC2_b, kIf_b, eq_ll, ne_ll, List.any_cons, List.any_nil, List.find?_cons_of_pos, List.find?_cons_of_neg, Bool.or_false, Bool.false_or, Bool.or_true, Bool.true_or, Bool.and_true, Bool.true_and, Bool.and_false, Bool.false_and, Option.map_some, inD_dct, Nat.reduceLeDiff, Nat.reduceEqDiff, ne_eq, not_false_eq_true, not_true_eq_false, List.all_cons, List.all_nil, flat_int, flat_str, flat_non, flat_bl, Int.reduceSub, Int.reduceAdd, Int.natCast_add, Int.cast_ofNat_Int, enumIts_tup, lenS1, take_A, embs_comp, dats_comp, cmp_ne_loc, $xs,*])
theorem sum_le_mem : ∀ {rs : List (Int × Int)}, (∀ r ∈ rs, 0 ≤ r.1) → 0 ≤ sizeR rs ∧ ∀ r ∈ rs, r.1 ≤ sizeR rs
  | [], _ => ⟨Int.le_refl _, fun r h => by cases h⟩
  | r :: rs, h => by
    obtain ⟨h1, h2⟩ := sum_le_mem (rs := rs) fun q hq => h q (List.mem_cons_of_mem _ hq)
    have h3 := h r List.mem_cons_self
    have e : sizeR (r :: rs) = r.1 + sizeR rs := rfl
    refine ⟨by omega, fun q hq => ?_⟩
    rcases List.mem_cons.mp hq with rfl | hq
    · omega
    · have := h2 q hq; omega
theorem cellsR_cons (r : Int × Int) (rs : List (Int × Int)) : cellsR (r :: rs) = List.replicate r.1.toNat r.2 ++ cellsR rs := rfl
theorem cellsR_app (a b : List (Int × Int)) : cellsR (a ++ b) = cellsR a ++ cellsR b := by
  unfold cellsR
  rw [List.map_append, List.flatten_append]
theorem sizeR_app (a b : List (Int × Int)) : sizeR (a ++ b) = sizeR a + sizeR b := by
  unfold sizeR
  rw [List.map_append, List.sum_append]
theorem cellsR_len : ∀ {rs : List (Int × Int)}, (∀ r ∈ rs, 0 ≤ r.1) → ((cellsR rs).length : Int) = sizeR rs
  | [], _ => rfl
  | r :: rs, h => by
    have h1 := cellsR_len (rs := rs) fun q hq => h q (List.mem_cons_of_mem _ hq)
    have h3 := h r List.mem_cons_self
    have e : sizeR (r :: rs) = r.1 + sizeR rs := rfl
    rw [cellsR_cons, List.length_append, List.length_replicate, e]
    omega
/-- merging keeps the cells -/
theorem mrg1_pos {acc : List (Int × Int)} {r : Int × Int} (h : ∀ q ∈ acc, 1 ≤ q.1) : ∀ q ∈ mrg1 acc r, 1 ≤ q.1 := by
  intro q hq
  unfold mrg1 at hq
  split at hq
  · rename_i hp
    split at hq
    · rename_i p hp2
      split at hq
      · rcases List.mem_append.mp hq with hq | hq
        · exact h q (List.dropLast_subset acc hq)
        · have : q = (p.1 + r.1, r.2) := by simpa using hq
          subst this
          have := h p (List.mem_of_getLast? hp2)
          show 1 ≤ p.1 + r.1
          omega
      · rcases List.mem_append.mp hq with hq | hq
        · exact h q hq
        · have : q = r := by simpa using hq
          subst this
          omega
    · rcases List.mem_append.mp hq with hq | hq
      · exact h q hq
      · have : q = r := by simpa using hq
        subst this
        omega
  · exact h q hq
theorem rep_snoc (a b : Int) (c : Int) (ha : 0 ≤ a) (hb : 0 ≤ b) : List.replicate (a + b).toNat c = List.replicate a.toNat c ++ List.replicate b.toNat c := by
  rw [List.replicate_append_replicate]
  congr 1
  omega
theorem mrg1_cells {acc : List (Int × Int)} {r : Int × Int} (h : ∀ q ∈ acc, 1 ≤ q.1) : cellsR (mrg1 acc r) = cellsR (acc ++ [r]) := by
  unfold mrg1
  split
  · rename_i hp
    rcases nil_or_snoc acc with rfl | ⟨a, p, rfl⟩
    · rfl
    · have e : (a ++ [p]).getLast? = some p := by simp
      rw [e]
      dsimp only
      split
      · rename_i he
        have hp1 := h p (by simp)
        rw [List.dropLast_concat, cellsR_app, cellsR_app, cellsR_app]
        have e1 : ∀ q : Int × Int, cellsR [q] = List.replicate q.1.toNat q.2 := fun q => by rw [cellsR_cons]; exact List.append_nil _
        rw [e1, e1, e1, List.append_assoc]
        congr 1
        show List.replicate (p.1 + r.1).toNat r.2 = _
        rw [rep_snoc _ _ _ (by omega) (by omega), he]
      · rfl
  · rename_i hp
    rw [cellsR_app]
    have : cellsR [r] = [] := by
      rw [cellsR_cons]
      have : r.1.toNat = 0 := by omega
      rw [this]
      rfl
    rw [this, List.append_nil]
theorem mrg_fold : ∀ (rs acc : List (Int × Int)), (∀ q ∈ acc, 1 ≤ q.1) → (∀ q ∈ rs.foldl mrg1 acc, 1 ≤ q.1) ∧ cellsR (rs.foldl mrg1 acc) = cellsR acc ++ cellsR rs
  | [], acc, h => ⟨h, by rw [show cellsR [] = [] from rfl, List.append_nil]; rfl⟩
  | r :: rs, acc, h => by
    obtain ⟨h1, h2⟩ := mrg_fold rs (mrg1 acc r) (mrg1_pos h)
    refine ⟨h1, ?_⟩
    rw [List.foldl_cons, h2, mrg1_cells h, cellsR_app, List.append_assoc]
    congr 1
    rw [cellsR_cons, cellsR_cons]
    simp [cellsR]
theorem mrg_pos (rs : List (Int × Int)) : ∀ q ∈ mrg rs, 1 ≤ q.1 := (mrg_fold rs [] (fun q h => by cases h)).1
theorem mrg_cells (rs : List (Int × Int)) : cellsR (mrg rs) = cellsR rs := by
  have := (mrg_fold rs [] (fun q h => by cases h)).2
  rw [show cellsR [] = [] from rfl, List.nil_append] at this
  exact this
theorem cells_ones : ∀ cs : List Int, cellsR (cs.map fun c => (1, c)) = cs
  | [] => rfl
  | c :: cs => by
    rw [List.map_cons, cellsR_cons, cells_ones cs]
    rfl
theorem mrgC_cells (cs : List Int) : cellsR (mrgC cs) = cs := by
  unfold mrgC
  rw [mrg_cells, cells_ones]
theorem mrgC_size (cs : List Int) : sizeR (mrgC cs) = cs.length := by
  rw [← cellsR_len (fun r hr => by have := mrg_pos _ r hr; omega), mrgC_cells]
section
variable {P : Pg} [HsP P "Row" "runs" none] [HsP P "Row" "size" (some "Row.size")] [HFn P "Row.size" PF.f_Row_size]
theorem runs_of (rs : List (Int × Int)) (n : Nat) (st : Store) : fldV (P.cfg (ev P n)) (.d (rowD rs)) "runs" st = some (.ok (.d (.tup (rs.map wyD))), st) := by
  have hp : (P.cfg (ev P n)).prop "Row" "runs" = some none := prop_eq
  unfold rowD
  rw [fldV_obj, lookF_hit, fdV_eq, hp]
  rfl
theorem size_ok (n : Nat) (rs : List (Int × Int)) (hl : rs.length ≤ 1000000) (st : Store) : ev P (n + 1) "Row.size" [.d (rowD rs)] st = some (.ok (.d (.int (sizeR rs))), st) := by
  rw [ev_fn, PF.r_Row_size]
  simp_arith [PF.b_Row_size, runs_of]
  generalize hc : cmpF _ _ _ _ = z
  have h1 := useMap hc rs (fun w => .d (wyD w)) (fun w => .d (.int w.1)) (by first | rfl | simp [List.map_map, Function.comp_def]) trivial (by
    intro w hw
    simp_arith [eltC_eq, wyD])
  subst h1
  have e1 := sum_lst (m := false) (st := st) (dInts_map (fun w : Int × Int => w.1) rs)
  simp_arith [embs_map, e1]
  exact leave_d0 rfl _
theorem size_of (rs : List (Int × Int)) (hl : rs.length ≤ 1000000) (n : Nat) (st : Store) : fldV (P.cfg (ev P (n + 1))) (.d (rowD rs)) "size" st = some (.ok (.d (.int (sizeR rs))), st) := by
  have hp : (P.cfg (ev P (n + 1))).prop "Row" "size" = some (some "Row.size") := prop_eq
  have e := size_ok (P := P) n rs hl st
  unfold rowD at e ⊢
  rw [fldV_obj, fdV_eq, hp, kFd_p, cfg_call, e]
  rfl
theorem cells_ok [HFn P "Row.cells" PF.f_Row_cells] [HsG P "MOST_CELLS" (.int 1000)] (n : Nat) (rs : List (Int × Int)) (hl : rs.length ≤ 1000000) (h0 : ∀ r ∈ rs, 0 ≤ r.1) (hs : sizeR rs ≤ 1000) (st : Store) : ev P (n + 2) "Row.cells" [.d (rowD rs)] st = some (.ok (.d (.lst ((cellsR rs).map .int))), st) := by
  rw [ev_fn, PF.r_Row_cells]
  have hsz : ∀ st, fldV (P.cfg (ev P (n + 1))) (.d (rowD rs)) "size" st = some (.ok (.d (.int (sizeR rs))), st) := fun st => size_of rs hl n st
  have hm := (sum_le_mem h0).2
  have hcl : ∀ i, ((cellsR (rs.take i)).length : Int) ≤ 1000 := fun i => by
    have e : cellsR rs = cellsR (rs.take i) ++ cellsR (rs.drop i) := by rw [← cellsR_app, List.take_append_drop]
    have := cellsR_len h0
    rw [e, List.length_append] at this
    omega
  simp_arith [PF.b_Row_cells, hsz, runs_of]
  generalize hc : forF _ _ _ _ _ = z
  obtain ⟨ρ1, st1, rfl, a2, a3, rfl, rfl⟩ := useF hc (fun i ρ s => ∃ a2 a3, ρ = [some (.d (rowD rs)), some (.loc st.length), a2, a3] ∧ s = st ++ [.lst ((cellsR (rs.take i)).map fun c => .d (.int c))]) ⟨none, none, rfl, rfl⟩ (fun _ _ _ _ _ => trivial) (by
    rintro i v ρ s hv ⟨a2, a3, rfl, rfl⟩
    simp only [List.getElem?_map, List.map_map] at hv
    obtain ⟨r, hr, rfl⟩ := Option.map_eq_some_iff.mp hv
    have hmem := List.mem_of_getElem? hr
    have r0 := h0 r hmem
    have r1 := hm r hmem
    have hci := hcl i
    have e1 : rep [D.int r.2] r.1 = (List.replicate r.1.toNat r.2).map D.int := by
      unfold rep
      simp [List.map_replicate]
    have e2 : (rep [D.int r.2] r.1).length ≤ 1000 := by rw [e1, List.length_map, List.length_replicate]; omega
    have e3 : ∀ st : Store, binV (P.cfg (ev P (n + 1))) false .mul (.d (.lst [.int r.2])) (.d (.int r.1)) st = some (.ok (.d (.lst (rep [D.int r.2] r.1))), st) := fun st => by
      rw [mul_lst (by simp only [List.length_cons, List.length_nil]; omega) (by omega) (by omega), mkList_f (by rw [List.length_map]; omega), embs_mapd]
      rfl
    have e4 : cellsR (rs.take (i + 1)) = cellsR (rs.take i) ++ List.replicate r.1.toNat r.2 := by
      rw [List.take_add_one, hr, cellsR_app]
      congr 1
      show cellsR [r] = _
      rw [cellsR_cons]
      exact List.append_nil _
    have e5 : (rep [D.int r.2] r.1).map Vl.d = (List.replicate r.1.toNat r.2).map fun c => Vl.d (.int c) := by
      rw [e1, List.map_map]
      rfl
    refine ⟨_, _, ?_, some (.d (.int r.1)), some (.d (.int r.2)), rfl, rfl⟩
    simp_arith [bodyF_eq, wyD, Function.comp, e3, e4, List.map_append, ← e5])
  rw [List.length_map, List.take_length]
  have e5 : dats ((cellsR rs).map fun c => Vl.d (.int c)) = some ((cellsR rs).map .int) := datsM _ _
  simp_arith [bnd_ok]
  exact leave_loc0 rfl rfl [] (by rw [toD_lst, e5]; rfl)
end
end SP

end

section
set_option maxHeartbeats 1000000
namespace SP
open PySem
local macro_rules | `(tactic| simp_arith [$xs,*]) => `(tactic| simp (disch := first | assumption | omega | (with_unfolding_all rfl) | (simp only [List.length_map, List.length_append, List.length_cons, List.length_nil, List.length_range]; omega)) only [g0, gS, s0, sS, gA0, gA, sA0, sA, take_A, noErr_ok, finv, fin_l, finBv, finB_l, finB_t, glob_eq, meth_eq, prop_eq, cls_eq, cfg_call, cfg_glob, cfg_prop, cfg_meth, cfg_cls, List.map_cons, List.map_nil, List.append_assoc, List.cons_append, List.nil_append, List.replicate, Option.map_some, List.length_cons, List.length_nil, Nat.reduceAdd, Nat.reduceSub, Nat.zero_add, decide_true, decide_false, Bool.not_true, Bool.not_false, Its.items, wipeE, kTr_ok, fin_t', fin_tE, tr_bl, tr_int, tr_non, tr_lst, tr_tup, tr_str, tr_loc, kTrL_lst, kTrL_dct, isL_v, isL_l, isL_t, evT_con, evT_var, kVar_ok, evT_glo, kGlo_ok, evT_bin, kBin1_ok, kBin2_ok, evT_neg, kNeg_ok, evT_not_t, evT_not_v, kNotT_ok, kNotV_ok, kNot'_ok, evT_and_t, evT_and_v, evT_and_l, evT_or_t, evT_or_v, evT_or_l, kAndT_t, kAndT_f, kOrT_f, kOrT_t, kAndV_ok, kOrV_ok, kAndV'_t, kAndV'_f, kOrV'_t, kOrV'_f, evT_cmp, kCmp1_ok, kCmp2_ok, evT_chain, kCh1_ok, kCh2_ok, kCh3_t, kCh3_f, evT_ite, kIte_t, kIte_f, evTs_of_nil, evTs_of_cons, kTs1_ok, kTs2_ok, evT_tup, kTup_ok, kTup'_ok, embs_nil, embs_d, embs_loc, kEmb1_ok, kEmb2_ok, emb_d, emb_loc, kEmb_ok, bind_some', toD_lst, kToL_ok, toD_ins, kToO_ok, dats_nil, dats_cons, kDats_ok, datsM, dats_mapd, datf_nil, datf_cons, kDatf_ok, evT_lst, kLst_ok, mkList_t, mkList_f, kMk_ok, embs_mapd, embs_map, evT_dict0, evT_ix, kIx1_ok, kIx2_ok, evT_slc, kSl1_ok, kSl2_ok, kSl3_ok, evO_none, evO_some, kO_ok, evT_rev, kRev_ok, kRev'_ok, evT_fld, kFld_ok, fldV_obj, fldV_loc, kFdL_ok, fdV_eq, kFd_f, kFd_p, lookF_hit, lookF_nil, putF_hit, putF_nil, evT_call, kCall_ok, evT_bi, kBi_1, kBi_2, evT_isin, kIs_ok, kIs'_ok, evT_meth, kMe1_ok, kMe2_own, kMe2_str, kMe2_lst, kMeO_ok, kMeB_ok, callM_eq, kCM_ok, evT_loc, stG_nm, stG_tp, stGs_nil, stGs_cons, kGs_ok, stG_ix, kGi1_ok, kGi2_ok, kGi3_lst, kGi4_d, kGi4_loc, kGi3_dct_d, kGi3_dct_loc, evSs_nil, evSs_cons, kSs_next, kSs_ret, kSs_err, kSs_brk, kSs_cont, evS_ex, kEx_ok, evS_asg, kAsg_ok, kAsg'_ok, kAsg_err, evS_fset, kFs1_ok, kFs2_ok, kFs3_d, kFs3_loc, evS_par, kPar_2, kPar_3, evS_aug, kAug_ok, kAug2_ok, augI_add, augI_sub, evS_ret, kRet_ok, evS_retN, evS_if, kIf_t, kIf_f, kBody_ok, evS_for, kFor_ok, kWh_t, kWh_f, turnW_next, turnW_cont, turnW_brk, turnW_ret, evS_whl, evS_brk, evS_cont, evS_pass, evI_seq, kSeq_ok, kSeq'_ok, evI_enu, kEnu_ok, enumIts_lst, seqIts_lst, seqIts_tup, seqIts_str, seqIts_loc, kSqL_ok, enumIts_loc, kEnL_ok, kEnL'_ok, evI_rng1, evI_rng2, kR2_ok, kC1_ok, kC2_t, kC2_f, kC3_ok, evF_of_nil, evF_of_cons, kF_t, kF_f, kF_b, evT_comp, kCo_ok, kCo2_ok, evT_comp2, kCC_ok, kD1_ok, kD2_t, kD2_f, kD3_ok, add_int, sub_int, mod_int, add_str, mul_str, add_tup, add_lst, bin_loc, bin_lloc, kBP_add, mul_lst, lt_int, le_int, gt_int, ge_int, eq_int, ne_int, is_non, isnot_non, kP1_ok, kP2_ok, kP3_ok, peek_d, peek_loc, cmp_eq_loc, cmp_eq_l, cmp_eq_t, cmpD_eq, cmpD_ne, notin_d, in_loc, notin_loc, kInL_lst, kInL_dct, kInL2_ok, kInL3_f, kInL3_t, inD_lst, inD_tup, inD_ch, inD_dct, ix_lst, ixTup, kAt_ok, ixStr, kAtS_ok, ix_loc, kIxL_lst, kIxL_dct, kAtV_ok, ix_dct, kDk_ok, at0, at1, at2, at3, slcV_eq, kSc_lst, kSc_tup, kSc_str, len_lst, len_tup, len_str, len_loc, kLn_lst, kLn_dct, int_int, int_bl, list_eq, kLi_lst, kLi_tup, tuple_eq, kTu_lst, kTu_tup, sum_lst, all_lst, any_lst, max_lst, min_lst, max_2, min_2, is_loc, kIsL_lst, rcv_str, rcv_lst, bm_join, bm_app, bm_ext, bm_pop, bm_index, rcv_obj, rcv_loc, kRc_lst, kRc_ins, meth_loc, meth_d, app_d, app_loc, ext_d, pop_l, join_l, index_l, index_loc, leave_next, leave_next0, leave_d, leave_d0, leave_loc0, leave_rloc0, keep_next, keep_ret, keep_loc, mul_i64, fdiv_i64, pow_i64, kR1_i, kR3_i, ixN_nat, Int.toNat_natCast, Int.reduceToNat, List.length_map, List.getElem?_map, Int.toNat_zero, Int.toNat_one, ne_eq, Int.cast_ofNat_Int, List.map_map, Int.reducePow, decT, decF, List.map_set, if_true, if_false, Bool.false_eq_true, eq_self, kIte_ii, in_t, in_l, in_s, in_c, ofStr_eq, String.reduceEq, eqv_str, eqv_int, kC2_b, kIf_b, eq_ll, ne_ll, List.any_cons, List.any_nil, List.find?_cons_of_pos, List.find?_cons_of_neg, Bool.or_false, Bool.false_or, Bool.or_true, Bool.true_or, Bool.and_true, Bool.true_and, Bool.and_false, Bool.false_and, Option.map_some, inD_dct, Nat.reduceLeDiff, Nat.reduceEqDiff, ne_eq, not_false_eq_true, not_true_eq_false, List.all_cons, List.all_nil, flat_int, flat_str, flat_non, flat_bl, Int.reduceSub, Int.reduceAdd, Int.natCast_add, Int.cast_ofNat_Int, enumIts_tup, lenS1, take_A, embs_comp, dats_comp, cmp_ne_loc, $xs,*])
section
variable {P : Pg} [HsP P "Row" "runs" none] [HsP P "Row" "size" (some "Row.size")] [HFn P "Row.size" PF.f_Row_size] [HFn P "check_cells" PF.f_check_cells] [HFn P "merged" PF.f_merged] [HsG P "MOST_RUNS" (.int 1000)] [HsC P "Row" "Row.__init__" PF.f_Row___init__ true] [HFn P "Row.cells" PF.f_Row_cells] [HsG P "MOST_CELLS" (.int 1000)]
  [HsK P "Row" true] [HsM P "Row" "cells" "Row.cells"] [HFn P "to_row" PF.f_to_row] [HFn P "cells_of" PF.f_cells_of]
theorem to_row_seq (n : Nat) (b : Bool) (cs : List Int) (h : ∀ c ∈ cs, 0 ≤ c) (hl : cs.length ≤ 1000) (st : Store) : ev P (n + 3) "to_row" [.d (seqD b (cs.map .int))] st = some (.ok (.d (rowD (mrgC cs))), st) := by
  rw [ev_fn, PF.r_to_row]
  have hk : (P.cfg (ev P (n + 2))).cls "Row" = true := cls_eq
  have h1 : isV (P.cfg (ev P (n + 2))) st "Row" (.d (seqD b (cs.map .int))) = some false := by
    rw [is_own _ hk]
    cases b <;> rfl
  have e1 := row1_ok (P := P) n b cs h hl st
  simp_arith [PF.b_to_row, h1, e1]
  exact leave_d0 rfl _
theorem to_row_row (n : Nat) (rs : List (Int × Int)) (st : Store) : ev P (n + 1) "to_row" [.d (rowD rs)] st = some (.ok (.d (rowD rs)), st) := by
  rw [ev_fn, PF.r_to_row]
  have hk : (P.cfg (ev P n)).cls "Row" = true := cls_eq
  have h1 : isV (P.cfg (ev P n)) st "Row" (.d (rowD rs)) = some true := by
    rw [is_own _ hk]
    show (if (P.cfg (ev P n)).cls "Row" then some ("Row" == "Row") else none) = _
    rw [hk]
    rfl
  simp_arith [PF.b_to_row, h1]
  exact leave_d0 rfl _
theorem cells_call (n : Nat) (rs : List (Int × Int)) (hl : rs.length ≤ 1000000) (h0 : ∀ r ∈ rs, 0 ≤ r.1) (hs : sizeR rs ≤ 1000) (st : Store) (w : Vl) (e : ev P (n + 3) "to_row" [w] st = some (.ok (.d (rowD rs)), st)) : ev P (n + 4) "cells_of" [w] st = some (.ok (.d (.lst ((cellsR rs).map .int))), st) := by
  rw [ev_fn, PF.r_cells_of]
  have hm : (P.cfg (ev P (n + 3))).meth "Row" "cells" = some "Row.cells" := meth_eq
  have hr : rcv (P.cfg (ev P (n + 3))) "cells" st (.d (rowD rs)) = some (.own "Row") := rcv_obj rfl hm
  have hcm : ∀ args st, callM (P.cfg (ev P (n + 3))) "Row" "cells" args st = ev P (n + 3) "Row.cells" args st := fun args st => by
    rw [callM_eq, hm]; rfl
  have e1 := cells_ok (P := P) (n + 1) rs hl h0 hs st
  simp_arith [PF.b_cells_of, e, hr, hcm, e1]
  exact leave_d0 rfl _
theorem cells_seq (n : Nat) (b : Bool) (cs : List Int) (h : ∀ c ∈ cs, 0 ≤ c) (hl : cs.length ≤ 1000) (st : Store) : ev P (n + 4) "cells_of" [.d (seqD b (cs.map .int))] st = some (.ok (.d (.lst (cs.map .int))), st) := by
  have hlen := mrg_len (cs.map fun c => (1, c)) []
  rw [List.length_map] at hlen
  simp only [List.length_nil, Nat.zero_add] at hlen
  have := cells_call (P := P) n (mrgC cs) (by unfold mrgC mrg; omega) (fun r hr => by have := mrg_pos _ r hr; omega) (by rw [mrgC_size]; omega) st _ (to_row_seq n b cs h hl st)
  rw [mrgC_cells] at this
  exact this
theorem cells_row (n : Nat) (rs : List (Int × Int)) (hl : rs.length ≤ 1000000) (h0 : ∀ r ∈ rs, 0 ≤ r.1) (hs : sizeR rs ≤ 1000) (st : Store) : ev P (n + 4) "cells_of" [.d (rowD rs)] st = some (.ok (.d (.lst ((cellsR rs).map .int))), st) :=
  cells_call n rs hl h0 hs st _ (to_row_row (n + 2) rs st)
variable [HsG P "READING" readingD] [HsP P "Machine" "lines" none] [HFn P "settle" PF.f_settle] [HFn P "exit_of" PF.f_exit_of] [HFn P "kept_by" PF.f_kept_by] [HFn P "step" PF.f_step] [HFn P "begin" PF.f_begin] [HFn P "traced" PF.f_traced]
  [HFn P "numbered" PF.f_numbered] [HFn P "Reader.names" PF.f_Reader_names] [HsM P "Reader" "names" "Reader.names"] [HsP P "Reader" "lines" none] [HFn P "compiled" PF.f_compiled] [HsC P "Machine" "Machine.__init__" PF.f_Machine___init__ true] [HsP P "Machine" "labels" none] [HFn P "cuts" PF.f_cuts]
/-- a reader's machine -/
def mcOf (L : Rdr) : List Mn := L.map fun x => numb (nms L) x.2
theorem cuts_call (n : Nat) {L : Rdr} (h : RdOk L) (cs : List Int) (hl : cs.length ≤ 1000) {f : Nat} {z0 : Sta} (h0 : beginM (mcOf L) f = some z0) {t : Trc} (ht : traceM (mcOf L) f z0 cs 0 = some t) (hcl : t.cuts.length ≤ 1000) (w : Vl) (st : Store) (e : ev P (n + 4) "cells_of" [w] st = some (.ok (.d (.lst (cs.map .int))), st)) :
    ev P (n + 5) "cuts" [.d (rdD L), w] st = some (.ok (.loc st.length), st ++ [.lst (t.cuts.map fun i => .d (.int i))]) := by
  rw [ev_fn, PF.r_cuts]
  have e1 := compiled_ok (P := P) (n + 2) h st
  have e2 := traced_ok (P := P) (n + 1) (nms L) (mcOf L) h0 cs (by omega) ht st
  have e3 : t.d = .tup [.tup (t.cuts.map .int), kD t.ref, .lst (t.used.map useD)] := rfl
  unfold mcOf at e2
  rw [e3] at e2
  simp_arith [PF.b_cuts, e1, e, e2]
  have e4 := leave_rloc0 (g := PF.f_cuts) (st := st) (ρ := [some (.d (rdD L)), some w]) rfl rfl [] (o := .lst (t.cuts.map fun i => .d (.int i))) (by rw [toD_lst, datsM]; rfl)
  exact e4
end
end SP

end

section
set_option maxHeartbeats 1000000
namespace SP
open PySem
local macro_rules | `(tactic| simp_arith [$xs,*]) => `(tactic| simp (disch := first | assumption | omega | (with_unfolding_all rfl) | (simp only [List.length_map, List.length_append, List.length_cons, List.length_nil, List.length_range]; omega)) only [g0, gS, s0, sS, gA0, gA, sA0, sA, take_A, noErr_ok, finv, fin_l, finBv, finB_l, finB_t, glob_eq, meth_eq, prop_eq, cls_eq, cfg_call, cfg_glob, cfg_prop, cfg_meth, cfg_cls, List.map_cons, List.map_nil, List.append_assoc, List.cons_append, List.nil_append, List.replicate, Option.map_some, List.length_cons, List.length_nil, Nat.reduceAdd, Nat.reduceSub, Nat.zero_add, decide_true, decide_false, Bool.not_true, Bool.not_false, Its.items, wipeE, kTr_ok, fin_t', fin_tE, tr_bl, tr_int, tr_non, tr_lst, tr_tup, tr_str, tr_loc, kTrL_lst, kTrL_dct, isL_v, isL_l, isL_t, evT_con, evT_var, kVar_ok, evT_glo, kGlo_ok, evT_bin, kBin1_ok, kBin2_ok, evT_neg, kNeg_ok, evT_not_t, evT_not_v, kNotT_ok, kNotV_ok, kNot'_ok, evT_and_t, evT_and_v, evT_and_l, evT_or_t, evT_or_v, evT_or_l, kAndT_t, kAndT_f, kOrT_f, kOrT_t, kAndV_ok, kOrV_ok, kAndV'_t, kAndV'_f, kOrV'_t, kOrV'_f, evT_cmp, kCmp1_ok, kCmp2_ok, evT_chain, kCh1_ok, kCh2_ok, kCh3_t, kCh3_f, evT_ite, kIte_t, kIte_f, evTs_of_nil, evTs_of_cons, kTs1_ok, kTs2_ok, evT_tup, kTup_ok, kTup'_ok, embs_nil, embs_d, embs_loc, kEmb1_ok, kEmb2_ok, emb_d, emb_loc, kEmb_ok, bind_some', toD_lst, kToL_ok, toD_ins, kToO_ok, dats_nil, dats_cons, kDats_ok, datsM, dats_mapd, datf_nil, datf_cons, kDatf_ok, evT_lst, kLst_ok, mkList_t, mkList_f, kMk_ok, embs_mapd, embs_map, evT_dict0, evT_ix, kIx1_ok, kIx2_ok, evT_slc, kSl1_ok, kSl2_ok, kSl3_ok, evO_none, evO_some, kO_ok, evT_rev, kRev_ok, kRev'_ok, evT_fld, kFld_ok, fldV_obj, fldV_loc, kFdL_ok, fdV_eq, kFd_f, kFd_p, lookF_hit, lookF_nil, putF_hit, putF_nil, evT_call, kCall_ok, evT_bi, kBi_1, kBi_2, evT_isin, kIs_ok, kIs'_ok, evT_meth, kMe1_ok, kMe2_own, kMe2_str, kMe2_lst, kMeO_ok, kMeB_ok, callM_eq, kCM_ok, evT_loc, stG_nm, stG_tp, stGs_nil, stGs_cons, kGs_ok, stG_ix, kGi1_ok, kGi2_ok, kGi3_lst, kGi4_d, kGi4_loc, kGi3_dct_d, kGi3_dct_loc, evSs_nil, evSs_cons, kSs_next, kSs_ret, kSs_err, kSs_brk, kSs_cont, evS_ex, kEx_ok, evS_asg, kAsg_ok, kAsg'_ok, kAsg_err, evS_fset, kFs1_ok, kFs2_ok, kFs3_d, kFs3_loc, evS_par, kPar_2, kPar_3, evS_aug, kAug_ok, kAug2_ok, augI_add, augI_sub, evS_ret, kRet_ok, evS_retN, evS_if, kIf_t, kIf_f, kBody_ok, evS_for, kFor_ok, kWh_t, kWh_f, turnW_next, turnW_cont, turnW_brk, turnW_ret, evS_whl, evS_brk, evS_cont, evS_pass, evI_seq, kSeq_ok, kSeq'_ok, evI_enu, kEnu_ok, enumIts_lst, seqIts_lst, seqIts_tup, seqIts_str, seqIts_loc, kSqL_ok, enumIts_loc, kEnL_ok, kEnL'_ok, evI_rng1, evI_rng2, kR2_ok, kC1_ok, kC2_t, kC2_f, kC3_ok, evF_of_nil, evF_of_cons, kF_t, kF_f, kF_b, evT_comp, kCo_ok, kCo2_ok, evT_comp2, kCC_ok, kD1_ok, kD2_t, kD2_f, kD3_ok, add_int, sub_int, mod_int, add_str, mul_str, add_tup, add_lst, bin_loc, bin_lloc, kBP_add, mul_lst, lt_int, le_int, gt_int, ge_int, eq_int, ne_int, is_non, isnot_non, kP1_ok, kP2_ok, kP3_ok, peek_d, peek_loc, cmp_eq_loc, cmp_eq_l, cmp_eq_t, cmpD_eq, cmpD_ne, notin_d, in_loc, notin_loc, kInL_lst, kInL_dct, kInL2_ok, kInL3_f, kInL3_t, inD_lst, inD_tup, inD_ch, inD_dct, ix_lst, ixTup, kAt_ok, ixStr, kAtS_ok, ix_loc, kIxL_lst, kIxL_dct, kAtV_ok, ix_dct, kDk_ok, at0, at1, at2, at3, slcV_eq, kSc_lst, kSc_tup, kSc_str, len_lst, len_tup, len_str, len_loc, kLn_lst, kLn_dct, int_int, int_bl, list_eq, kLi_lst, kLi_tup, tuple_eq, kTu_lst, kTu_tup, sum_lst, all_lst, any_lst, max_lst, min_lst, max_2, min_2, is_loc, kIsL_lst, rcv_str, rcv_lst, bm_join, bm_app, bm_ext, bm_pop, bm_index, rcv_obj, rcv_loc, kRc_lst, kRc_ins, meth_loc, meth_d, app_d, app_loc, ext_d, pop_l, join_l, index_l, index_loc, leave_next, leave_next0, leave_d, leave_d0, leave_loc0, leave_rloc0, keep_next, keep_ret, keep_loc, mul_i64, fdiv_i64, pow_i64, kR1_i, kR3_i, ixN_nat, Int.toNat_natCast, Int.reduceToNat, List.length_map, List.getElem?_map, Int.toNat_zero, Int.toNat_one, ne_eq, Int.cast_ofNat_Int, List.map_map, Int.reducePow, decT, decF, List.map_set, if_true, if_false, Bool.false_eq_true, eq_self, kIte_ii, in_t, in_l, in_s, in_c, ofStr_eq, String.reduceEq, eqv_str, eqv_int, kC2_b, kIf_b, eq_ll, ne_ll, List.any_cons, List.any_nil, List.find?_cons_of_pos, List.find?_cons_of_neg, Bool.or_false, Bool.false_or, Bool.or_true, Bool.true_or, Bool.and_true, Bool.true_and, Bool.and_false, Bool.false_and, Option.map_some, inD_dct, Nat.reduceLeDiff, Nat.reduceEqDiff, ne_eq, not_false_eq_true, not_true_eq_false, List.all_cons, List.all_nil, flat_int, flat_str, flat_non, flat_bl, Int.reduceSub, Int.reduceAdd, Int.natCast_add, Int.cast_ofNat_Int, enumIts_tup, lenS1, take_A, embs_comp, dats_comp, cmp_ne_loc, $xs,*])
/-- the places behind messages -/
def plc (add : Int) : Nat → List Int → Int → List Int
  | 0, _, _ => []
  | _ + 1, [], _ => []
  | f + 1, c :: r, p => if c + add < 0 then [] else if (c + add).toNat ≤ r.length then (p + 1 + (c + add)) :: plc add f (r.drop (c + add).toNat) (p + 1 + (c + add)) else []
theorem plc_fuel (add : Int) : ∀ (f g : Nat) (cs : List Int) (p : Int), cs.length ≤ f → cs.length ≤ g → plc add f cs p = plc add g cs p
  | 0, g, cs, p, h1, h2 => by
    have : cs = [] := List.length_eq_zero_iff.mp (by omega)
    subst this
    cases g <;> rfl
  | f + 1, 0, cs, p, h1, h2 => by
    have : cs = [] := List.length_eq_zero_iff.mp (by omega)
    subst this
    rfl
  | f + 1, g + 1, [], p, _, _ => rfl
  | f + 1, g + 1, c :: r, p, h1, h2 => by
    unfold plc
    rw [List.length_cons] at h1 h2
    split
    · rfl
    · split
      · rw [plc_fuel add f g _ _ (by rw [List.length_drop]; omega) (by rw [List.length_drop]; omega)]
      · rfl
def pls (add : Int) (cs : List Int) (p : Int) : List Int := plc add cs.length cs p
theorem pls_nil (add p : Int) : pls add [] p = [] := rfl
theorem pls_cons (add : Int) (c : Int) (r : List Int) (p : Int) : pls add (c :: r) p = if c + add < 0 then [] else if (c + add).toNat ≤ r.length then (p + 1 + (c + add)) :: pls add (r.drop (c + add).toNat) (p + 1 + (c + add)) else [] := by
  unfold pls
  rw [List.length_cons]
  conv => lhs; unfold plc
  split
  · rfl
  · split
    · rw [plc_fuel add r.length (r.drop (c + add).toNat).length _ _ (by rw [List.length_drop]; omega) (Nat.le_refl _)]
    · rfl
theorem plc_len (add : Int) : ∀ (f : Nat) (cs : List Int) (p : Int), (plc add f cs p).length ≤ f
  | 0, _, _ => Nat.le_refl _
  | f + 1, [], _ => Nat.zero_le _
  | f + 1, c :: r, p => by
    unfold plc
    split
    · exact Nat.zero_le _
    · split
      · rw [List.length_cons]
        have := plc_len add f (r.drop (c + add).toNat) (p + 1 + (c + add))
        omega
      · exact Nat.zero_le _
theorem pls_len (add : Int) (cs : List Int) (p : Int) : (pls add cs p).length ≤ cs.length := plc_len add _ cs p
def M1 (add : Int) : List Mn := [.take 1, .skip add 2, .cut]
abbrev bgn : Sta := ⟨0, none, 1⟩
theorem begin1 (add : Int) : beginM (M1 add) 4 = some bgn := rfl
theorem step_take (add c : Int) : stepM (M1 add) 4 bgn c = if c + add < 0 then some (⟨-1, none, 0⟩, false, some 0) else if c + add = 0 then some (bgn, true, some 0) else some (⟨1, none, c + add⟩, false, some 0) := by
  have e : stepM (M1 add) 4 bgn c = match setl (M1 add) 4 1 (some c) false with
      | some (s', b) => some (s', b, some 0)
      | none => none := rfl
  have e2 : setl (M1 add) 4 1 (some c) false = if 0 < c + add then some (⟨1, none, c + add⟩, false) else if c + add = 0 then some (bgn, true) else some (⟨-1, none, 0⟩, false) := rfl
  rw [e, e2]
  by_cases h1 : c + add < 0
  · rw [if_pos h1, if_neg (by omega), if_neg (by omega)]
  · rw [if_neg h1]
    by_cases h2 : c + add = 0
    · rw [if_pos h2, if_neg (by omega), if_pos h2]
    · rw [if_pos (show 0 < c + add by omega), if_neg h2]
theorem step_skip (add k c : Int) : stepM (M1 add) 4 ⟨1, none, k⟩ c = if 1 < k then some (⟨1, none, k - 1⟩, false, none) else some (bgn, true, none) := rfl
/-- a skip gone through -/
theorem trace_skip (add : Int) : ∀ (r : List Int) (k : Nat) (p : Nat), (∀ p', ∃ t, traceM (M1 add) 4 bgn (r.drop (k + 1)) p' = some t ∧ t.cuts = pls add (r.drop (k + 1)) p') →
    ∃ t, traceM (M1 add) 4 ⟨1, none, ((k : Nat) : Int) + 1⟩ r p = some t ∧ t.cuts = if k + 1 ≤ r.length then ((p : Int) + k + 1) :: pls add (r.drop (k + 1)) ((p : Int) + k + 1) else []
  | [], k, p, h => ⟨⟨[], none, []⟩, rfl, by simp⟩
  | c :: r, 0, p, h => by
    obtain ⟨t, h1, h2⟩ := h (p + 1)
    have e : stepM (M1 add) 4 ⟨1, none, ((0 : Nat) : Int) + 1⟩ c = some (bgn, true, none) := by rw [step_skip]; rfl
    rw [List.drop_succ_cons, List.drop_zero] at h1 h2
    refine ⟨⟨cutL1 true p ++ t.cuts, t.ref, useL1 1 none ++ t.used⟩, ?_, ?_⟩
    · unfold traceM
      rw [e]
      dsimp only
      rw [if_neg (by decide), h1]
    · show ((p : Int) + 1) :: t.cuts = _
      rw [h2, List.drop_succ_cons, List.drop_zero, List.length_cons, if_pos (by omega)]
      have e3 : (((p + 1 : Nat)) : Int) = (p : Int) + ((0 : Nat) : Int) + 1 := by omega
      rw [e3]
      congr 1
  | c :: r, k + 1, p, h => by
    have e : stepM (M1 add) 4 ⟨1, none, (((k + 1 : Nat)) : Int) + 1⟩ c = some (⟨1, none, ((k : Nat) : Int) + 1⟩, false, none) := by
      rw [step_skip, if_pos (by omega)]
      have : (((k + 1 : Nat)) : Int) + 1 - 1 = ((k : Nat) : Int) + 1 := by omega
      rw [this]
    rw [List.drop_succ_cons] at h
    obtain ⟨t, h1, h2⟩ := trace_skip add r k (p + 1) h
    refine ⟨⟨cutL1 false p ++ t.cuts, t.ref, useL1 1 none ++ t.used⟩, ?_, ?_⟩
    · unfold traceM
      rw [e]
      dsimp only
      rw [if_neg (by omega), h1]
    · show t.cuts = _
      rw [h2, List.length_cons, List.drop_succ_cons]
      have e3 : (((p + 1 : Nat)) : Int) + (k : Int) + 1 = (p : Int) + ((k + 1 : Nat) : Int) + 1 := by omega
      rw [e3]
      by_cases hk : k + 1 ≤ r.length
      · rw [if_pos hk, if_pos (by omega)]
      · rw [if_neg hk, if_neg (by omega)]
theorem trace1 (add : Int) : ∀ (n : Nat) (cs : List Int) (p : Nat), cs.length ≤ n → ∃ t, traceM (M1 add) 4 bgn cs p = some t ∧ t.cuts = pls add cs p
  | n, [], p, _ => ⟨⟨[], none, []⟩, rfl, rfl⟩
  | 0, c :: r, p, h => by simp at h
  | n + 1, c :: r, p, h => by
    rw [List.length_cons] at h
    rw [pls_cons]
    by_cases h1 : c + add < 0
    · rw [if_pos h1]
      refine ⟨⟨cutL1 false p, some ((p : Int) + 1), useL1 0 (some 0)⟩, ?_, rfl⟩
      unfold traceM
      rw [step_take, if_pos h1]
      dsimp only
      rw [if_pos (by decide)]
    · rw [if_neg h1]
      by_cases h2 : c + add = 0
      · obtain ⟨t, h3, h4⟩ := trace1 add n r (p + 1) (by omega)
        refine ⟨⟨cutL1 true p ++ t.cuts, t.ref, useL1 0 (some 0) ++ t.used⟩, ?_, ?_⟩
        · unfold traceM
          rw [step_take, if_neg h1, if_pos h2]
          dsimp only
          rw [if_neg (by decide), h3]
        · show ((p : Int) + 1) :: t.cuts = _
          rw [h2, if_pos (by simp), h4]
          simp
      · obtain ⟨k, hk⟩ : ∃ k : Nat, c + add = (k : Int) + 1 := ⟨(c + add - 1).toNat, by omega⟩
        have hk2 : (c + add).toNat = k + 1 := by omega
        obtain ⟨t, h3, h4⟩ := trace_skip add r k (p + 1) (fun p' => trace1 add n _ p' (by rw [List.length_drop]; omega))
        refine ⟨⟨cutL1 false p ++ t.cuts, t.ref, useL1 0 (some 0) ++ t.used⟩, ?_, ?_⟩
        · unfold traceM
          rw [step_take, if_neg h1, if_neg h2]
          dsimp only
          rw [if_neg (by decide), hk, h3]
        · show t.cuts = _
          rw [h4, hk2, hk]
          have e3 : (((p + 1 : Nat)) : Int) + (k : Int) + 1 = (p : Int) + 1 + ((k : Int) + 1) := by omega
          rw [e3]
section
variable {P : Pg}
theorem places_ok [HFn P "_law_places" PF.f__law_places] (n : Nat) (cs : List Int) (add : Int) (h : ∀ c ∈ cs, 0 ≤ c) (hl : cs.length ≤ 1000) (st : Store) : ev P (n + 1) "_law_places" [.d (.lst (cs.map .int)), .d (.int add)] st = some (.ok (.d (.lst ((pls add cs 0).map .int))), st) := by
  rw [ev_fn, PF.r__law_places]
  simp_arith [PF.b__law_places]
  generalize hc : forF _ _ _ _ _ = z
  obtain ⟨ρ1, st1, rfl, pl, fd, a4, a5, rfl, rfl, h1, h2, h3⟩ := useF hc (fun i ρ s => ∃ (pl : Int) (fd : List Int) (a4 a5 : Option Vl), ρ = [some (.d (.lst (cs.map .int))), some (.d (.int add)), some (.loc st.length), some (.d (.int pl)), a4, a5] ∧ s = st ++ [.lst (fd.map fun i => .d (.int i))] ∧ 0 ≤ pl ∧ ((cs.length : Int) ≤ pl ∧ fd = pls add cs 0 ∨ pl < cs.length ∧ (i : Int) ≤ pl ∧ fd ++ pls add (cs.drop pl.toNat) pl = pls add cs 0) ∧ fd.length ≤ i) ⟨0, [], none, none, rfl, rfl, by omega, by
    by_cases hz : cs.length = 0
    · left
      have : cs = [] := List.length_eq_zero_iff.mp hz
      subst this
      exact ⟨by simp, rfl⟩
    · right
      exact ⟨by omega, by omega, rfl⟩, by simp⟩ (fun _ _ _ _ _ => trivial) (by
    rintro i v ρ s hv ⟨pl, fd, a4, a5, rfl, rfl, h0, h1, h2⟩
    obtain ⟨rfl, hi⟩ := get_rng hv
    have hi : i < cs.length := by simpa using hi
    rcases h1 with ⟨h1, h3⟩ | ⟨h1, h3, h4⟩
    · refine ⟨_, _, ?_, pl, fd, some (.d (.int (0 + (i : Int)))), a5, rfl, rfl, h0, .inl ⟨h1, h3⟩, by omega⟩
      simp_arith [bodyF_eq]
    · have hpl : pl.toNat < cs.length := by omega
      obtain ⟨c, hcc⟩ : ∃ c, cs[pl.toNat]? = some c := ⟨_, List.getElem?_eq_getElem hpl⟩
      have hd : cs.drop pl.toNat = c :: cs.drop (pl.toNat + 1) := by
        rw [List.drop_eq_getElem_cons hpl]
        congr 1
        exact (List.getElem?_eq_some_iff.mp hcc).2
      have hat : atI (cs.map D.int) pl = some (.int c) := by
        rw [atI_nat h0 (by rw [List.length_map]; omega), List.getElem?_map, hcc]
        rfl
      rw [hd, pls_cons] at h4
      by_cases hneg : c + add < 0
      · rw [if_pos hneg, List.append_nil] at h4
        refine ⟨_, _, ?_, (cs.length : Int) + 1, fd, some (.d (.int (0 + (i : Int)))), some (.d (.int (c + add))), rfl, rfl, by omega, .inl ⟨by omega, h4⟩, by omega⟩
        simp_arith [bodyF_eq, hat]
      · rw [if_neg hneg, List.length_drop, List.drop_drop] at h4
        by_cases hfit : (c + add).toNat ≤ cs.length - (pl.toNat + 1)
        · rw [if_pos hfit] at h4
          have e6 : pl.toNat + 1 + (c + add).toNat = (pl + 1 + (c + add)).toNat := by omega
          rw [e6] at h4
          have h7 : fd.length < 16777216 := by omega
          refine ⟨_, st ++ [.lst ((fd ++ [pl + 1 + (c + add)]).map fun i => .d (.int i))], ?_, pl + 1 + (c + add), fd ++ [pl + 1 + (c + add)], some (.d (.int (0 + (i : Int)))), some (.d (.int (c + add))), rfl, rfl, by omega, ?_, by simp; omega⟩
          · simp_arith [bodyF_eq, hat, List.map_append]
          · by_cases hend : pl + 1 + (c + add) < cs.length
            · exact .inr ⟨hend, by omega, by rw [← h4]; simp⟩
            · have e7 : cs.drop (pl + 1 + (c + add)).toNat = [] := List.drop_eq_nil_of_le (by omega)
              rw [e7, pls_nil] at h4
              exact .inl ⟨by omega, h4⟩
        · rw [if_neg hfit, List.append_nil] at h4
          refine ⟨_, _, ?_, pl + 1 + (c + add), fd, some (.d (.int (0 + (i : Int)))), some (.d (.int (c + add))), rfl, rfl, by omega, .inl ⟨by omega, h4⟩, by omega⟩
          simp_arith [bodyF_eq, hat])
  have hfd : fd = pls add cs 0 := by
    rcases h2 with ⟨_, h2⟩ | ⟨h2, h4, _⟩
    · exact h2
    · exfalso
      simp [rng_len] at h4
      omega
  subst hfd
  simp_arith [bnd_ok]
  exact leave_loc0 rfl rfl [] (by rw [toD_lst, datsM]; rfl)
end
end SP

end

section
set_option maxHeartbeats 0
namespace LW
open PySem SP
/-- law -/
def b_law : Ss := (.cons (.asg (.nm 1) (.loc (.lst (Ts.of [(.bor (.loc (.bi "list" (Ts.of [(.var 0)]))) (.loc (.lst (Ts.of [(.con (.int 0))])))), (.con (.int 0))]))))
  (.cons (.for_ (.nm 2) (.rng1 (.bi "max" (Ts.of [(.con (.int 1)), (.bi "min" (Ts.of [(.con (.int 4)), (.bi "len" (Ts.of [(.var 0)]))]))]))) (.cons (.asg (.nm 3) (.call "_law_names" (Ts.of [(.var 1), (.con (.int 3))])))
  (.cons (.asg (.nm 4) (.bin .sub (.call "_law_draw" (Ts.of [(.var 1), (.con (.int 8))])) (.con (.int 3))))
  (.cons (.asg (.nm 5) (.comp [6] (.call "_law_cell" (Ts.of [(.var 1)])) (.nm 6) (.rng1 (.call "_law_draw" (Ts.of [(.var 1), (.con (.int 40))]))) (Ts.of [])))
  (.cons (.asg (.nm 7) (.lst (Ts.of [(.tup (Ts.of [(.ix (.var 3) (.con (.int 0))), (.tup (Ts.of [(.con (.str (S! "take"))), (.ix (.var 3) (.con (.int 1)))]))])), (.tup (Ts.of [(.ix (.var 3) (.con (.int 1))), (.tup (Ts.of [(.con (.str (S! "skip"))), (.var 4), (.ix (.var 3) (.con (.int 2)))]))])), (.tup (Ts.of [(.ix (.var 3) (.con (.int 2))), (.tup (Ts.of [(.con (.str (S! "cut")))]))]))])))
  (.cons (.asg (.nm 8) (.call "Reader" (Ts.of [(.var 7)])))
  (.cons (.asg (.nm 9) (.call "_law_places" (Ts.of [(.var 5), (.var 4)])))
  (.cons (.asg (.nm 10) (.bi "list" (Ts.of [(.var 5)])))
  (.cons (.asg (.nm 11) (.call "cuts" (Ts.of [(.var 8), (.var 10)])))
  (.cons (.ite (.bor (.cmp .ne (.var 11) (.var 9)) (.bor (.not (.isin (.var 11) "list")) (.cmp .ne (.var 10) (.var 5)))) (.cons (.ret (.con (.bl false)))
  .nil) .nil)
  (.cons (.ite (.cmp .ne (.comp [12] (.var 12) (.nm 12) (.seq (.var 11)) (Ts.of [(.not (.isin (.var 12) "int"))])) (.lst (Ts.of []))) (.cons (.ret (.con (.bl false)))
  .nil) .nil)
  (.cons (.ex (.meth (.var 11) "append" (Ts.of [(.con (.int 0))])))
  (.cons (.ite (.bor (.cmp .ne (.call "cuts" (Ts.of [(.var 8), (.bi "tuple" (Ts.of [(.var 5)]))])) (.var 9)) (.cmp .ne (.call "cuts" (Ts.of [(.var 8), (.call "Row" (Ts.of [(.var 5)]))])) (.var 9))) (.cons (.ret (.con (.bl false)))
  .nil) .nil)
  .nil)))))))))))))
  (.cons (.ret (.con (.bl true)))
  .nil)))
def f_law : Fn where
  np := 1
  nn := 13
  dfl := []
  keep := false
  rloc := false
  body := b_law
theorem r_law {P : Pg} {c : Fns} {st : Store} (a0 : Vl) : runFn P c f_law [a0] st = kRun f_law st (evSs (P.cfg c) P.exF b_law [some a0, none, none, none, none, none, none, none, none, none, none, none, none] st) := run_eq rfl rfl

def gl : List (String × D) := [("MOST_LINES", .int 8), ("LETTERS", .str (S! "abcdefghijklmnopqrstuvwxyz")), ("MOST_VALUE", .int 5), ("READING", .tup [(.str (S! "case")), (.str (S! "take")), (.str (S! "rest")), (.str (S! "cap")), (.str (S! "jump"))]), ("MOST_CELLS", .int 1000), ("MOST_RUNS", .int 1000)]
def tabs : List (String × List (Str × Int)) := [("SIZES", [("case", 3), ("take", 2), ("rest", 3), ("cap", 3), ("jump", 3), ("set", 3), ("upto", 4), ("skip", 3), ("cut", 1), ("refuse", 1)]), ("LEAST", [("rest", 2), ("cap", 0), ("jump", 1), ("set", 0), ("upto", 0), ("skip", -3)]), ("GREATEST", [("rest", 4), ("cap", 5), ("jump", 4), ("set", 5), ("upto", 5), ("skip", 4)])]
def P : Pg where
  fns := [("law", LW.f_law), ("_law_names", PF.f__law_names), ("_law_word", PF.f__law_word), ("_law_draw", PF.f__law_draw), ("_law_cell", PF.f__law_cell), ("Reader.__init__", PF.f_Reader___init__), ("check_lines", PF.f_check_lines), ("fits_name", PF.f_fits_name), ("fits_line", PF.f_fits_line), ("fits_ways", PF.f_fits_ways), ("targets_of", PF.f_targets_of), ("tidy_line", PF.f_tidy_line), ("check_ways", PF.f_check_ways), ("silent_ways", PF.f_silent_ways), ("reached", PF.f_reached), ("begin", PF.f_begin), ("settle", PF.f_settle), ("_law_places", PF.f__law_places), ("cuts", PF.f_cuts), ("traced", PF.f_traced), ("step", PF.f_step), ("exit_of", PF.f_exit_of), ("kept_by", PF.f_kept_by), ("compiled", PF.f_compiled), ("Reader.names", PF.f_Reader_names), ("numbered", PF.f_numbered), ("Machine.__init__", PF.f_Machine___init__), ("cells_of", PF.f_cells_of), ("Row.cells", PF.f_Row_cells), ("Row.size", PF.f_Row_size), ("to_row", PF.f_to_row), ("Row.__init__", PF.f_Row___init__), ("check_cells", PF.f_check_cells), ("merged", PF.f_merged)]
  meths := [(("Reader", "__init__"), "Reader.__init__"), (("Reader", "names"), "Reader.names"), (("Machine", "__init__"), "Machine.__init__"), (("Row", "cells"), "Row.cells"), (("Row", "__init__"), "Row.__init__")]
  props := [(("Row", "size"), some "Row.size"), (("Reader", "lines"), none), (("Machine", "labels"), none), (("Machine", "lines"), none), (("Row", "runs"), none)]
  globs := gl ++ tabG tabs
  exFs := []
  clss := ["Reader", "Machine", "Row"]
  frzs := ["Reader", "Machine", "Row"]
  gfs := ["law", "_law_names", "_law_word", "_law_draw", "_law_cell", "check_lines", "fits_name", "fits_line", "fits_ways", "targets_of", "tidy_line", "check_ways", "silent_ways", "reached", "begin", "settle", "_law_places", "cuts", "traced", "step", "exit_of", "kept_by", "compiled", "numbered", "cells_of", "to_row", "check_cells", "merged"]
instance : HFn P "law" LW.f_law := ⟨rfl, rfl⟩
instance : HFn P "_law_names" PF.f__law_names := ⟨rfl, rfl⟩
instance : HFn P "_law_word" PF.f__law_word := ⟨rfl, rfl⟩
instance : HFn P "_law_draw" PF.f__law_draw := ⟨rfl, rfl⟩
instance : HFn P "_law_cell" PF.f__law_cell := ⟨rfl, rfl⟩
instance : HsC P "Reader" "Reader.__init__" PF.f_Reader___init__ true := ⟨rfl, rfl, rfl, rfl⟩
instance : HFn P "Reader.__init__" PF.f_Reader___init__ := ⟨rfl, rfl⟩
instance : HFn P "check_lines" PF.f_check_lines := ⟨rfl, rfl⟩
instance : HFn P "fits_name" PF.f_fits_name := ⟨rfl, rfl⟩
instance : HFn P "fits_line" PF.f_fits_line := ⟨rfl, rfl⟩
instance : HFn P "fits_ways" PF.f_fits_ways := ⟨rfl, rfl⟩
instance : HFn P "targets_of" PF.f_targets_of := ⟨rfl, rfl⟩
instance : HFn P "tidy_line" PF.f_tidy_line := ⟨rfl, rfl⟩
instance : HFn P "check_ways" PF.f_check_ways := ⟨rfl, rfl⟩
instance : HFn P "silent_ways" PF.f_silent_ways := ⟨rfl, rfl⟩
instance : HFn P "reached" PF.f_reached := ⟨rfl, rfl⟩
instance : HFn P "begin" PF.f_begin := ⟨rfl, rfl⟩
instance : HFn P "settle" PF.f_settle := ⟨rfl, rfl⟩
instance : HFn P "_law_places" PF.f__law_places := ⟨rfl, rfl⟩
instance : HFn P "cuts" PF.f_cuts := ⟨rfl, rfl⟩
instance : HFn P "traced" PF.f_traced := ⟨rfl, rfl⟩
instance : HFn P "step" PF.f_step := ⟨rfl, rfl⟩
instance : HFn P "exit_of" PF.f_exit_of := ⟨rfl, rfl⟩
instance : HFn P "kept_by" PF.f_kept_by := ⟨rfl, rfl⟩
instance : HFn P "compiled" PF.f_compiled := ⟨rfl, rfl⟩
instance : HFn P "Reader.names" PF.f_Reader_names := ⟨rfl, rfl⟩
instance : HFn P "numbered" PF.f_numbered := ⟨rfl, rfl⟩
instance : HsC P "Machine" "Machine.__init__" PF.f_Machine___init__ true := ⟨rfl, rfl, rfl, rfl⟩
instance : HFn P "Machine.__init__" PF.f_Machine___init__ := ⟨rfl, rfl⟩
instance : HFn P "cells_of" PF.f_cells_of := ⟨rfl, rfl⟩
instance : HFn P "Row.cells" PF.f_Row_cells := ⟨rfl, rfl⟩
instance : HFn P "Row.size" PF.f_Row_size := ⟨rfl, rfl⟩
instance : HFn P "to_row" PF.f_to_row := ⟨rfl, rfl⟩
instance : HsC P "Row" "Row.__init__" PF.f_Row___init__ true := ⟨rfl, rfl, rfl, rfl⟩
instance : HFn P "Row.__init__" PF.f_Row___init__ := ⟨rfl, rfl⟩
instance : HFn P "check_cells" PF.f_check_cells := ⟨rfl, rfl⟩
instance : HFn P "merged" PF.f_merged := ⟨rfl, rfl⟩
instance : HsM P "Reader" "__init__" "Reader.__init__" := ⟨rfl⟩
instance : HsM P "Reader" "names" "Reader.names" := ⟨rfl⟩
instance : HsM P "Machine" "__init__" "Machine.__init__" := ⟨rfl⟩
instance : HsM P "Row" "cells" "Row.cells" := ⟨rfl⟩
instance : HsM P "Row" "__init__" "Row.__init__" := ⟨rfl⟩
instance : HsP P "Row" "size" (some "Row.size") := ⟨rfl⟩
instance : HsP P "Reader" "lines" none := ⟨rfl⟩
instance : HsP P "Machine" "labels" none := ⟨rfl⟩
instance : HsP P "Machine" "lines" none := ⟨rfl⟩
instance : HsP P "Row" "runs" none := ⟨rfl⟩
instance : HsG P "MOST_LINES" (.int 8) := ⟨rfl⟩
instance : HsG P "LETTERS" (.str (S! "abcdefghijklmnopqrstuvwxyz")) := ⟨rfl⟩
instance : HsG P "MOST_VALUE" (.int 5) := ⟨rfl⟩
instance : HsG P "READING" (.tup [(.str (S! "case")), (.str (S! "take")), (.str (S! "rest")), (.str (S! "cap")), (.str (S! "jump"))]) := ⟨rfl⟩
instance : HsG P "MOST_CELLS" (.int 1000) := ⟨rfl⟩
instance : HsG P "MOST_RUNS" (.int 1000) := ⟨rfl⟩
instance : HsG P "SIZES" (.dct ([(S! "case", 3), (S! "take", 2), (S! "rest", 3), (S! "cap", 3), (S! "jump", 3), (S! "set", 3), (S! "upto", 4), (S! "skip", 3), (S! "cut", 1), (S! "refuse", 1)].map fun p => (.str p.1, .int p.2))) := ⟨rfl⟩
instance : HsG P "LEAST" (.dct ([(S! "rest", 2), (S! "cap", 0), (S! "jump", 1), (S! "set", 0), (S! "upto", 0), (S! "skip", -3)].map fun p => (.str p.1, .int p.2))) := ⟨rfl⟩
instance : HsG P "GREATEST" (.dct ([(S! "rest", 4), (S! "cap", 5), (S! "jump", 4), (S! "set", 5), (S! "upto", 5), (S! "skip", 4)].map fun p => (.str p.1, .int p.2))) := ⟨rfl⟩
instance : HsK P "Reader" true := ⟨rfl⟩
instance : HsK P "Machine" true := ⟨rfl⟩
instance : HsK P "Row" true := ⟨rfl⟩
instance : HsK P "int" false := ⟨rfl⟩
instance : HsK P "bool" false := ⟨rfl⟩
instance : HsK P "str" false := ⟨rfl⟩
instance : HsK P "tuple" false := ⟨rfl⟩
instance : HsK P "list" false := ⟨rfl⟩
end LW

end

section
set_option maxHeartbeats 1000000
namespace SP
open PySem
local macro_rules | `(tactic| simp_arith [$xs,*]) => `(tactic| simp (disch := first | assumption | omega | (with_unfolding_all rfl) | (simp only [List.length_map, List.length_append, List.length_cons, List.length_nil, List.length_range]; omega)) only [g0, gS, s0, sS, gA0, gA, sA0, sA, take_A, noErr_ok, finv, fin_l, finBv, finB_l, finB_t, glob_eq, meth_eq, prop_eq, cls_eq, cfg_call, cfg_glob, cfg_prop, cfg_meth, cfg_cls, List.map_cons, List.map_nil, List.append_assoc, List.cons_append, List.nil_append, List.replicate, Option.map_some, List.length_cons, List.length_nil, Nat.reduceAdd, Nat.reduceSub, Nat.zero_add, decide_true, decide_false, Bool.not_true, Bool.not_false, Its.items, wipeE, kTr_ok, fin_t', fin_tE, tr_bl, tr_int, tr_non, tr_lst, tr_tup, tr_str, tr_loc, kTrL_lst, kTrL_dct, isL_v, isL_l, isL_t, evT_con, evT_var, kVar_ok, evT_glo, kGlo_ok, evT_bin, kBin1_ok, kBin2_ok, evT_neg, kNeg_ok, evT_not_t, evT_not_v, kNotT_ok, kNotV_ok, kNot'_ok, evT_and_t, evT_and_v, evT_and_l, evT_or_t, evT_or_v, evT_or_l, kAndT_t, kAndT_f, kOrT_f, kOrT_t, kAndV_ok, kOrV_ok, kAndV'_t, kAndV'_f, kOrV'_t, kOrV'_f, evT_cmp, kCmp1_ok, kCmp2_ok, evT_chain, kCh1_ok, kCh2_ok, kCh3_t, kCh3_f, evT_ite, kIte_t, kIte_f, evTs_of_nil, evTs_of_cons, kTs1_ok, kTs2_ok, evT_tup, kTup_ok, kTup'_ok, embs_nil, embs_d, embs_loc, kEmb1_ok, kEmb2_ok, emb_d, emb_loc, kEmb_ok, bind_some', toD_lst, kToL_ok, toD_ins, kToO_ok, dats_nil, dats_cons, kDats_ok, datsM, dats_mapd, datf_nil, datf_cons, kDatf_ok, evT_lst, kLst_ok, mkList_t, mkList_f, kMk_ok, embs_mapd, embs_map, evT_dict0, evT_ix, kIx1_ok, kIx2_ok, evT_slc, kSl1_ok, kSl2_ok, kSl3_ok, evO_none, evO_some, kO_ok, evT_rev, kRev_ok, kRev'_ok, evT_fld, kFld_ok, fldV_obj, fldV_loc, kFdL_ok, fdV_eq, kFd_f, kFd_p, lookF_hit, lookF_nil, putF_hit, putF_nil, evT_call, kCall_ok, evT_bi, kBi_1, kBi_2, evT_isin, kIs_ok, kIs'_ok, evT_meth, kMe1_ok, kMe2_own, kMe2_str, kMe2_lst, kMeO_ok, kMeB_ok, callM_eq, kCM_ok, evT_loc, stG_nm, stG_tp, stGs_nil, stGs_cons, kGs_ok, stG_ix, kGi1_ok, kGi2_ok, kGi3_lst, kGi4_d, kGi4_loc, kGi3_dct_d, kGi3_dct_loc, evSs_nil, evSs_cons, kSs_next, kSs_ret, kSs_err, kSs_brk, kSs_cont, evS_ex, kEx_ok, evS_asg, kAsg_ok, kAsg'_ok, kAsg_err, evS_fset, kFs1_ok, kFs2_ok, kFs3_d, kFs3_loc, evS_par, kPar_2, kPar_3, evS_aug, kAug_ok, kAug2_ok, augI_add, augI_sub, evS_ret, kRet_ok, evS_retN, evS_if, kIf_t, kIf_f, kBody_ok, evS_for, kFor_ok, kWh_t, kWh_f, turnW_next, turnW_cont, turnW_brk, turnW_ret, evS_whl, evS_brk, evS_cont, evS_pass, evI_seq, kSeq_ok, kSeq'_ok, evI_enu, kEnu_ok, enumIts_lst, seqIts_lst, seqIts_tup, seqIts_str, seqIts_loc, kSqL_ok, enumIts_loc, kEnL_ok, kEnL'_ok, evI_rng1, evI_rng2, kR2_ok, kC1_ok, kC2_t, kC2_f, kC3_ok, evF_of_nil, evF_of_cons, kF_t, kF_f, kF_b, evT_comp, kCo_ok, kCo2_ok, evT_comp2, kCC_ok, kD1_ok, kD2_t, kD2_f, kD3_ok, add_int, sub_int, mod_int, add_str, mul_str, add_tup, add_lst, bin_loc, bin_lloc, kBP_add, mul_lst, lt_int, le_int, gt_int, ge_int, eq_int, ne_int, is_non, isnot_non, kP1_ok, kP2_ok, kP3_ok, peek_d, peek_loc, cmp_eq_loc, cmp_eq_l, cmp_eq_t, cmpD_eq, cmpD_ne, notin_d, in_loc, notin_loc, kInL_lst, kInL_dct, kInL2_ok, kInL3_f, kInL3_t, inD_lst, inD_tup, inD_ch, inD_dct, ix_lst, ixTup, kAt_ok, ixStr, kAtS_ok, ix_loc, kIxL_lst, kIxL_dct, kAtV_ok, ix_dct, kDk_ok, at0, at1, at2, at3, slcV_eq, kSc_lst, kSc_tup, kSc_str, len_lst, len_tup, len_str, len_loc, kLn_lst, kLn_dct, int_int, int_bl, list_eq, kLi_lst, kLi_tup, tuple_eq, kTu_lst, kTu_tup, sum_lst, all_lst, any_lst, max_lst, min_lst, max_2, min_2, is_loc, kIsL_lst, rcv_str, rcv_lst, bm_join, bm_app, bm_ext, bm_pop, bm_index, rcv_obj, rcv_loc, kRc_lst, kRc_ins, meth_loc, meth_d, app_d, app_loc, ext_d, pop_l, join_l, index_l, index_loc, leave_next, leave_next0, leave_d, leave_d0, leave_loc0, leave_rloc0, keep_next, keep_ret, keep_loc, mul_i64, fdiv_i64, pow_i64, kR1_i, kR3_i, ixN_nat, Int.toNat_natCast, Int.reduceToNat, List.length_map, List.getElem?_map, Int.toNat_zero, Int.toNat_one, ne_eq, Int.cast_ofNat_Int, List.map_map, Int.reducePow, decT, decF, List.map_set, if_true, if_false, Bool.false_eq_true, eq_self, kIte_ii, in_t, in_l, in_s, in_c, ofStr_eq, String.reduceEq, eqv_str, eqv_int, kC2_b, kIf_b, eq_ll, ne_ll, List.any_cons, List.any_nil, List.find?_cons_of_pos, List.find?_cons_of_neg, Bool.or_false, Bool.false_or, Bool.or_true, Bool.true_or, Bool.and_true, Bool.true_and, Bool.and_false, Bool.false_and, Option.map_some, inD_dct, Nat.reduceLeDiff, Nat.reduceEqDiff, ne_eq, not_false_eq_true, not_true_eq_false, List.all_cons, List.all_nil, flat_int, flat_str, flat_non, flat_bl, Int.reduceSub, Int.reduceAdd, Int.natCast_add, Int.cast_ofNat_Int, enumIts_tup, lenS1, take_A, embs_comp, dats_comp, cmp_ne_loc, $xs,*])
instance : HsG LW.P "LETTERS" (.str LET) := ⟨rfl⟩
instance : HsG LW.P "READING" readingD := ⟨rfl⟩
instance : HsG LW.P "SIZES" sizesD := ⟨rfl⟩
instance : HsG LW.P "LEAST" leastD := ⟨rfl⟩
instance : HsG LW.P "GREATEST" greatD := ⟨rfl⟩
def L1 (a b c : Str) (add : Int) : Rdr := [(a, .take b), (b, .skip add c), (c, .cut)]
theorem pos1 {a b c : Str} (h : [a, b, c].Nodup) : posOf [a, b, c] b = 1 ∧ posOf [a, b, c] c = 2 := by
  have h1 : a ≠ b := by intro e; subst e; simp at h
  have h2 : a ≠ c := by intro e; subst e; simp at h
  have h3 : b ≠ c := by intro e; subst e; simp at h
  constructor
  · simp [posOf, List.findIdx?_cons, h1]
  · simp [posOf, List.findIdx?_cons, h2, h3]
theorem rd1 {a b c : Str} (h : [a, b, c].Nodup) (ha : Nm a) (hb : Nm b) (hc : Nm c) {add : Int} (h1 : -3 ≤ add) (h2 : add ≤ 4) : RdOk (L1 a b c add) := by
  obtain ⟨p1, p2⟩ := pos1 h
  have e0 : nms (L1 a b c add) = [a, b, c] := rfl
  have s0' : sil (L1 a b c add) (.take b) = [] := rfl
  have s1' : sil (L1 a b c add) (.skip add c) = [2] := by
    show [posOf (nms (L1 a b c add)) c] = [2]
    rw [e0, p2]
  have s2' : sil (L1 a b c add) .cut = [] := rfl
  have hm : ∀ x ∈ L1 a b c add, x = (a, .take b) ∨ x = (b, .skip add c) ∨ x = (c, .cut) := fun x hx => by
    simpa [L1] using hx
  have hg : ∀ (i : Nat) x, (L1 a b c add)[i]? = some x → (i = 0 ∧ x = (a, .take b)) ∨ (i = 1 ∧ x = (b, .skip add c)) ∨ (i = 2 ∧ x = (c, .cut)) := fun i x hx => by
    match i, hx with
    | 0, hx => cases hx; exact .inl ⟨rfl, rfl⟩
    | 1, hx => cases hx; exact .inr (.inl ⟨rfl, rfl⟩)
    | 2, hx => cases hx; exact .inr (.inr ⟨rfl, rfl⟩)
    | i + 3, hx => cases hx
  refine ⟨(by omega : 1 ≤ 3), (by omega : 3 ≤ 8), ?_, h, ?_, ?_, ⟨fun i => if i = 1 then 1 else 0, ?_⟩, ⟨fun i => i = 0, rfl, ?_⟩⟩
  · intro x hx
    rcases hm x hx with rfl | rfl | rfl <;> assumption
  · intro x hx
    rcases hm x hx with rfl | rfl | rfl
    · trivial
    · exact ⟨h1, h2⟩
    · trivial
  · intro x hx t ht
    rw [e0]
    rcases hm x hx with rfl | rfl | rfl <;> simp [Ln.tg] at ht <;> subst ht <;> simp
  · intro i x hx j hj
    rcases hg i x hx with ⟨rfl, rfl⟩ | ⟨rfl, rfl⟩ | ⟨rfl, rfl⟩
    · rw [s0'] at hj; cases hj
    · rw [s1'] at hj
      have : j = 2 := by simpa using hj
      subst this
      decide
    · rw [s2'] at hj; cases hj
  · rintro i x hx rfl
    rcases hg 0 x hx with ⟨_, rfl⟩ | ⟨h, _⟩ | ⟨h, _⟩
    · exact ⟨rfl, fun j hj => by rw [s0'] at hj; cases hj⟩
    · cases h
    · cases h
theorem mc1 {a b c : Str} (h : [a, b, c].Nodup) (add : Int) : mcOf (L1 a b c add) = M1 add := by
  obtain ⟨p1, p2⟩ := pos1 h
  show [Mn.take (posOf [a, b, c] b), Mn.skip add (posOf [a, b, c] c), Mn.cut] = M1 add
  rw [p1, p2]
  rfl
section
variable {P : Pg} [HFn P "_law_draw" PF.f__law_draw] [HFn P "_law_word" PF.f__law_word] [HFn P "_law_names" PF.f__law_names] [HFn P "_law_cell" PF.f__law_cell] [HFn P "fits_name" PF.f_fits_name] [HsG P "LETTERS" (.str LET)] [HsG P "MOST_VALUE" (.int 5)] [HFn P "fits_ways" PF.f_fits_ways] [HFn P "fits_line" PF.f_fits_line] [HsG P "SIZES" sizesD] [HsG P "LEAST" leastD] [HsG P "GREATEST" greatD] [HFn P "targets_of" PF.f_targets_of] [HFn P "silent_ways" PF.f_silent_ways] [HsG P "READING" readingD] [HFn P "reached" PF.f_reached] [HFn P "check_ways" PF.f_check_ways] [HFn P "check_lines" PF.f_check_lines] [HFn P "tidy_line" PF.f_tidy_line] [HsG P "MOST_LINES" (.int 8)] [HsC P "Reader" "Reader.__init__" PF.f_Reader___init__ true] [HsP P "Reader" "lines" none] [HsP P "Row" "runs" none] [HsP P "Row" "size" (some "Row.size")] [HFn P "Row.size" PF.f_Row_size] [HFn P "check_cells" PF.f_check_cells] [HFn P "merged" PF.f_merged] [HsG P "MOST_RUNS" (.int 1000)] [HsC P "Row" "Row.__init__" PF.f_Row___init__ true] [HFn P "Row.cells" PF.f_Row_cells] [HsG P "MOST_CELLS" (.int 1000)] [HsK P "Row" true] [HsM P "Row" "cells" "Row.cells"] [HFn P "to_row" PF.f_to_row] [HFn P "cells_of" PF.f_cells_of] [HsP P "Machine" "lines" none] [HFn P "settle" PF.f_settle] [HFn P "exit_of" PF.f_exit_of] [HFn P "kept_by" PF.f_kept_by] [HFn P "step" PF.f_step] [HFn P "begin" PF.f_begin] [HFn P "traced" PF.f_traced] [HFn P "numbered" PF.f_numbered] [HFn P "Reader.names" PF.f_Reader_names] [HsM P "Reader" "names" "Reader.names"] [HFn P "compiled" PF.f_compiled] [HsC P "Machine" "Machine.__init__" PF.f_Machine___init__ true] [HsP P "Machine" "labels" none] [HFn P "cuts" PF.f_cuts] [HFn P "_law_places" PF.f__law_places]
theorem turn1 (m : Nat) (g : Store) {ns : List Int} {k K : Int} (p : PnOk ns k K) (hK : K ≤ 2 ^ 28) (R : Store) (v : Vl) (x0 x2 x3 x4 x5 x6 x7 x8 x9 x10 x11 x12 : Option Vl) (z : RS)
    (hz : bodyF (P.cfg (ev P (m + 20))) P.exF (.nm 2) (match LW.b_law with
      | .cons _ (.cons (.for_ _ _ b) _) => b
      | _ => .nil) v [x0, some (.loc (g.length + 1)), x2, x3, x4, x5, x6, x7, x8, x9, x10, x11, x12] (pn g ns k ++ R) = z) :
    ∃ ns' k' R' y2 y3 y4 y5 y6 y7 y8 y9 y10 y11 y12, PnOk ns' k' (K + 200) ∧ z = some (.next, [x0, some (.loc (g.length + 1)), y2, y3, y4, y5, y6, y7, y8, y9, y10, y11, y12], pn g ns' k' ++ R') := by
  subst hz
  obtain ⟨xs, ns1, k1, p1, hl, hnd, hnm, e1⟩ := names_ok (P := P) (m + 17) g p (by omega) 3 (by omega) R
  change ev P (m + 20) _ _ _ = _ at e1
  obtain ⟨a, b, c, rfl⟩ : ∃ a b c, xs = [a, b, c] := by
    match xs, hl with
    | [a, b, c], _ => exact ⟨a, b, c, rfl⟩
  have ha := hnm a (by simp)
  have hb := hnm b (by simp)
  have hcc := hnm c (by simp)
  obtain ⟨r, ns2, k2, p2, r0, r1, e2⟩ := draw_ok (P := P) (m + 19) g p1 (by omega) (many := 8) (by omega) (by omega) (R ++ [.lst ([a, b, c].map fun x => .d (.str x))])
  change ev P (m + 20) _ _ _ = _ at e2
  obtain ⟨q, ns3, k3, p3, m0, m1, e3⟩ := draw_ok (P := P) (m + 19) g p2 (by omega) (many := 40) (by omega) (by omega) (R ++ [.lst ([a, b, c].map fun x => .d (.str x))])
  change ev P (m + 20) _ _ _ = _ at e3
  have e1 : ev P (m + 20) "_law_names" [.loc (g.length + 1), .d (.int 3)] (pn g ns k ++ R) = some (.ok (.loc (R.length + (g.length + 2))), pn g ns1 k1 ++ (R ++ [.lst ([a, b, c].map fun x => .d (.str x))])) := e1
  simp only [List.map_cons, List.map_nil] at e1 e2 e3
  generalize hR1 : R ++ [MO.lst [.d (.str a), .d (.str b), .d (.str c)]] = R1 at e1 e2 e3
  have hn3 : ∀ (ns : List Int) (k : Int), (pn g ns k ++ R1)[R.length + (g.length + 2)]? = some (.lst [.d (.str a), .d (.str b), .d (.str c)]) := fun ns k => by rw [← hR1]; exact pg0
  have hrd := rd1 hnd ha hb hcc (add := r - 3) (by omega) (by omega)
  simp_arith [bodyF_eq, LW.b_law, e1, e2, e3]
  generalize hc : cmpF _ _ _ _ = z
  obtain ⟨ws, st1, rfl, hwl, hq, ns4, k4, p4, rfl⟩ := useC hc (fun i st => ∃ ns k, PnOk ns k (K + 44 + 3 * i) ∧ st = pn g ns k ++ R1) (fun v => ∃ c : Int, v = .d (.int c) ∧ 0 ≤ c) ⟨_, _, p3.mono (by omega), rfl⟩ (fun _ _ _ => trivial) (by
    rintro i v st hv hi ⟨ns, k, p, rfl⟩
    rw [rng_len] at hi
    obtain ⟨c, ns', k', p', c0, _, e4⟩ := cell_ok (P := P) (m + 18) g p (by omega) R1
    change ev P (m + 20) _ _ _ = _ at e4
    refine ⟨_, _, ?_, ⟨c, rfl, c0⟩, ns', k', p'.mono (by omega), rfl⟩
    simp_arith [eltC_eq, e4])
  obtain ⟨cs, rfl, hcs⟩ := vs_map (fun c : Int => .d (.int c)) _ ws hq
  rw [List.length_map, rng_len] at hwl
  have hcl : cs.length ≤ 40 := by omega
  rw [rng_len] at p4
  have ePl := places_ok (P := P) (m + 19) cs (r - 3) hcs (by omega) (pn g ns4 k4 ++ R1)
  change ev P (m + 20) _ _ _ = _ at ePl
  have eRd : ev P (m + 20) "Reader" [.d (seqD true ((L1 a b c (r - 3)).map (lnD false)))] (pn g ns4 k4 ++ R1) = some (.ok (.d (rdD (L1 a b c (r - 3)))), pn g ns4 k4 ++ R1) := reader_ok (P := P) (m + 16) true false hrd (pn g ns4 k4 ++ R1)
  generalize hrD : rdD (L1 a b c (r - 3)) = RD at eRd
  simp only [seqD, if_true, L1, List.map_cons, List.map_nil, lnD, Ln.raw] at eRd
  obtain ⟨t, ht, htc⟩ := trace1 (r - 3) cs.length cs 0 (Nat.le_refl _)
  have htl : t.cuts.length ≤ 1000 := by rw [htc]; have := pls_len (r - 3) cs ((0 : Nat) : Int); omega
  have hb0 : beginM (mcOf (L1 a b c (r - 3))) 4 = some bgn := by rw [mc1 hnd]; exact begin1 _
  have ht0 : traceM (mcOf (L1 a b c (r - 3))) 4 bgn cs 0 = some t := by rw [mc1 hnd]; exact ht
  have hpl : pls (r - 3) cs 0 = t.cuts := htc.symm
  rw [hpl] at ePl
  -- the three calls of cuts
  have c1 : ∀ st, ev P (m + 20) "cuts" [.d RD, .d (.lst (cs.map .int))] st = some (.ok (.loc st.length), st ++ [.lst (t.cuts.map fun i => .d (.int i))]) := fun st => by
    rw [← hrD]
    exact cuts_call (P := P) (m + 15) hrd cs (by omega) hb0 ht0 htl _ st (cells_seq (P := P) (m + 15) true cs hcs (by omega) st)
  have c2 : ∀ st, ev P (m + 20) "cuts" [.d RD, .d (.tup (cs.map .int))] st = some (.ok (.loc st.length), st ++ [.lst (t.cuts.map fun i => .d (.int i))]) := fun st => by
    rw [← hrD]
    exact cuts_call (P := P) (m + 15) hrd cs (by omega) hb0 ht0 htl _ st (cells_seq (P := P) (m + 15) false cs hcs (by omega) st)
  have c3 : ∀ st, ev P (m + 20) "cuts" [.d RD, .d (rowD (mrgC cs))] st = some (.ok (.loc st.length), st ++ [.lst (t.cuts.map fun i => .d (.int i))]) := fun st => by
    rw [← hrD]
    have hlen := mrg_len (cs.map fun c => (1, c)) []
    rw [List.length_map] at hlen
    simp only [List.length_nil, Nat.zero_add] at hlen
    have := cells_row (P := P) (m + 15) (mrgC cs) (by unfold mrgC mrg; omega) (fun r hr => by have := mrg_pos _ r hr; omega) (by rw [mrgC_size]; omega) st
    rw [mrgC_cells] at this
    exact cuts_call (P := P) (m + 15) hrd cs (by omega) hb0 ht0 htl _ st this
  have cR : ∀ st, ev P (m + 20) "Row" [.d (.lst (cs.map .int))] st = some (.ok (.d (rowD (mrgC cs))), st) := fun st => row1_ok (P := P) (m + 18) true cs hcs (by omega) st
  have n1 : ∀ l : List Int, cmpD .ne (.lst (l.map .int)) (.lst (l.map .int)) = some false := fun l => by
    rw [cmpD_ne (shp_ints l) (shp_ints l), eqv_self (nb_lst fun d hd => by obtain ⟨x, _, rfl⟩ := List.mem_map.mp hd; rfl)]
    rfl
  have n2 : ∀ (l : List Int) (G : Cfg) (st : Store), cmpV G .ne (.d (.lst (l.map .int))) (.d (.lst (l.map .int))) st = some (.ok (.d (.bl false)), st) := fun l G st => by
    rw [ne_d (shp_ints l) (shp_ints l), eqv_self (nb_lst fun d hd => by obtain ⟨x, _, rfl⟩ := List.mem_map.mp hd; rfl)]
    rfl
  have n3 : ∀ (G : Cfg) (st : Store), cmpV G .ne (.d (.lst [])) (.d (.lst [])) st = some (.ok (.d (.bl false)), st) := fun G st => rfl
  have kIsL_list : ∀ (G : Cfg) (xs : List Vl), kIsL G "list" (some (.lst xs)) = some true := fun _ _ => rfl
  have d1 : dats (t.cuts.map fun i => Vl.d (.int i)) = some (t.cuts.map .int) := datsM _ _
  have l1 : ∀ (G : Cfg) (st : Store) (n : Nat), isV G st "list" (.loc n) = kIsL G "list" st[n]? := fun G st n => is_loc n rfl
  have l2 : ∀ (G : Cfg) (st : Store) (i : Int), isV G st "int" (.d (.int i)) = some true := fun G st i => by rw [is_bt _ rfl]; rfl
  simp_arith [eRd, ePl, c1, c2, c3, cR, hn3, pn_len, pg0, ps0, n1, n2, n3, d1, l1, l2, cmpP_eq, kIsL_list, embs_map]
  generalize hc : cmpF _ _ _ _ = z
  have h2 := useFil hc t.cuts (fun i => .d (.int i)) (fun _ => false) (fun i => .d (.int i)) rfl (by show _ = _; exact pg0) (by
    intro i hi
    simp_arith [eltC_eq, l2])
  rw [show t.cuts.filter (fun _ => false) = [] by simp] at h2
  subst h2
  have d2 : dats ((t.cuts.map fun i => Vl.d (.int i)) ++ [.d (.int 0)]) = some (t.cuts.map .int ++ [.int 0]) := dats_app _ _ d1 rfl
  simp_arith [eRd, ePl, c1, c2, c3, cR, hn3, pn_len, pg0, pg1, ps0, n1, n2, n3, d1, l1, l2, cmpP_eq, kIsL_list, embs_map, List.length_append]
  exact ⟨ns4, k4, _, _, _, _, _, _, _, _, _, _, _, _, p4.mono (by omega), rfl⟩
theorem law_ev (m : Nat) (ns : List Int) (hl : ns.length ≤ 63) : runFn P (ev P (m + 20)) LW.f_law [.d (.lst (ns.map .int))] [] = some (.ok (.d (.bl true)), []) := by
  rw [LW.r_law]
  obtain ⟨g, ns0, p0, hpen⟩ : ∃ (g : Store) (ns0 : List Int), PnOk ns0 0 0 ∧ ∀ (G : Cfg) (ρ : Env), ρ[0]? = some (some (.d (.lst (ns.map .int)))) → evT G (.loc (.lst (Ts.of [(.bor (.loc (.bi "list" (Ts.of [(.var 0)]))) (.loc (.lst (Ts.of [(.con (.int 0))])))), (.con (.int 0))]))) .v ρ [] = some (.ok (.loc (g.length + 1)), pn g ns0 0 ++ []) := by
    cases ns with
    | nil =>
      refine ⟨[.lst []], [0], ⟨by simp, by simp, by omega, by omega⟩, fun G ρ h => ?_⟩
      simp_arith [h]
      rfl
    | cons x r =>
      refine ⟨[], x :: r, ⟨by simp, hl, by omega, by omega⟩, fun G ρ h => ?_⟩
      have h3 : ∀ k : Nat, decide (¬ (k + 1 = 0)) = true := fun k => by simp
      have h4 : r.length + 1 ≤ 16777216 := by rw [List.length_cons] at hl; omega
      simp_arith [h, h3]
      rfl
  have hr : ∃ q : Int, -4611686018427387904 ≤ q ∧ q < 4611686018427387904 ∧ q.toNat ≤ 4 ∧ ∀ (G : Cfg) (ρ : Env) (st : Store), ρ[0]? = some (some (.d (.lst (ns.map .int)))) → evT G (.bi "max" (Ts.of [(.con (.int 1)), (.bi "min" (Ts.of [(.con (.int 4)), (.bi "len" (Ts.of [(.var 0)]))]))])) .v ρ st = some (.ok (.d (.int q)), st) := by
    refine ⟨if (if (ns.length : Int) < 4 then (ns.length : Int) else 4) > 1 then (if (ns.length : Int) < 4 then (ns.length : Int) else 4) else 1, ?_, ?_, ?_, fun G ρ st h => ?_⟩
    · split <;> split <;> omega
    · split <;> split <;> omega
    · split <;> split <;> omega
    · simp_arith [h]
  obtain ⟨q, q1, q2, q3, hq⟩ := hr
  simp_arith [LW.b_law, hpen, hq]
  generalize hc : forF _ _ _ _ _ = z
  obtain ⟨ρ1, st1, rfl, ns', k', R', y2, y3, y4, y5, y6, y7, y8, y9, y10, y11, y12, _, rfl, rfl⟩ := useF hc (fun i ρ s => ∃ ns' k' R' y2 y3 y4 y5 y6 y7 y8 y9 y10 y11 y12, PnOk ns' k' (200 * (i : Int)) ∧ ρ = [some (.d (.lst (ns.map .int))), some (.loc (g.length + 1)), y2, y3, y4, y5, y6, y7, y8, y9, y10, y11, y12] ∧ s = pn g ns' k' ++ R') ⟨ns0, 0, [], _, _, _, _, _, _, _, _, _, _, _, p0.mono (by omega), rfl, rfl⟩ (fun _ _ _ _ _ => trivial) (by
    rintro i v ρ s hv ⟨ns', k', R', y2, y3, y4, y5, y6, y7, y8, y9, y10, y11, y12, p, rfl, rfl⟩
    have hi := (get_rng hv).2
    obtain ⟨ns2, k2, R2, z2, z3, z4, z5, z6, z7, z8, z9, z10, z11, z12, p2, e⟩ := turn1 (P := P) m g p (by omega) R' v (some (.d (.lst (ns.map .int)))) y2 y3 y4 y5 y6 y7 y8 y9 y10 y11 y12 _ rfl
    exact ⟨_, _, e, ns2, k2, R2, z2, z3, z4, z5, z6, z7, z8, z9, z10, z11, z12, p2.mono (by omega), rfl, rfl⟩)
  simp_arith [bnd_ok]
  exact leave_d (st := []) rfl _ _
end
theorem hev (ns : List Int) (hl : ns.length ≤ 63) : runFn LW.P (ev LW.P 20) LW.f_law [.d (.lst (ns.map .int))] [] = some (.ok (.d (.bl true)), []) := law_ev (P := LW.P) 0 ns hl
end SP

end

section
set_option maxHeartbeats 1000000
namespace SP
open PySem PySem.Spec PyProof.Rows L2

/-- what the program's text says once for all -/
structure En where
  K : PySem.W.Frag
  w : World
  /-- a class's address -/
  cl : String → Addr
  /-- a def's address; a property's -/
  fa : String → Addr
  pa : String → Addr


theorem S_inj {f g : String} (q : S! f = S! g) : f = g := by
  have q1 := congrArg (fun s : Str => s.cps.toList) q
  have q2 : f.toList.map Char.toNat = g.toList.map Char.toNat := by
    have e1 := Str.ofString_eq_toList f
    have e2 := Str.ofString_eq_toList g
    simp only [e1, e2] at q1
    simpa using q1
  exact String.toList_inj.mp ((List.map_inj_right fun a b hab => Char.ext (UInt32.toNat_inj.mp hab)).mp q2)
theorem S_eq {f g : String} : S! f = S! g ↔ f = g := ⟨S_inj, fun h => by rw [h]⟩
/-- a list that may be read: tracked, or of the module -/
def RdK (K : PySem.W.Frag) (F : Hp) (a : Addr) (vs : List V) : Prop := Rd F a (.lst vs) ∨ ∃ (its : Array Value) (n : Nat), K.lookup a = some { cls := .type "list", data := .seq its n } ∧ its.size ≤ sizeLine ∧ Vals vs its.toList
theorem RdK.same {K : PySem.W.Frag} {F F' : Hp} {a : Addr} {vs : List V} (s : Same F F') (h : RdK K F a vs) : RdK K F' a vs := by
  rcases h with (h | ⟨o, h⟩) | h
  · exact .inl (.inl (s _ _ h))
  · exact .inl (.inr ⟨o, s _ _ h⟩)
  · exact .inr h
theorem RdK.sq {K : PySem.W.Frag} {F : Hp} {a : Addr} {vs : List V} (h : RdK K F a vs) : SqL K F a vs := by
  rcases h with h | ⟨its, n, h1, h2, h3⟩
  · exact .inl h
  · exact .inr ⟨_, its, n, h1, rfl, rfl, rfl, h2, h3⟩
section
variable (Z : En)
mutual
/-- the data d stands in the frozen heap as the value v -/
inductive RepD (F : Hp) : D → V → Prop
  | non : RepD F .non .non
  | bl (b : Bool) : RepD F (.bl b) (.bl b)
  | int (i : Int) : RepD F (.int i) (.int i)
  | str (x : Str) : RepD F (.str x) (.str x)
  | tup {ds : List D} {a : Addr} {vs : List V} : SqT Z.K F a vs → RepDs F ds vs → RepD F (.tup ds) (.ref a)
  | lst {ds : List D} {a : Addr} {vs : List V} : RdK Z.K F a vs → RepDs F ds vs → RepD F (.lst ds) (.ref a)
  | obj {C : String} {fs : List (String × D)} {a dx : Addr} {gs : List (Str × V)} : F a = some (.ins (Z.cl C) dx gs) → F dx = some (.own a) → RepFs F fs gs → RepD F (.obj C fs) (.ref a)
  | dctW {kvs : List (Str × Int)} {a : Addr} {es : Array DictEntry} {n : Nat} : KDict Z.K Z.w a es n → (∀ k : Str, (∃ i t, kvs.lookup k = some i ∧ PySem.W.nsIn Z.K a k = some (some (.int i t))) ∨ (kvs.lookup k = none ∧ PySem.W.nsIn Z.K a k = some none)) → RepD F (.dct (kvs.map fun p => (.str p.1, .int p.2))) (.ref a)
inductive RepDs (F : Hp) : List D → List V → Prop
  | nil : RepDs F [] []
  | cons {d : D} {v : V} {ds : List D} {vs : List V} : RepD F d v → RepDs F ds vs → RepDs F (d :: ds) (v :: vs)
inductive RepFs (F : Hp) : List (String × D) → List (Str × V) → Prop
  | nil : RepFs F [] []
  | cons {f : String} {d : D} {v : V} {fs : List (String × D)} {gs : List (Str × V)} : RepD F d v → RepFs F fs gs → RepFs F ((f, d) :: fs) ((S! f, v) :: gs)
end
end

/-- where things stand: frozen, located, others that nobody touches -/
structure Wd where
  F : Hp
  ι : Nat → Option Addr
  O : Hp
structure Le (w w' : Wd) : Prop where
  F : Same w.F w'.F
  ι : ∀ n a, w.ι n = some a → w'.ι n = some a
  O : w'.O = w.O
theorem Le.refl (w : Wd) : Le w w := ⟨Same.refl _, fun _ _ h => h, rfl⟩
theorem Le.trans {a b c : Wd} (h : Le a b) (k : Le b c) : Le a c := ⟨h.F.trans k.F, fun n x e => k.ι n x (h.ι n x e), k.O.trans h.O⟩

section
variable {Z : En}
mutual
theorem RepD.mono {F F' : Hp} (h : Same F F') : ∀ {d : D} {v : V}, RepD Z F d v → RepD Z F' d v
  | _, _, .non => .non
  | _, _, .bl b => .bl b
  | _, _, .int i => .int i
  | _, _, .str x => .str x
  | _, _, .tup q r => .tup (by
      rcases q with (q | ⟨o, q⟩) | q
      · exact .inl (.inl (h _ _ q))
      · exact .inl (.inr ⟨o, h _ _ q⟩)
      · exact .inr q) (RepDs.mono h r)
  | _, _, .lst q r => .lst (q.same h) (RepDs.mono h r)
  | _, _, .obj q o r => .obj (h _ _ q) (h _ _ o) (RepFs.mono h r)
  | _, _, .dctW q r => .dctW q r
theorem RepDs.mono {F F' : Hp} (h : Same F F') : ∀ {d : List D} {v : List V}, RepDs Z F d v → RepDs Z F' d v
  | _, _, .nil => .nil
  | _, _, .cons a r => .cons (RepD.mono h a) (RepDs.mono h r)
theorem RepFs.mono {F F' : Hp} (h : Same F F') : ∀ {d : List (String × D)} {v : List (Str × V)}, RepFs Z F d v → RepFs Z F' d v
  | _, _, .nil => .nil
  | _, _, .cons a r => .cons (RepD.mono h a) (RepFs.mono h r)
end
theorem RepDs.length {F : Hp} : ∀ {ds : List D} {vs : List V}, RepDs Z F ds vs → ds.length = vs.length
  | _, _, .nil => rfl
  | _, _, .cons _ r => congrArg Nat.succ r.length
theorem RepDs.get {F : Hp} : ∀ {ds : List D} {vs : List V} {i : Nat} {d : D}, RepDs Z F ds vs → ds[i]? = some d → ∃ v, vs[i]? = some v ∧ RepD Z F d v
  | _, _, _, _, .nil, e => by simp at e
  | _, _, 0, _, .cons r _, e => by simp at e; subst e; exact ⟨_, rfl, r⟩
  | _, _, i + 1, d, .cons _ t, e => by
    obtain ⟨v, h1, h2⟩ := RepDs.get (i := i) (d := d) t (by simpa using e)
    exact ⟨v, by simpa using h1, h2⟩
theorem RepDs.get' {F : Hp} : ∀ {ds : List D} {vs : List V} {i : Nat} {v : V}, RepDs Z F ds vs → vs[i]? = some v → ∃ d, ds[i]? = some d ∧ RepD Z F d v
  | _, _, _, _, .nil, e => by simp at e
  | _, _, 0, _, .cons r _, e => by simp at e; subst e; exact ⟨_, rfl, r⟩
  | _, _, i + 1, d, .cons _ t, e => by
    obtain ⟨v, h1, h2⟩ := RepDs.get' (i := i) (v := d) t (by simpa using e)
    exact ⟨v, by simpa using h1, h2⟩
theorem RepDs.append {F : Hp} : ∀ {ds es : List D} {vs us : List V}, RepDs Z F ds vs → RepDs Z F es us → RepDs Z F (ds ++ es) (vs ++ us)
  | _, _, _, _, .nil, s => s
  | _, _, _, _, .cons r t, s => .cons r (RepDs.append t s)
theorem RepDs.take {F : Hp} : ∀ {ds : List D} {vs : List V} (n : Nat), RepDs Z F ds vs → RepDs Z F (ds.take n) (vs.take n)
  | _, _, 0, _ => .nil
  | _, _, _ + 1, .nil => .nil
  | _, _, n + 1, .cons r t => .cons r (RepDs.take n t)
theorem RepDs.drop {F : Hp} : ∀ {ds : List D} {vs : List V} (n : Nat), RepDs Z F ds vs → RepDs Z F (ds.drop n) (vs.drop n)
  | _, _, 0, r => r
  | _, _, _ + 1, .nil => .nil
  | _, _, n + 1, .cons _ t => RepDs.drop n t
theorem RepDs.reverse {F : Hp} : ∀ {ds : List D} {vs : List V}, RepDs Z F ds vs → RepDs Z F ds.reverse vs.reverse
  | _, _, .nil => .nil
  | _, _, .cons r t => by
    rw [List.reverse_cons, List.reverse_cons]
    exact (RepDs.reverse t).append (.cons r .nil)
theorem RepDs.flatrep {F : Hp} {ds : List D} {vs : List V} (r : RepDs Z F ds vs) : ∀ n : Nat, RepDs Z F (List.replicate n ds).flatten (List.replicate n vs).flatten
  | 0 => .nil
  | n + 1 => by
    rw [List.replicate_succ, List.flatten_cons, List.replicate_succ, List.flatten_cons]
    exact r.append (RepDs.flatrep r n)
theorem RepFs.look {F : Hp} : ∀ {fs : List (String × D)} {gs : List (Str × V)} {f : String} {d : D}, RepFs Z F fs gs → lookF f fs = some d → ∃ v, gs.lookup (S! f) = some v ∧ RepD Z F d v
  | _, _, _, _, .nil, e => by cases e
  | _, _, f, d, .cons (f := g) (d := d0) (v := v0) (fs := fs) (gs := gs) a r, e => by
    unfold lookF at e
    rw [List.lookup_cons]
    by_cases h : f = g
    · subst h
      rw [if_pos rfl] at e
      cases e
      exact ⟨v0, by simp, a⟩
    · rw [if_neg h] at e
      have hne : (S! f == S! g) = false := beq_eq_false_iff_ne.mpr fun q => h (S_inj q)
      rw [hne]
      exact RepFs.look r e
theorem RepFs.none {F : Hp} : ∀ {fs : List (String × D)} {gs : List (Str × V)} {f : String}, RepFs Z F fs gs → lookF f fs = none → gs.lookup (S! f) = none
  | _, _, _, .nil, e => rfl
  | _, _, f, .cons (f := g) (d := d0) (v := v0) (fs := fs) (gs := gs) a r, e => by
    unfold lookF at e
    rw [List.lookup_cons]
    by_cases h : f = g
    · subst h
      rw [if_pos rfl] at e
      cases e
    · rw [if_neg h] at e
      have hne : (S! f == S! g) = false := beq_eq_false_iff_ne.mpr fun q => h (S_inj q)
      rw [hne]
      exact RepFs.none r e
end

section
variable (Z : En)
/-- a value of a slot -/
def RepV (w : Wd) : Vl → V → Prop
  | .d d, v => RepD Z w.F d v
  | .loc n, v => ∃ a, w.ι n = some a ∧ v = .ref a
  | .exc _, _ => False
inductive RepVs (w : Wd) : List Vl → List V → Prop
  | nil : RepVs w [] []
  | cons {x : Vl} {v : V} {xs : List Vl} {vs : List V} : RepV Z w x v → RepVs w xs vs → RepVs w (x :: xs) (v :: vs)
inductive RepGs (w : Wd) : List (String × Vl) → List (Str × V) → Prop
  | nil : RepGs w [] []
  | cons {f : String} {d : Vl} {v : V} {fs : List (String × Vl)} {gs : List (Str × V)} : RepV Z w d v → RepGs w fs gs → RepGs w ((f, d) :: fs) ((S! f, v) :: gs)
def keyK : D → Option Key
  | .int i => some (.inl i)
  | .str x => some (.inr x)
  | _ => none
/-- the pairs of a dict whose keys are ints and texts -/
inductive RepK (w : Wd) : List (D × Vl) → List (Key × V) → Prop
  | nil : RepK w [] []
  | cons {d : D} {k : Key} {x : Vl} {v : V} {r : List (D × Vl)} {s : List (Key × V)} : keyK d = some k → RepV Z w x v → RepK w r s → RepK w ((d, x) :: r) ((k, v) :: s)
/-- what stands at the place of a located object -/
def ObjAt (w : Wd) (H : Hp) (a : Addr) : MO → Prop
  | .dead => True
  | .lst xs => ∃ vs, H a = some (.lst vs) ∧ RepVs Z w xs vs
  | .dct kvs => ∃ ks, H a = some (.dK ks) ∧ RepK Z w kvs ks ∧ ks.length ≤ sizeLine
  | .ins C fs => ∃ dx gs, H a = some (.ins (Z.cl C) dx gs) ∧ w.F dx = some (.own a) ∧ RepGs Z w fs gs
/-- the heap is as the world and the store say -/
structure Sat (w : Wd) (st : Store) (H : Hp) : Prop where
  F : Same w.F H
  O : Same w.O H
  obj : ∀ n o, st[n]? = some o → ∃ a, w.ι n = some a ∧ (o ≠ .dead → w.F a = none ∧ w.O a = none) ∧ ObjAt Z w H a o
  dom : ∀ n a, w.ι n = some a → n < st.length
  inj : ∀ n m a o p, w.ι n = some a → w.ι m = some a → st[n]? = some o → st[m]? = some p → o ≠ .dead → p ≠ .dead → n = m
  apart : ∀ a o, w.O a = some o → ∀ n, st[n]? ≠ some .dead → w.ι n ≠ some a
  fo : ∀ a o, w.O a = some o → w.F a = none
/-- the slots -/
def Slots (w : Wd) (ρ : SP.Env) (σ : L2.St) : Prop := ∀ (i : Nat) (x : Vl), ρ[i]? = some (some x) → ∃ v, σ[i]? = some (some v) ∧ RepV Z w x v
end
section
variable {Z : En}
theorem RepV.mono {w w' : Wd} (h : Le w w') : ∀ {x : Vl} {v : V}, RepV Z w x v → RepV Z w' x v
  | .d _, _, r => RepD.mono h.F r
  | .loc _, _, ⟨a, e, q⟩ => ⟨a, h.ι _ _ e, q⟩
  | .exc _, _, r => r
theorem RepVs.mono {w w' : Wd} (h : Le w w') : ∀ {x : List Vl} {v : List V}, RepVs Z w x v → RepVs Z w' x v
  | _, _, .nil => .nil
  | _, _, .cons a r => .cons (RepV.mono h a) (RepVs.mono h r)
theorem RepGs.mono {w w' : Wd} (h : Le w w') : ∀ {x : List (String × Vl)} {v : List (Str × V)}, RepGs Z w x v → RepGs Z w' x v
  | _, _, .nil => .nil
  | _, _, .cons a r => .cons (RepV.mono h a) (RepGs.mono h r)
theorem RepK.mono {w w' : Wd} (h : Le w w') : ∀ {x : List (D × Vl)} {v : List (Key × V)}, RepK Z w x v → RepK Z w' x v
  | _, _, .nil => .nil
  | _, _, .cons e a r => .cons e (RepV.mono h a) (RepK.mono h r)
theorem Slots.mono {w w' : Wd} (h : Le w w') {ρ : SP.Env} {σ : L2.St} (s : Slots Z w ρ σ) : Slots Z w' ρ σ := fun i x e => by
  obtain ⟨v, e1, r⟩ := s i x e
  exact ⟨v, e1, r.mono h⟩
theorem ObjAt.mono {w w' : Wd} (h : Le w w') {H H' : Hp} {a : Addr} (hH : H' a = H a) : ∀ {o : MO}, ObjAt Z w H a o → ObjAt Z w' H' a o
  | .dead, _ => trivial
  | .lst _, ⟨vs, e, r⟩ => ⟨vs, hH.trans e, r.mono h⟩
  | .dct _, ⟨ks, e, r, z⟩ => ⟨ks, hH.trans e, r.mono h, z⟩
  | .ins _ _, ⟨dx, gs, e, o, r⟩ => ⟨dx, gs, hH.trans e, h.F _ _ o, r.mono h⟩
theorem RepVs.length {w : Wd} : ∀ {ds : List Vl} {vs : List V}, RepVs Z w ds vs → ds.length = vs.length
  | _, _, .nil => rfl
  | _, _, .cons _ r => congrArg Nat.succ r.length
theorem RepVs.get {w : Wd} : ∀ {ds : List Vl} {vs : List V} {i : Nat} {d : Vl}, RepVs Z w ds vs → ds[i]? = some d → ∃ v, vs[i]? = some v ∧ RepV Z w d v
  | _, _, _, _, .nil, e => by simp at e
  | _, _, 0, _, .cons r _, e => by simp at e; subst e; exact ⟨_, rfl, r⟩
  | _, _, i + 1, d, .cons _ t, e => by
    obtain ⟨v, h1, h2⟩ := RepVs.get (i := i) (d := d) t (by simpa using e)
    exact ⟨v, by simpa using h1, h2⟩
theorem RepVs.get' {w : Wd} : ∀ {ds : List Vl} {vs : List V} {i : Nat} {v : V}, RepVs Z w ds vs → vs[i]? = some v → ∃ d, ds[i]? = some d ∧ RepV Z w d v
  | _, _, _, _, .nil, e => by simp at e
  | _, _, 0, _, .cons r _, e => by simp at e; subst e; exact ⟨_, rfl, r⟩
  | _, _, i + 1, d, .cons _ t, e => by
    obtain ⟨v, h1, h2⟩ := RepVs.get' (i := i) (v := d) t (by simpa using e)
    exact ⟨v, by simpa using h1, h2⟩
theorem RepVs.append {w : Wd} : ∀ {ds es : List Vl} {vs us : List V}, RepVs Z w ds vs → RepVs Z w es us → RepVs Z w (ds ++ es) (vs ++ us)
  | _, _, _, _, .nil, s => s
  | _, _, _, _, .cons r t, s => .cons r (RepVs.append t s)
theorem RepVs.of_ds {w : Wd} : ∀ {ds : List D} {vs : List V}, RepDs Z w.F ds vs → RepVs Z w (ds.map .d) vs
  | _, _, .nil => .nil
  | _, _, .cons r t => .cons r (RepVs.of_ds t)
theorem RepVs.dats {w : Wd} : ∀ {xs : List Vl} {ds : List D} {vs : List V}, RepVs Z w xs vs → SP.dats xs = some ds → RepDs Z w.F ds vs
  | _, _, _, .nil, e => by cases e; exact .nil
  | .d d :: xs, ds, _, .cons r t, e => by
    unfold SP.dats at e
    cases q : SP.dats xs with
    | none => rw [q] at e; cases e
    | some es =>
      rw [q] at e
      cases e
      exact .cons r (RepVs.dats t q)
  | .loc _ :: _, _, _, .cons _ _, e => by cases e
  | .exc _ :: _, _, _, .cons _ _, e => by cases e
theorem RepGs.datf {w : Wd} : ∀ {xs : List (String × Vl)} {ds : List (String × D)} {vs : List (Str × V)}, RepGs Z w xs vs → SP.datf xs = some ds → RepFs Z w.F ds vs
  | _, _, _, .nil, e => by cases e; exact .nil
  | (_, .d d) :: xs, ds, _, .cons r t, e => by
    unfold SP.datf at e
    cases q : SP.datf xs with
    | none => rw [q] at e; cases e
    | some es =>
      rw [q] at e
      cases e
      exact .cons r (RepGs.datf t q)
  | (_, .loc _) :: _, _, _, .cons _ _, e => by cases e
  | (_, .exc _) :: _, _, _, .cons _ _, e => by cases e
theorem dats_map : ∀ ds : List D, SP.dats (ds.map .d) = some ds
  | [] => rfl
  | d :: r => by
    show (match SP.dats (r.map .d) with | some ds => some (d :: ds) | none => none) = _
    rw [dats_map r]

/-- a new frozen object -/
def Wd.frz (w : Wd) (p : Addr) (o : HO) : Wd := ⟨upd w.F p o, w.ι, w.O⟩
/-- a new located object, at place n -/
def Wd.new (w : Wd) (n : Nat) (p : Addr) : Wd := ⟨w.F, fun k => if k = n then some p else w.ι k, w.O⟩
/-- others, that stay -/
def Wd.oth (w : Wd) (O : Hp) : Wd := ⟨w.F, w.ι, O⟩
theorem same_upd {F : Hp} {p : Addr} {o : HO} (h : F p = none) : Same F (upd F p o) := fun b u e => by
  rw [upd_ne (ne_of_none e h)]
  exact e
theorem same_upd2 {F H : Hp} {p : Addr} {o : HO} (h : Same F H) : Same (upd F p o) (upd H p o) := fun b u e => by
  by_cases hb : b = p
  · subst hb
    rw [upd_same] at e ⊢
    exact e
  · rw [upd_ne hb] at e ⊢
    exact h _ _ e
theorem same_upd3 {F H : Hp} {p : Addr} {o : HO} (h : Same F H) (n : F p = none) : Same F (upd H p o) := fun b u e => by
  rw [upd_ne (ne_of_none e n)]
  exact h _ _ e
section
variable {w : Wd} {st : Store} {H : Hp} {p : Addr} {o : HO}
theorem Sat.freeF (S : Sat Z w st H) (h : H p = none) : w.F p = none := S.F.free h
theorem Sat.freeO (S : Sat Z w st H) (h : H p = none) : w.O p = none := S.O.free h
theorem Sat.ne (S : Sat Z w st H) (h : H p = none) {n : Nat} {m : MO} (e : st[n]? = some m) (hm : m ≠ .dead) : w.ι n ≠ some p := fun q => by
  obtain ⟨a, ea, _, oa⟩ := S.obj n m e
  rw [ea] at q
  cases q
  cases m with
  | dead => exact hm rfl
  | lst xs => obtain ⟨_, q, _⟩ := oa; rw [h] at q; cases q
  | dct xs => obtain ⟨_, q, _⟩ := oa; rw [h] at q; cases q
  | ins C fs => obtain ⟨_, _, q, _⟩ := oa; rw [h] at q; cases q
theorem Le.frz (S : Sat Z w st H) (h : H p = none) : Le w (w.frz p o) := ⟨same_upd (S.freeF h), fun _ _ e => e, rfl⟩
/-- a new object, frozen at once -/
theorem Sat.frz (S : Sat Z w st H) (h : H p = none) : Sat Z (w.frz p o) st (upd H p o) := by
  refine ⟨same_upd2 S.F, same_upd3 S.O (S.freeO h), fun n m e => ?_, S.dom, S.inj, S.apart, fun a u e => by
    show upd w.F p o a = none
    rw [upd_ne (ne_of_none e (S.freeO h))]
    exact S.fo a u e⟩
  obtain ⟨a, ea, na, oa⟩ := S.obj n m e
  by_cases hm : m = .dead
  · subst hm
    exact ⟨a, ea, fun z => absurd rfl z, trivial⟩
  · have hap : a ≠ p := fun q => S.ne h e hm (by rw [ea, q])
    refine ⟨a, ea, fun z => ⟨?_, (na z).2⟩, oa.mono (Le.frz S h) (upd_ne hap)⟩
    show upd w.F p o a = none
    rw [upd_ne hap]
    exact (na z).1
theorem Le.new (S : Sat Z w st H) : Le w (w.new st.length p) := ⟨Same.refl _, fun n a e => by
  show (if n = st.length then some p else w.ι n) = some a
  rw [if_neg (Nat.ne_of_lt (S.dom n a e))]
  exact e, rfl⟩
/-- a new object, located -/
theorem Sat.new (S : Sat Z w st H) (h : H p = none) {m : MO} (hm : ObjAt Z (w.new st.length p) (upd H p o) p m) : Sat Z (w.new st.length p) (st ++ [m]) (upd H p o) := by
  have hι : ∀ n, n ≠ st.length → (w.new st.length p).ι n = w.ι n := fun n hn => if_neg hn
  have hs : (w.new st.length p).ι st.length = some p := if_pos rfl
  have get : ∀ n x, (st ++ [m])[n]? = some x → (n = st.length ∧ x = m) ∨ (n ≠ st.length ∧ st[n]? = some x) := fun n x e => by
    by_cases hn : n < st.length
    · rw [List.getElem?_append_left hn] at e
      exact .inr ⟨Nat.ne_of_lt hn, e⟩
    · rw [List.getElem?_append_right (by omega)] at e
      by_cases h0 : n - st.length = 0
      · rw [h0] at e
        simp at e
        exact .inl ⟨by omega, e.symm⟩
      · rw [List.getElem?_eq_none (by simp; omega)] at e
        cases e
  refine ⟨same_upd3 S.F (S.freeF h), same_upd3 S.O (S.freeO h), fun n x e => ?_, fun n a e => ?_, fun n k a x y e1 e2 e3 e4 hx hy => ?_, fun a u e n hn q => ?_, S.fo⟩
  · rcases get n x e with ⟨rfl, rfl⟩ | ⟨hn, e⟩
    · exact ⟨p, hs, fun _ => ⟨S.freeF h, S.freeO h⟩, hm⟩
    · obtain ⟨a, ea, na, oa⟩ := S.obj n x e
      by_cases hx : x = .dead
      · subst hx
        exact ⟨a, by rw [hι n hn]; exact ea, fun z => absurd rfl z, trivial⟩
      · have hap : a ≠ p := fun q => S.ne h e hx (by rw [ea, q])
        exact ⟨a, by rw [hι n hn]; exact ea, na, oa.mono (Le.new S) (upd_ne hap)⟩
  · by_cases hn : n = st.length
    · subst hn
      simp
    · rw [hι n hn] at e
      have := S.dom n a e
      simp
      omega
  · rcases get n x e3 with ⟨rfl, rfl⟩ | ⟨hn, e3'⟩
    · rcases get k y e4 with ⟨rfl, rfl⟩ | ⟨hk, e4⟩
      · rfl
      · rw [hs] at e1
        have e1 := Option.some.inj e1
        rw [hι k hk, ← e1] at e2
        exact absurd e2 (S.ne h e4 hy)
    · rw [hι n hn] at e1
      rcases get k y e4 with ⟨rfl, rfl⟩ | ⟨hk, e4⟩
      · rw [hs] at e2
        have e2 := Option.some.inj e2
        rw [← e2] at e1
        exact absurd e1 (S.ne h e3' hx)
      · rw [hι k hk] at e2
        exact S.inj n k a x y e1 e2 e3' e4 hx hy
  · by_cases hn' : n = st.length
    · subst hn'
      rw [hs] at q
      cases q
      rw [show (w.new st.length p).O = w.O from rfl, S.freeO h] at e
      cases e
    · rw [hι n hn'] at q
      refine S.apart a u e n (fun z => hn ?_) q
      rw [List.getElem?_append_left (S.dom n a q)]
      exact z
/-- a located object is changed -/
theorem Sat.put (S : Sat Z w st H) {n : Nat} {a : Addr} {m m' : MO} (e : st[n]? = some m) (hm : m ≠ .dead) (ea : w.ι n = some a) (h' : ObjAt Z w (upd H a o) a m') : Sat Z w (st.set n m') (upd H a o) := by
  obtain ⟨a', ea', na, oa⟩ := S.obj n m e
  rw [ea] at ea'
  cases ea'
  obtain ⟨hF, hO⟩ := na hm
  have hlt : n < st.length := (List.getElem?_eq_some_iff.mp e).1
  have get : ∀ k x, (st.set n m')[k]? = some x → (k = n ∧ x = m') ∨ (k ≠ n ∧ st[k]? = some x) := fun k x q => by
    by_cases hk : k = n
    · subst hk
      rw [List.getElem?_set_self hlt] at q
      exact .inl ⟨rfl, (Option.some.inj q).symm⟩
    · rw [List.getElem?_set_ne (Ne.symm hk)] at q
      exact .inr ⟨hk, q⟩
  refine ⟨same_upd3 S.F hF, same_upd3 S.O hO, fun k x q => ?_, fun k b q => by rw [List.length_set]; exact S.dom k b q, fun j k b x y e1 e2 e3 e4 hx hy => ?_, fun b u q k hk z => ?_, S.fo⟩
  · rcases get k x q with ⟨rfl, rfl⟩ | ⟨hk, q⟩
    · exact ⟨a, ea, fun _ => ⟨hF, hO⟩, h'⟩
    · obtain ⟨b, eb, nb, ob⟩ := S.obj k x q
      by_cases hx : x = .dead
      · subst hx
        exact ⟨b, eb, fun z => absurd rfl z, trivial⟩
      · have hba : b ≠ a := fun z => hk (S.inj k n a x m (by rw [eb, z]) ea q e hx hm)
        exact ⟨b, eb, nb, ob.mono (Le.refl w) (upd_ne hba)⟩
  · rcases get j x e3 with ⟨hj, hj2⟩ | ⟨hj, e3'⟩
    · rcases get k y e4 with ⟨hk, hk2⟩ | ⟨hk, e4'⟩
      · rw [hj, hk]
      · rw [hj] at e1 ⊢
        exact S.inj n k b m y e1 e2 e e4' hm hy
    · rcases get k y e4 with ⟨hk, hk2⟩ | ⟨hk, e4'⟩
      · rw [hk] at e2 ⊢
        exact S.inj j n b x m e1 e2 e3' e hx hm
      · exact S.inj j k b x y e1 e2 e3' e4' hx hy
  · by_cases hkn : k = n
    · subst hkn
      rw [ea] at z
      cases z
      rw [hO] at q
      cases q
    · exact S.apart b u q k (fun y => hk (by rw [List.getElem?_set_ne (Ne.symm hkn)]; exact y)) z
/-- a located object is let go: it is frozen -/
theorem Sat.emb (S : Sat Z w st H) {n : Nat} {m : MO} {d : D} {v : V} (e : st[n]? = some m) (hd : m.toD = some d) (hv : RepV Z w (.loc n) v) : ∃ w1, Le w w1 ∧ Sat Z w1 (st.set n .dead) H ∧ RepD Z w1.F d v := by
  have hm : m ≠ .dead := fun z => by rw [z] at hd; cases hd
  obtain ⟨a, ea, na, oa⟩ := S.obj n m e
  obtain ⟨a', ea', rfl⟩ := hv
  rw [ea] at ea'
  cases ea'
  obtain ⟨hF, hO⟩ := na hm
  have hlt : n < st.length := (List.getElem?_eq_some_iff.mp e).1
  obtain ⟨ob, hob, hrep⟩ : ∃ ob, H a = some ob ∧ ∀ F', Same w.F F' → F' a = some ob → RepD Z F' d (.ref a) := by
    cases m with
    | dead => exact absurd rfl hm
    | dct kvs => cases hd
    | lst xs =>
      obtain ⟨vs, h1, h2⟩ := oa
      unfold MO.toD at hd
      dsimp only at hd
      cases q : dats xs with
      | none => rw [q] at hd; cases hd
      | some ds =>
        rw [q] at hd
        cases hd
        exact ⟨_, h1, fun F' s1 s2 => .lst (.inl (.inl s2)) ((h2.dats q).mono s1)⟩
    | ins C fs =>
      obtain ⟨dx, gs, h1, h2, h3⟩ := oa
      unfold MO.toD at hd
      dsimp only at hd
      cases q : datf fs with
      | none => rw [q] at hd; cases hd
      | some ds =>
        rw [q] at hd
        cases hd
        exact ⟨_, h1, fun F' s1 s2 => .obj s2 (s1 _ _ h2) ((h3.datf q).mono s1)⟩
  refine ⟨w.frz a ob, ⟨same_upd hF, fun _ _ e => e, rfl⟩, ⟨fun b u q => ?_, S.O, fun k x q => ?_, fun k b q => by rw [List.length_set]; exact S.dom k b q, fun j k b x y e1 e2 e3 e4 hx hy => ?_, fun b u q k hk z => ?_, fun b u q => by
    show upd w.F a ob b = none
    rw [upd_ne (ne_of_none q hO)]
    exact S.fo b u q⟩, hrep _ (same_upd hF) upd_same⟩
  · by_cases hb : b = a
    · subst hb
      rw [show (w.frz b ob).F = upd w.F b ob from rfl, upd_same] at q
      rw [hob]
      exact q
    · rw [show (w.frz a ob).F = upd w.F a ob from rfl, upd_ne hb] at q
      exact S.F _ _ q
  · by_cases hk : k = n
    · subst hk
      rw [List.getElem?_set_self hlt] at q
      cases q
      exact ⟨a, ea, fun z => absurd rfl z, trivial⟩
    · rw [List.getElem?_set_ne (Ne.symm hk)] at q
      obtain ⟨b, eb, nb, ob'⟩ := S.obj k x q
      by_cases hx : x = .dead
      · subst hx
        exact ⟨b, eb, fun z => absurd rfl z, trivial⟩
      · have hba : b ≠ a := fun z => hk (S.inj k n a x m (by rw [eb, z]) ea q e hx hm)
        refine ⟨b, eb, fun z => ⟨?_, (nb z).2⟩, ob'.mono (show Le w (w.frz a ob) from ⟨same_upd hF, fun _ _ e => e, rfl⟩) rfl⟩
        show upd w.F a ob b = none
        rw [upd_ne hba]
        exact (nb z).1
  · have old : ∀ {j : Nat} {x : MO}, (st.set n .dead)[j]? = some x → x ≠ .dead → st[j]? = some x := fun {j x} q hx => by
      by_cases hj : j = n
      · subst hj
        rw [List.getElem?_set_self hlt] at q
        cases q
        exact absurd rfl hx
      · rwa [List.getElem?_set_ne (Ne.symm hj)] at q
    exact S.inj j k b x y e1 e2 (old e3 hx) (old e4 hy) hx hy
  · refine S.apart b u q k (fun y => hk ?_) z
    by_cases hkn : k = n
    · subst hkn
      rw [e] at y
      cases y
      exact absurd rfl hm
    · rw [List.getElem?_set_ne (Ne.symm hkn)]
      exact y
/-- a value is made data -/
theorem Sat.emb1 (S : Sat Z w st H) {x : Vl} {v : V} {d : D} {st1 : Store} (hv : RepV Z w x v) (e : SP.emb st x = some (d, st1)) : ∃ w1, Le w w1 ∧ Sat Z w1 st1 H ∧ RepD Z w1.F d v := by
  cases x with
  | d d0 =>
    cases e
    exact ⟨w, Le.refl w, S, hv⟩
  | exc _ => cases e
  | loc n =>
    unfold SP.emb at e
    dsimp only at e
    cases q : st[n]? with
    | none => rw [q] at e; cases e
    | some m =>
      rw [q] at e
      dsimp only at e
      cases q2 : m.toD with
      | none => rw [q2] at e; cases e
      | some d0 =>
        rw [q2] at e
        cases e
        exact S.emb q q2 hv
end
theorem Sat.embs {H : Hp} : ∀ {xs : List Vl} {w : Wd} {st : Store} {vs : List V} {ds : List D} {st1 : Store}, Sat Z w st H → RepVs Z w xs vs → SP.embs st xs = some (ds, st1) → ∃ w1, Le w w1 ∧ Sat Z w1 st1 H ∧ RepDs Z w1.F ds vs
  | [], w, st, _, ds, st1, S, .nil, e => by
    cases e
    exact ⟨w, Le.refl w, S, .nil⟩
  | x :: xs, w, st, _, ds, st1, S, .cons hv hr, e => by
    unfold SP.embs at e
    cases q : SP.emb st x with
    | none => rw [q] at e; cases e
    | some p =>
      obtain ⟨d, st2⟩ := p
      rw [q] at e
      dsimp only at e
      cases q2 : SP.embs st2 xs with
      | none => rw [q2] at e; cases e
      | some p2 =>
        obtain ⟨ds2, st3⟩ := p2
        rw [q2] at e
        cases e
        obtain ⟨w1, l1, S1, r1⟩ := S.emb1 hv q
        obtain ⟨w2, l2, S2, r2⟩ := Sat.embs S1 (hr.mono l1) q2
        exact ⟨w2, l1.trans l2, S2, .cons (r1.mono l2.F) r2⟩
end
end SP

end

section
set_option maxHeartbeats 1000000
namespace SP
open PySem PySem.Spec PyProof.Rows L2

/-- the built-ins by name -/
def bfun : String → Option Value
  | "len" => some (.builtin "len")
  | "int" => some (.type "int")
  | "list" => some (.type "list")
  | "tuple" => some (.type "tuple")
  | "sum" => some (.builtin "sum")
  | "all" => some (.builtin "all")
  | "any" => some (.builtin "any")
  | "max" => some (.builtin "max")
  | "min" => some (.builtin "min")
  | _ => none

/-- the names of a block: their places, what the block's scope says, which of its names are stored -/
structure Sx where
  N : List Str
  sc : Scope
  fn : Str → Bool
  /-- the defs and classes that may be called by name -/
  gf : String → Bool
  /-- the own classes -/
  cs : String → Bool
def visB (sc : Scope) (x : Str) : Bool := match sc.names.lookup x with
  | some .local => true
  | some .cell => true
  | some .free => true
  | _ => false
def nmB (c : Sx) (i : Nat) (x : Str) : Bool := decide (c.N[i]? = some x) && visB c.sc x && !(x == ("__debug__" : Str)) && !(x == ("__classdict__" : Str))
def stB (c : Sx) (i : Nat) (x : Str) : Bool := decide (c.N[i]? = some x) && (match c.sc.names.lookup x with
  | some .local => true
  | some .cell => c.fn x
  | _ => false)
def glB (sc : Scope) (x : Str) : Bool := decide (sc.names.lookup x = some .globalImplicit) && !(x == ("__debug__" : Str)) && !(x == ("__name__" : Str))
def conB : D → Const → Bool
  | .non, .none => true
  | .bl a, .bool b => a == b
  | .int i, .int j => decide (i = j)
  | .str x, .str y => decide (x = y)
  | _, _ => false
def bopO : Bop → Operator
  | .add => .Add | .sub => .Sub | .mul => .Mult | .fdiv => .FloorDiv | .mod => .Mod | .pow => .Pow
def copO : Cop → CmpOp
  | .eq => .Eq | .ne => .NotEq | .lt => .Lt | .le => .LtE | .gt => .Gt | .ge => .GtE | .is => .Is | .isnot => .IsNot | .isin => .In | .notin => .NotIn
def opB (o : Bop) (p : Operator) : Bool := decide (bopO o = p)
def coB (o : Cop) (p : CmpOp) : Bool := decide (copO o = p)
def notStar : Expr → Bool
  | .Starred _ _ => false
  | _ => true
def isTup : Expr → Bool
  | .Tuple _ _ _ => true
  | _ => false
def notSlice : Expr → Bool
  | .Slice _ _ _ _ => false
  | _ => true
def notSet : Expr → Bool
  | .Set _ _ _ => false
  | _ => true
/-- not a bare call of a name: no super() -/
def notSup : Expr → Bool
  | .Call (.Name _ _) [] [] _ => false
  | _ => true
/-- its test is its value's truth -/
def plainE : Expr → Bool
  | .BoolOp _ _ _ | .UnaryOp .Not _ _ | .Compare _ _ _ _ | .IfExp _ _ _ _ | .NamedExpr _ _ _ => false
  | _ => true
/-- a comprehension's own names with their places -/
def ownOf (N : List Str) (scope : Scope) : List (Str × Nat) := scope.names.filterMap fun y => match y.2 with
  | .local => (N.findIdx? fun z => decide (z = y.1)).map fun i => (y.1, i)
  | .cell => (N.findIdx? fun z => decide (z = y.1)).map fun i => (y.1, i)
  | _ => none
def blkX (c : Sx) (scope : Scope) : Sx := ⟨c.N, relS scope c.sc, fun x => scope.names.lookup x == some .cell, c.gf, c.cs⟩
mutual
/-- the slots of a target -/
def gNm : Tg → List Nat
  | .nm i => [i]
  | .tp gs => gNms gs
  | .ix _ _ => []
def gNms : Tgs → List Nat
  | .nil => []
  | .cons g r => gNm g ++ gNms r
end
mutual
def chkT (c : Sx) : T → Expr → Bool
  | .con d, e => match e with
    | .Constant k _ _ => conB d k
    | _ => false
  | .var i, e => match e with
    | .Name x _ => nmB c i x
    | _ => false
  | .glo y, e => match e with
    | .Name x _ => decide (x = S! y) && glB c.sc x
    | _ => false
  | .bin o a b, e => match e with
    | .BinOp l p r _ => opB o p && chkT c a l && chkT c b r
    | _ => false
  | .neg a, e => match e with
    | .UnaryOp .USub l _ => chkT c a l
    | _ => false
  | .not a, e => match e with
    | .UnaryOp .Not l _ => chkT c a l
    | _ => false
  | .band a b, e => match e with
    | .BoolOp .And [l, r] _ => chkT c a l && chkT c b r
    | .BoolOp .And (l :: m :: n :: r) p => chkT c a l && chkT c b (.BoolOp .And (m :: n :: r) p)
    | _ => false
  | .bor a b, e => match e with
    | .BoolOp .Or [l, r] _ => chkT c a l && chkT c b r
    | .BoolOp .Or (l :: m :: n :: r) p => chkT c a l && chkT c b (.BoolOp .Or (m :: n :: r) p)
    | _ => false
  | .cmp o a b, e => match e with
    | .Compare l [p] [r] _ => coB o p && chkT c a l && chkT c b r && notSet r
    | _ => false
  | .chain o p a b d, e => match e with
    | .Compare l [q, r] [m, n] _ => coB o q && coB p r && chkT c a l && chkT c b m && chkT c d n && notSet n
    | _ => false
  | .ite k a b, e => match e with
    | .IfExp t l r _ => chkT c k t && chkT c a l && chkT c b r
    | _ => false
  | .tup ts, e => match e with
    | .Tuple es _ _ => chkTs c ts es
    | _ => false
  | .lst ts, e => match e with
    | .List es _ => chkTs c ts es
    | _ => false
  | .dict0, e => match e with
    | .Dict [] [] _ => true
    | _ => false
  | .ix a i, e => match e with
    | .Subscript l r _ => chkT c a l && chkT c i r && notSlice r
    | _ => false
  | .slc a lo hi, e => match e with
    | .Subscript l (.Slice f g none _) _ => chkT c a l && chkO c lo f && chkO c hi g
    | _ => false
  | .rev a, e => match e with
    | .Subscript l (.Slice none none (some (.UnaryOp .USub (.Constant (.int 1) _ _) _)) _) _ => chkT c a l
    | _ => false
  | .fld a f, e => match e with
    | .Attribute l x _ => chkT c a l && decide (x = S! f) && notSup l
    | _ => false
  | .call f ts, e => match e with
    | .Call (.Name x _) es [] _ => decide (x = S! f) && glB c.sc x && chkTs c ts es && c.gf f
    | _ => false
  | .bi f ts, e => match e with
    | .Call (.Name x _) es [] _ => decide (x = S! f) && glB c.sc x && chkTs c ts es && !es.isEmpty && (bfun f).isSome
    | _ => false
  | .isin a f, e => match e with
    | .Call (.Name x _) [l, .Name y _] [] _ => decide (x = S! "isinstance") && glB c.sc x && decide (y = S! f) && glB c.sc y && chkT c a l && notStar l && (c.cs f || btys.contains f)
    | _ => false
  | .meth a f ts, e => match e with
    | .Call (.Attribute l x p) es [] q => decide (x = S! f) && chkT c a l && chkTs c ts es && notSup l && (p.endLine == q.line) && decide (es.length < 30)
    | _ => false
  | .comp own t g it fs, e => match e with
    | .ListComp l [⟨tg, iter, ifs, 0⟩] scope _ => decide ((ownOf c.N scope).map (·.2) = own) && blkC c.N c.sc scope (ownOf c.N scope) && chkI c tg it iter && notSet iter && chkG (blkX c scope) g tg && (gNm g).all (own.contains ·) && chkTs (blkX c scope) fs ifs && decide (ifs.length ≤ 1) && chkT (blkX c scope) t l
    | _ => false
  | .comp2 own own2 t g it fs g2 it2 fs2, e => match e with
    | .ListComp l [⟨tg, iter, ifs, 0⟩, ⟨tg2, iter2, ifs2, 0⟩] scope _ => decide ((ownOf c.N scope).map (·.2) = own) && blkC c.N c.sc scope (ownOf c.N scope) && chkI c tg it iter && notSet iter && chkG (blkX c scope) g tg && (gNm g).all (own.contains ·) && chkTs (blkX c scope) fs ifs && decide (ifs.length ≤ 1) &&
        chkI (blkX c scope) tg2 it2 iter2 && notSet iter2 && chkG (blkX c scope) g2 tg2 && (gNm g2).all (own2.contains ·) && own2.all (own.contains ·) && chkTs (blkX c scope) fs2 ifs2 && decide (ifs2.length ≤ 1) && chkT (blkX c scope) t l
    | _ => false
  | .loc t, e => chkT c t e && plainE e
def chkTs (c : Sx) : Ts → List Expr → Bool
  | .nil, es => es.isEmpty
  | .cons t r, es => match es with
    | e :: es => chkT c t e && notStar e && chkTs c r es
    | [] => false
def chkO (c : Sx) : To → Option Expr → Bool
  | .none, e => e.isNone
  | .some t, e => match e with
    | some e => chkT c t e
    | none => false
def chkI (c : Sx) (tg : Expr) : It → Expr → Bool
  | .seq t, e => chkT c t e && notSet e
  | .enu t, e => match e with
    | .Call (.Name x _) [l] [] _ => decide (x = S! "enumerate") && glB c.sc x && chkT c t l && notStar l && isTup tg
    | _ => false
  | .rng1 a, e => match e with
    | .Call (.Name x _) [l] [] _ => decide (x = S! "range") && glB c.sc x && chkT c a l && notStar l
    | _ => false
  | .rng2 a b, e => match e with
    | .Call (.Name x _) [l, r] [] _ => decide (x = S! "range") && glB c.sc x && chkT c a l && chkT c b r && notStar l && notStar r
    | _ => false
def chkG (c : Sx) : Tg → Expr → Bool
  | .nm i, e => match e with
    | .Name x _ => stB c i x
    | _ => false
  | .tp gs, e => match e with
    | .Tuple es _ _ => chkGs c gs es
    | _ => false
  | .ix a i, e => match e with
    | .Subscript l r _ => chkT c a l && chkT c i r && notSlice r
    | _ => false
def chkGs (c : Sx) : Tgs → List Expr → Bool
  | .nil, es => es.isEmpty
  | .cons g r, es => match es with
    | e :: es => chkG c g e && notStar e && chkGs c r es
    | [] => false
end

section
variable (Z : En)
/-- an exception that is under way -/
def RepX (w : Wd) (H : Hp) (e : Ex) (cls : Value) (d : Option Addr) : Prop := cls = .ref (Z.cl e.cls) ∧ ∃ dd gs, d = some dd ∧ H dd = some (.xd gs) ∧ RepFs Z w.F e.fs gs
/-- what is wanted behind an answer -/
def PO {α β : Type} (E : XK) (R : Wd → α → β → Prop) (w : Wd) (Q : β → Hp → Prop) : Out α × Store → Prop
  | (.ok x, st1) => ∀ w1 H1 v, Le w w1 → Sat Z w1 st1 H1 → R w1 x v → Q v H1
  | (.err e, st1) => ∀ w1 H1 cls d, Le w w1 → Sat Z w1 st1 H1 → RepX Z w1 H1 e cls d → E cls d H1
/-- the wish of an exception, at the slots -/
def atS (W : WX) (σ : L2.St) : XK := fun cls d H => W cls d σ H
/-- a term's reading -/
def tE (W : WX) (G : Cfg) (t : T) (q : Md) : TE := fun σ H Q => ∃ (w : Wd) (ρ : SP.Env) (st : Store) (r : Out Vl × Store), Sat Z w st H ∧ Slots Z w ρ σ ∧ evT G t q ρ st = some r ∧ PO Z (atS W σ) (RepV Z) w Q r
def isB (_ : Wd) (x : Vl) (b : Bool) : Prop := x = .d (.bl b)
def tB (W : WX) (G : Cfg) (t : T) : TT := fun σ H Q => ∃ (w : Wd) (ρ : SP.Env) (st : Store) (r : Out Vl × Store), Sat Z w st H ∧ Slots Z w ρ σ ∧ evT G t .t ρ st = some r ∧ PO Z (atS W σ) isB w Q r
def tEs (W : WX) (G : Cfg) (ts : Ts) : TA := fun σ H Q => ∃ (w : Wd) (ρ : SP.Env) (st : Store) (r : Out (List Vl) × Store), Sat Z w st H ∧ Slots Z w ρ σ ∧ evTs G ts ρ st = some r ∧ PO Z (atS W σ) (RepVs Z) w Q r
def isO (_ : Wd) (x y : Option Int) : Prop := x = y
def tO (W : WX) (G : Cfg) (t : To) : TO := fun σ H Q => ∃ (w : Wd) (ρ : SP.Env) (st : Store) (r : Out (Option Int) × Store), Sat Z w st H ∧ Slots Z w ρ σ ∧ evO G t ρ st = some r ∧ PO Z (atS W σ) isO w Q r
def tF (W : WX) (G : Cfg) (ts : Ts) : TT := fun σ H Q => ∃ (w : Wd) (ρ : SP.Env) (st : Store) (r : Out Vl × Store), Sat Z w st H ∧ Slots Z w ρ σ ∧ evF G ts ρ st = some r ∧ PO Z (atS W σ) isB w Q r
end
section
variable {Z : En} {α β γ δ : Type}
theorem PO.mono {E : XK} {R : Wd → α → β → Prop} {w w' : Wd} {Q : β → Hp → Prop} {r : Out α × Store} (h : PO Z E R w Q r) (l : Le w w') : PO Z E R w' Q r := by
  obtain ⟨o, st⟩ := r
  cases o with
  | err e => exact fun w1 H1 c d l1 S r => h w1 H1 c d (l.trans l1) S r
  | ok x => exact fun w1 H1 v l1 S r => h w1 H1 v (l.trans l1) S r
theorem bnd_cases {m : Rs α} {k : α → Store → Rs γ} {r : Out γ × Store} (h : bnd m k = some r) : (∃ x st1, m = some (.ok x, st1) ∧ k x st1 = some r) ∨ ∃ e st1, m = some (.err e, st1) ∧ r = (.err e, st1) := by
  unfold bnd at h
  cases m with
  | none => cases h
  | some p =>
    obtain ⟨o, st1⟩ := p
    cases o with
    | err e => cases h; exact .inr ⟨e, st1, rfl, rfl⟩
    | ok x => exact .inl ⟨x, st1, rfl, h⟩
theorem noErr_some {m : Rs α} {r : Out α × Store} (h : noErr m = some r) : ∃ x st1, m = some (.ok x, st1) ∧ r = (.ok x, st1) := by
  unfold noErr at h
  split at h
  · cases h; exact ⟨_, _, rfl, rfl⟩
  · cases h
/-- an answer's first step, and what follows it -/
theorem PO.step {E : XK} {R : Wd → γ → δ → Prop} {R' : Wd → α → β → Prop} {w : Wd} {Q : δ → Hp → Prop} {Q' : β → Hp → Prop} {m : Rs α} {k : α → Store → Rs γ} {r : Out γ × Store} (h : bnd m k = some r) (hp : PO Z E R w Q r)
    (cont : ∀ x st1 w1 H1 v, Le w w1 → Sat Z w1 st1 H1 → R' w1 x v → k x st1 = some r → PO Z E R w1 Q r → Q' v H1) : ∃ r', m = some r' ∧ PO Z E R' w Q' r' := by
  rcases bnd_cases h with ⟨x, st1, hm, hk⟩ | ⟨e, st1, hm, rfl⟩
  · exact ⟨_, hm, fun w1 H1 v l S rv => cont x st1 w1 H1 v l S rv hk (hp.mono l)⟩
  · exact ⟨_, hm, hp⟩
variable {W : WX} {G : Cfg} {w : Wd} {ρ : SP.Env} {st st1 : Store} {σ : L2.St} {H : Hp}
theorem tE.bnd {a : T} {q : Md} {R : Wd → γ → δ → Prop} {Q : δ → Hp → Prop} {Q' : VK} {k : Vl → Store → Rs γ} {r : Out γ × Store} (S : Sat Z w st H) (L : Slots Z w ρ σ) (h : SP.bnd (evT G a q ρ st) k = some r) (hp : PO Z (atS W σ) R w Q r)
    (cont : ∀ x st1 w1 H1 v, Le w w1 → Sat Z w1 st1 H1 → Slots Z w1 ρ σ → RepV Z w1 x v → k x st1 = some r → PO Z (atS W σ) R w1 Q r → Q' v H1) : tE Z W G a q σ H Q' :=
  let ⟨r', e, p⟩ := PO.step (R' := RepV Z) h hp fun x st1 w1 H1 v l S rv hk hp => cont x st1 w1 H1 v l S (L.mono l) rv hk hp
  ⟨w, ρ, st, r', S, L, e, p⟩
theorem bndB_bnd {m : Rs Vl} {k : Bool → Store → Rs γ} : bndB m k = bnd m fun x st => match x with
  | .d (.bl c) => k c st
  | _ => none := rfl
theorem tB.bnd {a : T} {R : Wd → γ → δ → Prop} {Q : δ → Hp → Prop} {Q' : Bool → Hp → Prop} {k : Bool → Store → Rs γ} {r : Out γ × Store} (S : Sat Z w st H) (L : Slots Z w ρ σ) (h : bndB (evT G a .t ρ st) k = some r) (hp : PO Z (atS W σ) R w Q r)
    (cont : ∀ b st1 w1 H1, Le w w1 → Sat Z w1 st1 H1 → Slots Z w1 ρ σ → k b st1 = some r → PO Z (atS W σ) R w1 Q r → Q' b H1) : tB Z W G a σ H Q' :=
  let ⟨r', e, p⟩ := PO.step (R' := isB) (Q' := Q') (bndB_bnd ▸ h) hp fun x st1 w1 H1 v l S rv hk hp => by
    cases rv
    exact cont v st1 w1 H1 l S (L.mono l) hk hp
  ⟨w, ρ, st, r', S, L, e, p⟩
theorem tEs.bnd {a : Ts} {R : Wd → γ → δ → Prop} {Q : δ → Hp → Prop} {Q' : List V → Hp → Prop} {k : List Vl → Store → Rs γ} {r : Out γ × Store} (S : Sat Z w st H) (L : Slots Z w ρ σ) (h : SP.bnd (evTs G a ρ st) k = some r) (hp : PO Z (atS W σ) R w Q r)
    (cont : ∀ x st1 w1 H1 v, Le w w1 → Sat Z w1 st1 H1 → Slots Z w1 ρ σ → RepVs Z w1 x v → k x st1 = some r → PO Z (atS W σ) R w1 Q r → Q' v H1) : tEs Z W G a σ H Q' :=
  let ⟨r', e, p⟩ := PO.step (R' := RepVs Z) h hp fun x st1 w1 H1 v l S rv hk hp => cont x st1 w1 H1 v l S (L.mono l) rv hk hp
  ⟨w, ρ, st, r', S, L, e, p⟩
theorem tO.bnd {a : To} {R : Wd → γ → δ → Prop} {Q : δ → Hp → Prop} {Q' : Option Int → Hp → Prop} {k : Option Int → Store → Rs γ} {r : Out γ × Store} (S : Sat Z w st H) (L : Slots Z w ρ σ) (h : SP.bnd (evO G a ρ st) k = some r) (hp : PO Z (atS W σ) R w Q r)
    (cont : ∀ x st1 w1 H1, Le w w1 → Sat Z w1 st1 H1 → Slots Z w1 ρ σ → k x st1 = some r → PO Z (atS W σ) R w1 Q r → Q' x H1) : tO Z W G a σ H Q' :=
  let ⟨r', e, p⟩ := PO.step (R' := isO) (Q' := Q') h hp fun x st1 w1 H1 v l S rv hk hp => by
    cases rv
    exact cont x st1 w1 H1 l S (L.mono l) hk hp
  ⟨w, ρ, st, r', S, L, e, p⟩
theorem tF.bnd {a : Ts} {R : Wd → γ → δ → Prop} {Q : δ → Hp → Prop} {Q' : Bool → Hp → Prop} {k : Bool → Store → Rs γ} {r : Out γ × Store} (S : Sat Z w st H) (L : Slots Z w ρ σ) (h : bndB (evF G a ρ st) k = some r) (hp : PO Z (atS W σ) R w Q r)
    (cont : ∀ b st1 w1 H1, Le w w1 → Sat Z w1 st1 H1 → Slots Z w1 ρ σ → k b st1 = some r → PO Z (atS W σ) R w1 Q r → Q' b H1) : tF Z W G a σ H Q' :=
  let ⟨r', e, p⟩ := PO.step (R' := isB) (Q' := Q') (bndB_bnd ▸ h) hp fun x st1 w1 H1 v l S rv hk hp => by
    cases rv
    exact cont v st1 w1 H1 l S (L.mono l) hk hp
  ⟨w, ρ, st, r', S, L, e, p⟩
/-- a reading from an answer that is known -/
theorem tE.mk {t : T} {q : Md} {x : Vl} {Q : VK} (S : Sat Z w st H) (L : Slots Z w ρ σ) (e : evT G t q ρ st = some (.ok x, st1)) (h : ∀ w1 H1 v, Le w w1 → Sat Z w1 st1 H1 → Slots Z w1 ρ σ → RepV Z w1 x v → Q v H1) : tE Z W G t q σ H Q :=
  ⟨w, ρ, st, _, S, L, e, fun w1 H1 v l S1 r => h w1 H1 v l S1 (L.mono l) r⟩
theorem tF.mk {t : Ts} {b : Bool} {Q : Bool → Hp → Prop} (S : Sat Z w st H) (L : Slots Z w ρ σ) (e : evF G t ρ st = some (.ok (.d (.bl b)), st1)) (h : ∀ w1 H1, Le w w1 → Sat Z w1 st1 H1 → Slots Z w1 ρ σ → Q b H1) : tF Z W G t σ H Q :=
  ⟨w, ρ, st, _, S, L, e, fun w1 H1 v l S1 r => by
    cases r
    exact h w1 H1 l S1 (L.mono l)⟩
/-- PO for an ok answer that gives the very value -/
theorem PO.ok {E : XK} {R : Wd → α → β → Prop} {w : Wd} {Q : β → Hp → Prop} {x : α} (h : PO Z E R w Q (.ok x, st1)) {w1 : Wd} {H1 : Hp} {v : β} (l : Le w w1) (S : Sat Z w1 st1 H1) (r : R w1 x v) : Q v H1 := h w1 H1 v l S r
theorem ret1_ok {d : D} {r : Out Vl × Store} (h : ret1 d st = some r) : r = (.ok (.d d), st) := (Option.some.inj h).symm
theorem fin_v {q : Md} (hq : q ≠ .t) (r : Rs Vl) : fin q r = r := by
  cases q with
  | t => exact absurd rfl hq
  | v => rfl
  | l => rfl
end
end SP

end

section
set_option maxHeartbeats 1000000
namespace SP
open PySem PySem.Spec PyProof.Rows L2
theorem SZ_eq : SZ = sizeLine := by rw [sizeLine_eq]; rfl
theorem eq_rf {α : Type} {a b : α} (h : some a = some b) : b = a := (Option.some.inj h).symm

/-- what stands at the top in the heap, its parts frozen -/
inductive RepT (Z : En) (F H : Hp) : D → V → Prop
  | d {d : D} {v : V} : RepD Z F d v → Same F H → RepT Z F H d v
  | lst {ds : List D} {a : Addr} {vs : List V} : H a = some (.lst vs) → RepDs Z F ds vs → Same F H → RepT Z F H (.lst ds) (.ref a)
  | obj {C : String} {fs : List (String × D)} {a dx : Addr} {gs : List (Str × V)} : H a = some (.ins (Z.cl C) dx gs) → F dx = some (.own a) → RepFs Z F fs gs → Same F H → RepT Z F H (.obj C fs) (.ref a)
section
variable {Z : En} {w : Wd} {st st1 : Store} {H : Hp} {E : XK}
theorem RepT.toH {F : Hp} {d : D} {v : V} (h : RepT Z F H d v) : RepD Z H d v := by
  cases h with
  | d r s => exact r.mono s
  | lst e r s => exact .lst (.inl (.inl e)) (r.mono s)
  | obj e o r s => exact .obj e (s _ _ o) (r.mono s)
theorem RepT.lst_inv {F : Hp} {ds : List D} {v : V} (h : RepT Z F H (.lst ds) v) : ∃ a vs, v = .ref a ∧ RdK Z.K H a vs ∧ RepDs Z F ds vs := by
  cases h with
  | d r s =>
    cases r with
    | lst q r => exact ⟨_, _, rfl, q.same s, r⟩
  | lst e r s => exact ⟨_, _, rfl, .inl (.inl e), r⟩
theorem RepT.tup_inv {F : Hp} {ds : List D} {v : V} (h : RepT Z F H (.tup ds) v) : ∃ a vs, v = .ref a ∧ SqT Z.K H a vs ∧ RepDs Z F ds vs := by
  cases h with
  | d r s =>
    cases r with
    | tup q r =>
      refine ⟨_, _, rfl, ?_, r⟩
      rcases q with (q | ⟨o, q⟩) | q
      · exact .inl (.inl (s _ _ q))
      · exact .inl (.inr ⟨o, s _ _ q⟩)
      · exact .inr q
theorem RepT.int_inv {F : Hp} {i : Int} {v : V} (h : RepT Z F H (.int i) v) : v = .int i := by
  cases h with
  | d r s => cases r; rfl
theorem RepT.str_inv {F : Hp} {i : Str} {v : V} (h : RepT Z F H (.str i) v) : v = .str i := by
  cases h with
  | d r s => cases r; rfl
theorem RepT.bl_inv {F : Hp} {i : Bool} {v : V} (h : RepT Z F H (.bl i) v) : v = .bl i := by
  cases h with
  | d r s => cases r; rfl
theorem Sat.peek (S : Sat Z w st H) {x : Vl} {v : V} {d : D} (r : RepV Z w x v) (e : SP.peek st x = some d) : RepT Z w.F H d v := by
  cases x with
  | d d0 =>
    cases e
    exact .d r S.F
  | exc _ => cases e
  | loc n =>
    unfold SP.peek at e
    dsimp only at e
    cases q : st[n]? with
    | none => rw [q] at e; cases e
    | some m =>
      rw [q] at e
      dsimp only at e
      obtain ⟨a, ea, na, oa⟩ := S.obj n m q
      obtain ⟨a', ea', rfl⟩ := r
      rw [ea] at ea'
      cases ea'
      cases m with
      | dead => cases e
      | dct kvs => cases e
      | lst xs =>
        obtain ⟨vs, h1, h2⟩ := oa
        unfold MO.toD at e
        dsimp only at e
        cases q : dats xs with
        | none => rw [q] at e; cases e
        | some ds =>
          rw [q] at e
          cases e
          exact .lst h1 (h2.dats q) S.F
      | ins C fs =>
        obtain ⟨dx, gs, h1, h2, h3⟩ := oa
        unfold MO.toD at e
        dsimp only at e
        cases q : datf fs with
        | none => rw [q] at e; cases e
        | some ds =>
          rw [q] at e
          cases e
          exact .obj h1 h2 (h3.datf q) S.F
/-- a list is made -/
theorem mkList_ok {m : Bool} {xs : List Vl} {vs : List V} {r : Out Vl × Store} {Q : VK} (S : Sat Z w st H) (rv : RepVs Z w xs vs) (e : mkList m xs st = some r) (h : PO Z E (RepV Z) w Q r) {p : Addr} (hp : H p = none) :
    vs.length ≤ sizeLine ∧ Q (.ref p) (upd H p (.lst vs)) := by
  unfold mkList at e
  split at e
  · rename_i hl
    have hl2 : vs.length ≤ sizeLine := by rw [← rv.length, ← SZ_eq]; exact hl
    refine ⟨hl2, ?_⟩
    split at e
    · cases eq_rf e
      refine h.ok (Le.new S) (S.new hp (m := .lst xs) ?_) ⟨p, if_pos rfl, rfl⟩
      exact ⟨vs, upd_same, rv.mono (Le.new S)⟩
    · cases q : embs st xs with
      | none => rw [q] at e; cases e
      | some pr =>
        obtain ⟨ds, st2⟩ := pr
        rw [q] at e
        cases eq_rf e
        obtain ⟨w1, l1, S1, r1⟩ := S.embs rv q
        exact h.ok (l1.trans (Le.frz S1 hp)) (S1.frz hp) (.lst (.inl (.inl upd_same)) (r1.mono (same_upd (S1.freeF hp))))
  · cases e
/-- a tuple is made of data -/
theorem mkTup_ok {ds : List D} {vs : List V} {Q : VK} (S : Sat Z w st H) (rv : RepDs Z w.F ds vs) (h : PO Z E (RepV Z) w Q (.ok (.d (.tup ds)), st)) {p : Addr} (hp : H p = none) : Q (.ref p) (upd H p (.tup vs)) :=
  h.ok (Le.frz S hp) (S.frz hp) (.tup (.inl (.inl upd_same)) (rv.mono (same_upd (S.freeF hp))))
theorem ret1_PO {d : D} {r : Out Vl × Store} {Q : VK} (e : ret1 d st = some r) (h : PO Z E (RepV Z) w Q r) : PO Z E (RepV Z) w Q (.ok (.d d), st) := by
  cases eq_rf e
  exact h
theorem ret1_Q {d : D} {r : Out Vl × Store} {Q : VK} (S : Sat Z w st H) (e : ret1 d st = some r) (h : PO Z E (RepV Z) w Q r) {v : V} (rv : RepD Z w.F d v) : Q v H := by
  cases eq_rf e
  exact h.ok (Le.refl w) S rv
end

section
variable {X : Cx}
theorem rdM {pins : List (Addr × Obj)} {σ : L2.St} {H : Hp} {s : Shared} {a : Addr} {xs : List V} (I : Inv X pins σ H s) (h : RdK X.K H a xs) : xs.length ≤ sizeLine ∧ ∃ (its : List Value) (n : Nat), Vals xs its ∧ s.heap.get? a = some { cls := .type "list", data := .seq its.toArray n } := by
  rcases h with h | ⟨its, n, h1, h2, h3⟩
  · exact h.ok I.hok
  · refine ⟨?_, its.toList, n, h3, ?_⟩
    · rw [h3.length]
      simpa using h2
    · rw [Array.toArray_toList]
      exact I.kIn _ _ h1
def rCatR (K : PySem.W.Frag) : R2 := fun x y H Q => ∃ l b xs zs, x = .ref l ∧ y = .ref b ∧ RdK K H l xs ∧ RdK K H b zs ∧ xs.length + zs.length ≤ sizeLine ∧ ∀ p, H p = none → Q (.ref p) (upd H p (.lst (xs ++ zs)))
theorem op_catR : OpR X (binaryOp .Add) (rCatR X.K) := by
  intro pins s σ H x y v u Q I rx ry h
  obtain ⟨l, b, xs, zs, rfl, rfl, hH, hB, hz, q⟩ := h
  cases rx
  cases ry
  obtain ⟨z, its, n, r, e⟩ := rdM I hH
  obtain ⟨z2, its2, n2, r2, e2⟩ := rdM I hB
  have hl := r.length
  have hl2 := r2.length
  refine PySem.P.add_list e e2 ?_ (by rw [List.size_toArray, List.size_toArray]; omega)
  have ea : its.toArray ++ its2.toArray = (its ++ its2).toArray := by simp
  rw [ea]
  exact ⟨.ref _, _, I.lnew (t' := s.toks) (r.append r2) (by rw [List.length_append]; omega), rfl, q _ I.fresh⟩
end

def rRepR (K : PySem.W.Frag) : R2 := fun x y H Q => ∃ l k xs, x = .ref l ∧ y = .int k ∧ RdK K H l xs ∧ -(2 ^ 63) ≤ k ∧ k < 2 ^ 63 ∧ xs.length * k.toNat ≤ sizeLine ∧ ∀ p, H p = none → Q (.ref p) (upd H p (.lst (List.replicate k.toNat xs).flatten))
theorem op_repR {X : Cx} : OpR X (binaryOp .Mult) (rRepR X.K) := by
  intro pins s σ H x y v u Q I rx ry h
  obtain ⟨l, k, xs, rfl, rfl, hH, h1, h2, hz, q⟩ := h
  cases rx
  obtain ⟨t, rfl⟩ := ry
  obtain ⟨z, its, n, r, e⟩ := rdM I hH
  have hl := r.length
  have hlen : its.toArray.size * k.toNat ≤ sizeLine := by rw [List.size_toArray, ← hl]; exact hz
  have hcap : ¬ its.toArray.size * k.toNat > (2 ^ 63 - 1) / 8 := by
    have : (sizeLine : Nat) ≤ (2 ^ 63 - 1) / 8 := by decide
    omega
  have hfit : ¬ (!Builtin.List.listFitsIndex k) = true := by
    rw [fitsIndex_both h1 h2]
    exact Bool.false_ne_true
  have hlong : ¬ Builtin.List.listTooLong (its.toArray.size * k.toNat) = true := by
    rw [notLongL hlen]
    exact Bool.false_ne_true
  have hnew : List.foldl (fun x1 x2 => x1 ++ x2) #[] (List.replicate (if its.toArray.isEmpty = true then 0 else k.toNat) its.toArray) = (List.replicate k.toNat its).flatten.toArray := by
    have f0 : ∀ m : Nat, List.foldl (fun x1 x2 => x1 ++ x2) #[] (List.replicate m its.toArray) = (List.replicate m its).flatten.toArray := fun m => by
      have := foldl_rep its m []
      rw [List.nil_append] at this
      exact this
    rw [f0]
    cases its with
    | nil => simp
    | cons a r' => rw [if_neg (by simp)]
  refine wpAny_binaryOp_repeat_ref (T := "list") (U := "int") (by decide) ⟨_, e, rfl⟩ (fun s' => typeIs_int s' k t) noFill_list_mul F.fills_int_mul F.slot_int_rmul repeat_list F.slot_int_index.lookup
    (call_meets F.slot_int_rmul (typeIs_int s k t) F.entry_int_rmul (F.args_int_rmul_2 _ _) (int___rmul___int_list k t l its.toArray n)
      ⟨e, rfl, ⟨_, e, rfl⟩, call_meets F.slot_list_mul ⟨_, e, rfl⟩ F.entry_list_mul (F.args_list_mul_2 _ _) (AutoListH.list___mul___list_int_3 l its.toArray n k t hfit hcap hlong) ⟨e, ?_⟩⟩)
  rw [hnew]
  exact ⟨.ref _, _, I.lnew (t' := s.toks) (r.rep k.toNat) (by rw [PyProof.Rows.lm_len_rep_flat, Nat.mul_comm]; exact hz), rfl, q _ I.fresh⟩

theorem repS_eq (a : Str) (m : Nat) : List.foldl (fun x1 x2 => x1 ++ x2) #[] (List.replicate m a.cps) = (List.replicate m a.cps.toList).flatten.toArray := by
  have f0 : ∀ (m : Nat) (z : Array Nat), List.foldl (fun x1 x2 => x1 ++ x2) z (List.replicate m a.cps) = z ++ (List.replicate m a.cps.toList).flatten.toArray := fun m => by
    induction m with
    | zero => intro z; simp
    | succ m ih =>
      intro z
      rw [List.replicate_succ, List.foldl_cons, ih, List.replicate_succ, List.flatten_cons]
      apply Array.toList_inj.mp
      simp
  rw [f0]
  simp
def rRepS : R2 := fun x y H Q => ∃ a k, x = .str a ∧ y = .int k ∧ 1 ≤ k ∧ k ≤ 1000000 ∧ a.length * k.toNat ≤ sizeLine ∧ Q (.str (repS a k)) H
theorem op_repS {X : Cx} : OpR X (binaryOp .Mult) rRepS := by
  intro pins s σ H x y v u Q I rx ry h
  obtain ⟨a, k, rfl, rfl, h1, h2, hz, q⟩ := h
  obtain ⟨t, rfl⟩ := rx
  obtain ⟨t', rfl⟩ := ry
  have hsz : (sizeLine : Nat) = 16777216 := by rw [← SZ_eq]; rfl
  have hk : ¬ k < 1 := by omega
  have hnat : a.length * k.toNat ≤ 16777216 := by rw [← hsz]; exact hz
  have hkn : 1 ≤ k.toNat := by omega
  have hal : a.length ≤ 16777216 := Nat.le_trans (by
    have := Nat.mul_le_mul_left a.length hkn
    omega) hnat
  have hlen : (repS a k).length = k.toNat * a.length := by
    show (List.replicate k.toNat a.cps.toList).flatten.toArray.size = _
    simp [Str.length]
  refine PySem.P.mul_str ?_ (fun _ _ => ?_) (fun _ _ => ?_) ?_
  · have e1 : ¬ k < -(2 ^ 63 : Int) := by omega
    have e2 : ¬ k ≥ 2 ^ 63 := by omega
    rw [decide_eq_false e1, decide_eq_false e2]; rfl
  · have h5 : (1000000000000 : Int) ≤ (2 ^ 63 - 1) / k := Int.le_ediv_of_mul_le (by omega) (by omega)
    omega
  · show decide (a.length * k.toNat > sizeLine) = false
    exact decide_eq_false (by omega)
  · rw [if_neg hk]
    split
    · rename_i hc
      rw [Bool.or_eq_true] at hc
      refine ⟨.str (repS a k), H, I.tok _, ⟨t, ?_⟩, q⟩
      have : repS a k = a := by
        rcases hc with hc | hc
        · rw [beq_iff_eq] at hc
          subst hc
          show (⟨(List.replicate (1 : Int).toNat a.cps.toList).flatten.toArray⟩ : Str) = a
          simp
        · rw [beq_iff_eq] at hc
          have h6 : a.cps.toList = [] := by
            have : a.cps.size = 0 := hc
            exact List.length_eq_zero_iff.mp (by simpa using this)
          obtain ⟨cps⟩ := a
          dsimp only at h6
          have h7 : cps = #[] := by
            apply Array.toList_inj.mp
            simpa using h6
          subst h7
          unfold repS
          simp
      rw [this]
    · rw [repS_eq]
      refine ⟨?_, ⟨.str (repS a k), H, I.tok _, ⟨_, rfl⟩, q⟩⟩
      show (repS a k).length ≤ sizeLine
      rw [hlen, Nat.mul_comm]
      exact hz

mutual
def D.py : D → PyData
  | .non => .none
  | .bl b => .bool b
  | .int i => .int i
  | .str x => .str x
  | .tup ds => .tuple (D.pys ds)
  | .lst ds => .list (D.pys ds)
  | .obj _ _ => .none
  | .dct _ => .none
def D.pys : List D → List PyData
  | [] => []
  | d :: r => D.py d :: D.pys r
end
mutual
theorem py_lay : ∀ d : D, d.plain = true → (D.py d).canLay0 = true
  | .non, _ => by simp [D.py, PyData.canLay0]
  | .bl _, _ => by simp [D.py, PyData.canLay0]
  | .int _, _ => by simp [D.py, PyData.canLay0]
  | .str x, h => by simpa [D.py, PyData.canLay0, D.plain] using h
  | .tup ds, h => by
    simp only [D.py, PyData.canLay0]
    exact pys_lay ds (by simpa [D.plain] using h)
  | .lst ds, h => by
    simp only [D.py, PyData.canLay0]
    exact pys_lay ds (by simpa [D.plain] using h)
  | .obj _ _, h => by simp [D.plain] at h
  | .dct _, h => by simp [D.plain] at h
theorem pys_lay : ∀ ds : List D, D.plains ds = true → PyData.canLayAll0 (D.pys ds) = true
  | [], _ => by simp [D.pys, PyData.canLayAll0]
  | d :: r, h => by
    simp only [D.plains, Bool.and_eq_true] at h
    simp only [D.pys, PyData.canLayAll0, py_lay d h.1, pys_lay r h.2, Bool.and_self]
end
mutual
theorem py_depth : ∀ d : D, d.plain = true → (D.py d).depth = d.depth
  | .non, _ => by simp [D.py, PyData.depth, D.depth]
  | .bl _, _ => by simp [D.py, PyData.depth, D.depth]
  | .int _, _ => by simp [D.py, PyData.depth, D.depth]
  | .str x, h => by simp [D.py, PyData.depth, D.depth]
  | .tup ds, h => by
    simp only [D.py, PyData.depth, D.depth]
    rw [pys_depth ds (by simpa [D.plain] using h)]
  | .lst ds, h => by
    simp only [D.py, PyData.depth, D.depth]
    rw [pys_depth ds (by simpa [D.plain] using h)]
  | .obj _ _, h => by simp [D.plain] at h
  | .dct _, h => by simp [D.plain] at h
theorem pys_depth : ∀ ds : List D, D.plains ds = true → PyData.depthAll (D.pys ds) = D.depths ds
  | [], _ => by simp [D.pys, PyData.depthAll, D.depths]
  | d :: r, h => by
    simp only [D.plains, Bool.and_eq_true] at h
    simp only [D.pys, PyData.depthAll, D.depths, py_depth d h.1, pys_depth r h.2]
end
mutual
theorem py_eqv : ∀ a b : D, a.plain = true → b.plain = true → PyData.eqv (D.py a) (D.py b) = D.eqv a b
  | a, b, ha, hb => by
    cases a <;> cases b <;> first
      | (simp [D.plain] at ha; done)
      | (simp [D.plain] at hb; done)
      | (simp [D.py, PyData.eqv, D.eqv]; done)
      | (rename_i xs ys
         simp only [D.py, PyData.eqv, D.eqv]
         exact pys_eqv xs ys (by simpa [D.plain] using ha) (by simpa [D.plain] using hb))
theorem pys_eqv : ∀ a b : List D, D.plains a = true → D.plains b = true → PyData.eqvAll (D.pys a) (D.pys b) = D.eqvs a b
  | [], [], _, _ => by simp [D.pys, PyData.eqvAll, D.eqvs]
  | [], _ :: _, _, _ => by simp [D.pys, PyData.eqvAll, D.eqvs]
  | _ :: _, [], _, _ => by simp [D.pys, PyData.eqvAll, D.eqvs]
  | x :: xs, y :: ys, ha, hb => by
    simp only [D.plains, Bool.and_eq_true] at ha hb
    simp only [D.pys, PyData.eqvAll, D.eqvs, py_eqv x y ha.1 hb.1, pys_eqv xs ys ha.2 hb.2]
end
theorem shp_shaped {d : D} (h : d.shp = true) : SeqAt.shaped (D.py d) = true := by
  unfold D.shp at h
  rw [Bool.and_eq_true] at h
  show ((D.py d).canLay0 && decide ((D.py d).depth ≤ 64)) = true
  rw [Bool.and_eq_true, py_lay d h.1, py_depth d h.1]
  exact ⟨rfl, h.2⟩
theorem shp_plain {d : D} (h : d.shp = true) : d.plain = true := by
  unfold D.shp at h
  rw [Bool.and_eq_true] at h
  exact h.1
mutual
theorem rep_dp {Z : En} {F : Hp} : ∀ (d : D) {v : V}, d.plain = true → RepD Z F d v → Dp Z.K F v (D.py d)
  | .non, _, _, r => by cases r; simp only [D.py]; exact .non
  | .bl b, _, _, r => by cases r; simp only [D.py]; exact .bl b
  | .int i, _, _, r => by cases r; simp only [D.py]; exact .int i
  | .str x, _, _, r => by cases r; simp only [D.py]; exact .str x
  | .tup ds, _, h, r => by
    cases r with
    | tup q r =>
      simp only [D.py]
      exact .tup q (rep_dps ds (by simpa [D.plain] using h) r)
  | .lst ds, _, h, r => by
    cases r with
    | lst q r =>
      simp only [D.py]
      exact .lst q.sq (rep_dps ds (by simpa [D.plain] using h) r)
  | .obj _ _, _, h, _ => by simp [D.plain] at h
  | .dct _, _, h, _ => by simp [D.plain] at h
theorem rep_dps {Z : En} {F : Hp} : ∀ (d : List D) {v : List V}, D.plains d = true → RepDs Z F d v → DpAll Z.K F v (D.pys d)
  | [], _, _, r => by cases r; simp only [D.pys]; exact .nil
  | d :: ds, _, h, r => by
    cases r with
    | cons a r =>
      simp only [D.plains, Bool.and_eq_true] at h
      simp only [D.pys]
      exact .cons (rep_dp d h.1 a) (rep_dps ds h.2 r)
end
theorem pys_map : ∀ ds : List D, D.pys ds = ds.map D.py
  | [] => rfl
  | d :: r => by simp only [D.pys, List.map_cons, pys_map r]
theorem plains_all : ∀ {ds : List D}, D.plains ds = true → ∀ d ∈ ds, d.plain = true
  | d :: r, h, e, he => by
    simp only [D.plains, Bool.and_eq_true] at h
    rcases List.mem_cons.mp he with rfl | he
    · exact h.1
    · exact plains_all h.2 e he

section
variable {X : Cx} {Z : En} {G : Cfg} {w : Wd} {st st1 : Store} {H : Hp} {E : XK}
/-- an own class's operator -/
def OwnBin (X : Cx) (Z : En) (G : Cfg) : Prop := ∀ (o : Bop) (C : String) (fs : List (String × D)) (y : Vl) (st st1 : Store) (w : Wd) (H : Hp) (v u : V) (x : Vl) (Q : VK),
  Sat Z w st H → RepV Z w (.d (.obj C fs)) v → RepV Z w y u → callM G C (opName o) [.d (.obj C fs), y] st = some (.ok x, st1) → (∀ w1 H1 v, Le w w1 → Sat Z w1 st1 H1 → RepV Z w1 x v → Q v H1) → ∃ rr, OpR X (binaryOp (bopO o)) rr ∧ rr v u H Q
def OwnEq (X : Cx) (Z : En) (G : Cfg) : Prop := ∀ (C : String) (fs : List (String × D)) (y : Vl) (st st1 : Store) (w : Wd) (H : Hp) (v u : V) (x : Vl) (Q : VK),
  Sat Z w st H → RepV Z w (.d (.obj C fs)) v → RepV Z w y u → callM G C "__eq__" [.d (.obj C fs), y] st = some (.ok x, st1) → (∀ w1 H1 v, Le w w1 → Sat Z w1 st1 H1 → RepV Z w1 x v → Q v H1) → ∃ rr, OpR X (compareOp .Eq) rr ∧ rr v u H Q
def OwnIn (X : Cx) (Z : En) (G : Cfg) : Prop := ∀ (C : String) (fs : List (String × D)) (y : Vl) (st st1 : Store) (w : Wd) (H : Hp) (v u : V) (x : Vl) (Q : VK),
  Sat Z w st H → RepV Z w (.d (.obj C fs)) v → RepV Z w y u → callM G C "__contains__" [.d (.obj C fs), y] st = some (.ok x, st1) → (∀ w1 H1 v, Le w w1 → Sat Z w1 st1 H1 → RepV Z w1 x v → Q v H1) → ∃ rr, OpR X (compareOp .In) rr ∧ rr u v H Q
theorem binI_ok {o : Bop} {i j : Int} {d : D} {Q : VK} {v u : V} (e : binI o i j = some d) (hv : v = .int i) (hu : u = .int j) (S : Sat Z w st H) (h : PO Z E (RepV Z) w Q (.ok (.d d), st)) : ∃ rr, OpR X (binaryOp (bopO o)) rr ∧ rr v u H Q := by
  subst hv hu
  have fin : ∀ k : Int, d = .int k → Q (.int k) H := fun k ek => by
    subst ek
    exact h.ok (Le.refl w) S (.int k)
  unfold binI at e
  cases o with
  | add => exact ⟨_, op_add, i, j, rfl, rfl, fin _ (eq_rf e)⟩
  | sub => exact ⟨_, op_sub, i, j, rfl, rfl, fin _ (eq_rf e)⟩
  | mul =>
    dsimp only at e
    split at e
    · rename_i hc
      exact ⟨_, op_mulW, i, j, rfl, rfl, of_decide_eq_true (p := i.natAbs.log2 + j.natAbs.log2 < 1000000) hc, fin _ (eq_rf e)⟩
    · cases e
  | fdiv =>
    dsimp only at e
    split at e
    · rename_i hc
      exact ⟨_, op_fdivW, i, j, rfl, rfl, of_decide_eq_true (p := 0 < j ∧ j.natAbs.log2 < 9000) hc, fin _ (eq_rf e)⟩
    · cases e
  | mod =>
    dsimp only at e
    split at e
    · rename_i hc
      exact ⟨_, op_mod, i, j, rfl, rfl, hc, fin _ (eq_rf e)⟩
    · cases e
  | pow =>
    dsimp only at e
    split at e
    · rename_i hc
      exact ⟨_, op_pow, i, j, rfl, rfl, of_decide_eq_true (p := 0 ≤ j ∧ j ≤ 1000000 ∧ i.natAbs < 2 ^ 64) hc, fin _ (eq_rf e)⟩
    · cases e
theorem repDs_map {w : Wd} {ds : List D} {vs : List V} (r : RepDs Z w.F ds vs) : RepVs Z w (ds.map .d) vs := RepVs.of_ds r
theorem binV_ok {m : Bool} {o : Bop} {x y : Vl} {v u : V} {r : Out Vl × Store} {Q : VK} (ob : OwnBin X Z G) (hK : X.K = Z.K) (S : Sat Z w st H) (rx : RepV Z w x v) (ry : RepV Z w y u) (e : binV G m o x y st = some r) (h : PO Z E (RepV Z) w Q r) :
    ∃ rr, OpR X (binaryOp (bopO o)) rr ∧ rr v u H Q := by
  unfold binV at e
  split at e
  · obtain ⟨x1, st1, e1, rfl⟩ := noErr_some e
    exact ob o _ _ y st st1 w H v u x1 Q S rx ry e1 h
  · cases qa : peek st x with
    | none => rw [qa] at e; cases e
    | some a =>
      cases qb : peek st y with
      | none => rw [qa, qb] at e; cases e
      | some b =>
        rw [qa, qb] at e
        dsimp only at e
        have ta := S.peek rx qa
        have tb := S.peek ry qb
        cases qd : binD o a b with
        | none => rw [qd] at e; cases e
        | some c =>
          rw [qd] at e
          unfold binD at qd
          split at qd
          · rename_i i j
            cases qi : binI o i j with
            | none => rw [qi] at qd; cases qd
            | some d =>
              rw [qi] at qd
              cases eq_rf qd
              exact binI_ok qi ta.int_inv tb.int_inv S (ret1_PO e h)
          · rename_i p q
            split at qd
            · rename_i hl
              cases eq_rf qd
              cases ta.str_inv
              cases tb.str_inv
              exact ⟨_, op_add_str, p, q, rfl, rfl, by rw [← SZ_eq]; exact hl, ret1_Q S e h (.str _)⟩
            · cases qd
          · rename_i xs ys
            split at qd
            · rename_i hl
              cases eq_rf qd
              obtain ⟨l, vs, rfl, hl1, r1⟩ := ta.lst_inv
              obtain ⟨l2, us, rfl, hl2, r2⟩ := tb.lst_inv
              refine ⟨_, op_catR, l, l2, vs, us, rfl, rfl, by rw [hK]; exact hl1, by rw [hK]; exact hl2, ?_, fun p hp => ?_⟩
              · rw [← r1.length, ← r2.length, ← SZ_eq]
                exact hl
              · exact (mkList_ok S (repDs_map (r1.append r2)) e h hp).2
            · cases qd
          · rename_i xs ys
            split at qd
            · rename_i hl
              cases eq_rf qd
              obtain ⟨l, vs, rfl, hl1, r1⟩ := ta.tup_inv
              obtain ⟨l2, us, rfl, hl2, r2⟩ := tb.tup_inv
              have h' := ret1_PO e h
              refine ⟨_, op_catA, l, l2, vs, us, rfl, rfl, by rw [hK]; exact hl1, by rw [hK]; exact hl2, ?_, fun e1 => ?_, fun e1 e2 => ?_, fun e1 e2 p hp => ?_⟩
              · rw [← r1.length, ← r2.length, ← SZ_eq]
                exact hl
              · subst e1
                cases r1
                rw [List.nil_append] at h'
                cases y with
                | d d0 =>
                  cases qb
                  exact h'.ok (Le.refl w) S ry
                | exc _ => cases qb
                | loc n =>
                  unfold SP.peek at qb
                  dsimp only at qb
                  cases q : st[n]? with
                  | none => rw [q] at qb; cases qb
                  | some mo =>
                    rw [q] at qb
                    cases mo <;> simp only [MO.toD] at qb
                    · cases qb
                    · split at qb <;> cases qb
                    · cases qb
                    · split at qb <;> cases qb
              · subst e2
                cases r2
                rw [List.append_nil] at h'
                cases x with
                | d d0 =>
                  cases qa
                  exact h'.ok (Le.refl w) S rx
                | exc _ => cases qa
                | loc n =>
                  unfold SP.peek at qa
                  dsimp only at qa
                  cases q : st[n]? with
                  | none => rw [q] at qa; cases qa
                  | some mo =>
                    rw [q] at qa
                    cases mo <;> simp only [MO.toD] at qa
                    · cases qa
                    · split at qa <;> cases qa
                    · cases qa
                    · split at qa <;> cases qa
              · exact mkTup_ok S (r1.append r2) h' hp
            · cases qd
          · rename_i xs k
            split at qd
            · rename_i hl
              cases eq_rf qd
              obtain ⟨l, vs, rfl, hl1, r1⟩ := ta.lst_inv
              cases tb.int_inv
              refine ⟨_, op_repR, l, k, vs, rfl, rfl, by rw [hK]; exact hl1, hl.2.1, hl.2.2, ?_, fun p hp => ?_⟩
              · rw [← r1.length, ← SZ_eq]
                exact hl.1
              · exact (mkList_ok S (repDs_map (r1.flatrep k.toNat)) e h hp).2
            · cases qd
          · rename_i p k
            split at qd
            · rename_i hl
              cases eq_rf qd
              cases ta.str_inv
              cases tb.int_inv
              exact ⟨_, op_repS, p, k, rfl, rfl, hl.1, hl.2.1, by rw [← SZ_eq]; exact hl.2.2, ret1_Q S e h (.str _)⟩
            · cases qd
          · cases qd
end
end SP

end

section
set_option maxHeartbeats 2000000
namespace SP
open PySem PySem.Spec PyProof.Rows L2
/-- the tuple at a, numbered -/
def IteT (K : PySem.W.Frag) (a : Addr) : L2.It where
  go := fun i H => ∃ (xs : List V) (x : V), SqT K H a xs ∧ xs[i]? = some x
  yld := fun i H v H' => ∃ T x, v = .ref T ∧ H T = none ∧ H' = upd H T (.tup [.int (i : Nat), x]) ∧ ∀ xs, SqT K H a xs → xs[i]? = some x
  stop := fun i H => ∃ xs : List V, SqT K H a xs ∧ xs.length ≤ i
/-- where such a walk stands -/
structure EnT (e it a : Addr) (i : Nat) (h : Heap) : Prop where
  en : ∃ old, IsEnum h e it ((i : Nat) : Int) old
  tu : h.IsTupleIter it a i
  ne : e ≠ it
theorem EnT.lt {e it a : Addr} {i : Nat} {h : Heap} (s : EnT e it a i h) : e < h.objs.size ∧ it < h.objs.size := by
  obtain ⟨⟨old, h1⟩, ⟨o, h2, _⟩, _⟩ := s
  exact ⟨Heap.lt_size h1, Heap.lt_size h2⟩
theorem EnT.apart {e it a : Addr} {i : Nat} {h : Heap} {its : Array Value} (s : EnT e it a i h) (p : h.IsTuple a its) : a ≠ it ∧ e ∉ [it, a] := by
  obtain ⟨⟨old, h1⟩, ⟨o, h2, h3, _⟩, h4⟩ := s
  obtain ⟨o2, h5, h6, _⟩ := p
  refine ⟨fun z => ?_, fun z => ?_⟩
  · subst z
    rw [h2] at h5
    cases h5
    rw [h3] at h6
    exact absurd h6 (by decide)
  · rcases List.mem_cons.mp z with z | z
    · exact h4 z
    · have z : e = a := by simpa using z
      subst z
      rw [h1] at h5
      cases h5
      have h6 : Value.type "enumerate" = Value.type "tuple" := h6
      exact absurd h6 (by decide)
theorem enT_end {prog : Program} {w : World} {A : Around} {E : Value → Shared → Prop} {s : Shared} {e it a : Addr} {i : Nat} {its : Array Value} {Q : Option Value → Shared → Prop} (hh : A.handled = none) (st : EnT e it a i s.heap) (p : s.heap.IsTuple a its) (hx : its[i]? = none)
    (q : ∀ h1, Heap.ExtBut it s.heap h1 → Q none { s with heap := h1 }) : wpAny (model prog w) A (pyNext (.ref e)) Q E s := by
  obtain ⟨⟨old, he⟩, hit, _⟩ := st
  have ty : s.TypeIs (.ref e) "enumerate" := ⟨_, he, rfl⟩
  have body : wpAny (model prog w) A.in1 (Builtin.«enumerate.__next__» ⟨[.ref e], []⟩) (fun _ _ => False) (fun x s1 => ∃ h1, s1 = { s with heap := h1 } ∧ Heap.ExtBut it s.heap h1 ∧ ∃ y o, x = .ref y ∧ h1.get? y = some o ∧ o.cls = .type "StopIteration") s := by
    show wpAny _ _ (field (.ref e) 2 >>= _) _ _ _
    refine wpAny_bind (wpAny_field he rfl (x := .ref it) rfl (wpAny_bind ?_))
    exact wpAny_nextOf_tuple_end hh hit p hx fun h1 y k1 ⟨o, k2, k3⟩ => ⟨h1, rfl, k1, y, o, rfl, k2, k3⟩
  unfold pyNext
  refine wpAny_bind (wpAny_attempt (wpAny_callSpecial?_slot (name := Str.ofString "__next__") ty F.slot_enumerate_next (wpAny_call_entry F.slot_enumerate_next ty F.entry_enumerate_next ?_ (F.args_enumerate_next_1 _))))
  refine wpAny_mono body (fun _ _ z => z.elim) fun x s1 ⟨h1, k1, k2, y, o, k3, k4, k5⟩ => ?_
  subst k1 k3
  refine wpAny_bind (wpAny_isInstance (T := "StopIteration") (b := true) ⟨o, k4, k5⟩ isSubtype_stop ?_)
  exact wpAny_pure (q h1 k2)
theorem turn_enT {P : Program} {w : World} {K : PySem.W.Frag} {elts : List Expr} {kk : Nat} {tpos : Pos} (a e it : Addr) : Turn P w K (.Tuple elts kk tpos) (IteT K a) [e, it] e (EnT e it a) where
  mem := List.mem_cons_self
  obj := by
    intro i h st b hb
    obtain ⟨⟨old, he⟩, ⟨o, ho, _, hd⟩, _⟩ := st
    rcases List.mem_cons.mp hb with rfl | hb
    · exact ⟨_, he, by intro v z; cases z⟩
    · obtain rfl : b = it := by simpa using hb
      exact ⟨o, ho, by intro v z; rw [hd] at z; cases z⟩
  keep := by
    intro i h h' ⟨⟨old, he⟩, hi, hn⟩ k
    exact ⟨⟨old, k e (by simp) _ he⟩, hi.at fun o z => k it (by simp) o z, hn⟩
  item := by
    intro X hP hw hK hc i pins s σ H E I hf st hg
    subst hP hw hK
    obtain ⟨xs, x, hq, hx⟩ := hg
    obtain ⟨its, rv, p, _⟩ := I.tuple hq
    have p : s.heap.IsTuple a its.toArray := p
    obtain ⟨u, hu, ru⟩ := rv.get hx
    obtain ⟨n1, n2⟩ := st.apart p
    obtain ⟨l1, l2⟩ := st.lt
    obtain ⟨⟨old, he⟩, hit, hn⟩ := st
    have hlt : i < its.toArray.size := by
      have := (List.getElem?_eq_some_iff.mp hu).1
      simpa using this
    refine wpAny_pyNext_enum_itemD (PySem.Draws.tuple (show X.A.in1.handled = none from I.ok.hd hc) it a n1 its.toArray) he ⟨hit, p⟩ hlt hn n2 fun u' h1 tk hu' ho hst hT hsz hk => ?_
    have : u' = u := by
      have e1 : its[i]? = some u' := by simpa using hu'
      rw [hu] at e1
      exact (Option.some.inj e1).symm
    subst this
    refine ⟨_, rfl, wpAny_letOwnedTupleGo_enum (s := { s with heap := h1, toks := tk + 1 }) ho fun h2 he2 sb => ?_⟩
    have fresh : H s.heap.objs.size = none := I.hok.fresh (Nat.le_refl _)
    have hT2 : h2.get? s.heap.objs.size = some { cls := .type "tuple", data := .seq #[.int i tk, u'] } := by
      rw [← hT]
      exact sb.2 _ (Nat.ne_of_gt l1)
    have mk : ObjOk X.prog X.w (upd H s.heap.objs.size (.tup [.int (i : Nat), x])) h2 s.heap.objs.size (.tup [.int (i : Nat), x]) := by
      refine ⟨show 2 ≤ sizeLine by decide, [.int i tk, u'], .cons ⟨_, rfl⟩ (.cons ru .nil), _, hT2, rfl, _, rfl⟩
    have J : Inv X pins σ (upd H s.heap.objs.size (.tup [.int (i : Nat), x])) { s with heap := h2, toks := tk + 1 } := by
      refine I.turnedNew (ch := [e, it]) (fun b ob hb z => ?_) hf (Nat.le_refl _) mk
      have b1 : b ≠ e := fun y => hb (by simp [y])
      have b2 : b ≠ it := fun y => hb (by simp [y])
      rw [← hk b ob b1 b2 z]
      exact sb.2 b b1
    refine ⟨.ref s.heap.objs.size, _, J, rfl, ⟨_, x, rfl, fresh, rfl, fun ys hy => ?_⟩, ⟨⟨u', ?_⟩, ?_, hn⟩, fun b hb => ?_⟩
    · rw [I.tuple_inj hy hq]
      exact hx
    · rw [Int.natCast_add]
      exact he2
    · exact hst.1.at fun o z => by rw [← z]; exact sb.2 it (Ne.symm hn)
    · have lb : b < s.heap.objs.size := by
        rcases List.mem_cons.mp hb with rfl | hb
        · exact l1
        · obtain rfl : b = it := by simpa using hb
          exact l2
      rw [upd_ne (Nat.ne_of_lt lb)]
      exact (hf b hb).1
  done := by
    intro X hP hw hK hc i pins s σ H E I hf st hg
    subst hP hw hK
    obtain ⟨xs, hq, hx⟩ := hg
    obtain ⟨its, rv, p, _⟩ := I.tuple hq
    have p : s.heap.IsTuple a its.toArray := p
    have hl := rv.length
    obtain ⟨f0, f1, f2, f3, f4, f5⟩ := hf it (by simp)
    refine enT_end (I.ok.hd hc) st p (by simp; omega) fun h1 k => ⟨rfl, ?_⟩
    exact I.turned (t' := s.toks) (fun b o hb z => k b o hb z) f0 f1 f3 f4 f5
  self := by
    intro A i s Q E st h
    obtain ⟨⟨_, he⟩, _⟩ := st
    exact wpAny_pyIter_enum he h
theorem enT_new (t : Addr) (items : Array Value) (n : Nat) (dct : Option Addr) (sl : Array (Option Value)) :
    Meets (Builtin.«enumerate.__new__» ⟨[.type "enumerate", .ref t], []⟩) (fun _ R s => s.heap.get? t = some { cls := .type "tuple", dict := dct, data := .seq items n, slots := sl } ∧
      R (.ok (.ret (.ref (s.heap.push { cls := .type "tuple_iterator", data := .fields #[.ref t, .int 0 0] }).objs.size)))
        { s with heap := (s.heap.push { cls := .type "tuple_iterator", data := .fields #[.ref t, .int 0 0] }).push { cls := .type "enumerate", data := .fields #[.none, .bool false, .ref s.heap.objs.size, rawInt 0, .none, .none] } }) :=
  .of_wp fun prog w A R s h => by
    obtain ⟨hp, g, d, tk, os⟩ := s
    obtain ⟨hl, h⟩ := h
    have sub := sub_enumerate
    have tup : Heap.IsTuple (Shared.heap ⟨hp, g, d, tk, os⟩) t items := ⟨_, hl, rfl, n, rfl⟩
    wp_walk using AutoSeq1.wpAny_loadPart' hl
    refine wpAny_stack_any fun st => wpAny_pure ?_
    split
    · rename_i c _ _ _ _ _
      cases (c == Value.type "enumerate") <;> (wp_walk using AutoSeq1.wpAny_loadPart' hl, wpAny_pyIter_tuple tup; exact ⟨_, rfl, h⟩)
    · wp_walk using AutoSeq1.wpAny_loadPart' hl, wpAny_pyIter_tuple tup
      exact ⟨_, rfl, h⟩
theorem enT_call {prog : Program} {w : World} {A : Around} {E : Value → Shared → Prop} {s : Shared} {t : Addr} {items : Array Value} {Q : Value → Shared → Prop} (p : s.heap.IsTuple t items)
    (h : ∀ h1, EnT (s.heap.objs.size + 1) s.heap.objs.size t 0 h1 → (∀ b o, s.heap.get? b = some o → h1.get? b = some o) → Q (.ref (s.heap.objs.size + 1)) { s with heap := h1 }) : wpAny (model prog w) A (call (.type "enumerate") [.ref t]) Q E s := by
  obtain ⟨⟨c, dct, dt, sl⟩, hl, hc, n, hd⟩ := p
  have hc : c = .type "tuple" := hc
  have hd : dt = .seq items n := hd
  subst hc hd
  refine callType_new F.called_enumerate (by decide) (F.typeCall_enumerate_1 _) (F.newCall_enumerate_1 _) (fun obj => F.args_object_init_2 obj _) F.entry_enumerate_new (enT_new t items n dct sl) ⟨hl, ?_⟩
  have z : (s.heap.push { cls := .type "tuple_iterator", data := .fields #[.ref t, .int 0 0] }).objs.size = s.heap.objs.size + 1 := Heap.size_push ..
  show _ ∧ _
  rw [z]
  have en := Heap.get?_push_size (s.heap.push { cls := .type "tuple_iterator", data := .fields #[.ref t, .int 0 0] }) (o := { cls := .type "enumerate", data := .fields #[.none, .bool false, .ref s.heap.objs.size, rawInt 0, .none, .none] }) rfl
  rw [z] at en
  exact ⟨⟨_, en, rfl⟩, h _ ⟨⟨_, en⟩, ⟨_, Heap.get?_push_of_some _ (Heap.get?_push_size _ rfl), rfl, rfl⟩, Nat.succ_ne_self _⟩ fun b o y => Heap.get?_push_of_some _ (Heap.get?_push_of_some _ y)⟩
def iEnT (K : PySem.W.Frag) (ta : TA) : TI := fun σ H R => ta σ H fun vs H1 => ∃ a, vs = [.ref a] ∧ ((∃ xs, SqL K H1 a xs ∧ R (Ite K a) H1) ∨ (∃ xs, SqT K H1 a xs ∧ R (IteT K a) H1))
theorem pi_enT {X : Cx} {e : Expr} {ta : TA} {p pos tpos : Pos} {elts : List Expr} {kk : Nat} (hg : Gl X "enumerate") (hm : X.mg "enumerate" = none) (ha : PA X [e] ta) (hs : starEach [e] X.env = [(false, eval e X.env)]) :
    PI X (.Tuple elts kk tpos) (.Call (.Name "enumerate" p) [e] [] pos) (iEnT X.K ta) := by
  refine ⟨fun pins s σ H R I h => ?_⟩
  refine Call_ (ld_blt I hg hm boot_enumerate (PyProof.Rows.callWith_type1 (thn (ha.run pos pins s σ H _ I h) fun us s1 ⟨vs, H1, J, r1, a, ev, q⟩ => ?_) hs rfl))
  subst ev
  cases r1 with
  | cons r rr =>
    cases rr
    cases r
    have room : ∀ b ∈ [s1.heap.objs.size + 1, s1.heap.objs.size], s1.heap.objs.size ≤ b := by
      intro b hb
      rcases List.mem_cons.mp hb with rfl | hb
      · exact Nat.le_add_right _ _
      · obtain rfl : b = s1.heap.objs.size := by simpa using hb
        exact Nat.le_refl _
    rcases q with ⟨xs, hq, q⟩ | ⟨xs, hq, q⟩
    · obtain ⟨its, rv, p, _⟩ := J.list hq
      refine call_enumerate_list p.isList fun h1 he hit _ hk => wpAny_pyIter_enum he ?_
      have J2 : Inv X pins σ H1 { s1 with heap := h1 } := J.kept (t' := s1.toks) hk
      exact ⟨s1.heap.objs.size + 1, [s1.heap.objs.size + 1, s1.heap.objs.size], _, _, H1, rfl, J2, turn_enum a (s1.heap.objs.size + 1) s1.heap.objs.size, ⟨⟨.none, he⟩, hit, Nat.succ_ne_self _⟩, fun b hb => J.fpOk (room b hb) (J.hok.fresh (room b hb)), q⟩
    · obtain ⟨its, rv, p, _⟩ := J.tuple hq
      refine enT_call (show s1.heap.IsTuple a its.toArray from p) fun h1 st hk => ?_
      obtain ⟨⟨old, he⟩, _⟩ := id st
      refine wpAny_pyIter_enum he ?_
      have J2 : Inv X pins σ H1 { s1 with heap := h1 } := J.kept (t' := s1.toks) hk
      exact ⟨s1.heap.objs.size + 1, [s1.heap.objs.size + 1, s1.heap.objs.size], _, _, H1, rfl, J2, turn_enT a (s1.heap.objs.size + 1) s1.heap.objs.size, st, fun b hb => J.fpOk (room b hb) (J.hok.fresh (room b hb)), q⟩
end SP

end

section
set_option maxHeartbeats 1000000
namespace SP
open PySem PySem.Spec PyProof.Rows L2
section
variable {X : Cx} {Z : En} {G : Cfg} {w : Wd} {st st1 : Store} {H : Hp} {E : XK}
theorem units64 {A : Around} {k : Nat} (h : Room k A) : A.units + 65 < cLine := by have := h.un; omega
theorem hK_SqT {a : Addr} {vs : List V} (hK : X.K = Z.K) (h : SqT Z.K H a vs) : SqT X.K H a vs := by rw [hK]; exact h
/-- the located object behind a value -/
theorem Sat.at_ (S : Sat Z w st H) {n : Nat} {v : V} {o : MO} (r : RepV Z w (.loc n) v) (e : st[n]? = some o) : ∃ a, v = .ref a ∧ w.ι n = some a ∧ ObjAt Z w H a o := by
  obtain ⟨a, ea, _, oa⟩ := S.obj n o e
  obtain ⟨a', ea', rfl⟩ := r
  rw [ea] at ea'
  cases ea'
  exact ⟨a, rfl, ea, oa⟩

theorem flat_V {F : Hp} {d : D} {v : V} (r : RepD Z F d v) (h : d.flat = true) : flatV v = true := by
  cases r <;> first | rfl | (simp [D.flat] at h)
theorem flat_eqV {F : Hp} {d e : D} {v u : V} (r : RepD Z F d v) (q : RepD Z F e u) (hd : d.flat = true) (he : e.flat = true) : eqV v u = D.eqv d e := by
  cases r <;> cases q <;> first
    | (simp [D.flat] at hd; done)
    | (simp [D.flat] at he; done)
    | (simp [eqV, D.eqv]; done)
theorem flats_V {F : Hp} : ∀ {ds : List D} {vs : List V}, RepDs Z F ds vs → ds.all D.flat = true → vs.all flatV = true
  | _, _, .nil, _ => rfl
  | _, _, .cons a r, h => by
    rw [List.all_cons, Bool.and_eq_true] at h ⊢
    exact ⟨flat_V a h.1, flats_V r h.2⟩
theorem flats_inV {F : Hp} {x : D} {v : V} (rx : RepD Z F x v) (hx : x.flat = true) : ∀ {ds : List D} {vs : List V}, RepDs Z F ds vs → ds.all D.flat = true → inV v vs = ds.any fun z => D.eqv z x
  | _, _, .nil, _ => rfl
  | _, _, .cons a r, h => by
    rw [List.all_cons, Bool.and_eq_true] at h
    show (eqV _ v || _) = (_ || _)
    rw [flat_eqV a rx h.1 hx]
    exact congrArg _ (flats_inV rx hx r h.2)
theorem flat_RepD {d : D} {v : V} {F : Hp} (t : RepT Z F H d v) (h : d.flat = true) (H' : Hp) : RepD Z H' d v := by
  cases t with
  | d r s => cases r <;> first | exact .non | exact .bl _ | exact .int _ | exact .str _ | (simp [D.flat] at h)
  | lst => simp [D.flat] at h
  | obj => simp [D.flat] at h
theorem isFlat_of {d : D} (h : d.flat = true) : True := trivial
theorem any_py {x : D} (hx : x.plain = true) : ∀ {ds : List D}, D.plains ds = true → ((ds.map D.py).any fun z => PyData.eqv z (D.py x)) = ds.any fun z => D.eqv z x
  | [], _ => rfl
  | d :: r, h => by
    simp only [D.plains, Bool.and_eq_true] at h
    simp only [List.map_cons, List.any_cons, py_eqv d x h.1 hx, any_py hx h.2]
/-- x in y, of data: the two operators -/
theorem inD_ok {k : Nat} (hr : Room k X.A) (hK : X.K = Z.K) (hw : X.w = Z.w) (F : Hp) {x y : D} {v u : V} {c : Bool} {Q : VK} (tx : RepT Z F H x v) (ty : RepT Z F H y u) (e : inD x y = some c) :
    (Q (.bl c) H → ∃ rr, OpR X (compareOp .In) rr ∧ rr v u H Q) ∧ (Q (.bl (!c)) H → ∃ rr, OpR X (compareOp .NotIn) rr ∧ rr v u H Q) := by
  unfold inD at e
  cases y with
  | lst ds =>
    dsimp only at e
    split at e
    · rename_i hs
      rw [Bool.and_eq_true] at hs
      cases eq_rf e
      have d1 := rep_dp x (shp_plain hs.1) tx.toH
      have d2 := rep_dp (.lst ds) (shp_plain hs.2) ty.toH
      rw [← hK] at d1 d2
      have e2 : D.py (.lst ds) = .list (ds.map D.py) := by simp only [D.py, pys_map]
      have s2 := shp_shaped hs.2
      rw [e2] at d2 s2
      have hany := any_py (x := x) (shp_plain hs.1) (ds := ds) (by simpa [D.plain] using shp_plain hs.2)
      refine ⟨fun q => ⟨_, op_inD (by have := units64 hr; omega), D.py x, ds.map D.py, d1, d2, shp_shaped hs.1, s2, by rw [hany]; exact q⟩,
        fun q => ⟨_, op_notInD (by have := units64 hr; omega), D.py x, ds.map D.py, d1, d2, shp_shaped hs.1, s2, by rw [hany]; exact q⟩⟩
    · cases e
  | tup ds =>
    dsimp only at e
    split at e
    · rename_i hs
      rw [Bool.and_eq_true] at hs
      cases eq_rf e
      obtain ⟨a, vs, rfl, ht, rs⟩ := ty.tup_inv
      have rx := flat_RepD tx hs.1 F
      have h1 := flat_V rx hs.1
      have h2 := flats_V rs hs.2
      have h3 := flats_inV rx hs.1 rs hs.2
      refine ⟨fun q => ⟨_, op_in_seq, a, vs, rfl, .inr (hK_SqT hK ht), h1, h2, ?_⟩, fun q => ⟨_, op_notIn_seq, a, vs, rfl, .inr (hK_SqT hK ht), h1, h2, ?_⟩⟩
      · rw [if_neg Bool.false_ne_true, h3]
        exact q
      · rw [if_pos rfl, h3]
        exact q
    · cases e
  | str z =>
    cases x with
    | str t =>
      dsimp only at e
      split at e
      · rename_i hs
        cases eq_rf e
        cases tx.str_inv
        cases ty.str_inv
        have et : t = ⟨#[t.cps.getD 0 0]⟩ := by
          obtain ⟨a⟩ := t
          have h1 : a.size = 1 := hs
          show (⟨a⟩ : Str) = ⟨#[a.getD 0 0]⟩
          congr 1
          apply Array.ext
          · simp [h1]
          · intro i h2 h3
            have : i = 0 := by simp at h3; exact h3
            subst this
            simp [Array.getD, h1]
        refine ⟨fun q => ⟨_, op_in_sign, t.cps.getD 0 0, z, by rw [← et], rfl, q⟩, fun q => ⟨_, op_notIn_sign, t.cps.getD 0 0, z, by rw [← et], rfl, q⟩⟩
      · cases e
    | _ => cases e
  | dct kvs =>
    cases x with
    | str t =>
      cases eq_rf e
      cases tx.str_inv
      cases ty with
      | d r s =>
        cases r with
        | @dctW ks a es n kd look =>
          have hany : ((ks.map fun p => ((.str p.1, .int p.2) : D × D)).any fun kv => D.eqv kv.1 (.str t)) = (ks.lookup t).isSome := by
            clear e look
            induction ks with
            | nil => rfl
            | cons p r ih =>
              obtain ⟨k1, i1⟩ := p
              rw [List.map_cons, List.any_cons, ih, List.lookup_cons]
              simp only [D.eqv]
              by_cases hk : t = k1
              · subst hk
                simp
              · have h1 : (t == k1) = false := beq_eq_false_iff_ne.mpr hk
                have h2 : (k1 == t) = false := beq_eq_false_iff_ne.mpr (Ne.symm hk)
                rw [h1, h2]
                simp
          rw [hany]
          rw [← hK, ← hw] at kd
          have lk : ∃ o, PySem.W.nsIn X.K a t = some o ∧ o.isSome = (ks.lookup t).isSome := by
            rw [hK]
            rcases look t with ⟨i, tk, h1, h2⟩ | ⟨h1, h2⟩
            · exact ⟨_, h2, by rw [h1]; rfl⟩
            · exact ⟨_, h2, by rw [h1]; rfl⟩
          obtain ⟨o, h1, h2⟩ := lk
          refine ⟨fun q => ⟨_, op_in_kd kd, t, o, rfl, rfl, h1, by rw [h2]; exact q⟩, fun q => ⟨_, op_notIn_kd kd, t, o, rfl, rfl, h1, by rw [h2]; exact q⟩⟩
    | _ => cases e
  | _ => cases e
/-- what the evaluator's context must be -/
structure CmpOk (X : Cx) (Z : En) (G : Cfg) : Prop where
  K : X.K = Z.K
  w : X.w = Z.w
  room : ∃ k, Room k X.A
  eq : OwnEq X Z G
  isin : OwnIn X Z G
theorem cmpD_ok (hc : CmpOk X Z G) (S : Sat Z w st H) {o : Cop} {x y : D} {v u : V} {c : Bool} {Q : VK} (tx : RepT Z w.F H x v) (ty : RepT Z w.F H y u) (e : cmpD o x y = some c) (q : Q (.bl c) H) :
    ∃ rr, OpR X (compareOp (copO o)) rr ∧ rr v u H Q := by
  obtain ⟨k, hr⟩ := hc.room
  have hu := units64 hr
  have eqq : ∀ {c : Bool}, D.eqq x y = some c → ∃ d1 d2, Dp X.K H v d1 ∧ Dp X.K H u d2 ∧ SeqAt.shaped d1 = true ∧ SeqAt.shaped d2 = true ∧ PyData.eqv d1 d2 = c := fun {c} h => by
    unfold D.eqq at h
    split at h
    · rename_i hs
      rw [Bool.and_eq_true] at hs
      cases eq_rf h
      exact ⟨_, _, by rw [hc.K]; exact rep_dp x (shp_plain hs.1) tx.toH, by rw [hc.K]; exact rep_dp y (shp_plain hs.2) ty.toH, shp_shaped hs.1, shp_shaped hs.2, py_eqv x y (shp_plain hs.1) (shp_plain hs.2)⟩
    · cases h
  have dI : ∀ {o : Cop} {g : Int → Int → Bool} {p : CmpOp}, OpR X (compareOp p) (rI0 fun i j => .bl (g i j)) → (∀ i j, cmpI o i j = some (g i j)) → cmpN o x y = some c → ∃ rr, OpR X (compareOp p) rr ∧ rr v u H Q := by
    intro o g p hop hg h
    unfold cmpN at h
    split at h
    · rename_i i j
      rw [hg i j] at h
      cases eq_rf h
      cases tx.int_inv
      cases ty.int_inv
      exact ⟨_, hop, i, j, rfl, rfl, q⟩
    · cases h
  have nonV : ∀ {x : D} {v : V}, RepT Z w.F H x v → decide (v = .non) = x.isNon := fun {x v} t => by
    cases t with
    | d r s => cases r <;> rfl
    | lst => rfl
    | obj => rfl
  cases o with
  | eq =>
    obtain ⟨d1, d2, h1, h2, h3, h4, h5⟩ := eqq e
    exact ⟨_, op_eqD (by omega), d1, d2, h1, h2, h3, h4, by rw [h5]; exact q⟩
  | ne =>
    unfold cmpD at e
    dsimp only at e
    cases q0 : D.eqq x y with
    | none => rw [q0] at e; cases e
    | some b =>
      rw [q0] at e
      have e' : c = !b := eq_rf e
      subst e'
      obtain ⟨d1, d2, h1, h2, h3, h4, h5⟩ := eqq q0
      exact ⟨_, op_neD (by omega), d1, d2, h1, h2, h3, h4, by rw [h5]; exact q⟩
  | lt => exact dI (o := .lt) (g := fun i j => decide (i < j)) op_lt (fun _ _ => rfl) e
  | le => exact dI (o := .le) (g := fun i j => decide (i ≤ j)) op_le (fun _ _ => rfl) e
  | gt => exact dI (o := .gt) (g := fun i j => decide (j < i)) op_gt (fun _ _ => rfl) e
  | ge => exact dI (o := .ge) (g := fun i j => decide (j ≤ i)) op_ge (fun _ _ => rfl) e
  | is =>
    unfold cmpD at e
    dsimp only at e
    split at e
    · rename_i hy
      cases eq_rf e
      have h1 := nonV ty
      rw [hy] at h1
      exact ⟨_, op_isN, of_decide_eq_true h1, by rw [nonV tx]; exact q⟩
    · cases e
  | isnot =>
    unfold cmpD at e
    dsimp only at e
    split at e
    · rename_i hy
      cases eq_rf e
      have h1 := nonV ty
      rw [hy] at h1
      exact ⟨_, op_notN, of_decide_eq_true h1, by rw [nonV tx]; exact q⟩
    · cases e
  | isin => exact (inD_ok hr hc.K hc.w w.F tx ty e).1 q
  | notin =>
    unfold cmpD at e
    dsimp only at e
    cases q0 : inD x y with
    | none => rw [q0] at e; cases e
    | some b =>
      rw [q0] at e
      have e' : c = !b := eq_rf e
      subst e'
      exact (inD_ok hr hc.K hc.w w.F tx ty q0).2 q
end
end SP

end

section
set_option maxHeartbeats 1000000
namespace SP
open PySem PySem.Spec PyProof.Rows L2
section
variable {X : Cx} {Z : En} {G : Cfg} {w : Wd} {st st1 : Store} {H : Hp} {E : XK}
theorem op_inDK (hu : X.A.units + 1 < cLine) : OpR X (compareOp .In) (fun x y H Q => ∃ a o, y = .ref a ∧ DGet H a x o ∧ Q (.bl o.isSome) H) := by
  intro pins s σ H x y v u Q I rx ry h
  obtain ⟨a, o, rfl, g, q⟩ := h
  cases ry
  exact d_in hu I g rx fun s3 I3 => ⟨.bl o.isSome, H, I3, rfl, q⟩
theorem op_notInDK (hu : X.A.units + 1 < cLine) : OpR X (compareOp .NotIn) (fun x y H Q => ∃ a o, y = .ref a ∧ DGet H a x o ∧ Q (.bl (!o.isSome)) H) := by
  intro pins s σ H x y v u Q I rx ry h
  obtain ⟨a, o, rfl, g, q⟩ := h
  cases ry
  exact d_notIn hu I g rx fun s3 I3 => ⟨.bl (!o.isSome), H, I3, rfl, q⟩
theorem ix_DK (hu : X.A.units + 1 < cLine) : IxR X (fun x y H Q => ∃ a z, x = .ref a ∧ DGet H a y (some z) ∧ Q z H) := by
  intro value slice pins s σ H x y v u Q I rx ry h hs
  obtain ⟨a, z, rfl, g, q⟩ := h
  cases rx
  exact tail_any (dict_typeIs I g) PySem.F.slot_dict_getitem.lookup (d_getItem hu I g ry fun w' s3 I3 rw' => ⟨z, H, I3, rw', q⟩) hs
theorem call_lenDK : CallR X (.builtin "len") (fun xs H Q => ∃ a kvs, xs = [.ref a] ∧ H a = some (.dK kvs) ∧ Q (.int (kvs.length : Nat)) H) := by
  intro pins s σ H xs us Q I r h
  obtain ⟨a, kvs, rfl, e, q⟩ := h
  obtain ⟨u, rfl, rx⟩ := vals1 r
  cases rx
  exact d_len I (.inl e) fun t s' I' => ⟨.int _, H, I', ⟨t, rfl⟩, q⟩
theorem keyK_eq {a b : D} {j k : Key} (ha : keyK a = some j) (hb : keyK b = some k) : D.eqv a b = decide (j = k) := by
  cases a <;> first | (cases ha; done) | skip
  all_goals (cases b <;> first | (cases hb; done) | skip)
  all_goals (cases ha; cases hb; simp [D.eqv]; try rfl)
  all_goals first
    | (rename_i x y; by_cases h : x = y <;> simp [h])
    | skip
theorem RepK.len {w : Wd} : ∀ {kvs : List (D × Vl)} {ks : List (Key × V)}, RepK Z w kvs ks → kvs.length = ks.length
  | _, _, .nil => rfl
  | _, _, .cons _ _ r => congrArg Nat.succ r.len
theorem RepK.look {w : Wd} {k : D} {q : Key} (hk : keyK k = some q) : ∀ {kvs : List (D × Vl)} {ks : List (Key × V)}, RepK Z w kvs ks → (dlook kvs k = none ∧ valV ks q = none) ∨ ∃ x v, dlook kvs k = some x ∧ valV ks q = some v ∧ RepV Z w x v
  | _, _, .nil => .inl ⟨rfl, rfl⟩
  | _, _, .cons (d := d) (k := k0) (x := x) (v := v) (r := r) (s := s) e a t => by
    have h := keyK_eq e hk
    unfold dlook
    by_cases hq : k0 = q
    · rw [h, decide_eq_true hq, if_pos rfl, valV_pos hq]
      exact .inr ⟨x, v, rfl, rfl, a⟩
    · rw [h, decide_eq_false hq, if_neg Bool.false_ne_true, valV_neg hq]
      exact RepK.look hk t
theorem RepK.any {w : Wd} {k : D} {q : Key} (hk : keyK k = some q) : ∀ {kvs : List (D × Vl)} {ks : List (Key × V)}, RepK Z w kvs ks → (kvs.any fun kv => D.eqv kv.1 k) = ks.any fun kv => decide (kv.1 = q)
  | _, _, .nil => rfl
  | _, _, .cons e a t => by rw [List.any_cons, List.any_cons, RepK.any hk t, keyK_eq e hk]
theorem RepK.rpl {w : Wd} {k : D} {q : Key} {x : Vl} {v : V} (hk : keyK k = some q) (rv : RepV Z w x v) : ∀ {kvs : List (D × Vl)} {ks : List (Key × V)}, RepK Z w kvs ks → RepK Z w (kvs.map fun kv => if D.eqv kv.1 k then (kv.1, x) else kv) (ks.map fun kv => if kv.1 = q then (kv.1, v) else kv)
  | _, _, .nil => .nil
  | _, _, .cons (k := k0) e a t => by
    have h := keyK_eq e hk
    rw [List.map_cons, List.map_cons]
    by_cases hq : k0 = q
    · simp only [h, decide_eq_true hq, if_pos hq, if_true]
      exact .cons e rv (RepK.rpl hk rv t)
    · simp only [h, decide_eq_false hq, if_neg hq, Bool.false_eq_true, if_false]
      exact .cons e a (RepK.rpl hk rv t)
theorem RepK.app {w : Wd} {k : D} {q : Key} {x : Vl} {v : V} (hk : keyK k = some q) (rv : RepV Z w x v) : ∀ {kvs : List (D × Vl)} {ks : List (Key × V)}, RepK Z w kvs ks → RepK Z w (kvs ++ [(k, x)]) (ks ++ [(q, v)])
  | _, _, .nil => .cons hk rv .nil
  | _, _, .cons e a t => .cons e a (RepK.app hk rv t)
theorem RepK.put {w : Wd} {k : D} {q : Key} {x : Vl} {v : V} (hk : keyK k = some q) (rv : RepV Z w x v) {kvs : List (D × Vl)} {ks : List (Key × V)} (r : RepK Z w kvs ks) : RepK Z w (dput kvs k x) (putK ks q v) := by
  unfold dput putK
  rw [r.any hk]
  split
  · exact r.rpl hk rv
  · exact r.app hk rv
theorem scal_key {k : D} (h : k.scal = true) : ∃ q, keyK k = some q := by
  cases k <;> first | exact ⟨_, rfl⟩ | cases h
theorem key_kV {k : D} {q : Key} {F : Hp} {v : V} (h : keyK k = some q) (r : RepD Z F k v) : v = kV q := by
  cases r <;> cases h <;> rfl
/-- what a located dict holds -/
theorem dget_ok (S : Sat Z w st H) {n : Nat} {v u : V} {k : D} {kvs : List (D × Vl)} (rv : RepV Z w (.loc n) v) (e : st[n]? = some (.dct kvs)) (hk : k.scal = true) (tu : RepT Z w.F H k u) :
    ∃ a o, v = .ref a ∧ DGet H a u o ∧ o.isSome = (dlook kvs k).isSome ∧ ∀ x, dlook kvs k = some x → ∃ z, o = some z ∧ RepV Z w x z := by
  obtain ⟨a, rfl, ea, ks, hH, rk, hl⟩ := S.at_ rv e
  obtain ⟨q, hq⟩ := scal_key hk
  have hf : k.flat = true := by cases k <;> first | rfl | cases hk
  have eu := key_kV hq (flat_RepD tu hf H)
  subst eu
  have dg : DGet H a (kV q) (valV ks q) := .inl ⟨ks, q, .inl hH, rfl, rfl⟩
  rcases rk.look hq with ⟨h1, h2⟩ | ⟨x, z, h1, h2, h3⟩
  · exact ⟨a, _, rfl, dg, by rw [h1, h2]; rfl, fun x hx => by rw [h1] at hx; cases hx⟩
  · exact ⟨a, _, rfl, dg, by rw [h1, h2]; rfl, fun x' hx => by rw [h1] at hx; cases hx; exact ⟨z, h2, h3⟩⟩

theorem cmpLoc_ok (hc : CmpOk X Z G) (S : Sat Z w st H) {b : Bool} {k : D} {n : Nat} {v u : V} {r : Out Vl × Store} {Q : VK} (tx : RepT Z w.F H k v) (ry : RepV Z w (.loc n) u)
    (e : cmpL b st k n = some r) (h : PO Z E (RepV Z) w Q r) : ∃ rr, OpR X (compareOp (if b then .NotIn else .In)) rr ∧ rr v u H Q := by
  unfold cmpL at e
  obtain ⟨kk, hr⟩ := hc.room
  have hu := units64 hr
  cases q : st[n]? with
  | none => rw [q] at e; cases e
  | some o =>
    rw [q] at e
    cases o with
    | dead => cases e
    | ins C fs => cases e
    | dct kvs =>
      dsimp only at e
      split at e
      · rename_i hs
        obtain ⟨a, o, rfl, dg, ho, _⟩ := dget_ok S ry q hs tx
        have hq := ret1_Q S e h (.bl _)
        cases b with
        | true => exact ⟨_, op_notInDK (by omega), a, o, rfl, dg, by rw [ho]; exact hq⟩
        | false => exact ⟨_, op_inDK (by omega), a, o, rfl, dg, by rw [ho]; exact hq⟩
      · cases e
    | lst xs =>
      dsimp only at e
      cases q2 : dats xs with
      | none => rw [q2] at e; cases e
      | some ds =>
        rw [q2] at e
        dsimp only at e
        cases q3 : inD k (.lst ds) with
        | none => rw [q3] at e; cases e
        | some c =>
          rw [q3] at e
          have hp : peek st (.loc n) = some (.lst ds) := by
            unfold SP.peek
            simp only [q, MO.toD, q2]
          have ty := S.peek ry hp
          have hq := ret1_Q S e h (.bl _)
          have := inD_ok hr hc.K hc.w w.F (Q := Q) tx ty q3
          cases b with
          | true => exact this.2 hq
          | false => exact this.1 hq
theorem cmpP_ok (hc : CmpOk X Z G) (S : Sat Z w st H) {o : Cop} {x y : Vl} {v u : V} {r : Out Vl × Store} {Q : VK} (rx : RepV Z w x v) (ry : RepV Z w y u) (e : cmpP o x y st = some r) (h : PO Z E (RepV Z) w Q r) :
    ∃ rr, OpR X (compareOp (copO o)) rr ∧ rr v u H Q := by
  unfold cmpP at e
  cases ha : peek st x with
  | none => rw [ha] at e; cases e
  | some a =>
    rw [ha] at e
    dsimp only at e
    cases hb : peek st y with
    | none => rw [hb] at e; cases e
    | some b =>
      rw [hb] at e
      dsimp only at e
      cases q : cmpD o a b with
      | none => rw [q] at e; cases e
      | some c =>
        rw [q] at e
        exact cmpD_ok hc S (S.peek rx ha) (S.peek ry hb) q (ret1_Q S e h (.bl c))
theorem cmpV_ok (hc : CmpOk X Z G) (S : Sat Z w st H) {o : Cop} {x y : Vl} {v u : V} {r : Out Vl × Store} {Q : VK} (rx : RepV Z w x v) (ry : RepV Z w y u) (e : cmpV G o x y st = some r) (h : PO Z E (RepV Z) w Q r) :
    ∃ rr, OpR X (compareOp (copO o)) rr ∧ rr v u H Q := by
  cases o with
  | eq =>
    unfold cmpV at e
    dsimp only at e
    split at e
    · obtain ⟨x1, st1, e1, rfl⟩ := noErr_some e
      exact hc.eq _ _ y st st1 w H v u x1 Q S rx ry e1 h
    · exact cmpP_ok hc S rx ry e h
  | isin =>
    unfold cmpV at e
    dsimp only at e
    split at e
    · obtain ⟨x1, st1, e1, rfl⟩ := noErr_some e
      exact hc.isin _ _ x st st1 w H u v x1 Q S ry rx e1 h
    · split at e
      · rename_i hx
        exact cmpLoc_ok (b := false) hc S (S.peek rx hx) ry e h
      · cases e
    · exact cmpP_ok hc S rx ry e h
  | notin =>
    unfold cmpV at e
    dsimp only at e
    split at e
    · split at e
      · rename_i hx
        exact cmpLoc_ok (b := true) hc S (S.peek rx hx) ry e h
      · cases e
    · exact cmpP_ok hc S rx ry e h
  | ne => exact cmpP_ok hc S rx ry e h
  | lt => exact cmpP_ok hc S rx ry e h
  | le => exact cmpP_ok hc S rx ry e h
  | gt => exact cmpP_ok hc S rx ry e h
  | ge => exact cmpP_ok hc S rx ry e h
  | is => exact cmpP_ok hc S rx ry e h
  | isnot => exact cmpP_ok hc S rx ry e h
theorem truthV_ok (hK : X.K = Z.K) (S : Sat Z w st H) {x : Vl} {v : V} {k : Bool} (rx : RepV Z w x v) (e : truthV st x = some k) : TruV X.K v H k := by
  cases x with
  | exc _ => cases e
  | d d =>
    unfold truthV D.truth at e
    cases d with
    | non => cases rx; cases eq_rf e; rfl
    | bl b => cases rx; cases eq_rf e; rfl
    | int i =>
      cases rx
      cases eq_rf e
      show decide (i ≠ 0) = (i != 0)
      by_cases h : i = 0 <;> simp [h]
    | str z =>
      cases rx
      dsimp only at e
      split at e
      · rename_i hl
        cases eq_rf e
        refine ⟨by rw [sizeLine_eq]; exact hl, ?_⟩
        by_cases h : z.length = 0
        · simp [h]
        · have h2 : (z.length : Int) ≠ 0 := by omega
          simp [h]
      · cases e
    | lst ds =>
      cases eq_rf e
      obtain ⟨a, vs, rfl, hl, r⟩ := (RepT.d rx S.F).lst_inv
      refine .inl ⟨vs, hK ▸ hl.sq, ?_⟩
      cases r <;> simp
    | tup ds =>
      cases eq_rf e
      obtain ⟨a, vs, rfl, hl, r⟩ := (RepT.d rx S.F).tup_inv
      refine .inr (.inl ⟨vs, hK_SqT hK hl, ?_⟩)
      cases r <;> simp
    | obj C fs => cases e
    | dct kvs => cases e
  | loc n =>
    unfold truthV at e
    dsimp only at e
    cases q : st[n]? with
    | none => rw [q] at e; cases e
    | some o =>
      rw [q] at e
      cases o with
      | dead => cases e
      | ins _ _ => cases e
      | lst xs =>
        cases eq_rf e
        obtain ⟨a, rfl, ea, vs, hH, r⟩ := S.at_ rx q
        refine .inl ⟨vs, .inl (.inl hH), ?_⟩
        cases r <;> simp
      | dct kvs =>
        cases eq_rf e
        obtain ⟨a, rfl, ea, ks, hH, r, _⟩ := S.at_ rx q
        refine .inr (.inr ⟨ks, hH, ?_⟩)
        cases r <;> simp
theorem ixN_eq (n : Nat) (i : Int) : SP.ixN n i = L2.ixN n i := rfl
theorem atI_eq {α : Type} (xs : List α) (i : Int) : SP.atI xs i = L2.atI xs i := rfl
theorem atI_rep {xs : List D} {vs : List V} {F : Hp} {i : Int} {d : D} (r : RepDs Z F xs vs) (e : SP.atI xs i = some d) : ∃ v, L2.atI vs i = some v ∧ RepD Z F d v := by
  unfold SP.atI at e
  unfold L2.atI
  rw [← r.length, ← ixN_eq]
  cases q : SP.ixN xs.length i with
  | none => rw [q] at e; cases e
  | some j =>
    rw [q] at e
    exact r.get e
theorem atI_repV {xs : List Vl} {vs : List V} {i : Int} {d : Vl} (r : RepVs Z w xs vs) (e : SP.atI xs i = some d) : ∃ v, L2.atI vs i = some v ∧ RepV Z w d v := by
  unfold SP.atI at e
  unfold L2.atI
  rw [← r.length, ← ixN_eq]
  cases q : SP.ixN xs.length i with
  | none => rw [q] at e; cases e
  | some j =>
    rw [q] at e
    exact r.get e
theorem find_look {t : Str} {kv : D × D} : ∀ {ks : List (Str × Int)}, ((ks.map fun p => ((.str p.1, .int p.2) : D × D)).find? fun kv => D.eqv kv.1 (.str t)) = some kv → ∃ i, kv.2 = .int i ∧ ks.lookup t = some i
  | [], e => by cases e
  | (k1, i1) :: r, e => by
    rw [List.map_cons, List.find?_cons] at e
    rw [List.lookup_cons]
    simp only [D.eqv] at e
    by_cases hk : t = k1
    · subst hk
      simp only [beq_self_eq_true] at e
      cases e
      exact ⟨i1, rfl, by simp⟩
    · have h1 : (t == k1) = false := beq_eq_false_iff_ne.mpr hk
      have h2 : (k1 == t) = false := beq_eq_false_iff_ne.mpr (Ne.symm hk)
      rw [h2] at e
      rw [h1]
      exact find_look e
theorem ixV_ok (hK : X.K = Z.K) (hw : X.w = Z.w) (hu : X.A.units + 1 < cLine) (S : Sat Z w st H) {x y : Vl} {v u : V} {r : Out Vl × Store} {Q : VK} (rx : RepV Z w x v) (ry : RepV Z w y u) (e : ixV x y st = some r) (h : PO Z E (RepV Z) w Q r) :
    ∃ rr, IxR X rr ∧ rr v u H Q := by
  unfold ixV at e
  split at e
  · rename_i ds k
    cases q : SP.atI ds k with
    | none => rw [q] at e; cases e
    | some d =>
      rw [q] at e
      obtain ⟨a, vs, rfl, hl, r1⟩ := (RepT.d rx S.F).lst_inv
      cases ry
      obtain ⟨z, h1, h2⟩ := atI_rep r1 q
      exact ⟨_, ix_list, a, vs, k, z, rfl, rfl, hK ▸ hl.sq, h1, ret1_Q S e h h2⟩
  · rename_i ds k
    cases q : SP.atI ds k with
    | none => rw [q] at e; cases e
    | some d =>
      rw [q] at e
      obtain ⟨a, vs, rfl, hl, r1⟩ := (RepT.d rx S.F).tup_inv
      cases ry
      obtain ⟨z, h1, h2⟩ := atI_rep r1 q
      exact ⟨_, ix_tup, a, vs, k, z, rfl, rfl, hK_SqT hK hl, h1, ret1_Q S e h h2⟩
  · rename_i z k
    split at e
    · rename_i hl
      cases q : SP.atI z.cps.toList k with
      | none => rw [q] at e; cases e
      | some c =>
        rw [q] at e
        cases rx
        cases ry
        exact ⟨_, ix_str, z, k, c, rfl, rfl, by rw [← SZ_eq]; exact hl, q, ret1_Q S e h (.str _)⟩
    · cases e
  · rename_i kvs k
    cases q : kvs.find? fun kv => D.eqv kv.1 (.str k) with
    | none => rw [q] at e; cases e
    | some kv =>
      rw [q] at e
      cases ry
      cases rx with
      | @dctW ks a es n kd look =>
        obtain ⟨i, h1, h2⟩ := find_look q
        rcases look k with ⟨j, tk, h3, h4⟩ | ⟨h3, h4⟩
        · rw [h2] at h3
          cases eq_rf h3
          refine ⟨_, ix_kdict, a, k, .int i, rfl, rfl, ⟨es, n, .int i tk, ?_, ?_, ?_, ⟨tk, rfl⟩⟩, ret1_Q S e h ?_⟩
          · rw [hK]; exact kd.at_
          · rw [hw]; exact kd.lit
          · rw [hK]; exact h4
          · rw [h1]; exact .int i
        · rw [h2] at h3
          cases h3
  · rename_i n k
    cases q : st[n]? with
    | none => rw [q] at e; cases e
    | some o =>
      rw [q] at e
      cases o with
      | dead => cases e
      | ins _ _ => cases e
      | lst xs =>
        cases k <;> try (cases e; done)
        rename_i k
        dsimp only at e
        cases q2 : SP.atI xs k with
        | none => rw [q2] at e; cases e
        | some d =>
          rw [q2] at e
          cases eq_rf e
          obtain ⟨a, rfl, ea, vs, hH, r1⟩ := S.at_ rx q
          cases ry
          obtain ⟨z, h1, h2⟩ := atI_repV r1 q2
          exact ⟨_, ix_list, a, vs, k, z, rfl, rfl, .inl (.inl hH), h1, h.ok (Le.refl w) S h2⟩
      | dct kvs =>
        dsimp only at e
        split at e
        · rename_i hs
          obtain ⟨a, o, rfl, dg, _, hx⟩ := dget_ok S rx q hs (.d ry S.F)
          cases q2 : dlook kvs k with
          | none => rw [q2] at e; cases e
          | some d =>
            rw [q2] at e
            cases eq_rf e
            obtain ⟨z, rfl, h2⟩ := hx d q2
            exact ⟨_, ix_DK hu, a, z, rfl, dg, h.ok (Le.refl w) S h2⟩
        · cases e
  · cases e
theorem sIx_eq (n d : Nat) (b : Option Int) : SP.sIx n d b = HT.sIx n d b := by
  cases b <;> rfl
theorem cut_rep {ds : List D} {vs : List V} {F : Hp} (r : RepDs Z F ds vs) (lo hi : Option Int) : RepDs Z F (cutL ds lo hi) (cutV vs lo hi) := by
  unfold cutL cutV
  rw [sIx_eq, sIx_eq, r.length]
  exact (r.drop _).take _
theorem slcV_ok (hK : X.K = Z.K) (S : Sat Z w st H) {m : Bool} {x : Vl} {lo hi : Option Int} {v : V} {r : Out Vl × Store} {Q : VK} (rx : RepV Z w x v) (e : slcV m x lo hi st = some r) (h : PO Z E (RepV Z) w Q r) :
    ∃ rr, SlR X rr ∧ rr v lo hi H Q := by
  unfold slcV at e
  cases q : peek st x with
  | none => rw [q] at e; cases e
  | some d =>
    rw [q] at e
    have t := S.peek rx q
    cases d with
    | lst ds =>
      obtain ⟨a, vs, rfl, hl, r1⟩ := t.lst_inv
      exact ⟨_, sl_list, a, vs, rfl, hK ▸ hl.sq, fun p hp => (mkList_ok S (RepVs.of_ds (cut_rep r1 lo hi)) e h hp).2⟩
    | tup ds =>
      obtain ⟨a, vs, rfl, hl, r1⟩ := t.tup_inv
      have h' := ret1_PO e h
      refine ⟨_, sl_tupA, a, vs, rfl, hK_SqT hK hl, fun hw => ?_, fun hw p hp => mkTup_ok S (cut_rep r1 lo hi) h' hp⟩
      have hw' : cutL ds lo hi = ds := by
        unfold cutL
        rw [sIx_eq, sIx_eq, r1.length, hw.1, hw.2, List.drop_zero, Nat.sub_zero, ← r1.length, List.take_length]
      rw [hw'] at h'
      cases x with
      | d d0 => cases q; exact h'.ok (Le.refl w) S rx
      | exc _ => cases q
      | loc n =>
        unfold SP.peek at q
        dsimp only at q
        cases q0 : st[n]? with
        | none => rw [q0] at q; cases q
        | some mo =>
          rw [q0] at q
          cases mo <;> simp only [MO.toD] at q
          · cases q
          · split at q <;> cases q
          · cases q
          · split at q <;> cases q
    | str z =>
      dsimp only at e
      split at e
      · rename_i hl
        have hq := ret1_Q S e h (.str _)
        cases t.str_inv
        refine ⟨_, sl_str, z, rfl, by rw [← SZ_eq]; exact hl, ?_⟩
        have : cutS z lo hi = ⟨(cutL z.cps.toList lo hi).toArray⟩ := by
          unfold cutS cutL
          rw [sIx_eq, sIx_eq]
          have : z.cps.toList.length = z.length := by simp [Str.length]
          rw [this]
        rw [this]
        exact hq
      · cases e
    | _ => cases e
end
end SP

end

section
set_option maxHeartbeats 1000000
namespace SP
open PySem PySem.Spec PyProof.Rows L2
theorem maxL_eq : ∀ (ns : List Int) (n : Int), maxL n ns ∈ n :: ns ∧ ∀ y ∈ n :: ns, y ≤ maxL n ns
  | [], n => ⟨List.mem_singleton.mpr rfl, fun y hy => by rw [List.mem_singleton.mp hy]; exact Int.le_refl _⟩
  | x :: r, n => by
    unfold maxL
    obtain ⟨h1, h2⟩ := maxL_eq r (if x > n then x else n)
    refine ⟨?_, fun y hy => ?_⟩
    · rcases List.mem_cons.mp h1 with h | h
      · rw [h]
        split
        · exact List.mem_cons_of_mem _ List.mem_cons_self
        · exact List.mem_cons_self
      · exact List.mem_cons_of_mem _ (List.mem_cons_of_mem _ h)
    · have h3 := h2 _ List.mem_cons_self
      have k1 : n ≤ (if x > n then x else n) := by split <;> omega
      have k2 : x ≤ (if x > n then x else n) := by split <;> omega
      rcases List.mem_cons.mp hy with h | h
      · rw [h]
        exact Int.le_trans k1 h3
      · rcases List.mem_cons.mp h with h | h
        · rw [h]
          exact Int.le_trans k2 h3
        · exact h2 _ (List.mem_cons_of_mem _ h)
theorem minL_eq : ∀ (ns : List Int) (n : Int), minL n ns ∈ n :: ns ∧ ∀ y ∈ n :: ns, minL n ns ≤ y
  | [], n => ⟨List.mem_singleton.mpr rfl, fun y hy => by rw [List.mem_singleton.mp hy]; exact Int.le_refl _⟩
  | x :: r, n => by
    unfold minL
    obtain ⟨h1, h2⟩ := minL_eq r (if x < n then x else n)
    refine ⟨?_, fun y hy => ?_⟩
    · rcases List.mem_cons.mp h1 with h | h
      · rw [h]
        split
        · exact List.mem_cons_of_mem _ List.mem_cons_self
        · exact List.mem_cons_self
      · exact List.mem_cons_of_mem _ (List.mem_cons_of_mem _ h)
    · have h3 := h2 _ List.mem_cons_self
      have k1 : (if x < n then x else n) ≤ n := by split <;> omega
      have k2 : (if x < n then x else n) ≤ x := by split <;> omega
      rcases List.mem_cons.mp hy with h | h
      · rw [h]
        exact Int.le_trans h3 k1
      · rcases List.mem_cons.mp h with h | h
        · rw [h]
          exact Int.le_trans h3 k2
        · exact h2 _ (List.mem_cons_of_mem _ h)
section
variable {X : Cx} {Z : En} {G : Cfg} {w : Wd} {st st1 : Store} {H : Hp} {E : XK}
theorem dInts_rep {F : Hp} : ∀ {ds : List D} {vs : List V} {ns : List Int}, RepDs Z F ds vs → dInts ds = some ns → vs = ns.map V.int
  | _, _, _, .nil, e => by cases e; rfl
  | .int i :: ds, _, ns, .cons a r, e => by
    unfold dInts at e
    cases q : dInts ds with
    | none => rw [q] at e; cases e
    | some ms =>
      rw [q] at e
      cases e
      cases a
      rw [dInts_rep r q]
      rfl
theorem dBools_rep {F : Hp} : ∀ {ds : List D} {vs : List V} {ns : List Bool}, RepDs Z F ds vs → dBools ds = some ns → vs = ns.map V.bl
  | _, _, _, .nil, e => by cases e; rfl
  | .bl i :: ds, _, ns, .cons a r, e => by
    unfold dBools at e
    cases q : dBools ds with
    | none => rw [q] at e; cases e
    | some ms =>
      rw [q] at e
      cases e
      cases a
      rw [dBools_rep r q]
      rfl
theorem dStrs_rep {F : Hp} : ∀ {ds : List D} {vs : List V} {ns : List Str}, RepDs Z F ds vs → dStrs ds = some ns → vs = ns.map V.str
  | _, _, _, .nil, e => by cases e; rfl
  | .str i :: ds, _, ns, .cons a r, e => by
    unfold dStrs at e
    cases q : dStrs ds with
    | none => rw [q] at e; cases e
    | some ms =>
      rw [q] at e
      cases e
      cases a
      rw [dStrs_rep r q]
      rfl
theorem bi1_ok (hK : X.K = Z.K) (hc : X.calm = true) (S : Sat Z w st H) {m : Bool} {f : String} {x : Vl} {v : V} {r : Out Vl × Store} {Q : VK} (rx : RepV Z w x v) (e : bi1 m f x st = some r) (h : PO Z E (RepV Z) w Q r) :
    ∃ b rr, bfun f = some b ∧ CallR X b rr ∧ rr [v] H Q := by
  unfold bi1 at e
  split at e
  · -- len
    split at e
    · rename_i n
      cases q : st[n]? with
      | none => rw [q] at e; cases e
      | some o =>
        rw [q] at e
        cases o with
        | dead => cases e
        | ins _ _ => cases e
        | lst xs =>
          obtain ⟨a, rfl, ea, vs, hH, r1⟩ := S.at_ rx q
          have hq := ret1_Q S e h (.int _)
          exact ⟨_, _, rfl, call_len_seq, a, vs, rfl, .inl (.inl (.inl hH)), by rw [← r1.length]; exact hq⟩
        | dct kvs =>
          obtain ⟨a, rfl, ea, ks, hH, r1, _⟩ := S.at_ rx q
          have hq := ret1_Q S e h (.int _)
          exact ⟨_, _, rfl, call_lenDK, a, ks, rfl, hH, by rw [← r1.len]; exact hq⟩
    · obtain ⟨a, vs, rfl, hl, r1⟩ := (RepT.d rx S.F).lst_inv
      have hq := ret1_Q S e h (.int _)
      exact ⟨_, _, rfl, call_len_seq, a, vs, rfl, .inl (hK ▸ hl.sq), by rw [← r1.length]; exact hq⟩
    · obtain ⟨a, vs, rfl, hl, r1⟩ := (RepT.d rx S.F).tup_inv
      have hq := ret1_Q S e h (.int _)
      exact ⟨_, _, rfl, call_len_seq, a, vs, rfl, .inr (hK_SqT hK hl), by rw [← r1.length]; exact hq⟩
    · split at e
      · rename_i hl
        cases rx
        exact ⟨_, _, rfl, call_len_str, _, rfl, by rw [← SZ_eq]; exact hl, ret1_Q S e h (.int _)⟩
      · cases e
    · cases e
  · -- int
    split at e
    · cases rx
      exact ⟨_, _, rfl, call_int1, .inl ⟨_, rfl, ret1_Q S e h (.int _)⟩⟩
    · cases rx
      exact ⟨_, _, rfl, call_int1, .inr ⟨_, rfl, ret1_Q S e h (.int _)⟩⟩
    · cases e
  · -- list
    cases q : peek st x with
    | none => rw [q] at e; cases e
    | some d =>
      rw [q] at e
      have t := S.peek rx q
      cases d with
      | lst ds =>
        obtain ⟨a, vs, rfl, hl, r1⟩ := t.lst_inv
        exact ⟨_, _, rfl, call_list_of, a, vs, rfl, .inl (hK ▸ hl.sq), fun l hp => (mkList_ok S (RepVs.of_ds r1) e h hp).2⟩
      | tup ds =>
        obtain ⟨a, vs, rfl, hl, r1⟩ := t.tup_inv
        exact ⟨_, _, rfl, call_list_of, a, vs, rfl, .inr (hK_SqT hK hl), fun l hp => (mkList_ok S (RepVs.of_ds r1) e h hp).2⟩
      | _ => cases e
  · -- tuple
    cases q : peek st x with
    | none => rw [q] at e; cases e
    | some d =>
      rw [q] at e
      have t := S.peek rx q
      cases d with
      | lst ds =>
        obtain ⟨a, vs, rfl, hl, r1⟩ := t.lst_inv
        exact ⟨_, _, rfl, call_tuple_of, a, vs, rfl, .inl ⟨hK ▸ hl.sq, fun l hp => mkTup_ok S r1 (ret1_PO e h) hp⟩⟩
      | tup ds =>
        obtain ⟨a, vs, rfl, hl, r1⟩ := t.tup_inv
        refine ⟨_, _, rfl, call_tuple_of, a, vs, rfl, .inr ⟨hK_SqT hK hl, ?_⟩⟩
        cases x with
        | d d0 => cases q; exact (ret1_PO e h).ok (Le.refl w) S rx
        | exc _ => cases q
        | loc n =>
          unfold SP.peek at q
          dsimp only at q
          cases q0 : st[n]? with
          | none => rw [q0] at q; cases q
          | some mo =>
            rw [q0] at q
            cases mo <;> simp only [MO.toD] at q
            · cases q
            · split at q <;> cases q
            · cases q
            · split at q <;> cases q
      | _ => cases e
  · -- sum
    cases q : peek st x with
    | none => rw [q] at e; cases e
    | some d =>
      rw [q] at e
      have t := S.peek rx q
      cases d with
      | lst ds =>
        obtain ⟨a, vs, rfl, hl, r1⟩ := t.lst_inv
        dsimp only at e
        cases q2 : dInts ds with
        | none => rw [q2] at e; cases e
        | some ns =>
          rw [q2] at e
          cases dInts_rep r1 q2
          exact ⟨_, _, rfl, cr_sum hc, a, ns, rfl, hK ▸ hl.sq, ret1_Q S e h (.int _)⟩
      | _ => cases e
  · -- all
    cases q : peek st x with
    | none => rw [q] at e; cases e
    | some d =>
      rw [q] at e
      have t := S.peek rx q
      cases d with
      | lst ds =>
        obtain ⟨a, vs, rfl, hl, r1⟩ := t.lst_inv
        dsimp only at e
        cases q2 : dBools ds with
        | none => rw [q2] at e; cases e
        | some ns =>
          rw [q2] at e
          cases dBools_rep r1 q2
          exact ⟨_, _, rfl, cr_all hc, a, ns, rfl, hK ▸ hl.sq, ret1_Q S e h (.bl _)⟩
      | _ => cases e
  · -- any
    cases q : peek st x with
    | none => rw [q] at e; cases e
    | some d =>
      rw [q] at e
      have t := S.peek rx q
      cases d with
      | lst ds =>
        obtain ⟨a, vs, rfl, hl, r1⟩ := t.lst_inv
        dsimp only at e
        cases q2 : dBools ds with
        | none => rw [q2] at e; cases e
        | some ns =>
          rw [q2] at e
          cases dBools_rep r1 q2
          exact ⟨_, _, rfl, cr_any hc, a, ns, rfl, hK ▸ hl.sq, ret1_Q S e h (.bl _)⟩
      | _ => cases e
  · -- max
    cases q : peek st x with
    | none => rw [q] at e; cases e
    | some d =>
      rw [q] at e
      have t := S.peek rx q
      cases d with
      | lst ds =>
        obtain ⟨a, vs, rfl, hl, r1⟩ := t.lst_inv
        dsimp only at e
        cases q2 : dInts ds with
        | none => rw [q2] at e; cases e
        | some ns =>
          rw [q2] at e
          cases ns with
          | nil => cases e
          | cons n ns =>
            cases dInts_rep r1 q2
            have hq := ret1_Q S e h (.int _)
            refine ⟨_, _, rfl, cr_max hc, a, n :: ns, rfl, hK ▸ hl.sq, Nat.succ_pos _, fun m h1 h2 => ?_⟩
            obtain ⟨h3, h4⟩ := maxL_eq ns n
            have : m = maxL n ns := Int.le_antisymm (h4 _ h1) (h2 _ h3)
            rw [this]
            exact hq
      | _ => cases e
  · -- min
    cases q : peek st x with
    | none => rw [q] at e; cases e
    | some d =>
      rw [q] at e
      have t := S.peek rx q
      cases d with
      | lst ds =>
        obtain ⟨a, vs, rfl, hl, r1⟩ := t.lst_inv
        dsimp only at e
        cases q2 : dInts ds with
        | none => rw [q2] at e; cases e
        | some ns =>
          rw [q2] at e
          cases ns with
          | nil => cases e
          | cons n ns =>
            cases dInts_rep r1 q2
            have hq := ret1_Q S e h (.int _)
            refine ⟨_, _, rfl, cr_min hc, a, n :: ns, rfl, hK ▸ hl.sq, Nat.succ_pos _, fun m h1 h2 => ?_⟩
            obtain ⟨h3, h4⟩ := minL_eq ns n
            have : m = minL n ns := Int.le_antisymm (h2 _ h3) (h4 _ h1)
            rw [this]
            exact hq
      | _ => cases e
  · cases e
theorem biV_ok (hK : X.K = Z.K) (hc : X.calm = true) (S : Sat Z w st H) {m : Bool} {f : String} {xs : List Vl} {vs : List V} {r : Out Vl × Store} {Q : VK} (rx : RepVs Z w xs vs) (e : biV m f xs st = some r) (h : PO Z E (RepV Z) w Q r) :
    ∃ b rr, bfun f = some b ∧ CallR X b rr ∧ rr vs H Q := by
  unfold biV at e
  split at e
  · cases rx with
    | cons a t =>
      cases t
      exact bi1_ok hK hc S a e h
  · cases rx with
    | cons a t =>
      cases t with
      | cons b t =>
        cases t
        unfold bi2 at e
        split at e
        · cases a
          cases b
          exact ⟨_, _, rfl, call_max2 hc, _, _, rfl, ret1_Q S e h (.int _)⟩
        · cases a
          cases b
          exact ⟨_, _, rfl, call_min2 hc, _, _, rfl, ret1_Q S e h (.int _)⟩
        · cases e
  · cases e
/-- an own class whose objects may be asked -/
structure OwnTy (K : PySem.W.Frag) (C : Addr) : Prop where
  cl : Cls K C
  ha : PySem.W.findIn K (.ref C) "__class__" = some (some (.builtin "object.__class__"))
  hn : PySem.W.specialIn K (.builtin "object.__class__") "__get__" = some (some (.builtin "getset_descriptor.__get__"))
  ht : PySem.W.takesIn K (.builtin "object.__class__") = some true
  hm : PySem.W.mroIn K C (.type "object") = some true
/-- the class that is asked for: a built-in type or an own class -/
inductive AskC (Z : En) (c : String) : V → Value → Prop
  | ty : c ∈ btys → AskC Z c (.ty c) (.type c)
  | own : c ∉ btys → AskC Z c (.ref (Z.cl c)) (.ref (Z.cl c))
theorem AskC.cls {c : String} {v : V} {u : Value} (h : AskC Z c v u) : ClsV v u := by
  cases h with
  | ty _ => exact .ty c
  | own _ => exact .own _
/-- what isinstance needs to know of the own classes -/
structure IsF (Z : En) (cs : String → Bool) : Prop where
  own : ∀ C, cs C = true → OwnTy Z.K (Z.cl C)
  oo : ∀ C c, cs C = true → cs c = true → PySem.W.kitOne Z.K (.ref (Z.cl C)) (.ref (Z.cl c)) = some (c == C)
  ob : ∀ C b, cs C = true → b ∈ btys → PySem.W.kitOne Z.K (.ref (Z.cl C)) (.type b) = some false
  bo : ∀ b c, b ∈ "NoneType" :: btys → cs c = true → PySem.W.kitOne Z.K (.type b) (.ref (Z.cl c)) = some false
  nb : ∀ C, cs C = true → C ∉ "NoneType" :: btys
theorem kitB_all {K : PySem.W.Frag} : ∀ b ∈ "NoneType" :: btys, ∀ c ∈ btys, PySem.W.kitOne K (.type b) (.type c) = some (b == c || (b == "bool" && c == "int")) := by
  intro b hb c hc
  refine kit_ty ?_
  simp only [btys, List.mem_cons, List.not_mem_nil, or_false] at hb hc
  rcases hb with rfl | rfl | rfl | rfl | rfl | rfl <;> rcases hc with rfl | rfl | rfl | rfl | rfl <;> decide +kernel
theorem isV_ok (hK : X.K = Z.K) (I : IsF Z G.cls) (S : Sat Z w st H) {c : String} {x : Vl} {v : V} {b : Bool} {Q : VK} (rx : RepV Z w x v) (e : isV G st c x = some b) (q : Q (.bl b) H) :
    ∃ cv cu, AskC Z c cv cu ∧ (c ∉ btys → G.cls c = true) ∧ rIsi X.K [v, cv] H Q := by
  unfold isV at e
  split at e
  · rename_i hcc
    obtain ⟨cv, cu, hc, hcs⟩ : ∃ cv cu, AskC Z c cv cu ∧ (c ∉ btys → G.cls c = true) := by
      by_cases hb : c ∈ btys
      · exact ⟨_, _, .ty hb, fun z => absurd hb z⟩
      · refine ⟨_, _, .own hb, fun _ => ?_⟩
        have h2 : btys.contains c = false := by
          rw [Bool.eq_false_iff]
          intro z
          exact hb (List.contains_iff_mem.mp z)
        rw [h2, Bool.or_false] at hcc
        exact hcc
    refine ⟨cv, cu, hc, hcs, ?_⟩
    have bb : ∀ (t : String), t ∈ "NoneType" :: btys → TyX X.K H v (.type t) → (t == c || (t == "bool" && c == "int")) = b → rIsi X.K [v, cv] H Q := fun t ht ty eb => by
      refine ⟨v, cv, .type t, cu, b, rfl, hc.cls, ty, ?_, q⟩
      rw [hK]
      cases hc with
      | ty hb => rw [kitB_all t ht c hb, eb]
      | own hn =>
        rw [I.bo t c ht (hcs hn)]
        congr 1
        rw [← eb]
        have h1 : (t == c) = false := beq_eq_false_iff_ne.mpr fun z => I.nb c (hcs hn) (z ▸ ht)
        have h2 : (c == "int") = false := beq_eq_false_iff_ne.mpr fun z => by
          subst z
          exact hn (by decide)
        rw [h1, h2, Bool.and_false, Bool.or_false]
    have oo : ∀ {C : String} {a dx : Addr} {gs : List (Str × V)}, G.cls C = true → v = .ref a → H a = some (.ins (Z.cl C) dx gs) → (c == C) = b → rIsi X.K [v, cv] H Q := fun {C a dx gs} hC ev hH eb => by
      subst ev
      have o := I.own C hC
      refine ⟨.ref a, cv, .ref (Z.cl C), cu, b, rfl, hc.cls, ?_, ?_, q⟩
      · rw [hK]
        exact .base (.ins hH o.cl o.ha o.hn o.ht o.hm)
      · rw [hK]
        cases hc with
        | ty hb =>
          rw [I.ob C c hC hb]
          congr 1
          rw [← eb]
          symm
          exact beq_eq_false_iff_ne.mpr fun z => I.nb C hC (z ▸ List.mem_cons_of_mem _ hb)
        | own hn => rw [I.oo C c hC (hcs hn), eb]
    have sym : ∀ t : String, (t == c) = (c == t) := fun t => by
      by_cases h : t = c
      · rw [h]
      · rw [beq_eq_false_iff_ne.mpr h, beq_eq_false_iff_ne.mpr (Ne.symm h)]
    have lstT : ∀ {a : Addr} {vs : List V}, RdK Z.K H a vs → TyX X.K H (.ref a) (.type "list") := fun {a vs} h => by
      rcases h with (h | ⟨o, h⟩) | ⟨its, n, h, _⟩
      · exact .base (.lst h)
      · exact .base (.frz h)
      · exact .kList (by rw [hK]; exact h) rfl
    split at e
    · cases rx
      cases eq_rf e
      refine bb "NoneType" (by decide) (.base .non) ?_
      have h1 : ("NoneType" == c) = false := beq_eq_false_iff_ne.mpr fun z => by
        subst z
        cases hc with
        | ty hb => exact absurd hb (by decide)
        | own hn => exact I.nb _ (hcs hn) (by decide)
      rw [h1]
      rfl
    · cases rx
      cases eq_rf e
      refine bb "bool" (by decide) (.base (.bl _)) ?_
      rw [sym "bool"]
      rfl
    · cases rx
      cases eq_rf e
      refine bb "int" (by decide) (.base (.int _)) ?_
      rw [sym "int"]
      simp
    · cases rx
      cases eq_rf e
      refine bb "str" (by decide) (.base (.str _)) ?_
      rw [sym "str"]
      simp
    · cases eq_rf e
      obtain ⟨a, vs, rfl, hl, r⟩ := (RepT.d rx S.F).tup_inv
      refine bb "tuple" (by decide) ?_ (by rw [sym "tuple"]; simp)
      rcases hl with (hl | ⟨o, hl⟩) | ⟨o, its, n, h1, h2, _⟩
      · exact .base (.tup hl)
      · exact .fTuple hl
      · exact .kTuple (by rw [hK]; exact h1) h2
    · cases eq_rf e
      obtain ⟨a, vs, rfl, hl, r⟩ := (RepT.d rx S.F).lst_inv
      exact bb "list" (by decide) (lstT hl) (by rw [sym "list"]; simp)
    · split at e
      · rename_i hC
        cases eq_rf e
        cases rx with
        | obj h1 h2 h3 => exact oo hC rfl (S.F _ _ h1) rfl
      · cases e
    · rename_i n
      cases q0 : st[n]? with
      | none => rw [q0] at e; cases e
      | some o =>
        rw [q0] at e
        cases o with
        | dead => cases e
        | dct _ => cases e
        | lst xs =>
          cases eq_rf e
          obtain ⟨a, rfl, ea, vs, hH, r1⟩ := S.at_ rx q0
          exact bb "list" (by decide) (lstT (.inl (.inl hH))) (by rw [sym "list"]; simp)
        | ins C fs =>
          dsimp only at e
          split at e
          · rename_i hC
            cases eq_rf e
            obtain ⟨a, rfl, ea, dx, gs, hH, h2, r1⟩ := S.at_ rx q0
            exact oo hC rfl hH rfl
          · cases e
    · cases e
  · cases e
end
end SP

end

section
set_option maxHeartbeats 1000000
namespace SP
open PySem PySem.Spec PyProof.Rows L2
/-- a built-in type's method -/
inductive BM : String → String → String → Prop
  | join : BM "str" "join" "str.join"
  | index : BM "list" "index" "list.index"
  | append : BM "list" "append" "list.append"
  | extend : BM "list" "extend" "list.extend"
  | pop : BM "list" "pop" "list.pop"
theorem BM.pa {T m id : String} (b : BM T m id) : PlainAttrs T := by
  cases b
  · exact PySem.F.plainAttrs_str
  all_goals exact PySem.F.plainAttrs_list
theorem BM.slot {T m id : String} (b : BM T m id) : Slot T m id := by
  cases b
  · exact PySem.F.slot_str_join
  · exact PySem.F.slot_list_index
  · exact PySem.F.slot_list_append
  · exact PySem.F.slot_list_extend
  · exact PySem.F.slot_list_pop
theorem BM.ty {T m id : String} (b : BM T m id) : typeOf (.builtin id) = pure (.type "method_descriptor") := by
  cases b
  · exact PySem.F.type_str_join
  · exact PySem.F.type_list_index
  · exact PySem.F.type_list_append
  · exact PySem.F.type_list_extend
  · exact PySem.F.type_list_pop
def bmT (x : RK) : String := match x with
  | .own C => C
  | .str => "str"
  | .lst => "list"
section
variable {X : Cx} {Z : En} {G : Cfg} {w : Wd} {st st1 : Store} {H : Hp} {E : XK}
def rExtR (K : PySem.W.Frag) : V → List V → Hp → VK → Prop := fun x vs H Q => ∃ l b xs zs, x = .ref l ∧ vs = [.ref b] ∧ H l = some (.lst xs) ∧ RdK K H b zs ∧ xs.length + zs.length ≤ sizeLine ∧ Q .non (upd H l (.lst (xs ++ zs)))
theorem mt_extR : MtR X "list.extend" (rExtR X.K) := by
  intro pins s σ H x vs v us Q I rx rv h
  obtain ⟨l, b, xs, zs, rfl, rfl, hH, hB, hz, q⟩ := h
  cases rx
  obtain ⟨u, rfl, ru⟩ := rv.one
  cases ru
  obtain ⟨z, its, n, r, hl, e⟩ := I.lstM hH
  obtain ⟨z2, its2, n2, r2, e2⟩ := rdM I hB
  have hl2 := r2.length
  have hsz : its.toArray.size + its2.toArray.size ≤ sizeLine := by rw [List.size_toArray, List.size_toArray]; omega
  have hlong : ¬ (!its.toArray.isEmpty && Builtin.List.listTooLong (its.toArray.size + its2.toArray.size)) = true := by
    rw [notLongL hsz, Bool.and_false]
    exact Bool.false_ne_true
  refine call_meets PySem.F.slot_list_extend ⟨_, e, rfl⟩ PySem.F.entry_list_extend (PySem.F.args_list_extend_2 _ _)
    (AutoSeq1.list_extend_list_list_0 l its.toArray n b its2.toArray n2 hlong (by rw [List.size_toArray]; omega) (by omega)) ⟨e, e2, ?_⟩
  refine ⟨.non, _, I.lset (its' := its ++ its2) hH e (by simp) (r.append r2) ?_, rfl, q⟩
  rw [List.length_append]
  omega
theorem findIdx_py {k : D} (hk : k.plain = true) : ∀ {ds : List D} {j : Nat}, D.plains ds = true → (ds.findIdx? fun z => D.eqv z k) = some j →
    ∃ z, (ds.map D.py)[j]? = some z ∧ PyData.eqv z (D.py k) = true ∧ ∀ (m : Nat) (z' : PyData), m < j → (ds.map D.py)[m]? = some z' → PyData.eqv z' (D.py k) = false
  | [], _, _, e => by cases e
  | d :: r, j, h, e => by
    simp only [D.plains, Bool.and_eq_true] at h
    rw [List.findIdx?_cons] at e
    cases q : D.eqv d k with
    | true =>
      rw [q, if_pos rfl] at e
      cases e
      exact ⟨D.py d, rfl, by rw [py_eqv d k h.1 hk]; exact q, fun m z hm _ => absurd hm (Nat.not_lt_zero m)⟩
    | false =>
      rw [q, if_neg Bool.false_ne_true] at e
      obtain ⟨i, hi, rfl⟩ := Option.map_eq_some_iff.mp e
      obtain ⟨z, h1, h2, h3⟩ := findIdx_py hk h.2 hi
      refine ⟨z, by simpa using h1, h2, fun m z' hm hz => ?_⟩
      cases m with
      | zero =>
        simp at hz
        rw [← hz, py_eqv d k h.1 hk]
        exact q
      | succ m => exact h3 m z' (by omega) (by simpa using hz)
theorem idx_ok (hK : X.K = Z.K) {kk : Nat} (hr : Room kk X.A) (S : Sat Z w st H) {ds : List D} {k : D} {v u : V} {r : Out Vl × Store} {Q : VK} (tx : RepT Z w.F H (.lst ds) v) (tk : RepT Z w.F H k u)
    (e : (if k.shp && (D.lst ds).shp then (match ds.findIdx? fun z => D.eqv z k with
    | some j => ret1 (.int j) st
    | none => none) else none) = some r) (h : PO Z E (RepV Z) w Q r) : rIndexD X.K v [u] H Q := by
  split at e
  · rename_i hs
    rw [Bool.and_eq_true] at hs
    cases q : ds.findIdx? fun z => D.eqv z k with
    | none => rw [q] at e; cases e
    | some j =>
      rw [q] at e
      obtain ⟨z, h1, h2, h3⟩ := findIdx_py (shp_plain hs.1) (by simpa [D.plain] using shp_plain hs.2) q
      obtain ⟨a, vs, ev, hl, r1⟩ := tx.lst_inv
      have d1 := rep_dp (.lst ds) (shp_plain hs.2) tx.toH
      have d2 := rep_dp k (shp_plain hs.1) tk.toH
      have s2 := shp_shaped hs.2
      have e2 : D.py (.lst ds) = .list (ds.map D.py) := by simp only [D.py, pys_map]
      rw [e2] at d1 s2
      rw [← hK] at d1 d2
      rw [ev] at d1
      exact ⟨a, u, D.py k, ds.map D.py, j, z, ev, rfl, d1, d2, s2, shp_shaped hs.1, h1, h2, h3, ret1_Q S e h (.int _)⟩
  · cases e
theorem PO.okd {α β : Type} {R : Wd → α → β → Prop} {Q : β → Hp → Prop} {x : α} {r : Out α × Store} (h : PO Z E R w Q r) (e : some (Out.ok x, st1) = some r) {w1 : Wd} {H1 : Hp} {v : β} (l : Le w w1) (S : Sat Z w1 st1 H1) (rv : R w1 x v) : Q v H1 := by
  cases e
  exact h w1 H1 v l S rv
/-- the list at a place is changed -/
theorem put_lst (S : Sat Z w st H) {n : Nat} {a : Addr} {o : MO} {ys : List Vl} {us : List V} (q : st[n]? = some o) (ho : o ≠ .dead) (ea : w.ι n = some a) (r : RepVs Z w ys us) : Sat Z w (st.set n (.lst ys)) (upd H a (.lst us)) :=
  S.put q ho ea ⟨us, upd_same, r⟩
theorem RepVs.dropLast {w : Wd} : ∀ {ds : List Vl} {vs : List V}, RepVs Z w ds vs → RepVs Z w ds.dropLast vs.dropLast
  | _, _, .nil => .nil
  | _, _, .cons a .nil => .nil
  | _, _, .cons a (.cons b r) => .cons a (RepVs.dropLast (.cons b r))
/-- a built-in method's call -/
theorem methV_ok (hK : X.K = Z.K) {kk : Nat} (hr : Room kk X.A) (S : Sat Z w st H) {m : Bool} {f : String} {x : Vl} {v : V} {xs : List Vl} {us : List V} {r : Out Vl × Store} {Q : VK} {T : String} (rx : RepV Z w x v) (rs : RepVs Z w xs us)
    (hT : (T = "str" ∧ ∃ z, x = .d (.str z)) ∨ (T = "list" ∧ ((∃ ds, x = .d (.lst ds)) ∨ ∃ n, x = .loc n))) (e : methV m x f xs st = some r) (h : PO Z E (RepV Z) w Q r) :
    ∃ id rr, BM T f id ∧ MtR X id rr ∧ rr v us H Q := by
  have hu := units64 hr
  unfold methV at e
  split at e
  · rename_i d
    unfold methD at e
    split at e
    · rename_i z y
      have hT' : T = "str" := by
        rcases hT with ⟨h, _⟩ | ⟨_, ⟨ds, h⟩ | ⟨n, h⟩⟩
        · exact h
        · cases h
        · cases h
      subst hT'
      cases rs with
      | cons ry rs =>
        cases rs
        cases q : peek st y with
        | none => rw [q] at e; cases e
        | some dd =>
          rw [q] at e
          cases dd with
          | lst ds =>
            obtain ⟨a, vs, rfl, hl, r1⟩ := (S.peek ry q).lst_inv
            dsimp only at e
            cases q2 : dStrs ds with
            | none => rw [q2] at e; cases e
            | some ss =>
              rw [q2] at e
              dsimp only at e
              split at e
              · rename_i hz
                cases dStrs_rep r1 q2
                cases rx
                exact ⟨_, _, .join, mt_join, z, a, ss, rfl, rfl, .inl (hK ▸ hl.sq), hz, ret1_Q S e h (.str _)⟩
              · cases e
          | _ => cases e
    · rename_i ds k
      have hT' : T = "list" := by
        rcases hT with ⟨_, z, h⟩ | ⟨h, _⟩
        · cases h
        · exact h
      subst hT'
      cases rs with
      | cons ry rs =>
        cases rs
        exact ⟨_, _, .index, mt_indexD (by omega), idx_ok hK hr S (.d rx S.F) (.d ry S.F) e h⟩
    · cases e
  · rename_i n
    have hT' : T = "list" := by
      rcases hT with ⟨_, z, h⟩ | ⟨h, _⟩
      · cases h
      · exact h
    subst hT'
    cases q : st[n]? with
    | none => rw [q] at e; cases e
    | some o =>
      rw [q] at e
      dsimp only at e
      unfold methL at e
      split at e
      · rename_i ys y
        split at e
        · rename_i hc
          rw [Bool.and_eq_true] at hc
          obtain ⟨a, rfl, ea, vs, hH, r1⟩ := S.at_ rx q
          cases rs with
          | cons ry rs =>
            cases rs
            have hz : vs.length < sizeLine := by
              rw [← r1.length, ← SZ_eq]
              exact of_decide_eq_true hc.2
            exact ⟨_, _, .append, mt_append, a, vs, _, rfl, rfl, hH, hz, h.okd e (Le.refl w) (put_lst S q (fun z => by cases z) ea (r1.append (.cons ry .nil))) .non⟩
        · cases e
      · rename_i ys y
        obtain ⟨a, rfl, ea, vs, hH, r1⟩ := S.at_ rx q
        cases rs with
        | cons ry rs =>
          cases rs
          cases q1 : peek st y with
          | none => rw [q1] at e; cases e
          | some dd =>
            rw [q1] at e
            cases dd with
            | lst ds =>
              dsimp only at e
              split at e
              · rename_i hz
                obtain ⟨b, us, rfl, hl, r2⟩ := (S.peek ry q1).lst_inv
                have hz' : vs.length + us.length ≤ sizeLine := by
                  rw [← r1.length, ← r2.length, ← SZ_eq]
                  exact of_decide_eq_true hz
                exact ⟨_, _, .extend, mt_extR, a, b, vs, us, rfl, rfl, hH, by rw [hK]; exact hl, hz', h.okd e (Le.refl w) (put_lst S q (fun z => by cases z) ea (r1.append (RepVs.of_ds r2))) .non⟩
              · cases e
            | _ => cases e
      · rename_i ys
        obtain ⟨a, rfl, ea, vs, hH, r1⟩ := S.at_ rx q
        cases rs
        cases q1 : ys[ys.length - 1]? with
        | none => rw [q1] at e; cases e
        | some y =>
          rw [q1] at e
          obtain ⟨z, h1, h2⟩ := r1.get q1
          rw [r1.length] at h1
          exact ⟨_, _, .pop, mt_pop, a, vs, z, rfl, rfl, hH, h1, h.okd e (Le.refl w) (put_lst S q (fun z => by cases z) ea r1.dropLast) h2⟩
      · rename_i ys k
        cases q2 : dats ys with
        | none => rw [q2] at e; cases e
        | some ds =>
          rw [q2] at e
          cases rs with
          | cons ry rs =>
            cases rs
            have hp : peek st (.loc n) = some (.lst ds) := by
              unfold SP.peek
              simp only [q, MO.toD, q2]
            exact ⟨_, _, .index, mt_indexD (by omega), idx_ok hK hr S (S.peek rx hp) (.d ry S.F) e h⟩
      · cases e
  · cases e
end
end SP

end

section
set_option maxHeartbeats 1000000
namespace SP
open PySem PySem.Spec PyProof.Rows L2
def bltNames : List String := ["len", "int", "list", "tuple", "sum", "all", "any", "max", "min", "isinstance", "range", "enumerate", "bool", "str"]
def opNames : List String := ["__eq__", "__contains__", "__add__", "__sub__", "__mul__", "__floordiv__", "__mod__", "__pow__"]
/-- what the program's text says, at rest -/
structure PgS (Z : En) (P : Pg) (mg : Str → Option Value) : Prop where
  gf : ∀ f, P.gf f = true → mg (S! f) = some (.ref (Z.fa f)) ∧ PySem.W.keepIn Z.K (.ref (Z.fa f)) = true ∧ P.cls f = false
  cg : ∀ C, P.cls C = true → mg (S! C) = some (.ref (Z.cl C))
  mak : ∀ C f, P.cls C = true → P.meth C "__init__" = some f → Mk Z.K (Z.cl C) (Z.fa f)
  ci : ∀ C, P.cls C = true → (P.meth C "__init__").isSome = true
  me : ∀ C m f, P.meth C m = some f → Meth Z.K (Z.cl C) (S! m) (Z.fa f) ∧ Cls Z.K (Z.cl C) ∧ P.cls f = false
  pr : ∀ C f h, P.prop C f = some (some h) → PropOf Z.K (Z.cl C) (S! f) (Z.pa h) (Z.fa h) ∧ Cls Z.K (Z.cl C) ∧ P.cls h = false
  no : ∀ C f, P.prop C f = some none → NoAttr Z.K (Z.cl C) (S! f) ∧ Cls Z.K (Z.cl C)
  isf : IsF Z P.cls
  gl : ∀ x d, P.glob x = some d → ∃ v u, mg (S! x) = some u ∧ RelV v u ∧ ∀ F, RepD Z F d v
  bt : ∀ x ∈ bltNames, mg (S! x) = none
  nop : ∀ C f, f ∈ opNames → P.meth C f = none
/-- a def's promise -/
def PrOf (Z : En) (P : Pg) (m : Nat) (g : Fn) : Sp := fun vs H Q E => ∃ (w : Wd) (st : Store) (as : List Vl) (r : Out Vl × Store), Sat Z w st H ∧ RepVs Z w as vs ∧ as.length = g.np ∧ runFn P (ev P m) g as st = some r ∧ PO Z E (RepV Z) w Q r
/-- a def, called: its bodies' calls at most m deep -/
def CallF (Z : En) (P : Pg) (m : Nat) (prog : Program) (w : World) (mg : Str → Option Value) (base : Heap) (f : String) (g : Fn) : Prop :=
  ∃ fd ps, ps.length = g.np ∧ FnOk prog w Z.K mg base (L2.CX prog w) (2 * m + 2) (Z.fa f) fd ps (PrOf Z P m g) ∧
    ∀ j, j ≤ g.np → g.np - j ≤ g.dfl.length → ∃ ds dvs, Binds Z.K fd ps ds ∧ Vals dvs ds ∧ dvs.length = g.np - j ∧ ∀ F, RepDs Z F (g.dfl.drop (j + g.dfl.length - g.np)) dvs
structure CxOk (P : Pg) (Z : En) (m : Nat) (X : Cx) (c : Sx) (W : WX) : Prop where
  K : X.K = Z.K
  w : X.w = Z.w
  N : X.N = c.N
  sc : X.env.scope = c.sc
  fn : X.fn = c.fn
  gf : ∀ f, c.gf f = true → P.gf f = true ∨ P.cls f = true
  cs : ∀ f, c.cs f = true → P.cls f = true
  nd : X.N.Nodup
  calm : X.calm = true
  room : Room (2 * m + 1) X.A
  pass : ∀ σ, PassesAt (L2.CX X.prog X.w) X σ (atS W σ)
  st : PgS Z P X.mg
  lv : ∀ k, m = k + 1 → ∀ f g, P.fn f = some g → CallF Z P k X.prog X.w X.mg X.base f g
section
variable {P : Pg} {Z : En} {m : Nat} {X : Cx} {c : Sx} {W : WX} {G : Cfg} {q : Md} {e : Expr}
theorem PE.weak {t t' : TE} (h : PE X e t) (k : ∀ σ H Q, t' σ H Q → t σ H Q) : PE X e t' := ⟨fun pins s σ H Q I x => h.run pins s σ H Q I (k σ H Q x)⟩
theorem PE.pick {t' : TE} (k : ∀ σ H Q, t' σ H Q → ∃ t, PE X e t ∧ t σ H Q) : PE X e t' := ⟨fun pins s σ H Q I x => let ⟨t, h, y⟩ := k σ H Q x; h.run pins s σ H Q I y⟩
theorem PT.weak {t t' : TT} (h : PT X e t) (k : ∀ σ H Q, t' σ H Q → t σ H Q) : PT X e t' := ⟨fun pins s σ H Q I x => h.run pins s σ H Q I (k σ H Q x)⟩
theorem PW.weak {t t' : TT} (h : PW X e t) (k : ∀ σ H Q, t' σ H Q → t σ H Q) : PW X e t' := ⟨fun wh pins s σ H Q I x => h.run wh pins s σ H Q I (k σ H Q x)⟩
theorem PA.weak {es : List Expr} {t t' : TA} (h : PA X es t) (k : ∀ σ H Q, t' σ H Q → t σ H Q) : PA X es t' := ⟨fun pos pins s σ H Q I x => h.run pos pins s σ H Q I (k σ H Q x)⟩
def opAny (X : Cx) (f : Value → Value → Sem Value) : R2 := fun x y H Q => ∃ rr, OpR X f rr ∧ rr x y H Q
theorem opAny_ok {f : Value → Value → Sem Value} : OpR X f (opAny X f) := fun pins s σ H x y v u Q I rx ry ⟨rr, h, q⟩ => h pins s σ H x y v u Q I rx ry q
def ixAny (X : Cx) : R2 := fun x y H Q => ∃ rr, IxR X rr ∧ rr x y H Q
theorem ixAny_ok : IxR X (ixAny X) := fun value slice pins s σ H x y v u Q I rx ry ⟨rr, h, q⟩ hs => h value slice pins s σ H x y v u Q I rx ry q hs
def slAny (X : Cx) : V → Option Int → Option Int → Hp → VK → Prop := fun x lo hi H Q => ∃ rr, SlR X rr ∧ rr x lo hi H Q
theorem slAny_ok : SlR X (slAny X) := fun pins s σ H x v vl vu lo hi sl Q I rx hs pl pu ⟨rr, h, q⟩ => h pins s σ H x v vl vu lo hi sl Q I rx hs pl pu q
def callAny (X : Cx) (f : Value) : List V → Hp → VK → Prop := fun xs H Q => ∃ rr, CallR X f rr ∧ rr xs H Q
theorem callAny_ok {f : Value} : CallR X f (callAny X f) := fun pins s σ H xs us Q I r ⟨rr, h, q⟩ => h pins s σ H xs us Q I r q

theorem CxOk.own (hX : CxOk P Z m X c W) : OwnBin X Z (P.cfg (ev P m)) ∧ OwnEq X Z (P.cfg (ev P m)) ∧ OwnIn X Z (P.cfg (ev P m)) := by
  refine ⟨?_, ?_, ?_⟩
  · intro o C fs y st st1 w H v u x Q S r1 r2 e h
    have e : (match P.meth C (opName o) with
      | some h => ev P m h [.d (.obj C fs), y] st
      | none => none) = some (.ok x, st1) := e
    rw [hX.st.nop C (opName o) (by cases o <;> decide)] at e
    cases e
  · intro C fs y st st1 w H v u x Q S r1 r2 e h
    have e : (match P.meth C "__eq__" with
      | some h => ev P m h [.d (.obj C fs), y] st
      | none => none) = some (.ok x, st1) := e
    rw [hX.st.nop C "__eq__" (by decide)] at e
    cases e
  · intro C fs y st st1 w H v u x Q S r1 r2 e h
    have e : (match P.meth C "__contains__" with
      | some h => ev P m h [.d (.obj C fs), y] st
      | none => none) = some (.ok x, st1) := e
    rw [hX.st.nop C "__contains__" (by decide)] at e
    cases e
theorem CxOk.cmp (hX : CxOk P Z m X c W) : CmpOk X Z (P.cfg (ev P m)) := ⟨hX.K, hX.w, ⟨_, hX.room⟩, hX.own.2.1, hX.own.2.2⟩
theorem CxOk.un (hX : CxOk P Z m X c W) : X.A.units + 65 < cLine := units64 hX.room
theorem visB_vis {sc : Scope} {x : Str} (h : visB sc x = true) : Vis sc x := by
  unfold visB at h
  unfold Vis
  split at h
  · rename_i z; exact .inl z
  · rename_i z; exact .inr (.inl z)
  · rename_i z; exact .inr (.inr z)
  · cases h
theorem glB_ok (hX : CxOk P Z m X c W) {x : Str} (h : glB c.sc x = true) : Gl X x ∧ (x == ("__debug__" : Str)) = false ∧ x ≠ "__name__" := by
  unfold glB at h
  simp only [Bool.and_eq_true, decide_eq_true_eq, Bool.not_eq_true'] at h
  refine ⟨?_, h.1.2, fun z => ?_⟩
  · show X.env.scope.names.lookup x = some .globalImplicit
    rw [hX.sc]
    exact h.1.1
  · rw [z] at h
    simp at h
/-- the readings of one answer -/
theorem tE.out {t : T} {σ : L2.St} {H : Hp} {Q : VK} (h : tE Z W G t q σ H Q) : ∃ (w : Wd) (ρ : SP.Env) (st : Store) (r : Out Vl × Store), Sat Z w st H ∧ Slots Z w ρ σ ∧ evT G t q ρ st = some r ∧ PO Z (atS W σ) (RepV Z) w Q r := h
theorem con_ok {d : D} (hq : q ≠ .t) (h : chkT c (.con d) e = true) : PE X e (tE Z W G (.con d) q) := by
  unfold chkT at h
  split at h
  · rename_i k j p
    have go : ∀ {v : V}, PE X (.Constant k j p) (tC v) → (∀ F, RepD Z F d v) → PE X (.Constant k j p) (tE Z W G (.con d) q) := fun {v} hp hr => PE.weak hp fun σ H Q ht => by
      obtain ⟨w, ρ, st, r, S, L, ev, po⟩ := ht.out
      unfold evT at ev
      rw [fin_v hq] at ev
      exact ret1_Q S ev po (hr _)
    unfold conB at h
    split at h
    · exact go pe_non fun _ => .non
    · rw [beq_iff_eq] at h
      subst h
      exact go pe_bl fun _ => .bl _
    · have h := of_decide_eq_true h
      subst h
      exact go pe_int fun _ => .int _
    · have h := of_decide_eq_true h
      subst h
      exact go pe_str fun _ => .str _
    · cases h
  · cases h
theorem var_ok (hX : CxOk P Z m X c W) {i : Nat} (hq : q ≠ .t) (h : chkT c (.var i) e = true) : PE X e (tE Z W G (.var i) q) := by
  unfold chkT at h
  split at h
  · rename_i x p
    unfold nmB at h
    simp only [Bool.and_eq_true, decide_eq_true_eq, Bool.not_eq_true'] at h
    refine PE.weak (pe_var (i := i) (by rw [hX.N]; exact h.1.1.1) (by rw [hX.sc]; exact visB_vis h.1.1.2) h.1.2 h.2) fun σ H Q ht => ?_
    obtain ⟨w, ρ, st, r, S, L, ev, po⟩ := ht.out
    unfold evT at ev
    rw [fin_v hq] at ev
    split at ev
    · rename_i v hv
      cases eq_rf ev
      obtain ⟨u, e1, e2⟩ := L i v hv
      exact ⟨u, e1, po.ok (Le.refl w) S e2⟩
    · cases ev
  · cases h
theorem glo_ok (hX : CxOk P Z m X c W) {y : String} (hq : q ≠ .t) (h : chkT c (.glo y) e = true) : PE X e (tE Z W (P.cfg (ev P m)) (.glo y) q) := by
  unfold chkT at h
  split at h
  · rename_i x p
    simp only [Bool.and_eq_true, decide_eq_true_eq] at h
    obtain ⟨hx, hg⟩ := h
    obtain ⟨g1, g2, g3⟩ := glB_ok hX hg
    refine PE.pick fun σ H Q ht => ?_
    obtain ⟨w, ρ, st, r, S, L, ev, po⟩ := ht.out
    unfold evT at ev
    rw [fin_v hq] at ev
    split at ev
    · rename_i d hd
      obtain ⟨v, u, h1, h2, h3⟩ := hX.st.gl y d hd
      exact ⟨_, pe_glob g1 (by rw [hx]; exact h1) h2 g2, ret1_Q S ev po (h3 _)⟩
    · cases ev
  · cases h
theorem bin_ok (hX : CxOk P Z m X c W) {o : Bop} {x y : T} (hq : q ≠ .t) (hx : ∀ e, chkT c x e = true → PE X e (tE Z W (P.cfg (ev P m)) x .v)) (hy : ∀ e, chkT c y e = true → PE X e (tE Z W (P.cfg (ev P m)) y .v))
    (h : chkT c (.bin o x y) e = true) : PE X e (tE Z W (P.cfg (ev P m)) (.bin o x y) q) := by
  unfold chkT at h
  split at h
  · rename_i l p r pos
    simp only [Bool.and_eq_true] at h
    have hp : bopO o = p := of_decide_eq_true h.1.1
    subst hp
    refine PE.weak (pe_op opAny_ok (hx _ h.1.2) (hy _ h.2)) fun σ H Q ht => ?_
    obtain ⟨w, ρ, st, r, S, L, ev, po⟩ := ht.out
    unfold evT at ev
    rw [fin_v hq] at ev
    refine tE.bnd S L ev po fun v1 st1 w1 H1 u1 l1 S1 L1 r1 ev po => ?_
    refine tE.bnd S1 L1 ev po fun v2 st2 w2 H2 u2 l2 S2 L2 r2 ev po => ?_
    exact binV_ok hX.own.1 hX.K S2 (r1.mono l2) r2 ev po
  · cases h
theorem neg_ok {x : T} (hq : q ≠ .t) (hx : ∀ e, chkT c x e = true → PE X e (tE Z W G x .v)) (h : chkT c (.neg x) e = true) : PE X e (tE Z W G (.neg x) q) := by
  unfold chkT at h
  split at h
  · refine PE.weak (pe_un un_neg (hx _ h)) fun σ H Q ht => ?_
    obtain ⟨w, ρ, st, r, S, L, ev, po⟩ := ht.out
    unfold evT at ev
    rw [fin_v hq] at ev
    refine tE.bnd S L ev po fun v1 st1 w1 H1 u1 l1 S1 L1 r1 ev po => ?_
    split at ev
    · cases r1
      exact ⟨_, rfl, ret1_Q S1 ev po (.int _)⟩
    · cases ev
  · cases h
theorem not_ok (hK : X.K = Z.K) {x : T} (hq : q ≠ .t) (hx : ∀ e, chkT c x e = true → PE X e (tE Z W G x .v)) (h : chkT c (.not x) e = true) : PE X e (tE Z W G (.not x) q) := by
  unfold chkT at h
  split at h
  · refine PE.weak (pe_notT (hx _ h)) fun σ H Q ht => ?_
    obtain ⟨w, ρ, st, r, S, L, ev, po⟩ := ht.out
    unfold evT at ev
    have ev : bnd (evT G x .v ρ st) (fun x st1 => match truthV st1 x with
      | some c => ret1 (.bl (!c)) st1
      | none => none) = some r := by
      cases q with
      | t => exact absurd rfl hq
      | v => exact ev
      | l => exact ev
    refine tE.bnd S L ev po fun v1 st1 w1 H1 u1 l1 S1 L1 r1 ev po => ?_
    cases q1 : truthV st1 v1 with
    | none => rw [q1] at ev; cases ev
    | some k =>
      rw [q1] at ev
      exact ⟨k, truthV_ok hK S1 r1 q1, ret1_Q S1 ev po (.bl _)⟩
  · cases h
theorem band_ok (hK : X.K = Z.K) {x y : T} (hq : q ≠ .t) (hx : ∀ e, chkT c x e = true → PE X e (tE Z W G x q)) (hy : ∀ e, chkT c y e = true → PE X e (tE Z W G y q)) (h : chkT c (.band x y) e = true) : PE X e (tE Z W G (.band x y) q) := by
  have go : ∀ {l : Expr} {m : Expr} {r : List Expr} {p : Pos}, PE X l (tE Z W G x q) → PE X (.BoolOp .And (m :: r) p) (tE Z W G y q) → PE X (.BoolOp .And (l :: m :: r) p) (tE Z W G (.band x y) q) := fun {l m r p} hl hr => by
    refine PE.weak (pe_andT hl hr) fun σ H Q ht => ?_
    obtain ⟨w, ρ, st, r, S, L, ev, po⟩ := ht.out
    unfold evT at ev
    have ev : bnd (evT G x q ρ st) (fun x st1 => match truthV st1 x with
      | some true => evT G y q ρ st1
      | some false => some (.ok x, st1)
      | none => none) = some r := by
      cases q with
      | t => exact absurd rfl hq
      | v => exact ev
      | l => exact ev
    refine tE.bnd S L ev po fun v1 st1 w1 H1 u1 l1 S1 L1 r1 ev po => ?_
    cases q1 : truthV st1 v1 with
    | none => rw [q1] at ev; cases ev
    | some k =>
      rw [q1] at ev
      refine ⟨k, truthV_ok hK S1 r1 q1, ?_⟩
      cases k with
      | true => exact ⟨_, _, _, _, S1, L1, ev, po⟩
      | false =>
        cases eq_rf ev
        exact po.ok (Le.refl _) S1 r1
  unfold chkT at h
  split at h
  · rw [Bool.and_eq_true] at h
    exact go (hx _ h.1) (pe_one (hy _ h.2))
  · rw [Bool.and_eq_true] at h
    exact go (hx _ h.1) (hy _ h.2)
  · cases h
theorem bor_ok (hK : X.K = Z.K) {x y : T} (hq : q ≠ .t) (hx : ∀ e, chkT c x e = true → PE X e (tE Z W G x q)) (hy : ∀ e, chkT c y e = true → PE X e (tE Z W G y q)) (h : chkT c (.bor x y) e = true) : PE X e (tE Z W G (.bor x y) q) := by
  have go : ∀ {l : Expr} {m : Expr} {r : List Expr} {p : Pos}, PE X l (tE Z W G x q) → PE X (.BoolOp .Or (m :: r) p) (tE Z W G y q) → PE X (.BoolOp .Or (l :: m :: r) p) (tE Z W G (.bor x y) q) := fun {l m r p} hl hr => by
    refine PE.weak (pe_orT hl hr) fun σ H Q ht => ?_
    obtain ⟨w, ρ, st, r, S, L, ev, po⟩ := ht.out
    unfold evT at ev
    have ev : bnd (evT G x q ρ st) (fun x st1 => match truthV st1 x with
      | some true => some (.ok x, st1)
      | some false => evT G y q ρ st1
      | none => none) = some r := by
      cases q with
      | t => exact absurd rfl hq
      | v => exact ev
      | l => exact ev
    refine tE.bnd S L ev po fun v1 st1 w1 H1 u1 l1 S1 L1 r1 ev po => ?_
    cases q1 : truthV st1 v1 with
    | none => rw [q1] at ev; cases ev
    | some k =>
      rw [q1] at ev
      refine ⟨k, truthV_ok hK S1 r1 q1, ?_⟩
      cases k with
      | true =>
        cases eq_rf ev
        exact po.ok (Le.refl _) S1 r1
      | false => exact ⟨_, _, _, _, S1, L1, ev, po⟩
  unfold chkT at h
  split at h
  · rw [Bool.and_eq_true] at h
    exact go (hx _ h.1) (pe_one (hy _ h.2))
  · rw [Bool.and_eq_true] at h
    exact go (hx _ h.1) (hy _ h.2)
  · cases h
theorem finB_v (hq : q ≠ .t) (r : Rs Vl) : finB q r = r := by
  cases q with
  | t => exact absurd rfl hq
  | v => rfl
  | l => rfl
theorem notSet_in {o : CmpOp} {x : Expr} (h : notSet x = true) : behindInMarks o x = false := by
  cases x <;> first | rfl | cases h
theorem coB_eq {o : Cop} {p : CmpOp} (h : coB o p = true) : p = copO o := (of_decide_eq_true h).symm
theorem cmp_ok (hX : CxOk P Z m X c W) {o : Cop} {x y : T} (hq : q ≠ .t) (hx : ∀ e, chkT c x e = true → PE X e (tE Z W (P.cfg (ev P m)) x .v)) (hy : ∀ e, chkT c y e = true → PE X e (tE Z W (P.cfg (ev P m)) y .v))
    (h : chkT c (.cmp o x y) e = true) : PE X e (tE Z W (P.cfg (ev P m)) (.cmp o x y) q) := by
  unfold chkT at h
  split at h
  · simp only [Bool.and_eq_true] at h
    cases coB_eq h.1.1.1
    refine PE.weak (pe_cmpR opAny_ok (hx _ h.1.1.2) (hy _ h.1.2) (notSet_in h.2)) fun σ H Q ht => ?_
    obtain ⟨w, ρ, st, r, S, L, ev, po⟩ := ht.out
    unfold evT at ev
    rw [finB_v hq] at ev
    refine tE.bnd S L ev po fun v1 st1 w1 H1 u1 l1 S1 L1 r1 ev po => ?_
    refine tE.bnd S1 L1 ev po fun v2 st2 w2 H2 u2 l2 S2 L2 r2 ev po => ?_
    exact cmpV_ok hX.cmp S2 (r1.mono l2) r2 ev po
  · cases h
/-- behind a test: a bool -/
theorem PO.bool {E : XK} {w : Wd} {Q : Bool → Hp → Prop} {r0 r : Rs Vl} {ra : Out Vl × Store} (h : finB .t r = some ra) (po : PO Z E isB w Q ra) : ∃ rb, r = some rb ∧ PO Z E (RepV Z) w (fun x H' => ∃ k, x = .bl k ∧ Q k H') rb := by
  refine PO.step (R' := RepV Z) h po fun x st1 w1 H1 v l S rv ev po => ?_
  split at ev
  · rename_i k
    cases rv
    cases eq_rf ev
    exact ⟨k, rfl, po.ok (Le.refl _) S rfl⟩
  · cases ev
theorem cmp_test (hX : CxOk P Z m X c W) {o : Cop} {x y : T} (hx : ∀ e, chkT c x e = true → PE X e (tE Z W (P.cfg (ev P m)) x .v)) (hy : ∀ e, chkT c y e = true → PE X e (tE Z W (P.cfg (ev P m)) y .v))
    (h : chkT c (.cmp o x y) e = true) : PT X e (tB Z W (P.cfg (ev P m)) (.cmp o x y)) := by
  unfold chkT at h
  split at h
  · simp only [Bool.and_eq_true] at h
    cases coB_eq h.1.1.1
    refine PT.weak (pt_cmpR opAny_ok (hx _ h.1.1.2) (hy _ h.1.2) (notSet_in h.2)) fun σ H Q ht => ?_
    obtain ⟨w, ρ, st, r, S, L, ev, po⟩ := ht
    unfold evT at ev
    obtain ⟨rb, ev, po⟩ := PO.bool (r0 := none) ev po
    refine tE.bnd S L ev po fun v1 st1 w1 H1 u1 l1 S1 L1 r1 ev po => ?_
    refine tE.bnd S1 L1 ev po fun v2 st2 w2 H2 u2 l2 S2 L2 r2 ev po => ?_
    exact cmpV_ok hX.cmp S2 (r1.mono l2) r2 ev po
  · cases h
theorem lastM {o p : CmpOp} {x y : Expr} (h : notSet y = true) : lastMarks [o, p] [x, y] = false := by
  show behindInMarks p y = false
  exact notSet_in h
/-- a chain's second step -/
theorem chain2 (hX : CxOk P Z m X c W) {o p : Cop} {z : T} {σ : L2.St} {H : Hp} {w : Wd} {ρ : SP.Env} {st : Store} {v1 v2 : Vl} {u1 u2 : V} {ra : Out Vl × Store} {Q : VK} (S : Sat Z w st H) (L : Slots Z w ρ σ) (r1 : RepV Z w v1 u1) (r2 : RepV Z w v2 u2)
    (ev : bndB (cmpV (P.cfg (ev P m)) o v1 v2 st) (fun k st3 => match k with
      | true => bnd (evT (P.cfg (ev P m)) z .v ρ st3) fun w st4 => cmpV (P.cfg (SP.ev P m)) p v2 w st4
      | false => ret1 (.bl false) st3) = some ra) (po : PO Z (atS W σ) (RepV Z) w Q ra) :
    opAny X (compareOp (copO o)) u1 u2 H fun d H3 => ∃ k, d = .bl k ∧ (if k = true then tE Z W (P.cfg (SP.ev P m)) z .v σ H3 fun w' H4 => opAny X (compareOp (copO p)) u2 w' H4 Q else Q (.bl false) H3) := by
  rw [bndB_bnd] at ev
  obtain ⟨r', e1, p1⟩ := PO.step (R' := RepV Z) (Q' := fun d H3 => ∃ k, d = .bl k ∧ (if k = true then tE Z W (P.cfg (SP.ev P m)) z .v σ H3 fun w' H4 => opAny X (compareOp (copO p)) u2 w' H4 Q else Q (.bl false) H3)) ev po fun x st1 w1 H1 v l S1 rv ev po => by
    split at ev
    · rename_i k
      cases rv
      refine ⟨k, rfl, ?_⟩
      cases k with
      | true =>
        rw [if_pos rfl]
        refine tE.bnd S1 (L.mono l) ev po fun v3 st3 w3 H3 u3 l3 S3 L3 r3 ev po => ?_
        exact cmpV_ok hX.cmp S3 ((r2.mono l).mono l3) r3 ev po
      | false =>
        rw [if_neg Bool.false_ne_true]
        exact ret1_Q S1 ev po (.bl _)
    · cases ev
  exact cmpV_ok hX.cmp S r1 r2 e1 p1
theorem chain_ok (hX : CxOk P Z m X c W) {o p : Cop} {x y z : T} (hq : q ≠ .t) (hx : ∀ e, chkT c x e = true → PE X e (tE Z W (P.cfg (ev P m)) x .v)) (hy : ∀ e, chkT c y e = true → PE X e (tE Z W (P.cfg (ev P m)) y .v))
    (hz : ∀ e, chkT c z e = true → PE X e (tE Z W (P.cfg (ev P m)) z .v)) (h : chkT c (.chain o p x y z) e = true) : PE X e (tE Z W (P.cfg (ev P m)) (.chain o p x y z) q) := by
  unfold chkT at h
  split at h
  · simp only [Bool.and_eq_true] at h
    cases coB_eq h.1.1.1.1.1
    cases coB_eq h.1.1.1.1.2
    refine PE.weak (pe_chain opAny_ok opAny_ok (hx _ h.1.1.1.2) (hy _ h.1.1.2) (hz _ h.1.2) (lastM h.2)) fun σ H Q ht => ?_
    obtain ⟨w, ρ, st, r, S, L, ev, po⟩ := ht.out
    unfold evT at ev
    rw [finB_v hq] at ev
    refine tE.bnd S L ev po fun v1 st1 w1 H1 u1 l1 S1 L1 r1 ev po => ?_
    refine tE.bnd S1 L1 ev po fun v2 st2 w2 H2 u2 l2 S2 L2 r2 ev po => ?_
    exact chain2 hX S2 L2 (r1.mono l2) r2 ev po
  · cases h
theorem chain_test (hX : CxOk P Z m X c W) {o p : Cop} {x y z : T} (hx : ∀ e, chkT c x e = true → PE X e (tE Z W (P.cfg (ev P m)) x .v)) (hy : ∀ e, chkT c y e = true → PE X e (tE Z W (P.cfg (ev P m)) y .v))
    (hz : ∀ e, chkT c z e = true → PE X e (tE Z W (P.cfg (ev P m)) z .v)) (h : chkT c (.chain o p x y z) e = true) : PT X e (tB Z W (P.cfg (ev P m)) (.chain o p x y z)) := by
  unfold chkT at h
  split at h
  · simp only [Bool.and_eq_true] at h
    cases coB_eq h.1.1.1.1.1
    cases coB_eq h.1.1.1.1.2
    refine PT.weak (pt_chain opAny_ok opAny_ok (hx _ h.1.1.1.2) (hy _ h.1.1.2) (hz _ h.1.2) (lastM h.2)) fun σ H Q ht => ?_
    obtain ⟨w, ρ, st, r, S, L, ev, po⟩ := ht
    unfold evT at ev
    obtain ⟨rb, ev, po⟩ := PO.bool (r0 := none) ev po
    refine tE.bnd S L ev po fun v1 st1 w1 H1 u1 l1 S1 L1 r1 ev po => ?_
    refine tE.bnd S1 L1 ev po fun v2 st2 w2 H2 u2 l2 S2 L2 r2 ev po => ?_
    exact chain2 hX S2 L2 (r1.mono l2) r2 ev po
  · cases h
theorem ite_ok {k x y : T} (hk : ∀ e, chkT c k e = true → PT X e (tB Z W G k)) (hx : ∀ e, chkT c x e = true → PE X e (tE Z W G x q)) (hy : ∀ e, chkT c y e = true → PE X e (tE Z W G y q)) (h : chkT c (.ite k x y) e = true) : PE X e (tE Z W G (.ite k x y) q) := by
  unfold chkT at h
  split at h
  · simp only [Bool.and_eq_true] at h
    refine PE.weak (pe_ifExp (hk _ h.1.1) (hx _ h.1.2) (hy _ h.2)) fun σ H Q ht => ?_
    obtain ⟨w, ρ, st, r, S, L, ev, po⟩ := ht.out
    unfold evT at ev
    refine tB.bnd S L ev po fun d st1 w1 H1 l1 S1 L1 ev po => ?_
    cases d with
    | true => exact ⟨_, _, _, _, S1, L1, ev, po⟩
    | false => exact ⟨_, _, _, _, S1, L1, ev, po⟩
  · cases h
theorem plain_he {env : PySem.Env} (h : plainE e = true) : ∀ whole, isTrue e env whole = (do let v ← whole; standAt e.pos; holding [v] (truthy v)) := by
  intro whole
  cases e with
  | UnaryOp o x p => cases o <;> first | rfl | cases h
  | BoolOp _ _ _ => cases h
  | Compare _ _ _ _ => cases h
  | IfExp _ _ _ _ => cases h
  | NamedExpr _ _ _ => cases h
  | _ => rfl
/-- a test by a value's truth -/
theorem plain_test (hK : X.K = Z.K) {t : T} {q0 : Md} (hp : plainE e = true) (ht : PE X e (tE Z W G t q0)) (hev : ∀ ρ st, evT G t .t ρ st = fin .t (evT G t q0 ρ st)) : PT X e (tB Z W G t) := by
  refine PT.weak (pt_truth ht (plain_he hp)) fun σ H Q h => ?_
  obtain ⟨w, ρ, st, r, S, L, ev, po⟩ := h
  rw [hev] at ev
  refine tE.bnd S L ev po fun v1 st1 w1 H1 u1 l1 S1 L1 r1 ev po => ?_
  cases q1 : truthV st1 v1 with
  | none => rw [q1] at ev; cases ev
  | some k =>
    rw [q1] at ev
    cases eq_rf ev
    exact ⟨k, truthV_ok hK S1 r1 q1, po.ok (Le.refl _) S1 rfl⟩
theorem not_test {x : T} (hx : ∀ e, chkT c x e = true → PT X e (tB Z W G x)) (h : chkT c (.not x) e = true) : PT X e (tB Z W G (.not x)) := by
  unfold chkT at h
  split at h
  · refine PT.weak (pt_not (hx _ h)) fun σ H Q ht => ?_
    obtain ⟨w, ρ, st, r, S, L, ev, po⟩ := ht
    unfold evT at ev
    refine tB.bnd S L ev po fun d st1 w1 H1 l1 S1 L1 ev po => ?_
    cases eq_rf ev
    exact po.ok (Le.refl _) S1 rfl
  · cases h
theorem band_test {x y : T} {es : List Expr} {p : Pos} {o : BoolOp} (hx : ∀ e, chkT c x e = true → PT X e (tB Z W G x)) (hy : ∀ e, chkT c y e = true → PT X e (tB Z W G y)) (hy2 : ∀ o es p, chkT c y (.BoolOp o es p) = true → PW X (.BoolOp o es p) (tB Z W G y))
    (h : chkT c (.band x y) (.BoolOp o es p) = true) : PW X (.BoolOp o es p) (tB Z W G (.band x y)) := by
  have go : ∀ {l : Expr} {m : Expr} {r : List Expr} {p : Pos}, PT X l (tB Z W G x) → PW X (.BoolOp .And (m :: r) p) (tB Z W G y) → PW X (.BoolOp .And (l :: m :: r) p) (tB Z W G (.band x y)) := fun {l m r p} hl hr => by
    refine PW.weak (pw_and hl hr) fun σ H Q ht => ?_
    obtain ⟨w, ρ, st, r, S, L, ev, po⟩ := ht
    unfold evT at ev
    refine tB.bnd S L ev po fun d st1 w1 H1 l1 S1 L1 ev po => ?_
    cases d with
    | true => exact ⟨_, _, _, _, S1, L1, ev, po⟩
    | false =>
      cases eq_rf ev
      exact po.ok (Le.refl _) S1 rfl
  unfold chkT at h
  split at h
  · rename_i he
    cases he
    rw [Bool.and_eq_true] at h
    exact go (hx _ h.1) (pw_and1 (hy _ h.2))
  · rename_i he
    cases he
    rw [Bool.and_eq_true] at h
    exact go (hx _ h.1) (hy2 _ _ _ h.2)
  · cases h
theorem bor_test {x y : T} {es : List Expr} {p : Pos} {o : BoolOp} (hx : ∀ e, chkT c x e = true → PT X e (tB Z W G x)) (hy : ∀ e, chkT c y e = true → PT X e (tB Z W G y)) (hy2 : ∀ o es p, chkT c y (.BoolOp o es p) = true → PW X (.BoolOp o es p) (tB Z W G y))
    (h : chkT c (.bor x y) (.BoolOp o es p) = true) : PW X (.BoolOp o es p) (tB Z W G (.bor x y)) := by
  have go : ∀ {l : Expr} {m : Expr} {r : List Expr} {p : Pos}, PT X l (tB Z W G x) → PW X (.BoolOp .Or (m :: r) p) (tB Z W G y) → PW X (.BoolOp .Or (l :: m :: r) p) (tB Z W G (.bor x y)) := fun {l m r p} hl hr => by
    refine PW.weak (pw_or hl hr) fun σ H Q ht => ?_
    obtain ⟨w, ρ, st, r, S, L, ev, po⟩ := ht
    unfold evT at ev
    refine tB.bnd S L ev po fun d st1 w1 H1 l1 S1 L1 ev po => ?_
    cases d with
    | false => exact ⟨_, _, _, _, S1, L1, ev, po⟩
    | true =>
      cases eq_rf ev
      exact po.ok (Le.refl _) S1 rfl
  unfold chkT at h
  split at h
  · rename_i he
    cases he
    rw [Bool.and_eq_true] at h
    exact go (hx _ h.1) (pw_or1 (hy _ h.2))
  · rename_i he
    cases he
    rw [Bool.and_eq_true] at h
    exact go (hx _ h.1) (hy2 _ _ _ h.2)
  · cases h
end
end SP

end

section
set_option maxHeartbeats 1000000
namespace SP
open PySem PySem.Spec PyProof.Rows L2
section
variable {P : Pg} {Z : En} {m : Nat} {X : Cx} {c : Sx} {W : WX} {G : Cfg} {q : Md} {e : Expr}
theorem star_cons {e : Expr} {es : List Expr} {env : PySem.Env} (h : notStar e = true) : starEach (e :: es) env = (false, eval e env) :: starEach es env := by
  cases e <;> first | rfl | cases h
theorem star_plain {pos : Pos} {env : PySem.Env} : ∀ {es : List Expr}, (∀ e ∈ es, notStar e = true) → (backTo pos (starEach es env)).any (·.1) = false
  | [], _ => rfl
  | e :: es, h => by
    rw [star_cons (h e List.mem_cons_self)]
    show (false || (backTo pos (starEach es env)).any (·.1)) = false
    rw [Bool.false_or]
    exact star_plain fun x hx => h x (List.mem_cons_of_mem _ hx)
theorem chk_star : ∀ {ts : Ts} {es : List Expr}, chkTs c ts es = true → ∀ e ∈ es, notStar e = true
  | .nil, es, h => by
    unfold chkTs at h
    rw [List.isEmpty_iff] at h
    subst h
    exact fun e he => by cases he
  | .cons t r, [], h => fun e he => by cases he
  | .cons t r, x :: xs, h => fun e he => by
    unfold chkTs at h
    simp only [Bool.and_eq_true] at h
    rcases List.mem_cons.mp he with rfl | he
    · exact h.1.2
    · exact chk_star h.2 e he
theorem ts_nil {es : List Expr} (h : chkTs c .nil es = true) : PA X es (tEs Z W G .nil) := by
  unfold chkTs at h
  rw [List.isEmpty_iff] at h
  subst h
  refine PA.weak pa_nil fun σ H Q ht => ?_
  obtain ⟨w, ρ, st, r, S, L, ev, po⟩ := ht
  unfold evTs at ev
  cases eq_rf ev
  exact po.ok (Le.refl w) S .nil
theorem ts_cons {t : T} {ts : Ts} {es : List Expr} (ht : ∀ e, chkT c t e = true → PE X e (tE Z W G t .v)) (hr : ∀ es, chkTs c ts es = true → PA X es (tEs Z W G ts)) (h : chkTs c (.cons t ts) es = true) : PA X es (tEs Z W G (.cons t ts)) := by
  cases es with
  | nil => cases h
  | cons e es =>
    unfold chkTs at h
    simp only [Bool.and_eq_true] at h
    refine PA.weak (pa_cons (ht _ h.1.1) (hr _ h.2) (star_cons h.1.2)) fun σ H Q ht => ?_
    obtain ⟨w, ρ, st, r, S, L, ev, po⟩ := ht
    unfold evTs at ev
    refine tE.bnd S L ev po fun v1 st1 w1 H1 u1 l1 S1 L1 r1 ev po => ?_
    refine tEs.bnd S1 L1 ev po fun v2 st2 w2 H2 u2 l2 S2 L2 r2 ev po => ?_
    cases eq_rf ev
    exact po.ok (Le.refl _) S2 (.cons (r1.mono l2) r2)
theorem to_none {e : Option Expr} (h : chkO c .none e = true) : L2.PO X e (tO Z W G .none) := by
  unfold chkO at h
  cases e with
  | some _ => cases h
  | none =>
    refine ⟨fun pins s σ H Q I ht => po_none.run pins s σ H Q I ?_⟩
    obtain ⟨w, ρ, st, r, S, L, ev, po⟩ := ht
    unfold evO at ev
    cases eq_rf ev
    exact po.ok (Le.refl w) S rfl
theorem to_some {t : T} {e : Option Expr} (ht : ∀ e, chkT c t e = true → PE X e (tE Z W G t .v)) (h : chkO c (.some t) e = true) : L2.PO X e (tO Z W G (.some t)) := by
  unfold chkO at h
  cases e with
  | none => cases h
  | some e =>
    refine ⟨fun pins s σ H Q I ho => (po_some (ht _ h)).run pins s σ H Q I ?_⟩
    obtain ⟨w, ρ, st, r, S, L, ev, po⟩ := ho
    unfold evO at ev
    refine tE.bnd S L ev po fun v1 st1 w1 H1 u1 l1 S1 L1 r1 ev po => ?_
    split at ev
    · cases r1
      cases eq_rf ev
      exact ⟨_, rfl, po.ok (Le.refl _) S1 rfl⟩
    · cases ev
theorem tf_ok {ts : Ts} {es : List Expr} (ht : ∀ t, ts = .cons t .nil → ∀ e, chkT c t e = true → PT X e (tB Z W G t)) (h : chkTs c ts es = true) (hl : es.length ≤ 1) : PTs X es (tF Z W G ts) := by
  cases ts with
  | nil =>
    unfold chkTs at h
    rw [List.isEmpty_iff] at h
    subst h
    refine ⟨fun pins s σ H Q I hf => pts_nil.run pins s σ H Q I ?_⟩
    obtain ⟨w, ρ, st, r, S, L, ev, po⟩ := hf
    unfold evF at ev
    cases eq_rf ev
    exact po.ok (Le.refl w) S rfl
  | cons t r =>
    cases es with
    | nil => cases h
    | cons e es =>
      have he : es = [] := by
        cases es with
        | nil => rfl
        | cons _ _ => simp only [List.length_cons] at hl; omega
      subst he
      unfold chkTs at h
      simp only [Bool.and_eq_true] at h
      have hr : r = .nil := by
        cases r with
        | nil => rfl
        | cons _ _ => cases h.2
      subst hr
      refine ⟨fun pins s σ H Q I hf => (pts_one (ht t rfl e h.1.1)).run pins s σ H Q I ?_⟩
      obtain ⟨w, ρ, st, r, S, L, ev, po⟩ := hf
      unfold evF at ev
      refine tB.bnd S L ev po fun d st1 w1 H1 l1 S1 L1 ev po => ?_
      cases d with
      | true =>
        unfold evF at ev
        cases eq_rf ev
        exact po.ok (Le.refl _) S1 rfl
      | false =>
        cases eq_rf ev
        exact po.ok (Le.refl _) S1 rfl
theorem tup_ok {ts : Ts} (hq : q ≠ .t) (ht : ∀ es, chkTs c ts es = true → PA X es (tEs Z W G ts)) (h : chkT c (.tup ts) e = true) : PE X e (tE Z W G (.tup ts) q) := by
  unfold chkT at h
  split at h
  · refine PE.weak (pe_tup (ht _ h)) fun σ H Q hE => ?_
    obtain ⟨w, ρ, st, r, S, L, ev, po⟩ := hE.out
    unfold evT at ev
    rw [fin_v hq] at ev
    refine tEs.bnd S L ev po fun v1 st1 w1 H1 u1 l1 S1 L1 r1 ev po => ?_
    cases q1 : embs st1 v1 with
    | none => rw [q1] at ev; cases ev
    | some pr =>
      obtain ⟨ds, st2⟩ := pr
      rw [q1] at ev
      dsimp only at ev
      split at ev
      · rename_i hl
        obtain ⟨w2, l2, S2, r2⟩ := S1.embs r1 q1
        refine ⟨by rw [← r2.length, ← SZ_eq]; exact hl, fun p hp => mkTup_ok S2 r2 (ret1_PO ev (po.mono l2)) hp⟩
      · cases ev
  · cases h
theorem lst_ok {ts : Ts} (hq : q ≠ .t) (ht : ∀ es, chkTs c ts es = true → PA X es (tEs Z W G ts)) (h : chkT c (.lst ts) e = true) : PE X e (tE Z W G (.lst ts) q) := by
  unfold chkT at h
  split at h
  · refine PE.weak (pe_lst (ht _ h)) fun σ H Q hE => ?_
    obtain ⟨w, ρ, st, r, S, L, ev, po⟩ := hE.out
    unfold evT at ev
    rw [fin_v hq] at ev
    refine tEs.bnd S L ev po fun v1 st1 w1 H1 u1 l1 S1 L1 r1 ev po => ?_
    have hl : v1.length ≤ SZ := by
      unfold mkList at ev
      split at ev
      · assumption
      · cases ev
    exact ⟨by rw [← r1.length, ← SZ_eq]; exact hl, fun p hp => (mkList_ok S1 r1 ev po hp).2⟩
  · cases h
theorem dict0_ok (hq : q ≠ .t) (h : chkT c .dict0 e = true) : PE X e (tE Z W G .dict0 q) := by
  unfold chkT at h
  split at h
  · refine PE.weak pe_dnewK fun σ H Q hE => ?_
    obtain ⟨w, ρ, st, r, S, L, ev, po⟩ := hE.out
    unfold evT at ev
    rw [fin_v hq] at ev
    cases eq_rf ev
    exact fun p hp => po.ok (Le.new S) (S.new hp (m := .dct []) ⟨[], upd_same, .nil, Nat.zero_le _⟩) ⟨p, if_pos rfl, rfl⟩
  · cases h
theorem plainIx {x : Expr} (h : notSlice x = true) : PlainIx x := by
  intro o i
  cases x <;> first | rfl | cases h
theorem ix_ok (hX : CxOk P Z m X c W) {x y : T} (hq : q ≠ .t) (hx : ∀ e, chkT c x e = true → PE X e (tE Z W G x .v)) (hy : ∀ e, chkT c y e = true → PE X e (tE Z W G y .v)) (h : chkT c (.ix x y) e = true) : PE X e (tE Z W G (.ix x y) q) := by
  unfold chkT at h
  split at h
  · simp only [Bool.and_eq_true] at h
    refine PE.weak (pe_ix ixAny_ok (hx _ h.1.1) (hy _ h.1.2) (plainIx h.2)) fun σ H Q hE => ?_
    obtain ⟨w, ρ, st, r, S, L, ev, po⟩ := hE.out
    unfold evT at ev
    rw [fin_v hq] at ev
    refine tE.bnd S L ev po fun v1 st1 w1 H1 u1 l1 S1 L1 r1 ev po => ?_
    refine tE.bnd S1 L1 ev po fun v2 st2 w2 H2 u2 l2 S2 L2 r2 ev po => ?_
    exact ixV_ok hX.K hX.w (by have := hX.un; omega) S2 (r1.mono l2) r2 ev po
  · cases h
theorem slc_ok (hX : CxOk P Z m X c W) {x : T} {lo hi : To} (hq : q ≠ .t) (hx : ∀ e, chkT c x e = true → PE X e (tE Z W G x .v)) (h1 : ∀ e, chkO c lo e = true → L2.PO X e (tO Z W G lo)) (h2 : ∀ e, chkO c hi e = true → L2.PO X e (tO Z W G hi))
    (h : chkT c (.slc x lo hi) e = true) : PE X e (tE Z W G (.slc x lo hi) q) := by
  unfold chkT at h
  split at h
  · simp only [Bool.and_eq_true] at h
    refine PE.weak (pe_slice slAny_ok (hx _ h.1.1) (h1 _ h.1.2) (h2 _ h.2)) fun σ H Q hE => ?_
    obtain ⟨w, ρ, st, r, S, L, ev, po⟩ := hE.out
    unfold evT at ev
    rw [fin_v hq] at ev
    refine tE.bnd S L ev po fun v1 st1 w1 H1 u1 l1 S1 L1 r1 ev po => ?_
    refine tO.bnd S1 L1 ev po fun v2 st2 w2 H2 l2 S2 L2 ev po => ?_
    refine tO.bnd S2 L2 ev po fun v3 st3 w3 H3 l3 S3 L3 ev po => ?_
    exact slcV_ok hX.K S3 (r1.mono (l2.trans l3)) ev po
  · cases h
theorem rev_ok (hK : X.K = Z.K) {x : T} (hq : q ≠ .t) (hx : ∀ e, chkT c x e = true → PE X e (tE Z W G x .v)) (h : chkT c (.rev x) e = true) : PE X e (tE Z W G (.rev x) q) := by
  unfold chkT at h
  split at h
  · refine PE.weak (pe_revL (hx _ h)) fun σ H Q hE => ?_
    obtain ⟨w, ρ, st, r, S, L, ev, po⟩ := hE.out
    unfold evT at ev
    rw [fin_v hq] at ev
    refine tE.bnd S L ev po fun v1 st1 w1 H1 u1 l1 S1 L1 r1 ev po => ?_
    cases q1 : peek st1 v1 with
    | none => rw [q1] at ev; cases ev
    | some d =>
      rw [q1] at ev
      cases d with
      | lst ds =>
        obtain ⟨a, vs, rfl, hl, r2⟩ := (S1.peek r1 q1).lst_inv
        exact ⟨a, vs, rfl, hK ▸ hl.sq, fun p hp => (mkList_ok S1 (RepVs.of_ds r2.reverse) ev po hp).2⟩
      | _ => cases ev
  · cases h
theorem base_ok {o : Expr} {name : Str} {env : PySem.Env} (h : notSup o = true) : attributeBase o name env (eval o env) = eval o env := by
  unfold attributeBase
  split
  · cases h
  · rfl
theorem RepGs.look {w : Wd} : ∀ {fs : List (String × Vl)} {gs : List (Str × V)} {f : String} {d : Vl}, RepGs Z w fs gs → lookF f fs = some d → ∃ v, gs.lookup (S! f) = some v ∧ RepV Z w d v
  | _, _, _, _, .nil, e => by cases e
  | _, _, f, d, .cons (f := g) (d := d0) (v := v0) (fs := fs) (gs := gs) a r, e => by
    unfold lookF at e
    rw [List.lookup_cons]
    by_cases h : f = g
    · subst h
      rw [if_pos rfl] at e
      cases e
      exact ⟨v0, by simp, a⟩
    · rw [if_neg h] at e
      have hne : (S! f == S! g) = false := beq_eq_false_iff_ne.mpr fun q => h (S_inj q)
      rw [hne]
      exact RepGs.look r e
theorem RepGs.none {w : Wd} : ∀ {fs : List (String × Vl)} {gs : List (Str × V)} {f : String}, RepGs Z w fs gs → lookF f fs = none → gs.lookup (S! f) = none
  | _, _, _, .nil, e => rfl
  | _, _, f, .cons (f := g) (d := d0) (v := v0) (fs := fs) (gs := gs) a r, e => by
    unfold lookF at e
    rw [List.lookup_cons]
    by_cases h : f = g
    · subst h
      rw [if_pos rfl] at e
      cases e
    · rw [if_neg h] at e
      have hne : (S! f == S! g) = false := beq_eq_false_iff_ne.mpr fun q => h (S_inj q)
      rw [hne]
      exact RepGs.none r e
/-- an own object, by the heap -/
inductive OwnAt (Z : En) (w : Wd) (st : Store) (H : Hp) (x : Vl) (v : V) (C : String) (f : String) : Option Vl → Prop
  | mk {a dx : Addr} {gs : List (Str × V)} {o : Option Vl} : v = .ref a → H a = some (.ins (Z.cl C) dx gs) → (o = none → gs.lookup (S! f) = none) → (∀ d, o = some d → ∃ u, gs.lookup (S! f) = some u ∧ RepV Z w d u) → OwnAt Z w st H x v C f o
theorem own_d {w : Wd} {st : Store} {H : Hp} (S : Sat Z w st H) {C : String} {fs : List (String × D)} {v : V} {f : String} (rx : RepV Z w (.d (.obj C fs)) v) : OwnAt Z w st H (.d (.obj C fs)) v C f ((lookF f fs).map .d) := by
  cases rx with
  | obj h1 h2 h3 =>
    refine .mk rfl (S.F _ _ h1) (fun hn => ?_) fun d hd => ?_
    · cases q1 : lookF f fs with
      | none => exact h3.none q1
      | some d => rw [q1] at hn; cases hn
    · cases q1 : lookF f fs with
      | none => rw [q1] at hd; cases hd
      | some d0 =>
        rw [q1] at hd
        cases hd
        exact h3.look q1
theorem own_l {w : Wd} {st : Store} {H : Hp} (S : Sat Z w st H) {n : Nat} {C : String} {fs : List (String × Vl)} {v : V} {f : String} (rx : RepV Z w (.loc n) v) (hn : st[n]? = some (.ins C fs)) : OwnAt Z w st H (.loc n) v C f (lookF f fs) := by
  obtain ⟨a, rfl, ea, dx, gs, hH, h2, r1⟩ := S.at_ rx hn
  exact .mk rfl hH (fun hn => r1.none hn) fun d hd => r1.look hd
/-- what a call of the object at a wants -/
def ClR (X : Cx) (a : Addr) (σ : L2.St) (vs : List V) (H : Hp) (Q : VK) : Prop := ∀ (pins : List (Addr × Obj)) (s : Shared) (us : List Value), Inv X pins σ H s → Vals vs us → wpAny (model X.prog X.w) X.A (call (.ref a) us) (EP X pins σ Q) X.xe s
theorem evalArgs_sp {f : Value} {l : List (Bool × Sem Value)} {M : Model} {A : Around} {E : Value → Shared → Prop} {s : Shared} {Q : Args → Shared → Prop} (hp : l.any (·.1) = false)
    (h : wpAny M A (spliced l) (fun vs s' => Q ⟨vs, []⟩ s') E s) : wpAny M A (evalArgs f true l []) Q E s := by
  cases l with
  | nil =>
    unfold evalArgs
    show wpAny M A (spliced [] >>= _) Q E s
    refine wpAny_bind (wpAny_mono h (fun vs s' h' => ?_) fun _ _ x => x)
    refine wpAny_holding ?_
    exact wpAny_bind (wpAny_pure (wpAny_bind (wpAny_pure (wpAny_pure h'))))
  | cons p l =>
    obtain ⟨b, x⟩ := p
    have hb : b = false := by
      simp only [List.any_cons, Bool.or_eq_false_iff] at hp
      exact hp.1
    subst hb
    exact Calls.evalArgs_plain h
theorem callWith_X {f : Value} {pos : Pos} {first : List Value} {es : List Expr} {env : PySem.Env} {M : Model} {A : Around} {E : Value → Shared → Prop} {s : Shared} {Q : Value → Shared → Prop} {K : PySem.W.Frag} (hk : PySem.W.keepIn K f = true) (hs : ∀ e ∈ es, notStar e = true)
    (h : wpAny M A (spliced (backTo pos (starEach es env))) (fun vs s₁ => K.In s₁.heap ∧ wpAny M A (call f (first ++ vs)) Q E s₁) E s) : wpAny M A (callWith pos f first (backTo pos (starEach es env)) []) Q E s :=
  PySem.W.callWith_of (by rw [star_plain hs]; rfl) (PySem.W.keeps_K hk) (evalArgs_sp (star_plain hs) h)
theorem pe_callX {x : Str} {a : Addr} {es : List Expr} {t : TA} {p pos : Pos} (hg : Gl X x) (hm : X.mg x = some (.ref a)) (hk : PySem.W.keepIn X.K (.ref a) = true) (ha : PA X es t) (hdb : (x == ("__debug__" : Str)) = false) (hs : ∀ e ∈ es, notStar e = true) :
    PE X (.Call (.Name x p) es [] pos) (fun σ H Q => t σ H fun vs H1 => ClR X a σ vs H1 Q) := by
  refine ⟨fun pins s σ H Q I h => ?_⟩
  refine wpAny_Call_Name_kw (ld_glob I hg hm ?_ hdb)
  exact callWith_X hk hs (thn (ha.run pos pins s σ H _ I h) fun us s1 ⟨vs, H1, I1, r, q⟩ => ⟨I1.kIn, q pins s1 us I1 r⟩)
theorem meth_eval {o : Expr} {name : Str} {apos pos : Pos} {es : List Expr} {env : PySem.Env} (hb : attributeBase o name env (eval o env) = eval o env) (hs : ∀ e ∈ es, notStar e = true) (hl : es.length < 30) (hline : (apos.endLine == pos.line) = true) :
    eval (.Call (.Attribute o name apos) es [] pos) env = (do
      let ov ← eval o env
      standAt apos.atName
      let (f, first) ← holding [ov] (getMethod ov name (do return (← importBound o env).getD true))
      callWith pos f first (backTo pos (starEach es env)) (backToKw pos (keywordEach [] env))) := by
  rw [arm_eval_Call, hb]
  have hform : methodCallForm (es.length + ([] : List Keyword).length) (backTo pos (starEach es env)) (backToKw pos (keywordEach [] env)) = true := by
    unfold methodCallForm
    have h1 := star_plain (pos := pos) (env := env) hs
    have h2 : (backTo pos (starEach es env)).all (!·.1) = true := by
      rw [List.all_eq_true]
      intro p hp
      rw [List.any_eq_false] at h1
      have := h1 p hp
      simpa using this
    rw [h2]
    simp [backToKw, keywordEach]
    omega
  unfold methodCall calleeOf methodCallPos
  rw [hform, hline]
  rfl
/-- o.m(..): an own object's class's method is called, or a built-in type's -/
def MeR (X : Cx) (m : String) (t : TA) (σ : L2.St) (x : V) (H : Hp) (Q : VK) : Prop :=
  (∃ a C dx fs g, x = .ref a ∧ H a = some (.ins C dx fs) ∧ Cls X.K C ∧ Meth X.K C (S! m) g ∧ fs.lookup (S! m) = none ∧ t σ H fun vs H2 => ClR X g σ (x :: vs) H2 Q) ∨
  ∃ T, (∃ id, BM T m id) ∧ tyV X.K T x H ∧ t σ H fun vs H2 => ∃ id rr, BM T m id ∧ MtR X id rr ∧ rr x vs H2 Q
theorem BM.uniq {T m i j : String} (a : BM T m i) (b : BM T m j) : i = j := by
  have e : ∀ {k : String}, BM T m k → k = T ++ "." ++ m := fun {k} h => by cases h <;> decide +kernel
  rw [e a, e b]
theorem pe_methX {o : Expr} {mn : String} {apos pos : Pos} {es : List Expr} {ta : TE} {t : TA} (he : PE X o ta) (ha : PA X es t) (hn : notSup o = true) (hs : ∀ e ∈ es, notStar e = true) (hl : es.length < 30) (hline : (apos.endLine == pos.line) = true) :
    PE X (.Call (.Attribute o (S! mn) apos) es [] pos) (fun σ H Q => ta σ H fun x H1 => MeR X mn t σ x H1 Q) := by
  refine ⟨fun pins s σ H Q I h => ?_⟩
  refine PySem.W.methodCall_KW (thn (he.run pins s σ H _ I h) fun u s1 ⟨x, H1, I1, rx, q1⟩ => ?_) (meth_eval (base_ok hn) hs hl hline)
  rcases q1 with ⟨a, C, dx, fs, g, rfl, ea, c, hm, l, q⟩ | ⟨T, ⟨id, b⟩, ty, q⟩
  · cases rx
    refine getmeth_ok I1 ea c hm l ?_
    exact callWith_X (first := [.ref a]) hm.kp hs (thn (ha.run pos pins s1 σ H1 _ I1 q) fun us s2 ⟨vs, H2, I2, r, q⟩ => ⟨I2.kIn, q pins s2 (.ref a :: us) I2 (.cons rfl r)⟩)
  · obtain ⟨h1, h2⟩ := tyV_is I1 rx ty
    refine getMethod_builtin h1 b.pa b.slot b.ty h2 ?_
    refine Calls.callWith_builtin (star_plain hs) (evalArgs_sp (star_plain hs) ?_)
    refine thn (ha.run pos pins s1 σ H1 _ I1 q) fun us s2 ⟨vs, H2, I2, r2, q2⟩ => ?_
    obtain ⟨id2, rr, b2, hm, q3⟩ := q2
    cases b.uniq b2
    exact hm pins s2 σ H2 x vs u us Q I2 rx r2 q3
theorem runFn_full {f : Fn} {cl : Fns} {as : List Vl} {st : Store} (h : as.length ≤ f.np) (h2 : f.np - as.length ≤ f.dfl.length) :
    runFn P cl f as st = runFn P cl f (as ++ (f.dfl.drop (as.length + f.dfl.length - f.np)).map Vl.d) st := by
  have hl : (as ++ (f.dfl.drop (as.length + f.dfl.length - f.np)).map Vl.d).length = f.np := by
    rw [List.length_append, List.length_map, List.length_drop]
    omega
  have e : ((f.dfl.drop ((as ++ (f.dfl.drop (as.length + f.dfl.length - f.np)).map Vl.d).length + f.dfl.length - f.np)).map Vl.d) = [] := by
    rw [hl, List.drop_eq_nil_of_le (by omega)]
    rfl
  unfold runFn
  rw [e, List.append_nil]
theorem runFn_len {f : Fn} {cl : Fns} {as : List Vl} {st : Store} {r : Out Vl × Store} (h : runFn P cl f as st = some r) : as.length ≤ f.np ∧ f.np - as.length ≤ f.dfl.length := by
  unfold runFn at h
  dsimp only at h
  split at h
  · rename_i hl
    rw [List.length_append, List.length_map, List.length_drop] at hl
    omega
  · cases h
/-- a def that is called -/
theorem cl_def (hX : CxOk P Z m X c W) {f : String} {args : List Vl} {vs : List V} {σ : L2.St} {w : Wd} {st : Store} {H : Hp} {r : Out Vl × Store} {Q : VK} (hf : P.cls f = false) (S : Sat Z w st H) (rv : RepVs Z w args vs) (e : ev P m f args st = some r) (po : PO Z (atS W σ) (RepV Z) w Q r) :
    ClR X (Z.fa f) σ vs H Q := by
  cases m with
  | zero => cases e
  | succ k =>
    unfold ev at e
    rw [hf, if_neg Bool.false_ne_true] at e
    split at e
    · rename_i g hg
      obtain ⟨fd, ps, hps, F, hb⟩ := hX.lv k rfl f g hg
      obtain ⟨h1, h2⟩ := runFn_len e
      obtain ⟨ds, dvs, b1, b2, b3, b4⟩ := hb args.length h1 h2
      rw [runFn_full h1 h2] at e
      rw [← hX.K] at b1 F
      refine fun pins s us I rus => run_fnSD (E := fun σ => atS W σ) F (hX.room.mono (by omega)) b1 b2 (hX.pass σ) I rus ?_
      refine ⟨w, st, _, r, S, rv.append (RepVs.of_ds (b4 w.F)), ?_, e, po⟩
      rw [List.length_append, List.length_map, List.length_drop]
      omega
    · cases e
/-- places from n on forgotten -/
def Wd.cut (w : Wd) (n : Nat) : Wd := ⟨w.F, fun k => if k < n then w.ι k else none, w.O⟩
mutual
theorem RepV.cut {w w1 : Wd} {n : Nat} (hd : ∀ k a, w.ι k = some a → k < n) : ∀ {x : Vl} {v v1 : V}, RepV Z w x v → RepV Z w1 x v1 → RepV Z (w1.cut n) x v1
  | .d _, _, _, _, r => r
  | .loc k, _, _, ⟨a, e, _⟩, ⟨b, e1, q⟩ => ⟨b, by show (if k < n then w1.ι k else none) = some b; rw [if_pos (hd k a e)]; exact e1, q⟩
  | .exc _, _, _, r, _ => r
end
theorem RepVs.cut {w w1 : Wd} {n : Nat} (hd : ∀ k a, w.ι k = some a → k < n) : ∀ {x : List Vl} {v v1 : List V}, RepVs Z w x v → RepVs Z w1 x v1 → RepVs Z (w1.cut n) x v1
  | _, _, _, .nil, .nil => .nil
  | _, _, _, .cons a r, .cons b s => .cons (a.cut hd b) (RepVs.cut hd r s)
theorem RepGs.cut {w w1 : Wd} {n : Nat} (hd : ∀ k a, w.ι k = some a → k < n) : ∀ {x : List (String × Vl)} {v v1 : List (Str × V)}, RepGs Z w x v → RepGs Z w1 x v1 → RepGs Z (w1.cut n) x v1
  | _, _, _, .nil, .nil => .nil
  | _, _, _, .cons a r, .cons b s => .cons (a.cut hd b) (RepGs.cut hd r s)
theorem RepK.cut {w w1 : Wd} {n : Nat} (hd : ∀ k a, w.ι k = some a → k < n) : ∀ {x : List (D × Vl)} {v v1 : List (Key × V)}, RepK Z w x v → RepK Z w1 x v1 → RepK Z (w1.cut n) x v1
  | _, _, _, .nil, .nil => .nil
  | _, _, _, .cons _ a r, .cons e b s => .cons e (a.cut hd b) (RepK.cut hd r s)
/-- the entry's store again: what was made since is forgotten -/
theorem Sat.back {w w1 : Wd} {st st1 : Store} {H H1 : Hp} (S : Sat Z w st H) (S1 : Sat Z w1 st1 H1) (l : Le w w1) (e : st1.take st.length = st) : Sat Z (w1.cut st.length) st H1 ∧ Le w (w1.cut st.length) := by
  have hd := S.dom
  have get : ∀ n o, st[n]? = some o → n < st.length ∧ st1[n]? = some o := fun n o h => by
    have hn := (List.getElem?_eq_some_iff.mp h).1
    refine ⟨hn, ?_⟩
    rw [← e, List.getElem?_take, if_pos hn] at h
    exact h
  have hι : ∀ n, n < st.length → (w1.cut st.length).ι n = w1.ι n := fun n hn => if_pos hn
  have some_of : ∀ {n a}, (w1.cut st.length).ι n = some a → n < st.length ∧ w1.ι n = some a := fun {n a} h => by
    have h' : (if n < st.length then w1.ι n else none) = some a := h
    split at h'
    · exact ⟨by assumption, h'⟩
    · cases h'
  refine ⟨⟨S1.F, S1.O, fun n o h => ?_, fun n a h => (some_of h).1, fun n k a o p h1 h2 h3 h4 => S1.inj n k a o p (some_of h1).2 (some_of h2).2 (get n o h3).2 (get k p h4).2, fun a o h n hn q => ?_, S1.fo⟩, ⟨l.F, fun n a h => ?_, l.O⟩⟩
  · obtain ⟨hn, h1⟩ := get n o h
    obtain ⟨a, ea, na, oa⟩ := S1.obj n o h1
    obtain ⟨a0, ea0, _, oa0⟩ := S.obj n o h
    refine ⟨a, by rw [hι n hn]; exact ea, na, ?_⟩
    cases o with
    | dead => trivial
    | lst xs =>
      obtain ⟨vs, h1, h2⟩ := oa
      obtain ⟨_, _, h4⟩ := oa0
      exact ⟨vs, h1, h4.cut hd h2⟩
    | dct xs =>
      obtain ⟨vs, h1, h2, h3⟩ := oa
      obtain ⟨_, _, h4, _⟩ := oa0
      exact ⟨vs, h1, h4.cut hd h2, h3⟩
    | ins C xs =>
      obtain ⟨dx, vs, h1, h2, h3⟩ := oa
      obtain ⟨_, _, _, _, h4⟩ := oa0
      exact ⟨dx, vs, h1, h2, h4.cut hd h3⟩
  · obtain ⟨hn', q'⟩ := some_of q
    refine S1.apart a o h n (fun z => hn ?_) q'
    rw [← e, List.getElem?_take, if_pos hn']
    exact z
  · rw [hι n (hd n a h)]
    exact l.ι n a h
/-- a class that is called -/
theorem cl_cls (hX : CxOk P Z m X c W) {f : String} {args : List Vl} {vs : List V} {σ : L2.St} {w : Wd} {st : Store} {H : Hp} {r : Out Vl × Store} {Q : VK} (hf : P.cls f = true) (S : Sat Z w st H) (rv : RepVs Z w args vs) (e : ev P m f args st = some r) (po : PO Z (atS W σ) (RepV Z) w Q r) :
    ClR X (Z.cl f) σ vs H Q := by
  cases m with
  | zero => cases e
  | succ k =>
    unfold ev at e
    rw [hf, if_pos rfl] at e
    split at e
    · rename_i g hg
      obtain ⟨nm, hnm, hg⟩ := Option.bind_eq_some_iff.mp hg
      have M := hX.st.mak f nm hf hnm
      obtain ⟨fd, ps, hps, F, hb⟩ := hX.lv k rfl nm g hg
      have hex : ∃ r', runFn P (ev P k) g (.loc st.length :: args) (st ++ [.ins f []]) = some r' := by
        cases q0 : runFn P (ev P k) g (.loc st.length :: args) (st ++ [.ins f []]) with
        | none => rw [q0] at e; cases e
        | some r' => exact ⟨r', rfl⟩
      obtain ⟨r', e1⟩ := hex
      obtain ⟨h1, h2⟩ := runFn_len e1
      obtain ⟨ds, dvs, b1, b2, b3, b4⟩ := hb _ h1 h2
      have e2 := e1
      rw [runFn_full h1 h2] at e2
      rw [← hX.K] at b1 F M
      -- the call
      intro pins s us I rus
      have hok : ∀ x dx, H x = none → H dx = none → dx ≠ x → PrOf Z P k g (.ref x :: (vs ++ dvs)) (upd (upd H dx (.own x)) x (.ins (Z.cl f) dx [])) (fun v H2 => v = .non ∧ Q (.ref x) H2) (atS W σ) := by
        intro x dx hx hdx hne
        have S1 := S.frz (o := .own x) hdx
        have l1 := Le.frz (o := .own x) S hdx
        have hx2 : upd H dx (.own x) x = none := by rw [upd_ne (Ne.symm hne)]; exact hx
        have l2 : Le (w.frz dx (.own x)) ((w.frz dx (.own x)).new st.length x) := Le.new S1
        have S2 : Sat Z ((w.frz dx (.own x)).new st.length x) (st ++ [.ins f []]) (upd (upd H dx (.own x)) x (.ins (Z.cl f) dx [])) := S1.new hx2 (m := .ins f []) ⟨dx, [], upd_same, upd_same, .nil⟩
        have hιx : ((w.frz dx (.own x)).new st.length x).ι st.length = some x := if_pos rfl
        refine ⟨_, _, .loc st.length :: (args ++ _), r', S2, .cons (x := .loc st.length) ⟨x, hιx, rfl⟩ ((rv.mono (l1.trans l2)).append (RepVs.of_ds (b4 _))), ?_, e2, ?_⟩
        · rw [List.length_cons, List.length_append, List.length_map, List.length_drop]
          simp only [List.length_cons] at h1 h2 ⊢
          omega
        · obtain ⟨o, st1⟩ := r'
          rw [e1] at e
          cases o with
          | err ex =>
            dsimp only at e
            split at e
            · rename_i hst
              cases eq_rf e
              intro w1 H1 cls d l S3 rx
              obtain ⟨S4, l4⟩ := S.back S3 ((l1.trans l2).trans l) hst
              exact po _ _ _ _ l4 S4 rx
            · cases e
          | ok y =>
            intro w1 H1 v l S3 ry
            have lw := (l1.trans l2).trans l
            split at e
            · rename_i st2 heq
              cases heq
              cases ry
              refine ⟨rfl, ?_⟩
              split at e
              · split at e
                · rename_i o ho
                  split at e
                  · rename_i d hd
                    split at e
                    · rename_i hst
                      cases eq_rf e
                      obtain ⟨w2, l2', S4, r4⟩ := S3.emb ho hd (v := .ref x) ⟨x, l.ι _ _ hιx, rfl⟩
                      have hlt : st.length < st1.length := (List.getElem?_eq_some_iff.mp ho).1
                      obtain ⟨S5, l5⟩ := S.back S4 (lw.trans l2') (by
                        rw [List.take_set_of_le (Nat.le_refl _)]
                        exact hst)
                      exact po.ok l5 S5 r4
                    · cases e
                  · cases e
                · cases e
              · cases eq_rf e
                exact po.ok lw S3 ⟨x, l.ι _ _ hιx, rfl⟩
            · rename_i h0
              cases h0
            · cases e
      have hq := hok (s.heap.objs.size + 1) s.heap.objs.size (I.hok.fresh (Nat.le_succ _)) (I.hok.fresh (Nat.le_refl _)) (Nat.ne_of_lt (Nat.lt_succ_self _))
      have I2 := Inv.made (C := Z.cl f) I
      have r2 : Vals (V.ref (s.heap.objs.size + 1) :: (vs ++ dvs)) (Value.ref (s.heap.objs.size + 1) :: (us ++ ds)) := .cons rfl (rus.append b2)
      have hl : (Value.ref (s.heap.objs.size + 1) :: us ++ ds).length = ps.length := by
        have e := r2.length
        rw [F.len _ _ _ _ hq] at e
        exact e.symm
      refine wpAny_call (make_map (f := Z.fa nm) I.kIn M.makes M.init (beq_iff_eq.mp M.fn) (codeAny_mono (F.run _ X.stack _ _ ⟨Value.ref (s.heap.objs.size + 1) :: us, []⟩ (Value.ref (s.heap.objs.size + 1) :: (us ++ ds)) _ _ (atS W σ) ((hX.room.mono (by omega)).make (Z.cl f) us [])
        (I2.env0.make (Z.cl f) us []) (b1 _ (Value.ref (s.heap.objs.size + 1) :: us) I2.kIn hl) r2 hq) fun r s' hq' => ?_))
      cases r with
      | error e => exact hX.pass σ pins _ _ e s' I2 hq'
      | ok fl =>
        cases fl with
        | ret u =>
          obtain ⟨v, H', I3, rv, ev, q3⟩ := I2.after hq'
          subst ev
          exact ⟨rv, ⟨V.ref (s.heap.objs.size + 1), H', I3, rfl, q3⟩⟩
        | next => exact False.elim hq'
        | brk => exact False.elim hq'
        | cont => exact False.elim hq'
    · cases e
end
end SP

end

section
set_option maxHeartbeats 1000000
namespace SP
open PySem PySem.Spec PyProof.Rows L2
section
variable {P : Pg} {Z : En} {m : Nat} {X : Cx} {c : Sx} {W : WX} {G : Cfg} {q : Md} {e : Expr}
/-- what is wanted of an attribute that is read -/
def FdR (X : Cx) (f : Str) (σ : L2.St) (x : V) (H : Hp) (Q : VK) : Prop := ∀ (pins : List (Addr × Obj)) (s : Shared) (u : Value), Inv X pins σ H s → RelV x u → wpAny (model X.prog X.w) X.A (getAttr u f true) (EP X pins σ Q) X.xe s
theorem pe_fldX {o : Expr} {f : Str} {pos : Pos} {ta : TE} (he : PE X o ta) (hn : notSup o = true) : PE X (.Attribute o f pos) (fun σ H Q => ta σ H fun x H1 => FdR X f σ x H1 Q) := by
  refine ⟨fun pins s σ H Q I h => ?_⟩
  exact attr_of (base_ok hn) (thn (he.run pins s σ H _ I h) fun u s1 ⟨x, H1, I1, rx, q1⟩ => q1 pins s1 u I1 rx)
/-- an attribute of an own object -/
theorem fd_own (hX : CxOk P Z m X c W) {C f : String} {σ : L2.St} {w : Wd} {st : Store} {H : Hp} {x : Vl} {v : V} {o : Option Vl} {r : Out Vl × Store} {Q : VK} (S : Sat Z w st H) (rx : RepV Z w x v) (oa : OwnAt Z w st H x v C f o)
    (e : fdV (P.cfg (ev P m)) C f x o st = some r) (po : PO Z (atS W σ) (RepV Z) w Q r) : FdR X (S! f) σ v H Q := by
  unfold fdV at e
  obtain ⟨a, dx, gs, rfl, ea, hn, hs⟩ : ∃ a dx gs, v = .ref a ∧ H a = some (.ins (Z.cl C) dx gs) ∧ (o = none → gs.lookup (S! f) = none) ∧ (∀ d, o = some d → ∃ u, gs.lookup (S! f) = some u ∧ RepV Z w d u) := by
    cases oa with
    | mk h1 h2 h3 h4 => exact ⟨_, _, _, h1, h2, h3, h4⟩
  · skip
    cases q0 : P.prop C f with
    | none => rw [show (P.cfg (ev P m)).prop C f = P.prop C f from rfl, q0] at e; cases e
    | some b =>
      rw [show (P.cfg (ev P m)).prop C f = P.prop C f from rfl, q0] at e
      cases b with
      | none =>
        dsimp only at e
        obtain ⟨h1, h2⟩ := hX.st.no C f q0
        cases o with
        | none => cases e
        | some d =>
          cases eq_rf e
          obtain ⟨u, h3, h4⟩ := hs d rfl
          intro pins s u0 I ru
          cases ru
          rw [← hX.K] at h1 h2
          exact getattr_ok I ea h2 h1 h3 fun u' s2 I2 ru => ⟨u, H, I2, ru, po.ok (Le.refl w) S h4⟩
      | some hh =>
        dsimp only at e
        obtain ⟨y, st1, e1, rfl⟩ := noErr_some e
        have e1 : ev P m hh [x] st = some (.ok y, st1) := e1
        obtain ⟨h1, h2, hcf⟩ := hX.st.pr C f hh q0
        cases m with
        | zero => cases e1
        | succ k =>
          unfold SP.ev at e1
          rw [hcf, if_neg Bool.false_ne_true] at e1
          split at e1
          · rename_i g hg
            obtain ⟨fd, ps, hps, F, hb⟩ := hX.lv k rfl hh g hg
            obtain ⟨l1, l2⟩ := runFn_len e1
            obtain ⟨ds, dvs, b1, b2, b3, b4⟩ := hb _ l1 l2
            rw [runFn_full l1 l2] at e1
            rw [← hX.K] at b1 F h1 h2
            intro pins s u0 I ru
            cases ru
            refine getprop_ok I ea h2 h1 F (hX.room.mono (by omega)) b1 b2 (E := fun _ _ _ => False) (fun pins σ H s e s' _ hx => ?_) ?_
            · obtain ⟨_, _, _, _, _, _, _, _, _, _, _, _, z⟩ := hx
              exact z.elim
            · refine ⟨w, st, _, _, S, .cons rx (RepVs.of_ds (b4 w.F)), ?_, e1, po⟩
              simp only [List.length_append, List.length_cons, List.length_nil, List.length_map, List.length_drop] at l1 l2 ⊢
              omega
          · cases e1
theorem fld_ok (hX : CxOk P Z m X c W) {x : T} {f : String} (hq : q ≠ .t) (hx : ∀ e, chkT c x e = true → PE X e (tE Z W (P.cfg (ev P m)) x .v)) (h : chkT c (.fld x f) e = true) : PE X e (tE Z W (P.cfg (ev P m)) (.fld x f) q) := by
  unfold chkT at h
  split at h
  · rename_i l y pos
    simp only [Bool.and_eq_true, decide_eq_true_eq] at h
    obtain ⟨⟨h1, h2⟩, h3⟩ := h
    subst h2
    refine PE.weak (pe_fldX (hx _ h1) h3) fun σ H Q hE => ?_
    obtain ⟨w, ρ, st, r, S, L, ev, po⟩ := hE.out
    unfold evT at ev
    rw [fin_v hq] at ev
    refine tE.bnd S L ev po fun v1 st1 w1 H1 u1 l1 S1 L1 r1 ev po => ?_
    unfold fldV at ev
    split at ev
    · rename_i C fs
      exact fd_own hX S1 r1 (own_d S1 r1) ev po
    · rename_i n
      cases q0 : st1[n]? with
      | none => rw [q0] at ev; cases ev
      | some o =>
        rw [q0] at ev
        cases o with
        | dead => cases ev
        | lst _ => cases ev
        | dct _ => cases ev
        | ins C fs => exact fd_own hX S1 r1 (own_l S1 r1 q0) ev po
    · cases r1
    · cases ev
  · cases h
theorem call_ok (hX : CxOk P Z m X c W) {f : String} {ts : Ts} (hq : q ≠ .t) (ht : ∀ es, chkTs c ts es = true → PA X es (tEs Z W (P.cfg (ev P m)) ts)) (h : chkT c (.call f ts) e = true) : PE X e (tE Z W (P.cfg (ev P m)) (.call f ts) q) := by
  unfold chkT at h
  split at h
  · rename_i x p es pos
    simp only [Bool.and_eq_true, decide_eq_true_eq] at h
    obtain ⟨⟨⟨h1, h2⟩, h3⟩, h4⟩ := h
    subst h1
    obtain ⟨g1, g2, g3⟩ := glB_ok hX h2
    rcases hX.gf f h4 with hg | hc
    · obtain ⟨k1, k2, k3⟩ := hX.st.gf f hg
      refine PE.weak (pe_callX g1 k1 (by rw [hX.K]; exact k2) (ht _ h3) g2 (chk_star h3)) fun σ H Q hE => ?_
      obtain ⟨w, ρ, st, r, S, L, ev, po⟩ := hE.out
      unfold evT at ev
      rw [fin_v hq] at ev
      refine tEs.bnd S L ev po fun v1 st1 w1 H1 u1 l1 S1 L1 r1 ev po => ?_
      exact cl_def hX k3 S1 r1 ev po
    · have k1 := hX.st.cg f hc
      obtain ⟨nm, hnm⟩ : ∃ nm, P.meth f "__init__" = some nm := by
        have := hX.st.ci f hc
        cases q0 : P.meth f "__init__" with
        | none => rw [q0] at this; cases this
        | some nm => exact ⟨nm, rfl⟩
      have M := hX.st.mak f nm hc hnm
      refine PE.weak (pe_callX g1 k1 (by rw [hX.K]; exact M.kp) (ht _ h3) g2 (chk_star h3)) fun σ H Q hE => ?_
      obtain ⟨w, ρ, st, r, S, L, ev, po⟩ := hE.out
      unfold evT at ev
      rw [fin_v hq] at ev
      refine tEs.bnd S L ev po fun v1 st1 w1 H1 u1 l1 S1 L1 r1 ev po => ?_
      exact cl_cls hX hc S1 r1 ev po
  · cases h
theorem boot_all : ∀ x ∈ bltNames, ∃ u, bootBuiltins (S! x) = some u ∧ (∀ b, bfun x = some b → u = b) := by
  intro x hx
  simp only [bltNames, List.mem_cons, List.not_mem_nil, or_false] at hx
  rcases hx with rfl | rfl | rfl | rfl | rfl | rfl | rfl | rfl | rfl | rfl | rfl | rfl | rfl | rfl
  · exact ⟨.builtin "len", by decide +kernel, fun b h => by cases h; rfl⟩
  · exact ⟨.type "int", by decide +kernel, fun b h => by cases h; rfl⟩
  · exact ⟨.type "list", by decide +kernel, fun b h => by cases h; rfl⟩
  · exact ⟨.type "tuple", by decide +kernel, fun b h => by cases h; rfl⟩
  · exact ⟨.builtin "sum", by decide +kernel, fun b h => by cases h; rfl⟩
  · exact ⟨.builtin "all", by decide +kernel, fun b h => by cases h; rfl⟩
  · exact ⟨.builtin "any", by decide +kernel, fun b h => by cases h; rfl⟩
  · exact ⟨.builtin "max", by decide +kernel, fun b h => by cases h; rfl⟩
  · exact ⟨.builtin "min", by decide +kernel, fun b h => by cases h; rfl⟩
  · exact ⟨.builtin "isinstance", by decide +kernel, fun b h => by cases h⟩
  · exact ⟨.type "range", by decide +kernel, fun b h => by cases h⟩
  · exact ⟨.type "enumerate", by decide +kernel, fun b h => by cases h⟩
  · exact ⟨.type "bool", by decide +kernel, fun b h => by cases h⟩
  · exact ⟨.type "str", by decide +kernel, fun b h => by cases h⟩
theorem bfun_names {f : String} {b : Value} (h : bfun f = some b) : f ∈ bltNames ∧ ((∃ id, b = .builtin id) ∨ ∃ id, b = .type id) := by
  unfold bfun at h
  split at h <;> first
    | (cases h; exact ⟨by decide, .inl ⟨_, rfl⟩⟩)
    | (cases h; exact ⟨by decide, .inr ⟨_, rfl⟩⟩)
    | cases h
theorem bi_ok (hX : CxOk P Z m X c W) {f : String} {ts : Ts} (hq : q ≠ .t) (ht : ∀ es, chkTs c ts es = true → PA X es (tEs Z W G ts)) (h : chkT c (.bi f ts) e = true) : PE X e (tE Z W G (.bi f ts) q) := by
  unfold chkT at h
  split at h
  · rename_i x p es pos
    simp only [Bool.and_eq_true, decide_eq_true_eq, Bool.not_eq_true'] at h
    obtain ⟨⟨⟨⟨h1, h2⟩, h3⟩, h4⟩, h5⟩ := h
    subst h1
    obtain ⟨g1, g2, g3⟩ := glB_ok hX h2
    cases es with
    | nil => cases h4
    | cons e0 es =>
      cases q0 : bfun f with
      | none => rw [q0] at h5; cases h5
      | some b =>
        obtain ⟨hn, hb⟩ := bfun_names q0
        obtain ⟨u, hu1, hu2⟩ := boot_all f hn
        have hub := hu2 b q0
        subst hub
        have hm := hX.st.bt f hn
        have he := star_cons (env := X.env) (es := es) (chk_star h3 e0 List.mem_cons_self)
        have hpl := star_plain (pos := pos) (env := X.env) (es := es) fun x hx => chk_star h3 x (List.mem_cons_of_mem _ hx)
        have fin : ∀ σ H Q, tE Z W G (.bi f ts) q σ H Q → tCB (callAny X u) (tEs Z W G ts) σ H Q := fun σ H Q hE => by
          obtain ⟨w, ρ, st, r, S, L, ev, po⟩ := hE.out
          unfold evT at ev
          rw [fin_v hq] at ev
          refine tEs.bnd S L ev po fun v1 st1 w1 H1 u1 l1 S1 L1 r1 ev po => ?_
          obtain ⟨b, rr, k1, k2, k3⟩ := biV_ok hX.K hX.calm S1 r1 ev po
          rw [q0] at k1
          cases k1
          exact ⟨rr, k2, k3⟩
        rcases hb with ⟨id, rfl⟩ | ⟨id, rfl⟩
        · exact PE.weak (pe_callB callAny_ok g1 hm hu1 (ht _ h3) g3 g2 he hpl) fin
        · exact PE.weak (pe_callTy callAny_ok g1 hm hu1 (ht _ h3) g3 g2 he hpl) fin
  · cases h
theorem isin_ok (hX : CxOk P Z m X c W) {x : T} {f : String} (hq : q ≠ .t) (hx : ∀ e, chkT c x e = true → PE X e (tE Z W (P.cfg (ev P m)) x .v)) (h : chkT c (.isin x f) e = true) : PE X e (tE Z W (P.cfg (ev P m)) (.isin x f) q) := by
  unfold chkT at h
  split at h
  · rename_i y p l y2 p2 pos
    simp only [Bool.and_eq_true, decide_eq_true_eq] at h
    obtain ⟨⟨⟨⟨⟨⟨h1, h2⟩, h3⟩, h4⟩, h5⟩, h6⟩, h7⟩ := h
    subst h1 h3
    obtain ⟨g1, g2, g3⟩ := glB_ok hX h2
    obtain ⟨k1, k2, k3⟩ := glB_ok hX h4
    obtain ⟨u, hu1, hu2⟩ := boot_all "isinstance" (by decide)
    have hu : bootBuiltins (S! "isinstance") = some (.builtin "isinstance") := by decide +kernel
    have hm := hX.st.bt "isinstance" (by decide)
    -- the class
    have hcls : ∃ cv cu, AskC Z f cv cu ∧ PE X (.Name (S! f) p2) (tC cv) := by
      by_cases hb : f ∈ btys
      · refine ⟨_, _, .ty hb, ?_⟩
        have hn : f ∈ bltNames := by
          simp only [btys, bltNames, List.mem_cons, List.not_mem_nil, or_false] at hb ⊢
          rcases hb with rfl | rfl | rfl | rfl | rfl <;> simp
        have hv : bootBuiltins (S! f) = some (.type f) := by
          simp only [btys, List.mem_cons, List.not_mem_nil, or_false] at hb
          rcases hb with rfl | rfl | rfl | rfl | rfl <;> decide +kernel
        exact pe_bltn k1 (hX.st.bt f hn) hv rfl k3 k2
      · refine ⟨_, _, .own hb, ?_⟩
        have hc : P.cls f = true := by
          rw [Bool.or_eq_true] at h7
          rcases h7 with h7 | h7
          · exact hX.cs f h7
          · exact absurd (List.contains_iff_mem.mp h7) hb
        exact pe_glob k1 (hX.st.cg f hc) rfl k2
    obtain ⟨cv, cu, hcv, hpe⟩ := hcls
    have hA : PA X [l, .Name (S! f) p2] (tCons (tE Z W (P.cfg (ev P m)) x .v) (tCons (tC cv) tNil)) := pa_cons (hx _ h5) (pa_cons hpe pa_nil) (star_cons h6)
    refine PE.weak (pe_callB call_isi g1 hm hu hA g3 g2 (star_cons h6)) fun σ H Q hE => ?_
    obtain ⟨w, ρ, st, r, S, L, ev, po⟩ := hE.out
    unfold evT at ev
    rw [fin_v hq] at ev
    refine tE.bnd S L ev po fun v1 st1 w1 H1 u1 l1 S1 L1 r1 ev po => ?_
    cases q0 : isV (P.cfg (SP.ev P m)) st1 f v1 with
    | none => rw [q0] at ev; cases ev
    | some b =>
      rw [q0] at ev
      obtain ⟨cv2, cu2, hc2, hc3, hr⟩ := isV_ok hX.K hX.st.isf S1 r1 q0 (ret1_Q S1 ev po (.bl _))
      have : cv2 = cv := by
        cases hc2 <;> cases hcv <;> first | rfl | (rename_i z1 z2; exact absurd z1 z2) | (rename_i z1 z2; exact absurd z2 z1)
      subst this
      exact hr
  · cases h
theorem tyV_lst {K : PySem.W.Frag} {H : Hp} {a : Addr} {vs : List V} (h : SqL K H a vs) : tyV K "list" (.ref a) H := .inl ⟨rfl, vs, h⟩
theorem bmB_ok {T f : String} (h : bmB T f = true) : ∃ id, BM T f id := by
  unfold bmB at h
  split at h <;> first
    | exact ⟨_, .join⟩
    | exact ⟨_, .index⟩
    | exact ⟨_, .append⟩
    | exact ⟨_, .extend⟩
    | exact ⟨_, .pop⟩
    | cases h
theorem meth_ok (hX : CxOk P Z m X c W) {x : T} {f : String} {ts : Ts} (hq : q ≠ .t) (hx : ∀ e, chkT c x e = true → PE X e (tE Z W (P.cfg (ev P m)) x .v)) (ht : ∀ es, chkTs c ts es = true → PA X es (tEs Z W (P.cfg (ev P m)) ts))
    (h : chkT c (.meth x f ts) e = true) : PE X e (tE Z W (P.cfg (ev P m)) (.meth x f ts) q) := by
  unfold chkT at h
  split at h
  · rename_i l y p es pos
    simp only [Bool.and_eq_true, decide_eq_true_eq] at h
    obtain ⟨⟨⟨⟨⟨h1, h2⟩, h3⟩, h4⟩, h5⟩, h6⟩ := h
    subst h1
    refine PE.weak (pe_methX (hx _ h2) (ht _ h3) h4 (chk_star h3) h6 h5) fun σ H Q hE => ?_
    obtain ⟨w, ρ, st, r, S, L, ev, po⟩ := hE.out
    unfold evT at ev
    rw [fin_v hq] at ev
    refine tE.bnd S L ev po fun v1 st1 w1 H1 u1 l1 S1 L1 r1 ev po => ?_
    have own : ∀ (C : String) (o : Option Vl), OwnAt Z w1 st1 H1 v1 u1 C f o → o.isNone = true → (P.meth C f).isSome = true → bnd (evTs (P.cfg (SP.ev P m)) ts ρ st1) (fun vs st2 => callM (P.cfg (SP.ev P m)) C f (v1 :: vs) st2) = some r →
        MeR X f (tEs Z W (P.cfg (SP.ev P m)) ts) σ u1 H1 Q := fun C o oa hn hsm ev => by
      obtain ⟨a, dx, gs, rfl, ea, hn', hs⟩ : ∃ a dx gs, u1 = .ref a ∧ H1 a = some (.ins (Z.cl C) dx gs) ∧ (o = none → gs.lookup (S! f) = none) ∧ True := by
        cases oa with
        | mk h1 h2 h3 h4 => exact ⟨_, _, _, h1, h2, h3, True.intro⟩
      have hcm : ∃ h, P.meth C f = some h := Option.isSome_iff_exists.mp hsm
      obtain ⟨h, hh⟩ := hcm
      obtain ⟨k1, k2, k3⟩ := hX.st.me C f h hh
      refine .inl ⟨a, Z.cl C, dx, gs, Z.fa h, rfl, ea, by rw [hX.K]; exact k2, by rw [hX.K]; exact k1, hn' (Option.isNone_iff_eq_none.mp hn), ?_⟩
      refine tEs.bnd S1 L1 ev po fun v2 st2 w2 H2 u2 l2 S2 L2 r2 ev po => ?_
      have ev : (match P.meth C f with
            | some h => SP.ev P m h (v1 :: v2) st2
            | none => none) = some r := ev
      rw [hh] at ev
      exact cl_def hX k3 S2 (.cons (r1.mono l2) r2) ev po
    have blt : ∀ (T : String), tyV X.K T u1 H1 → (T = "str" ∧ ∃ z, v1 = .d (.str z)) ∨ (T = "list" ∧ ((∃ ds, v1 = .d (.lst ds)) ∨ ∃ n, v1 = .loc n)) → (∃ id, BM T f id) →
        bnd (evTs (P.cfg (SP.ev P m)) ts ρ st1) (fun vs st2 => methV q.isL v1 f vs st2) = some r → MeR X f (tEs Z W (P.cfg (SP.ev P m)) ts) σ u1 H1 Q := fun T ty hT hB ev => by
      refine .inr ⟨T, hB, ty, ?_⟩
      refine tEs.bnd S1 L1 ev po fun v2 st2 w2 H2 u2 l2 S2 L2 r2 ev po => ?_
      exact methV_ok hX.K hX.room S2 (r1.mono l2) r2 hT ev po
    cases q0 : rcv (P.cfg (SP.ev P m)) f st1 v1 with
    | none => rw [q0] at ev; cases ev
    | some k =>
      rw [q0] at ev
      unfold rcv at q0
      split at q0
      · rename_i C fs
        split at q0
        · rename_i hn
          cases q0
          rw [Bool.and_eq_true] at hn
          exact own C _ (own_d S1 r1) (by rw [Option.isNone_iff_eq_none] at hn ⊢; rw [hn.1]; rfl) hn.2 ev
        · cases q0
      · rename_i z
        split at q0
        · rename_i hb
          cases q0
          cases r1
          exact blt "str" rfl (.inl ⟨rfl, _, rfl⟩) (bmB_ok hb) ev
        · cases q0
      · rename_i ds
        split at q0
        · rename_i hb
          cases q0
          obtain ⟨a, vs, rfl, hl, r2⟩ := (RepT.d r1 S1.F).lst_inv
          exact blt "list" (tyV_lst (hX.K ▸ hl.sq)) (.inr ⟨rfl, .inl ⟨_, rfl⟩⟩) (bmB_ok hb) ev
        · cases q0
      · rename_i n
        cases q2 : st1[n]? with
        | none => rw [q2] at q0; cases q0
        | some o =>
          rw [q2] at q0
          cases o with
          | dead => cases q0
          | dct _ => cases q0
          | ins C fs =>
            dsimp only at q0
            split at q0
            · rename_i hn
              cases q0
              rw [Bool.and_eq_true] at hn
              exact own C _ (own_l S1 r1 q2) hn.1 hn.2 ev
            · cases q0
          | lst xs =>
            dsimp only at q0
            split at q0
            · rename_i hb
              cases q0
              obtain ⟨a, rfl, ea, vs, hH, r2⟩ := S1.at_ r1 q2
              exact blt "list" (tyV_lst (.inl (.inl hH))) (.inr ⟨rfl, .inr ⟨_, rfl⟩⟩) (bmB_ok hb) ev
            · cases q0
      · cases q0
  · cases h
end
end SP

end

section
set_option maxHeartbeats 1000000
namespace SP
open PySem PySem.Spec PyProof.Rows L2
section
variable (Z : En)
/-- an iterator that walks the items -/
structure WalkI (w : Wd) (s : SP.Its) (J : L2.It) : Prop where
  stop : ∀ (i : Nat) (w1 : Wd) (H1 : Hp) (st1 : Store), s.items.length ≤ i → Same w.F w1.F → (∀ n a, w.ι n = some a → w1.ι n = some a) → Sat Z w1 st1 H1 → s.still st1 → J.stop i H1
  go : ∀ (i : Nat) (v : Vl) (w1 : Wd) (H1 : Hp) (st1 : Store), s.items[i]? = some v → Same w.F w1.F → (∀ n a, w.ι n = some a → w1.ι n = some a) → Sat Z w1 st1 H1 → s.still st1 →
    J.go i H1 ∧ ∀ x H', J.yld i H1 x H' → ∃ w2, Le w1 w2 ∧ Sat Z w2 st1 H' ∧ RepV Z w2 v x
def tI (W : WX) (G : Cfg) (it : SP.It) : TI := fun σ H R => ∃ (w : Wd) (ρ : SP.Env) (st : Store) (r : Out SP.Its × Store), Sat Z w st H ∧ Slots Z w ρ σ ∧ evI G it ρ st = some r ∧ PO Z (atS W σ) (WalkI Z) w R r
def tG (G : Cfg) (g : Tg) : TG := fun v σ H Q => ∃ (w : Wd) (ρ : SP.Env) (st : Store) (x : Vl) (ρ1 : SP.Env) (st1 : Store), Sat Z w st H ∧ Slots Z w ρ σ ∧ RepV Z w x v ∧ stG G g x ρ st = some (ρ1, st1) ∧
  ∀ w1 H1 σ1, Le w w1 → Sat Z w1 st1 H1 → Slots Z w1 ρ1 σ1 → σ1.length = σ.length → (∀ i, i ∉ gNm g → σ1[i]? = σ[i]?) → Q σ1 H1
def tGs (G : Cfg) (g : Tgs) : TGs := fun vs σ H Q => ∃ (w : Wd) (ρ : SP.Env) (st : Store) (xs : List Vl) (ρ1 : SP.Env) (st1 : Store), Sat Z w st H ∧ Slots Z w ρ σ ∧ RepVs Z w xs vs ∧ stGs G g xs ρ st = some (ρ1, st1) ∧
  ∀ w1 H1 σ1, Le w w1 → Sat Z w1 st1 H1 → Slots Z w1 ρ1 σ1 → σ1.length = σ.length → (∀ i, i ∉ gNms g → σ1[i]? = σ[i]?) → Q σ1 H1
end
section
variable {P : Pg} {Z : En} {m : Nat} {X : Cx} {c : Sx} {W : WX} {G : Cfg} {q : Md} {e tg : Expr}
theorem PI.weak {t t' : TI} (h : PI X tg e t) (k : ∀ σ H R, t' σ H R → t σ H R) : PI X tg e t' := ⟨fun pins s σ H R I x => h.run pins s σ H R I (k σ H R x)⟩
theorem PI.pick {t' : TI} (k : ∀ σ H R, t' σ H R → ∃ t, PI X tg e t ∧ t σ H R) : PI X tg e t' := ⟨fun pins s σ H R I x => let ⟨t, h, y⟩ := k σ H R x; h.run pins s σ H R I y⟩
theorem PG.weak {g g' : TG} (h : PG X e g) (k : ∀ v σ H Q, σ.length = X.N.length → g' v σ H Q → g v σ H Q) : PG X e g' := ⟨fun pins s σ H v u Q I r x => h.run pins s σ H v u Q I r (k v σ H Q I.len x)⟩
theorem PGs.weak {es : List Expr} {g g' : TGs} (h : PGs X es g) (k : ∀ v σ H Q, σ.length = X.N.length → g' v σ H Q → g v σ H Q) : PGs X es g' := ⟨fun pins s σ H v u Q I r x => h.run pins s σ H v u Q I r (k v σ H Q I.len x)⟩
theorem get_map_d {ds : List D} {i : Nat} {v : Vl} (h : (ds.map Vl.d)[i]? = some v) : ∃ d, ds[i]? = some d ∧ v = .d d := by
  rw [List.getElem?_map] at h
  obtain ⟨d, h1, h2⟩ := Option.map_eq_some_iff.mp h
  exact ⟨d, h1, h2.symm⟩
theorem rd_same {F F' : Hp} (s : Same F F') {a : Addr} {u : HO} (h : Rd F a u) : Rd F' a u := by
  rcases h with h | ⟨o, h⟩
  · exact .inl (s _ _ h)
  · exact .inr ⟨o, s _ _ h⟩
theorem sqT_same {F F' : Hp} {K : PySem.W.Frag} (s : Same F F') {a : Addr} {u : List V} (h : SqT K F a u) : SqT K F' a u := by
  rcases h with h | h
  · exact .inl (rd_same s h)
  · exact .inr h
theorem walk_lst {w : Wd} {ds : List D} {a : Addr} {vs : List V} (h : RdK Z.K w.F a vs) (r : RepDs Z w.F ds vs) : WalkI Z w (.vs (ds.map .d)) (Itl Z.K a) where
  stop := fun i w1 H1 st1 hi l _ S _ => ⟨vs, (h.same (fun b u e => S.F _ _ (l _ _ e))).sq, by rw [← r.length]; simpa [SP.Its.items] using hi⟩
  go := fun i v w1 H1 st1 hi l _ S _ => by
    obtain ⟨d, h1, rfl⟩ := get_map_d hi
    obtain ⟨x, h2, h3⟩ := r.get h1
    have hs : SqL Z.K H1 a vs := (h.same (fun b u e => S.F _ _ (l _ _ e))).sq
    refine ⟨⟨vs, x, hs, h2⟩, fun y H' ⟨e1, e2⟩ => ?_⟩
    subst e1
    have := e2 vs hs
    rw [h2] at this
    cases this
    exact ⟨w1, Le.refl _, S, h3.mono l⟩
theorem walk_tup {w : Wd} {ds : List D} {a : Addr} {vs : List V} (h : SqT Z.K w.F a vs) (r : RepDs Z w.F ds vs) : WalkI Z w (.vs (ds.map .d)) (Itt Z.K a) where
  stop := fun i w1 H1 st1 hi l _ S _ => ⟨vs, sqT_same (fun b u e => S.F _ _ (l _ _ e)) h, by rw [← r.length]; simpa [SP.Its.items] using hi⟩
  go := fun i v w1 H1 st1 hi l _ S _ => by
    obtain ⟨d, h1, rfl⟩ := get_map_d hi
    obtain ⟨x, h2, h3⟩ := r.get h1
    have hs : SqT Z.K H1 a vs := sqT_same (fun b u e => S.F _ _ (l _ _ e)) h
    refine ⟨⟨vs, x, hs, h2⟩, fun y H' ⟨e1, e2⟩ => ?_⟩
    subst e1
    have := e2 vs hs
    rw [h2] at this
    cases this
    exact ⟨w1, Le.refl _, S, h3.mono l⟩
theorem walk_str {w : Wd} {z : Str} : WalkI Z w (.vs (z.cps.toList.map fun c => .d (.str ⟨#[c]⟩))) (L2.Its z) where
  stop := fun i w1 H1 st1 hi l _ S _ => by
    show z.cps.size ≤ i
    simpa [SP.Its.items] using hi
  go := fun i v w1 H1 st1 hi l _ S _ => by
    have hi' : (z.cps.toList.map fun c => Vl.d (.str ⟨#[c]⟩))[i]? = some v := hi
    rw [List.getElem?_map] at hi'
    obtain ⟨c, h1, h2⟩ := Option.map_eq_some_iff.mp hi'
    have h1' : z.cps[i]? = some c := by simpa using h1
    refine ⟨(Array.getElem?_eq_some_iff.mp h1').1, fun y H' ⟨e1, c', e2, e3⟩ => ?_⟩
    subst e1
    rw [h1'] at e2
    cases e2
    subst h2 e3
    exact ⟨w1, Le.refl _, S, .str _⟩
theorem walk_at {w : Wd} {n : Nat} {us : List Vl} {a : Addr} (ha : w.ι n = some a) : WalkI Z w (.at_ n us) (Itl Z.K a) where
  stop := fun i w1 H1 st1 hi l li S hs => by
    obtain ⟨b, eb, _, vs, h1, h2⟩ := S.obj n _ hs
    rw [li n a ha] at eb
    cases eb
    exact ⟨vs, .inl (.inl h1), by rw [← h2.length]; exact hi⟩
  go := fun i v w1 H1 st1 hi l li S hs => by
    obtain ⟨b, eb, _, vs, h1, h2⟩ := S.obj n _ hs
    rw [li n a ha] at eb
    cases eb
    obtain ⟨x, h3, h4⟩ := h2.get hi
    have hq : SqL Z.K H1 a vs := .inl (.inl h1)
    refine ⟨⟨vs, x, hq, h3⟩, fun y H' ⟨e1, e2⟩ => ?_⟩
    subst e1
    have := e2 vs hq
    rw [h3] at this
    cases this
    exact ⟨w1, Le.refl _, S, h4⟩
theorem walk_rng {w : Wd} {lo : Int} {n : Nat} : WalkI Z w (.vs (rng lo n)) (Itr lo n) where
  stop := fun i w1 H1 st1 hi l _ S _ => by
    show n ≤ i
    simpa [SP.Its.items, rng] using hi
  go := fun i v w1 H1 st1 hi l _ S _ => by
    have hi' : (rng lo n)[i]? = some v := hi
    unfold rng at hi'
    rw [List.getElem?_map] at hi'
    obtain ⟨k, h1, h2⟩ := Option.map_eq_some_iff.mp hi'
    have hk : i < n ∧ k = i := by
      have := List.getElem?_eq_some_iff.mp h1
      obtain ⟨h3, h4⟩ := this
      rw [List.getElem_range] at h4
      exact ⟨by simpa using h3, h4.symm⟩
    obtain ⟨hk1, rfl⟩ := hk
    refine ⟨hk1, fun y H' ⟨e1, e2⟩ => ?_⟩
    subst e1 e2 h2
    exact ⟨w1, Le.refl _, S, .int _⟩
theorem enumV_len : ∀ (ds : List D) (k : Nat), (enumV k ds).length = ds.length
  | [], _ => rfl
  | _ :: r, k => by unfold enumV; rw [List.length_cons, List.length_cons, enumV_len r (k + 1)]
theorem enumV_get : ∀ {ds : List D} {k i : Nat} {v : Vl}, (enumV k ds)[i]? = some v → ∃ d, ds[i]? = some d ∧ v = .d (.tup [.int (((k + i : Nat)) : Int), d])
  | [], _, _, _, h => by simp [enumV] at h
  | d :: r, k, 0, v, h => by
    simp [enumV] at h
    exact ⟨d, rfl, h.symm⟩
  | d :: r, k, i + 1, v, h => by
    have h' : (enumV (k + 1) r)[i]? = some v := by simpa [enumV] using h
    obtain ⟨d', h1, h2⟩ := enumV_get h'
    exact ⟨d', by simpa using h1, by rw [h2]; congr 4; omega⟩
theorem enum_yld {w1 : Wd} {st1 : Store} {H1 : Hp} {i : Nat} {d : D} {vs : List V} {x y : V} {H' : Hp} {a : Addr} (S : Sat Z w1 st1 H1) (hs : SqL Z.K H1 a vs) (h2 : vs[i]? = some x) (r : RepD Z w1.F d x) (h : (Ite Z.K a).yld i H1 y H') :
    ∃ w2, Le w1 w2 ∧ Sat Z w2 st1 H' ∧ RepV Z w2 (.d (.tup [.int ((i : Nat) : Int), d])) y := by
  obtain ⟨T, x', rfl, hT, rfl, hx⟩ := h
  have := hx vs hs
  rw [h2] at this
  cases this
  exact ⟨_, Le.frz S hT, S.frz hT, .tup (.inl (.inl upd_same)) (.cons (.int _) (.cons (r.mono (same_upd (S.freeF hT))) .nil))⟩
theorem walk_enD {w : Wd} {ds : List D} {a : Addr} {vs : List V} (h : RdK Z.K w.F a vs) (r : RepDs Z w.F ds vs) : WalkI Z w (.vs (enumV 0 ds)) (Ite Z.K a) where
  stop := fun i w1 H1 st1 hi l _ S _ => ⟨vs, (h.same (fun b u e => S.F _ _ (l _ _ e))).sq, by rw [← r.length]; simpa [SP.Its.items, enumV_len] using hi⟩
  go := fun i v w1 H1 st1 hi l _ S _ => by
    obtain ⟨d, h1, rfl⟩ := enumV_get (show (enumV 0 ds)[i]? = some v from hi)
    obtain ⟨x, h2, h3⟩ := r.get h1
    have hs : SqL Z.K H1 a vs := (h.same (fun b u e => S.F _ _ (l _ _ e))).sq
    rw [Nat.zero_add]
    exact ⟨⟨vs, x, hs, h2⟩, fun y H' hy => enum_yld S hs h2 (h3.mono l) hy⟩
theorem enumT_yld {w1 : Wd} {st1 : Store} {H1 : Hp} {i : Nat} {d : D} {vs : List V} {x y : V} {H' : Hp} {a : Addr} (S : Sat Z w1 st1 H1) (hs : SqT Z.K H1 a vs) (h2 : vs[i]? = some x) (r : RepD Z w1.F d x) (h : (IteT Z.K a).yld i H1 y H') :
    ∃ w2, Le w1 w2 ∧ Sat Z w2 st1 H' ∧ RepV Z w2 (.d (.tup [.int ((i : Nat) : Int), d])) y := by
  obtain ⟨T, x', rfl, hT, rfl, hx⟩ := h
  have := hx vs hs
  rw [h2] at this
  cases this
  exact ⟨_, Le.frz S hT, S.frz hT, .tup (.inl (.inl upd_same)) (.cons (.int _) (.cons (r.mono (same_upd (S.freeF hT))) .nil))⟩
theorem walk_enT {w : Wd} {ds : List D} {a : Addr} {vs : List V} (h : SqT Z.K w.F a vs) (r : RepDs Z w.F ds vs) : WalkI Z w (.vs (enumV 0 ds)) (IteT Z.K a) where
  stop := fun i w1 H1 st1 hi l _ S _ => ⟨vs, sqT_same (fun b u e => S.F _ _ (l _ _ e)) h, by rw [← r.length]; simpa [SP.Its.items, enumV_len] using hi⟩
  go := fun i v w1 H1 st1 hi l _ S _ => by
    obtain ⟨d, h1, rfl⟩ := enumV_get (show (enumV 0 ds)[i]? = some v from hi)
    obtain ⟨x, h2, h3⟩ := r.get h1
    have hs : SqT Z.K H1 a vs := sqT_same (fun b u e => S.F _ _ (l _ _ e)) h
    rw [Nat.zero_add]
    exact ⟨⟨vs, x, hs, h2⟩, fun y H' hy => enumT_yld S hs h2 (h3.mono l) hy⟩
theorem dats_eq : ∀ {us : List Vl} {ds : List D}, dats us = some ds → us = ds.map .d
  | [], _, e => by cases e; rfl
  | .d d :: r, ds, e => by
    unfold dats at e
    cases q : dats r with
    | none => rw [q] at e; cases e
    | some es =>
      rw [q] at e
      cases e
      rw [dats_eq q]
      rfl
  | .loc _ :: _, _, e => by cases e
  | .exc _ :: _, _, e => by cases e
theorem walk_enL {w : Wd} {n : Nat} {us : List Vl} {ds : List D} {a : Addr} (hd : dats us = some ds) (ha : w.ι n = some a) : WalkI Z w (.en n us ds) (Ite Z.K a) where
  stop := fun i w1 H1 st1 hi l li S hs => by
    obtain ⟨b, eb, _, vs, h1, h2⟩ := S.obj n _ hs
    rw [li n a ha] at eb
    cases eb
    refine ⟨vs, .inl (.inl h1), ?_⟩
    rw [← h2.length, dats_eq hd, List.length_map]
    simpa [SP.Its.items, enumV_len] using hi
  go := fun i v w1 H1 st1 hi l li S hs => by
    obtain ⟨b, eb, _, vs, h1, h2⟩ := S.obj n _ hs
    rw [li n a ha] at eb
    cases eb
    obtain ⟨d, h3, rfl⟩ := enumV_get (show (enumV 0 ds)[i]? = some v from hi)
    obtain ⟨x, h4, h5⟩ := (h2.dats hd).get h3
    have hq : SqL Z.K H1 a vs := .inl (.inl h1)
    rw [Nat.zero_add]
    exact ⟨⟨vs, x, hq, h4⟩, fun y H' hy => enum_yld S hq h4 h5 hy⟩
theorem seq_ok (hX : CxOk P Z m X c W) {t : T} (ht : ∀ e, chkT c t e = true → PE X e (tE Z W G t .v)) (h : chkI c tg (.seq t) e = true) : PI X tg e (tI Z W G (.seq t)) := by
  unfold chkI at h
  rw [Bool.and_eq_true] at h
  have hp := ht _ h.1
  have l1 : PI X tg e (iList X.K (tE Z W G t .v)) := pi_list hp
  have l2 : PI X tg e (iTup X.K (tE Z W G t .v)) := pi_tup hp
  have l3 : PI X tg e (iStr (tE Z W G t .v)) := pi_str hp
  refine PI.pick fun σ H R hE => ?_
  obtain ⟨w, ρ, st, r, S, L, ev, po⟩ := hE
  unfold evI at ev
  rcases bnd_cases ev with ⟨v1, st1, e1, e2⟩ | ⟨ex, st1, e1, rfl⟩
  · cases q0 : seqIts st1 v1 with
    | none => rw [q0] at e2; cases e2
    | some s =>
      rw [q0] at e2
      cases eq_rf e2
      unfold seqIts at q0
      split at q0
      · cases eq_rf q0
        refine ⟨_, l1, tE.mk S L e1 fun w1 H1 u l S1 L1 r1 => ?_⟩
        cases r1 with
        | lst hl rr =>
          rw [hX.K]
          exact ⟨_, rfl, ⟨_, (hl.same S1.F).sq⟩, po.ok l S1 (walk_lst hl rr)⟩
      · cases eq_rf q0
        refine ⟨_, l2, tE.mk S L e1 fun w1 H1 u l S1 L1 r1 => ?_⟩
        cases r1 with
        | tup hl rr =>
          rw [hX.K]
          exact ⟨_, rfl, ⟨_, sqT_same S1.F hl⟩, po.ok l S1 (walk_tup hl rr)⟩
      · split at q0
        · cases eq_rf q0
          refine ⟨_, l3, tE.mk S L e1 fun w1 H1 u l S1 L1 r1 => ?_⟩
          cases r1
          exact ⟨_, rfl, po.ok l S1 walk_str⟩
        · cases q0
      · rename_i n
        split at q0
        · rename_i us hus
          cases eq_rf q0
          refine ⟨_, l1, tE.mk S L e1 fun w1 H1 u l S1 L1 r1 => ?_⟩
          obtain ⟨a, rfl, ea, vs, hH, r2⟩ := S1.at_ r1 hus
          rw [hX.K]
          exact ⟨_, rfl, ⟨_, .inl (.inl hH)⟩, po.ok l S1 (walk_at ea)⟩
        · cases q0
      · cases q0
  · exact ⟨_, l1, w, ρ, st, _, S, L, e1, po⟩
theorem asInt_some {v : Vl} {i : Int} (h : asInt v = some i) : v = .d (.int i) := by
  unfold asInt at h
  split at h
  · cases h; rfl
  · cases h
theorem smallI_ok {i : Int} (h : smallI i = true) : -(2 ^ 62) ≤ i ∧ i < 2 ^ 62 := of_decide_eq_true h
theorem rng1_ok (hX : CxOk P Z m X c W) {t : T} (ht : ∀ e, chkT c t e = true → PE X e (tE Z W G t .v)) (h : chkI c tg (.rng1 t) e = true) : PI X tg e (tI Z W G (.rng1 t)) := by
  unfold chkI at h
  split at h
  · rename_i x p l pos
    simp only [Bool.and_eq_true, decide_eq_true_eq] at h
    obtain ⟨⟨⟨h1, h2⟩, h3⟩, h4⟩ := h
    subst h1
    obtain ⟨g1, g2, g3⟩ := glB_ok hX h2
    have hA : PA X [l] (tCons (tE Z W G t .v) tNil) := pa_cons (ht _ h3) pa_nil (star_cons h4)
    refine PI.weak (pi_range1 g1 (hX.st.bt "range" (by decide)) hA (star_cons h4)) fun σ H R hE => ?_
    obtain ⟨w, ρ, st, r, S, L, ev, po⟩ := hE
    unfold evI at ev
    refine tE.bnd S L ev po fun v1 st1 w1 H1 u1 l1 S1 L1 r1 ev po => ?_
    split at ev
    · rename_i n hn
      split at ev
      · rename_i hs
        cases eq_rf ev
        have := asInt_some hn
        subst this
        cases r1
        exact ⟨n, rfl, (smallI_ok hs).1, (smallI_ok hs).2, po.ok (Le.refl _) S1 walk_rng⟩
      · cases ev
    · cases ev
  · cases h
theorem rng2_ok (hX : CxOk P Z m X c W) {t u : T} (ht : ∀ e, chkT c t e = true → PE X e (tE Z W G t .v)) (hu : ∀ e, chkT c u e = true → PE X e (tE Z W G u .v)) (h : chkI c tg (.rng2 t u) e = true) : PI X tg e (tI Z W G (.rng2 t u)) := by
  unfold chkI at h
  split at h
  · rename_i x p l r0 pos
    simp only [Bool.and_eq_true, decide_eq_true_eq] at h
    obtain ⟨⟨⟨⟨⟨h1, h2⟩, h3⟩, h4⟩, h5⟩, h6⟩ := h
    subst h1
    obtain ⟨g1, g2, g3⟩ := glB_ok hX h2
    have hA : PA X [l, r0] (tCons (tE Z W G t .v) (tCons (tE Z W G u .v) tNil)) := pa_cons (ht _ h3) (pa_cons (hu _ h4) pa_nil (star_cons h6)) (star_cons h5)
    refine PI.weak (pi_range2 g1 (hX.st.bt "range" (by decide)) hA (by rw [star_cons h5, star_cons h6]; rfl) (star_cons h6)) fun σ H R hE => ?_
    obtain ⟨w, ρ, st, r, S, L, ev, po⟩ := hE
    unfold evI at ev
    refine tE.bnd S L ev po fun v1 st1 w1 H1 u1 l1 S1 L1 r1 ev po => ?_
    refine tE.bnd S1 L1 ev po fun v2 st2 w2 H2 u2 l2 S2 L2 r2 ev po => ?_
    split at ev
    · rename_i i j hi hj
      split at ev
      · rename_i hs
        rw [Bool.and_eq_true] at hs
        cases eq_rf ev
        have hi := asInt_some hi
        have hj := asInt_some hj
        subst hi hj
        cases r1
        cases r2
        exact ⟨i, j, rfl, ⟨(smallI_ok hs.1).1, (smallI_ok hs.1).2, (smallI_ok hs.2).1, (smallI_ok hs.2).2⟩, po.ok (Le.refl _) S2 walk_rng⟩
      · cases ev
    · cases ev
  · cases h
theorem enu_ok (hX : CxOk P Z m X c W) {t : T} (ht : ∀ e, chkT c t e = true → PE X e (tE Z W G t .v)) (h : chkI c tg (.enu t) e = true) : PI X tg e (tI Z W G (.enu t)) := by
  unfold chkI at h
  split at h
  · rename_i x p l pos
    simp only [Bool.and_eq_true, decide_eq_true_eq] at h
    obtain ⟨⟨⟨⟨h1, h2⟩, h3⟩, h4⟩, h5⟩ := h
    subst h1
    obtain ⟨g1, g2, g3⟩ := glB_ok hX h2
    have hA : PA X [l] (tCons (tE Z W G t .v) tNil) := pa_cons (ht _ h3) pa_nil (star_cons h4)
    obtain ⟨elts, kk, tpos, rfl⟩ : ∃ elts kk tpos, tg = .Tuple elts kk tpos := by
      cases tg <;> first | exact ⟨_, _, _, rfl⟩ | cases h5
    refine PI.weak (pi_enT g1 (hX.st.bt "enumerate" (by decide)) hA (star_cons h4)) fun σ H R hE => ?_
    obtain ⟨w, ρ, st, r, S, L, ev, po⟩ := hE
    unfold evI at ev
    refine tE.bnd S L ev po fun v1 st1 w1 H1 u1 l1 S1 L1 r1 ev po => ?_
    cases q0 : enumIts st1 v1 with
    | none => rw [q0] at ev; cases ev
    | some s =>
      rw [q0] at ev
      cases eq_rf ev
      unfold enumIts at q0
      split at q0
      · cases eq_rf q0
        cases r1 with
        | lst hl rr =>
          rw [hX.K]
          exact ⟨_, rfl, .inl ⟨_, (hl.same S1.F).sq, po.ok (Le.refl _) S1 (walk_enD hl rr)⟩⟩
      · cases eq_rf q0
        cases r1 with
        | tup hl rr =>
          rw [hX.K]
          exact ⟨_, rfl, .inr ⟨_, sqT_same S1.F hl, po.ok (Le.refl _) S1 (walk_enT hl rr)⟩⟩
      · rename_i n
        split at q0
        · rename_i us hus
          split at q0
          · rename_i ds hds
            cases eq_rf q0
            obtain ⟨a, rfl, ea, vs, hH, r2⟩ := S1.at_ r1 hus
            rw [hX.K]
            exact ⟨_, rfl, .inl ⟨_, .inl (.inl hH), po.ok (Le.refl _) S1 (walk_enL hds ea)⟩⟩
          · cases q0
        · cases q0
      · cases q0
  · cases h
theorem Slots.put {w : Wd} {ρ : SP.Env} {σ : L2.St} {i : Nat} {x : Vl} {v : V} (L : Slots Z w ρ σ) (r : RepV Z w x v) (hi : i < σ.length) : Slots Z w (ρ.set i (some x)) (σ.set i (some v)) := fun k y e => by
  by_cases hk : k = i
  · subst hk
    by_cases hl : k < ρ.length
    · rw [List.getElem?_set_self hl] at e
      cases e
      exact ⟨v, List.getElem?_set_self hi, r⟩
    · rw [List.getElem?_eq_none (by rw [List.length_set]; omega)] at e
      cases e
  · rw [List.getElem?_set_ne (Ne.symm hk)] at e ⊢
    exact L k y e
theorem stB_ok (hX : CxOk P Z m X c W) {i : Nat} {x : Str} (h : stB c i x = true) : X.N[i]? = some x ∧ L2.Loc X.env.scope x ∧ (X.fn x = true ∨ X.env.scope.names.lookup x = some .local) := by
  unfold stB at h
  rw [Bool.and_eq_true, decide_eq_true_eq] at h
  rw [hX.N, hX.sc, hX.fn]
  refine ⟨h.1, ?_⟩
  unfold L2.Loc
  have h2 := h.2
  split at h2
  · rename_i z; exact ⟨.inl z, .inr z⟩
  · rename_i z; exact ⟨.inr z, .inl h2⟩
  · cases h2
theorem nm_ok (hX : CxOk P Z m X c W) {i : Nat} (h : chkG c (.nm i) e = true) : PG X e (tG Z G (.nm i)) := by
  unfold chkG at h
  split at h
  · obtain ⟨h1, h2, h3⟩ := stB_ok hX h
    refine PG.weak (pg_name hX.nd h1 h2 h3) fun v σ H Q hl hG => ?_
    obtain ⟨w, ρ, st, x, ρ1, st1, S, L, r, ev, k⟩ := hG
    unfold stG at ev
    cases ev
    have hi : i < σ.length := by rw [hl]; exact (List.getElem?_eq_some_iff.mp h1).1
    refine k w H _ (Le.refl _) S (L.put r hi) (List.length_set ..) fun j hj => ?_
    exact List.getElem?_set_ne (fun z => hj (by rw [← z]; exact List.mem_singleton.mpr rfl))
  · cases h
theorem asg_each {e : Expr} {es : List Expr} {env : PySem.Env} (h : notStar e = true) : assignEach (e :: es) env = (false, assign e env) :: assignEach es env := by
  cases e <;> first | rfl | cases h
theorem chkGs_star : ∀ {gs : Tgs} {es : List Expr}, chkGs c gs es = true → ∀ e ∈ es, notStar e = true
  | .nil, es, h => by
    unfold chkGs at h
    rw [List.isEmpty_iff] at h
    subst h
    exact fun e he => by cases he
  | .cons t r, [], h => fun e he => by cases he
  | .cons t r, x :: xs, h => fun e he => by
    unfold chkGs at h
    simp only [Bool.and_eq_true] at h
    rcases List.mem_cons.mp he with rfl | he
    · exact h.1.2
    · exact chkGs_star h.2 e he
theorem asg_len {env : PySem.Env} : ∀ {es : List Expr}, (∀ e ∈ es, notStar e = true) → (assignEach es env).length = es.length ∧ (assignEach es env).findIdx? (·.1) = none
  | [], _ => ⟨rfl, rfl⟩
  | e :: es, h => by
    obtain ⟨h1, h2⟩ := asg_len (env := env) fun x hx => h x (List.mem_cons_of_mem _ hx)
    rw [asg_each (h e List.mem_cons_self)]
    exact ⟨by rw [List.length_cons, List.length_cons, h1], by rw [List.findIdx?_cons, h2]; rfl⟩
theorem stGs_len : ∀ {gs : Tgs} {es : List Expr} {xs : List Vl} {ρ ρ1 : SP.Env} {st st1 : Store}, chkGs c gs es = true → stGs G gs xs ρ st = some (ρ1, st1) → xs.length = es.length
  | .nil, es, xs, ρ, ρ1, st, st1, h, e => by
    unfold chkGs at h
    rw [List.isEmpty_iff] at h
    subst h
    unfold stGs at e
    split at e
    · rfl
    · cases e
  | .cons g r, es, xs, ρ, ρ1, st, st1, h, e => by
    cases es with
    | nil => cases h
    | cons e0 es =>
      unfold chkGs at h
      simp only [Bool.and_eq_true] at h
      unfold stGs at e
      split at e
      · split at e
        · rw [List.length_cons, List.length_cons, stGs_len h.2 e]
        · cases e
      · cases e
theorem tp_ok (hX : CxOk P Z m X c W) {gs : Tgs} (hg : ∀ es, chkGs c gs es = true → PGs X es (tGs Z G gs)) (h : chkG c (.tp gs) e = true) : PG X e (tG Z G (.tp gs)) := by
  unfold chkG at h
  split at h
  · have hs := chkGs_star h
    refine PG.weak (pg_tup hX.calm (hg _ h) (asg_len hs).1 (asg_len hs).2) fun v σ H Q hl hG => ?_
    obtain ⟨w, ρ, st, x, ρ1, st1, S, L, r, ev, k⟩ := hG
    unfold stG at ev
    split at ev
    · obtain ⟨a, vs, rfl, h1, h2⟩ := (RepT.d r S.F).tup_inv
      have hlen := stGs_len h ev
      rw [List.length_map] at hlen
      refine ⟨a, vs, rfl, hK_SqT hX.K h1, by rw [← h2.length]; exact hlen, w, ρ, st, _, ρ1, st1, S, L, RepVs.of_ds h2, ev, k⟩
    · cases ev
  · cases h
theorem gs_nil {es : List Expr} (h : chkGs c .nil es = true) : PGs X es (tGs Z G .nil) := by
  unfold chkGs at h
  rw [List.isEmpty_iff] at h
  subst h
  refine PGs.weak pgs_nil fun vs σ H Q hl hG => ?_
  obtain ⟨w, ρ, st, xs, ρ1, st1, S, L, r, ev, k⟩ := hG
  unfold stGs at ev
  split at ev
  · cases ev
    cases r
    exact ⟨rfl, k w H σ (Le.refl _) S L rfl fun _ _ => rfl⟩
  · cases ev
theorem gs_cons {g : Tg} {gs : Tgs} {es : List Expr} (hg : ∀ e, chkG c g e = true → PG X e (tG Z G g)) (hr : ∀ es, chkGs c gs es = true → PGs X es (tGs Z G gs)) (h : chkGs c (.cons g gs) es = true) : PGs X es (tGs Z G (.cons g gs)) := by
  cases es with
  | nil => cases h
  | cons e0 es =>
    unfold chkGs at h
    simp only [Bool.and_eq_true] at h
    refine PGs.weak (pgs_cons (hg _ h.1.1) (hr _ h.2) (by rw [asg_each h.1.2]; rfl)) fun vs σ H Q hl hG => ?_
    obtain ⟨w, ρ, st, xs, ρ1, st1, S, L, r, ev, k⟩ := hG
    unfold stGs at ev
    split at ev
    · rename_i x xs
      cases r with
      | cons rx rs =>
        cases q0 : stG G g x ρ st with
        | none => rw [q0] at ev; cases ev
        | some pr =>
          obtain ⟨ρ2, st2⟩ := pr
          rw [q0] at ev
          refine ⟨_, _, rfl, w, ρ, st, x, ρ2, st2, S, L, rx, q0, fun w1 H1 σ1 l1 S1 L1 n1 k1 => ?_⟩
          refine ⟨w1, ρ2, st2, xs, ρ1, st1, S1, L1, rs.mono l1, ev, fun w2 H2 σ2 l2 S2 L2 n2 k2 => ?_⟩
          refine k w2 H2 σ2 (l1.trans l2) S2 L2 (n2.trans n1) fun i hi => ?_
          have hi' : i ∉ gNm g ++ gNms gs := hi
          rw [List.mem_append, not_or] at hi'
          exact (k2 i hi'.2).trans (k1 i hi'.1)
    · cases ev
def setAny (X : Cx) : TSet := fun o i v H Q => ∃ rr, PSet X rr ∧ rr o i v H Q
theorem setAny_ok : PSet X (setAny X) := fun pins s σ H o i v ov iv u Q I ro ri rv ⟨rr, h, q⟩ => h pins s σ H o i v ov iv u Q I ro ri rv q
theorem okv_rep {w : Wd} {x : Vl} {v : V} (r : RepV Z w x v) : okv x = true := by
  cases x with
  | exc _ => exact r.elim
  | _ => rfl
theorem ixG_ok (hX : CxOk P Z m X c W) {x y : T} (hx : ∀ e, chkT c x e = true → PE X e (tE Z W G x .v)) (hy : ∀ e, chkT c y e = true → PE X e (tE Z W G y .v)) (h : chkG c (.ix x y) e = true) : PG X e (tG Z G (.ix x y)) := by
  unfold chkG at h
  split at h
  · rename_i l r0 pos
    simp only [Bool.and_eq_true] at h
    have ha : ∀ v, assign (.Subscript l r0 pos) X.env v = (do
      let ov ← holding [v] (eval l X.env)
      let iv ← holding [v, ov] (eval r0 X.env)
      standAt pos
      holding [v, ov, iv] (setItem ov iv v)
      release [v, ov, iv] []) := by
      intro v
      have h2 := h.2
      cases r0 <;> first | rfl | cases h2
    refine PG.weak (pg_sub (hx _ h.1.1) (hy _ h.1.2) setAny_ok ha) fun v σ H Q hl hG => ?_
    obtain ⟨w, ρ, st, z, ρ1, st1, S, L, r, ev, k⟩ := hG
    unfold stG at ev
    split at ev
    · rename_i n st2 e1
      split at ev
      · rename_i kk st3 e2
        refine tE.mk S L e1 fun w1 H1 u1 l1 S1 L1 r1 => ?_
        refine tE.mk S1 L1 e2 fun w2 H2 u2 l2 S2 L2 r2 => ?_
        have rz := r.mono (l1.trans l2)
        have kf : ∀ {mo : MO} {H3 : Hp}, ρ1 = ρ → st1 = st3.set n mo → Sat Z w2 (st3.set n mo) H3 → Q σ H3 := fun {mo H3} e5 e6 S3 => by
          subst e5 e6
          exact k w2 H3 σ (l1.trans l2) S3 L2 rfl fun _ _ => rfl
        cases q0 : st3[n]? with
        | none => rw [q0] at ev; cases ev
        | some o =>
          rw [q0] at ev
          obtain ⟨a, rfl, ea, oa⟩ := S2.at_ (r1.mono l2) q0
          cases o with
          | dead => cases ev
          | ins _ _ => cases ev
          | lst xs =>
            cases kk <;> try (cases ev; done)
            rename_i kk
            dsimp only at ev
            cases q1 : SP.ixN xs.length kk with
            | none => rw [q1] at ev; cases ev
            | some j =>
              rw [q1] at ev
              dsimp only at ev
              rw [okv_rep rz, if_pos rfl] at ev
              cases ev
              obtain ⟨vs, hH, rv⟩ := oa
              cases r2
              refine ⟨_, set_list, a, vs, kk, j, rfl, rfl, hH, by rw [← rv.length]; exact q1, ?_⟩
              refine kf rfl rfl (S2.put q0 (fun z => by cases z) ea ⟨_, upd_same, ?_⟩)
              have : ∀ {xs : List Vl} {vs : List V} (j : Nat), RepVs Z w2 xs vs → RepVs Z w2 (xs.set j z) (vs.set j v) := by
                intro xs vs j h
                induction h generalizing j with
                | nil => exact .nil
                | cons a r ih =>
                  cases j with
                  | zero => exact .cons rz r
                  | succ j => exact .cons a (ih j)
              exact this j rv
          | dct kvs =>
            dsimp only at ev
            split at ev
            · rename_i hs
              simp only [Bool.and_eq_true, decide_eq_true_eq] at hs
              cases ev
              obtain ⟨ks, hH, rk, hl2⟩ := oa
              obtain ⟨qk, hqk⟩ := scal_key hs.1.1
              have := key_kV hqk r2
              subst this
              have hlt : ks.length < sizeLine := by rw [← rk.len, ← SZ_eq]; exact hs.2
              refine ⟨_, set_dict (by have := hX.un; omega), a, _, rfl, .inl ⟨ks, qk, hH, rfl, hlt, rfl⟩, ?_⟩
              refine kf rfl rfl (S2.put q0 (fun z => by cases z) ea ⟨_, upd_same, rk.put hqk rz, ?_⟩)
              have := length_putK ks qk v
              omega
            · cases ev
      · cases ev
    · cases ev
  · cases h
end
end SP

end

section
set_option maxHeartbeats 1000000
namespace SP
open PySem PySem.Spec PyProof.Rows L2
section
variable {P : Pg} {Z : En} {m : Nat} {X : Cx} {c : Sx} {W : WX} {G : Cfg} {q : Md} {e tg : Expr}
theorem RepV.oth {w : Wd} {O : Hp} : ∀ {x : Vl} {v : V}, RepV Z w x v → RepV Z (w.oth O) x v
  | .d _, _, r => r
  | .loc _, _, r => r
  | .exc _, _, r => r
theorem RepVs.oth {w : Wd} {O : Hp} : ∀ {x : List Vl} {v : List V}, RepVs Z w x v → RepVs Z (w.oth O) x v
  | _, _, .nil => .nil
  | _, _, .cons a r => .cons a.oth r.oth
theorem RepGs.oth {w : Wd} {O : Hp} : ∀ {x : List (String × Vl)} {v : List (Str × V)}, RepGs Z w x v → RepGs Z (w.oth O) x v
  | _, _, .nil => .nil
  | _, _, .cons a r => .cons a.oth r.oth
theorem RepK.oth {w : Wd} {O : Hp} : ∀ {x : List (D × Vl)} {v : List (Key × V)}, RepK Z w x v → RepK Z (w.oth O) x v
  | _, _, .nil => .nil
  | _, _, .cons e a r => .cons e a.oth r.oth
theorem Slots.oth {w : Wd} {O : Hp} {ρ : SP.Env} {σ : L2.St} (L : Slots Z w ρ σ) : Slots Z (w.oth O) ρ σ := fun i x e =>
  let ⟨v, h1, h2⟩ := L i x e
  ⟨v, h1, h2.oth⟩
theorem ObjAt.oth {w : Wd} {O : Hp} {H H' : Hp} {a : Addr} (e : H' a = H a) : ∀ {o : MO}, ObjAt Z w H a o → ObjAt Z (w.oth O) H' a o
  | .dead, _ => trivial
  | .lst _, ⟨vs, h1, h2⟩ => ⟨vs, e.trans h1, h2.oth⟩
  | .dct _, ⟨vs, h1, h2, h3⟩ => ⟨vs, e.trans h1, h2.oth, h3⟩
  | .ins _ _, ⟨dx, vs, h1, h2, h3⟩ => ⟨dx, vs, e.trans h1, h2, h3.oth⟩
/-- the others at D change -/
theorem Sat.reO {w : Wd} {st : Store} {H H' : Hp} {O' : Hp} {D : Addr} (S : Sat Z w st H) (hF : w.F D = none) (hn : ∀ (n : Nat) (o : MO), st[n]? = some o → o ≠ .dead → w.ι n ≠ some D) (hH : ∀ a, a ≠ D → H' a = H a) (hO : ∀ a, a ≠ D → O' a = w.O a) (hD : ∀ u, O' D = some u → H' D = some u) : Sat Z (w.oth O') st H' := by
  refine ⟨fun b u q => ?_, fun b u q => ?_, fun n o e => ?_, S.dom, S.inj, fun a u q n hd z => ?_, fun a u q => ?_⟩
  · have hb : b ≠ D := ne_of_none q hF
    rw [hH b hb]
    exact S.F _ _ q
  · by_cases hb : b = D
    · subst hb
      exact hD u q
    · rw [hH b hb]
      rw [show (w.oth O').O = O' from rfl, hO b hb] at q
      exact S.O _ _ q
  · obtain ⟨a, ea, na, oa⟩ := S.obj n o e
    by_cases ho : o = .dead
    · subst ho
      exact ⟨a, ea, fun z => absurd rfl z, trivial⟩
    · have hap : a ≠ D := fun z => hn n o e ho (by rw [ea, z])
      refine ⟨a, ea, fun z => ⟨(na z).1, ?_⟩, oa.oth (hH a hap)⟩
      show O' a = none
      rw [hO a hap]
      exact (na z).2
  · by_cases ha : a = D
    · subst ha
      have hlt := S.dom n a z
      cases q1 : st[n]? with
      | none =>
        rw [List.getElem?_eq_none_iff] at q1
        omega
      | some o => exact hn n o q1 (fun y => hd (by rw [q1, y])) z
    · rw [show (w.oth O').O = O' from rfl, hO a ha] at q
      exact S.apart a u q n hd z
  · by_cases ha : a = D
    · subst ha
      exact hF
    · rw [show (w.oth O').O = O' from rfl, hO a ha] at q
      exact S.fo a u q
theorem Sat.othNew {w : Wd} {st : Store} {H : Hp} {D : Addr} {u : HO} (S : Sat Z w st H) (h : H D = none) : Sat Z (w.oth (upd w.O D u)) st (upd H D u) :=
  S.reO (S.freeF h) (fun n o e ho => S.ne h e ho) (fun a ha => upd_ne ha) (fun a ha => upd_ne ha) fun u e => by
    rw [upd_same] at e ⊢
    exact e
theorem Sat.nloc {w : Wd} {st : Store} {H : Hp} {D : Addr} {u : HO} (S : Sat Z w st H) (hO : w.O D = some u) {n : Nat} {o : MO} (e : st[n]? = some o) (ho : o ≠ .dead) : w.ι n ≠ some D :=
  S.apart D u hO n (fun z => by rw [e] at z; cases z; exact ho rfl)
theorem Sat.othPut {w : Wd} {st : Store} {H : Hp} {D : Addr} {u u' : HO} {O : Hp} (S : Sat Z w st H) (hO : w.O = upd O D u) : Sat Z (w.oth (upd O D u')) st (upd H D u') := by
  have hD : w.O D = some u := by rw [hO]; exact upd_same
  refine S.reO (S.fo D u hD) (fun n o e ho => S.nloc hD e ho) (fun a ha => upd_ne ha) (fun a ha => ?_) fun u e => ?_
  · rw [hO, upd_ne ha, upd_ne ha]
  · rw [upd_same] at e ⊢
    exact e
/-- the heap without D -/
def rmv (H : Hp) (D : Addr) : Hp := fun b => if b = D then none else H b
theorem rmv_same {H : Hp} {D : Addr} : rmv H D D = none := if_pos rfl
theorem rmv_upd {H : Hp} {D : Addr} {u : HO} (h : H D = some u) : upd (rmv H D) D u = H := by
  funext b
  by_cases hb : b = D
  · subst hb
    rw [upd_same, h]
  · rw [upd_ne hb]
    exact if_neg hb
theorem Sat.othDrop {w : Wd} {st : Store} {H : Hp} {D : Addr} {u : HO} {O : Hp} (S : Sat Z w st H) (hO : w.O = upd O D u) (hn : O D = none) : Sat Z (w.oth O) st (rmv H D) := by
  have hD : w.O D = some u := by rw [hO]; exact upd_same
  refine S.reO (S.fo D u hD) (fun n o e ho => S.nloc hD e ho) (fun a ha => if_neg ha) (fun a ha => ?_) fun u e => ?_
  · rw [hO, upd_ne ha]
  · rw [hn] at e
    cases e
theorem Slots.wipe1 {w : Wd} {ρ : SP.Env} {σ : L2.St} {i : Nat} (L : Slots Z w ρ σ) : Slots Z w (ρ.set i none) (σ.set i none) := fun k y e => by
  by_cases hk : k = i
  · subst hk
    by_cases hl : k < ρ.length
    · rw [List.getElem?_set_self hl] at e
      cases e
    · rw [List.getElem?_eq_none (by rw [List.length_set]; omega)] at e
      cases e
  · rw [List.getElem?_set_ne (Ne.symm hk)] at e ⊢
    exact L k y e
theorem Slots.wipe {w : Wd} {ρ : SP.Env} {σ : L2.St} (L : Slots Z w ρ σ) : ∀ own : List Nat, Slots Z w (wipeE ρ own) (L2.wipe σ own)
  | [] => L
  | _ :: r => (Slots.wipe L r).wipe1
theorem wipe_get (σ : L2.St) (i : Nat) : ∀ own : List Nat, (L2.wipe σ own)[i]? = if i ∈ own then (σ[i]?).map (fun _ => none) else σ[i]?
  | [] => by simp [L2.wipe]
  | k :: r => by
    unfold L2.wipe
    by_cases hk : i = k
    · subst hk
      rw [if_pos List.mem_cons_self]
      by_cases hl : i < σ.length
      · rw [List.getElem?_set_self (by rw [wipe_length]; exact hl), List.getElem?_eq_getElem hl]
        rfl
      · rw [List.getElem?_eq_none (by rw [List.length_set, wipe_length]; omega), List.getElem?_eq_none (by omega)]
        rfl
    · rw [List.getElem?_set_ne (Ne.symm hk), wipe_get σ i r]
      by_cases hr : i ∈ r
      · rw [if_pos hr, if_pos (List.mem_cons_of_mem _ hr)]
      · rw [if_neg hr, if_neg (fun z => by rcases List.mem_cons.mp z with z | z; exact hk z; exact hr z)]
theorem wipe_eq {σ σ2 : L2.St} {own ns : List Nat} (hs : ns.all (own.contains ·) = true) (hl : σ2.length = (L2.wipe σ own).length) (h : ∀ i, i ∉ ns → σ2[i]? = (L2.wipe σ own)[i]?) : L2.wipe σ2 own = L2.wipe σ own := by
  apply List.ext_getElem?
  intro i
  rw [wipe_get σ2 i own]
  by_cases hi : i ∈ own
  · rw [if_pos hi, wipe_get σ i own, if_pos hi]
    have hl' : σ2.length = σ.length := by rw [hl, wipe_length]
    by_cases hlt : i < σ.length
    · rw [List.getElem?_eq_getElem hlt, List.getElem?_eq_getElem (by omega)]
      rfl
    · rw [List.getElem?_eq_none (by omega), List.getElem?_eq_none (by omega)]
  · rw [if_neg hi]
    refine h i fun z => hi ?_
    rw [List.all_eq_true] at hs
    exact List.contains_iff_mem.mp (hs i z)
def WN : WX := fun _ _ _ _ => False
theorem CxOk.blk (hX : CxOk P Z m X c W) {s : Shared} {H : Hp} {scope : Scope} {cl : List (Str × Addr)} {C : Addr} {fp : List Addr} : CxOk P Z m (X.blk s H scope (compEnvC scope cl C X.env) fp) (blkX c scope) WN where
  K := hX.K
  w := hX.w
  N := hX.N
  sc := by
    show relabel scope X.env = relS scope c.sc
    rw [← hX.sc]
    rfl
  fn := rfl
  gf := hX.gf
  cs := hX.cs
  nd := hX.nd
  calm := hX.calm
  room := hX.room
  pass := fun σ pins H s e s' _ hx => by
    obtain ⟨_, _, _, _, _, _, _, _, _, _, _, _, z⟩ := hx
    exact z
  st := hX.st
  lv := hX.lv
theorem folded {x : Expr} {env : PySem.Env} (h : notSet x = true) (v : Value) : foldedSetIterable x env v = pure v := by
  cases x <;> first | rfl | cases h
/-- what stands between the turns of a comprehension -/
structure LcAt (Z : En) (w1 : Wd) (D : Addr) (w : Wd) (st : Store) (H : Hp) (xs : List Vl) (vs : List V) : Prop where
  F : Same w1.F w.F
  ι : ∀ n a, w1.ι n = some a → w.ι n = some a
  O : w.O = upd w1.O D (.lst vs)
  S : Sat Z w st H
  r : RepVs Z w xs vs
theorem LcAt.le {w1 w : Wd} {D : Addr} {st : Store} {H : Hp} {xs : List Vl} {vs : List V} (h : LcAt Z w1 D w st H xs vs) : Le w1 (w.oth w1.O) := ⟨h.F, h.ι, rfl⟩
theorem LcAt.slots {w1 w : Wd} {D : Addr} {st : Store} {H : Hp} {xs : List Vl} {vs : List V} {ρ : SP.Env} {σ : L2.St} (h : LcAt Z w1 D w st H xs vs) (L : Slots Z w1 ρ σ) : Slots Z w ρ σ := (L.mono h.le).oth (O := w.O)
theorem LcAt.mono {w1 w w2 : Wd} {D : Addr} {st st2 : Store} {H H2 : Hp} {xs : List Vl} {vs : List V} (h : LcAt Z w1 D w st H xs vs) (l : Le w w2) (S : Sat Z w2 st2 H2) : LcAt Z w1 D w2 st2 H2 xs vs :=
  ⟨fun a u e => l.F _ _ (h.F _ _ e), fun n a e => l.ι _ _ (h.ι n a e), l.O.trans h.O, S, h.r.mono l⟩
theorem LcAt.start {w1 : Wd} {D : Addr} {st : Store} {H : Hp} (S : Sat Z w1 st H) (hD : H D = none) : LcAt Z w1 D (w1.oth (upd w1.O D (.lst []))) st (upd H D (.lst [])) [] [] :=
  ⟨Same.refl _, fun _ _ e => e, rfl, S.othNew hD, .nil⟩
theorem LcAt.push {w1 w : Wd} {D : Addr} {st : Store} {H : Hp} {xs : List Vl} {vs : List V} {x : Vl} {v : V} (h : LcAt Z w1 D w st H xs vs) (r : RepV Z w x v) : H D = some (.lst vs) ∧ LcAt Z w1 D (w.oth (upd w1.O D (.lst (vs ++ [v])))) st (upd H D (.lst (vs ++ [v]))) (xs ++ [x]) (vs ++ [v]) := by
  refine ⟨h.S.O _ _ (by rw [h.O]; exact upd_same), h.F, h.ι, rfl, h.S.othPut h.O, ?_⟩
  exact RepVs.oth (h.r.append (.cons r .nil))
theorem LcAt.fin {w1 w : Wd} {D : Addr} {st : Store} {H : Hp} {xs : List Vl} {vs : List V} {b : Bool} {E : XK} {r : Out Vl × Store} {Q : VK} (h : LcAt Z w1 D w st H xs vs) (hn : w1.O D = none) (e : mkList b xs st = some r) (po : PO Z E (RepV Z) w1 Q r) : Q (.ref D) H := by
  have hD : H D = some (.lst vs) := h.S.O _ _ (by rw [h.O]; exact upd_same)
  have S := h.S.othDrop h.O hn
  have := (mkList_ok S (RepVs.oth h.r) e (po.mono h.le) rmv_same).2
  rw [rmv_upd hD] at this
  exact this
theorem mkList_len {b : Bool} {xs : List Vl} {st : Store} {r : Out Vl × Store} (e : mkList b xs st = some r) : xs.length ≤ SZ := by
  unfold mkList at e
  split at e
  · assumption
  · cases e
theorem drop_get {α : Type} {l : List α} {i : Nat} {v : α} {r : List α} (h : l.drop i = v :: r) : l[i]? = some v ∧ l.drop (i + 1) = r := by
  have h1 : (l.drop i)[0]? = some v := by rw [h]; rfl
  rw [List.getElem?_drop, Nat.add_zero] at h1
  refine ⟨h1, ?_⟩
  rw [← List.drop_drop, h]
  rfl
theorem tI.bnd {α β : Type} {a : SP.It} {w : Wd} {ρ : SP.Env} {st : Store} {σ : L2.St} {H : Hp} {R : Wd → α → β → Prop} {Q : β → Hp → Prop} {Q' : L2.It → Hp → Prop} {k : SP.Its → Store → Rs α} {r : Out α × Store} (S : Sat Z w st H) (L : Slots Z w ρ σ) (h : SP.bnd (evI G a ρ st) k = some r) (hp : PO Z (atS W σ) R w Q r)
    (cont : ∀ s st1 w1 H1 J, Le w w1 → Sat Z w1 st1 H1 → Slots Z w1 ρ σ → WalkI Z w1 s J → k s st1 = some r → PO Z (atS W σ) R w1 Q r → Q' J H1) : tI Z W G a σ H Q' :=
  let ⟨r', e, p⟩ := PO.step (R' := WalkI Z) h hp fun x st1 w1 H1 v l S rv hk hp => cont x st1 w1 H1 v l S (L.mono l) rv hk hp
  ⟨w, ρ, st, r', S, L, e, p⟩
theorem if_some {α : Type} {p : Prop} {inst : Decidable p} {a : Option α} {b : α} (h : (if p then a else none) = some b) : p ∧ a = some b := by
  split at h
  · exact ⟨by assumption, h⟩
  · cases h
theorem cmpF_nil {s : SP.Its} {elt : Vl → Store → Rs (Option Vl)} {st stE : Store} {xs : List Vl} (h : cmpF s elt [] st = some (.ok xs, stE)) : s.still st ∧ xs = [] ∧ stE = st := by
  unfold cmpF at h
  obtain ⟨h1, h2⟩ := if_some h
  cases h2
  exact ⟨h1, rfl, rfl⟩
theorem cmpF_cons {s : SP.Its} {elt : Vl → Store → Rs (Option Vl)} {st stE : Store} {xs : List Vl} {v : Vl} {r : List Vl} (h : cmpF s elt (v :: r) st = some (.ok xs, stE)) :
    s.still st ∧ ∃ o st1 ys, elt v st = some (.ok o, st1) ∧ cmpF s elt r st1 = some (.ok ys, stE) ∧ xs = (match o with | some x => x :: ys | none => ys) := by
  unfold cmpF at h
  obtain ⟨h1, h2⟩ := if_some h
  refine ⟨h1, ?_⟩
  rcases bnd_cases h2 with ⟨o, st1, e1, e2⟩ | ⟨ex, st1, e1, e2⟩
  · rcases bnd_cases e2 with ⟨ys, st2, e3, e4⟩ | ⟨ex, st2, e3, e4⟩
    · have := Option.some.inj e4
      injection this with a b
      injection a with a
      subst b
      exact ⟨o, st1, ys, e1, e3, a.symm⟩
    · cases e4
  · cases e2
theorem cmpFF_nil {s : SP.Its} {elt : Vl → Store → Rs (List Vl)} {st stE : Store} {xs : List Vl} (h : cmpFF s elt [] st = some (.ok xs, stE)) : s.still st ∧ xs = [] ∧ stE = st := by
  unfold cmpFF at h
  obtain ⟨h1, h2⟩ := if_some h
  cases h2
  exact ⟨h1, rfl, rfl⟩
theorem cmpFF_cons {s : SP.Its} {elt : Vl → Store → Rs (List Vl)} {st stE : Store} {xs : List Vl} {v : Vl} {r : List Vl} (h : cmpFF s elt (v :: r) st = some (.ok xs, stE)) :
    s.still st ∧ ∃ o st1 ys, elt v st = some (.ok o, st1) ∧ cmpFF s elt r st1 = some (.ok ys, stE) ∧ xs = o ++ ys := by
  unfold cmpFF at h
  obtain ⟨h1, h2⟩ := if_some h
  refine ⟨h1, ?_⟩
  rcases bnd_cases h2 with ⟨o, st1, e1, e2⟩ | ⟨ex, st1, e1, e2⟩
  · rcases bnd_cases e2 with ⟨ys, st2, e3, e4⟩ | ⟨ex, st2, e3, e4⟩
    · have := Option.some.inj e4
      injection this with a b
      injection a with a
      subst b
      exact ⟨o, st1, ys, e1, e3, a.symm⟩
    · cases e4
  · cases e2
/-- an element that is asked: its target, its tests, its value -/
theorem elt_some {g : Tg} {fs : Ts} {ρ0 : SP.Env} {v : Vl} {st st1 : Store} {α : Type} {o : α} {k : SP.Env → Store → Rs α} {z : Store → Rs α}
    (h : (match stG G g v ρ0 st with
      | some (ρ1, st3) => bndB (evF G fs ρ1 st3) fun c st4 => match c with
        | true => k ρ1 st4
        | false => z st4
      | none => none) = some (.ok o, st1)) : ∃ ρ1 st3 b st4, stG G g v ρ0 st = some (ρ1, st3) ∧ evF G fs ρ1 st3 = some (.ok (.d (.bl b)), st4) ∧ (match b with | true => k ρ1 st4 | false => z st4) = some (.ok o, st1) := by
  cases q0 : stG G g v ρ0 st with
  | none => rw [q0] at h; cases h
  | some pr =>
    obtain ⟨ρ1, st3⟩ := pr
    rw [q0] at h
    dsimp only at h
    rw [bndB_bnd] at h
    rcases bnd_cases h with ⟨x, st4, e1, e2⟩ | ⟨ex, st4, e1, e2⟩
    · split at e2
      · exact ⟨ρ1, st3, _, st4, rfl, e1, e2⟩
      · cases e2
    · cases e2
theorem comp_rd {own : List Nat} {g : Tg} {t : T} {it : SP.It} {fs : Ts} {σ : L2.St} {H : Hp} {Q : VK} (hq : q ≠ .t) (h6 : (gNm g).all (own.contains ·) = true) (hE : tE Z W G (.comp own t g it fs) q σ H Q) :
    tLc (tI Z W G it) (tG Z G g) (tF Z WN G fs) (tE Z WN G t .v) own σ H Q := by
  obtain ⟨w, ρ, st, r, S, L, ev, po⟩ := hE.out
  unfold evT at ev
  rw [fin_v hq] at ev
  refine tI.bnd S L ev po fun s st1 w1 H1 J l1 S1 L1 wk ev po => ?_
  rcases bnd_cases ev with ⟨all, stE, ev, e2⟩ | ⟨ex, st2, e1, e2⟩
  · obtain ⟨all', st', ev, hz⟩ := noErr_some ev
    cases hz
    intro D hD
    have hDO : w1.O D = none := S1.freeO hD
    refine ⟨fun i n H' => ∃ w' st' xs vs more, LcAt Z w1 D w' st' H' xs vs ∧ cmpF s _ (s.items.drop i) st' = some (.ok more, stE) ∧ xs ++ more = all ∧ n = (s.items.drop i).length, ⟨_, _, st1, [], [], all, LcAt.start S1 hD, ev, rfl, rfl⟩, ?_⟩
    rintro i n H2 ⟨w', st', xs, vs, more, la, ec, ea, rfl⟩
    cases hd : s.items.drop i with
    | nil =>
      rw [hd] at ec
      obtain ⟨hs, rfl, rfl⟩ := cmpF_nil ec
      rw [List.append_nil] at ea
      subst ea
      have hle : s.items.length ≤ i := List.drop_eq_nil_iff.mp hd
      exact .inl ⟨wk.stop i w' H2 _ hle la.F la.ι la.S hs, la.fin hDO e2 po⟩
    | cons v rest =>
      rw [hd] at ec
      obtain ⟨hv, hr⟩ := drop_get hd
      obtain ⟨hs, o, st2, ys, e3, e4, e5⟩ := cmpF_cons ec
      obtain ⟨hgo, hy⟩ := wk.go i v w' H2 st' hv la.F la.ι la.S hs
      refine .inr ⟨hgo, fun H' => ∃ w' st' xs vs more, LcAt Z w1 D w' st' H' xs vs ∧ cmpF s _ (s.items.drop (i + 1)) st' = some (.ok more, stE) ∧ xs ++ more = all, fun H' ⟨w2, s2, x2, v2, m2, a2, b2, c2⟩ => ⟨_, ?_, w2, s2, x2, v2, m2, a2, b2, c2, rfl⟩, ?_⟩
      · rw [hr]
        exact Nat.lt_succ_self _
      · intro x H3 hx
        obtain ⟨w2, l2, S2, r2⟩ := hy x H3 hx
        have la2 := la.mono l2 S2
        obtain ⟨ρ1, st3, b, st4, g1, g2, g3⟩ := elt_some e3
        refine ⟨w2, wipeE ρ own, st', v, ρ1, st3, S2, (la2.slots L1).wipe own, r2, g1, fun w3 H4 σ1 l3 S3 L3 n3 k3 => ?_⟩
        refine ⟨wipe_eq h6 n3 k3, ?_⟩
        refine tF.mk S3 L3 g2 fun w4 H5 l4 S4 L4 => ?_
        have la4 := la2.mono (l3.trans l4) S4
        cases b with
        | false =>
          rw [if_neg Bool.false_ne_true]
          have g3 : some (Out.ok none, st4) = some (Out.ok o, st2) := g3
          cases g3
          rw [hr]
          exact ⟨w4, _, xs, vs, ys, la4, e4, by rw [← ea, e5]⟩
        | true =>
          rw [if_pos rfl]
          dsimp only at g3
          rcases bnd_cases g3 with ⟨y, st5, e6, e7⟩ | ⟨ex, st5, e6, e7⟩
          · cases e7
            refine tE.mk S4 L4 e6 fun w5 H6 u l5 S5 L5 r5 => ?_
            have la5 := la4.mono l5 S5
            obtain ⟨p1, p2⟩ := la5.push r5
            refine ⟨vs, p1, ?_, ?_⟩
            · have hlen := mkList_len e2
              rw [← ea, e5, List.length_append, List.length_cons, la5.r.length] at hlen
              rw [← SZ_eq]
              omega
            · rw [hr]
              refine ⟨_, _, xs ++ [y], _, ys, p2, e4, ?_⟩
              rw [← ea, e5, List.append_assoc]
              rfl
          · cases e7
  · unfold noErr at e1
    split at e1
    · cases e1
    · cases e1

theorem comp_ok (hX : CxOk P Z m X c W) {own : List Nat} {g : Tg} {t : T} {it : SP.It} {fs : Ts} (hq : q ≠ .t) (hi : ∀ tg e, chkI c tg it e = true → PI X tg e (tI Z W G it))
    (hg : ∀ (X' : Cx) c', CxOk P Z m X' c' WN → ∀ e, chkG c' g e = true → PG X' e (tG Z G g)) (hf : ∀ (X' : Cx) c', CxOk P Z m X' c' WN → ∀ es, chkTs c' fs es = true → es.length ≤ 1 → PTs X' es (tF Z WN G fs))
    (ht : ∀ (X' : Cx) c', CxOk P Z m X' c' WN → ∀ e, chkT c' t e = true → PE X' e (tE Z WN G t .v)) (h : chkT c (.comp own t g it fs) e = true) : PE X e (tE Z W G (.comp own t g it fs) q) := by
  unfold chkT at h
  split at h
  · rename_i l tg iter ifs scope pos
    simp only [Bool.and_eq_true, decide_eq_true_eq] at h
    obtain ⟨⟨⟨⟨⟨⟨⟨⟨h1, h2⟩, h3⟩, h4⟩, h5⟩, h6⟩, h7⟩, h8⟩, h9⟩ := h
    have hB : BlkOk X.N X.env.scope scope (ownOf c.N scope) := by
      rw [hX.N, hX.sc]
      exact blkOk_by h2
    have rule := pe_lc (pos := pos) hX.calm hX.nd (hi tg iter h3) hB (fun s H C cl fp => hg _ _ hX.blk tg h5) (fun s H C cl fp => hf _ _ hX.blk ifs h7 h8) (fun s H C cl fp => ht _ _ hX.blk l h9) (folded h4)
    rw [h1] at rule
    exact PE.weak rule fun σ H Q hE => comp_rd hq h6 hE
  · cases h
end
end SP

end

section
set_option maxHeartbeats 2000000
namespace SP
open PySem PySem.Spec PyProof.Rows L2
section
variable {P : Pg} {Z : En} {m : Nat} {X : Cx} {c : Sx} {W : WX} {G : Cfg} {q : Md} {e tg : Expr}
theorem comp2_rd {own own2 : List Nat} {g g2 : Tg} {t : T} {it it2 : SP.It} {fs fs2 : Ts} {σ : L2.St} {H : Hp} {Q : VK} (hq : q ≠ .t) (h6 : (gNm g).all (own.contains ·) = true) (k4 : (gNm g2).all (own2.contains ·) = true) (hE : tE Z W G (.comp2 own own2 t g it fs g2 it2 fs2) q σ H Q) :
    tLc2 (tI Z W G it) (tG Z G g) (tF Z WN G fs) (tI Z WN G it2) (tG Z G g2) (tF Z WN G fs2) (tE Z WN G t .v) own own2 σ H Q := by
  obtain ⟨w, ρ, st, r, S, L, ev, po⟩ := hE.out
  unfold evT at ev
  rw [fin_v hq] at ev
  refine tI.bnd S L ev po fun s st1 w1 H1 J l1 S1 L1 wk ev po => ?_
  rcases bnd_cases ev with ⟨all, stE, ev, e2⟩ | ⟨ex, st2, e1, e2⟩
  · obtain ⟨all', st', ev, hz⟩ := noErr_some ev
    cases hz
    intro D hD
    have hDO : w1.O D = none := S1.freeO hD
    refine ⟨fun i n H' => ∃ w' st' xs vs more, LcAt Z w1 D w' st' H' xs vs ∧ cmpFF s _ (s.items.drop i) st' = some (.ok more, stE) ∧ xs ++ more = all ∧ n = (s.items.drop i).length, ⟨_, _, st1, [], [], all, LcAt.start S1 hD, ev, rfl, rfl⟩, ?_⟩
    rintro i n H2 ⟨w', st', xs, vs, more, la, ec, ea, rfl⟩
    cases hd : s.items.drop i with
    | nil =>
      rw [hd] at ec
      obtain ⟨hs, rfl, rfl⟩ := cmpFF_nil ec
      rw [List.append_nil] at ea
      subst ea
      have hle : s.items.length ≤ i := List.drop_eq_nil_iff.mp hd
      exact .inl ⟨wk.stop i w' H2 _ hle la.F la.ι la.S hs, la.fin hDO e2 po⟩
    | cons v rest =>
      rw [hd] at ec
      obtain ⟨hv1, hr⟩ := drop_get hd
      obtain ⟨hs, o, st2, ys, e3, e4, e5⟩ := cmpFF_cons ec
      obtain ⟨hgo, hy⟩ := wk.go i v w' H2 st' hv1 la.F la.ι la.S hs
      refine .inr ⟨hgo, fun H' => ∃ w' st' xs vs more, LcAt Z w1 D w' st' H' xs vs ∧ cmpFF s _ (s.items.drop (i + 1)) st' = some (.ok more, stE) ∧ xs ++ more = all, fun H' ⟨w2, s2, x2, v2, m2, a2, b2, c2⟩ => ⟨_, ?_, w2, s2, x2, v2, m2, a2, b2, c2, rfl⟩, ?_⟩
      · rw [hr]
        exact Nat.lt_succ_self _
      · intro x H3 hx
        obtain ⟨w2, l2, S2, r2⟩ := hy x H3 hx
        have la2 := la.mono l2 S2
        obtain ⟨ρ1, st3, b, st4, g1, gf, g3⟩ := elt_some e3
        refine ⟨w2, wipeE ρ own, st', v, ρ1, st3, S2, (la2.slots L1).wipe own, r2, g1, fun w3 H4 σ1 l3 S3 L3 n3 k3 => ?_⟩
        refine ⟨wipe_eq h6 n3 k3, ?_⟩
        refine tF.mk S3 L3 gf fun w4 H5 l4 S4 L4 => ?_
        have la4 := la2.mono (l3.trans l4) S4
        cases b with
        | false =>
          rw [if_neg Bool.false_ne_true]
          have g3 : some (Out.ok [], st4) = some (Out.ok o, st2) := g3
          cases g3
          rw [hr]
          exact ⟨w4, _, xs, vs, ys, la4, e4, by rw [← ea, e5]; rfl⟩
        | true =>
          rw [if_pos rfl]
          dsimp only at g3
          refine tI.bnd (R := fun _ _ (_ : Unit) => False) (Q := fun _ _ => True) S4 L4 g3 (fun _ _ _ _ _ z => z.elim) fun s2 st5 w5 H6 J2 l5 S5 L5 wk2 g4 _ => ?_
          have la5 := la4.mono l5 S5
          refine ⟨fun j n H' => ∃ w' st' xs' vs' more', LcAt Z w1 D w' st' H' xs' vs' ∧ Same w5.F w'.F ∧ (∀ n a, w5.ι n = some a → w'.ι n = some a) ∧ cmpF s2 _ (s2.items.drop j) st' = some (.ok more', st2) ∧ xs' ++ (more' ++ ys) = all ∧ n = (s2.items.drop j).length,
            ⟨_, w5, st5, xs, vs, o, la5, Same.refl _, fun _ _ z => z, g4, by rw [← ea, e5], rfl⟩, ?_⟩
          rintro j n H7 ⟨w6, st6, xs6, vs6, more6, la6, f6, i6, ec6, ea6, rfl⟩
          cases hd2 : s2.items.drop j with
          | nil =>
            rw [hd2] at ec6
            obtain ⟨hs6, rfl, rfl⟩ := cmpF_nil ec6
            rw [List.nil_append] at ea6
            have hle : s2.items.length ≤ j := List.drop_eq_nil_iff.mp hd2
            refine .inl ⟨wk2.stop j w6 H7 _ hle f6 i6 la6.S hs6, ?_⟩
            rw [hr]
            exact ⟨w6, _, xs6, vs6, ys, la6, e4, ea6⟩
          | cons v2 rest2 =>
            rw [hd2] at ec6
            obtain ⟨hv2, hr2⟩ := drop_get hd2
            obtain ⟨hs6, o2, st7, ys2, m3, m4, m5⟩ := cmpF_cons ec6
            obtain ⟨hgo2, hy2⟩ := wk2.go j v2 w6 H7 st6 hv2 f6 i6 la6.S hs6
            refine .inr ⟨hgo2, fun H' => ∃ w' st' xs' vs' more', LcAt Z w1 D w' st' H' xs' vs' ∧ Same w5.F w'.F ∧ (∀ n a, w5.ι n = some a → w'.ι n = some a) ∧ cmpF s2 _ (s2.items.drop (j + 1)) st' = some (.ok more', st2) ∧ xs' ++ (more' ++ ys) = all,
              fun H' ⟨w2, s2, x2, v2, m2, a2, b2, c2, d2, e2⟩ => ⟨_, ?_, w2, s2, x2, v2, m2, a2, b2, c2, d2, e2, rfl⟩, ?_⟩
            · rw [hr2]
              exact Nat.lt_succ_self _
            · intro x2 H8 hx2
              obtain ⟨w7, l7, S7, r7⟩ := hy2 x2 H8 hx2
              have la7 := la6.mono l7 S7
              have Ls : Slots Z w7 ρ1 σ1 := by
                have le5 : Le w5 (w6.oth w5.O) := ⟨f6, i6, rfl⟩
                exact ((L5.mono le5).oth (O := w6.O)).mono l7
              obtain ⟨ρ2, st8, b2, st9, n1, n2, n3'⟩ := elt_some m3
              refine ⟨w7, wipeE ρ1 own2, st6, v2, ρ2, st8, S7, Ls.wipe own2, r7, n1, fun w8 H9 σ3 l8 S8 L8 n8 k8 => ?_⟩
              refine ⟨wipe_eq k4 n8 k8, ?_⟩
              refine tF.mk S8 L8 n2 fun w9 H10 l9 S9 L9 => ?_
              have la9 := la7.mono (l8.trans l9) S9
              have ff : Same w5.F w9.F := fun a u e => l9.F _ _ (l8.F _ _ (l7.F _ _ (f6 _ _ e)))
              have ii : ∀ n a, w5.ι n = some a → w9.ι n = some a := fun n a e => l9.ι _ _ (l8.ι _ _ (l7.ι _ _ (i6 n a e)))
              cases b2 with
              | false =>
                rw [if_neg Bool.false_ne_true]
                have n3' : some (Out.ok none, st9) = some (Out.ok o2, st7) := n3'
                cases n3'
                rw [hr2]
                exact ⟨w9, _, xs6, vs6, ys2, la9, ff, ii, m4, by rw [← ea6, m5]⟩
              | true =>
                rw [if_pos rfl]
                dsimp only at n3'
                rcases bnd_cases n3' with ⟨y, st10, e6, e7⟩ | ⟨ex, st10, e6, e7⟩
                · cases e7
                  refine tE.mk S9 L9 e6 fun w11 H12 u l11 S11 L11 r11 => ?_
                  have la11 := la9.mono l11 S11
                  obtain ⟨p1, p2⟩ := la11.push r11
                  refine ⟨vs6, p1, ?_, ?_⟩
                  · have hlen := mkList_len e2
                    rw [← ea6, m5, List.length_append, List.length_append, List.length_cons, la11.r.length] at hlen
                    rw [← SZ_eq]
                    omega
                  · rw [hr2]
                    refine ⟨_, _, xs6 ++ [y], _, ys2, p2, fun a u e => l11.F _ _ (ff _ _ e), fun n a e => l11.ι _ _ (ii n a e), m4, ?_⟩
                    rw [← ea6, m5, List.append_assoc]
                    rfl
                · cases e7
  · unfold noErr at e1
    split at e1
    · cases e1
    · cases e1

theorem comp2_ok (hX : CxOk P Z m X c W) {own own2 : List Nat} {g g2 : Tg} {t : T} {it it2 : SP.It} {fs fs2 : Ts} (hq : q ≠ .t) (hi : ∀ tg e, chkI c tg it e = true → PI X tg e (tI Z W G it))
    (hg : ∀ (X' : Cx) c', CxOk P Z m X' c' WN → ∀ e, chkG c' g e = true → PG X' e (tG Z G g)) (hf : ∀ (X' : Cx) c', CxOk P Z m X' c' WN → ∀ es, chkTs c' fs es = true → es.length ≤ 1 → PTs X' es (tF Z WN G fs))
    (hi2 : ∀ (X' : Cx) c', CxOk P Z m X' c' WN → ∀ tg e, chkI c' tg it2 e = true → PI X' tg e (tI Z WN G it2))
    (hg2 : ∀ (X' : Cx) c', CxOk P Z m X' c' WN → ∀ e, chkG c' g2 e = true → PG X' e (tG Z G g2)) (hf2 : ∀ (X' : Cx) c', CxOk P Z m X' c' WN → ∀ es, chkTs c' fs2 es = true → es.length ≤ 1 → PTs X' es (tF Z WN G fs2))
    (ht : ∀ (X' : Cx) c', CxOk P Z m X' c' WN → ∀ e, chkT c' t e = true → PE X' e (tE Z WN G t .v)) (h : chkT c (.comp2 own own2 t g it fs g2 it2 fs2) e = true) : PE X e (tE Z W G (.comp2 own own2 t g it fs g2 it2 fs2) q) := by
  unfold chkT at h
  split at h
  · rename_i l tg iter ifs tg2 iter2 ifs2 scope pos
    simp only [Bool.and_eq_true, decide_eq_true_eq] at h
    obtain ⟨⟨⟨⟨⟨⟨⟨⟨⟨⟨⟨⟨⟨⟨⟨h1, h2⟩, h3⟩, h4⟩, h5⟩, h6⟩, h7⟩, h8⟩, k1⟩, k2⟩, k3⟩, k4⟩, k5⟩, k6⟩, k7⟩, h9⟩ := h
    have hB : BlkOk X.N X.env.scope scope (ownOf c.N scope) := by
      rw [hX.N, hX.sc]
      exact blkOk_by h2
    have hv : ∀ i ∈ own2, i ∈ (ownOf c.N scope).map (·.2) := fun i hi => by
      rw [h1]
      rw [List.all_eq_true] at k5
      exact List.contains_iff_mem.mp (k5 i hi)
    have rule := pe_lc2 (pos := pos) hX.calm hX.nd (hi tg iter h3) hB hv (fun s H C cl fp => hg _ _ hX.blk tg h5) (fun s H C cl fp => hf _ _ hX.blk ifs h7 h8) (fun s H C cl fp => hi2 _ _ hX.blk tg2 iter2 k1) (fun s H C cl fp => hg2 _ _ hX.blk tg2 k3)
      (fun s H C cl fp => hf2 _ _ hX.blk ifs2 k6 k7) (fun s H C cl fp => ht _ _ hX.blk l h9) (folded h4) (fun env => folded k2)
    rw [h1] at rule
    exact PE.weak rule fun σ H Q hE => comp2_rd hq h6 k4 hE
  · cases h
theorem ite_test {k x y : T} (hk : ∀ e, chkT c k e = true → PT X e (tB Z W G k)) (hx : ∀ e, chkT c x e = true → PT X e (tB Z W G x)) (hy : ∀ e, chkT c y e = true → PT X e (tB Z W G y)) (h : chkT c (.ite k x y) e = true) : PT X e (tB Z W G (.ite k x y)) := by
  unfold chkT at h
  split at h
  · simp only [Bool.and_eq_true] at h
    refine ⟨fun pins s σ H Q I hE => ?_⟩
    obtain ⟨w, ρ, st, r, S, L, ev, po⟩ := hE
    unfold evT at ev
    have ht := tB.bnd (Q' := fun d H1 => ∃ t, (if d = true then PT X _ t ∧ t σ H1 Q else PT X _ t ∧ t σ H1 Q)) S L ev po fun d st1 w1 H1 l1 S1 L1 ev po => by
      cases d with
      | true => exact ⟨_, hx _ h.1.2, w1, ρ, st1, _, S1, L1, ev, po⟩
      | false => exact ⟨_, hy _ h.2, w1, ρ, st1, _, S1, L1, ev, po⟩
    refine isTrue_IfExp (thn ((hk _ h.1.1).run pins s σ H _ I ht) fun d s1 ⟨H1, I1, t, q1⟩ => ?_)
    cases d with
    | true => exact q1.1.run pins s1 σ H1 Q I1 q1.2
    | false => exact q1.1.run pins s1 σ H1 Q I1 q1.2
  · cases h
theorem chk_loc {t : T} (h : chkT c (.loc t) e = true) : chkT c t e = true ∧ plainE e = true := by
  unfold chkT at h
  rw [Bool.and_eq_true] at h
  exact h
theorem loc_ok {t : T} (hq : q ≠ .t) (ht : ∀ e, chkT c t e = true → PE X e (tE Z W G t .l)) (h : chkT c (.loc t) e = true) : PE X e (tE Z W G (.loc t) q) := by
  refine PE.weak (ht _ (chk_loc h).1) fun σ H Q hE => ?_
  obtain ⟨w, ρ, st, r, S, L, ev, po⟩ := hE.out
  unfold evT at ev
  rw [fin_v hq] at ev
  exact ⟨w, ρ, st, r, S, L, ev, po⟩
/-- the terms whose test is their value's truth -/
def plainT : T → Bool
  | .not _ | .band _ _ | .bor _ _ | .cmp _ _ _ | .chain _ _ _ _ _ | .ite _ _ _ => false
  | _ => true
theorem chk_plain {t : T} (ht : plainT t = true) (h : chkT c t e = true) : plainE e = true := by
  cases t <;> first | (cases ht; done) | skip
  case loc t => exact (chk_loc h).2
  all_goals (unfold chkT at h; split at h <;> first | rfl | cases h)
theorem not_boolop {t : T} (ht : plainT t = true) {o : BoolOp} {es : List Expr} {p : Pos} (h : chkT c t (.BoolOp o es p) = true) : False := by
  have := chk_plain ht h
  cases this
end
/-- a term's rules -/
structure TOk (P : Pg) (Z : En) (m : Nat) (t : T) : Prop where
  val : ∀ (X : Cx) (c : Sx) (W : WX) (q : Md) (e : Expr), CxOk P Z m X c W → q ≠ .t → chkT c t e = true → PE X e (tE Z W (P.cfg (ev P m)) t q)
  tst : ∀ (X : Cx) (c : Sx) (W : WX) (e : Expr), CxOk P Z m X c W → chkT c t e = true → PT X e (tB Z W (P.cfg (ev P m)) t)
  bop : ∀ (X : Cx) (c : Sx) (W : WX) (o : BoolOp) (es : List Expr) (p : Pos), CxOk P Z m X c W → chkT c t (.BoolOp o es p) = true → PW X (.BoolOp o es p) (tB Z W (P.cfg (ev P m)) t)
structure TsOk (P : Pg) (Z : En) (m : Nat) (t : Ts) : Prop where
  all : ∀ (X : Cx) (c : Sx) (W : WX) (es : List Expr), CxOk P Z m X c W → chkTs c t es = true → PA X es (tEs Z W (P.cfg (ev P m)) t)
  fst : ∀ t1, t = .cons t1 .nil → TOk P Z m t1
structure ToOk (P : Pg) (Z : En) (m : Nat) (t : To) : Prop where
  all : ∀ (X : Cx) (c : Sx) (W : WX) (e : Option Expr), CxOk P Z m X c W → chkO c t e = true → L2.PO X e (tO Z W (P.cfg (ev P m)) t)
structure ItOk (P : Pg) (Z : En) (m : Nat) (t : SP.It) : Prop where
  all : ∀ (X : Cx) (c : Sx) (W : WX) (tg e : Expr), CxOk P Z m X c W → chkI c tg t e = true → PI X tg e (tI Z W (P.cfg (ev P m)) t)
structure TgOk (P : Pg) (Z : En) (m : Nat) (t : Tg) : Prop where
  all : ∀ (X : Cx) (c : Sx) (W : WX) (e : Expr), CxOk P Z m X c W → chkG c t e = true → PG X e (tG Z (P.cfg (ev P m)) t)
structure TgsOk (P : Pg) (Z : En) (m : Nat) (t : Tgs) : Prop where
  all : ∀ (X : Cx) (c : Sx) (W : WX) (es : List Expr), CxOk P Z m X c W → chkGs c t es = true → PGs X es (tGs Z (P.cfg (ev P m)) t)
section
variable {P : Pg} {Z : En} {m : Nat}
/-- a plain term: by its value -/
theorem TOk.plain {t : T} (hp : plainT t = true) (q0 : Md) (hq : q0 ≠ .t) (hev : ∀ ρ st, evT (P.cfg (ev P m)) t .t ρ st = fin .t (evT (P.cfg (ev P m)) t q0 ρ st))
    (v : ∀ (X : Cx) (c : Sx) (W : WX) (q : Md) (e : Expr), CxOk P Z m X c W → q ≠ .t → chkT c t e = true → PE X e (tE Z W (P.cfg (ev P m)) t q)) : TOk P Z m t where
  val := v
  tst := fun X c W e hX h => plain_test hX.K (chk_plain hp h) (v X c W q0 e hX hq h) hev
  bop := fun X c W o es p hX h => (not_boolop hp h).elim
theorem vt : Md.v ≠ Md.t := fun h => by cases h
theorem tf_of {ts : Ts} (h : TsOk P Z m ts) (X : Cx) (c : Sx) (W : WX) (hX : CxOk P Z m X c W) (es : List Expr) (hc : chkTs c ts es = true) (hl : es.length ≤ 1) : PTs X es (tF Z W (P.cfg (ev P m)) ts) :=
  tf_ok (fun t1 ht e hc => (h.fst t1 ht).tst X c W e hX hc) hc hl
mutual
theorem T_all : ∀ t : T, TOk P Z m t
  | .con d => .plain rfl .v vt (fun ρ st => by rw [evT, evT]; rfl) fun X c W q e hX hq h => con_ok hq h
  | .var i => .plain rfl .v vt (fun ρ st => by rw [evT, evT]; rfl) fun X c W q e hX hq h => var_ok hX hq h
  | .glo x => .plain rfl .v vt (fun ρ st => by rw [evT, evT]; rfl) fun X c W q e hX hq h => glo_ok hX hq h
  | .bin o a b => .plain rfl .v vt (fun ρ st => by rw [evT, evT]; rfl) fun X c W q e hX hq h => bin_ok hX hq (fun e => (T_all a).val X c W .v e hX vt) (fun e => (T_all b).val X c W .v e hX vt) h
  | .neg a => .plain rfl .v vt (fun ρ st => by rw [evT, evT]; rfl) fun X c W q e hX hq h => neg_ok hq (fun e => (T_all a).val X c W .v e hX vt) h
  | .not a => ⟨fun X c W q e hX hq h => not_ok hX.K hq (fun e => (T_all a).val X c W .v e hX vt) h, fun X c W e hX h => not_test (fun e => (T_all a).tst X c W e hX) h, fun X c W o es p hX h => (by cases h)⟩
  | .band a b => ⟨fun X c W q e hX hq h => band_ok hX.K hq (fun e => (T_all a).val X c W q e hX hq) (fun e => (T_all b).val X c W q e hX hq) h,
      fun X c W e hX h => (by
        cases e with
        | BoolOp o es p => exact (band_test (fun e => (T_all a).tst X c W e hX) (fun e => (T_all b).tst X c W e hX) (fun o es p => (T_all b).bop X c W o es p hX) h).pt
        | _ => cases h),
      fun X c W o es p hX h => band_test (fun e => (T_all a).tst X c W e hX) (fun e => (T_all b).tst X c W e hX) (fun o es p => (T_all b).bop X c W o es p hX) h⟩
  | .bor a b => ⟨fun X c W q e hX hq h => bor_ok hX.K hq (fun e => (T_all a).val X c W q e hX hq) (fun e => (T_all b).val X c W q e hX hq) h,
      fun X c W e hX h => (by
        cases e with
        | BoolOp o es p => exact (bor_test (fun e => (T_all a).tst X c W e hX) (fun e => (T_all b).tst X c W e hX) (fun o es p => (T_all b).bop X c W o es p hX) h).pt
        | _ => cases h),
      fun X c W o es p hX h => bor_test (fun e => (T_all a).tst X c W e hX) (fun e => (T_all b).tst X c W e hX) (fun o es p => (T_all b).bop X c W o es p hX) h⟩
  | .cmp o a b => ⟨fun X c W q e hX hq h => cmp_ok hX hq (fun e => (T_all a).val X c W .v e hX vt) (fun e => (T_all b).val X c W .v e hX vt) h, fun X c W e hX h => cmp_test hX (fun e => (T_all a).val X c W .v e hX vt) (fun e => (T_all b).val X c W .v e hX vt) h, fun X c W o es p hX h => (by cases h)⟩
  | .chain o p a b d => ⟨fun X c W q e hX hq h => chain_ok hX hq (fun e => (T_all a).val X c W .v e hX vt) (fun e => (T_all b).val X c W .v e hX vt) (fun e => (T_all d).val X c W .v e hX vt) h,
      fun X c W e hX h => chain_test hX (fun e => (T_all a).val X c W .v e hX vt) (fun e => (T_all b).val X c W .v e hX vt) (fun e => (T_all d).val X c W .v e hX vt) h, fun X c W o es p hX h => (by cases h)⟩
  | .ite k a b => ⟨fun X c W q e hX hq h => ite_ok (fun e => (T_all k).tst X c W e hX) (fun e => (T_all a).val X c W q e hX hq) (fun e => (T_all b).val X c W q e hX hq) h, fun X c W e hX h => ite_test (fun e => (T_all k).tst X c W e hX) (fun e => (T_all a).tst X c W e hX) (fun e => (T_all b).tst X c W e hX) h, fun X c W o es p hX h => (by cases h)⟩
  | .tup ts => .plain rfl .v vt (fun ρ st => by rw [evT, evT]; rfl) fun X c W q e hX hq h => tup_ok hq (fun es => (Ts_all ts).all X c W es hX) h
  | .lst ts => .plain rfl .v vt (fun ρ st => by rw [evT, evT]; rfl) fun X c W q e hX hq h => lst_ok hq (fun es => (Ts_all ts).all X c W es hX) h
  | .dict0 => .plain rfl .v vt (fun ρ st => by rw [evT, evT]; rfl) fun X c W q e hX hq h => dict0_ok hq h
  | .ix a i => .plain rfl .v vt (fun ρ st => by rw [evT, evT]; rfl) fun X c W q e hX hq h => ix_ok hX hq (fun e => (T_all a).val X c W .v e hX vt) (fun e => (T_all i).val X c W .v e hX vt) h
  | .slc a lo hi => .plain rfl .v vt (fun ρ st => by rw [evT, evT]; rfl) fun X c W q e hX hq h => slc_ok hX hq (fun e => (T_all a).val X c W .v e hX vt) (fun e => (To_all lo).all X c W e hX) (fun e => (To_all hi).all X c W e hX) h
  | .rev a => .plain rfl .v vt (fun ρ st => by rw [evT, evT]; rfl) fun X c W q e hX hq h => rev_ok hX.K hq (fun e => (T_all a).val X c W .v e hX vt) h
  | .fld a f => .plain rfl .v vt (fun ρ st => by rw [evT, evT]; rfl) fun X c W q e hX hq h => fld_ok hX hq (fun e => (T_all a).val X c W .v e hX vt) h
  | .call f ts => .plain rfl .v vt (fun ρ st => by rw [evT, evT]; rfl) fun X c W q e hX hq h => call_ok hX hq (fun es => (Ts_all ts).all X c W es hX) h
  | .bi f ts => .plain rfl .v vt (fun ρ st => by rw [evT, evT]; rfl) fun X c W q e hX hq h => bi_ok hX hq (fun es => (Ts_all ts).all X c W es hX) h
  | .isin a f => .plain rfl .v vt (fun ρ st => by rw [evT, evT]; rfl) fun X c W q e hX hq h => isin_ok hX hq (fun e => (T_all a).val X c W .v e hX vt) h
  | .meth a f ts => .plain rfl .v vt (fun ρ st => by rw [evT, evT]; rfl) fun X c W q e hX hq h => meth_ok hX hq (fun e => (T_all a).val X c W .v e hX vt) (fun es => (Ts_all ts).all X c W es hX) h
  | .comp own t g it fs => .plain rfl .v vt (fun ρ st => by rw [evT, evT]; rfl) fun X c W q e hX hq h => comp_ok hX hq (fun tg e => (It_all it).all X c W tg e hX) (fun X' c' hX' e => (Tg_all g).all X' c' WN e hX') (fun X' c' hX' es hc hl => tf_of (Ts_all fs) X' c' WN hX' es hc hl) (fun X' c' hX' e => (T_all t).val X' c' WN .v e hX' vt) h
  | .comp2 own own2 t g it fs g2 it2 fs2 => .plain rfl .v vt (fun ρ st => by rw [evT, evT]; rfl) fun X c W q e hX hq h => comp2_ok hX hq (fun tg e => (It_all it).all X c W tg e hX) (fun X' c' hX' e => (Tg_all g).all X' c' WN e hX') (fun X' c' hX' es hc hl => tf_of (Ts_all fs) X' c' WN hX' es hc hl)
      (fun X' c' hX' tg e => (It_all it2).all X' c' WN tg e hX') (fun X' c' hX' e => (Tg_all g2).all X' c' WN e hX') (fun X' c' hX' es hc hl => tf_of (Ts_all fs2) X' c' WN hX' es hc hl) (fun X' c' hX' e => (T_all t).val X' c' WN .v e hX' vt) h
  | .loc t => .plain rfl .v vt (fun ρ st => by rw [evT, evT]; rfl) fun X c W q e hX hq h => loc_ok hq (fun e => (T_all t).val X c W .l e hX (fun h => by cases h)) h
theorem Ts_all : ∀ t : Ts, TsOk P Z m t
  | .nil => ⟨fun X c W es hX h => ts_nil h, fun t1 h => by cases h⟩
  | .cons t r => ⟨fun X c W es hX h => ts_cons (fun e => (T_all t).val X c W .v e hX vt) (fun es => (Ts_all r).all X c W es hX) h, fun t1 h => by injection h with h1 h2; rw [← h1]; exact T_all t⟩
theorem To_all : ∀ t : To, ToOk P Z m t
  | .none => ⟨fun X c W e hX h => to_none h⟩
  | .some t => ⟨fun X c W e hX h => to_some (fun e => (T_all t).val X c W .v e hX vt) h⟩
theorem It_all : ∀ t : SP.It, ItOk P Z m t
  | .seq t => ⟨fun X c W tg e hX h => seq_ok hX (fun e => (T_all t).val X c W .v e hX vt) h⟩
  | .rng1 t => ⟨fun X c W tg e hX h => rng1_ok hX (fun e => (T_all t).val X c W .v e hX vt) h⟩
  | .rng2 t u => ⟨fun X c W tg e hX h => rng2_ok hX (fun e => (T_all t).val X c W .v e hX vt) (fun e => (T_all u).val X c W .v e hX vt) h⟩
  | .enu t => ⟨fun X c W tg e hX h => enu_ok hX (fun e => (T_all t).val X c W .v e hX vt) h⟩
theorem Tg_all : ∀ t : Tg, TgOk P Z m t
  | .nm i => ⟨fun X c W e hX h => nm_ok hX h⟩
  | .tp gs => ⟨fun X c W e hX h => tp_ok hX (fun es => (Tgs_all gs).all X c W es hX) h⟩
  | .ix a i => ⟨fun X c W e hX h => ixG_ok hX (fun e => (T_all a).val X c W .v e hX vt) (fun e => (T_all i).val X c W .v e hX vt) h⟩
theorem Tgs_all : ∀ t : Tgs, TgsOk P Z m t
  | .nil => ⟨fun X c W es hX h => gs_nil h⟩
  | .cons g r => ⟨fun X c W es hX h => gs_cons (fun e => (Tg_all g).all X c W e hX) (fun es => (Tgs_all r).all X c W es hX) h⟩
end
end
end SP

end

section
set_option maxHeartbeats 2000000
namespace SP
open PySem PySem.Spec PyProof.Rows L2
def notComp : Expr → Bool
  | .ListComp _ _ _ _ | .SetComp _ _ _ _ | .DictComp _ _ _ _ _ => false
  | _ => true
def tgNm : Expr → Bool
  | .Name _ _ => true
  | _ => false
/-- the pair that is stored from the right -/
def parN (sc : Scope) (ts : List Expr) : List Str := ts.filterMap fun
  | .Name id pos => if sc.names.lookup id == some .local && pos.line == (ts.head?.map (·.pos.line)).getD 0 then some id else none
  | _ => none
def isStarE : Expr → Bool
  | .Starred _ _ => true
  | _ => false
/-- what swappedStores answers, the block's kind a function's -/
def parE (sc : Scope) (ts vs : List Expr) : Option (Option (List Str)) :=
  if !(ts.length == 2 || ts.length == 3) || vs.length != ts.length then some none
  else if vs.any isStarE then some none
  else if (parN sc ts).length != ts.length || (parN sc ts).eraseDups.length != (parN sc ts).length then some none
  else if vs.all (foldedForSure 8) then some none
  else if vs.all (constantsAlone 8) then none
  else some (some (parN sc ts))
def parB (sc : Scope) (tg e : Expr) : Option (Option (List Str)) := match tg, e with
  | .Tuple ts _ _, .Tuple vs _ _ => parE sc ts vs
  | .List _ _, .Tuple _ _ _ => none
  | _, _ => some none
/-- name = [..] whose list is stored by the comprehension -/
def swB (sc : Scope) (tg e : Expr) : Bool := match tg, e with
  | .Name t pos, .ListComp _ _ s p => sc.names.lookup t == some .local && pos.line == p.line && !(s.names.any fun (n, k) => n == t && (k == .local || k == .cell))
  | _, _ => false
def isLc : Expr → Bool
  | .ListComp _ _ _ _ => true
  | _ => false
/-- a plain store: nothing is swapped -/
def plB (sc : Scope) (tg e : Expr) : Bool := (notComp e || (isLc e && !swB sc tg e)) && decide (parB sc tg e = some none) && notStar tg
def idx (N : List Str) (i : Nat) (x : Str) : Bool := decide (N[i]? = some x)
mutual
def chkS (c : Sx) : S → Stmt → Bool
  | .ex t, s => match s with
    | .Expr e _ => chkT c t e && notComp e
    | _ => false
  | .asg g t, s => match s with
    | .Assign [tg] e _ => chkT c t e && chkG c g tg && (plB c.sc tg e || (isLc e && swB c.sc tg e))
    | _ => false
  | .fset a f t, s => match s with
    | .Assign [.Attribute l x _] e _ => chkT c t e && chkT c a l && decide (x = S! f)
    | _ => false
  | .par is ts, s => match s with
    | .Assign [.Tuple ks p1 p2] (.Tuple es p3 p4) _ => chkTs c ts es && (match is, ks with
      | [i, j], [.Name x _, .Name y _] => idx c.N i x && idx c.N j y && decide (i ≠ j) && decide (parE c.sc ks es = some (some [x, y]))
      | [i, j, l], [.Name x _, .Name y _, .Name z _] => idx c.N i x && idx c.N j y && idx c.N l z && decide (i ≠ j) && decide (i ≠ l) && decide (j ≠ l) && decide (parE c.sc ks es = some (some [x, y, z]))
      | _, _ => false)
    | _ => false
  | .aug i o t, s => match s with
    | .AugAssign (.Name x _) op e _ => stB c i x && chkT c t e && opB o op && (decide (o = .add) || decide (o = .sub))
    | _ => false
  | .ret t, s => match s with
    | .Return (some e) _ => chkT c t e
    | _ => false
  | .retN, s => match s with
    | .Return none _ => true
    | _ => false
  | .ite k a b, s => match s with
    | .If e x y _ => chkT c k e && chkSs c a x && chkSs c b y
    | _ => false
  | .for_ g it b, s => match s with
    | .For tg e x [] _ => chkI c tg it e && notSet e && chkG c g tg && chkSs c b x
    | _ => false
  | .whl k b, s => match s with
    | .While e x [] _ => chkT c k e && chkSs c b x
    | _ => false
  | .raise _ _, _ => false
  | .try_ _ _, _ => false
  | .brk, s => match s with
    | .Break _ => true
    | _ => false
  | .cont, s => match s with
    | .Continue _ => true
    | _ => false
  | .pass, s => match s with
    | .Pass _ => true
    | .Expr (.Constant (.str _) _ _) _ => true
    | _ => false
  | .stuck, _ => true
def chkSs (c : Sx) : Ss → List Stmt → Bool
  | .nil, ss => ss.isEmpty
  | .cons s r, ss => match ss with
    | x :: xs => chkS c s x && chkSs c r xs
    | [] => false
end
section
variable (Z : En)
/-- what is wanted behind a statement's end -/
def SO (W : WX) (D : Ends) (w : Wd) : Fl × SP.Env × Store → Prop
  | (.next, ρ1, st1) => ∀ w1 H1 σ1, Le w w1 → Sat Z w1 st1 H1 → Slots Z w1 ρ1 σ1 → D.nx σ1 H1
  | (.brk, ρ1, st1) => ∀ w1 H1 σ1, Le w w1 → Sat Z w1 st1 H1 → Slots Z w1 ρ1 σ1 → D.bk σ1 H1
  | (.cont, ρ1, st1) => ∀ w1 H1 σ1, Le w w1 → Sat Z w1 st1 H1 → Slots Z w1 ρ1 σ1 → D.ct σ1 H1
  | (.ret v, _, st1) => ∀ w1 H1 u, Le w w1 → Sat Z w1 st1 H1 → RepV Z w1 v u → D.rt u H1
  | (.err e, ρ1, st1) => ∀ w1 H1 σ1 cls d, Le w w1 → Sat Z w1 st1 H1 → Slots Z w1 ρ1 σ1 → RepX Z w1 H1 e cls d → W cls d σ1 H1
def tS (W : WX) (G : Cfg) (xf : String → List String) (s : S) : TS := fun D σ H => ∃ (w : Wd) (ρ : SP.Env) (st : Store) (r : Fl × SP.Env × Store), Sat Z w st H ∧ Slots Z w ρ σ ∧ evS G xf s ρ st = some r ∧ SO Z W D w r
def tSs (W : WX) (G : Cfg) (xf : String → List String) (s : Ss) : TS := fun D σ H => ∃ (w : Wd) (ρ : SP.Env) (st : Store) (r : Fl × SP.Env × Store), Sat Z w st H ∧ Slots Z w ρ σ ∧ evSs G xf s ρ st = some r ∧ SO Z W D w r
end
/-- a body's context -/
structure BxOk (P : Pg) (Z : En) (m : Nat) (X : Cx) (c : Sx) (W : WX) : Prop extends CxOk P Z m X c W where
  kind : X.env.scope.kind = .function
  pown : PassesOwn (model X.prog X.w) X.A X.env X.xe
section
variable {P : Pg} {Z : En} {m : Nat} {X : Cx} {c : Sx} {W : WX} {G : Cfg} {xf : String → List String} {D : Ends}
theorem PS.weak {s : Stmt} {t t' : TS} (h : PS X s t) (k : ∀ D σ H, σ.length = X.N.length → t' D σ H → t D σ H) : PS X s t' := ⟨fun pins s σ H D I x => h.run pins s σ H D I (k D σ H I.len x)⟩
theorem PSs.weak {s : List Stmt} {t t' : TS} (h : PSs X s t) (k : ∀ D σ H, σ.length = X.N.length → t' D σ H → t D σ H) : PSs X s t' := ⟨fun pins s σ H D I x => h.run pins s σ H D I (k D σ H I.len x)⟩
theorem SO.mono {w w' : Wd} {r : Fl × SP.Env × Store} (h : SO Z W D w r) (l : Le w w') : SO Z W D w' r := by
  obtain ⟨f, ρ, st⟩ := r
  cases f with
  | next => exact fun w1 H1 σ1 l1 => h w1 H1 σ1 (l.trans l1)
  | brk => exact fun w1 H1 σ1 l1 => h w1 H1 σ1 (l.trans l1)
  | cont => exact fun w1 H1 σ1 l1 => h w1 H1 σ1 (l.trans l1)
  | ret v => exact fun w1 H1 σ1 l1 => h w1 H1 σ1 (l.trans l1)
  | err e => exact fun w1 H1 σ1 cls d l1 => h w1 H1 σ1 cls d (l.trans l1)
theorem SO.step {α β : Type} {R : Wd → α → β → Prop} {Q : β → Hp → Prop} {w : Wd} {ρ : SP.Env} {σ : L2.St} {ma : Rs α} {k : α → Store → RS} {r : Fl × SP.Env × Store} (L : Slots Z w ρ σ) (h : bndS ma ρ k = some r) (so : SO Z W D w r)
    (cont : ∀ x st1 w1 H1 v, Le w w1 → Sat Z w1 st1 H1 → Slots Z w1 ρ σ → R w1 x v → k x st1 = some r → SO Z W D w1 r → Q v H1) : ∃ r', ma = some r' ∧ PO Z (atS W σ) R w Q r' := by
  unfold bndS at h
  split at h
  · exact ⟨_, rfl, fun w1 H1 v l S rv => cont _ _ w1 H1 v l S (L.mono l) rv h (so.mono l)⟩
  · cases h
    exact ⟨_, rfl, fun w1 H1 cls d l S rx => so w1 H1 σ cls d l S (L.mono l) rx⟩
  · cases h
theorem tE.bndS {a : T} {q : Md} {w : Wd} {ρ : SP.Env} {st : Store} {σ : L2.St} {H : Hp} {Q : VK} {k : Vl → Store → RS} {r : Fl × SP.Env × Store} (S : Sat Z w st H) (L : Slots Z w ρ σ) (h : SP.bndS (evT G a q ρ st) ρ k = some r) (so : SO Z W D w r)
    (cont : ∀ x st1 w1 H1 v, Le w w1 → Sat Z w1 st1 H1 → Slots Z w1 ρ σ → RepV Z w1 x v → k x st1 = some r → SO Z W D w1 r → Q v H1) : tE Z W G a q σ H Q :=
  let ⟨r', e, p⟩ := SO.step L h so cont
  ⟨w, ρ, st, r', S, L, e, p⟩
theorem tB.bndS {a : T} {w : Wd} {ρ : SP.Env} {st : Store} {σ : L2.St} {H : Hp} {Q : Bool → Hp → Prop} {k : Vl → Store → RS} {r : Fl × SP.Env × Store} (S : Sat Z w st H) (L : Slots Z w ρ σ) (h : SP.bndS (evT G a .t ρ st) ρ k = some r) (so : SO Z W D w r)
    (cont : ∀ b st1 w1 H1, Le w w1 → Sat Z w1 st1 H1 → Slots Z w1 ρ σ → k (.d (.bl b)) st1 = some r → SO Z W D w1 r → Q b H1) : tB Z W G a σ H Q :=
  let ⟨r', e, p⟩ := SO.step (R := isB) (Q := Q) L h so fun x st1 w1 H1 v l S L rv hk so => by
    cases rv
    exact cont v st1 w1 H1 l S L hk so
  ⟨w, ρ, st, r', S, L, e, p⟩
theorem tEs.bndS {a : Ts} {w : Wd} {ρ : SP.Env} {st : Store} {σ : L2.St} {H : Hp} {Q : List V → Hp → Prop} {k : List Vl → Store → RS} {r : Fl × SP.Env × Store} (S : Sat Z w st H) (L : Slots Z w ρ σ) (h : SP.bndS (evTs G a ρ st) ρ k = some r) (so : SO Z W D w r)
    (cont : ∀ x st1 w1 H1 v, Le w w1 → Sat Z w1 st1 H1 → Slots Z w1 ρ σ → RepVs Z w1 x v → k x st1 = some r → SO Z W D w1 r → Q v H1) : tEs Z W G a σ H Q :=
  let ⟨r', e, p⟩ := SO.step L h so cont
  ⟨w, ρ, st, r', S, L, e, p⟩
theorem tI.bndS {a : SP.It} {w : Wd} {ρ : SP.Env} {st : Store} {σ : L2.St} {H : Hp} {Q : L2.It → Hp → Prop} {k : SP.Its → Store → RS} {r : Fl × SP.Env × Store} (S : Sat Z w st H) (L : Slots Z w ρ σ) (h : SP.bndS (evI G a ρ st) ρ k = some r) (so : SO Z W D w r)
    (cont : ∀ x st1 w1 H1 v, Le w w1 → Sat Z w1 st1 H1 → Slots Z w1 ρ σ → WalkI Z w1 x v → k x st1 = some r → SO Z W D w1 r → Q v H1) : tI Z W G a σ H Q :=
  let ⟨r', e, p⟩ := SO.step L h so cont
  ⟨w, ρ, st, r', S, L, e, p⟩
theorem sw_false {env : PySem.Env} {sc : Scope} (hs : env.scope = sc) {tg e : Expr} {n : Nat} (h : notComp e = true ∨ (isLc e = true ∧ swB sc tg e = false)) : swapsWith e (some tg) n env = pure false := by
  rcases h with h | ⟨h1, h2⟩
  · unfold swapsWith
    cases e <;> first | rfl | cases h
  · cases e <;> first | (cases h1; done) | skip
    rename_i elt gens s p
    cases tg <;> first | rfl | skip
    rename_i t pos
    have h2 : (sc.names.lookup t == some .local && pos.line == p.line && !(s.names.any fun (n, k) => n == t && (k == .local || k == .cell))) = false := h2
    show (pure (env.blockKind == .function && env.kindOf t == some .local && pos.line == (Expr.ListComp elt gens s p).pos.line && !(s.names.any fun (n, k) => n == t && (k == .local || k == .cell))) : Sem Bool) = pure false
    have e1 : env.kindOf t = sc.names.lookup t := by rw [← hs]; rfl
    have e2 : (Expr.ListComp elt gens s p).pos.line = p.line := rfl
    rw [e1, e2]
    rw [Bool.and_assoc, Bool.and_assoc, ← Bool.and_assoc (sc.names.lookup t == some .local), h2, Bool.and_false]
theorem blk_fn {env : PySem.Env} (h : env.scope.kind = .function) : env.blockKind = .function := by
  unfold Env.blockKind
  rw [h]
  rfl
theorem sw_true {env : PySem.Env} (hk : env.scope.kind = .function) {sc : Scope} (hs : env.scope = sc) {t : Str} {pos : Pos} {elt : Expr} {gens : List Comprehension} {s : Scope} {p : Pos} {n : Nat} (h : swB sc (.Name t pos) (.ListComp elt gens s p) = true) :
    swapsWith (.ListComp elt gens s p) (some (.Name t pos)) n env = pure true := by
  have h : (sc.names.lookup t == some .local && pos.line == p.line && !(s.names.any fun (n, k) => n == t && (k == .local || k == .cell))) = true := h
  show (pure (env.blockKind == .function && env.kindOf t == some .local && pos.line == (Expr.ListComp elt gens s p).pos.line && !(s.names.any fun (n, k) => n == t && (k == .local || k == .cell))) : Sem Bool) = pure true
  have e1 : env.kindOf t = sc.names.lookup t := by rw [← hs]; rfl
  have e2 : (Expr.ListComp elt gens s p).pos.line = p.line := rfl
  rw [e1, e2, blk_fn hk, Bool.and_assoc, Bool.and_assoc, ← Bool.and_assoc (sc.names.lookup t == some .local), h]
  rfl
theorem par_eq {env : PySem.Env} (hk : env.scope.kind = .function) {sc : Scope} (hs : env.scope = sc) {tg e : Expr} {o : Option (List Str)} (h : parB sc tg e = some o) : swappedStores [tg] e env = pure o := by
  subst hs
  unfold parB at h
  split at h
  · rename_i ts p1 p2 vs p3 p4
    unfold parE at h
    unfold swappedStores
    dsimp only
    have hb := blk_fn hk
    by_cases c1 : (!(ts.length == 2 || ts.length == 3) || vs.length != ts.length) = true
    · rw [if_pos c1] at h
      cases h
      rw [if_pos (by rw [c1]; rfl)]
    · rw [if_neg c1] at h
      rw [if_neg (by rw [Bool.eq_false_iff.mpr c1, hb]; decide)]
      by_cases c2 : (vs.any isStarE) = true
      · rw [if_pos c2] at h
        cases h
        exact if_pos c2
      · rw [if_neg c2] at h
        refine (if_neg c2).trans ?_
        by_cases c3 : ((parN env.scope ts).length != ts.length || (parN env.scope ts).eraseDups.length != (parN env.scope ts).length) = true
        · rw [if_pos c3] at h
          cases h
          exact if_pos c3
        · rw [if_neg c3] at h
          refine (if_neg c3).trans ?_
          by_cases c4 : (vs.all (foldedForSure 8)) = true
          · rw [if_pos c4] at h
            cases h
            exact if_pos c4
          · rw [if_neg c4] at h
            refine (if_neg c4).trans ?_
            by_cases c5 : (vs.all (constantsAlone 8)) = true
            · rw [if_pos c5] at h
              cases h
            · rw [if_neg c5] at h
              cases h
              exact (if_neg c5)
  · cases h
  · rename_i h1 h2
    cases h
    unfold swappedStores
    split
    · rename_i ts vs heq
      exfalso
      split at heq
      · rename_i h3 h4
        injection h4 with h4 h5
        exact h1 _ _ _ _ _ _ h4 rfl
      · rename_i h3 h4
        injection h4 with h4 h5
        exact h2 _ _ _ _ _ h4 rfl
      · cases heq
    · rfl

noncomputable abbrev Gm (P : Pg) (m : Nat) : Cfg := P.cfg (ev P m)
theorem vt' : Md.v ≠ Md.t := fun h => by cases h
theorem ex_ok (hX : BxOk P Z m X c W) {t : T} {s : Stmt} (h : chkS c (.ex t) s = true) : PS X s (tS Z W (Gm P m) xf (.ex t)) := by
  unfold chkS at h
  split at h
  · rename_i e pos
    rw [Bool.and_eq_true] at h
    have hs : swapsWith e none pos.line X.env = pure false := by
      have h2 := h.2
      unfold swapsWith
      cases e <;> first | rfl | cases h2
    refine PS.weak (ps_expr ((T_all t).val X c W .v e hX.toCxOk vt' h.1) hs) fun D σ H _ hS => ?_
    obtain ⟨w, ρ, st, r, S, L, ev, so⟩ := hS
    unfold evS at ev
    refine tE.bndS S L ev so fun v1 st1 w1 H1 u l1 S1 L1 r1 ev so => ?_
    cases ev
    exact so w1 H1 σ (Le.refl _) S1 L1
  · cases h
theorem set_lc (hX : BxOk P Z m X c W) {y : Str} {py : Pos} {i : Nat} {e : Expr} {pos : Pos} (k1 : X.N[i]? = some y) (hyl : X.env.scope.names.lookup y = some .local) (hT : swapsWith e (some (.Name y py)) pos.line X.env = pure true) (h3 : isLc e = true) :
    ∀ (t : T) (q : Md), q ≠ .t → chkT c t e = true → PS X (.Assign [.Name y py] e pos) (tAsg (tE Z W (Gm P m) t q) (gName i))
  | .comp own t2 g2 it fs, q, hq, h1 => by
    unfold chkT at h1
    split at h1
    · rename_i l tg iter ifs scope p
      simp only [Bool.and_eq_true, decide_eq_true_eq] at h1
      obtain ⟨⟨⟨⟨⟨⟨⟨⟨h1, h2'⟩, h3'⟩, h4'⟩, h5'⟩, h6⟩, h7⟩, h8⟩, h9⟩ := h1
      have hB : BlkOk X.N X.env.scope scope (ownOf c.N scope) := by
        rw [hX.N, hX.sc]
        exact blkOk_by h2'
      have rule := ps_setLc (spos := pos) hX.calm hX.nd k1 hyl hT ((It_all it).all X c W tg iter hX.toCxOk h3') hB (fun s H C cl fp => (Tg_all g2).all _ _ WN tg hX.toCxOk.blk h5') (fun s H C cl fp => tf_of (Ts_all fs) _ _ WN hX.toCxOk.blk ifs h7 h8)
        (fun s H C cl fp => (T_all t2).val _ _ WN .v l hX.toCxOk.blk vt' h9) (folded h4')
      rw [h1] at rule
      exact PS.weak rule fun D σ H hl hS => comp_rd hq h6 hS
    · cases h1
  | .comp2 own own2 t2 g2 it fs g3 it2 fs2, q, hq, h1 => by
    unfold chkT at h1
    split at h1
    · rename_i l tg iter ifs tg2 iter2 ifs2 scope p
      simp only [Bool.and_eq_true, decide_eq_true_eq] at h1
      obtain ⟨⟨⟨⟨⟨⟨⟨⟨⟨⟨⟨⟨⟨⟨⟨h1, h2'⟩, h3'⟩, h4'⟩, h5'⟩, h6⟩, h7⟩, h8⟩, q1⟩, q2⟩, q3⟩, q4⟩, q5⟩, q6⟩, q7⟩, h9⟩ := h1
      have hB : BlkOk X.N X.env.scope scope (ownOf c.N scope) := by
        rw [hX.N, hX.sc]
        exact blkOk_by h2'
      have hv : ∀ i ∈ own2, i ∈ (ownOf c.N scope).map (·.2) := fun i hi => by
        rw [h1]
        rw [List.all_eq_true] at q5
        exact List.contains_iff_mem.mp (q5 i hi)
      have rule := ps_setLc2 (spos := pos) hX.calm hX.nd k1 hyl hT ((It_all it).all X c W tg iter hX.toCxOk h3') hB hv (fun s H C cl fp => (Tg_all g2).all _ _ WN tg hX.toCxOk.blk h5') (fun s H C cl fp => tf_of (Ts_all fs) _ _ WN hX.toCxOk.blk ifs h7 h8)
        (fun s H C cl fp => (It_all it2).all _ _ WN tg2 iter2 hX.toCxOk.blk q1) (fun s H C cl fp => (Tg_all g3).all _ _ WN tg2 hX.toCxOk.blk q3) (fun s H C cl fp => tf_of (Ts_all fs2) _ _ WN hX.toCxOk.blk ifs2 q6 q7)
        (fun s H C cl fp => (T_all t2).val _ _ WN .v l hX.toCxOk.blk vt' h9) (folded h4') (fun env => folded q2)
      rw [h1] at rule
      exact PS.weak rule fun D σ H hl hS => comp2_rd hq h6 q4 hS
    · cases h1
  | .loc t, q, hq, h1 => PS.weak (set_lc hX k1 hyl hT h3 t .l (fun h => by cases h) (chk_loc h1).1) fun D σ H _ hS => by
    obtain ⟨w, ρ, st, r, S, L, ev, po⟩ := hS
    unfold evT at ev
    rw [fin_v hq] at ev
    exact ⟨w, ρ, st, r, S, L, ev, po⟩
  | .con _, q, hq, h1 => by unfold chkT at h1; split at h1 <;> first | (cases h3; done) | cases h1
  | .var _, q, hq, h1 => by unfold chkT at h1; split at h1 <;> first | (cases h3; done) | cases h1
  | .glo _, q, hq, h1 => by unfold chkT at h1; split at h1 <;> first | (cases h3; done) | cases h1
  | .bin _ _ _, q, hq, h1 => by unfold chkT at h1; split at h1 <;> first | (cases h3; done) | cases h1
  | .neg _, q, hq, h1 => by unfold chkT at h1; split at h1 <;> first | (cases h3; done) | cases h1
  | .not _, q, hq, h1 => by unfold chkT at h1; split at h1 <;> first | (cases h3; done) | cases h1
  | .band _ _, q, hq, h1 => by unfold chkT at h1; split at h1 <;> first | (cases h3; done) | cases h1
  | .bor _ _, q, hq, h1 => by unfold chkT at h1; split at h1 <;> first | (cases h3; done) | cases h1
  | .cmp _ _ _, q, hq, h1 => by unfold chkT at h1; split at h1 <;> first | (cases h3; done) | cases h1
  | .chain _ _ _ _ _, q, hq, h1 => by unfold chkT at h1; split at h1 <;> first | (cases h3; done) | cases h1
  | .ite _ _ _, q, hq, h1 => by unfold chkT at h1; split at h1 <;> first | (cases h3; done) | cases h1
  | .tup _, q, hq, h1 => by unfold chkT at h1; split at h1 <;> first | (cases h3; done) | cases h1
  | .lst _, q, hq, h1 => by unfold chkT at h1; split at h1 <;> first | (cases h3; done) | cases h1
  | .dict0, q, hq, h1 => by unfold chkT at h1; split at h1 <;> first | (cases h3; done) | cases h1
  | .ix _ _, q, hq, h1 => by unfold chkT at h1; split at h1 <;> first | (cases h3; done) | cases h1
  | .slc _ _ _, q, hq, h1 => by unfold chkT at h1; split at h1 <;> first | (cases h3; done) | cases h1
  | .rev _, q, hq, h1 => by unfold chkT at h1; split at h1 <;> first | (cases h3; done) | cases h1
  | .fld _ _, q, hq, h1 => by unfold chkT at h1; split at h1 <;> first | (cases h3; done) | cases h1
  | .call _ _, q, hq, h1 => by unfold chkT at h1; split at h1 <;> first | (cases h3; done) | cases h1
  | .bi _ _, q, hq, h1 => by unfold chkT at h1; split at h1 <;> first | (cases h3; done) | cases h1
  | .isin _ _, q, hq, h1 => by unfold chkT at h1; split at h1 <;> first | (cases h3; done) | cases h1
  | .meth _ _ _, q, hq, h1 => by unfold chkT at h1; split at h1 <;> first | (cases h3; done) | cases h1
theorem asg_sw (hX : BxOk P Z m X c W) {g : Tg} {t : T} {tg e : Expr} {pos : Pos} (h1 : chkT c t e = true) (h2 : chkG c g tg = true) (h3 : isLc e = true) (h4 : swB c.sc tg e = true) : PS X (.Assign [tg] e pos) (tS Z W (Gm P m) xf (.asg g t)) := by
  unfold swB at h4
  split at h4
  · rename_i y py elt gens scope p
    have hsw : swB c.sc (.Name y py) (.ListComp elt gens scope p) = true := h4
    have hyl : X.env.scope.names.lookup y = some .local := by
      rw [hX.sc]
      simp only [Bool.and_eq_true] at h4
      exact beq_iff_eq.mp h4.1.1
    have hT := sw_true hX.kind hX.sc (n := pos.line) hsw
    obtain ⟨i, rfl⟩ : ∃ i, g = .nm i := by
      cases g with
      | nm i => exact ⟨i, rfl⟩
      | tp gs => unfold chkG at h2; cases h2
      | ix a i => unfold chkG at h2; cases h2
    have hst : stB c i y = true := by
      unfold chkG at h2
      exact h2
    obtain ⟨k1, k2, k3⟩ := stB_ok hX.toCxOk hst
    refine PS.weak (set_lc hX k1 hyl hT h3 t .v vt' h1) fun D σ H hl hS => ?_
    obtain ⟨w, ρ, st, r, S, L, ev, so⟩ := hS
    unfold evS at ev
    refine tE.bndS S L ev so fun v1 st1 w1 H1 u l1 S1 L1 r1 ev so => ?_
    unfold stG at ev
    cases ev
    exact so w1 H1 _ (Le.refl _) S1 (L1.put r1 (by rw [hl]; exact (List.getElem?_eq_some_iff.mp k1).1))
  · cases h4
theorem asg_ok (hX : BxOk P Z m X c W) {g : Tg} {t : T} {s : Stmt} (h : chkS c (.asg g t) s = true) : PS X s (tS Z W (Gm P m) xf (.asg g t)) := by
  unfold chkS at h
  split at h
  · rename_i tg e pos
    simp only [Bool.and_eq_true, Bool.or_eq_true] at h
    obtain ⟨⟨h1, h2⟩, h3⟩ := h
    rcases h3 with h3 | ⟨h3, h4⟩
    · unfold plB at h3
      simp only [Bool.and_eq_true, Bool.or_eq_true, decide_eq_true_eq, Bool.not_eq_true'] at h3
      obtain ⟨⟨k1, k2⟩, k3⟩ := h3
      have hsw : swapsWithSole [tg] e pos.line X.env = pure false := sw_false hX.sc k1
      have hpar := par_eq hX.kind hX.sc k2
      refine PS.weak (ps_asg ((T_all t).val X c W .v e hX.toCxOk vt' h1) ((Tg_all g).all X c W tg hX.toCxOk h2) hsw hpar (by rw [asg_each k3]; rfl)) fun D σ H _ hS => ?_
      obtain ⟨w, ρ, st, r, S, L, ev, so⟩ := hS
      unfold evS at ev
      refine tE.bndS S L ev so fun v1 st1 w1 H1 u l1 S1 L1 r1 ev so => ?_
      cases q0 : stG (Gm P m) g v1 ρ st1 with
      | none => rw [q0] at ev; cases ev
      | some pr =>
        obtain ⟨ρ1, st2⟩ := pr
        rw [q0] at ev
        cases ev
        exact ⟨w1, ρ, st1, v1, ρ1, st2, S1, L1, r1, q0, fun w2 H2 σ1 l2 S2 L2 _ _ => so w2 H2 σ1 l2 S2 L2⟩
    · exact asg_sw hX h1 h2 h3 h4
  · cases h
theorem RepGs.put {w : Wd} {f : String} {x : Vl} {v : V} (rv : RepV Z w x v) : ∀ {fs : List (String × Vl)} {gs : List (Str × V)}, RepGs Z w fs gs → RepGs Z w (SP.putF f x fs) (L2.putF (S! f) v gs)
  | _, _, .nil => .cons rv .nil
  | _, _, .cons (f := g) a r => by
    unfold SP.putF L2.putF
    by_cases h : g = f
    · subst h
      rw [if_pos rfl, if_pos rfl]
      exact .cons rv r
    · rw [if_neg h, if_neg (fun q => h (S_inj q))]
      exact .cons a (RepGs.put rv r)
theorem RepGs.len {w : Wd} : ∀ {fs : List (String × Vl)} {gs : List (Str × V)}, RepGs Z w fs gs → fs.length = gs.length
  | _, _, .nil => rfl
  | _, _, .cons _ r => congrArg Nat.succ r.len
theorem fset_ok (hX : BxOk P Z m X c W) {a : T} {f : String} {t : T} {s : Stmt} (h : chkS c (.fset a f t) s = true) : PS X s (tS Z W (Gm P m) xf (.fset a f t)) := by
  unfold chkS at h
  split at h
  · rename_i l x p e pos
    simp only [Bool.and_eq_true, decide_eq_true_eq] at h
    obtain ⟨⟨h1, h2⟩, h3⟩ := h
    subst h3
    have hs : swapsWith e (some (.Attribute l (S! f) p)) pos.line X.env = pure false := by
      unfold swapsWith
      cases e <;> rfl
    refine PS.weak (ps_fld ((T_all a).val X c W .v l hX.toCxOk vt' h2) ((T_all t).val X c W .v e hX.toCxOk vt' h1) hs) fun D σ H _ hS => ?_
    obtain ⟨w, ρ, st, r, S, L, ev, so⟩ := hS
    unfold evS at ev
    refine tE.bndS S L ev so fun v1 st1 w1 H1 u l1 S1 L1 r1 ev so => ?_
    refine tE.bndS S1 L1 ev so fun v2 st2 w2 H2 u2 l2 S2 L2 r2 ev so => ?_
    split at ev
    · rename_i n
      cases q0 : st2[n]? with
      | none => rw [q0] at ev; cases ev
      | some o =>
        rw [q0] at ev
        cases o with
        | dead => cases ev
        | lst _ => cases ev
        | dct _ => cases ev
        | ins C fs =>
          dsimp only at ev
          split at ev
          · rename_i hc
            simp only [Bool.and_eq_true, decide_eq_true_eq] at hc
            cases ev
            obtain ⟨ad, rfl, ea, dx, gs, hH, h4, rg⟩ := S2.at_ r2 q0
            obtain ⟨k1, k2⟩ := hX.st.no C f hc.2
            rw [hX.K]
            refine ⟨ad, _, dx, gs, rfl, hH, k2, k1, by rw [← rg.len]; omega, ?_⟩
            exact so w2 _ σ (Le.refl _) (S2.put q0 (fun z => by cases z) ea ⟨dx, _, upd_same, h4, rg.put (r1.mono l2)⟩) L2
          · cases ev
    · cases ev
  · cases h
theorem sws_tup {ts : List Expr} {k : Nat} {p : Pos} {e : Expr} {n : Nat} {env : PySem.Env} : swapsWithSole [.Tuple ts k p] e n env = pure false := by
  show swapsWith e (some (.Tuple ts k p)) n env = pure false
  unfold swapsWith
  cases e <;> rfl
theorem parN_all {sc : Scope} {ts : List Expr} {xs : List Str} {vs : List Expr} (h : parE sc ts vs = some (some xs)) : parN sc ts = xs ∧ (parN sc ts).length = ts.length := by
  unfold parE at h
  split at h
  · cases h
  · split at h
    · cases h
    · split at h
      · cases h
      · rename_i c3
        split at h
        · cases h
        · split at h
          · cases h
          · cases h
            refine ⟨rfl, ?_⟩
            simp only [Bool.or_eq_true, bne_iff_ne, ne_eq, not_or, Decidable.not_not] at c3
            exact c3.1
theorem par_ok (hX : BxOk P Z m X c W) {is : List Nat} {ts : Ts} {s : Stmt} (h : chkS c (.par is ts) s = true) : PS X s (tS Z W (Gm P m) xf (.par is ts)) := by
  unfold chkS at h
  split at h
  · rename_i ks p1 p2 es p3 p4 pos
    rw [Bool.and_eq_true] at h
    obtain ⟨h1, h⟩ := h
    have hPA := (Ts_all (P := P) (Z := Z) (m := m) ts).all X c W es hX.toCxOk h1
    have esl : ∀ {xs : List Str}, parE c.sc ks es = some (some xs) → es.length = ks.length ∧ (ks.length = 2 ∨ ks.length = 3) := fun {xs} h => by
      unfold parE at h
      split at h
      · cases h
      · rename_i c1
        simp only [Bool.or_eq_true, Bool.not_eq_true', Bool.or_eq_false_iff, bne_iff_ne, ne_eq, not_or, Decidable.not_not, beq_eq_false_iff_ne] at c1
        refine ⟨c1.2, ?_⟩
        by_cases h2 : ks.length = 2
        · exact .inl h2
        · exact .inr (Decidable.byContradiction fun h3 => c1.1 ⟨h2, h3⟩)
    split at h
    · rename_i i j x px y py
      simp only [Bool.and_eq_true, decide_eq_true_eq] at h
      obtain ⟨⟨⟨k1, k2⟩, k3⟩, k4⟩ := h
      have k1 := of_decide_eq_true k1
      have k2 := of_decide_eq_true k2
      rw [← hX.N] at k1 k2
      obtain ⟨a, b, rfl⟩ : ∃ a b, es = [a, b] := by
        have := (esl k4).1
        match es, this with
        | [a, b], _ => exact ⟨a, b, rfl⟩
      have hw : swappedStores [.Tuple [.Name x px, .Name y py] p1 p2] (.Tuple [a, b] p3 p4) X.env = pure (some [x, y]) := par_eq hX.kind hX.sc k4
      have hn : parN c.sc [.Name x px, .Name y py] = [x, y] := (parN_all k4).1
      have hl2 := (parN_all k4).2
      have loc : X.env.scope.names.lookup x = some .local ∧ X.env.scope.names.lookup y = some .local := by
        rw [hX.sc]
        unfold parN at hl2
        simp only [List.filterMap_cons, List.filterMap_nil] at hl2
        refine ⟨?_, ?_⟩
        · by_cases hx : (c.sc.names.lookup x == some .local) = true
          · exact beq_iff_eq.mp hx
          · exfalso
            rw [Bool.eq_false_iff.mpr hx] at hl2
            simp only [Bool.false_and, Bool.false_eq_true, if_false] at hl2
            split at hl2 <;> simp at hl2
        · by_cases hy : (c.sc.names.lookup y == some .local) = true
          · exact beq_iff_eq.mp hy
          · exfalso
            rw [Bool.eq_false_iff.mpr hy] at hl2
            simp only [Bool.false_and, Bool.false_eq_true, if_false] at hl2
            split at hl2 <;> simp at hl2
      refine PS.weak (ps_par hX.calm hX.nd k1 k2 k3 loc.1 loc.2 hPA hw sws_tup) fun D σ H hl hS => ?_
      obtain ⟨w, ρ, st, r, S, L, ev, so⟩ := hS
      unfold evS at ev
      refine tEs.bndS S L ev so fun v1 st1 w1 H1 u l1 S1 L1 r1 ev so => ?_
      split at ev
      · rename_i hlen
        cases r1 with
        | nil => cases hlen
        | cons ra r1 =>
          cases r1 with
          | nil => cases hlen
          | cons rb r1 =>
            cases r1 with
            | cons _ _ => simp at hlen
            | nil =>
              cases ev
              have i1 : i < σ.length := by rw [hl]; exact (List.getElem?_eq_some_iff.mp k1).1
              have i2 : j < σ.length := by rw [hl]; exact (List.getElem?_eq_some_iff.mp k2).1
              exact ⟨_, _, rfl, so w1 H1 _ (Le.refl _) S1 ((L1.put ra i1).put rb (by rw [List.length_set]; exact i2))⟩
      · cases ev
    · rename_i i j l x px y py z pz
      simp only [Bool.and_eq_true, decide_eq_true_eq] at h
      obtain ⟨⟨⟨⟨⟨⟨k1, k2⟩, k2'⟩, k3⟩, k3'⟩, k3''⟩, k4⟩ := h
      have k1 := of_decide_eq_true k1
      have k2 := of_decide_eq_true k2
      have k2' := of_decide_eq_true k2'
      rw [← hX.N] at k1 k2 k2'
      obtain ⟨a, b, d, rfl⟩ : ∃ a b d, es = [a, b, d] := by
        have := (esl k4).1
        match es, this with
        | [a, b, d], _ => exact ⟨a, b, d, rfl⟩
      have hw : swappedStores [.Tuple [.Name x px, .Name y py, .Name z pz] p1 p2] (.Tuple [a, b, d] p3 p4) X.env = pure (some [x, y, z]) := par_eq hX.kind hX.sc k4
      have hl2 := (parN_all k4).2
      have loc : X.env.scope.names.lookup x = some .local ∧ X.env.scope.names.lookup y = some .local ∧ X.env.scope.names.lookup z = some .local := by
        rw [hX.sc]
        unfold parN at hl2
        simp only [List.filterMap_cons, List.filterMap_nil] at hl2
        refine ⟨?_, ?_, ?_⟩
        · by_cases hx : (c.sc.names.lookup x == some .local) = true
          · exact beq_iff_eq.mp hx
          · exfalso
            rw [Bool.eq_false_iff.mpr hx] at hl2
            simp only [Bool.false_and, Bool.false_eq_true, if_false] at hl2
            repeat' split at hl2
            all_goals simp at hl2
        · by_cases hy : (c.sc.names.lookup y == some .local) = true
          · exact beq_iff_eq.mp hy
          · exfalso
            rw [Bool.eq_false_iff.mpr hy] at hl2
            simp only [Bool.false_and, Bool.false_eq_true, if_false] at hl2
            repeat' split at hl2
            all_goals simp at hl2
        · by_cases hy : (c.sc.names.lookup z == some .local) = true
          · exact beq_iff_eq.mp hy
          · exfalso
            rw [Bool.eq_false_iff.mpr hy] at hl2
            simp only [Bool.false_and, Bool.false_eq_true, if_false] at hl2
            repeat' split at hl2
            all_goals simp at hl2
      refine PS.weak (ps_par3 hX.calm hX.nd k1 k2 k2' k3 k3' k3'' loc.1 loc.2.1 loc.2.2 hPA hw sws_tup) fun D σ H hl hS => ?_
      obtain ⟨w, ρ, st, r, S, L, ev, so⟩ := hS
      unfold evS at ev
      refine tEs.bndS S L ev so fun v1 st1 w1 H1 u l1 S1 L1 r1 ev so => ?_
      split at ev
      · rename_i hlen
        cases r1 with
        | nil => cases hlen
        | cons ra r1 =>
          cases r1 with
          | nil => cases hlen
          | cons rb r1 =>
            cases r1 with
            | nil => cases hlen
            | cons rc r1 =>
              cases r1 with
              | cons _ _ => simp at hlen
              | nil =>
                cases ev
                have i1 : i < σ.length := by rw [hl]; exact (List.getElem?_eq_some_iff.mp k1).1
                have i2 : j < σ.length := by rw [hl]; exact (List.getElem?_eq_some_iff.mp k2).1
                have i3 : l < σ.length := by rw [hl]; exact (List.getElem?_eq_some_iff.mp k2').1
                exact ⟨_, _, _, rfl, so w1 H1 _ (Le.refl _) S1 (((L1.put ra i1).put rb (by rw [List.length_set]; exact i2)).put rc (by rw [List.length_set, List.length_set]; exact i3))⟩
      · cases ev
    · cases h
  · cases h
end
end SP

end

section
set_option maxHeartbeats 2000000
namespace SP
open PySem PySem.Spec PyProof.Rows L2
section
variable {P : Pg} {Z : En} {m : Nat} {X : Cx} {c : Sx} {W : WX} {xf : String → List String} {D : Ends}
theorem aug_ok (hX : BxOk P Z m X c W) {i : Nat} {o : Bop} {t : T} {s : Stmt} (h : chkS c (.aug i o t) s = true) : PS X s (tS Z W (Gm P m) xf (.aug i o t)) := by
  unfold chkS at h
  split at h
  · rename_i x px op e pos
    simp only [Bool.and_eq_true, Bool.or_eq_true, decide_eq_true_eq] at h
    obtain ⟨⟨⟨h1, h2⟩, h3⟩, h4⟩ := h
    have hop : bopO o = op := of_decide_eq_true h3
    subst hop
    obtain ⟨k1, k2, k3⟩ := stB_ok hX.toCxOk h1
    have hp : PIp X (bopO o) (ipI (augI o)) := by
      rcases h4 with rfl | rfl
      · exact ip_add
      · exact ip_sub
    refine PS.weak (ps_aug hX.nd k1 k2 ((T_all t).val X c W .v e hX.toCxOk vt' h2) hp k3) fun D σ H hl hS => ?_
    obtain ⟨w, ρ, st, r, S, L, ev, so⟩ := hS
    unfold evS at ev
    split at ev
    · rename_i a ha
      obtain ⟨u, h4, h5⟩ := L i _ ha
      refine ⟨u, h4, ?_⟩
      refine tE.bndS S L ev so fun v1 st1 w1 H1 u1 l1 S1 L1 r1 ev so => ?_
      split at ev
      · rename_i d
        cases ev
        cases h5
        cases r1
        exact ⟨a, d, rfl, rfl, so w1 H1 _ (Le.refl _) S1 (L1.put (.int _) (by rw [hl]; exact (List.getElem?_eq_some_iff.mp k1).1))⟩
      · cases ev
    · cases ev
  · cases h
theorem ret_ok (hX : BxOk P Z m X c W) {t : T} {s : Stmt} (h : chkS c (.ret t) s = true) : PS X s (tS Z W (Gm P m) xf (.ret t)) := by
  unfold chkS at h
  split at h
  · refine PS.weak (ps_ret ((T_all t).val X c W .v _ hX.toCxOk vt' h)) fun D σ H hl hS => ?_
    obtain ⟨w, ρ, st, r, S, L, ev, so⟩ := hS
    unfold evS at ev
    refine tE.bndS S L ev so fun v1 st1 w1 H1 u1 l1 S1 L1 r1 ev so => ?_
    cases ev
    exact so w1 H1 u1 (Le.refl _) S1 r1
  · cases h
theorem retN_ok {s : Stmt} (h : chkS c .retN s = true) : PS X s (tS Z W (Gm P m) xf .retN) := by
  unfold chkS at h
  split at h
  · refine PS.weak ps_retN fun D σ H hl hS => ?_
    obtain ⟨w, ρ, st, r, S, L, ev, so⟩ := hS
    unfold evS at ev
    cases ev
    exact so w H .non (Le.refl _) S .non
  · cases h
theorem brk_ok {s : Stmt} (h : chkS c .brk s = true) : PS X s (tS Z W (Gm P m) xf .brk) := by
  unfold chkS at h
  split at h
  · refine PS.weak ps_break fun D σ H hl hS => ?_
    obtain ⟨w, ρ, st, r, S, L, ev, so⟩ := hS
    unfold evS at ev
    cases ev
    exact so w H σ (Le.refl _) S L
  · cases h
theorem cont_ok {s : Stmt} (h : chkS c .cont s = true) : PS X s (tS Z W (Gm P m) xf .cont) := by
  unfold chkS at h
  split at h
  · refine PS.weak ps_continue fun D σ H hl hS => ?_
    obtain ⟨w, ρ, st, r, S, L, ev, so⟩ := hS
    unfold evS at ev
    cases ev
    exact so w H σ (Le.refl _) S L
  · cases h
theorem pass_ok {s : Stmt} (h : chkS c .pass s = true) : PS X s (tS Z W (Gm P m) xf .pass) := by
  have fin : ∀ (D : Ends) (σ : L2.St) (H : Hp), σ.length = X.N.length → tS Z W (Gm P m) xf .pass D σ H → tNext D σ H := fun D σ H hl hS => by
    obtain ⟨w, ρ, st, r, S, L, ev, so⟩ := hS
    unfold evS at ev
    cases ev
    exact so w H σ (Le.refl _) S L
  unfold chkS at h
  split at h
  · exact PS.weak ps_pass fin
  · exact PS.weak ps_doc fin
  · cases h
theorem stuck_ok {s : Stmt} : PS X s (tS Z W (Gm P m) xf .stuck) := by
  refine PS.weak ps_never fun D σ H hl hS => ?_
  obtain ⟨w, ρ, st, r, S, L, ev, so⟩ := hS
  unfold evS at ev
  cases ev
theorem iteS_ok (hX : BxOk P Z m X c W) {k : T} {a b : Ss} {s : Stmt} (ha : ∀ ss, chkSs c a ss = true → PSs X ss (tSs Z W (Gm P m) xf a)) (hb : ∀ ss, chkSs c b ss = true → PSs X ss (tSs Z W (Gm P m) xf b)) (h : chkS c (.ite k a b) s = true) : PS X s (tS Z W (Gm P m) xf (.ite k a b)) := by
  unfold chkS at h
  split at h
  · simp only [Bool.and_eq_true] at h
    refine PS.weak (ps_if ((T_all k).tst X c W _ hX.toCxOk h.1.1) (ha _ h.1.2) (hb _ h.2)) fun D σ H hl hS => ?_
    obtain ⟨w, ρ, st, r, S, L, ev, so⟩ := hS
    unfold evS at ev
    refine tB.bndS S L ev so fun d st1 w1 H1 l1 S1 L1 ev so => ?_
    cases d with
    | true => exact ⟨w1, ρ, st1, r, S1, L1, ev, so⟩
    | false => exact ⟨w1, ρ, st1, r, S1, L1, ev, so⟩
  · cases h
/-- a while, its turns counted -/
theorem whl_ok (hX : BxOk P Z m X c W) {k : T} {b : Ss} {s : Stmt} (hb : ∀ ss, chkSs c b ss = true → PSs X ss (tSs Z W (Gm P m) xf b)) (h : chkS c (.whl k b) s = true) : PS X s (tS Z W (Gm P m) xf (.whl k b)) := by
  unfold chkS at h
  split at h
  · simp only [Bool.and_eq_true] at h
    refine PS.weak (ps_while hX.pown ((T_all k).tst X c W _ hX.toCxOk h.1) (hb _ h.2)) fun D σ H hl hS => ?_
    obtain ⟨w, ρ, st, r, S, L, ev, so⟩ := hS
    unfold evS at ev
    obtain ⟨n, hn⟩ := loopM_some ev
    refine ⟨fun n σ H => ∃ w' ρ' st', Le w w' ∧ Sat Z w' st' H ∧ Slots Z w' ρ' σ ∧ loopF _ n ρ' st' = some r, ⟨n, w, ρ, st, Le.refl w, S, L, hn⟩, ?_⟩
    rintro n σ1 H1 ⟨w1, ρ1, st1, l1, S1, L1, e1⟩
    cases n with
    | zero => cases e1
    | succ n =>
      unfold loopF at e1
      have go : ∀ {p : Stp}, stepW (evT (Gm P m) k .t ρ1 st1) ρ1 (fun st2 => evSs (Gm P m) xf b ρ1 st2) = some p → (match p with
          | .again ρ2 st2 => loopF (fun ρ st => stepW (evT (Gm P m) k .t ρ st) ρ fun st1 => evSs (Gm P m) xf b ρ st1) n ρ2 st2
          | .stop f ρ2 st2 => some (f, ρ2, st2)) = some r →
          tB Z W (Gm P m) k σ1 H1 fun bb H2 => if bb = true then ∃ N : L2.St → Hp → Prop, (∀ σ' H', N σ' H' → ∃ m', m' < n + 1 ∧ ∃ w' ρ' st', Le w w' ∧ Sat Z w' st' H' ∧ Slots Z w' ρ' σ' ∧ loopF (fun ρ st => stepW (evT (Gm P m) k .t ρ st) ρ fun st1 => evSs (Gm P m) xf b ρ st1) m' ρ' st' = some r) ∧
            tSs Z W (Gm P m) xf b { D with nx := N, ct := N, bk := D.nx } σ1 H2 else D.nx σ1 H2 := by
        intro p hp hq
        unfold stepW at hp
        have so1 := so.mono l1
        split at hp
        · rename_i x st2 he
          have hx : ∃ d, x = .d (.bl d) := by
            split at hp
            · exact ⟨_, rfl⟩
            · exact ⟨_, rfl⟩
            · cases hp
          obtain ⟨d, rfl⟩ := hx
          refine ⟨w1, ρ1, st1, _, S1, L1, he, fun w2 H2 d2 l2 S2 rd => ?_⟩
          cases rd
          have L2' := L1.mono l2
          cases d with
          | false =>
            rw [if_neg Bool.false_ne_true]
            have hp : some (Stp.stop .next ρ1 st2) = some p := hp
            cases hp
            cases hq
            exact so1 w2 H2 σ1 l2 S2 L2'
          | true =>
            rw [if_pos rfl]
            have hp : turnW (evSs (Gm P m) xf b ρ1 st2) = some p := hp
            refine ⟨fun σ' H' => ∃ w' ρ' st', Le w w' ∧ Sat Z w' st' H' ∧ Slots Z w' ρ' σ' ∧ loopF (fun ρ st => stepW (evT (Gm P m) k .t ρ st) ρ fun st1 => evSs (Gm P m) xf b ρ st1) n ρ' st' = some r, fun σ' H' hN => ⟨n, Nat.lt_succ_self n, hN⟩, ?_⟩
            unfold turnW at hp
            split at hp
            · rename_i ρ3 st3 hb3
              cases hp
              exact ⟨w2, ρ1, st2, _, S2, L2', hb3, fun w4 H4 σ4 l4 S4 L4 => ⟨w4, ρ3, st3, (l1.trans l2).trans l4, S4, L4, hq⟩⟩
            · rename_i ρ3 st3 hb3
              cases hp
              exact ⟨w2, ρ1, st2, _, S2, L2', hb3, fun w4 H4 σ4 l4 S4 L4 => ⟨w4, ρ3, st3, (l1.trans l2).trans l4, S4, L4, hq⟩⟩
            · rename_i ρ3 st3 hb3
              cases hp
              cases hq
              exact ⟨w2, ρ1, st2, _, S2, L2', hb3, fun w4 H4 σ4 l4 S4 L4 => so1 w4 H4 σ4 (l2.trans l4) S4 L4⟩
            · rename_i v ρ3 st3 hb3
              cases hp
              cases hq
              exact ⟨w2, ρ1, st2, _, S2, L2', hb3, fun w4 H4 u4 l4 S4 r4 => so1 w4 H4 u4 (l2.trans l4) S4 r4⟩
            · rename_i ex ρ3 st3 hb3
              cases hp
              cases hq
              exact ⟨w2, ρ1, st2, _, S2, L2', hb3, fun w4 H4 σ4 cls d l4 S4 L4 r4 => so1 w4 H4 σ4 cls d (l2.trans l4) S4 L4 r4⟩
            · cases hp
        · rename_i ex st2 he
          cases hp
          cases hq
          exact ⟨w1, ρ1, st1, _, S1, L1, he, fun w2 H2 cls d l2 S2 rx => so1 w2 H2 σ1 cls d l2 S2 (L1.mono l2) rx⟩
        · cases hp
      split at e1
      · cases e1
      · rename_i ρ2 st2 hp
        exact go hp e1
      · rename_i f ρ2 st2 hp
        exact go hp e1
  · cases h
/-- a for -/
theorem forS_ok (hX : BxOk P Z m X c W) {g : Tg} {it : SP.It} {b : Ss} {s : Stmt} (hb : ∀ ss, chkSs c b ss = true → PSs X ss (tSs Z W (Gm P m) xf b)) (h : chkS c (.for_ g it b) s = true) : PS X s (tS Z W (Gm P m) xf (.for_ g it b)) := by
  unfold chkS at h
  split at h
  · rename_i tg e x pos
    simp only [Bool.and_eq_true] at h
    obtain ⟨⟨⟨h1, h2⟩, h3⟩, h4⟩ := h
    refine PS.weak (ps_for hX.pown hX.calm ((It_all it).all X c W tg e hX.toCxOk h1) ((Tg_all g).all X c W tg hX.toCxOk h3) (hb _ h4) (folded h2)) fun D σ H hl hS => ?_
    obtain ⟨w, ρ, st, r, S, L, ev, so⟩ := hS
    unfold evS at ev
    refine tI.bndS S L ev so fun s st1 w1 H1 J l1 S1 L1 wk ev so => ?_
    refine ⟨fun i n σ' H' => ∃ w' ρ' st', Le w1 w' ∧ Sat Z w' st' H' ∧ Slots Z w' ρ' σ' ∧ forF s _ (s.items.drop i) ρ' st' = some r ∧ n = (s.items.drop i).length, ⟨_, w1, ρ, st1, Le.refl _, S1, L1, ev, rfl⟩, ?_⟩
    rintro i n σ2 H2 ⟨w2, ρ2, st2, l2, S2, L2', e2, rfl⟩
    have so2 := so.mono l2
    cases hd : s.items.drop i with
    | nil =>
      rw [hd] at e2
      unfold forF at e2
      obtain ⟨hs, e2⟩ := if_some e2
      cases e2
      have hle : s.items.length ≤ i := List.drop_eq_nil_iff.mp hd
      exact .inl ⟨wk.stop i w2 H2 st2 hle l2.F l2.ι S2 hs, so2 w2 H2 σ2 (Le.refl _) S2 L2'⟩
    | cons v rest =>
      rw [hd] at e2
      obtain ⟨hv, hr⟩ := drop_get hd
      unfold forF at e2
      obtain ⟨hs, e2⟩ := if_some e2
      obtain ⟨hgo, hy⟩ := wk.go i v w2 H2 st2 hv l2.F l2.ι S2 hs
      refine .inr ⟨hgo, fun σ' H' => ∃ w' ρ' st', Le w1 w' ∧ Sat Z w' st' H' ∧ Slots Z w' ρ' σ' ∧ forF s _ (s.items.drop (i + 1)) ρ' st' = some r, fun σ' H' ⟨w', ρ', st', a1, a2, a3, a4⟩ => ⟨_, ?_, w', ρ', st', a1, a2, a3, a4, rfl⟩, ?_⟩
      · rw [hr]
        exact Nat.lt_succ_self _
      · intro x H3 hx
        obtain ⟨w3, l3, S3, r3⟩ := hy x H3 hx
        have L3 := L2'.mono l3
        have lw : Le w1 w3 := l2.trans l3
        have so3 := so2.mono l3
        cases q0 : stG (Gm P m) g v ρ2 st2 with
        | none => rw [q0] at e2; cases e2
        | some pr =>
          obtain ⟨ρ4, st4⟩ := pr
          rw [q0] at e2
          refine ⟨w3, ρ2, st2, v, ρ4, st4, S3, L3, r3, q0, fun w5 H5 σ5 l5 S5 L5 _ _ => ?_⟩
          dsimp only at e2
          have lw5 := lw.trans l5
          have so5 := so3.mono l5
          rw [hr]
          split at e2
          · cases e2
          · rename_i ρ6 st6 hb6
            exact ⟨w5, ρ4, st4, _, S5, L5, hb6, fun w7 H7 σ7 l7 S7 L7 => ⟨w7, ρ6, st6, lw5.trans l7, S7, L7, e2⟩⟩
          · rename_i ρ6 st6 hb6
            exact ⟨w5, ρ4, st4, _, S5, L5, hb6, fun w7 H7 σ7 l7 S7 L7 => ⟨w7, ρ6, st6, lw5.trans l7, S7, L7, e2⟩⟩
          · rename_i ρ6 st6 hb6
            cases e2
            exact ⟨w5, ρ4, st4, _, S5, L5, hb6, fun w7 H7 σ7 l7 S7 L7 => so5 w7 H7 σ7 l7 S7 L7⟩
          · rename_i f ρ6 st6 n1 n2 n3 hb6
            cases e2
            refine ⟨w5, ρ4, st4, _, S5, L5, hb6, ?_⟩
            cases f with
            | next => first | exact (n1 rfl).elim | exact (n2 rfl).elim | exact (n3 rfl).elim
            | brk => first | exact (n1 rfl).elim | exact (n2 rfl).elim | exact (n3 rfl).elim
            | cont => first | exact (n1 rfl).elim | exact (n2 rfl).elim | exact (n3 rfl).elim
            | ret v => exact so5
            | err ex => exact so5
  · cases h
mutual
theorem S_all (hX : BxOk P Z m X c W) : ∀ (t : S) (s : Stmt), chkS c t s = true → PS X s (tS Z W (Gm P m) xf t)
  | .ex t, s, h => ex_ok hX h
  | .asg g t, s, h => asg_ok hX h
  | .fset a f t, s, h => fset_ok hX h
  | .par is ts, s, h => par_ok hX h
  | .aug i o t, s, h => aug_ok hX h
  | .ret t, s, h => ret_ok hX h
  | .retN, s, h => retN_ok h
  | .ite k a b, s, h => iteS_ok hX (fun ss => Ss_all hX a ss) (fun ss => Ss_all hX b ss) h
  | .for_ g it b, s, h => forS_ok hX (fun ss => Ss_all hX b ss) h
  | .whl k b, s, h => whl_ok hX (fun ss => Ss_all hX b ss) h
  | .raise C ts, s, h => by unfold chkS at h; cases h
  | .try_ b hs, s, h => by unfold chkS at h; cases h
  | .brk, s, h => brk_ok h
  | .cont, s, h => cont_ok h
  | .pass, s, h => pass_ok h
  | .stuck, s, h => stuck_ok
theorem Ss_all (hX : BxOk P Z m X c W) : ∀ (t : Ss) (ss : List Stmt), chkSs c t ss = true → PSs X ss (tSs Z W (Gm P m) xf t)
  | .nil, ss, h => by
    unfold chkSs at h
    rw [List.isEmpty_iff] at h
    subst h
    refine PSs.weak pss_nil fun D σ H hl hS => ?_
    obtain ⟨w, ρ, st, r, S, L, ev, so⟩ := hS
    unfold evSs at ev
    cases ev
    exact so w H σ (Le.refl _) S L
  | .cons t r, ss, h => by
    cases ss with
    | nil => cases h
    | cons s ss =>
      unfold chkSs at h
      rw [Bool.and_eq_true] at h
      refine PSs.weak (pss_cons (S_all hX t s h.1) (Ss_all hX r ss h.2)) fun D σ H hl hS => ?_
      obtain ⟨w, ρ, st, r', S, L, ev, so⟩ := hS
      unfold evSs at ev
      split at ev
      · rename_i ρ1 st1 he
        exact ⟨w, ρ, st, _, S, L, he, fun w1 H1 σ1 l1 S1 L1 => ⟨w1, ρ1, st1, r', S1, L1, ev, so.mono l1⟩⟩
      · rename_i hn
        refine ⟨w, ρ, st, r', S, L, ev, ?_⟩
        obtain ⟨f, ρ1, st1⟩ := r'
        cases f with
        | next => exact absurd ev (hn ρ1 st1)
        | brk => exact so
        | cont => exact so
        | ret v => exact so
        | err ex => exact so
end
end
end SP

end

section
set_option maxHeartbeats 2000000
namespace SP
open PySem PySem.Spec PyProof.Rows L2
/-- what the text's checks are asked with, in a def -/
def Pg.sx (P : Pg) (N : List Str) (sc : Scope) : Sx := ⟨N, sc, fun _ => true, fun f => P.gf f || P.cls f, P.cls⟩
/-- a def as it stands -/
structure DefOk (Z : En) (P : Pg) (f : String) (g : Fn) (x qual : Str) (params : Arguments) (body : List Stmt) (scope : Scope) (dvs : List V) (kws : List (Str × V)) (fd : FuncData) (N ps : List Str) : Prop where
  F : FunD Z.K x qual params body scope dvs kws (Z.fa f) fd
  S : FnScope N ps scope
  len : ps.length = g.np
  chk : chkSs (P.sx N scope) g.body body = true
  bind : ∀ j, j ≤ g.np → g.np - j ≤ g.dfl.length → ∃ ds dvs, Binds Z.K fd ps ds ∧ Vals dvs ds ∧ dvs.length = g.np - j ∧ ∀ F, RepDs Z F (g.dfl.drop (j + g.dfl.length - g.np)) dvs
def DefOkE (Z : En) (P : Pg) (f : String) (g : Fn) : Prop := ∃ x qual params body scope dvs kws fd N ps, DefOk Z P f g x qual params body scope dvs kws fd N ps
section
variable {P : Pg} {Z : En}
theorem RepX.cut {w : Wd} {n : Nat} {H : Hp} {e : Ex} {cls : Value} {d : Option Addr} (h : RepX Z (w.cut n) H e cls d) : RepX Z w H e cls d := h
theorem RepX.cut' {w : Wd} {n : Nat} {H : Hp} {e : Ex} {cls : Value} {d : Option Addr} (h : RepX Z w H e cls d) : RepX Z (w.cut n) H e cls d := h
/-- a frame's end -/
theorem shut_ok {g : Fn} {w w1 : Wd} {st st1 st2 : Store} {H H1 : Hp} (S : Sat Z w st H) (S1 : Sat Z w1 st1 H1) (l : Le w w1) (h : shut g st st1 = some st2) : ∃ w2, Sat Z w2 st2 H1 ∧ Le w w2 ∧ w2.F = w1.F ∧ ∀ k, k < st.length → w2.ι k = w1.ι k := by
  unfold shut at h
  split at h
  · cases h
    exact ⟨w1, S1, l, rfl, fun _ _ => rfl⟩
  · obtain ⟨hst, h⟩ := if_some h
    cases h
    obtain ⟨S2, l2⟩ := S.back S1 l hst
    exact ⟨_, S2, l2, rfl, fun k hk => if_pos hk⟩
theorem Sat.drop1 {w : Wd} {st : Store} {H : Hp} {D : Addr} (S : Sat Z w st H) (hF : w.F D = none) (hO : w.O D = none) (hn : ∀ (n : Nat) (o : MO), st[n]? = some o → o ≠ .dead → w.ι n ≠ some D) : Sat Z w st (rmv H D) := by
  have := S.reO (O' := w.O) (H' := rmv H D) hF hn (fun a ha => if_neg ha) (fun a ha => rfl) fun u e => by rw [hO] at e; cases e
  exact this
theorem toD_loc {m : MO} {d : D} {w : Wd} {H : Hp} {a : Addr} (h : m.toD = some d) (o : ObjAt Z w H a m) : ∃ u, H a = some u ∧ ∀ w' : Wd, Same w.F w'.F → ∀ H', H' a = some u → ObjAt Z w' H' a m := by
  have lv : ∀ {w' : Wd}, Same w.F w'.F → ∀ {xs : List Vl} {ds : List D} {vs : List V}, dats xs = some ds → RepVs Z w xs vs → RepVs Z w' xs vs := by
    intro w' s xs ds vs hd r
    have := dats_eq hd
    subst this
    exact RepVs.of_ds (RepDs.mono s (r.dats hd))
  have lg : ∀ {w' : Wd}, Same w.F w'.F → ∀ {xs : List (String × Vl)} {ds : List (String × D)} {vs : List (Str × V)}, datf xs = some ds → RepGs Z w xs vs → RepGs Z w' xs vs := by
    intro w' s xs ds vs hd r
    induction r generalizing ds with
    | nil => exact .nil
    | @cons f x v xs vs a r ih =>
      cases x with
      | d d0 =>
        unfold datf at hd
        cases q : datf xs with
        | none => rw [q] at hd; cases hd
        | some es => exact .cons (RepD.mono s a) (ih q)
      | loc _ => cases hd
      | exc _ => cases hd
  cases m with
  | dead => cases h
  | dct _ => cases h
  | lst xs =>
    obtain ⟨vs, h1, h2⟩ := o
    unfold MO.toD at h
    dsimp only at h
    cases q : dats xs with
    | none => rw [q] at h; cases h
    | some ds => exact ⟨_, h1, fun w' s H' e => ⟨vs, e, lv s q h2⟩⟩
  | ins C fs =>
    obtain ⟨dx, vs, h1, h2, h3⟩ := o
    unfold MO.toD at h
    dsimp only at h
    cases q : datf fs with
    | none => rw [q] at h; cases h
    | some ds => exact ⟨_, h1, fun w' s H' e => ⟨dx, vs, e, s _ _ h2, lg s q h3⟩⟩
theorem leave_ok {g : Fn} {w : Wd} {st : Store} {H : Hp} {fl : Fl} {ρ1 : SP.Env} {st1 : Store} {r : Out Vl × Store} {Q : VK} {E : XK} (S : Sat Z w st H) (h : leave g st fl st1 = some r) (po : PO Z E (RepV Z) w Q r) :
    SO Z (fun cls d _ H => E cls d H) { nx := fun _ H' => Q .non H', rt := Q } w (fl, ρ1, st1) := by
  unfold leave at h
  cases q0 : shut g st st1 with
  | none => rw [q0] at h; cases h
  | some st2 =>
    rw [q0] at h
    dsimp only at h
    split at h
    · cases h
      intro w1 H1 σ1 l1 S1 L1
      obtain ⟨w2, S2, l2, _, _⟩ := shut_ok S S1 l1 q0
      exact po.ok l2 S2 .non
    · cases h
      intro w1 H1 σ1 cls d l1 S1 L1 rx
      obtain ⟨w2, S2, l2, hF, _⟩ := shut_ok S S1 l1 q0
      refine po w2 H1 cls d l2 S2 ?_
      obtain ⟨h1, dd, gs, h2, h3, h4⟩ := rx
      exact ⟨h1, dd, gs, h2, h3, by rw [hF]; exact h4⟩
    · split at h
      · cases h
        intro w1 H1 u l1 S1 ru
        obtain ⟨w2, S2, l2, hF, _⟩ := shut_ok S S1 l1 q0
        exact po.ok l2 S2 (show RepD Z w2.F _ u by rw [hF]; exact ru)
      · rename_i k
        intro w1 H1 u l1 S1 ru
        split at h
        · rename_i hk
          unfold shut at q0
          rw [if_pos hk] at q0
          cases q0
          cases h
          exact po.ok l1 S1 ru
        · rename_i hk
          split at h
          · rename_i hlt
            cases h
            obtain ⟨w2, S2, l2, _, hι⟩ := shut_ok S S1 l1 q0
            obtain ⟨a, ea, eu⟩ := ru
            exact po.ok l2 S2 ⟨a, by rw [hι k hlt]; exact ea, eu⟩
          · rename_i hlt
            split at h
            · rename_i o ho
              split at h
              · rename_i d hd
                have hst : st1.take st.length = st ∧ st2 = st := by
                  unfold shut at q0
                  rw [if_neg hk] at q0
                  obtain ⟨h1, h2⟩ := if_some q0
                  cases h2
                  exact ⟨h1, rfl⟩
                obtain ⟨hst, rfl⟩ := hst
                split at h
                · cases h
                  obtain ⟨a, rfl, ea, oa⟩ := S1.at_ ru ho
                  obtain ⟨a', ea', na, _⟩ := S1.obj k o ho
                  rw [ea] at ea'
                  cases ea'
                  have hnd : o ≠ .dead := fun z => by rw [z] at hd; cases hd
                  obtain ⟨u, hu, hmk⟩ := toD_loc hd oa
                  obtain ⟨S2, l2⟩ := S.back S1 l1 hst
                  have S3 : Sat Z (w1.cut st2.length) st2 (rmv H1 a) := S2.drop1 (na hnd).1 (na hnd).2 fun n o2 e2 hne z => by
                    have z' : (if n < st2.length then w1.ι n else none) = some a := z
                    split at z'
                    · rename_i hn
                      have e1 : st1[n]? = some o2 := by
                        rw [← hst, List.getElem?_take, if_pos hn] at e2
                        exact e2
                      have := S1.inj n k a o2 o z' ea e1 ho hne hnd
                      omega
                    · cases z'
                  have S4 := S3.new (p := a) (m := o) rmv_same (hmk ((w1.cut st2.length).new st2.length a) (Same.refl _) (upd (rmv H1 a) a u) upd_same)
                  rw [rmv_upd hu] at S4
                  exact po.ok (l2.trans (Le.new S3)) S4 ⟨a, if_pos rfl, rfl⟩
                · cases h
                  obtain ⟨w2, l2, S2, r2⟩ := S1.emb ho hd ru
                  obtain ⟨S3, l3⟩ := S.back S2 (l1.trans l2) (by
                    rw [List.take_set_of_le (by omega)]
                    exact hst)
                  exact po.ok l3 S3 r2
              · cases h
            · cases h
      · cases h
    · cases h
theorem slots_start {w : Wd} {as : List Vl} {vs : List V} {N : List Str} {n : Nat} (r : RepVs Z w as vs) : Slots Z w (as.map some ++ List.replicate n none) (L2.start N vs) := by
  intro i x e
  by_cases hi : i < as.length
  · rw [List.getElem?_append_left (by simpa using hi), List.getElem?_map] at e
    obtain ⟨y, h1, h2⟩ := Option.map_eq_some_iff.mp e
    cases h2
    obtain ⟨v, h3, h4⟩ := r.get h1
    refine ⟨v, ?_, h4⟩
    unfold L2.start
    rw [List.getElem?_append_left (by rw [List.length_map, ← r.length]; exact hi), List.getElem?_map, h3]
    rfl
  · rw [List.getElem?_append_right (by simpa using Nat.le_of_not_lt hi)] at e
    rw [List.getElem?_replicate] at e
    split at e <;> cases e
/-- a def keeps its promise, its callees keeping theirs -/
theorem def_fnOk {prog : Program} {mg : Str → Option Value} {base : Heap} (hp : PgS Z P mg) (m : Nat) (ih : ∀ k, m = k + 1 → ∀ f g, P.fn f = some g → CallF Z P k prog Z.w mg base f g) {f : String} {g : Fn} {x qual : Str} {params : Arguments} {body : List Stmt} {scope : Scope} {dvs : List V} {kws : List (Str × V)} {fd : FuncData} {N ps : List Str}
    (h : DefOk Z P f g x qual params body scope dvs kws fd N ps) : FnOk prog Z.w Z.K mg base (L2.CX prog Z.w) (2 * m + 2) (Z.fa f) fd ps (PrOf Z P m g) := by
  refine FunD.ok (k := 2 * m + 1) h.F h.S (fun vs H Q E ⟨w, st, as, r, S, rv, hl, _⟩ => by rw [← rv.length, hl, h.len]) fun cdv A outer s H vs Q E hr hsp => ?_
  obtain ⟨w, st, as, r, S, rv, hl, hev, po⟩ := hsp
  have tk : Takes (cxOf (L2.CX prog Z.w) prog Z.w Z.K mg base N qual scope (Z.fa f) cdv A outer s H E) (fun cls d _ H => E cls d H) := takes_of rfl rfl rfl rfl
  have bx : BxOk P Z m (cxOf (L2.CX prog Z.w) prog Z.w Z.K mg base N qual scope (Z.fa f) cdv A outer s H E) (P.sx N scope) (fun cls d _ H => E cls d H) := by
    refine ⟨⟨rfl, rfl, rfl, rfl, rfl, fun f hf => ?_, fun f hf => hf, h.S.nd, rfl, hr, passAt tk, hp, ih⟩, h.S.kind, passes_of rfl⟩
    have hf : (P.gf f || P.cls f) = true := hf
    rw [Bool.or_eq_true] at hf
    exact hf
  refine ⟨_, Ss_all (xf := P.exF) bx g.body body h.chk, ?_⟩
  unfold runFn at hev
  dsimp only at hev
  obtain ⟨hl2, hev⟩ := if_some hev
  have e0 : ((g.dfl.drop (as.length + g.dfl.length - g.np)).map Vl.d) = [] := by
    rw [hl, List.drop_eq_nil_of_le (by omega)]
    rfl
  rw [e0, List.append_nil] at hev
  cases q0 : evSs (P.cfg (ev P m)) P.exF g.body (as.map some ++ List.replicate (g.nn - g.np) none) st with
  | none => rw [q0] at hev; cases hev
  | some pr =>
    obtain ⟨fl, ρ1, st1⟩ := pr
    rw [q0] at hev
    exact ⟨w, _, st, _, S, slots_start rv, q0, leave_ok S hev po⟩
theorem def_callF {prog : Program} {mg : Str → Option Value} {base : Heap} (hp : PgS Z P mg) (m : Nat) (ih : ∀ k, m = k + 1 → ∀ f g, P.fn f = some g → CallF Z P k prog Z.w mg base f g) {f : String} {g : Fn} (h : DefOkE Z P f g) : CallF Z P m prog Z.w mg base f g := by
  obtain ⟨x, qual, params, body, scope, dvs, kws, fd, N, ps, h⟩ := h
  exact ⟨fd, ps, h.len, def_fnOk hp m ih h, h.bind⟩
/-- all defs keep their promises -/
theorem lv_all {prog : Program} {mg : Str → Option Value} {base : Heap} (hp : PgS Z P mg) (hd : ∀ f g, P.fn f = some g → DefOkE Z P f g) : ∀ m f g, P.fn f = some g → CallF Z P m prog Z.w mg base f g
  | 0, f, g, h => def_callF hp 0 (fun k hk => by cases hk) (hd f g h)
  | m + 1, f, g, h => def_callF hp (m + 1) (fun k hk f g h => by
      cases hk
      exact lv_all hp hd m f g h) (hd f g h)
end
end SP

end

section
set_option maxHeartbeats 2000000
namespace SP
open PySem PySem.Spec PyProof.Rows L2 He
theorem mem_lk {α β : Type} [BEq α] [LawfulBEq α] {k : α} {v : β} : ∀ {l : List (α × β)}, l.lookup k = some v → (k, v) ∈ l
  | [], h => by cases h
  | (a, b) :: r, h => by
    rw [List.lookup_cons] at h
    cases q : (k == a) with
    | true =>
      rw [q] at h
      cases h
      rw [eq_of_beq q]
      exact List.mem_cons_self
    | false =>
      rw [q] at h
      exact List.mem_cons_of_mem _ (mem_lk h)
/-- a def, where it stands in the heap -/
structure DefA where
  ad : PySem.W.Frag → Addr
  name : Str
  qual : Str
  params : Arguments
  body : List Stmt
  scope : Scope
  dfl : List Dv := []
def fnA (K : PySem.W.Frag) (a : Addr) : FnW := (K.lookup a).bind fun o => match o.data with
  | .func z => some (z.name, z.qualname, z.params, z.body, z.scope, z.globals, z.closure, z.builtins)
  | _ => none
def DefA.val (x : DefA) : FnW := some (x.name, x.qual, x.params, .stmts x.body, x.scope, mainGlobals, [], builtinsNs)
def DefA.dv (K : PySem.W.Frag) (x : DefA) : List V := x.dfl.map (Dv.v K)
def DefA.good (K : PySem.W.Frag) (x : DefA) : Bool := PySem.W.keepIn K (.ref (x.ad K)) && match K.lookup (x.ad K) with
  | some o => (match o.data with
    | .func z => PySem.W.codeIn K z.code x.qual && dflB K z.defaults (x.dv K)
    | _ => false)
  | none => false
theorem DefA.funD {K : PySem.W.Frag} {x : DefA} (e : fnA K (x.ad K) = x.val) (g : x.good K = true) : ∃ z, FunD K x.name x.qual x.params x.body x.scope (x.dv K) [] (x.ad K) z := by
  unfold DefA.good at g
  rw [Bool.and_eq_true] at g
  obtain ⟨g1, g2⟩ := g
  unfold fnA at e
  cases q : K.lookup (x.ad K) with
  | none => rw [q] at g2; cases g2
  | some o =>
    rw [q] at g2 e
    obtain ⟨c, dd, dat, slo⟩ := o
    cases dat with
    | func z =>
      obtain ⟨nm, qn, pr, bd, sc, gl, cl, df, kd, dc, m1, a1, cd, t1, bl⟩ := z
      have e' : (some (nm, qn, pr, bd, sc, gl, cl, bl) : FnW) = x.val := e
      unfold DefA.val at e'
      simp only [Option.some.injEq, Prod.mk.injEq] at e'
      obtain ⟨k1, k2, k3, k4, k5, k6, k7, k8⟩ := e'
      subst k1 k2 k3 k4 k5 k6 k7 k8
      have g3 : (PySem.W.codeIn K cd x.qual && dflB K df (x.dv K)) = true := g2
      rw [Bool.and_eq_true] at g3
      refine ⟨_, ⟨c, dd, df, kd, dc, m1, a1, cd, t1, slo, rfl, q, g3.1, dflB_ok g3.2, .inl rfl⟩, g1⟩
    | _ => cases g2
/-- a property's def -/
def getA (p : Addr) (K : PySem.W.Frag) : Addr := match PySem.W.recIn K p "property" with
  | some (.ref b :: _) => b
  | _ => 0
abbrev AlS : Type := (Bool × List FnW) × List (Option (List (Option (Str × Int))))
def lookS (ds : List DefA) (ts : List Tab) (ex : PySem.W.Frag → Bool) (K : PySem.W.Frag) : AlS := ((ex K && ds.all fun x => x.good K, ds.map fun x => fnA K (x.ad K)), ts.map fun t => dicW K (t.1 K))
def valS (ds : List DefA) (ts : List Tab) (w : World) : AlS := ((true, ds.map DefA.val), ts.map fun t => some (keysIn w.params t.2))
def lookSG (n : Nat) (ds : List DefA) (ts : List Tab) (ex : PySem.W.Frag → Bool) (g : Addr → Option Obj) : AlS := lookS ds ts ex (frG g (asD g n))
def hookS (n : Nat) (ds : List DefA) (ts : List Tab) (ex : PySem.W.Frag → Bool) : PySem.W.Hook where
  α := AlS
  obs := fun s => lookSG n ds ts ex s.heap.get?
  val := fun w => valS ds ts w
  says := fun w h => ∃ K : PySem.W.Frag, K.In h ∧ lookS ds ts ex K = valS ds ts w
  of := fun _ _ e => ⟨_, frG_in, e⟩
  keeps := fun _ _ _ ⟨K, hK, c⟩ k => ⟨K, PySem.W.Frag.In.keeps hK k, c⟩
theorem lookSG_eq {n : Nat} {ds : List DefA} {ts : List Tab} {ex : PySem.W.Frag → Bool} {g : Addr → Option Obj} {s : Shared} (h : ∀ a, g a = s.heap.get? a) : lookSG n ds ts ex g = (hookS n ds ts ex).obs s := by
  have e : g = s.heap.get? := funext h
  rw [e]
  rfl
section
variable {ds : List DefA} {ts : List Tab} {ex : PySem.W.Frag → Bool} {K : PySem.W.Frag} {w : World}
theorem saysS_ex (h : lookS ds ts ex K = valS ds ts w) : ex K = true := by
  have h1 : (ex K && ds.all fun x => x.good K) = true := congrArg (fun z : AlS => z.1.1) h
  rw [Bool.and_eq_true] at h1
  exact h1.1
theorem saysS_def (h : lookS ds ts ex K = valS ds ts w) {x : DefA} (hx : x ∈ ds) : ∃ z, FunD K x.name x.qual x.params x.body x.scope (x.dv K) [] (x.ad K) z := by
  have h1 : (ex K && ds.all fun x => x.good K) = true := congrArg (fun z : AlS => z.1.1) h
  rw [Bool.and_eq_true] at h1
  have h2 : ds.map (fun x => fnA K (x.ad K)) = ds.map DefA.val := congrArg (fun z : AlS => z.1.2) h
  refine DefA.funD ?_ (List.all_eq_true.mp h1.2 x hx)
  exact List.map_inj_left.mp h2 x hx
theorem saysS_tab (h : lookS ds ts ex K = valS ds ts w) {t : Tab} (ht : t ∈ ts) : dicW K (t.1 K) = some (keysIn w.params t.2) := by
  have h2 : (ts.map fun t => dicW K (t.1 K)) = ts.map fun t => some (keysIn w.params t.2) := congrArg (fun z : AlS => z.2) h
  exact List.map_inj_left.mp h2 t ht
end
/-- where things are -/
def pathOf (P : Pg) (h : String) : Option (String × String) := (P.props.find? fun e => e.2 == some h).map (·.1)
def adC (K : PySem.W.Frag) (C : String) : Addr := ga K (S! C)
def adF (rows : List (String × DefA)) (K : PySem.W.Frag) (f : String) : Addr := match rows.lookup f with
  | some x => x.ad K
  | none => 0
def adP (P : Pg) (K : PySem.W.Frag) (h : String) : Addr := match pathOf P h with
  | some p => ma K (ga K (S! p.1)) (S! p.2)
  | none => 0
def mkZ (rows : List (String × DefA)) (P : Pg) (K : PySem.W.Frag) (w : World) : En := ⟨K, w, adC K, adF rows K, adP P K⟩
def clsB (K : PySem.W.Frag) (C : Addr) : Bool := PySem.W.plainGet K C Str.empty && PySem.W.hasDictIn K C && PySem.W.plainOver K C && eqO (PySem.W.findIn K (.ref C) "__setattr__") (some (some (.builtin "object.__setattr__")))
theorem clsB_ok {K : PySem.W.Frag} {C : Addr} (h : clsB K C = true) : Cls K C := by
  unfold clsB at h
  simp only [Bool.and_eq_true] at h
  exact ⟨h.1.1.1, h.1.1.2, h.1.2, eqO_ok h.2⟩
def ownB (K : PySem.W.Frag) (C : Addr) : Bool := clsB K C && eqO (PySem.W.findIn K (.ref C) "__class__") (some (some (.builtin "object.__class__"))) &&
  eqO (PySem.W.specialIn K (.builtin "object.__class__") "__get__") (some (some (.builtin "getset_descriptor.__get__"))) && decide (PySem.W.takesIn K (.builtin "object.__class__") = some true) && decide (PySem.W.mroIn K C (.type "object") = some true)
theorem ownB_ok {K : PySem.W.Frag} {C : Addr} (h : ownB K C = true) : OwnTy K C := by
  unfold ownB at h
  simp only [Bool.and_eq_true, decide_eq_true_eq] at h
  exact ⟨clsB_ok h.1.1.1.1, eqO_ok h.1.1.1.2, eqO_ok h.1.1.2, h.1.2, h.2⟩
/-- a global's value, of the simple kinds -/
def dvD (d : D) : V := match d with
  | .int i => .int i
  | .str x => .str x
  | .bl b => .bl b
  | _ => .non
def simpD : D → Bool
  | .int _ | .str _ | .bl _ | .non => true
  | _ => false
theorem simpD_rep {Z : En} {d : D} (h : simpD d = true) (F : Hp) : RepD Z F d (dvD d) := by
  cases d <;> first | exact .int _ | exact .str _ | exact .bl _ | exact .non | cases h
theorem simpDs_rep {Z : En} {F : Hp} : ∀ {ds : List D}, ds.all simpD = true → RepDs Z F ds (ds.map dvD)
  | [], _ => .nil
  | d :: r, h => by
    rw [List.all_cons, Bool.and_eq_true] at h
    exact .cons (simpD_rep h.1 F) (simpDs_rep h.2)
def globB (K : PySem.W.Frag) (x : String) (d : D) : Bool := match d with
  | .tup ds => eqO (PySem.W.nsIn K mainGlobals (S! x)) (some (some (.ref (ga K (S! x))))) && ds.all simpD && (match K.lookup (ga K (S! x)) with
    | some o => (match o.data with
      | .seq its _ => decide (o.cls = .type "tuple") && decide (its.size ≤ sizeLine) && relAll (ds.map dvD) its.toList
      | _ => false)
    | none => false)
  | d => simpD d && (match PySem.W.nsIn K mainGlobals (S! x) with
    | some (some u) => relB (dvD d) u
    | _ => false)
theorem globB_ok {Z : En} {x : String} {d : D} {h : Heap} {mg : Str → Option Value} (X : Z.K.In h) (G : h.Ns mainGlobals mg) (hb : globB Z.K x d = true) : ∃ v u, mg (S! x) = some u ∧ RelV v u ∧ ∀ F, RepD Z F d v := by
  have simp_case : simpD d = true → (match PySem.W.nsIn Z.K mainGlobals (S! x) with
    | some (some u) => relB (dvD d) u
    | _ => false) = true → ∃ v u, mg (S! x) = some u ∧ RelV v u ∧ ∀ F, RepD Z F d v := fun h1 h2 => by
    cases q : PySem.W.nsIn Z.K mainGlobals (S! x) with
    | none => rw [q] at h2; cases h2
    | some o =>
      rw [q] at h2
      cases o with
      | none => cases h2
      | some u => exact ⟨dvD d, u, PySem.W.mg_of X G q, relB_ok h2, fun F => simpD_rep h1 F⟩
  unfold globB at hb
  split at hb
  · rename_i ds
    simp only [Bool.and_eq_true] at hb
    obtain ⟨⟨h1, h2⟩, h3⟩ := hb
    refine ⟨.ref (ga Z.K (S! x)), .ref (ga Z.K (S! x)), PySem.W.mg_of X G (eqO_ok h1), rfl, fun F => ?_⟩
    cases q : Z.K.lookup (ga Z.K (S! x)) with
    | none => rw [q] at h3; cases h3
    | some o =>
      rw [q] at h3
      dsimp only at h3
      split at h3
      · rename_i its n hd
        simp only [Bool.and_eq_true, decide_eq_true_eq] at h3
        exact .tup (.inr ⟨o, its, n, q, h3.1.1, hd, h3.1.2, relAll_ok h3.2⟩) (simpDs_rep h2)
      · cases h3
  · rw [Bool.and_eq_true] at hb
    exact simp_case hb.1 hb.2
theorem dic_look {P : Params} {name : Str} : ∀ {l : List DictEntry} {kvs : List (Str × Int)}, l.map keyOf = keysIn P (kvs.map (·.1)) → (kvs.lookup name = none → l.find? (·.key.isStr name) = none) ∧ l.any (·.refKey) = false
  | [], [], _ => ⟨fun _ => rfl, rfl⟩
  | [], _ :: _, h => by cases h
  | e :: r, [], h => by cases h
  | e :: r, (k, i) :: kvs, h => by
    have h1 : keyOf e :: r.map keyOf = some (k, PyData.keyHash P k) :: keysIn P (kvs.map (·.1)) := h
    injection h1 with h2 h3
    obtain ⟨k1, k2⟩ := dic_look (name := name) h3
    unfold keyOf at h2
    split at h2
    · rename_i x t q
      have h4 := Option.some.inj h2
      obtain ⟨h5, h6⟩ := Prod.mk.inj h4
      subst h5
      refine ⟨fun hn => ?_, ?_⟩
      · rw [List.lookup_cons] at hn
        cases hx : (name == x) with
        | true => rw [hx] at hn; cases hn
        | false =>
          rw [hx] at hn
          rw [List.find?_cons]
          have : e.key.isStr name = false := by
            rw [q]
            show (x == name) = false
            rw [beq_eq_false_iff_ne] at hx ⊢
            exact Ne.symm hx
          rw [this]
          exact k1 hn
      · rw [List.any_cons, k2, Bool.or_false]
        unfold DictEntry.refKey
        rw [q]
    · cases h2
def tabB (K : PySem.W.Frag) (x : String) (kvs : List (Str × Int)) : Bool := eqO (PySem.W.nsIn K mainGlobals (S! x)) (some (some (.ref (ga K (S! x))))) && kvs.all fun e => match PySem.W.nsIn K (ga K (S! x)) e.1 with
  | some (some (.int j _)) => decide (kvs.lookup e.1 = some j)
  | _ => false
theorem tabB_ok {Z : En} {x : String} {kvs : List (Str × Int)} {h : Heap} {mg : Str → Option Value} (X : Z.K.In h) (G : h.Ns mainGlobals mg) (hb : tabB Z.K x kvs = true) (hd : dicW Z.K (ga Z.K (S! x)) = some (keysIn Z.w.params (kvs.map (·.1)))) :
    ∃ v u, mg (S! x) = some u ∧ RelV v u ∧ ∀ F, RepD Z F (.dct (kvs.map fun e => (.str e.1, .int e.2))) v := by
  unfold tabB at hb
  rw [Bool.and_eq_true] at hb
  obtain ⟨es, n, kd⟩ := dicW_ok (w := Z.w) hd
  refine ⟨.ref (ga Z.K (S! x)), .ref (ga Z.K (S! x)), PySem.W.mg_of X G (eqO_ok hb.1), rfl, fun F => .dctW kd fun k => ?_⟩
  cases q : kvs.lookup k with
  | some i =>
    left
    have hm : (k, i) ∈ kvs := mem_lk q
    have := List.all_eq_true.mp hb.2 _ hm
    dsimp only at this
    split at this
    · rename_i j t e
      rw [decide_eq_true_eq, q] at this
      cases this
      exact ⟨i, t, rfl, e⟩
    · cases this
  | none =>
    right
    refine ⟨rfl, ?_⟩
    have hk : es.toList.map keyOf = keysIn Z.w.params (kvs.map (·.1)) := by
      unfold dicW at hd
      rw [kd.at_] at hd
      dsimp only at hd
      split at hd
      · exact Option.some.inj hd
      · cases hd
    obtain ⟨h1, h2⟩ := dic_look (name := k) hk
    unfold PySem.W.nsIn
    rw [kd.at_]
    dsimp only
    rw [h1 q]
    dsimp only
    rw [h2]
    rfl
def makeB (K : PySem.W.Frag) (C f : Addr) : Bool := PySem.W.makesIn K C && eqO (PySem.W.findIn K (.ref C) "__init__") (some (some (.ref f))) && PySem.W.isFn K (.ref f) && PySem.W.keepIn K (.ref C)
theorem makeB_ok {K : PySem.W.Frag} {C f : Addr} (h : makeB K C f = true) : Mk K C f := by
  unfold makeB at h
  simp only [Bool.and_eq_true] at h
  exact ⟨h.1.1.1, eqO_ok h.1.1.2, h.1.2, h.2⟩
def methB (K : PySem.W.Frag) (C : Addr) (m : Str) (f : Addr) : Bool := eqO (PySem.W.findIn K (.ref C) m) (some (some (.ref f))) && PySem.W.isFn K (.ref f) && PySem.W.keepIn K (.ref f)
theorem methB_ok {K : PySem.W.Frag} {C f : Addr} {m : Str} (h : methB K C m f = true) : Meth K C m f := by
  unfold methB at h
  simp only [Bool.and_eq_true] at h
  exact ⟨eqO_ok h.1.1, h.1.2, h.2⟩
def propB (K : PySem.W.Frag) (C : Addr) (f : Str) (p g : Addr) : Bool := eqO (PySem.W.findIn K (.ref C) f) (some (some (.ref p))) && eqO (PySem.W.specialIn K (.ref p) "__get__") (some (some (.builtin "property.__get__"))) && decide (PySem.W.takesIn K (.ref p) = some true) &&
  match PySem.W.recIn K p "property" with
  | some (.ref b :: _) => decide (b = g)
  | _ => false
theorem propB_ok {K : PySem.W.Frag} {C p g : Addr} {f : Str} (h : propB K C f p g = true) : PropOf K C f p g := by
  unfold propB at h
  simp only [Bool.and_eq_true, decide_eq_true_eq] at h
  obtain ⟨⟨⟨h1, h2⟩, h3⟩, h4⟩ := h
  split at h4
  · rename_i b r e
    have := of_decide_eq_true h4
    subst this
    exact ⟨eqO_ok h1, eqO_ok h2, h3, r, e⟩
  · cases h4
def isfB (K : PySem.W.Frag) (cl : String → Addr) (cs : List String) : Bool := cs.all fun C => ownB K (cl C) && !("NoneType" :: btys).contains C && (cs.all fun c => decide (PySem.W.kitOne K (.ref (cl C)) (.ref (cl c)) = some (c == C))) &&
  (btys.all fun b => decide (PySem.W.kitOne K (.ref (cl C)) (.type b) = some false)) && (("NoneType" :: btys).all fun b => decide (PySem.W.kitOne K (.type b) (.ref (cl C)) = some false))
theorem isfB_ok {Z : En} {P : Pg} (h : isfB Z.K Z.cl P.clss = true) : IsF Z P.cls := by
  have all : ∀ C, P.cls C = true → _ := fun C hC => List.all_eq_true.mp h C (List.contains_iff_mem.mp hC)
  refine ⟨fun C hC => ?_, fun C c hC hc => ?_, fun C b hC hb => ?_, fun b c hb hC => ?_, fun C hC => ?_⟩
  · have := all C hC
    simp only [Bool.and_eq_true] at this
    exact ownB_ok this.1.1.1.1
  · have := all C hC
    simp only [Bool.and_eq_true] at this
    exact of_decide_eq_true (List.all_eq_true.mp this.1.1.2 c (List.contains_iff_mem.mp hc))
  · have := all C hC
    simp only [Bool.and_eq_true] at this
    exact of_decide_eq_true (List.all_eq_true.mp this.1.2 b hb)
  · have := all c hC
    simp only [Bool.and_eq_true] at this
    exact of_decide_eq_true (List.all_eq_true.mp this.2 b hb)
  · have := all C hC
    simp only [Bool.and_eq_true, Bool.not_eq_true'] at this
    intro hm
    have h2 := this.1.1.1.2
    rw [List.contains_iff_mem.mpr hm] at h2
    cases h2
/-- the facts of the program P, its dicts tabs -/
def pgB (rows : List (String × DefA)) (P : Pg) (gl : List (String × D)) (tabs : List (String × List (Str × Int))) (K : PySem.W.Frag) : Bool :=
  (P.gfs.all fun f => eqO (PySem.W.nsIn K mainGlobals (S! f)) (some (some (.ref (adF rows K f)))) && PySem.W.keepIn K (.ref (adF rows K f)) && !P.cls f) &&
  (P.clss.all fun C => eqO (PySem.W.nsIn K mainGlobals (S! C)) (some (some (.ref (adC K C)))) && match P.meth C "__init__" with
    | some f => makeB K (adC K C) (adF rows K f)
    | none => false) &&
  (P.meths.all fun e => methB K (adC K e.1.1) (S! e.1.2) (adF rows K e.2) && clsB K (adC K e.1.1) && !P.cls e.2 && !opNames.contains e.1.2) &&
  (P.props.all fun e => clsB K (adC K e.1.1) && match e.2 with
    | some h => propB K (adC K e.1.1) (S! e.1.2) (adP P K h) (adF rows K h) && !P.cls h
    | none => eqO (PySem.W.findIn K (.ref (adC K e.1.1)) (S! e.1.2)) (some none)) &&
  isfB K (adC K) P.clss && (gl.all fun e => globB K e.1 e.2) && (tabs.all fun e => tabB K e.1 e.2) && (bltNames.all fun x => eqO (PySem.W.nsIn K mainGlobals (S! x)) (some none))
def tabT (tabs : List (String × List (Str × Int))) : List Tab := tabs.map fun e => ((fun K => ga K (S! e.1)), e.2.map (·.1))
theorem pg_ok {rows : List (String × DefA)} {P : Pg} {gl : List (String × D)} {tabs : List (String × List (Str × Int))} {K : PySem.W.Frag} {w : World} {h : Heap} {mg : Str → Option Value} (X : K.In h) (G : h.Ns mainGlobals mg) (hg : P.globs = gl ++ tabG tabs)
    (hb : pgB rows P gl tabs K = true) (ht : ∀ t ∈ tabT tabs, dicW K (t.1 K) = some (keysIn w.params t.2)) : PgS (mkZ rows P K w) P mg := by
  unfold pgB at hb
  simp only [Bool.and_eq_true] at hb
  obtain ⟨⟨⟨⟨⟨⟨⟨b1, b2⟩, b3⟩, b4⟩, b5⟩, b6⟩, b7⟩, b8⟩ := hb
  refine ⟨fun f hf => ?_, fun C hC => ?_, fun C f hC hf => ?_, fun C hC => ?_, fun C m f hf => ?_, fun C f h hf => ?_, fun C f hf => ?_, isfB_ok (Z := mkZ rows P K w) b5, fun x d hx => ?_, fun x hx => ?_, fun C f hf => ?_⟩
  · have := List.all_eq_true.mp b1 f (List.contains_iff_mem.mp hf)
    simp only [Bool.and_eq_true, Bool.not_eq_true'] at this
    exact ⟨PySem.W.mg_of X G (eqO_ok this.1.1), this.1.2, this.2⟩
  · have := List.all_eq_true.mp b2 C (List.contains_iff_mem.mp hC)
    rw [Bool.and_eq_true] at this
    exact PySem.W.mg_of X G (eqO_ok this.1)
  · have := List.all_eq_true.mp b2 C (List.contains_iff_mem.mp hC)
    rw [Bool.and_eq_true, hf] at this
    exact makeB_ok this.2
  · have := List.all_eq_true.mp b2 C (List.contains_iff_mem.mp hC)
    rw [Bool.and_eq_true] at this
    cases q : P.meth C "__init__" with
    | none => rw [q] at this; cases this.2
    | some f => rfl
  · have := List.all_eq_true.mp b3 _ (mem_lk (show P.meths.lookup (C, m) = some f from hf))
    simp only [Bool.and_eq_true, Bool.not_eq_true'] at this
    exact ⟨methB_ok this.1.1.1, clsB_ok this.1.1.2, this.1.2⟩
  · have := List.all_eq_true.mp b4 _ (mem_lk (show P.props.lookup (C, f) = some (some h) from hf))
    simp only [Bool.and_eq_true, Bool.not_eq_true'] at this
    exact ⟨propB_ok this.2.1, clsB_ok this.1, this.2.2⟩
  · have := List.all_eq_true.mp b4 _ (mem_lk (show P.props.lookup (C, f) = some none from hf))
    simp only [Bool.and_eq_true] at this
    exact ⟨eqO_ok this.2, clsB_ok this.1⟩
  · have hm : (x, d) ∈ gl ++ tabG tabs := by
      rw [← hg]
      exact mem_lk (show P.globs.lookup x = some d from hx)
    rcases List.mem_append.mp hm with hm | hm
    · exact globB_ok (Z := mkZ rows P K w) X G (List.all_eq_true.mp b6 _ hm)
    · unfold tabG at hm
      obtain ⟨e, he, heq⟩ := List.mem_map.mp hm
      cases heq
      exact tabB_ok (Z := mkZ rows P K w) X G (List.all_eq_true.mp b7 _ he) (ht _ (List.mem_map.mpr ⟨e, he, rfl⟩))
  · exact PySem.W.mg_none_of X G (eqO_ok (List.all_eq_true.mp b8 x hx))
  · cases q : P.meth C f with
    | none => rfl
    | some h =>
      have := List.all_eq_true.mp b3 _ (mem_lk (show P.meths.lookup (C, f) = some h from q))
      simp only [Bool.and_eq_true, Bool.not_eq_true'] at this
      have h2 := this.2
      rw [List.contains_iff_mem.mpr hf] at h2
      cases h2
end SP

end

section
set_option maxHeartbeats 2000000
namespace SP
open PySem PySem.Spec PyProof.Rows L2 He
abbrev fnD (x : DefA) (dV kV doc pm : Value) (an : Option Addr) (cdv ct : Value) : FuncData := PySem.W.fnOf x.name x.qual x.params x.body x.scope dV kV doc pm an cdv ct
/-- how a def's arguments are bound -/
inductive BdOk (x : DefA) (g : Fn) (ps : List Str) : Prop
  | n : x.dfl = [] → g.dfl = [] → (∀ (kV doc pm : Value) (an : Option Addr) (cdv ct : Value) (us : List Value), us.length = ps.length → bindArgs (fnD x .none kV doc pm an cdv ct) ⟨us, []⟩ = pure (ps.zip us)) → BdOk x g ps
  | d : x.dfl ≠ [] → x.dfl.length = g.dfl.length → (∀ n, n ≤ ps.length → ps.length - n ≤ x.dfl.length → ∀ (T : Addr) (kV doc pm : Value) (an : Option Addr) (cdv ct : Value) (us its : List Value), us.length = n → its.length = x.dfl.length →
      ∃ k, bindArgs (fnD x (.ref T) kV doc pm an cdv ct) ⟨us, []⟩ = seqItems? (.ref T) >>= k ∧ k (some its.toArray) = pure (ps.zip (us ++ its.drop (n + x.dfl.length - ps.length)))) → BdOk x g ps
/-- a row of the text -/
structure RowOk (P : Pg) (f : String) (g : Fn) (x : DefA) (N ps : List Str) : Prop where
  S : FnScope N ps x.scope
  len : ps.length = g.np
  chk : chkSs (P.sx N x.scope) g.body x.body = true
  bd : BdOk x g ps
def emptyB (K : PySem.W.Frag) (a : Addr) : Bool := match K.lookup a with
  | some o => (match o.data with
    | .seq its _ => decide (o.cls = .type "tuple") && its.isEmpty
    | _ => false)
  | none => false
theorem emptyB_ok {K : PySem.W.Frag} {a : Addr} (h : emptyB K a = true) (F : Hp) : SqT K F a [] := by
  unfold emptyB at h
  cases q : K.lookup a with
  | none => rw [q] at h; cases h
  | some o =>
    rw [q] at h
    dsimp only at h
    split at h
    · rename_i its n hd
      rw [Bool.and_eq_true, decide_eq_true_eq] at h
      have he : its = #[] := Array.isEmpty_iff.mp h.2
      subst he
      exact .inr ⟨o, #[], n, q, h.1, hd, Nat.zero_le _, .nil⟩
    · cases h
/-- a default's value -/
def dflD (K : PySem.W.Frag) : Dv → D → Bool
  | .adr p, .tup [] => emptyB K (p K)
  | .non, .non => true
  | .int i, .int j => decide (i = j)
  | .bl a, .bl b => a == b
  | .str x, .str y => decide (x = y)
  | _, _ => false
def dflDs (K : PySem.W.Frag) : List Dv → List D → Bool
  | [], [] => true
  | v :: vs, d :: ds => dflD K v d && dflDs K vs ds
  | _, _ => false
theorem dflD_ok {Z : En} {v : Dv} {d : D} (h : dflD Z.K v d = true) (F : Hp) : RepD Z F d (Dv.v Z.K v) := by
  unfold dflD at h
  split at h
  · exact .tup (emptyB_ok h F) .nil
  · exact .non
  · rw [decide_eq_true_eq] at h
    subst h
    exact .int _
  · rw [beq_iff_eq] at h
    subst h
    exact .bl _
  · rw [decide_eq_true_eq] at h
    subst h
    exact .str _
  · cases h
theorem dflDs_ok {Z : En} {F : Hp} : ∀ {vs : List Dv} {ds : List D}, dflDs Z.K vs ds = true → RepDs Z F ds (vs.map (Dv.v Z.K))
  | [], [], _ => .nil
  | [], _ :: _, h => by cases h
  | _ :: _, [], h => by cases h
  | v :: vs, d :: ds, h => by
    have h : (dflD Z.K v d && dflDs Z.K vs ds) = true := h
    rw [Bool.and_eq_true] at h
    exact .cons (dflD_ok h.1 F) (dflDs_ok h.2)
theorem RepDs.dropR {Z : En} {F : Hp} {ds : List D} {vs : List V} (n : Nat) (r : RepDs Z F ds vs) : RepDs Z F (ds.drop n) (vs.drop n) := r.drop n
theorem RowOk.def {P : Pg} {f : String} {g : Fn} {x : DefA} {N ps : List Str} {rows : List (String × DefA)} {K : PySem.W.Frag} {w : World} {z : FuncData} (r : RowOk P f g x N ps) (hr : rows.lookup f = some x) (F : FunD K x.name x.qual x.params x.body x.scope (x.dv K) [] (x.ad K) z) (hd : dflDs K x.dfl g.dfl = true) :
    DefOkE (mkZ rows P K w) P f g := by
  have hf : (mkZ rows P K w).fa f = x.ad K := by
    show adF rows K f = _
    unfold adF
    rw [hr]
  refine ⟨x.name, x.qual, x.params, x.body, x.scope, x.dv K, [], z, N, ps, by rw [hf]; exact F, r.S, r.len, r.chk, fun j h1 h2 => ?_⟩
  rcases r.bd with ⟨e1, e2, hb⟩ | ⟨e1, e2, hb⟩
  · have e3 : x.dv K = [] := by
      unfold DefA.dv
      rw [e1]
      rfl
    rw [e3] at F
    rw [e2] at h2
    have hj : j = g.np := by
      simp only [List.length_nil] at h2
      omega
    refine ⟨[], [], FunD.bindsN F hb, .nil, by simp only [List.length_nil]; omega, fun F => ?_⟩
    rw [e2, List.drop_nil]
    exact .nil
  · have e3 : x.dv K ≠ [] := by
      unfold DefA.dv
      intro q
      exact e1 (List.map_eq_nil_iff.mp q)
    have hlen : (x.dv K).length = x.dfl.length := List.length_map ..
    rw [← r.len] at h1 h2 ⊢
    rw [← e2] at h2 ⊢
    obtain ⟨ds, v1, b1⟩ := FunD.binds1 (ps := ps) F j (j + x.dfl.length - ps.length) e3 (by rw [hlen]; omega) fun T kV doc pm an cdv ct us its hu hi => hb j h1 h2 T kV doc pm an cdv ct us its hu (by rw [hi, hlen])
    refine ⟨ds, _, b1, v1, by rw [List.length_drop, hlen]; omega, fun F => ?_⟩
    exact (dflDs_ok (Z := mkZ rows P K w) (F := F) hd).drop _
end SP

end

section
set_option maxHeartbeats 2000000
namespace SP
open PySem PySem.Spec PyProof.Rows L2 He
/-- the module's lists are plain objects -/
def slotB (K : PySem.W.Frag) : Bool := K.all fun p => (match p.2.cls with
  | .type c => !(c == "list") || p.2.slots.isEmpty
  | _ => true)
theorem slotB_ok {K : PySem.W.Frag} (h : slotB K = true) {H : Hp} {a : Addr} {vs : List V} (q : SqL K H a vs) : RdK K H a vs := by
  rcases q with q | ⟨o, its, n, h1, h2, h3, h4, h5, h6⟩
  · exact .inl q
  · refine .inr ⟨its, n, ?_, h5, h6⟩
    have := List.all_eq_true.mp h _ (mem_lk h1)
    obtain ⟨c, d, dt, sl⟩ := o
    dsimp only at h2 h3 h4
    subst h2 h3 h4
    have hs : sl = #[] := by
      simpa using this
    subst hs
    exact h1
def exB (rows : List (String × DefA)) (P : Pg) (gl : List (String × D)) (tabs : List (String × List (Str × Int))) (K : PySem.W.Frag) : Bool := pgB rows P gl tabs K && slotB K && P.fns.all fun e => match rows.lookup e.1 with
  | some x => dflDs K x.dfl e.2.dfl
  | none => false
/-- a promise that lets nothing out -/
theorem FnOk.calm {P : Program} {w : World} {K : PySem.W.Frag} {mg : Str → Option Value} {base : Heap} {k : Nat} {f : Addr} {fd : FuncData} {ps : List Str} {sp : Sp} (F : FnOk P w K mg base (L2.CX P w) k f fd ps sp) : FnOk P w K mg base L2.CX0 k f fd ps (fun vs H Q _ => sp vs H Q fun _ _ _ => False) := by
  refine ⟨fun vs H Q E h => F.len vs H Q _ h, fun A outer s H args us vs Q E hr he hb hv hs => codeAny_mono (F.run A outer s H args us vs Q _ hr he hb hv hs) fun r s' h => ?_⟩
  cases r with
  | error e =>
    obtain ⟨_, _, _, _, _, _, _, _, _, _, _, _, z⟩ := h
    exact z.elim
  | ok fl => cases fl <;> exact h
/-- every def's row stands -/
def RowsOk (P : Pg) (rows : List (String × DefA)) : Prop := ∀ f g, P.fn f = some g → ∃ x N ps, rows.lookup f = some x ∧ RowOk P f g x N ps
theorem law_F {l : PySem.W.OpenLaw} {P : Pg} {rows : List (String × DefA)} {gl : List (String × D)} {tabs : List (String × List (Str × Int))} {n m : Nat} {g : Fn} {x : DefA} {N : List Str} {nm : Str} (hg : P.globs = gl ++ tabG tabs) (hr : RowsOk P rows)
    (hl : P.fn "law" = some g) (hx : rows.lookup "law" = some x) (hrow : RowOk P "law" g x N [nm]) (hd0 : x.dfl = []) (hbi : ∀ (kV doc pm : Value) (an : Option Addr) (cdv ct : Value) (us : List Value), us.length = 1 → bindArgs (fnD x .none kV doc pm an cdv ct) ⟨us, []⟩ = pure (([nm] : List Str).zip us))
    (hgf : P.gf "law" = true)
    (hev : ∀ ns : List Int, ns.length ≤ n → runFn P (ev P m) g [.d (.lst (ns.map .int))] [] = some (.ok (.d (.bl true)), []))
    (w : World) (mg : Str → Option Value) (fa : Addr) (h : Heap) (Y : (hookS 6 (rows.map (·.2)) (tabT tabs) (exB rows P gl tabs)).says w h) (G : h.Ns mainGlobals mg) (hmg : mg (S! "law") = some (.ref fa)) :
    ∃ (K : PySem.W.Frag) (fd : FuncData) (sp : Sp), K.In h ∧ (∀ (s : Shared) (u : Value), BindsTo s fd ⟨[u], []⟩ [(nm, u)]) ∧
        (∀ (H : Hp) (a : Addr) (ns : List Int), ns.length ≤ n → Only H → SqL K H a (ns.map V.int) → sp [.ref a] H (fun v _ => v = .bl true) fun _ _ _ => False) ∧
        ∀ base : Heap, K.In base → base.Ns mainGlobals mg → FnOk l.prog w K mg base L2.CX0 (2 * m + 2) fa fd [nm] sp := by
  obtain ⟨K, KX, c⟩ := Y
  have hex := saysS_ex c
  unfold exB at hex
  simp only [Bool.and_eq_true] at hex
  obtain ⟨⟨h1, h2⟩, h3⟩ := hex
  have hp := pg_ok (w := w) KX G hg h1 fun t ht => saysS_tab c ht
  have hrd : ∀ f g, P.fn f = some g → ∃ x N ps z, rows.lookup f = some x ∧ RowOk P f g x N ps ∧ FunD K x.name x.qual x.params x.body x.scope (x.dv K) [] (x.ad K) z ∧ dflDs K x.dfl g.dfl = true := fun f g hf => by
    obtain ⟨x, N, ps, hx, hrow⟩ := hr f g hf
    obtain ⟨z, F⟩ := saysS_def c (List.mem_map.mpr ⟨_, mem_lk hx, rfl⟩)
    have := List.all_eq_true.mp h3 _ (mem_lk (show P.fns.lookup f = some g from hf))
    dsimp only at this
    rw [hx] at this
    exact ⟨x, N, ps, z, hx, hrow, F, this⟩
  have hdef : ∀ f g, P.fn f = some g → DefOkE (mkZ rows P K w) P f g := fun f g hf => by
    obtain ⟨x, N, ps, z, hx, hrow, F, hd⟩ := hrd f g hf
    exact hrow.def hx F hd
  obtain ⟨z, F⟩ := saysS_def c (List.mem_map.mpr ⟨_, mem_lk hx, rfl⟩)
  have hdv : x.dv K = [] := by
    unfold DefA.dv
    rw [hd0]
    rfl
  rw [hdv] at F
  have hfa : (mkZ rows P K w).fa "law" = x.ad K := by
    show adF rows K "law" = _
    unfold adF
    rw [hx]
  have hfa2 : fa = x.ad K := by
    have := (hp.gf "law" hgf).1
    rw [hfa, hmg] at this
    cases this
    rfl
  have hD : DefOk (mkZ rows P K w) P "law" g x.name x.qual x.params x.body x.scope [] [] z N [nm] := by
    obtain ⟨_, _, _, _, _, _, _, _, _, _, hE⟩ := hdef "law" g hl
    refine ⟨by rw [hfa]; exact F, hrow.S, hrow.len, hrow.chk, fun j h1 h2 => ?_⟩
    have e2 : g.dfl = [] := by
      have := List.all_eq_true.mp h3 _ (mem_lk (show P.fns.lookup "law" = some g from hl))
      dsimp only at this
      rw [hx] at this
      dsimp only at this
      rw [hd0] at this
      cases q : g.dfl with
      | nil => rfl
      | cons a b => rw [q] at this; cases this
    rw [e2] at h2
    have hj : j = g.np := by
      simp only [List.length_nil] at h2
      omega
    refine ⟨[], [], FunD.bindsN F hbi, .nil, by simp only [List.length_nil]; omega, fun F => ?_⟩
    rw [e2, List.drop_nil]
    exact .nil
  refine ⟨K, z, fun vs H Q _ => PrOf (mkZ rows P K w) P m g vs H Q fun _ _ _ => False, KX, fun s v => FunD.bindsA (ps := [nm]) F hbi s [v] rfl, fun H a ns hlen hO hS => ?_, fun base hb1 hb2 => ?_⟩
  · have hR := slotB_ok h2 hS
    refine ⟨⟨H, fun _ => none, fun _ => none⟩, [], [.d (.lst (ns.map .int))], _, ⟨Same.refl _, fun b u e => (by cases e), fun n o e => (by simp at e), fun n a e => (by cases e), fun n m a o p e => (by cases e), fun a o e => (by cases e), fun a o e => (by cases e)⟩, .cons (x := .d (.lst (ns.map .int))) (.lst hR ?_) .nil, ?_, hev ns hlen, fun w1 H1 v _ _ rv => ?_⟩
    · have : ∀ ns : List Int, RepDs (mkZ rows P K w) H (ns.map D.int) (ns.map V.int) := fun ns => by
        induction ns with
        | nil => exact .nil
        | cons i r ih => exact .cons (.int i) ih
      exact this ns
    · rw [← hrow.len]
      rfl
    · have rv : RepD (mkZ rows P K w) w1.F (.bl true) v := rv
      cases rv
      rfl
  · have := def_fnOk (Z := mkZ rows P K w) (prog := l.prog) (base := base) hp m (fun k hk f g hf => lv_all hp hdef k f g hf) hD
    rw [hfa, ← hfa2] at this
    exact FnOk.calm this
end SP

end

section
set_option maxHeartbeats 0
namespace LW
open PySem PySem.Spec PyProof.Rows L2 SP
def top (i : Nat) : Stmt := PySem.Challenge.pw_splitalike_k01_cuts_by_lengths.main.body.getD i (.Pass ⟨0, 0, 0, 0⟩)
def df_law : DefA := ⟨fun K => He.fAd K ("law", none), "law", "law", defArgs (top 55), defBody (top 55), defScope (top 55), []⟩
def Nf_law : List Str := ["_law_script", "_law_pen", "_law_turn", "_law_names_here", "_law_add", "_law_cells", "_law_k", "_law_lines", "_law_reader", "_law_due", "_law_handed", "_law_told", "_law_place"]
def pf_law : List Str := ["_law_script"]
def df__law_names : DefA := ⟨fun K => He.fAd K ("_law_names", none), "_law_names", "_law_names", defArgs (top 52), defBody (top 52), defScope (top 52), []⟩
def Nf__law_names : List Str := ["_law_pen", "_law_many", "_law_found", "_law_k", "_law_name", "_law_spare", "_law_word_here", "_law_n"]
def pf__law_names : List Str := ["_law_pen", "_law_many"]
def df__law_word : DefA := ⟨fun K => He.fAd K ("_law_word", none), "_law_word", "_law_word", defArgs (top 51), defBody (top 51), defScope (top 51), []⟩
def Nf__law_word : List Str := ["_law_pen", "_law_most", "_law_signs", "_law_k"]
def pf__law_word : List Str := ["_law_pen", "_law_most"]
def df__law_draw : DefA := ⟨fun K => He.fAd K ("_law_draw", none), "_law_draw", "_law_draw", defArgs (top 49), defBody (top 49), defScope (top 49), []⟩
def Nf__law_draw : List Str := ["_law_pen", "_law_many", "_law_spot", "_law_at", "_law_cell_here", "_law_mixed"]
def pf__law_draw : List Str := ["_law_pen", "_law_many"]
def df__law_cell : DefA := ⟨fun K => He.fAd K ("_law_cell", none), "_law_cell", "_law_cell", defArgs (top 53), defBody (top 53), defScope (top 53), []⟩
def Nf__law_cell : List Str := ["_law_pen", "_law_kind"]
def pf__law_cell : List Str := ["_law_pen"]
def df_Reader___init__ : DefA := ⟨fun K => He.fAd K ("Reader", some "__init__"), "__init__", "Reader.__init__", defArgs (inClass (top 27) 0), defBody (inClass (top 27) 0), defScope (inClass (top 27) 0), []⟩
def Nf_Reader___init__ : List Str := ["self", "lines", "name", "line"]
def pf_Reader___init__ : List Str := ["self", "lines"]
def df_check_lines : DefA := ⟨fun K => He.fAd K ("check_lines", none), "check_lines", "check_lines", defArgs (top 23), defBody (top 23), defScope (top 23), []⟩
def Nf_check_lines : List Str := ["lines", "names", "number", "name", "line", "target"]
def pf_check_lines : List Str := ["lines"]
def df_fits_name : DefA := ⟨fun K => He.fAd K ("fits_name", none), "fits_name", "fits_name", defArgs (top 18), defBody (top 18), defScope (top 18), []⟩
def Nf_fits_name : List Str := ["text", "letter"]
def pf_fits_name : List Str := ["text"]
def df_fits_line : DefA := ⟨fun K => He.fAd K ("fits_line", none), "fits_line", "fits_line", defArgs (top 20), defBody (top 20), defScope (top 20), []⟩
def Nf_fits_line : List Str := ["line"]
def pf_fits_line : List Str := ["line"]
def df_fits_ways : DefA := ⟨fun K => He.fAd K ("fits_ways", none), "fits_ways", "fits_ways", defArgs (top 19), defBody (top 19), defScope (top 19), []⟩
def Nf_fits_ways : List Str := ["ways", "values", "pair"]
def pf_fits_ways : List Str := ["ways"]
def df_targets_of : DefA := ⟨fun K => He.fAd K ("targets_of", none), "targets_of", "targets_of", defArgs (top 22), defBody (top 22), defScope (top 22), []⟩
def Nf_targets_of : List Str := ["line", "value", "name"]
def pf_targets_of : List Str := ["line"]
def df_tidy_line : DefA := ⟨fun K => He.fAd K ("tidy_line", none), "tidy_line", "tidy_line", defArgs (top 21), defBody (top 21), defScope (top 21), []⟩
def Nf_tidy_line : List Str := ["line", "pair"]
def pf_tidy_line : List Str := ["line"]
def df_check_ways : DefA := ⟨fun K => He.fAd K ("check_ways", none), "check_ways", "check_ways", defArgs (top 26), defBody (top 26), defScope (top 26), []⟩
def Nf_check_ways : List Str := ["lines", "ways", "number", "begin", "name", "line"]
def pf_check_ways : List Str := ["lines"]
def df_silent_ways : DefA := ⟨fun K => He.fAd K ("silent_ways", none), "silent_ways", "silent_ways", defArgs (top 24), defBody (top 24), defScope (top 24), []⟩
def Nf_silent_ways : List Str := ["lines", "names", "name", "line", "found", "targets", "target"]
def pf_silent_ways : List Str := ["lines"]
def df_reached : DefA := ⟨fun K => He.fAd K ("reached", none), "reached", "reached", defArgs (top 25), defBody (top 25), defScope (top 25), []⟩
def Nf_reached : List Str := ["ways", "number", "found", "front", "at"]
def pf_reached : List Str := ["ways", "number"]
def df_begin : DefA := ⟨fun K => He.fAd K ("begin", none), "begin", "begin", defArgs (top 33), defBody (top 33), defScope (top 33), []⟩
def Nf_begin : List Str := ["machine"]
def pf_begin : List Str := ["machine"]
def df_settle : DefA := ⟨fun K => He.fAd K ("settle", none), "settle", "settle", defArgs (top 32), defBody (top 32), defScope (top 32), []⟩
def Nf_settle : List Str := ["machine", "line", "kept", "is_cut", "parts", "word", "many"]
def pf_settle : List Str := ["machine", "line", "kept"]
def df__law_places : DefA := ⟨fun K => He.fAd K ("_law_places", none), "_law_places", "_law_places", defArgs (top 54), defBody (top 54), defScope (top 54), []⟩
def Nf__law_places : List Str := ["_law_cells", "_law_add", "_law_found", "_law_place", "_law_k", "_law_more"]
def pf__law_places : List Str := ["_law_cells", "_law_add"]
def df_cuts : DefA := ⟨fun K => He.fAd K ("cuts", none), "cuts", "cuts", defArgs (top 47), defBody (top 47), defScope (top 47), []⟩
def Nf_cuts : List Str := ["reader", "row"]
def pf_cuts : List Str := ["reader", "row"]
def df_traced : DefA := ⟨fun K => He.fAd K ("traced", none), "traced", "traced", defArgs (top 37), defBody (top 37), defScope (top 37), []⟩
def Nf_traced : List Str := ["machine", "cells", "state", "places", "used", "place", "cell", "line", "is_cut", "spot"]
def pf_traced : List Str := ["machine", "cells"]
def df_step : DefA := ⟨fun K => He.fAd K ("step", none), "step", "step", defArgs (top 36), defBody (top 36), defScope (top 36), []⟩
def Nf_step : List Str := ["machine", "state", "cell", "line", "kept", "left", "parts", "word", "spot", "way", "found", "is_cut"]
def pf_step : List Str := ["machine", "state", "cell"]
def df_exit_of : DefA := ⟨fun K => He.fAd K ("exit_of", none), "exit_of", "exit_of", defArgs (top 34), defBody (top 34), defScope (top 34), []⟩
def Nf_exit_of : List Str := ["ways", "cell", "spot", "value", "way"]
def pf_exit_of : List Str := ["ways", "cell"]
def df_kept_by : DefA := ⟨fun K => He.fAd K ("kept_by", none), "kept_by", "kept_by", defArgs (top 35), defBody (top 35), defScope (top 35), []⟩
def Nf_kept_by : List Str := ["parts", "kept", "cell"]
def pf_kept_by : List Str := ["parts", "kept", "cell"]
def df_compiled : DefA := ⟨fun K => He.fAd K ("compiled", none), "compiled", "compiled", defArgs (top 31), defBody (top 31), defScope (top 31), [.adr (He.dflAt ("compiled", none) 0)]⟩
def Nf_compiled : List Str := ["reader", "turned", "labels", "lines", "name", "line", "one", "spot"]
def pf_compiled : List Str := ["reader", "turned"]
def df_Reader_names : DefA := ⟨fun K => He.fAd K ("Reader", some "names"), "names", "Reader.names", defArgs (inClass (top 27) 2), defBody (inClass (top 27) 2), defScope (inClass (top 27) 2), []⟩
def Nf_Reader_names : List Str := ["self", "name", "line"]
def pf_Reader_names : List Str := ["self"]
def df_numbered : DefA := ⟨fun K => He.fAd K ("numbered", none), "numbered", "numbered", defArgs (top 30), defBody (top 30), defScope (top 30), []⟩
def Nf_numbered : List Str := ["line", "labels", "spots", "word", "ways", "spot", "value", "name", "way"]
def pf_numbered : List Str := ["line", "labels", "spots"]
def df_Machine___init__ : DefA := ⟨fun K => He.fAd K ("Machine", some "__init__"), "__init__", "Machine.__init__", defArgs (inClass (top 29) 0), defBody (inClass (top 29) 0), defScope (inClass (top 29) 0), []⟩
def Nf_Machine___init__ : List Str := ["self", "labels", "lines"]
def pf_Machine___init__ : List Str := ["self", "labels", "lines"]
def df_cells_of : DefA := ⟨fun K => He.fAd K ("cells_of", none), "cells_of", "cells_of", defArgs (top 45), defBody (top 45), defScope (top 45), []⟩
def Nf_cells_of : List Str := ["row"]
def pf_cells_of : List Str := ["row"]
def df_Row_cells : DefA := ⟨fun K => He.fAd K ("Row", some "cells"), "cells", "Row.cells", defArgs (inClass (top 43) 9), defBody (inClass (top 43) 9), defScope (inClass (top 43) 9), []⟩
def Nf_Row_cells : List Str := ["self", "found", "count", "cell"]
def pf_Row_cells : List Str := ["self"]
def df_Row_size : DefA := ⟨fun K => getA (He.ma K (He.ga K "Row") "size") K, "size", "Row.size", defArgs (inClass (top 43) 2), defBody (inClass (top 43) 2), defScope (inClass (top 43) 2), []⟩
def Nf_Row_size : List Str := ["self", "count", "cell"]
def pf_Row_size : List Str := ["self"]
def df_to_row : DefA := ⟨fun K => He.fAd K ("to_row", none), "to_row", "to_row", defArgs (top 44), defBody (top 44), defScope (top 44), []⟩
def Nf_to_row : List Str := ["row"]
def pf_to_row : List Str := ["row"]
def df_Row___init__ : DefA := ⟨fun K => He.fAd K ("Row", some "__init__"), "__init__", "Row.__init__", defArgs (inClass (top 43) 0), defBody (inClass (top 43) 0), defScope (inClass (top 43) 0), [.adr (He.dflAt ("Row", some "__init__") 0), .adr (He.dflAt ("Row", some "__init__") 1)]⟩
def Nf_Row___init__ : List Str := ["self", "cells", "runs", "cell"]
def pf_Row___init__ : List Str := ["self", "cells", "runs"]
def df_check_cells : DefA := ⟨fun K => He.fAd K ("check_cells", none), "check_cells", "check_cells", defArgs (top 41), defBody (top 41), defScope (top 41), []⟩
def Nf_check_cells : List Str := ["cells", "cell"]
def pf_check_cells : List Str := ["cells"]
def df_merged : DefA := ⟨fun K => He.fAd K ("merged", none), "merged", "merged", defArgs (top 42), defBody (top 42), defScope (top 42), []⟩
def Nf_merged : List Str := ["runs", "found", "count", "cell"]
def pf_merged : List Str := ["runs"]
def rows : List (String × DefA) := [("law", df_law), ("_law_names", df__law_names), ("_law_word", df__law_word), ("_law_draw", df__law_draw), ("_law_cell", df__law_cell), ("Reader.__init__", df_Reader___init__), ("check_lines", df_check_lines), ("fits_name", df_fits_name), ("fits_line", df_fits_line), ("fits_ways", df_fits_ways), ("targets_of", df_targets_of), ("tidy_line", df_tidy_line), ("check_ways", df_check_ways), ("silent_ways", df_silent_ways), ("reached", df_reached), ("begin", df_begin), ("settle", df_settle), ("_law_places", df__law_places), ("cuts", df_cuts), ("traced", df_traced), ("step", df_step), ("exit_of", df_exit_of), ("kept_by", df_kept_by), ("compiled", df_compiled), ("Reader.names", df_Reader_names), ("numbered", df_numbered), ("Machine.__init__", df_Machine___init__), ("cells_of", df_cells_of), ("Row.cells", df_Row_cells), ("Row.size", df_Row_size), ("to_row", df_to_row), ("Row.__init__", df_Row___init__), ("check_cells", df_check_cells), ("merged", df_merged)]
def nm0 : List Str := ["_wall", "SplitError", "BadReader", "BadRing", "BadBegin", "TooMany", "TooGreat", "BadCell", "BadCount", "LETTERS", "MOST_LINES", "MOST_VALUE", "READING", "SIZES", "LEAST", "GREATEST", "fits_name", "fits_ways", "fits_line", "tidy_line", "targets_of", "check_lines", "silent_ways", "reached", "check_ways", "Reader", "Machine", "numbered", "compiled", "settle"]
def nm1 : List Str := ["begin", "exit_of", "kept_by", "step", "traced", "MOST_RUNS", "MOST_CELLS", "check_cells", "merged", "Row", "to_row", "cells_of", "cuts", "_law_draw", "_law_pick", "_law_word", "_law_names", "_law_cell", "_law_places"]
def names : List Str := nm0 ++ nm1
theorem cf_law : chkSs (P.sx Nf_law df_law.scope) LW.f_law.body df_law.body = true := by decide +kernel
theorem sf_law : FnScope Nf_law pf_law df_law.scope := ⟨by decide +kernel, by decide +kernel, by decide +kernel, by decide +kernel, by decide +kernel, by decide +kernel, by decide +kernel⟩
theorem cf__law_names : chkSs (P.sx Nf__law_names df__law_names.scope) PF.f__law_names.body df__law_names.body = true := by decide +kernel
theorem sf__law_names : FnScope Nf__law_names pf__law_names df__law_names.scope := ⟨by decide +kernel, by decide +kernel, by decide +kernel, by decide +kernel, by decide +kernel, by decide +kernel, by decide +kernel⟩
theorem cf__law_word : chkSs (P.sx Nf__law_word df__law_word.scope) PF.f__law_word.body df__law_word.body = true := by decide +kernel
theorem sf__law_word : FnScope Nf__law_word pf__law_word df__law_word.scope := ⟨by decide +kernel, by decide +kernel, by decide +kernel, by decide +kernel, by decide +kernel, by decide +kernel, by decide +kernel⟩
theorem cf__law_draw : chkSs (P.sx Nf__law_draw df__law_draw.scope) PF.f__law_draw.body df__law_draw.body = true := by decide +kernel
theorem sf__law_draw : FnScope Nf__law_draw pf__law_draw df__law_draw.scope := ⟨by decide +kernel, by decide +kernel, by decide +kernel, by decide +kernel, by decide +kernel, by decide +kernel, by decide +kernel⟩
theorem cf__law_cell : chkSs (P.sx Nf__law_cell df__law_cell.scope) PF.f__law_cell.body df__law_cell.body = true := by decide +kernel
theorem sf__law_cell : FnScope Nf__law_cell pf__law_cell df__law_cell.scope := ⟨by decide +kernel, by decide +kernel, by decide +kernel, by decide +kernel, by decide +kernel, by decide +kernel, by decide +kernel⟩
theorem cf_Reader___init__ : chkSs (P.sx Nf_Reader___init__ df_Reader___init__.scope) PF.f_Reader___init__.body df_Reader___init__.body = true := by decide +kernel
theorem sf_Reader___init__ : FnScope Nf_Reader___init__ pf_Reader___init__ df_Reader___init__.scope := ⟨by decide +kernel, by decide +kernel, by decide +kernel, by decide +kernel, by decide +kernel, by decide +kernel, by decide +kernel⟩
theorem cf_check_lines : chkSs (P.sx Nf_check_lines df_check_lines.scope) PF.f_check_lines.body df_check_lines.body = true := by decide +kernel
theorem sf_check_lines : FnScope Nf_check_lines pf_check_lines df_check_lines.scope := ⟨by decide +kernel, by decide +kernel, by decide +kernel, by decide +kernel, by decide +kernel, by decide +kernel, by decide +kernel⟩
theorem cf_fits_name : chkSs (P.sx Nf_fits_name df_fits_name.scope) PF.f_fits_name.body df_fits_name.body = true := by decide +kernel
theorem sf_fits_name : FnScope Nf_fits_name pf_fits_name df_fits_name.scope := ⟨by decide +kernel, by decide +kernel, by decide +kernel, by decide +kernel, by decide +kernel, by decide +kernel, by decide +kernel⟩
theorem cf_fits_line : chkSs (P.sx Nf_fits_line df_fits_line.scope) PF.f_fits_line.body df_fits_line.body = true := by decide +kernel
theorem sf_fits_line : FnScope Nf_fits_line pf_fits_line df_fits_line.scope := ⟨by decide +kernel, by decide +kernel, by decide +kernel, by decide +kernel, by decide +kernel, by decide +kernel, by decide +kernel⟩
theorem cf_fits_ways : chkSs (P.sx Nf_fits_ways df_fits_ways.scope) PF.f_fits_ways.body df_fits_ways.body = true := by decide +kernel
theorem sf_fits_ways : FnScope Nf_fits_ways pf_fits_ways df_fits_ways.scope := ⟨by decide +kernel, by decide +kernel, by decide +kernel, by decide +kernel, by decide +kernel, by decide +kernel, by decide +kernel⟩
theorem cf_targets_of : chkSs (P.sx Nf_targets_of df_targets_of.scope) PF.f_targets_of.body df_targets_of.body = true := by decide +kernel
theorem sf_targets_of : FnScope Nf_targets_of pf_targets_of df_targets_of.scope := ⟨by decide +kernel, by decide +kernel, by decide +kernel, by decide +kernel, by decide +kernel, by decide +kernel, by decide +kernel⟩
theorem cf_tidy_line : chkSs (P.sx Nf_tidy_line df_tidy_line.scope) PF.f_tidy_line.body df_tidy_line.body = true := by decide +kernel
theorem sf_tidy_line : FnScope Nf_tidy_line pf_tidy_line df_tidy_line.scope := ⟨by decide +kernel, by decide +kernel, by decide +kernel, by decide +kernel, by decide +kernel, by decide +kernel, by decide +kernel⟩
theorem cf_check_ways : chkSs (P.sx Nf_check_ways df_check_ways.scope) PF.f_check_ways.body df_check_ways.body = true := by decide +kernel
theorem sf_check_ways : FnScope Nf_check_ways pf_check_ways df_check_ways.scope := ⟨by decide +kernel, by decide +kernel, by decide +kernel, by decide +kernel, by decide +kernel, by decide +kernel, by decide +kernel⟩
theorem cf_silent_ways : chkSs (P.sx Nf_silent_ways df_silent_ways.scope) PF.f_silent_ways.body df_silent_ways.body = true := by decide +kernel
theorem sf_silent_ways : FnScope Nf_silent_ways pf_silent_ways df_silent_ways.scope := ⟨by decide +kernel, by decide +kernel, by decide +kernel, by decide +kernel, by decide +kernel, by decide +kernel, by decide +kernel⟩
theorem cf_reached : chkSs (P.sx Nf_reached df_reached.scope) PF.f_reached.body df_reached.body = true := by decide +kernel
theorem sf_reached : FnScope Nf_reached pf_reached df_reached.scope := ⟨by decide +kernel, by decide +kernel, by decide +kernel, by decide +kernel, by decide +kernel, by decide +kernel, by decide +kernel⟩
theorem cf_begin : chkSs (P.sx Nf_begin df_begin.scope) PF.f_begin.body df_begin.body = true := by decide +kernel
theorem sf_begin : FnScope Nf_begin pf_begin df_begin.scope := ⟨by decide +kernel, by decide +kernel, by decide +kernel, by decide +kernel, by decide +kernel, by decide +kernel, by decide +kernel⟩
theorem cf_settle : chkSs (P.sx Nf_settle df_settle.scope) PF.f_settle.body df_settle.body = true := by decide +kernel
theorem sf_settle : FnScope Nf_settle pf_settle df_settle.scope := ⟨by decide +kernel, by decide +kernel, by decide +kernel, by decide +kernel, by decide +kernel, by decide +kernel, by decide +kernel⟩
theorem cf__law_places : chkSs (P.sx Nf__law_places df__law_places.scope) PF.f__law_places.body df__law_places.body = true := by decide +kernel
theorem sf__law_places : FnScope Nf__law_places pf__law_places df__law_places.scope := ⟨by decide +kernel, by decide +kernel, by decide +kernel, by decide +kernel, by decide +kernel, by decide +kernel, by decide +kernel⟩
theorem cf_cuts : chkSs (P.sx Nf_cuts df_cuts.scope) PF.f_cuts.body df_cuts.body = true := by decide +kernel
theorem sf_cuts : FnScope Nf_cuts pf_cuts df_cuts.scope := ⟨by decide +kernel, by decide +kernel, by decide +kernel, by decide +kernel, by decide +kernel, by decide +kernel, by decide +kernel⟩
theorem cf_traced : chkSs (P.sx Nf_traced df_traced.scope) PF.f_traced.body df_traced.body = true := by decide +kernel
theorem sf_traced : FnScope Nf_traced pf_traced df_traced.scope := ⟨by decide +kernel, by decide +kernel, by decide +kernel, by decide +kernel, by decide +kernel, by decide +kernel, by decide +kernel⟩
theorem cf_step : chkSs (P.sx Nf_step df_step.scope) PF.f_step.body df_step.body = true := by decide +kernel
theorem sf_step : FnScope Nf_step pf_step df_step.scope := ⟨by decide +kernel, by decide +kernel, by decide +kernel, by decide +kernel, by decide +kernel, by decide +kernel, by decide +kernel⟩
theorem cf_exit_of : chkSs (P.sx Nf_exit_of df_exit_of.scope) PF.f_exit_of.body df_exit_of.body = true := by decide +kernel
theorem sf_exit_of : FnScope Nf_exit_of pf_exit_of df_exit_of.scope := ⟨by decide +kernel, by decide +kernel, by decide +kernel, by decide +kernel, by decide +kernel, by decide +kernel, by decide +kernel⟩
theorem cf_kept_by : chkSs (P.sx Nf_kept_by df_kept_by.scope) PF.f_kept_by.body df_kept_by.body = true := by decide +kernel
theorem sf_kept_by : FnScope Nf_kept_by pf_kept_by df_kept_by.scope := ⟨by decide +kernel, by decide +kernel, by decide +kernel, by decide +kernel, by decide +kernel, by decide +kernel, by decide +kernel⟩
theorem cf_compiled : chkSs (P.sx Nf_compiled df_compiled.scope) PF.f_compiled.body df_compiled.body = true := by decide +kernel
theorem sf_compiled : FnScope Nf_compiled pf_compiled df_compiled.scope := ⟨by decide +kernel, by decide +kernel, by decide +kernel, by decide +kernel, by decide +kernel, by decide +kernel, by decide +kernel⟩
theorem cf_Reader_names : chkSs (P.sx Nf_Reader_names df_Reader_names.scope) PF.f_Reader_names.body df_Reader_names.body = true := by decide +kernel
theorem sf_Reader_names : FnScope Nf_Reader_names pf_Reader_names df_Reader_names.scope := ⟨by decide +kernel, by decide +kernel, by decide +kernel, by decide +kernel, by decide +kernel, by decide +kernel, by decide +kernel⟩
theorem cf_numbered : chkSs (P.sx Nf_numbered df_numbered.scope) PF.f_numbered.body df_numbered.body = true := by decide +kernel
theorem sf_numbered : FnScope Nf_numbered pf_numbered df_numbered.scope := ⟨by decide +kernel, by decide +kernel, by decide +kernel, by decide +kernel, by decide +kernel, by decide +kernel, by decide +kernel⟩
theorem cf_Machine___init__ : chkSs (P.sx Nf_Machine___init__ df_Machine___init__.scope) PF.f_Machine___init__.body df_Machine___init__.body = true := by decide +kernel
theorem sf_Machine___init__ : FnScope Nf_Machine___init__ pf_Machine___init__ df_Machine___init__.scope := ⟨by decide +kernel, by decide +kernel, by decide +kernel, by decide +kernel, by decide +kernel, by decide +kernel, by decide +kernel⟩
theorem cf_cells_of : chkSs (P.sx Nf_cells_of df_cells_of.scope) PF.f_cells_of.body df_cells_of.body = true := by decide +kernel
theorem sf_cells_of : FnScope Nf_cells_of pf_cells_of df_cells_of.scope := ⟨by decide +kernel, by decide +kernel, by decide +kernel, by decide +kernel, by decide +kernel, by decide +kernel, by decide +kernel⟩
theorem cf_Row_cells : chkSs (P.sx Nf_Row_cells df_Row_cells.scope) PF.f_Row_cells.body df_Row_cells.body = true := by decide +kernel
theorem sf_Row_cells : FnScope Nf_Row_cells pf_Row_cells df_Row_cells.scope := ⟨by decide +kernel, by decide +kernel, by decide +kernel, by decide +kernel, by decide +kernel, by decide +kernel, by decide +kernel⟩
theorem cf_Row_size : chkSs (P.sx Nf_Row_size df_Row_size.scope) PF.f_Row_size.body df_Row_size.body = true := by decide +kernel
theorem sf_Row_size : FnScope Nf_Row_size pf_Row_size df_Row_size.scope := ⟨by decide +kernel, by decide +kernel, by decide +kernel, by decide +kernel, by decide +kernel, by decide +kernel, by decide +kernel⟩
theorem cf_to_row : chkSs (P.sx Nf_to_row df_to_row.scope) PF.f_to_row.body df_to_row.body = true := by decide +kernel
theorem sf_to_row : FnScope Nf_to_row pf_to_row df_to_row.scope := ⟨by decide +kernel, by decide +kernel, by decide +kernel, by decide +kernel, by decide +kernel, by decide +kernel, by decide +kernel⟩
theorem cf_Row___init__ : chkSs (P.sx Nf_Row___init__ df_Row___init__.scope) PF.f_Row___init__.body df_Row___init__.body = true := by decide +kernel
theorem sf_Row___init__ : FnScope Nf_Row___init__ pf_Row___init__ df_Row___init__.scope := ⟨by decide +kernel, by decide +kernel, by decide +kernel, by decide +kernel, by decide +kernel, by decide +kernel, by decide +kernel⟩
theorem cf_check_cells : chkSs (P.sx Nf_check_cells df_check_cells.scope) PF.f_check_cells.body df_check_cells.body = true := by decide +kernel
theorem sf_check_cells : FnScope Nf_check_cells pf_check_cells df_check_cells.scope := ⟨by decide +kernel, by decide +kernel, by decide +kernel, by decide +kernel, by decide +kernel, by decide +kernel, by decide +kernel⟩
theorem cf_merged : chkSs (P.sx Nf_merged df_merged.scope) PF.f_merged.body df_merged.body = true := by decide +kernel
theorem sf_merged : FnScope Nf_merged pf_merged df_merged.scope := ⟨by decide +kernel, by decide +kernel, by decide +kernel, by decide +kernel, by decide +kernel, by decide +kernel, by decide +kernel⟩
theorem bf_law : BdOk df_law LW.f_law pf_law := .n rfl rfl fun _ _ _ _ _ _ us hl => match us, hl with | [_], _ => rfl
theorem rf_law : RowOk P "law" LW.f_law df_law Nf_law pf_law := ⟨sf_law, rfl, cf_law, bf_law⟩
theorem bf__law_names : BdOk df__law_names PF.f__law_names pf__law_names := .n rfl rfl fun _ _ _ _ _ _ us hl => match us, hl with | [_, _], _ => rfl
theorem rf__law_names : RowOk P "_law_names" PF.f__law_names df__law_names Nf__law_names pf__law_names := ⟨sf__law_names, rfl, cf__law_names, bf__law_names⟩
theorem bf__law_word : BdOk df__law_word PF.f__law_word pf__law_word := .n rfl rfl fun _ _ _ _ _ _ us hl => match us, hl with | [_, _], _ => rfl
theorem rf__law_word : RowOk P "_law_word" PF.f__law_word df__law_word Nf__law_word pf__law_word := ⟨sf__law_word, rfl, cf__law_word, bf__law_word⟩
theorem bf__law_draw : BdOk df__law_draw PF.f__law_draw pf__law_draw := .n rfl rfl fun _ _ _ _ _ _ us hl => match us, hl with | [_, _], _ => rfl
theorem rf__law_draw : RowOk P "_law_draw" PF.f__law_draw df__law_draw Nf__law_draw pf__law_draw := ⟨sf__law_draw, rfl, cf__law_draw, bf__law_draw⟩
theorem bf__law_cell : BdOk df__law_cell PF.f__law_cell pf__law_cell := .n rfl rfl fun _ _ _ _ _ _ us hl => match us, hl with | [_], _ => rfl
theorem rf__law_cell : RowOk P "_law_cell" PF.f__law_cell df__law_cell Nf__law_cell pf__law_cell := ⟨sf__law_cell, rfl, cf__law_cell, bf__law_cell⟩
theorem bf_Reader___init__ : BdOk df_Reader___init__ PF.f_Reader___init__ pf_Reader___init__ := .n rfl rfl fun _ _ _ _ _ _ us hl => match us, hl with | [_, _], _ => rfl
theorem rf_Reader___init__ : RowOk P "Reader.__init__" PF.f_Reader___init__ df_Reader___init__ Nf_Reader___init__ pf_Reader___init__ := ⟨sf_Reader___init__, rfl, cf_Reader___init__, bf_Reader___init__⟩
theorem bf_check_lines : BdOk df_check_lines PF.f_check_lines pf_check_lines := .n rfl rfl fun _ _ _ _ _ _ us hl => match us, hl with | [_], _ => rfl
theorem rf_check_lines : RowOk P "check_lines" PF.f_check_lines df_check_lines Nf_check_lines pf_check_lines := ⟨sf_check_lines, rfl, cf_check_lines, bf_check_lines⟩
theorem bf_fits_name : BdOk df_fits_name PF.f_fits_name pf_fits_name := .n rfl rfl fun _ _ _ _ _ _ us hl => match us, hl with | [_], _ => rfl
theorem rf_fits_name : RowOk P "fits_name" PF.f_fits_name df_fits_name Nf_fits_name pf_fits_name := ⟨sf_fits_name, rfl, cf_fits_name, bf_fits_name⟩
theorem bf_fits_line : BdOk df_fits_line PF.f_fits_line pf_fits_line := .n rfl rfl fun _ _ _ _ _ _ us hl => match us, hl with | [_], _ => rfl
theorem rf_fits_line : RowOk P "fits_line" PF.f_fits_line df_fits_line Nf_fits_line pf_fits_line := ⟨sf_fits_line, rfl, cf_fits_line, bf_fits_line⟩
theorem bf_fits_ways : BdOk df_fits_ways PF.f_fits_ways pf_fits_ways := .n rfl rfl fun _ _ _ _ _ _ us hl => match us, hl with | [_], _ => rfl
theorem rf_fits_ways : RowOk P "fits_ways" PF.f_fits_ways df_fits_ways Nf_fits_ways pf_fits_ways := ⟨sf_fits_ways, rfl, cf_fits_ways, bf_fits_ways⟩
theorem bf_targets_of : BdOk df_targets_of PF.f_targets_of pf_targets_of := .n rfl rfl fun _ _ _ _ _ _ us hl => match us, hl with | [_], _ => rfl
theorem rf_targets_of : RowOk P "targets_of" PF.f_targets_of df_targets_of Nf_targets_of pf_targets_of := ⟨sf_targets_of, rfl, cf_targets_of, bf_targets_of⟩
theorem bf_tidy_line : BdOk df_tidy_line PF.f_tidy_line pf_tidy_line := .n rfl rfl fun _ _ _ _ _ _ us hl => match us, hl with | [_], _ => rfl
theorem rf_tidy_line : RowOk P "tidy_line" PF.f_tidy_line df_tidy_line Nf_tidy_line pf_tidy_line := ⟨sf_tidy_line, rfl, cf_tidy_line, bf_tidy_line⟩
theorem bf_check_ways : BdOk df_check_ways PF.f_check_ways pf_check_ways := .n rfl rfl fun _ _ _ _ _ _ us hl => match us, hl with | [_], _ => rfl
theorem rf_check_ways : RowOk P "check_ways" PF.f_check_ways df_check_ways Nf_check_ways pf_check_ways := ⟨sf_check_ways, rfl, cf_check_ways, bf_check_ways⟩
theorem bf_silent_ways : BdOk df_silent_ways PF.f_silent_ways pf_silent_ways := .n rfl rfl fun _ _ _ _ _ _ us hl => match us, hl with | [_], _ => rfl
theorem rf_silent_ways : RowOk P "silent_ways" PF.f_silent_ways df_silent_ways Nf_silent_ways pf_silent_ways := ⟨sf_silent_ways, rfl, cf_silent_ways, bf_silent_ways⟩
theorem bf_reached : BdOk df_reached PF.f_reached pf_reached := .n rfl rfl fun _ _ _ _ _ _ us hl => match us, hl with | [_, _], _ => rfl
theorem rf_reached : RowOk P "reached" PF.f_reached df_reached Nf_reached pf_reached := ⟨sf_reached, rfl, cf_reached, bf_reached⟩
theorem bf_begin : BdOk df_begin PF.f_begin pf_begin := .n rfl rfl fun _ _ _ _ _ _ us hl => match us, hl with | [_], _ => rfl
theorem rf_begin : RowOk P "begin" PF.f_begin df_begin Nf_begin pf_begin := ⟨sf_begin, rfl, cf_begin, bf_begin⟩
theorem bf_settle : BdOk df_settle PF.f_settle pf_settle := .n rfl rfl fun _ _ _ _ _ _ us hl => match us, hl with | [_, _, _], _ => rfl
theorem rf_settle : RowOk P "settle" PF.f_settle df_settle Nf_settle pf_settle := ⟨sf_settle, rfl, cf_settle, bf_settle⟩
theorem bf__law_places : BdOk df__law_places PF.f__law_places pf__law_places := .n rfl rfl fun _ _ _ _ _ _ us hl => match us, hl with | [_, _], _ => rfl
theorem rf__law_places : RowOk P "_law_places" PF.f__law_places df__law_places Nf__law_places pf__law_places := ⟨sf__law_places, rfl, cf__law_places, bf__law_places⟩
theorem bf_cuts : BdOk df_cuts PF.f_cuts pf_cuts := .n rfl rfl fun _ _ _ _ _ _ us hl => match us, hl with | [_, _], _ => rfl
theorem rf_cuts : RowOk P "cuts" PF.f_cuts df_cuts Nf_cuts pf_cuts := ⟨sf_cuts, rfl, cf_cuts, bf_cuts⟩
theorem bf_traced : BdOk df_traced PF.f_traced pf_traced := .n rfl rfl fun _ _ _ _ _ _ us hl => match us, hl with | [_, _], _ => rfl
theorem rf_traced : RowOk P "traced" PF.f_traced df_traced Nf_traced pf_traced := ⟨sf_traced, rfl, cf_traced, bf_traced⟩
theorem bf_step : BdOk df_step PF.f_step pf_step := .n rfl rfl fun _ _ _ _ _ _ us hl => match us, hl with | [_, _, _], _ => rfl
theorem rf_step : RowOk P "step" PF.f_step df_step Nf_step pf_step := ⟨sf_step, rfl, cf_step, bf_step⟩
theorem bf_exit_of : BdOk df_exit_of PF.f_exit_of pf_exit_of := .n rfl rfl fun _ _ _ _ _ _ us hl => match us, hl with | [_, _], _ => rfl
theorem rf_exit_of : RowOk P "exit_of" PF.f_exit_of df_exit_of Nf_exit_of pf_exit_of := ⟨sf_exit_of, rfl, cf_exit_of, bf_exit_of⟩
theorem bf_kept_by : BdOk df_kept_by PF.f_kept_by pf_kept_by := .n rfl rfl fun _ _ _ _ _ _ us hl => match us, hl with | [_, _, _], _ => rfl
theorem rf_kept_by : RowOk P "kept_by" PF.f_kept_by df_kept_by Nf_kept_by pf_kept_by := ⟨sf_kept_by, rfl, cf_kept_by, bf_kept_by⟩
theorem bf_compiled : BdOk df_compiled PF.f_compiled pf_compiled := by
  refine .d (by decide) rfl fun n h1 h2 T kV doc pm an cdv ct us its hu hi => ?_
  have h1 : n ≤ 2 := h1
  have h2 : 2 - n ≤ 1 := h2
  have hi : its.length = 1 := hi
  have hn : n = 1 ∨ n = 2 := by omega
  rcases hn with rfl | rfl
  · match us, hu, its, hi with
    | [_], _, [_], _ => exact ⟨_, rfl, rfl⟩
  · match us, hu, its, hi with
    | [_, _], _, [_], _ => exact ⟨_, rfl, rfl⟩
theorem rf_compiled : RowOk P "compiled" PF.f_compiled df_compiled Nf_compiled pf_compiled := ⟨sf_compiled, rfl, cf_compiled, bf_compiled⟩
theorem bf_Reader_names : BdOk df_Reader_names PF.f_Reader_names pf_Reader_names := .n rfl rfl fun _ _ _ _ _ _ us hl => match us, hl with | [_], _ => rfl
theorem rf_Reader_names : RowOk P "Reader.names" PF.f_Reader_names df_Reader_names Nf_Reader_names pf_Reader_names := ⟨sf_Reader_names, rfl, cf_Reader_names, bf_Reader_names⟩
theorem bf_numbered : BdOk df_numbered PF.f_numbered pf_numbered := .n rfl rfl fun _ _ _ _ _ _ us hl => match us, hl with | [_, _, _], _ => rfl
theorem rf_numbered : RowOk P "numbered" PF.f_numbered df_numbered Nf_numbered pf_numbered := ⟨sf_numbered, rfl, cf_numbered, bf_numbered⟩
theorem bf_Machine___init__ : BdOk df_Machine___init__ PF.f_Machine___init__ pf_Machine___init__ := .n rfl rfl fun _ _ _ _ _ _ us hl => match us, hl with | [_, _, _], _ => rfl
theorem rf_Machine___init__ : RowOk P "Machine.__init__" PF.f_Machine___init__ df_Machine___init__ Nf_Machine___init__ pf_Machine___init__ := ⟨sf_Machine___init__, rfl, cf_Machine___init__, bf_Machine___init__⟩
theorem bf_cells_of : BdOk df_cells_of PF.f_cells_of pf_cells_of := .n rfl rfl fun _ _ _ _ _ _ us hl => match us, hl with | [_], _ => rfl
theorem rf_cells_of : RowOk P "cells_of" PF.f_cells_of df_cells_of Nf_cells_of pf_cells_of := ⟨sf_cells_of, rfl, cf_cells_of, bf_cells_of⟩
theorem bf_Row_cells : BdOk df_Row_cells PF.f_Row_cells pf_Row_cells := .n rfl rfl fun _ _ _ _ _ _ us hl => match us, hl with | [_], _ => rfl
theorem rf_Row_cells : RowOk P "Row.cells" PF.f_Row_cells df_Row_cells Nf_Row_cells pf_Row_cells := ⟨sf_Row_cells, rfl, cf_Row_cells, bf_Row_cells⟩
theorem bf_Row_size : BdOk df_Row_size PF.f_Row_size pf_Row_size := .n rfl rfl fun _ _ _ _ _ _ us hl => match us, hl with | [_], _ => rfl
theorem rf_Row_size : RowOk P "Row.size" PF.f_Row_size df_Row_size Nf_Row_size pf_Row_size := ⟨sf_Row_size, rfl, cf_Row_size, bf_Row_size⟩
theorem bf_to_row : BdOk df_to_row PF.f_to_row pf_to_row := .n rfl rfl fun _ _ _ _ _ _ us hl => match us, hl with | [_], _ => rfl
theorem rf_to_row : RowOk P "to_row" PF.f_to_row df_to_row Nf_to_row pf_to_row := ⟨sf_to_row, rfl, cf_to_row, bf_to_row⟩
theorem bf_Row___init__ : BdOk df_Row___init__ PF.f_Row___init__ pf_Row___init__ := by
  refine .d (by decide) rfl fun n h1 h2 T kV doc pm an cdv ct us its hu hi => ?_
  have h1 : n ≤ 3 := h1
  have h2 : 3 - n ≤ 2 := h2
  have hi : its.length = 2 := hi
  have hn : n = 1 ∨ n = 2 ∨ n = 3 := by omega
  rcases hn with rfl | rfl | rfl
  · match us, hu, its, hi with
    | [_], _, [_, _], _ => exact ⟨_, rfl, rfl⟩
  · match us, hu, its, hi with
    | [_, _], _, [_, _], _ => exact ⟨_, rfl, rfl⟩
  · match us, hu, its, hi with
    | [_, _, _], _, [_, _], _ => exact ⟨_, rfl, rfl⟩
theorem rf_Row___init__ : RowOk P "Row.__init__" PF.f_Row___init__ df_Row___init__ Nf_Row___init__ pf_Row___init__ := ⟨sf_Row___init__, rfl, cf_Row___init__, bf_Row___init__⟩
theorem bf_check_cells : BdOk df_check_cells PF.f_check_cells pf_check_cells := .n rfl rfl fun _ _ _ _ _ _ us hl => match us, hl with | [_], _ => rfl
theorem rf_check_cells : RowOk P "check_cells" PF.f_check_cells df_check_cells Nf_check_cells pf_check_cells := ⟨sf_check_cells, rfl, cf_check_cells, bf_check_cells⟩
theorem bf_merged : BdOk df_merged PF.f_merged pf_merged := .n rfl rfl fun _ _ _ _ _ _ us hl => match us, hl with | [_], _ => rfl
theorem rf_merged : RowOk P "merged" PF.f_merged df_merged Nf_merged pf_merged := ⟨sf_merged, rfl, cf_merged, bf_merged⟩
theorem rowsOk : RowsOk P rows := by
  intro f g h
  have h := mem_lk (show P.fns.lookup f = some g from h)
  simp only [P, List.mem_cons, List.not_mem_nil, or_false, Prod.mk.injEq] at h
  rcases h with ⟨rfl, rfl⟩ | ⟨rfl, rfl⟩ | ⟨rfl, rfl⟩ | ⟨rfl, rfl⟩ | ⟨rfl, rfl⟩ | ⟨rfl, rfl⟩ | ⟨rfl, rfl⟩ | ⟨rfl, rfl⟩ | ⟨rfl, rfl⟩ | ⟨rfl, rfl⟩ | ⟨rfl, rfl⟩ | ⟨rfl, rfl⟩ | ⟨rfl, rfl⟩ | ⟨rfl, rfl⟩ | ⟨rfl, rfl⟩ | ⟨rfl, rfl⟩ | ⟨rfl, rfl⟩ | ⟨rfl, rfl⟩ | ⟨rfl, rfl⟩ | ⟨rfl, rfl⟩ | ⟨rfl, rfl⟩ | ⟨rfl, rfl⟩ | ⟨rfl, rfl⟩ | ⟨rfl, rfl⟩ | ⟨rfl, rfl⟩ | ⟨rfl, rfl⟩ | ⟨rfl, rfl⟩ | ⟨rfl, rfl⟩ | ⟨rfl, rfl⟩ | ⟨rfl, rfl⟩ | ⟨rfl, rfl⟩ | ⟨rfl, rfl⟩ | ⟨rfl, rfl⟩ | ⟨rfl, rfl⟩
  · exact ⟨_, _, _, by kernel_rfl, rf_law⟩
  · exact ⟨_, _, _, by kernel_rfl, rf__law_names⟩
  · exact ⟨_, _, _, by kernel_rfl, rf__law_word⟩
  · exact ⟨_, _, _, by kernel_rfl, rf__law_draw⟩
  · exact ⟨_, _, _, by kernel_rfl, rf__law_cell⟩
  · exact ⟨_, _, _, by kernel_rfl, rf_Reader___init__⟩
  · exact ⟨_, _, _, by kernel_rfl, rf_check_lines⟩
  · exact ⟨_, _, _, by kernel_rfl, rf_fits_name⟩
  · exact ⟨_, _, _, by kernel_rfl, rf_fits_line⟩
  · exact ⟨_, _, _, by kernel_rfl, rf_fits_ways⟩
  · exact ⟨_, _, _, by kernel_rfl, rf_targets_of⟩
  · exact ⟨_, _, _, by kernel_rfl, rf_tidy_line⟩
  · exact ⟨_, _, _, by kernel_rfl, rf_check_ways⟩
  · exact ⟨_, _, _, by kernel_rfl, rf_silent_ways⟩
  · exact ⟨_, _, _, by kernel_rfl, rf_reached⟩
  · exact ⟨_, _, _, by kernel_rfl, rf_begin⟩
  · exact ⟨_, _, _, by kernel_rfl, rf_settle⟩
  · exact ⟨_, _, _, by kernel_rfl, rf__law_places⟩
  · exact ⟨_, _, _, by kernel_rfl, rf_cuts⟩
  · exact ⟨_, _, _, by kernel_rfl, rf_traced⟩
  · exact ⟨_, _, _, by kernel_rfl, rf_step⟩
  · exact ⟨_, _, _, by kernel_rfl, rf_exit_of⟩
  · exact ⟨_, _, _, by kernel_rfl, rf_kept_by⟩
  · exact ⟨_, _, _, by kernel_rfl, rf_compiled⟩
  · exact ⟨_, _, _, by kernel_rfl, rf_Reader_names⟩
  · exact ⟨_, _, _, by kernel_rfl, rf_numbered⟩
  · exact ⟨_, _, _, by kernel_rfl, rf_Machine___init__⟩
  · exact ⟨_, _, _, by kernel_rfl, rf_cells_of⟩
  · exact ⟨_, _, _, by kernel_rfl, rf_Row_cells⟩
  · exact ⟨_, _, _, by kernel_rfl, rf_Row_size⟩
  · exact ⟨_, _, _, by kernel_rfl, rf_to_row⟩
  · exact ⟨_, _, _, by kernel_rfl, rf_Row___init__⟩
  · exact ⟨_, _, _, by kernel_rfl, rf_check_cells⟩
  · exact ⟨_, _, _, by kernel_rfl, rf_merged⟩
end LW

end

section
set_option maxHeartbeats 0
namespace LW
open PySem PySem.Spec PyProof.Rows L2 SP PySem.W
abbrev R : PySem.W.OpenRow := PySem.W.OpenLaw.row PySem.Challenge.rw_splitalike_k01_cuts_by_lengths
abbrev hk : PySem.W.Hook := hookS 6 (rows.map (·.2)) (tabT tabs) (exB rows P gl tabs)
def ob (s : PySem.W.SharedT) : AlS := lookSG 6 (rows.map (·.2)) (tabT tabs) (exB rows P gl tabs) (HandSHeadRun.getT s)
theorem ob_eq (s : PySem.W.SharedT) : ob s = hk.obs s.abs := lookSG_eq (HandSHeadRun.getT_eq s)
theorem run_f (w : World) : HandSHeadRun.RunEq R (PySem.W.view R.prog [55]) hk ob 20000 names (w.withFollow "special-get-raises" false) := by
  intro os
  kernel_rfl
theorem run_t (w : World) : HandSHeadRun.RunEq R (PySem.W.view R.prog [55]) hk ob 20000 names (w.withFollow "special-get-raises" true) := by
  intro os
  kernel_rfl
theorem run (w : World) : HandSHeadRun.RunEq R (PySem.W.view R.prog [55]) hk ob 20000 names w := byRow2 "special-get-raises" run_f run_t w
end LW

end

section
set_option maxHeartbeats 0
open PySem PySem.W PySem.Calls PyProof.Rows
theorem PySem.Challenge.cw_splitalike_k01_cuts_by_lengths_holds : PySem.Challenge.rw_splitalike_k01_cuts_by_lengths.Holds := by
  w_on; o_law
  refine HandSHeadRun.head_any (r := OpenLaw.row PySem.Challenge.rw_splitalike_k01_cuts_by_lengths) (q := view (OpenLaw.row PySem.Challenge.rw_splitalike_k01_cuts_by_lengths).prog [55]) (H := LW.hk) (ob := LW.ob) (M := 20000) (loose := LW.names) (d := HandSHeadRun.topDef (OpenLaw.row PySem.Challenge.rw_splitalike_k01_cuts_by_lengths).prog 55) (kwd := []) LW.ob_eq
    (by kernel_rfl) (fun s => by kernel_rfl) LW.run (by kernel_rfl) (by kernel_rfl) (by kernel_rfl) (by rfl) (by first | assumption | decide +kernel) (by decide +kernel) ⟨rfl, rfl, rfl, rfl, rfl, by decide +kernel⟩ ?hw ?hc
  case hw => w_witness2
  case hc =>
    refine L2.walk_ofE (l := PySem.Challenge.rw_splitalike_k01_cuts_by_lengths) (n := 63) (k := 2 * 20 + 2) (x := "_law_script") (CX := L2.CX0) rfl (by decide) (by kernel_rfl) ⟨rfl, by decide, by decide⟩ ?F (fun _ _ _ _ z => z)
    intro w mg fa h Y G hmg0
    have hmg : mg (Str.ofString "law") = some (.ref fa) := by
      have e : (HandSHeadRun.topDef (OpenLaw.row PySem.Challenge.rw_splitalike_k01_cuts_by_lengths).prog 55).name = (Str.ofString "law") := by kernel_rfl
      rw [← e]
      exact hmg0
    exact SP.law_F (l := PySem.Challenge.rw_splitalike_k01_cuts_by_lengths) (P := LW.P) (rows := LW.rows) (gl := LW.gl) (tabs := LW.tabs) (n := 63) (m := 20) (g := LW.f_law) (x := LW.df_law) (N := LW.Nf_law) (nm := "_law_script") rfl LW.rowsOk (by kernel_rfl) (by kernel_rfl) LW.rf_law rfl (fun _ _ _ _ _ _ us hl => match us, hl with | [_], _ => rfl) (by decide +kernel) SP.hev w mg fa h Y G hmg

end
