import PyProof.Rows.All
import HandS.ForMost
import HandS.ForExc
import HandS.Words
import HandS.TupAny
import HandS.TupMul
import HandS.Deep
import HandS.Style
import HandS.Dict
import HandS.RaiseMore
import HandS.Text
import HandS.Conv
import PyProof.TupleOfStr
import PyProof.ListStr
import HandS.Comp
import HandS.Iter
import HandS.Exc
import HandS.IsInst
import HandS.Strs
import PyProof.AutoSeq1
import HandS.ExcOwn
import KE.GoesEnum
import HandS.Small
import KE.KExcIs
import HandS.SetKeys
import HandS.Defaults
import HandS.Ends
import HandS.HeadEnd
import HandS.HeadHook4
import KE.KStateDown
import HandS.Head0
import HandS.Head1
import HandS.Head2
import PySem.Challenge.RW_crossfill_k05_whole_grids_looked_at
set_option linter.all false
/-! ZSem: a small functional language, the form into which the defs are put, and what it computes. -/
namespace Z
open PySem

abbrev Ky := Sum Int Str

/-- what a name of a frame holds: frozen data, or an object that is owned (changed in place) -/
inductive C where
  | d (x : PyData)
  | lst (cs : List C)
  | dct (kvs : List (Ky × C))
  | obj (k : Nat) (fs : List (Str × C))
  | exc (k : Nat) (fs : List (Str × PyData))

def kyD : Ky → PyData
  | .inl i => .int i
  | .inr s => .str s
def dKy : PyData → Option Ky
  | .int i => some (.inl i)
  | .str s => some (.inr s)
  | _ => none

mutual
def C.toD : C → Option PyData
  | .d x => some x
  | .lst cs => (C.toDs cs).map .list
  | .dct kvs => (C.toKv kvs).map .dict
  | .obj _ _ => none
  | .exc _ _ => none
def C.toDs : List C → Option (List PyData)
  | [] => some []
  | c :: cs => c.toD.bind fun x => (C.toDs cs).map (x :: ·)
def C.toKv : List (Ky × C) → Option (List (PyData × PyData))
  | [] => some []
  | (k, c) :: r => c.toD.bind fun x => (C.toKv r).map ((kyD k, x) :: ·)
end
/-- the data of a flat object -/
def C.flat1 : C → Option PyData
  | .d x => some x
  | _ => none
def flats : List C → Option (List PyData)
  | [] => some []
  | c :: cs => c.flat1.bind fun x => (flats cs).map (x :: ·)
def flatKv : List (Ky × C) → Option (List (PyData × PyData))
  | [] => some []
  | (k, c) :: r => c.flat1.bind fun x => (flatKv r).map ((kyD k, x) :: ·)
def C.flat : C → Option PyData
  | .d x => some x
  | .lst cs => (flats cs).map .list
  | .dct kvs => (flatKv kvs).map .dict
  | _ => none

inductive Sel where
  | fld (f : Str)
  | idx (k : Nat)
  | key (k : Ky)
  deriving DecidableEq

abbrev Env := List (Option C)

def setA {α : Type} [DecidableEq α] (l : List (α × C)) (k : α) (c : C) : List (α × C) :=
  match l with
  | [] => [(k, c)]
  | (j, x) :: r => if j = k then (j, c) :: r else (j, x) :: setA r k c

def getA {α : Type} [DecidableEq α] (l : List (α × C)) (k : α) : Option C :=
  match l with
  | [] => none
  | (j, x) :: r => if j = k then some x else getA r k

def C.get : C → Sel → Option C
  | .lst cs, .idx k => cs[k]?
  | .dct kvs, .key k => getA kvs k
  | .obj _ fs, .fld f => fs.lookup f
  | _, _ => none
def C.put : C → Sel → C → C
  | .lst cs, .idx k, x => .lst (cs.set k x)
  | .dct kvs, .key k, x => .dct (setA kvs k x)
  | .obj c fs, .fld f, x => .obj c (setA fs f x)
  | c, _, _ => c
def C.getP : C → List Sel → Option C
  | c, [] => some c
  | c, s :: p => (c.get s).bind fun x => x.getP p
def C.putP : C → List Sel → C → C
  | _, [], x => x
  | c, s :: p, x => match c.get s with
    | some y => c.put s (y.putP p x)
    | none => c

/-- a value: one's own, or what stands at a place of the frame -/
inductive Val where
  | own (c : C)
  | bor (i : Nat) (p : List Sel)

/-- an exception -/
structure Exn where
  k : Nat
  fs : List (Str × PyData)

inductive Res (α : Type) where
  | ok (a : α) (ρ : Env)
  | exc (x : Exn) (ρ : Env)
  | bad
def Res.bind {α β : Type} (r : Res α) (f : α → Env → Res β) : Res β :=
  match r with
  | .ok a ρ => f a ρ
  | .exc x ρ => .exc x ρ
  | .bad => .bad
/-- no exception leaves -/
def Res.inner {α β : Type} (r : Res α) (f : α → Env → Res β) : Res β :=
  match r with
  | .ok a ρ => f a ρ
  | _ => .bad
@[simp] theorem inner_ok {α β : Type} (a : α) (ρ : Env) (f : α → Env → Res β) : (Res.ok a ρ).inner f = f a ρ := rfl
def Res.of {α : Type} (o : Option α) (ρ : Env) : Res α :=
  match o with
  | some a => .ok a ρ
  | none => .bad
@[simp] theorem bind_ok {α β : Type} (a : α) (ρ : Env) (f : α → Env → Res β) : (Res.ok a ρ).bind f = f a ρ := rfl
@[simp] theorem bind_exc {α β : Type} (x : Exn) (ρ : Env) (f : α → Env → Res β) : (Res.exc x ρ : Res α).bind f = .exc x ρ := rfl
@[simp] theorem bind_bad {α β : Type} (f : α → Env → Res β) : (Res.bad : Res α).bind f = .bad := rfl
@[simp] theorem of_some {α : Type} (a : α) (ρ : Env) : Res.of (some a) ρ = .ok a ρ := rfl
@[simp] theorem of_none {α : Type} (ρ : Env) : Res.of (none : Option α) ρ = .bad := rfl

def slot (ρ : Env) (i : Nat) : Option C := (ρ[i]?).bind id
def look (ρ : Env) : Val → Option C
  | .own c => some c
  | .bor i p => (slot ρ i).bind fun c => c.getP p
def putV (ρ : Env) (i : Nat) (p : List Sel) (x : C) : Env :=
  match slot ρ i with
  | some c => ρ.set i (some (c.putP p x))
  | none => ρ
/-- read -/
def peek (ρ : Env) (v : Val) : Option PyData := (look ρ v).bind C.flat
/-- kept: frozen where it stands -/
def frz (ρ : Env) : Val → Res PyData
  | .own c => Res.of c.toD ρ
  | .bor i p => match (look ρ (.bor i p)).bind C.toD with
    | some x => .ok x (putV ρ i p (.d x))
    | none => .bad
/-- given to a name -/
def take (io : List Nat) (ρ : Env) : Val → Res C
  | .own c => .ok c ρ
  | .bor i p => match (look ρ (.bor i p)).bind C.toD with
    | some x => if p.isEmpty && !io.contains i then Res.of ((slot ρ i).map id) (ρ.set i none) else .ok (.d x) (putV ρ i p (.d x))
    | none => if p.isEmpty && !io.contains i then Res.of ((slot ρ i).map id) (ρ.set i none) else .bad

def fresh (xs : List PyData) : C := .lst (xs.map .d)

inductive O2 where
  | add | sub | mul | fdiv | mod | pow | shr | band | eq | ne | lt | le | gt | ge | isin | notin
  deriving DecidableEq
inductive BI where
  | len | all | any | abs | int | str | repr | tuple | list | range | trange | min | max | maxd | sum | sorted | sortset | lenset | dict | dzip | zip
  deriving DecidableEq
inductive Mt where
  | append | extend | insert | pop | index | count | join | partition | split | strip | replace | upper | get | setdefault | update
  deriving DecidableEq
inductive Ty where
  | int | str | bool | list | tuple | cls (k : Nat) | valueError
  deriving DecidableEq
inductive Tg where
  | nm (i : Nat)
  | tup (ts : List Tg)
inductive ItK where
  | pl | enum | zip | range | rev
  deriving DecidableEq

inductive E where
  | var (i : Nat)
  | lit (x : PyData)
  | glob (n : Str) (x : PyData)
  | tup (es : List E)
  | lst (es : List E)
  | dict (ks : List Ky) (es : List E)
  | keep (e : E)
  | fz (e : E)
  | o2 (o : O2) (a b : E)
  | neg (a : E)
  | chain (o o' : O2) (a b c : E)
  | and (es : List E)
  | or (es : List E)
  | not (a : E)
  | ite (c a b : E)
  | isNone (a : E)
  | notNone (a : E)
  | isB (b : Bool) (a : E)
  | notB (b : Bool) (a : E)
  | bi (f : BI) (es : List E)
  | meth (m : Mt) (o : E) (es : List E)
  | sub (a i : E)
  | slc (a : E) (lo hi : Option E)
  | rev (a : E)
  | comp (elt : E) (tg : Tg) (k : ItK) (src : List E) (cond : List E) (own : List Nat)
  | call (f : Nat) (es : List E)
  | mcall (m : Str) (o : E) (es : List E)
  | new (k : Nat) (es : List E)
  | fld (o : E) (f : Str)
  | isi (a : E) (ts : List Ty)

inductive S where
  | assign (i : Nat) (e : E)
  | unpack (tg : Tg) (e : E)
  | par (is : List Nat) (es : List E)
  | setIx (o i e : E)
  | setHd (o : E) (n : Nat) (e : E)
  | swap (o i j : E)
  | setFld (o : E) (f : Str) (e : E)
  | ex (e : E)
  | ret (e : E)
  | ret0
  | iff (c : E) (a b : List S)
  | for (tg : Tg) (k : ItK) (src : List E) (body : List S)
  | while (c : E) (body : List S)
  | raise (k : Nat) (es : List E)
  | tryE (body : List S) (k n t : Nat)
  | pass
  | cont

structure Fd where
  np : Nat
  io : List Nat
  ns : Nat
  body : List S
structure Cls where
  init : Option Nat
  meths : List (Str × Nat)
  /-- the class and those above it -/
  up : List Nat
  fields : List Str
structure Tab where
  fns : List Fd
  cls : List Cls

inductive FRes where
  | ok (r : C) (fin : List (Option C))
  | exc (x : Exn) (fin : List (Option C))
  | bad

/-! ### data -/
def seqI (n : Nat) (i : Int) : Option Nat := if 0 ≤ i then (if i < n then some i.toNat else none) else if -(n : Int) ≤ i then some (i + n).toNat else none
def strAt (s : Str) (k : Nat) : Option Str := (s.cps.toList[k]?).map fun c => ⟨#[c]⟩
def chars (s : Str) : List PyData := s.cps.toList.map fun c => .str ⟨#[c]⟩
def rep {α : Type} (xs : List α) (n : Int) : List α := (List.replicate n.toNat xs).flatten
def strOf (l : List Nat) : Str := ⟨l.toArray⟩

def scalar : PyData → Bool
  | .none | .bool _ | .int _ | .str _ => true
  | _ => false
def eqOkL (xs ys : List PyData) : Bool := xs.isEmpty || ys.isEmpty || (PyData.canLayAll0 xs && PyData.canLayAll0 ys && (decide (PyData.depthAll xs ≤ 60) || decide (PyData.depthAll ys ≤ 60)))
def eqOk : PyData → PyData → Bool
  | .dict _, _ => false
  | _, .dict _ => false
  | .list xs, .list ys => eqOkL xs ys
  | .tuple xs, .tuple ys => eqOkL xs ys
  | _, _ => true
def mem (x : PyData) (ys : List PyData) : Bool := ys.any fun y => PyData.eqv y x
def memOk (x : PyData) (ys : List PyData) : Bool := (scalar x && ys.all scalar) || (x.canLay0 && PyData.canLayAll0 ys && (decide (x.depth ≤ 60)))
def subStr (x y : Str) : Bool := Txt.contains y x
def cutL {α : Type} (xs : List α) (lo hi : Option Int) : List α := (xs.drop (HT.sIx xs.length 0 lo)).take (HT.sIx xs.length xs.length hi - HT.sIx xs.length 0 lo)
def cutStr (s : Str) (lo hi : Option Int) : Str := strOf (cutL s.cps.toList lo hi)

def b (x : Bool) : C := .d (.bool x)
def i (x : Int) : C := .d (.int x)

def hasK (k : Ky) (ps : List (PyData × PyData)) : Bool := ps.any fun p => match dKy p.1 with
  | some j => decide (j = k)
  | none => false
def sem2 : O2 → PyData → PyData → Option C
  | .add, .int x, .int y => some (.d (.int (x + y)))
  | .add, .str x, .str y => if x.length + y.length ≤ 16777216 then some (.d (.str (x ++ y))) else none
  | .add, .list x, .list y => if x.length + y.length ≤ 16777216 then some (fresh (x ++ y)) else none
  | .add, .tuple x, .tuple y => if x.length + y.length ≤ 16777216 then some (.d (.tuple (x ++ y))) else none
  | .sub, .int x, .int y => some (.d (.int (x - y)))
  | .mul, .int x, .int y => if x.natAbs < 2 ^ 64 ∨ y.natAbs < 2 ^ 64 then some (.d (.int (x * y))) else none
  | .mul, .list x, .int n => if x.length ≤ 1000 ∧ -1000 ≤ n ∧ n ≤ 1000 then some (fresh (rep x n)) else none
  | .mul, .tuple x, .int n => if x.length ≤ 1000 ∧ -1000 ≤ n ∧ n ≤ 1000 then some (.d (.tuple (rep x n))) else none
  | .mul, .str x, .int n => if x.length ≤ 1000 ∧ -10000 ≤ n ∧ n ≤ 10000 then some (.d (.str (strOf (rep x.cps.toList n)))) else none
  | .fdiv, .int x, .int y => if y = 0 ∨ 1073741824 ≤ y.natAbs then none else some (.d (.int (x.fdiv y)))
  | .mod, .int x, .int y => if y = 0 then none else some (.d (.int (x.fmod y)))
  | .pow, .int x, .int y => if 0 ≤ y ∧ y ≤ 1000000 ∧ x.natAbs < 2 ^ 64 then some (.d (.int (x ^ y.toNat))) else none
  | .shr, .int x, .int y => if 0 ≤ y then some (.d (.int (x / 2 ^ y.toNat))) else none
  | .band, .int x, .int y => some (.d (.int (Builtin.bitAnd x y)))
  | .eq, x, y => if eqOk x y then some (.d (.bool (PyData.eqv x y))) else none
  | .ne, x, y => if eqOk x y then some (.d (.bool (!PyData.eqv x y))) else none
  | .lt, .int x, .int y => some (.d (.bool (decide (x < y))))
  | .le, .int x, .int y => some (.d (.bool (decide (x ≤ y))))
  | .gt, .int x, .int y => some (.d (.bool (decide (y < x))))
  | .ge, .int x, .int y => some (.d (.bool (decide (y ≤ x))))
  | .isin, .str x, .str y => some (.d (.bool (subStr x y)))
  | .isin, x, .list ys => if memOk x ys then some (.d (.bool (mem x ys))) else none
  | .isin, x, .tuple ys => if memOk x ys then some (.d (.bool (mem x ys))) else none
  | .isin, x, .dict ps => (dKy x).map fun k => .d (.bool (hasK k ps))
  | .notin, x, .dict ps => (dKy x).map fun k => .d (.bool (!hasK k ps))
  | .notin, .str x, .str y => some (.d (.bool (!subStr x y)))
  | .notin, x, .list ys => if memOk x ys then some (.d (.bool (!mem x ys))) else none
  | .notin, x, .tuple ys => if memOk x ys then some (.d (.bool (!mem x ys))) else none
  | _, _, _ => none

def intsD : List PyData → Option (List Int)
  | [] => some []
  | .int i :: r => (intsD r).map (i :: ·)
  | _ :: _ => none
def boolsD : List PyData → Option (List Bool)
  | [] => some []
  | .bool i :: r => (boolsD r).map (i :: ·)
  | _ :: _ => none
def strsD : List PyData → Option (List Str)
  | [] => some []
  | .str i :: r => (strsD r).map (i :: ·)
  | _ :: _ => none
def listsD : List PyData → Option (List (List PyData))
  | [] => some []
  | .list i :: r => (listsD r).map (i :: ·)
  | _ :: _ => none
def pairsD : List PyData → Option (List (Ky × C))
  | [] => some []
  | .tuple [k, v] :: r => (dKy k).bind fun k => (pairsD r).map ((k, .d v) :: ·)
  | _ :: _ => none

/-- the items of what is walked -/
def items : PyData → Option (List PyData)
  | .list xs => some xs
  | .tuple xs => some xs
  | .str s => some (chars s)
  | _ => none
def rangeD (lo hi : Int) : List PyData := (List.range (hi - lo).toNat).map fun (k : Nat) => .int (lo + (k : Int))
def rangeOk (lo hi : Int) : Bool := decide (-(2 ^ 62) ≤ lo) && decide (lo < 2 ^ 62) && decide (-(2 ^ 62) ≤ hi) && decide (hi < 2 ^ 62)
def zipD (xs ys : List PyData) : List PyData := (xs.zip ys).map fun p => .tuple [p.1, p.2]
def enumD (k : Nat) : List PyData → List PyData
  | [] => []
  | x :: xs => .tuple [.int k, x] :: enumD (k + 1) xs

/-! a < b of data: whole numbers, texts, tuples of such -/
mutual
def ltD : PyData → PyData → Option Bool
  | .int x, .int y => some (decide (x < y))
  | .str x, .str y => some (decide (x.cps.toList < y.cps.toList))
  | .tuple xs, .tuple ys => ltDs xs ys
  | _, _ => none
def ltDs : List PyData → List PyData → Option Bool
  | [], [] => some false
  | [], _ :: _ => some true
  | _ :: _, [] => some false
  | x :: xs, y :: ys => if PyData.eqv x y then ltDs xs ys else ltD x y
end
/-- the least, of several the first -/
def minD : PyData → List PyData → Option PyData
  | m, [] => some m
  | m, x :: xs => (ltD x m).bind fun c => if c then minD x xs else minD m xs
def maxI : Int → List Int → Int
  | m, [] => m
  | m, x :: xs => maxI (if m < x then x else m) xs
def minI : Int → List Int → Int
  | m, [] => m
  | m, x :: xs => minI (if x < m then x else m) xs
def insD (x : PyData) : List PyData → Option (List PyData)
  | [] => some [x]
  | y :: ys => (ltD x y).bind fun c => if c then some (x :: y :: ys) else (insD x ys).map (y :: ·)
def sortD : List PyData → Option (List PyData)
  | [] => some []
  | x :: xs => (sortD xs).bind (insD x)

def addD (acc : List PyData) (x : PyData) : List PyData := if mem x acc then acc else acc ++ [x]
def dedup (xs : List PyData) : List PyData := xs.foldl addD []
def setOk : List PyData → Bool
  | [] => true
  | .int _ :: r => setOk r
  | .str _ :: r => setOk r
  | _ :: _ => false

def biSem : BI → List PyData → Option C
  | .len, [.list xs] => some (.d (.int xs.length))
  | .len, [.tuple xs] => some (.d (.int xs.length))
  | .len, [.str s] => if s.length ≤ 16777216 then some (.d (.int s.length)) else none
  | .all, [.list xs] => (boolsD xs).map fun bs => .d (.bool (bs.all id))
  | .any, [.list xs] => (boolsD xs).map fun bs => .d (.bool (bs.any id))
  | .abs, [.int x] => some (.d (.int x.natAbs))
  | .int, [.bool x] => some (.d (.int (if x then 1 else 0)))
  | .int, [.str s] => if s.cps.size ≤ 640 then (PySem.intText? s).map fun n => .d (.int n) else none
  | .str, [.int x] => if x.natAbs.log2 < 1920 then some (.d (.str (toString x : String))) else none
  | .str, [.str s] => some (.d (.str s))
  | .repr, [x] => if x.showable && decide (x.depth ≤ 60) && decide (x.shown.length ≤ 16777216) then some (.d (.str x.shown)) else none
  | .tuple, [x] => (items x).map fun xs => .d (.tuple xs)
  | .list, [x] => (items x).map fresh
  | .min, [.int x, .int y] => some (.d (.int (if y < x then y else x)))
  | .max, [.int x, .int y] => some (.d (.int (if x < y then y else x)))
  | .min, [.list (x :: xs)] => (minD x xs).map .d
  | .max, [.list xs] => (intsD xs).bind fun ns => match ns with | [] => none | x :: r => some (.d (.int (maxI x r)))
  | .sum, [.list xs] => (intsD xs).map fun ns => .d (.int ns.sum)
  | .sum, [.list xs, .list []] => (listsD xs).map fun ls => fresh ls.flatten
  | .sorted, [.list xs] => (sortD xs).map fresh
  | .lenset, [.str _] => none
  | .lenset, [x] => (items x).bind fun xs => if setOk xs && decide (xs.length ≤ 4000) then some (.d (.int (dedup xs).length)) else none
  | .dict, [.list xs] => (pairsD xs).map fun ps => .dct (ps.foldl (fun m p => setA m p.1 p.2) [])
  | .zip, [x, y] => (items x).bind fun xs => (items y).map fun ys => fresh (zipD xs ys)
  | .range, [.int n] => if rangeOk 0 n && decide (n ≤ 16777216) then some (fresh (rangeD 0 n)) else none
  | .range, [.int m, .int n] => if rangeOk m n && decide (n - m ≤ 16777216) then some (fresh (rangeD m n)) else none
  | .trange, [.int n] => if rangeOk 0 n && decide (n ≤ 16777216) then some (.d (.tuple (rangeD 0 n))) else none
  | .trange, [.int m, .int n] => if rangeOk m n && decide (n - m ≤ 16777216) then some (.d (.tuple (rangeD m n))) else none
  | .maxd, [.list xs, .int z] => (intsD xs).map fun ns => match ns with | [] => .d (.int z) | x :: r => .d (.int (maxI x r))
  | .sortset, [x] => (items x).bind fun xs => if setOk xs then (sortD (dedup xs)).map fresh else none
  | .dzip, [x, y] => (items x).bind fun xs => (items y).bind fun ys => (pairsD (zipD xs ys)).map fun ps => .dct (ps.foldl (fun m p => setA m p.1 p.2) [])
  | _, _ => none

def idxD (x : PyData) : List PyData → Option Nat
  | [] => none
  | y :: ys => if PyData.eqv y x then some 0 else (idxD x ys).map (· + 1)
/-- what is proved sound -/
def biSup : BI → List PyData → Bool
  | .tuple, [.str s] => decide (s.cps.size ≤ 16777216)
  | .list, [.str s] => decide (s.cps.size ≤ 16777216)
  | .min, [.list _] => false
  | .max, [.list _] => false
  | .sum, [_, _] => false
  | .int, [.str _] => false
  | .repr, [x] => !x.hasDict || (match x with | .dict [] => true | _ => false)
  | _, _ => true
def biS (f : BI) (xs : List PyData) : Option C := if biSup f xs then biSem f xs else none
def joinOk (sep : Str) (xs : List Str) : Bool := decide ((xs.map (·.length)).sum + xs.length * sep.length ≤ 16777216)
def joinD (sep : Str) (xs : List Str) : Str := Txt.join sep xs

/-- methods that only read -/
def mtSem : Mt → PyData → List PyData → Option C
  | .index, .list xs, [x] => if memOk x xs then (idxD x xs).map fun k => .d (.int k) else none
  | .index, .tuple xs, [x] => if memOk x xs then (idxD x xs).map fun k => .d (.int k) else none
  | .count, .list xs, [x] => if memOk x xs then some (.d (.int ((xs.filter fun y => PyData.eqv y x).length))) else none
  | .count, .str s, [.str t] => some (.d (.int (Txt.count s t)))
  | .join, .str s, [.list xs] => (strsD xs).bind fun ys => if joinOk s ys then some (.d (.str (joinD s ys))) else none
  | .join, .str s, [.tuple xs] => (strsD xs).bind fun ys => if joinOk s ys then some (.d (.str (joinD s ys))) else none
  | .split, .str s, [.str t] => if t.cps.size = 0 then none else some (fresh ((Txt.split s t).map .str))
  | .split, .str s, [] => some (fresh ((Txt.words s).map .str))
  | .strip, .str s, [] => some (.d (.str (Txt.strip s)))
  | .upper, .str s, [] => some (.d (.str (Txt.upper s)))
  | _, _, _ => none

/-- what is proved sound -/
def mtSupD : Mt → PyData → List PyData → Bool
  | .join, .str _, [_] => true
  | .index, .list xs, [x] => scalar x && xs.all scalar
  | _, _, _ => false
def mtSupO : Mt → Bool
  | .append => true
  | .extend => true
  | .pop => true
  | _ => false
def mOk : Mt → Nat → Bool
  | .append, 1 => true
  | .extend, 1 => true
  | .pop, 1 => true
  | .index, 1 => true
  | .join, 0 => true
  | _, _ => false
def kOk (m : Mt) : Option Nat → Bool
  | none => false
  | some k => mOk m k
/-- methods on what is owned: the answer, what it is then -/
def mtOwn : Mt → C → List C → Option (C × C)
  | .append, .lst cs, [x] => if cs.length < 16777216 then some (.d .none, .lst (cs ++ [x])) else none
  | .extend, .lst cs, [.d (.list xs)] => if cs.length + xs.length ≤ 16777216 then some (.d .none, .lst (cs ++ xs.map .d)) else none
  | .insert, .lst cs, [.d (.int k), x] => if 0 ≤ k ∧ k < 2 ^ 62 then some (.d .none, .lst (cs.take k.toNat ++ x :: cs.drop k.toNat)) else none
  | .pop, .lst cs, [] => (cs.getLast?).map fun x => (x, .lst cs.dropLast)
  | .pop, .lst cs, [.d (.int k)] => (seqI cs.length k).bind fun j => (cs[j]?).map fun x => (x, .lst (cs.eraseIdx j))
  | .get, .dct kvs, [.d k, .d x] => (dKy k).bind fun k => match getA kvs k with
    | some (.d y) => some (.d y, .dct kvs)
    | some _ => none
    | none => some (.d x, .dct kvs)
  | .setdefault, .dct kvs, [.d k, .d x] => (dKy k).bind fun k => match getA kvs k with
    | some (.d y) => some (.d y, .dct kvs)
    | some _ => none
    | none => some (.d x, .dct (setA kvs k (.d x)))
  | .update, .dct kvs, [.d (.dict ps)] => (ps.foldl (fun (m : Option (List (Ky × C))) p => m.bind fun m => (dKy p.1).map fun k => setA m k (.d p.2)) (some kvs)).map fun m => (.d .none, .dct m)
  | _, _, _ => none

def subD : PyData → PyData → Option PyData
  | .list xs, .int k => (seqI xs.length k).bind fun j => xs[j]?
  | .tuple xs, .int k => (seqI xs.length k).bind fun j => xs[j]?
  | .str s, .int k => if s.length ≤ 16777216 then (seqI s.length k).bind fun j => (strAt s j).map .str else none
  | _, _ => none
def cutD : PyData → Option Int → Option Int → Option C
  | .list xs, lo, hi => some (fresh (cutL xs lo hi))
  | .tuple xs, lo, hi => some (.d (.tuple (cutL xs lo hi)))
  | .str s, lo, hi => if s.length ≤ 16777216 then some (.d (.str (cutStr s lo hi))) else none
  | _, _, _ => none
def revD : PyData → Option C
  | .list xs => some (fresh xs.reverse)
  | .tuple xs => some (.d (.tuple xs.reverse))
  | _ => none

/-- the place that a subscript of an owned thing means -/
def selOf : C → PyData → Option Sel
  | .lst cs, .int k => (seqI cs.length k).map .idx
  | .dct _, .int k => some (.key (.inl k))
  | .dct _, .str k => some (.key (.inr k))
  | _, _ => none

def isTy (T : Tab) (c : C) : Ty → Option Bool
  | .cls k => match c with
    | .exc j _ => (T.cls[j]?).bind fun q => if q.up.contains j then some (q.up.contains k) else none
    | _ => none
  | .valueError => match c with
    | .exc j _ => (T.cls[j]?).bind fun q => if q.up.contains j then some true else none
    | _ => none
  | .int => match c with
    | .d (.int _) => some true
    | .d (.bool _) => some true
    | .d _ => some false
    | .lst _ => some false
    | _ => none
  | .bool => match c with
    | .d (.bool _) => some true
    | .d _ => some false
    | .lst _ => some false
    | _ => none
  | .str => match c with
    | .d (.str _) => some true
    | .d _ => some false
    | .lst _ => some false
    | _ => none
  | .list => match c with
    | .d (.list _) => some true
    | .d _ => some false
    | .lst _ => some true
    | _ => none
  | .tuple => match c with
    | .d (.tuple _) => some true
    | .d _ => some false
    | .lst _ => some false
    | _ => none
def isTys (T : Tab) (c : C) : List Ty → Option Bool
  | [] => some false
  | t :: ts => (isTy T c t).bind fun r => if r then some true else isTys T c ts

mutual
def setTg (io : List Nat) : Tg → PyData → Env → Option Env
  | .nm i, x, ρ => if i < ρ.length && !io.contains i then some (ρ.set i (some (.d x))) else none
  | .tup ts, x, ρ => match x with
    | .tuple xs => setTgs io ts xs ρ
    | _ => none
def setTgs (io : List Nat) : List Tg → List PyData → Env → Option Env
  | [], [], ρ => some ρ
  | t :: ts, x :: xs, ρ => (setTg io t x ρ).bind (setTgs io ts xs)
  | _, _, _ => none
end
def wipe (ρ : Env) : List Nat → Env
  | [] => ρ
  | v :: vs => (wipe ρ vs).set v none
/-- the names at vs as they stood -/
def unwipe (ρ₀ ρ : Env) : List Nat → Env
  | [] => ρ
  | v :: vs => (unwipe ρ₀ ρ vs).set v (slot ρ₀ v)

/-- what stands at vs is nothing or frozen -/
def ownD (ρ : Env) (vs : List Nat) : Bool := vs.all fun v => match slot ρ v with
  | none => true
  | some (.d _) => true
  | some _ => false
/-! ### loops -/
def compL {α : Type} (f : PyData → Env → Res (List α)) : List PyData → Env → Res (List α)
  | [], ρ => .ok [] ρ
  | x :: xs, ρ => (f x ρ).bind fun a ρ => (compL f xs ρ).bind fun as ρ => .ok (a ++ as) ρ

inductive Fl where
  | next
  | cont
  | ret (c : C)

def forL (f : PyData → Env → Res Fl) : List PyData → Env → Res Fl
  | [], ρ => .ok .next ρ
  | x :: xs, ρ => (f x ρ).bind fun r ρ => match r with
    | .ret c => .ok (.ret c) ρ
    | _ => forL f xs ρ
def whileL (c : Env → Res Bool) (f : Env → Res Fl) : Nat → Env → Res Fl
  | 0, _ => .bad
  | n + 1, ρ => (c ρ).bind fun t ρ => if t then (f ρ).bind fun r ρ => match r with
      | .ret x => .ok (.ret x) ρ
      | _ => whileL c f n ρ
    else .ok .next ρ

/-- the arguments of a call: what isn't changed there is frozen first, then the contents are told, and where they go back to -/
def args1 (io : List Nat) (k : Nat) : List Val → Env → Res (List Val)
  | [], ρ => .ok [] ρ
  | v :: vs, ρ => if io.contains k then (args1 io (k + 1) vs ρ).bind fun us ρ => .ok (v :: us) ρ
    else (frz ρ v).bind fun x ρ => (args1 io (k + 1) vs ρ).bind fun us ρ => .ok (.own (.d x) :: us) ρ
def args2 (ρ : Env) : List Val → Option (List C × List (Option Nat))
  | [] => some ([], [])
  | .own c :: vs => (args2 ρ vs).map fun r => (c :: r.1, none :: r.2)
  | .bor i [] :: vs => (slot ρ i).bind fun c => (args2 ρ vs).map fun r => (c :: r.1, some i :: r.2)
  | .bor _ (_ :: _) :: _ => none
def argsOf (io : List Nat) (k : Nat) (vs : List Val) (ρ : Env) : Res (List C × List (Option Nat)) := (args1 io k vs ρ).bind fun us ρ => Res.of (args2 ρ us) ρ
def goBack : List (Option Nat) → List (Option C) → Env → Option Env
  | [], [], ρ => some ρ
  | some j :: ps, some c :: cs, ρ => goBack ps cs (ρ.set j (some c))
  | some _ :: _, none :: _, _ => none
  | none :: ps, _ :: cs, ρ => goBack ps cs ρ
  | _, _, _ => none
def apart : List (Option Nat) → Bool
  | [] => true
  | none :: r => apart r
  | some j :: r => !r.contains (some j) && apart r
def doCall (io : List Nat) (f : List C → FRes) (vs : List Val) (ρ : Env) : Res C :=
  (argsOf io 0 vs ρ).bind fun a ρ => if apart a.2 then
      match f a.1 with
      | .ok r fin => (Res.of (goBack a.2 fin ρ) ρ).bind fun ρ' _ => .ok r ρ'
      | .exc x fin => (Res.of (goBack a.2 fin ρ) ρ).bind fun ρ' _ => .exc x ρ'
      | .bad => .bad
    else .bad

/-- a text that is walked isn't too long -/
def lenOk : PyData → Bool
  | .str s => decide (s.cps.size ≤ 16777216)
  | _ => true
/-- the items of a loop's source -/
def srcOf : ItK → List PyData → Option (List PyData)
  | .pl, [x] => if lenOk x then items x else none
  | .enum, [x] => if lenOk x then (items x).map (enumD 0) else none
  | .zip, [x, y] => if lenOk x && lenOk y then (items x).bind fun xs => (items y).map fun ys => zipD xs ys else none
  | .range, [.int n] => if rangeOk 0 n && decide (n ≤ 16777216) then some (rangeD 0 n) else none
  | .range, [.int m, .int n] => if rangeOk m n && decide (n - m ≤ 16777216) then some (rangeD m n) else none
  | .rev, [x] => match x with
    | .list xs => some xs.reverse
    | .tuple xs => some xs.reverse
    | _ => none
  | _, _ => none
def frzs : List Val → Env → Res (List PyData)
  | [], ρ => .ok [] ρ
  | v :: vs, ρ => (frz ρ v).bind fun x ρ => (frzs vs ρ).bind fun xs ρ => .ok (x :: xs) ρ
def peeks (ρ : Env) : List Val → Option (List PyData)
  | [] => some []
  | v :: vs => (peek ρ v).bind fun x => (peeks ρ vs).map (x :: ·)
def asBool : Val → Env → Res Bool
  | .own (.d (.bool t)), ρ => .ok t ρ
  | _, _ => .bad
def asInt (ρ : Env) : Val → Option Int
  | .own (.d (.int t)) => some t
  | _ => none

/-- may stand between the look at a place within an object and its change: calls nothing -/
def mutM : Mt → Bool
  | .append | .extend | .insert | .pop | .setdefault | .update => true
  | _ => false

/-- the kind that says which method it is -/
def kdC : C → Option Nat
  | .d (.str _) => some 0
  | .d (.list _) => some 1
  | .lst _ => some 1
  | .d (.tuple _) => some 2
  | .dct _ => some 3
  | _ => none
def kd (ρ : Env) (v : Val) : Option Nat := (look ρ v).bind kdC
def mtS (m : Mt) (x : PyData) (xs : List PyData) : Option C := if mtSupD m x xs then mtSem m x xs else none
def mtOwnS (m : Mt) (c : C) (cs : List C) : Option (C × C) := if mtSupO m then mtOwn m c cs else none
def isN : PyData → Bool
  | .none => true
  | _ => false
def noneV (ρ : Env) : Val → Option Bool
  | .own (.d x) => some (isN x)
  | .own _ => some false
  | .bor i p => match look ρ (.bor i p) with
    | some (.d _) => none
    | some _ => some false
    | none => none
section
variable (T : Tab) (Γ : Nat → List C → FRes)
/-- what goes into a list, a dict: frozen, but for what is kept as one's own -/
def putIn : E → Env → Val → Res C
  | .keep _, ρ, .own c => .ok c ρ
  | _, ρ, v => (frz ρ v).bind fun x ρ => .ok (.d x) ρ

mutual
def nc : E → Bool
  | .var _ => true
  | .lit _ => true
  | .glob _ _ => true
  | .tup es => ncs es
  | .lst es => ncs es
  | .dict _ es => ncs es
  | .keep e => nc e
  | .o2 _ a b => nc a && nc b
  | .neg a => nc a
  | .chain _ _ a b c => nc a && nc b && nc c
  | .bi _ es => ncs es
  | .sub a i => nc a && nc i
  | .slc a lo hi => nc a && nco lo && nco hi
  | .fld o _ => nc o
  | .and es => ncs es
  | .or es => ncs es
  | .not a => nc a
  | .ite c a b => nc c && nc a && nc b
  | .isNone a => nc a
  | .notNone a => nc a
  | .isB _ a => nc a
  | .notB _ a => nc a
  | .isi a _ => nc a
  | .meth m o es => !mutM m && nc o && ncs es
  | _ => false
def ncs : List E → Bool
  | [] => true
  | e :: es => nc e && ncs es
def nco : Option E → Bool
  | none => true
  | some e => nc e
end
/-- a turn of a comprehension -/
def turnF (tg : Tg) (own : List Nat) (elt : E) (ct ev : Env → Res Val) (x : PyData) (ρ : Env) : Res (List C) :=
  (Res.of (setTg [] tg x ρ) ρ).bind fun ρ _ => (ct ρ).bind fun t ρ => (asBool t ρ).bind fun t ρ =>
    if t then (ev ρ).bind fun v ρ => (putIn elt ρ v).bind fun c ρ => if ownD ρ own then .ok [c] (wipe ρ own) else .bad
    else if ownD ρ own then .ok [] (wipe ρ own) else .bad
def hasPath : Val → Bool
  | .bor _ (_ :: _) => true
  | _ => false

mutual
def evE : E → Env → Res Val
  | .var i, ρ => match slot ρ i with
    | some (.d x) => .ok (.own (.d x)) ρ
    | some _ => .ok (.bor i []) ρ
    | none => .bad
  | .lit x, ρ => .ok (.own (.d x)) ρ
  | .glob _ x, ρ => .ok (.own (.d x)) ρ
  | .tup es, ρ => (evF es ρ).bind fun xs ρ => .ok (.own (.d (.tuple xs))) ρ
  | .lst es, ρ => (evP es ρ).bind fun cs ρ => .ok (.own (.lst cs)) ρ
  | .dict ks es, ρ => (evP es ρ).bind fun cs ρ => .ok (.own (.dct ((ks.zip cs).foldl (fun m p => setA m p.1 p.2) []))) ρ
  | .keep e, ρ => evE e ρ
  | .fz e, ρ => (evE e ρ).bind fun v ρ => (frz ρ v).bind fun x ρ => .ok (.own (.d x)) ρ
  | .o2 o a b, ρ => (evE a ρ).bind fun v ρ => (evE b ρ).bind fun u ρ => if hasPath v && !nc b then .bad else
      Res.of ((peek ρ v).bind fun x => (peek ρ u).bind fun y => (sem2 o x y).map .own) ρ
  | .neg a, ρ => (evE a ρ).bind fun v ρ => match v with
    | .own (.d (.int x)) => .ok (.own (.d (.int (-x)))) ρ
    | _ => .bad
  | .chain o o' a b c, ρ => (evE a ρ).bind fun v ρ => (evE b ρ).bind fun u ρ => match v, u with
    | .own (.d x), .own (.d y) => (Res.of (sem2 o x y) ρ).bind fun t ρ => match t with
      | .d (.bool true) => (evE c ρ).bind fun w ρ => match w with
        | .own (.d z) => Res.of ((sem2 o' y z).map .own) ρ
        | _ => .bad
      | .d (.bool false) => .ok (.own (.d (.bool false))) ρ
      | _ => .bad
    | _, _ => .bad
  | .and es, ρ => evAnd es ρ
  | .or es, ρ => evOr es ρ
  | .not a, ρ => (evE a ρ).bind fun v ρ => (asBool v ρ).bind fun t ρ => .ok (.own (.d (.bool (!t)))) ρ
  | .ite c a b, ρ => (evE c ρ).bind fun v ρ => (asBool v ρ).bind fun t ρ => if t then evE a ρ else evE b ρ
  | .isNone a, ρ => (evE a ρ).bind fun v ρ => Res.of ((noneV ρ v).map fun t => .own (.d (.bool t))) ρ
  | .notNone a, ρ => (evE a ρ).bind fun v ρ => Res.of ((noneV ρ v).map fun t => .own (.d (.bool (!t)))) ρ
  | .isB t a, ρ => (evE a ρ).bind fun v ρ => (asBool v ρ).bind fun r ρ => .ok (.own (.d (.bool (r == t)))) ρ
  | .notB t a, ρ => (evE a ρ).bind fun v ρ => (asBool v ρ).bind fun r ρ => .ok (.own (.d (.bool (!(r == t))))) ρ
  | .bi f es, ρ => (evVs es ρ).bind fun vs ρ => Res.of ((peeks ρ vs).bind fun xs => (biS f xs).map .own) ρ
  | .meth m o es, ρ => (evE o ρ).bind fun v ρ1 => if !kOk m (kd ρ1 v) then .bad else (evP es ρ1).bind fun cs ρ => if (hasPath v && !ncs es) || kd ρ1 v != kd ρ v then .bad else
      match v with
      | .own c => Res.of (c.flat.bind fun x => (C.toDs cs).bind fun xs => (mtS m x xs).map .own) ρ
      | .bor i p => match look ρ (.bor i p) with
        | none => .bad
        | some c => match mtOwnS m c cs with
          | some (r, c') => .ok (.own r) (putV ρ i p c')
          | none => Res.of (c.flat.bind fun x => (C.toDs cs).bind fun xs => (mtS m x xs).map .own) ρ
  | .sub a i, ρ => (evE a ρ).bind fun v ρ => (evE i ρ).bind fun u ρ => if hasPath v && !nc i then .bad else
      match u with
      | .own (.d k) => match v with
        | .own c => Res.of (c.flat.bind fun x => (subD x k).map fun y => .own (.d y)) ρ
        | .bor j p => match look ρ (.bor j p) with
          | none => .bad
          | some c => match selOf c k with
            | none => .bad
            | some s => match c.get s with
              | some (.d y) => .ok (.own (.d y)) ρ
              | some _ => .ok (.bor j (p ++ [s])) ρ
              | none => .bad
      | _ => .bad
  | .slc a lo hi, ρ => (evE a ρ).bind fun v ρ => (evO lo ρ).bind fun l ρ => (evO hi ρ).bind fun h ρ => if hasPath v && !(nco lo && nco hi) then .bad else
      Res.of ((peek ρ v).bind fun x => (cutD x l h).map .own) ρ
  | .rev a, ρ => (evE a ρ).bind fun v ρ => Res.of ((peek ρ v).bind fun x => (revD x).map .own) ρ
  | .comp elt tg k src cond own, ρ => (evVs src ρ).bind fun vs ρ => (if nc elt && ncs cond then Res.of (peeks ρ vs) ρ else frzs vs ρ).bind fun xs ρ => (Res.of (srcOf k xs) ρ).bind fun l ρ =>
      if !ownD ρ own then .bad else (compL (turnF tg own elt (fun ρ => evAnd cond ρ) (fun ρ => evE elt ρ)) l (wipe ρ own)).inner fun cs ρ' => .ok (.own (.lst cs)) (unwipe ρ ρ' own)
  | .call f es, ρ => (evVs es ρ).bind fun vs ρ => match T.fns[f]? with
    | none => .bad
    | some fd => (doCall fd.io (Γ f) vs ρ).bind fun c ρ => .ok (.own c) ρ
  | .mcall m o es, ρ => (evE o ρ).bind fun v ρ => match look ρ v with
    | some (.obj k _) => match (T.cls[k]?).bind fun q => q.meths.lookup m with
      | none => .bad
      | some f => if hasPath v && !ncs es then .bad else (evVs es ρ).bind fun vs ρ => match T.fns[f]? with
        | none => .bad
        | some fd => (doCall fd.io (Γ f) (v :: vs) ρ).bind fun c ρ => .ok (.own c) ρ
    | _ => .bad
  | .new k es, ρ => (evVs es ρ).bind fun vs ρ => match (T.cls[k]?).bind Cls.init with
    | none => .bad
    | some f => match T.fns[f]? with
      | none => .bad
      | some fd => (argsOf fd.io 1 vs ρ).bind fun a ρ => if apart a.2 then
          match Γ f (.obj k [] :: a.1) with
          | .ok (.d .none) (some c :: fin) => (Res.of (goBack a.2 fin ρ) ρ).bind fun ρ' _ => .ok (.own c) ρ'
          | .exc x (_ :: fin) => (Res.of (goBack a.2 fin ρ) ρ).bind fun ρ' _ => .exc x ρ'
          | _ => .bad
        else .bad
  | .fld o f, ρ => (evE o ρ).bind fun v ρ => match v with
    | .bor j p => match look ρ (.bor j p) with
      | some (.obj k fs) => match fs.lookup f with
        | some (.d y) => .ok (.own (.d y)) ρ
        | some _ => .ok (.bor j (p ++ [.fld f])) ρ
        | none => .bad
      | some (.exc k fs) => match fs.lookup f with
        | some y => .ok (.own (.d y)) ρ
        | none => .bad
      | _ => .bad
    | _ => .bad
  | .isi a ts, ρ => (evE a ρ).bind fun v ρ => Res.of ((look ρ v).bind fun c => (isTys T c ts).map fun r => .own (.d (.bool r))) ρ
def evO : Option E → Env → Res (Option Int)
  | none, ρ => .ok none ρ
  | some e, ρ => (evE e ρ).bind fun v ρ => Res.of ((asInt ρ v).map some) ρ
/-- values -/
def evVs : List E → Env → Res (List Val)
  | [], ρ => .ok [] ρ
  | e :: es, ρ => (evE e ρ).bind fun v ρ => if hasPath v && !ncs es then .bad else (evVs es ρ).bind fun vs ρ => .ok (v :: vs) ρ
/-- frozen data -/
def evF : List E → Env → Res (List PyData)
  | [], ρ => .ok [] ρ
  | e :: es, ρ => (evE e ρ).bind fun v ρ => (frz ρ v).bind fun x ρ => (evF es ρ).bind fun xs ρ => .ok (x :: xs) ρ
/-- what is put in -/
def evP : List E → Env → Res (List C)
  | [], ρ => .ok [] ρ
  | e :: es, ρ => (evE e ρ).bind fun v ρ => (putIn e ρ v).bind fun x ρ => (evP es ρ).bind fun xs ρ => .ok (x :: xs) ρ
def evAnd : List E → Env → Res Val
  | [], ρ => .ok (.own (.d (.bool true))) ρ
  | e :: es, ρ => (evE e ρ).bind fun v ρ => (asBool v ρ).bind fun t ρ => if t then (match es with | [] => .ok (.own (.d (.bool true))) ρ | _ => evAnd es ρ) else .ok (.own (.d (.bool false))) ρ
def evOr : List E → Env → Res Val
  | [], ρ => .ok (.own (.d (.bool false))) ρ
  | e :: es, ρ => (evE e ρ).bind fun v ρ => (asBool v ρ).bind fun t ρ => if t then .ok (.own (.d (.bool true))) ρ else (match es with | [] => .ok (.own (.d (.bool false))) ρ | _ => evOr es ρ)
end

def evB (e : E) (ρ : Env) : Res Bool := (evE T Γ e ρ).bind fun v ρ => asBool v ρ
def setNm (io : List Nat) (i : Nat) (c : C) (ρ : Env) : Res Unit := if i < ρ.length && !io.contains i then .ok () (ρ.set i (some c)) else .bad
def fuelW : Nat := 5000

def setPar (io : List Nat) : List Nat → List C → Env → Res Unit
  | [], [], ρ => .ok () ρ
  | i :: is, c :: cs, ρ => (setNm io i c ρ).bind fun _ ρ => setPar io is cs ρ
  | _, _, _ => .bad
variable (io : List Nat)
def evT : List E → Env → Res (List C)
  | [], ρ => .ok [] ρ
  | e :: es, ρ => (evE T Γ e ρ).bind fun v ρ => (take io ρ v).bind fun x ρ => (evT es ρ).bind fun xs ρ => .ok (x :: xs) ρ

/-- what is proved sound -/
def putOk : C → Sel → Bool
  | .lst _, .idx _ => true
  | .dct kvs, .key k => decide (kvs.length < 16777216) && (match getA kvs k with
    | none => true
    | some (.d _) => true
    | some _ => false)
  | _, _ => false
mutual
def exS : S → Env → Res Fl
  | .assign i e, ρ => (evE T Γ e ρ).bind fun v ρ => (take io ρ v).bind fun c ρ => (setNm io i c ρ).bind fun _ ρ => .ok .next ρ
  | .unpack tg e, ρ => (evE T Γ e ρ).bind fun v ρ => (frz ρ v).bind fun x ρ => (Res.of (setTg io tg x ρ) ρ).bind fun ρ _ => .ok .next ρ
  | .par is es, ρ => (evT T Γ io es ρ).bind fun cs ρ => (setPar io is cs ρ).bind fun _ ρ => .ok .next ρ
  | .setIx o i e, ρ => (evE T Γ e ρ).bind fun v ρ => (putIn e ρ v).bind fun c ρ => (evE T Γ o ρ).bind fun u ρ => (evE T Γ i ρ).bind fun k ρ => match u, k with
    | .bor j p, .own (.d k) => if hasPath u && !nc i then .bad else match look ρ (.bor j p) with
      | none => .bad
      | some b => match selOf b k with
        | none => .bad
        | some s => if putOk b s then .ok .next (putV ρ j p (b.put s c)) else .bad
    | _, _ => .bad
  | .setHd o n e, ρ => (evE T Γ e ρ).bind fun v ρ => match v with
    | .own (.lst ds) => match flats ds with
      | none => .bad
      | some xs => (evE T Γ o ρ).bind fun u ρ => match u with
        | .bor j [] => match look ρ (.bor j []) with
          | some (.lst cs) => if n ≤ cs.length && decide (cs.length + xs.length ≤ 16777216) then .ok .next (putV ρ j [] (.lst (xs.map .d ++ cs.drop n))) else .bad
          | _ => .bad
        | _ => .bad
    | _ => .bad
  | .swap o i j, ρ => (evE T Γ o ρ).bind fun u ρ => (evE T Γ i ρ).bind fun k ρ => (evE T Γ j ρ).bind fun l ρ => match u, k, l with
    | .bor n [], .own (.d (.int k)), .own (.d (.int l)) => match look ρ (.bor n []) with
      | some (.lst cs) => match (seqI cs.length k).bind fun a => (seqI cs.length l).bind fun b => (cs[a]?).bind fun x => (cs[b]?).map fun y => (cs.set a y).set b x with
        | some cs' => .ok .next (putV ρ n [] (.lst cs'))
        | none => .bad
      | _ => .bad
    | _, _, _ => .bad
  | .setFld o f e, ρ => (evE T Γ e ρ).bind fun v ρ => (take io ρ v).bind fun c ρ => (evE T Γ o ρ).bind fun u ρ => match u with
    | .bor j [] => match look ρ (.bor j []) with
      | some (.obj k fs) => .ok .next (putV ρ j [] (.obj k (setA fs f c)))
      | some (.exc k fs) => match c with
        | .d x => .ok .next (putV ρ j [] (.exc k (fs ++ [(f, x)])))
        | _ => .bad
      | _ => .bad
    | _ => .bad
  | .ex e, ρ => (evE T Γ e ρ).bind fun _ ρ => .ok .next ρ
  | .ret e, ρ => (evE T Γ e ρ).bind fun v ρ => (take io ρ v).bind fun c ρ => .ok (.ret c) ρ
  | .ret0, ρ => .ok (.ret (.d .none)) ρ
  | .iff c a b, ρ => (evB T Γ c ρ).bind fun t ρ => if t then exSs a ρ else exSs b ρ
  | .for tg k src body, ρ => (evVs T Γ src ρ).bind fun vs ρ => (frzs vs ρ).bind fun xs ρ => (Res.of (srcOf k xs) ρ).bind fun l ρ =>
      forL (fun x ρ => (Res.of (setTg io tg x ρ) ρ).bind fun ρ _ => exSs body ρ) l ρ
  | .while c body, ρ => whileL (evB T Γ c) (fun ρ => exSs body ρ) fuelW ρ
  | .raise k es, ρ => (evF T Γ es ρ).bind fun xs ρ => match T.cls[k]? with
    | none => .bad
    | some q => .exc ⟨k, q.fields.zip xs⟩ ρ
  | .tryE body k n t, ρ => match exSs body ρ with
    | .ok r ρ => .ok r ρ
    | .bad => .bad
    | .exc x ρ => match T.cls[x.k]? with
      | none => .bad
      | some q => if q.up.contains k && (decide (t < ρ.length) && decide (n < ρ.length) && !io.contains t && !io.contains n) then .ok .next ((ρ.set n none).set t (some (.exc x.k x.fs))) else .bad
  | .pass, ρ => .ok .next ρ
  | .cont, ρ => .ok .cont ρ
def exSs : List S → Env → Res Fl
  | [], ρ => .ok .next ρ
  | s :: ss, ρ => (exS s ρ).bind fun r ρ => match r with
    | .next => exSs ss ρ
    | r => .ok r ρ
end
end

def finOf (io : List Nat) (ρ : Env) (np : Nat) : List (Option C) := (List.range np).map fun k => if io.contains k then slot ρ k else none
def callF (T : Tab) : Nat → Nat → List C → FRes
  | 0, _, _ => .bad
  | n + 1, f, args => match T.fns[f]? with
    | none => .bad
    | some fd => if args.length = fd.np then
        match exSs T (callF T n) fd.io fd.body (args.map some ++ List.replicate (fd.ns - fd.np) none) with
        | .ok (.ret c) ρ => .ok c (finOf fd.io ρ fd.np)
        | .ok .next ρ => .ok (.d .none) (finOf fd.io ρ fd.np)
        | .ok .cont _ => .bad
        | .exc x ρ => .exc x (finOf fd.io ρ fd.np)
        | .bad => .bad
      else .bad
end Z
set_option linter.all false
set_option Elab.async false
/-! Z1: how contents lie in the heap: frozen (FR), owned (CR), a frame's names (ER); steps. -/
namespace Z
open PySem L2

mutual
inductive FR (K : PySem.W.Frag) (F : Hp) : V → PyData → Prop
  | non : FR K F .non .none
  | bl (x : Bool) : FR K F (.bl x) (.bool x)
  | int (x : Int) : FR K F (.int x) (.int x)
  | str (x : Str) : FR K F (.str x) (.str x)
  | lst {a : Addr} {xs : List V} {ds : List PyData} : SqL K F a xs → FRs K F xs ds → FR K F (.ref a) (.list ds)
  | tup {a : Addr} {xs : List V} {ds : List PyData} : SqT K F a xs → FRs K F xs ds → FR K F (.ref a) (.tuple ds)
  | dict {a : Addr} {kvs : List (L2.Key × V)} {ps : List (PyData × PyData)} : F a = some (.dK kvs) → FRk K F kvs ps → FR K F (.ref a) (.dict ps)
inductive FRs (K : PySem.W.Frag) (F : Hp) : List V → List PyData → Prop
  | nil : FRs K F [] []
  | cons {v : V} {vs : List V} {d : PyData} {ds : List PyData} : FR K F v d → FRs K F vs ds → FRs K F (v :: vs) (d :: ds)
inductive FRk (K : PySem.W.Frag) (F : Hp) : List (L2.Key × V) → List (PyData × PyData) → Prop
  | nil : FRk K F [] []
  | cons {k : L2.Key} {v : V} {r : List (L2.Key × V)} {d : PyData} {s : List (PyData × PyData)} : FR K F v d → FRk K F r s → FRk K F ((k, v) :: r) ((kyD k, d) :: s)
end

theorem sqL_same {K : PySem.W.Frag} {F F' : Hp} {a : Addr} {xs : List V} (e : Same F F') (h : SqL K F a xs) : SqL K F' a xs := e.seq h
theorem sqT_same {K : PySem.W.Frag} {F F' : Hp} {a : Addr} {xs : List V} (e : Same F F') (h : SqT K F a xs) : SqT K F' a xs := by
  rcases h with (h | ⟨o, h⟩) | h
  · exact .inl (.inl (e _ _ h))
  · exact .inl (.inr ⟨o, e _ _ h⟩)
  · exact .inr h
section
variable {K : PySem.W.Frag} {F F' : Hp}
mutual
theorem FR.mono (e : Same F F') : ∀ (d : PyData) {v : V}, FR K F v d → FR K F' v d
  | .none, _, h => by cases h; exact .non
  | .bool x, _, h => by cases h; exact .bl x
  | .int x, _, h => by cases h; exact .int x
  | .str x, _, h => by cases h; exact .str x
  | .list ds, _, h => by cases h with | lst s r => exact .lst (sqL_same e s) (FRs.mono e ds r)
  | .tuple ds, _, h => by cases h with | tup s r => exact .tup (sqT_same e s) (FRs.mono e ds r)
  | .dict ps, _, h => by cases h with | dict s r => exact .dict (e _ _ s) (FRk.mono e ps r)
theorem FRs.mono (e : Same F F') : ∀ (ds : List PyData) {vs : List V}, FRs K F vs ds → FRs K F' vs ds
  | [], _, h => by cases h; exact .nil
  | d :: ds, _, h => by cases h with | cons a r => exact .cons (FR.mono e d a) (FRs.mono e ds r)
theorem FRk.mono (e : Same F F') : ∀ (ps : List (PyData × PyData)) {kvs : List (L2.Key × V)}, FRk K F kvs ps → FRk K F' kvs ps
  | [], _, h => by cases h; exact .nil
  | (_, d) :: ps, _, h => by cases h with | cons a r => exact .cons (FR.mono e d a) (FRk.mono e ps r)
end
theorem FRs.length {K : PySem.W.Frag} {F : Hp} : ∀ {vs : List V} {ds : List PyData}, FRs K F vs ds → vs.length = ds.length
  | _, [], h => by cases h; rfl
  | _, d :: ds, h => by cases h with | cons a r => simp [FRs.length r]
theorem FRs.get {K : PySem.W.Frag} {F : Hp} : ∀ {ds : List PyData} {vs : List V} {i : Nat} {d : PyData}, FRs K F vs ds → ds[i]? = some d → ∃ v, vs[i]? = some v ∧ FR K F v d
  | [], _, _, _, _, e => by simp at e
  | _ :: _, _, 0, _, h, e => by cases h with | cons a r => simp at e; subst e; exact ⟨_, rfl, a⟩
  | _ :: ds, _, i + 1, d, h, e => by
    cases h with
    | cons a r =>
      obtain ⟨v, h1, h2⟩ := FRs.get (i := i) (d := d) r (by simpa using e)
      exact ⟨v, by simpa using h1, h2⟩
theorem FRs.get' {K : PySem.W.Frag} {F : Hp} {ds : List PyData} {vs : List V} {i : Nat} {v : V} (h : FRs K F vs ds) (e : vs[i]? = some v) : ∃ d, ds[i]? = some d ∧ FR K F v d := by
  have hl := h.length
  have hi : i < ds.length := by rw [← hl]; exact (List.getElem?_eq_some_iff.mp e).1
  obtain ⟨w, h1, h2⟩ := h.get (List.getElem?_eq_getElem hi)
  rw [e] at h1
  cases h1
  exact ⟨_, List.getElem?_eq_getElem hi, h2⟩
theorem FRs.append {K : PySem.W.Frag} {F : Hp} : ∀ {ds es : List PyData} {vs us : List V}, FRs K F vs ds → FRs K F us es → FRs K F (vs ++ us) (ds ++ es)
  | [], _, _, _, h, q => by cases h; exact q
  | _ :: _, _, _, _, h, q => by cases h with | cons a r => exact .cons a (FRs.append r q)
theorem FRs.take {K : PySem.W.Frag} {F : Hp} : ∀ {ds : List PyData} {vs : List V} (n : Nat), FRs K F vs ds → FRs K F (vs.take n) (ds.take n)
  | _, _, 0, _ => .nil
  | [], _, n + 1, h => by cases h; exact .nil
  | _ :: _, _, n + 1, h => by cases h with | cons a r => exact .cons a (FRs.take n r)
theorem FRs.drop {K : PySem.W.Frag} {F : Hp} : ∀ {ds : List PyData} {vs : List V} (n : Nat), FRs K F vs ds → FRs K F (vs.drop n) (ds.drop n)
  | _, _, 0, h => h
  | [], _, n + 1, h => by cases h; exact .nil
  | _ :: _, _, n + 1, h => by cases h with | cons a r => exact FRs.drop n r
theorem FRs.rep {K : PySem.W.Frag} {F : Hp} {ds : List PyData} {vs : List V} (h : FRs K F vs ds) : ∀ n : Nat, FRs K F (List.replicate n vs).flatten (List.replicate n ds).flatten
  | 0 => .nil
  | n + 1 => by rw [List.replicate_succ, List.replicate_succ, List.flatten_cons, List.flatten_cons]; exact h.append (FRs.rep h n)
theorem FRs.reverse {K : PySem.W.Frag} {F : Hp} : ∀ {ds : List PyData} {vs : List V}, FRs K F vs ds → FRs K F vs.reverse ds.reverse
  | [], _, h => by cases h; exact .nil
  | _ :: _, _, h => by cases h with | cons a r => rw [List.reverse_cons, List.reverse_cons]; exact (FRs.reverse r).append (.cons a .nil)
end

/-! ### owned contents -/
/-- an exception object -/
def excO (a : Addr) (cls : Value) (d : Option Addr) : Heap → Prop := fun h => ∃ o, h.get? a = some o ∧ o.cls = cls ∧ o.dict = d ∧ ∃ vs, o.data = .fields vs
section
variable (K : PySem.W.Frag) (ca : Nat → Addr) (F H : Hp)
inductive XFs : List (Str × V) → List (Str × PyData) → Prop
  | nil : XFs [] []
  | cons {k : Str} {v : V} {vs : List (Str × V)} {c : PyData} {cs : List (Str × PyData)} : FR K F v c → XFs vs cs → XFs ((k, v) :: vs) ((k, c) :: cs)
mutual
inductive CR : V → C → List Addr → Prop
  | d {v : V} {x : PyData} : FR K F v x → CR v (.d x) []
  | lst {a : Addr} {vs : List V} {cs : List C} {f : List Addr} : H a = some (.lst vs) → CRs vs cs f → CR (.ref a) (.lst cs) (a :: f)
  | dct {a : Addr} {kvs : List (L2.Key × V)} {cs : List (Ky × C)} {f : List Addr} : H a = some (.dK kvs) → CRk kvs cs f → CR (.ref a) (.dct cs) (a :: f)
  | obj {a dx : Addr} {k : Nat} {fs : List (Str × V)} {cs : List (Str × C)} {f : List Addr} : H a = some (.ins (ca k) dx fs) → CRf fs cs f → CR (.ref a) (.obj k cs) (a :: f)
  | exc0 {a : Addr} {k : Nat} : H a = some (.ext (excO a (.ref (ca k)) none)) → CR (.ref a) (.exc k []) [a]
  | exc1 {a dd : Addr} {k : Nat} {fs : List (Str × V)} {cs : List (Str × PyData)} : H a = some (.ext (excO a (.ref (ca k)) (some dd))) → H dd = some (.xd fs) → XFs K F fs cs → CR (.ref a) (.exc k cs) [a, dd]
inductive CRs : List V → List C → List Addr → Prop
  | nil : CRs [] [] []
  | cons {v : V} {vs : List V} {c : C} {cs : List C} {f g : List Addr} : CR v c f → CRs vs cs g → CRs (v :: vs) (c :: cs) (f ++ g)
inductive CRk : List (L2.Key × V) → List (Ky × C) → List Addr → Prop
  | nil : CRk [] [] []
  | cons {k : L2.Key} {v : V} {vs : List (L2.Key × V)} {c : C} {cs : List (Ky × C)} {f g : List Addr} : CR v c f → CRk vs cs g → CRk ((k, v) :: vs) ((k, c) :: cs) (f ++ g)
inductive CRf : List (Str × V) → List (Str × C) → List Addr → Prop
  | nil : CRf [] [] []
  | cons {k : Str} {v : V} {vs : List (Str × V)} {c : C} {cs : List (Str × C)} {f g : List Addr} : CR v c f → CRf vs cs g → CRf ((k, v) :: vs) ((k, c) :: cs) (f ++ g)
end
/-- the names of a frame -/
inductive ER : L2.St → Env → List Addr → Prop
  | nil : ER [] [] []
  | no {s : Option V} {σ : L2.St} {ρ : Env} {f : List Addr} : ER σ ρ f → ER (s :: σ) (none :: ρ) f
  | so {v : V} {c : C} {σ : L2.St} {ρ : Env} {f g : List Addr} : CR K ca F H v c f → ER σ ρ g → ER (some v :: σ) (some c :: ρ) (f ++ g)
end
section
variable {K : PySem.W.Frag} {ca : Nat → Addr} {F F' H H' : Hp}
theorem XFs.mono (e : Same F F') : ∀ {cs : List (Str × PyData)} {fs : List (Str × V)}, XFs K F fs cs → XFs K F' fs cs
  | [], _, h => by cases h; exact .nil
  | _ :: _, _, h => by cases h with | cons a r => exact .cons (FR.mono e _ a) (XFs.mono e r)
mutual
/-- what is owned stands while its objects do -/
theorem CR.mv (e : Same F F') : ∀ (c : C) {v : V} {f : List Addr}, CR K ca F H v c f → (∀ a ∈ f, H' a = H a) → CR K ca F' H' v c f
  | .d x, _, _, h, _ => by cases h with | d r => exact .d (FR.mono e x r)
  | .lst cs, _, _, h, q => by cases h with | lst s r => exact .lst ((q _ List.mem_cons_self).trans s) (CRs.mv e cs r fun a m => q a (List.mem_cons_of_mem _ m))
  | .dct cs, _, _, h, q => by cases h with | dct s r => exact .dct ((q _ List.mem_cons_self).trans s) (CRk.mv e cs r fun a m => q a (List.mem_cons_of_mem _ m))
  | .obj k cs, _, _, h, q => by cases h with | obj s r => exact .obj ((q _ List.mem_cons_self).trans s) (CRf.mv e cs r fun a m => q a (List.mem_cons_of_mem _ m))
  | .exc k cs, _, _, h, q => by
    cases h with
    | exc0 s => exact .exc0 ((q _ List.mem_cons_self).trans s)
    | exc1 s t r => exact .exc1 ((q _ List.mem_cons_self).trans s) ((q _ (List.mem_cons_of_mem _ List.mem_cons_self)).trans t) (r.mono e)
theorem CRs.mv (e : Same F F') : ∀ (cs : List C) {vs : List V} {f : List Addr}, CRs K ca F H vs cs f → (∀ a ∈ f, H' a = H a) → CRs K ca F' H' vs cs f
  | [], _, _, h, _ => by cases h; exact .nil
  | c :: cs, _, _, h, q => by cases h with | cons a r => exact .cons (CR.mv e c a fun b m => q b (List.mem_append_left _ m)) (CRs.mv e cs r fun b m => q b (List.mem_append_right _ m))
theorem CRk.mv (e : Same F F') : ∀ (cs : List (Ky × C)) {vs : List (L2.Key × V)} {f : List Addr}, CRk K ca F H vs cs f → (∀ a ∈ f, H' a = H a) → CRk K ca F' H' vs cs f
  | [], _, _, h, _ => by cases h; exact .nil
  | (k, c) :: cs, _, _, h, q => by cases h with | cons a r => exact .cons (CR.mv e c a fun b m => q b (List.mem_append_left _ m)) (CRk.mv e cs r fun b m => q b (List.mem_append_right _ m))
theorem CRf.mv (e : Same F F') : ∀ (cs : List (Str × C)) {vs : List (Str × V)} {f : List Addr}, CRf K ca F H vs cs f → (∀ a ∈ f, H' a = H a) → CRf K ca F' H' vs cs f
  | [], _, _, h, _ => by cases h; exact .nil
  | (k, c) :: cs, _, _, h, q => by cases h with | cons a r => exact .cons (CR.mv e c a fun b m => q b (List.mem_append_left _ m)) (CRf.mv e cs r fun b m => q b (List.mem_append_right _ m))
end
mutual
theorem CR.lives : ∀ (c : C) {v : V} {f : List Addr}, CR K ca F H v c f → ∀ a ∈ f, H a ≠ none
  | .d x, _, _, h, a, m => by cases h; cases m
  | .lst cs, _, _, h, a, m => by
    cases h with
    | lst s r => rcases List.mem_cons.mp m with e | m; (· rw [e, s]; exact fun z => nomatch z); (· exact CRs.lives cs r a m)
  | .dct cs, _, _, h, a, m => by
    cases h with
    | dct s r => rcases List.mem_cons.mp m with e | m; (· rw [e, s]; exact fun z => nomatch z); (· exact CRk.lives cs r a m)
  | .obj k cs, _, _, h, a, m => by
    cases h with
    | obj s r => rcases List.mem_cons.mp m with e | m; (· rw [e, s]; exact fun z => nomatch z); (· exact CRf.lives cs r a m)
  | .exc k cs, _, _, h, a, m => by
    cases h with
    | exc0 s => rcases List.mem_cons.mp m with e | m; (· rw [e, s]; exact fun z => nomatch z); (· cases m)
    | exc1 s t r =>
      rcases List.mem_cons.mp m with e | m
      · rw [e, s]; exact fun z => nomatch z
      · rcases List.mem_cons.mp m with e | m; (· rw [e, t]; exact fun z => nomatch z); (· cases m)
theorem CRs.lives : ∀ (cs : List C) {v : List V} {f : List Addr}, CRs K ca F H v cs f → ∀ a ∈ f, H a ≠ none
  | [], _, _, h, a, m => by cases h; cases m
  | c :: cs, _, _, h, a, m => by cases h with | cons x r => rcases List.mem_append.mp m with m | m; (· exact CR.lives c x a m); (· exact CRs.lives cs r a m)
theorem CRk.lives : ∀ (cs : List (Ky × C)) {v : List (L2.Key × V)} {f : List Addr}, CRk K ca F H v cs f → ∀ a ∈ f, H a ≠ none
  | [], _, _, h, a, m => by cases h; cases m
  | (k, c) :: cs, _, _, h, a, m => by cases h with | cons x r => rcases List.mem_append.mp m with m | m; (· exact CR.lives c x a m); (· exact CRk.lives cs r a m)
theorem CRf.lives : ∀ (cs : List (Str × C)) {v : List (Str × V)} {f : List Addr}, CRf K ca F H v cs f → ∀ a ∈ f, H a ≠ none
  | [], _, _, h, a, m => by cases h; cases m
  | (k, c) :: cs, _, _, h, a, m => by cases h with | cons x r => rcases List.mem_append.mp m with m | m; (· exact CR.lives c x a m); (· exact CRf.lives cs r a m)
end
theorem ER.mv (e : Same F F') : ∀ {ρ : Env} {σ : L2.St} {f : List Addr}, ER K ca F H σ ρ f → (∀ a ∈ f, H' a = H a) → ER K ca F' H' σ ρ f
  | [], _, _, h, _ => by cases h; exact .nil
  | none :: ρ, _, _, h, q => by cases h with | no r => exact .no (ER.mv e r q)
  | some c :: ρ, _, _, h, q => by cases h with | so x r => exact .so (CR.mv e _ x fun b m => q b (List.mem_append_left _ m)) (ER.mv e r fun b m => q b (List.mem_append_right _ m))
theorem ER.lives : ∀ {ρ : Env} {σ : L2.St} {f : List Addr}, ER K ca F H σ ρ f → ∀ a ∈ f, H a ≠ none
  | [], _, _, h, a, m => by cases h; cases m
  | none :: ρ, _, _, h, a, m => by cases h with | no r => exact ER.lives r a m
  | some c :: ρ, _, _, h, a, m => by cases h with | so x r => rcases List.mem_append.mp m with m | m; (· exact CR.lives c x a m); (· exact ER.lives r a m)
end

/-! ### the parting of a heap; steps -/
/-- F: what is frozen; f: the owned objects -/
structure Wd (F H : Hp) (f : List Addr) : Prop where
  same : Same F H
  nd : f.Nodup
  ap : ∀ a ∈ f, F a = none
structure Step (F H : Hp) (f : List Addr) (F' H' : Hp) (f' : List Addr) : Prop where
  fr : Same F F'
  keep : ∀ a o, H a = some o → a ∉ f → H' a = some o
  there : ∀ a, H a ≠ none → H' a ≠ none
  nf : ∀ a ∈ f', a ∈ f ∨ H a = none
  nF : ∀ a, F' a ≠ none → F a ≠ none ∨ H a = none ∨ a ∈ f
theorem Step.refl {F H : Hp} {f : List Addr} : Step F H f F H f := ⟨Same.refl _, fun _ _ h _ => h, fun _ h => h, fun _ h => .inl h, fun _ h => .inl h⟩
theorem Step.trans {F H F1 H1 F2 H2 : Hp} {f f1 f2 : List Addr} (a : Step F H f F1 H1 f1) (b : Step F1 H1 f1 F2 H2 f2) : Step F H f F2 H2 f2 where
  fr := a.fr.trans b.fr
  keep := fun x o e n => b.keep x o (a.keep x o e n) fun m => (a.nf x m).elim n fun z => by rw [e] at z; cases z
  there := fun x h => b.there x (a.there x h)
  nf := fun x m => (b.nf x m).elim (a.nf x) fun z => by
    cases q : H x with
    | none => exact .inr rfl
    | some o => exact absurd z (a.there x (by rw [q]; exact fun z => nomatch z))
  nF := fun x m => by
    rcases b.nF x m with h | h | h
    · exact a.nF x h
    · cases q : H x with
      | none => exact .inr (.inl rfl)
      | some o => exact absurd h (a.there x (by rw [q]; exact fun z => nomatch z))
    · rcases a.nf x h with h | h
      · exact .inr (.inr h)
      · exact .inr (.inl h)
/-- with more that is owned and stands -/
theorem Step.more {F H F' H' : Hp} {f f' : List Addr} (a : Step F H f F' H' f') (g : List Addr) : Step F H (g ++ f) F' H' (g ++ f') where
  fr := a.fr
  keep := fun x o e n => a.keep x o e fun m => n (List.mem_append_right _ m)
  there := a.there
  nf := fun x m => (List.mem_append.mp m).elim (fun m => .inl (List.mem_append_left _ m)) fun m => (a.nf x m).imp (List.mem_append_right _) id
  nF := fun x m => (a.nF x m).imp id fun h => h.imp id (List.mem_append_right _)
/-- what is owned apart from f stands -/
theorem Step.stay {F H F' H' : Hp} {f f' g : List Addr} (a : Step F H f F' H' f') (hd : (g ++ f).Nodup) (hg : ∀ x ∈ g, H x ≠ none) : ∀ x ∈ g, H' x = H x := fun x m => by
  cases q : H x with
  | none => exact absurd q (hg x m)
  | some o => exact a.keep x o q fun m' => (List.nodup_append.mp hd).2.2 x m x m' rfl
theorem Step.apart {F H F' H' : Hp} {f f' g : List Addr} (a : Step F H f F' H' f') (w : Wd F H (g ++ f)) (w' : Wd F' H' f') (hg : ∀ x ∈ g, H x ≠ none) : Wd F' H' (g ++ f') where
  same := w'.same
  nd := by
    refine List.nodup_append.mpr ⟨(List.nodup_append.mp w.nd).1, w'.nd, fun x m y m' e => ?_⟩
    subst e
    rcases a.nf x m' with h | h
    · exact (List.nodup_append.mp w.nd).2.2 x m x h rfl
    · exact hg x m h
  ap := fun x m => (List.mem_append.mp m).elim (fun m => by
    cases q : F' x with
    | none => rfl
    | some o =>
      rcases a.nF x (by rw [q]; exact fun z => nomatch z) with h | h | h
      · exact absurd (w.ap x (List.mem_append_left _ m)) h
      · exact absurd h (hg x m)
      · exact ((List.nodup_append.mp w.nd).2.2 x m x h rfl).elim) (w'.ap x)
theorem Wd.sub {F H : Hp} {f g : List Addr} (w : Wd F H f) (s : List.Sublist g f) : Wd F H g := ⟨w.same, w.nd.sublist s, fun a m => w.ap a (s.subset m)⟩
theorem Wd.perm {F H : Hp} {f g : List Addr} (w : Wd F H f) (s : f.Perm g) : Wd F H g := ⟨w.same, s.nodup_iff.mp w.nd, fun a m => w.ap a (s.mem_iff.mpr m)⟩
/-- less is owned at the end, in another order -/
theorem Step.less {F H F' H' : Hp} {f f' g : List Addr} (a : Step F H f F' H' f') (s : ∀ x ∈ g, x ∈ f') : Step F H f F' H' g := ⟨a.fr, a.keep, a.there, fun x m => a.nf x (s x m), a.nF⟩
theorem Step.wide {F H F' H' : Hp} {f f' g : List Addr} (a : Step F H f F' H' f') (s : ∀ x ∈ f, x ∈ g) : Step F H g F' H' f' :=
  ⟨a.fr, fun x o e n => a.keep x o e fun m => n (s x m), a.there, fun x m => (a.nf x m).imp (s x) id, fun x m => (a.nF x m).imp id fun h => h.imp id (s x)⟩
end Z
set_option linter.all false
set_option Elab.async false
/-! Z2: freezing; places within a frame; values. -/
namespace Z
open PySem L2
section
variable {K : PySem.W.Frag} {ca : Nat → Addr} {F F' H H' : Hp}
mutual
theorem CR.frz (e : Same F F') : ∀ (c : C) {v : V} {f : List Addr} {x : PyData}, CR K ca F H v c f → (∀ a ∈ f, F' a = H a) → c.toD = some x → FR K F' v x
  | .d x, _, _, y, h, _, t => by cases h with | d r => simp only [C.toD, Option.some.injEq] at t; subst t; exact FR.mono e x r
  | .lst cs, _, _, y, h, q, t => by
    cases h with
    | lst s r =>
      simp only [C.toD, Option.map_eq_some_iff] at t
      obtain ⟨ds, t, rfl⟩ := t
      exact .lst (.inl (.inl ((q _ List.mem_cons_self).trans s))) (CRs.frz e cs r (fun a m => q a (List.mem_cons_of_mem _ m)) t)
  | .dct cs, _, _, y, h, q, t => by
    cases h with
    | dct s r =>
      simp only [C.toD, Option.map_eq_some_iff] at t
      obtain ⟨ds, t, rfl⟩ := t
      exact .dict ((q _ List.mem_cons_self).trans s) (CRk.frz e cs r (fun a m => q a (List.mem_cons_of_mem _ m)) t)
  | .obj k cs, _, _, _, h, _, t => by simp [C.toD] at t
  | .exc k cs, _, _, _, h, _, t => by simp [C.toD] at t
theorem CRs.frz (e : Same F F') : ∀ (cs : List C) {vs : List V} {f : List Addr} {xs : List PyData}, CRs K ca F H vs cs f → (∀ a ∈ f, F' a = H a) → C.toDs cs = some xs → FRs K F' vs xs
  | [], _, _, _, h, _, t => by cases h; simp only [C.toDs, Option.some.injEq] at t; subst t; exact .nil
  | c :: cs, _, _, _, h, q, t => by
    cases h with
    | cons a r =>
      simp only [C.toDs, Option.bind_eq_some_iff, Option.map_eq_some_iff] at t
      obtain ⟨y, t1, ys, t2, rfl⟩ := t
      exact .cons (CR.frz e c a (fun b m => q b (List.mem_append_left _ m)) t1) (CRs.frz e cs r (fun b m => q b (List.mem_append_right _ m)) t2)
theorem CRk.frz (e : Same F F') : ∀ (cs : List (Ky × C)) {vs : List (L2.Key × V)} {f : List Addr} {xs : List (PyData × PyData)}, CRk K ca F H vs cs f → (∀ a ∈ f, F' a = H a) → C.toKv cs = some xs → FRk K F' vs xs
  | [], _, _, _, h, _, t => by cases h; simp only [C.toKv, Option.some.injEq] at t; subst t; exact .nil
  | (k, c) :: cs, _, _, _, h, q, t => by
    cases h with
    | cons a r =>
      simp only [C.toKv, Option.bind_eq_some_iff, Option.map_eq_some_iff] at t
      obtain ⟨y, t1, ys, t2, rfl⟩ := t
      exact .cons (CR.frz e c a (fun b m => q b (List.mem_append_left _ m)) t1) (CRk.frz e cs r (fun b m => q b (List.mem_append_right _ m)) t2)
end
/-- what is frozen from now on: F and all that stands at f -/
def addF (F H : Hp) (f : List Addr) : Hp := fun a => if a ∈ f then H a else F a
theorem addF_in {f : List Addr} {a : Addr} (h : a ∈ f) : addF F H f a = H a := if_pos h
theorem addF_out {f : List Addr} {a : Addr} (h : a ∉ f) : addF F H f a = F a := if_neg h
theorem addF_same {f : List Addr} (s : Same F H) (d : ∀ a ∈ f, F a = none) : Same F (addF F H f) := fun a o e => by
  rw [addF_out fun m => by rw [d a m] at e; cases e]; exact e
theorem addF_below {f : List Addr} (s : Same F H) : Same (addF F H f) H := fun a o e => by
  by_cases h : a ∈ f
  · rw [addF_in h] at e; exact e
  · rw [addF_out h] at e; exact s a o e
theorem Wd.frz {f g : List Addr} (w : Wd F H (f ++ g)) : Wd (addF F H f) H g ∧ Step F H (f ++ g) (addF F H f) H g := by
  have d : ∀ a ∈ f, F a = none := fun a m => w.ap a (List.mem_append_left _ m)
  refine ⟨⟨addF_below w.same, (List.nodup_append.mp w.nd).2.1, fun a m => ?_⟩, ⟨addF_same w.same d, fun a o e _ => e, fun a h => h, fun a m => .inl (List.mem_append_right _ m), fun a h => ?_⟩⟩
  · rw [addF_out fun m' => (List.nodup_append.mp w.nd).2.2 a m' a m rfl]
    exact w.ap a (List.mem_append_right _ m)
  · by_cases m : a ∈ f
    · exact .inr (.inr (List.mem_append_left _ m))
    · rw [addF_out m] at h; exact .inl h
theorem CR.freeze {c : C} {v : V} {f g : List Addr} {x : PyData} (h : CR K ca F H v c f) (w : Wd F H (f ++ g)) (t : c.toD = some x) : FR K (addF F H f) v x :=
  CR.frz (addF_same w.same fun a m => w.ap a (List.mem_append_left _ m)) c h (fun a m => addF_in m) t

/-! ### places -/
theorem CRs.focus : ∀ {cs : List C} {vs : List V} {f : List Addr} {k : Nat} {y : C} {w : V}, CRs K ca F H vs cs f → cs[k]? = some y → vs[k]? = some w →
    ∃ l g r, f = l ++ g ++ r ∧ CR K ca F H w y g ∧ ∀ (F' H' : Hp) (y' : C) (w' : V) (g' : List Addr), Same F F' → (∀ a ∈ l ++ r, H' a = H a) → CR K ca F' H' w' y' g' → CRs K ca F' H' (vs.set k w') (cs.set k y') (l ++ g' ++ r)
  | [], _, _, _, _, _, _, e, _ => by simp at e
  | c :: cs, _, _, 0, _, _, h, e, e' => by
    cases h with
    | @cons v vs c cs f g a r =>
      simp at e e'
      subst e e'
      refine ⟨[], f, g, rfl, a, fun F' H' y' w' g' s q n => .cons n (CRs.mv s cs r fun b m => q b m)⟩
  | c :: cs, _, _, k + 1, _, _, h, e, e' => by
    cases h with
    | @cons v vs c cs f g a r =>
      obtain ⟨l, g1, r1, e1, n1, q1⟩ := CRs.focus (k := k) r (by simpa using e) (by simpa using e')
      refine ⟨f ++ l, g1, r1, by rw [e1]; simp [List.append_assoc], n1, fun F' H' y' w' g' s q n => ?_⟩
      have x1 := CR.mv (H' := H') s c a fun b m => q b (by simp [m])
      have x2 := q1 F' H' y' w' g' s (fun b m => q b (by simp only [List.mem_append] at m ⊢; rcases m with m | m <;> simp [m])) n
      have := CRs.cons x1 x2
      simpa [List.append_assoc] using this
theorem CRk.focus : ∀ {cs : List (Ky × C)} {vs : List (L2.Key × V)} {f : List Addr} {k : Ky} {y : C} {w : V}, CRk K ca F H vs cs f → getA cs k = some y → L2.valV vs k = some w →
    ∃ l g r, f = l ++ g ++ r ∧ CR K ca F H w y g ∧ ∀ (F' H' : Hp) (y' : C) (g' : List Addr), Same F F' → (∀ a ∈ l ++ r, H' a = H a) → CR K ca F' H' w y' g' → CRk K ca F' H' vs (setA cs k y') (l ++ g' ++ r)
  | [], _, _, _, _, _, _, e, _ => by simp [getA] at e
  | (j, c) :: cs, _, _, k, _, _, h, e, e' => by
    cases h with
    | @cons j v vs c cs f g a r =>
      by_cases hj : j = k
      · subst hj
        simp only [getA, if_true] at e
        rw [L2.valV_pos rfl] at e'
        cases e
        cases e'
        refine ⟨[], f, g, rfl, a, fun F' H' y' g' s q n => ?_⟩
        have : setA ((j, c) :: cs) j y' = (j, y') :: cs := by simp [setA]
        rw [this]
        exact .cons n (CRk.mv s cs r fun b m => q b m)
      · simp only [getA, if_neg hj] at e
        rw [L2.valV_neg hj] at e'
        obtain ⟨l, g1, r1, e1, n1, q1⟩ := CRk.focus (k := k) r e e'
        refine ⟨f ++ l, g1, r1, by rw [e1]; simp [List.append_assoc], n1, fun F' H' y' g' s q n => ?_⟩
        have x1 := CR.mv (H' := H') s c a fun b m => q b (by simp [m])
        have x2 := q1 F' H' y' g' s (fun b m => q b (by simp only [List.mem_append] at m ⊢; rcases m with m | m <;> simp [m])) n
        have : setA ((j, c) :: cs) k y' = (j, c) :: setA cs k y' := by simp [setA, hj]
        rw [this]
        have := CRk.cons (k := j) x1 x2
        simpa [List.append_assoc] using this
theorem CRf.focus : ∀ {cs : List (Str × C)} {vs : List (Str × V)} {f : List Addr} {k : Str} {y : C} {w : V}, CRf K ca F H vs cs f → cs.lookup k = some y → vs.lookup k = some w →
    ∃ l g r, f = l ++ g ++ r ∧ CR K ca F H w y g ∧ ∀ (F' H' : Hp) (y' : C) (g' : List Addr), Same F F' → (∀ a ∈ l ++ r, H' a = H a) → CR K ca F' H' w y' g' → CRf K ca F' H' vs (setA cs k y') (l ++ g' ++ r)
  | [], _, _, _, _, _, _, e, _ => by simp at e
  | (j, c) :: cs, _, _, k, _, _, h, e, e' => by
    cases h with
    | @cons j v vs c cs f g a r =>
      by_cases hj : j = k
      · subst hj
        simp at e e'
        subst e e'
        refine ⟨[], f, g, rfl, a, fun F' H' y' g' s q n => ?_⟩
        have : setA ((j, c) :: cs) j y' = (j, y') :: cs := by simp [setA]
        rw [this]
        exact .cons n (CRf.mv s cs r fun b m => q b m)
      · have hjk : (k == j) = false := beq_eq_false_iff_ne.mpr fun e => hj e.symm
        rw [List.lookup_cons, hjk] at e e'
        obtain ⟨l, g1, r1, e1, n1, q1⟩ := CRf.focus (k := k) r e e'
        refine ⟨f ++ l, g1, r1, by rw [e1]; simp [List.append_assoc], n1, fun F' H' y' g' s q n => ?_⟩
        have x1 := CR.mv (H' := H') s c a fun b m => q b (by simp [m])
        have x2 := q1 F' H' y' g' s (fun b m => q b (by simp only [List.mem_append] at m ⊢; rcases m with m | m <;> simp [m])) n
        have : setA ((j, c) :: cs) k y' = (j, c) :: setA cs k y' := by simp [setA, hj]
        rw [this]
        have := CRf.cons (k := j) x1 x2
        simpa [List.append_assoc] using this
end
/-- from v along p to x -/
inductive PathV (H : Hp) : V → List Sel → V → Prop
  | nil {v : V} : PathV H v [] v
  | idx {a : Addr} {vs : List V} {k : Nat} {w x : V} {p : List Sel} : H a = some (.lst vs) → vs[k]? = some w → PathV H w p x → PathV H (.ref a) (.idx k :: p) x
  | key {a : Addr} {vs : List (L2.Key × V)} {k : Ky} {w x : V} {p : List Sel} : H a = some (.dK vs) → L2.valV vs k = some w → PathV H w p x → PathV H (.ref a) (.key k :: p) x
  | fld {a C dx : Addr} {vs : List (Str × V)} {k : Str} {w x : V} {p : List Sel} : H a = some (.ins C dx vs) → vs.lookup k = some w → PathV H w p x → PathV H (.ref a) (.fld k :: p) x
theorem PathV.same {H H' : Hp} (e : Same H H') : ∀ {p : List Sel} {v x : V}, PathV H v p x → PathV H' v p x
  | [], _, _, h => by cases h; exact .nil
  | _ :: p, _, _, h => by
    cases h with
    | idx a b c => exact .idx (e _ _ a) b (PathV.same e c)
    | key a b c => exact .key (e _ _ a) b (PathV.same e c)
    | fld a b c => exact .fld (e _ _ a) b (PathV.same e c)
theorem PathV.snoc {H : Hp} {s : Sel} : ∀ {p : List Sel} {v x y : V}, PathV H v p x → PathV H x [s] y → PathV H v (p ++ [s]) y
  | [], _, _, _, h, q => by cases h; exact q
  | _ :: p, _, _, _, h, q => by
    cases h with
    | idx a b c => exact .idx a b (PathV.snoc c q)
    | key a b c => exact .key a b (PathV.snoc c q)
    | fld a b c => exact .fld a b (PathV.snoc c q)
section
variable {K : PySem.W.Frag} {ca : Nat → Addr} {F F' H H' : Hp}
theorem set_same {α : Type} : ∀ {l : List α} {k : Nat} {w : α}, l[k]? = some w → l.set k w = l
  | [], _, _, h => by simp at h
  | x :: l, 0, w, h => by simp at h; subst h; rfl
  | x :: l, k + 1, w, h => by simp at h ⊢; exact set_same h
theorem CR.focus : ∀ {p : List Sel} {c : C} {v : V} {f : List Addr} {y : C} {x : V}, CR K ca F H v c f → c.getP p = some y → PathV H v p x →
    ∃ l g r, f = l ++ g ++ r ∧ CR K ca F H x y g ∧ ∀ (F' H' : Hp) (y' : C) (g' : List Addr), Same F F' → (∀ a ∈ l ++ r, H' a = H a) → CR K ca F' H' x y' g' → CR K ca F' H' v (c.putP p y') (l ++ g' ++ r)
  | [], c, v, f, y, x, h, e, q => by
    cases q
    simp only [C.getP, Option.some.injEq] at e
    subst e
    exact ⟨[], f, [], by simp, h, fun F' H' y' g' _ _ n => by simpa [C.putP] using n⟩
  | s :: p, c, v, f, y, x, h, e, q => by
    simp only [C.getP, Option.bind_eq_some_iff] at e
    obtain ⟨z, e1, e2⟩ := e
    cases q with
    | @idx a vs k w x p h1 h2 q =>
      cases h with
      | d _ => cases e1
      | dct _ _ => cases e1
      | obj _ _ => cases e1
      | exc0 _ => cases e1
      | exc1 _ _ _ => cases e1
      | lst s r =>
        rw [h1] at s
        cases s
        obtain ⟨l, g, r1, eq1, n1, k1⟩ := CRs.focus r (show _ = some z from e1) h2
        obtain ⟨l2, g2, r2, eq2, n2, k2⟩ := CR.focus n1 e2 q
        refine ⟨a :: (l ++ l2), g2, r2 ++ r1, by rw [eq1, eq2]; simp [List.append_assoc], n2, fun F' H' y' g' sm hk n => ?_⟩
        have m1 := k2 F' H' y' g' sm (fun b m => hk b (by simp only [List.mem_append, List.cons_append, List.mem_cons] at m ⊢; rcases m with m | m <;> simp [m])) n
        have m2 := k1 F' H' _ _ _ sm (fun b m => hk b (by simp only [List.mem_append, List.cons_append, List.mem_cons] at m ⊢; rcases m with m | m <;> simp [m])) m1
        rw [set_same h2] at m2
        have m3 := CR.lst (K := K) (ca := ca) (F := F') ((hk a (by simp)).trans h1) m2
        simp only [C.putP, e1, C.put]
        simpa [List.append_assoc] using m3
    | @key a vs k w x p h1 h2 q =>
      cases h with
      | d _ => cases e1
      | lst _ _ => cases e1
      | obj _ _ => cases e1
      | exc0 _ => cases e1
      | exc1 _ _ _ => cases e1
      | dct s r =>
        rw [h1] at s
        cases s
        obtain ⟨l, g, r1, eq1, n1, k1⟩ := CRk.focus r (show _ = some z from e1) h2
        obtain ⟨l2, g2, r2, eq2, n2, k2⟩ := CR.focus n1 e2 q
        refine ⟨a :: (l ++ l2), g2, r2 ++ r1, by rw [eq1, eq2]; simp [List.append_assoc], n2, fun F' H' y' g' sm hk n => ?_⟩
        have m1 := k2 F' H' y' g' sm (fun b m => hk b (by simp only [List.mem_append, List.cons_append, List.mem_cons] at m ⊢; rcases m with m | m <;> simp [m])) n
        have m2 := k1 F' H' _ _ sm (fun b m => hk b (by simp only [List.mem_append, List.cons_append, List.mem_cons] at m ⊢; rcases m with m | m <;> simp [m])) m1
        have m3 := CR.dct (K := K) (ca := ca) (F := F') ((hk a (by simp)).trans h1) m2
        simp only [C.putP, e1, C.put]
        simpa [List.append_assoc] using m3
    | @fld a C dx vs k w x p h1 h2 q =>
      cases h with
      | d _ => cases e1
      | lst _ _ => cases e1
      | dct _ _ => cases e1
      | exc0 _ => cases e1
      | exc1 _ _ _ => cases e1
      | obj s r =>
        rw [h1] at s
        cases s
        obtain ⟨l, g, r1, eq1, n1, k1⟩ := CRf.focus r (show _ = some z from e1) h2
        obtain ⟨l2, g2, r2, eq2, n2, k2⟩ := CR.focus n1 e2 q
        refine ⟨a :: (l ++ l2), g2, r2 ++ r1, by rw [eq1, eq2]; simp [List.append_assoc], n2, fun F' H' y' g' sm hk n => ?_⟩
        have m1 := k2 F' H' y' g' sm (fun b m => hk b (by simp only [List.mem_append, List.cons_append, List.mem_cons] at m ⊢; rcases m with m | m <;> simp [m])) n
        have m2 := k1 F' H' _ _ sm (fun b m => hk b (by simp only [List.mem_append, List.cons_append, List.mem_cons] at m ⊢; rcases m with m | m <;> simp [m])) m1
        have m3 := CR.obj (K := K) (ca := ca) (F := F') ((hk a (by simp)).trans h1) m2
        simp only [C.putP, e1, C.put]
        simpa [List.append_assoc] using m3
/-- a slot of the frame -/
theorem ER.focus : ∀ {ρ : Env} {σ : L2.St} {f : List Addr} {i : Nat} {c : C}, ER K ca F H σ ρ f → slot ρ i = some c →
    ∃ v l g r, σ[i]? = some (some v) ∧ f = l ++ g ++ r ∧ CR K ca F H v c g ∧
      (∀ (F' H' : Hp) (v' : V) (c' : C) (g' : List Addr), Same F F' → (∀ a ∈ l ++ r, H' a = H a) → CR K ca F' H' v' c' g' → ER K ca F' H' (σ.set i (some v')) (ρ.set i (some c')) (l ++ g' ++ r)) ∧
      (∀ (F' H' : Hp) (s : Option V), Same F F' → (∀ a ∈ l ++ r, H' a = H a) → ER K ca F' H' (σ.set i s) (ρ.set i none) (l ++ r))
  | [], _, _, _, _, h, e => by simp [slot] at e
  | o :: ρ, _, _, 0, c, h, e => by
    simp [slot] at e
    subst e
    cases h with
    | @so v c σ ρ f g x r =>
      exact ⟨v, [], f, g, rfl, rfl, x, fun F' H' v' c' g' s q n => .so n (ER.mv s r fun a m => q a m), fun F' H' s' s q => .no (ER.mv s r fun a m => q a m)⟩
  | o :: ρ, _, _, i + 1, c, h, e => by
    have e' : slot ρ i = some c := by simpa [slot] using e
    cases h with
    | no r =>
      obtain ⟨v, l, g, r', h1, h2, h3, h4, h5⟩ := ER.focus r e'
      exact ⟨v, l, g, r', by simpa using h1, h2, h3, fun F' H' v' c' g' s q n => .no (h4 F' H' v' c' g' s q n), fun F' H' s' s q => .no (h5 F' H' s' s q)⟩
    | @so w c' σ ρ f g x r =>
      obtain ⟨v, l, g', r', h1, h2, h3, h4, h5⟩ := ER.focus r e'
      refine ⟨v, f ++ l, g', r', by simpa using h1, by rw [h2]; simp [List.append_assoc], h3, fun F' H' v' c' g' s q n => ?_, fun F' H' s' s q => ?_⟩
      · have y1 := CR.mv (H' := H') s _ x fun b m => q b (by simp [m])
        have y2 := h4 F' H' v' c' g' s (fun b m => q b (by simp only [List.mem_append] at m ⊢; rcases m with m | m <;> simp [m])) n
        have := ER.so y1 y2
        simpa [List.append_assoc] using this
      · have y1 := CR.mv (H' := H') s _ x fun b m => q b (by simp [m])
        have y2 := h5 F' H' s' s (fun b m => q b (by simp only [List.mem_append] at m ⊢; rcases m with m | m <;> simp [m]))
        have := ER.so y1 y2
        simpa [List.append_assoc] using this
/-- a free slot -/
theorem ER.focus0 : ∀ {ρ : Env} {σ : L2.St} {f : List Addr} {i : Nat}, ER K ca F H σ ρ f → i < ρ.length → slot ρ i = none →
      (∀ (F' H' : Hp) (v' : V) (c' : C) (g' : List Addr), Same F F' → (∀ a ∈ f, H' a = H a) → CR K ca F' H' v' c' g' → ∃ f', f'.Perm (g' ++ f) ∧ ER K ca F' H' (σ.set i (some v')) (ρ.set i (some c')) f') ∧
      (∀ (s : Option V), ER K ca F H (σ.set i s) (ρ.set i none) f)
  | [], _, _, _, h, l, e => by simp at l
  | o :: ρ, _, _, 0, h, l, e => by
    simp [slot] at e
    subst e
    cases h with
    | no r => exact ⟨fun F' H' v' c' g' s q n => ⟨_, .refl _, .so n (ER.mv s r fun a m => q a m)⟩, fun s => .no r⟩
  | o :: ρ, _, _, i + 1, h, l, e => by
    have e' : slot ρ i = none := by simpa [slot] using e
    cases h with
    | no r =>
      obtain ⟨h4, h5⟩ := ER.focus0 r (by simpa using l) e'
      exact ⟨fun F' H' v' c' g' s q n => let ⟨f', p, z⟩ := h4 F' H' v' c' g' s q n; ⟨f', p, .no z⟩, fun s => .no (h5 s)⟩
    | @so w c' σ ρ f g x r =>
      obtain ⟨h4, h5⟩ := ER.focus0 r (by simpa using l) e'
      refine ⟨fun F' H' v' c' g' s q n => ?_, fun s => .so x (h5 s)⟩
      obtain ⟨f', p, z⟩ := h4 F' H' v' c' g' s (fun b m => q b (by simp [m])) n
      refine ⟨_, ?_, .so (CR.mv (H' := H') s _ x fun b m => q b (by simp [m])) z⟩
      refine (List.Perm.append_left f p).trans ?_
      rw [← List.append_assoc, ← List.append_assoc]
      exact List.Perm.append_right g List.perm_append_comm
theorem ER.length : ∀ {ρ : Env} {σ : L2.St} {f : List Addr}, ER K ca F H σ ρ f → σ.length = ρ.length
  | [], _, _, h => by cases h; rfl
  | _ :: ρ, _, _, h => by
    cases h with
    | no r => simp [ER.length r]
    | so _ r => simp [ER.length r]
end
end Z
set_option linter.all false
set_option Elab.async false
/-! Z3: values of expressions over a frame. -/
namespace Z
open PySem L2
section
variable (K : PySem.W.Frag) (ca : Nat → Addr) (F H : Hp)
/-- what a value of the small language is at V -/
def VR (σ : L2.St) (x : V) (v : Val) (f : List Addr) : Prop :=
  match v with
  | .own c => CR K ca F H x c f
  | .bor i p => f = [] ∧ ∃ w, σ[i]? = some (some w) ∧ PathV H w p x
/-- what may be read as data: frozen, or flat -/
inductive PR : V → PyData → Prop
  | fr {v : V} {x : PyData} : FR K F v x → PR v x
  | lst {a : Addr} {vs : List V} {ds : List PyData} : H a = some (.lst vs) → FRs K F vs ds → PR (.ref a) (.list ds)
  | dct {a : Addr} {vs : List (L2.Key × V)} {ds : List (PyData × PyData)} : H a = some (.dK vs) → FRk K F vs ds → PR (.ref a) (.dict ds)
inductive PRs : List V → List PyData → Prop
  | nil : PRs [] []
  | cons {v : V} {vs : List V} {d : PyData} {ds : List PyData} : PR K F H v d → PRs vs ds → PRs (v :: vs) (d :: ds)
end
section
variable {K : PySem.W.Frag} {ca : Nat → Addr} {F F' H H' : Hp} {σ : L2.St} {ρ : Env} {f : List Addr}
theorem PR.read (s : Same F H) {v : V} {x : PyData} (h : PR K F H v x) : FR K H v x := by
  cases h with
  | fr h => exact FR.mono s _ h
  | lst h r => exact .lst (.inl (.inl h)) (FRs.mono s _ r)
  | dct h r => exact .dict h (FRk.mono s _ r)
theorem PRs.read (s : Same F H) : ∀ {vs : List V} {xs : List PyData}, PRs K F H vs xs → FRs K H vs xs
  | _, [], h => by cases h; exact .nil
  | _, x :: xs, h => by cases h with | cons a r => exact .cons (a.read s) (PRs.read s r)
theorem PRs.length : ∀ {vs : List V} {xs : List PyData}, PRs K F H vs xs → vs.length = xs.length
  | _, [], h => by cases h; rfl
  | _, x :: xs, h => by cases h with | cons a r => simp [PRs.length r]
/-- the items of a list that may be read are frozen -/
theorem PR.items {a : V} {ds : List PyData} (s : Same F H) (h : PR K F H a (.list ds)) : ∃ (p : Addr) (vs : List V), a = .ref p ∧ SqL K H p vs ∧ FRs K F vs ds := by
  cases h with
  | fr h => cases h with | lst h r => exact ⟨_, _, rfl, s.seq h, r⟩
  | lst h r => exact ⟨_, _, rfl, .inl (.inl h), r⟩
theorem PR.itemsT {a : V} {ds : List PyData} (s : Same F H) (h : PR K F H a (.tuple ds)) : ∃ (p : Addr) (vs : List V), a = .ref p ∧ SqT K H p vs ∧ FRs K F vs ds := by
  cases h with
  | fr h => cases h with | tup h r => exact ⟨_, _, rfl, sqT_same s h, r⟩
theorem flats_rep : ∀ {cs : List C} {vs : List V} {g : List Addr} {xs : List PyData}, CRs K ca F H vs cs g → flats cs = some xs → FRs K F vs xs ∧ g = []
  | [], _, _, _, h, e => by cases h; simp only [flats, Option.some.injEq] at e; subst e; exact ⟨.nil, rfl⟩
  | c :: cs, _, _, _, h, e => by
    cases h with
    | cons a r =>
      simp only [flats, Option.bind_eq_some_iff, Option.map_eq_some_iff] at e
      obtain ⟨y, e1, ys, e2, rfl⟩ := e
      obtain ⟨h1, h2⟩ := flats_rep r e2
      cases c with
      | d x =>
        simp only [C.flat1, Option.some.injEq] at e1
        subst e1
        cases a with
        | d z => exact ⟨.cons z h1, by simp [h2]⟩
      | _ => cases e1
theorem flatKv_rep : ∀ {cs : List (Ky × C)} {vs : List (L2.Key × V)} {g : List Addr} {xs : List (PyData × PyData)}, CRk K ca F H vs cs g → flatKv cs = some xs → FRk K F vs xs ∧ g = []
  | [], _, _, _, h, e => by cases h; simp only [flatKv, Option.some.injEq] at e; subst e; exact ⟨.nil, rfl⟩
  | (k, c) :: cs, _, _, _, h, e => by
    cases h with
    | cons a r =>
      simp only [flatKv, Option.bind_eq_some_iff, Option.map_eq_some_iff] at e
      obtain ⟨y, e1, ys, e2, rfl⟩ := e
      obtain ⟨h1, h2⟩ := flatKv_rep r e2
      cases c with
      | d x =>
        simp only [C.flat1, Option.some.injEq] at e1
        subst e1
        cases a with
        | d z => exact ⟨.cons z h1, by simp [h2]⟩
      | _ => cases e1
theorem CR.flat {c : C} {v : V} {x : PyData} {g : List Addr} (h : CR K ca F H v c g) (e : c.flat = some x) : PR K F H v x := by
  cases c with
  | d y =>
    simp only [C.flat, Option.some.injEq] at e
    subst e
    cases h with | d z => exact .fr z
  | lst cs =>
    simp only [C.flat, Option.map_eq_some_iff] at e
    obtain ⟨ds, e, rfl⟩ := e
    cases h with | lst s r => exact .lst s (flats_rep r e).1
  | dct cs =>
    simp only [C.flat, Option.map_eq_some_iff] at e
    obtain ⟨ds, e, rfl⟩ := e
    cases h with | dct s r => exact .dct s (flatKv_rep r e).1
  | _ => cases e
/-- what stands at a place of the frame -/
theorem ER.at {i : Nat} {p : List Sel} {x : V} {c : C} (h : ER K ca F H σ ρ f) (e : look ρ (.bor i p) = some c) (v : VR K ca F H σ x (.bor i p) []) :
    ∃ l g r, f = l ++ g ++ r ∧ CR K ca F H x c g ∧ (∀ (F' H' : Hp) (c' : C) (g' : List Addr), Same F F' → (∀ a ∈ l ++ r, H' a = H a) → CR K ca F' H' x c' g' → ER K ca F' H' σ (putV ρ i p c') (l ++ g' ++ r)) := by
  simp only [look, Option.bind_eq_some_iff] at e
  obtain ⟨c0, e1, e2⟩ := e
  obtain ⟨_, w, hw, hp⟩ := v
  obtain ⟨w', l, g, r, h1, h2, h3, h4, _⟩ := h.focus e1
  rw [hw] at h1
  cases h1
  obtain ⟨l2, g2, r2, k1, k2, k3⟩ := CR.focus h3 e2 hp
  refine ⟨l ++ l2, g2, r2 ++ r, by rw [h2, k1]; simp [List.append_assoc], k2, fun F' H' c' g' s q n => ?_⟩
  have m1 := k3 F' H' c' g' s (fun a m => q a (by simp only [List.mem_append] at m ⊢; rcases m with m | m <;> simp [m])) n
  have m2 := h4 F' H' w _ _ s (fun a m => q a (by simp only [List.mem_append] at m ⊢; rcases m with m | m <;> simp [m])) m1
  have e3 : putV ρ i p c' = ρ.set i (some (c0.putP p c')) := by unfold putV; rw [e1]
  rw [e3]
  rw [set_same hw] at m2
  simpa [List.append_assoc] using m2
theorem VR.bor_nil {i : Nat} {p : List Sel} {x : V} {g : List Addr} (v : VR K ca F H σ x (.bor i p) g) : g = [] := v.1
theorem VR.peek {v : Val} {x : V} {d : PyData} {g : List Addr} (h : ER K ca F H σ ρ f) (r : VR K ca F H σ x v g) (e : peek ρ v = some d) : PR K F H x d := by
  cases v with
  | own c => exact CR.flat r (by simpa [Z.peek, look] using e)
  | bor i p =>
    obtain ⟨rfl⟩ := r.bor_nil
    unfold Z.peek at e
    obtain ⟨c, e1, e2⟩ := Option.bind_eq_some_iff.mp e
    obtain ⟨l, g, r', _, k, _⟩ := h.at e1 r
    exact k.flat e2
theorem VR.look {v : Val} {x : V} {c : C} {g : List Addr} (h : ER K ca F H σ ρ f) (r : VR K ca F H σ x v g) (e : look ρ v = some c) : ∃ k, CR K ca F H x c k ∧ ∀ a ∈ k, a ∈ g ++ f := by
  cases v with
  | own c' =>
    simp only [Z.look, Option.some.injEq] at e
    subst e
    exact ⟨g, r, fun a m => List.mem_append_left _ m⟩
  | bor i p =>
    obtain ⟨rfl⟩ := r.bor_nil
    obtain ⟨l, g, r', e', k, _⟩ := h.at e r
    exact ⟨g, k, fun a m => by rw [e']; simp [m]⟩
/-- frozen where it stands -/
theorem VR.frz {v : Val} {x : V} {d : PyData} {g : List Addr} {ρ' : Env} (w : Wd F H (g ++ f)) (h : ER K ca F H σ ρ f) (r : VR K ca F H σ x v g) (e : frz ρ v = .ok d ρ') :
    ∃ F' f', FR K F' x d ∧ ER K ca F' H σ ρ' f' ∧ Wd F' H f' ∧ Step F H (g ++ f) F' H f' := by
  cases v with
  | own c =>
    simp only [Z.frz] at e
    cases t : c.toD with
    | none => rw [t] at e; cases e
    | some y =>
      rw [t] at e
      cases e
      refine ⟨addF F H g, f, CR.freeze r w t, h.mv (w.frz.2.fr) fun _ _ => rfl, w.frz.1, w.frz.2⟩
  | bor i p =>
    obtain ⟨rfl⟩ := r.bor_nil
    simp only [Z.frz] at e
    cases t : (Z.look ρ (.bor i p)).bind C.toD with
    | none => rw [t] at e; cases e
    | some y =>
      rw [t] at e
      cases e
      obtain ⟨c, e1, e2⟩ := Option.bind_eq_some_iff.mp t
      obtain ⟨l, g, r', e', k, q⟩ := h.at e1 r
      have w1 : Wd F H (g ++ (l ++ r')) := by
        refine Wd.perm w ?_
        rw [List.nil_append, e', ← List.append_assoc]
        exact List.perm_append_comm.append_right r'
      have fr := CR.freeze k w1 e2
      refine ⟨addF F H g, l ++ [] ++ r', fr, q _ _ _ _ w1.frz.2.fr (fun _ _ => rfl) (.d fr), by simpa using w1.frz.1, ?_⟩
      have st := w1.frz.2
      exact (st.wide (fun a m => by rw [List.nil_append, e']; simp only [List.mem_append] at m ⊢; rcases m with m | m | m <;> simp [m])).less fun a m => by simpa using m
/-- given to a name, or handed back -/
theorem VR.take {io : List Nat} {v : Val} {x : V} {c : C} {g : List Addr} {ρ' : Env} (w : Wd F H (g ++ f)) (h : ER K ca F H σ ρ f) (r : VR K ca F H σ x v g) (e : take io ρ v = .ok c ρ') :
    ∃ F' g' f', CR K ca F' H x c g' ∧ ER K ca F' H σ ρ' f' ∧ Wd F' H (g' ++ f') ∧ Step F H (g ++ f) F' H (g' ++ f') := by
  cases v with
  | own c =>
    simp only [Z.take] at e
    cases e
    exact ⟨F, g, f, r, h, w, Step.refl⟩
  | bor i p =>
    obtain ⟨rfl⟩ := r.bor_nil
    simp only [Z.take] at e
    have move : ∀ {c0 : C} , p = [] → slot ρ i = some c0 → ∃ F' g' f', CR K ca F' H x c0 g' ∧ ER K ca F' H σ (ρ.set i none) f' ∧ Wd F' H (g' ++ f') ∧ Step F H ([] ++ f) F' H (g' ++ f') := fun {c0} hp e1 => by
      subst hp
      obtain ⟨_, w', hw, hp⟩ := r
      cases hp
      obtain ⟨u, l, g, r', h1, h2, h3, _, h5⟩ := h.focus e1
      rw [hw] at h1
      cases h1
      have h6 := h5 F H (some x) (Same.refl _) fun _ _ => rfl
      rw [set_same hw] at h6
      have pm : f.Perm (g ++ (l ++ r')) := by rw [h2, ← List.append_assoc]; exact List.perm_append_comm.append_right r'
      exact ⟨F, g, l ++ r', h3, h6, w.perm (by simpa using pm), Step.refl.less fun a m => by rw [List.nil_append]; exact pm.mem_iff.mpr m⟩
    have froze : ∀ {y : PyData}, (Z.look ρ (.bor i p)).bind C.toD = some y → ∃ F' g' f', CR K ca F' H x (.d y) g' ∧ ER K ca F' H σ (putV ρ i p (.d y)) f' ∧ Wd F' H (g' ++ f') ∧ Step F H ([] ++ f) F' H (g' ++ f') := fun {y} t => by
      obtain ⟨F', f', a1, a2, a3, a4⟩ := VR.frz (v := .bor i p) (d := y) (ρ' := putV ρ i p (.d y)) w h r (by simp only [Z.frz]; rw [t])
      exact ⟨F', [], f', .d a1, a2, a3, a4⟩
    cases t : (Z.look ρ (.bor i p)).bind C.toD with
    | none =>
      rw [t] at e
      simp only at e
      split at e
      · rename_i hc
        simp only [Bool.and_eq_true] at hc
        cases e1 : slot ρ i with
        | none => rw [e1] at e; cases e
        | some c0 =>
          rw [e1] at e
          cases e
          exact move (by simpa using hc.1) e1
      · cases e
    | some y =>
      rw [t] at e
      simp only at e
      split at e
      · rename_i hc
        simp only [Bool.and_eq_true] at hc
        cases e1 : slot ρ i with
        | none => rw [e1] at e; cases e
        | some c0 =>
          rw [e1] at e
          cases e
          exact move (by simpa using hc.1) e1
      · cases e
        exact froze t
/-- a value stands through a step of the rest -/
theorem VR.stay {v : Val} {x : V} {g f' : List Addr} (st : Step F H f F' H' f') (w : Wd F H (g ++ f)) (r : VR K ca F H σ x v g) (hp : hasPath v = true → Same H H') : VR K ca F' H' σ x v g := by
  cases v with
  | own c => exact CR.mv st.fr c r (st.stay w.nd (CR.lives c r))
  | bor i p =>
    obtain ⟨e, w', hw, q⟩ := r
    refine ⟨e, w', hw, ?_⟩
    cases p with
    | nil => cases q; exact .nil
    | cons s p => exact q.same (hp rfl)
end
end Z
set_option linter.all false
set_option Elab.async false
set_option maxRecDepth 100000
/-! Z4: what the operators compute. -/
namespace Z
open PySem L2

/-! ### data that is read -/
def noDict : PyData → Bool
  | .dict _ => false
  | _ => true
section
variable {X : Cx} {pins : List (Addr × Obj)} {σ : L2.St} {H : Hp} {s : Shared}
mutual
theorem FR.dp : ∀ (d : PyData) {v : V}, FR X.K H v d → d.canLay0 = true → Dp X.K H v d
  | .none, _, h, _ => by cases h; exact .non
  | .bool b, _, h, _ => by cases h; exact .bl b
  | .int b, _, h, _ => by cases h; exact .int b
  | .str b, _, h, _ => by cases h; exact .str b
  | .list ds, _, h, c => by cases h with | lst s r => exact .lst s (FRs.dp ds r c)
  | .tuple ds, _, h, c => by cases h with | tup s r => exact .tup s (FRs.dp ds r c)
  | .dict _, _, _, c => nomatch c
theorem FRs.dp : ∀ (ds : List PyData) {v : List V}, FRs X.K H v ds → PyData.canLayAll0 ds = true → DpAll X.K H v ds
  | [], _, h, _ => by cases h; exact .nil
  | d :: ds, _, h, c => by
    have c' : d.canLay0 = true ∧ PyData.canLayAll0 ds = true := by simpa [PyData.canLayAll0] using c
    cases h with | cons a r => exact .cons (FR.dp d a c'.1) (FRs.dp ds r c'.2)
end
/-- == and != of what may be read -/
theorem eq_ok {x y : V} {v u : Value} {d e : PyData} (I : Inv X pins σ H s) (hu : X.A.units + 70 < cLine) (hx : FR X.K H x d) (hy : FR X.K H y e) (rx : RelV x v) (ry : RelV y u) (ok : eqOk d e = true) :
    SeqAt.RcAt X.A s v u (PyData.eqv d e) ∧ SeqAt.RcNeAt X.A s v u (!PyData.eqv d e) := by
  have h0 : X.A.units < cLine := by omega
  have isl : ∀ {a : Addr} {vs : List V}, SqL X.K H a vs → ∃ its : List Value, its.length = vs.length ∧ s.heap.IsList a its.toArray := fun q => by
    obtain ⟨its, rv, p, _⟩ := I.list q
    exact ⟨its, rv.length.symm, p.isList⟩
  have ist : ∀ {a : Addr} {vs : List V}, SqT X.K H a vs → ∃ its : List Value, its.length = vs.length ∧ s.heap.IsTuple a its.toArray := fun q => by
    obtain ⟨its, rv, p, _⟩ := I.tuple q
    exact ⟨its, rv.length.symm, p⟩
  have seqs : ∀ {xs ys : List PyData}, eqOkL xs ys = true → xs.isEmpty = false → ys.isEmpty = false → PyData.canLayAll0 xs = true ∧ PyData.canLayAll0 ys = true ∧ (PyData.depthAll xs ≤ 60 ∨ PyData.depthAll ys ≤ 60) := fun {xs ys} h h1 h2 => by
    simp only [eqOkL, h1, h2, Bool.false_or, Bool.and_eq_true, Bool.or_eq_true, decide_eq_true_eq] at h
    exact ⟨h.1.1, h.1.2, h.2⟩
  cases hx with
  | non =>
    cases (show v = Value.none from rx)
    cases hy with
    | non => cases (show u = Value.none from ry); exact ⟨SeqAt.RcAt.none_none, SeqAt.RcNeAt.none_none⟩
    | bl y => cases (show u = Value.bool y from ry); exact ⟨SeqAt.RcAt.none_bool y, SeqAt.RcNeAt.none_bool y⟩
    | int y => obtain ⟨t, rfl⟩ := ry; exact ⟨SeqAt.RcAt.none_int y t, SeqAt.RcNeAt.none_int y t⟩
    | str y => obtain ⟨t, rfl⟩ := ry; exact ⟨SeqAt.RcAt.none_str y t, SeqAt.RcNeAt.none_str y t⟩
    | lst q _ => cases (show u = Value.ref _ from ry); obtain ⟨its, _, p⟩ := isl q; exact ⟨SeqAt.RcAt.none_list p h0, SeqAt.RcNeAt.none_list p h0⟩
    | tup q _ => cases (show u = Value.ref _ from ry); obtain ⟨its, _, p⟩ := ist q; exact ⟨SeqAt.RcAt.none_tuple p h0, SeqAt.RcNeAt.none_tuple p h0⟩
    | dict _ _ => exact nomatch ok
  | bl x =>
    cases (show v = Value.bool x from rx)
    cases hy with
    | non => cases (show u = Value.none from ry); exact ⟨SeqAt.RcAt.bool_none x, SeqAt.RcNeAt.bool_none x⟩
    | bl y => cases (show u = Value.bool y from ry); exact ⟨SeqAt.RcAt.bool_bool x y, SeqAt.RcNeAt.bool_bool x y⟩
    | int y => obtain ⟨t, rfl⟩ := ry; exact ⟨SeqAt.RcAt.bool_int x y t, SeqAt.RcNeAt.bool_int x y t⟩
    | str y => obtain ⟨t, rfl⟩ := ry; exact ⟨SeqAt.RcAt.bool_str x y t, SeqAt.RcNeAt.bool_str x y t⟩
    | lst q _ => cases (show u = Value.ref _ from ry); obtain ⟨its, _, p⟩ := isl q; exact ⟨SeqAt.RcAt.bool_list x p h0, SeqAt.RcNeAt.bool_list x p h0⟩
    | tup q _ => cases (show u = Value.ref _ from ry); obtain ⟨its, _, p⟩ := ist q; exact ⟨SeqAt.RcAt.bool_tuple x p h0, SeqAt.RcNeAt.bool_tuple x p h0⟩
    | dict _ _ => exact nomatch ok
  | int x =>
    obtain ⟨t, rfl⟩ := rx
    cases hy with
    | non => cases (show u = Value.none from ry); exact ⟨SeqAt.RcAt.int_none x t, SeqAt.RcNeAt.int_none x t⟩
    | bl y => cases (show u = Value.bool y from ry); exact ⟨SeqAt.RcAt.int_bool x t y, SeqAt.RcNeAt.int_bool x t y⟩
    | int y => obtain ⟨t', rfl⟩ := ry; exact ⟨SeqAt.RcAt.int_int x t y t', SeqAt.RcNeAt.int_int x t y t'⟩
    | str y => obtain ⟨t', rfl⟩ := ry; exact ⟨SeqAt.RcAt.int_str x t y t', SeqAt.RcNeAt.int_str x t y t'⟩
    | lst q _ => cases (show u = Value.ref _ from ry); obtain ⟨its, _, p⟩ := isl q; exact ⟨SeqAt.RcAt.int_list x t p h0, SeqAt.RcNeAt.int_list x t p h0⟩
    | tup q _ => cases (show u = Value.ref _ from ry); obtain ⟨its, _, p⟩ := ist q; exact ⟨SeqAt.RcAt.int_tuple x t p h0, SeqAt.RcNeAt.int_tuple x t p h0⟩
    | dict _ _ => exact nomatch ok
  | str x =>
    obtain ⟨t, rfl⟩ := rx
    cases hy with
    | non => cases (show u = Value.none from ry); exact ⟨SeqAt.RcAt.str_none x t, SeqAt.RcNeAt.str_none x t⟩
    | bl y => cases (show u = Value.bool y from ry); exact ⟨SeqAt.RcAt.str_bool x t y, SeqAt.RcNeAt.str_bool x t y⟩
    | int y => obtain ⟨t', rfl⟩ := ry; exact ⟨SeqAt.RcAt.str_int x t y t', SeqAt.RcNeAt.str_int x t y t'⟩
    | str y => obtain ⟨t', rfl⟩ := ry; exact ⟨SeqAt.RcAt.str_str x t y t', SeqAt.RcNeAt.str_str x t y t'⟩
    | lst q _ => cases (show u = Value.ref _ from ry); obtain ⟨its, _, p⟩ := isl q; exact ⟨SeqAt.RcAt.str_list x t p h0, SeqAt.RcNeAt.str_list x t p h0⟩
    | tup q _ => cases (show u = Value.ref _ from ry); obtain ⟨its, _, p⟩ := ist q; exact ⟨SeqAt.RcAt.str_tuple x t p h0, SeqAt.RcNeAt.str_tuple x t p h0⟩
    | dict _ _ => exact nomatch ok
  | @lst a xs ds q r =>
    cases (show v = Value.ref _ from rx)
    obtain ⟨its, l1, p⟩ := isl q
    cases hy with
    | non => cases (show u = Value.none from ry); exact ⟨SeqAt.RcAt.list_none p h0, SeqAt.RcNeAt.list_none p h0⟩
    | bl y => cases (show u = Value.bool y from ry); exact ⟨SeqAt.RcAt.list_bool y p h0, SeqAt.RcNeAt.list_bool y p h0⟩
    | int y => obtain ⟨t', rfl⟩ := ry; exact ⟨SeqAt.RcAt.list_int y t' p h0, SeqAt.RcNeAt.list_int y t' p h0⟩
    | str y => obtain ⟨t', rfl⟩ := ry; exact ⟨SeqAt.RcAt.list_str y t' p h0, SeqAt.RcNeAt.list_str y t' p h0⟩
    | tup q' _ => cases (show u = Value.ref _ from ry); obtain ⟨its', _, p'⟩ := ist q'; exact ⟨SeqAt.RcAt.list_tuple p p' h0, SeqAt.RcNeAt.list_tuple p p' h0⟩
    | dict _ _ => exact nomatch ok
    | @lst a' xs' es q' r' =>
      cases (show u = Value.ref _ from ry)
      obtain ⟨its', l2, p'⟩ := isl q'
      have n1 := r.length
      have n2 := r'.length
      by_cases hz : ds.length = es.length
      · by_cases he : ds.isEmpty = true
        · have e1 : ds = [] := List.isEmpty_iff.mp he
          have e2 : es = [] := List.length_eq_zero_iff.mp (by rw [← hz, e1]; rfl)
          subst e1 e2
          have i1 : its = [] := List.length_eq_zero_iff.mp (by simpa [l1] using n1)
          have i2 : its' = [] := List.length_eq_zero_iff.mp (by simpa [l2] using n2)
          subst i1 i2
          have z1 := SeqAt.RcAt.lists (A := X.A) (e := fun _ => true) p p' rfl h0 fun j h1 _ => absurd h1 (Nat.not_lt_zero j)
          have z2 := SeqAt.RcNeAt.lists (A := X.A) (e := fun _ => true) p p' rfl h0 fun j h1 _ => absurd h1 (Nat.not_lt_zero j)
          exact ⟨z1, z2⟩
        · have e1 : ds.isEmpty = false := by simpa using he
          have e2 : es.isEmpty = false := by
            cases es with
            | nil => simp at hz; subst hz; simp at he
            | cons _ _ => rfl
          obtain ⟨c1, c2, c3⟩ := seqs ok e1 e2
          obtain ⟨as, ra⟩ := Dp.reads I (.list ds) _ _ (FR.dp (.list ds) (.lst q r) c1) rfl
          obtain ⟨bs, rb⟩ := Dp.reads I (.list es) _ _ (FR.dp (.list es) (.lst q' r') c2) rfl
          have hd : X.A.units + min (PyData.list ds).depth (PyData.list es).depth < cLine := by simp only [PyData.depth]; omega
          exact ⟨SeqAt.rcAt_reads ra rb c1 c2 hd, SeqAt.rcNeAt_reads ra rb c1 c2 hd⟩
      · have z := SeqAt.eqvAll_other_length hz
        show SeqAt.RcAt X.A s _ _ (PyData.eqvAll ds es) ∧ SeqAt.RcNeAt X.A s _ _ (!PyData.eqvAll ds es)
        rw [z]
        have hne : (its.toArray.size != its'.toArray.size) = true := by simp; omega
        exact ⟨SeqAt.RcAt.lists_lengths p p' hne h0, SeqAt.RcNeAt.lists_lengths p p' hne h0⟩
  | @tup a xs ds q r =>
    cases (show v = Value.ref _ from rx)
    obtain ⟨its, l1, p⟩ := ist q
    cases hy with
    | non => cases (show u = Value.none from ry); exact ⟨SeqAt.RcAt.tuple_none p h0, SeqAt.RcNeAt.tuple_none p h0⟩
    | bl y => cases (show u = Value.bool y from ry); exact ⟨SeqAt.RcAt.tuple_bool y p h0, SeqAt.RcNeAt.tuple_bool y p h0⟩
    | int y => obtain ⟨t', rfl⟩ := ry; exact ⟨SeqAt.RcAt.tuple_int y t' p h0, SeqAt.RcNeAt.tuple_int y t' p h0⟩
    | str y => obtain ⟨t', rfl⟩ := ry; exact ⟨SeqAt.RcAt.tuple_str y t' p h0, SeqAt.RcNeAt.tuple_str y t' p h0⟩
    | lst q' _ => cases (show u = Value.ref _ from ry); obtain ⟨its', _, p'⟩ := isl q'; exact ⟨SeqAt.RcAt.tuple_list p p' h0, SeqAt.RcNeAt.tuple_list p p' h0⟩
    | dict _ _ => exact nomatch ok
    | @tup a' xs' es q' r' =>
      cases (show u = Value.ref _ from ry)
      obtain ⟨its', l2, p'⟩ := ist q'
      have n1 := r.length
      have n2 := r'.length
      by_cases he : ds.isEmpty = true ∨ es.isEmpty = true
      · have hm : ∀ j, j < its.toArray.size → j < its'.toArray.size → False := fun j h1 h2 => by
          rw [List.size_toArray] at h1 h2
          rcases he with he | he
          · have := List.isEmpty_iff.mp he
            subst this
            rw [List.length_nil] at n1
            omega
          · have := List.isEmpty_iff.mp he
            subst this
            rw [List.length_nil] at n2
            omega
        have z1 := SeqAt.RcAt.tuples (A := X.A) (e := fun _ => true) p p' h0 fun j h1 h2 => (hm j h1 h2).elim
        have z2 := SeqAt.RcNeAt.tuples (A := X.A) (e := fun _ => true) p p' h0 fun j h1 h2 => (hm j h1 h2).elim
        have e : ((List.range (min its.toArray.size its'.toArray.size)).all (fun _ => true) && its.toArray.size == its'.toArray.size) = PyData.eqv (.tuple ds) (.tuple es) := by
          have a1 : its.toArray.size = ds.length := by rw [List.size_toArray]; omega
          have a2 : its'.toArray.size = es.length := by rw [List.size_toArray]; omega
          rw [a1, a2]
          show _ = PyData.eqvAll ds es
          cases ds with
          | nil => cases es with
            | nil => rfl
            | cons _ _ => simp [PyData.eqvAll]
          | cons _ _ => cases es with
            | nil => simp [PyData.eqvAll]
            | cons _ _ => simp at he
        rw [← e]
        exact ⟨z1, z2⟩
      · simp only [not_or, Bool.not_eq_true] at he
        obtain ⟨c1, c2, c3⟩ := seqs ok he.1 he.2
        obtain ⟨as, ra⟩ := Dp.reads I (.tuple ds) _ _ (FR.dp (.tuple ds) (.tup q r) c1) rfl
        obtain ⟨bs, rb⟩ := Dp.reads I (.tuple es) _ _ (FR.dp (.tuple es) (.tup q' r') c2) rfl
        have hd : X.A.units + min (PyData.tuple ds).depth (PyData.tuple es).depth < cLine := by simp only [PyData.depth]; omega
        exact ⟨SeqAt.rcAt_reads ra rb c1 c2 hd, SeqAt.rcNeAt_reads ra rb c1 c2 hd⟩
  | dict _ _ => cases e <;> exact nomatch ok
end
end Z
set_option linter.all false
set_option Elab.async false
set_option maxRecDepth 100000
/-! Z5: operators, continued. -/
namespace Z
open PySem L2

/-- what is wanted of something new, or of frozen data -/
def NewQ (K : PySem.W.Frag) (ca : Nat → Addr) (F H : Hp) (Q : VK) (c : C) : Prop := ∀ (F' H' : Hp) (x : V) (f : List Addr), Step F H [] F' H' f → Wd F' H' f → CR K ca F' H' x c f → Q x H'
section
variable {K : PySem.W.Frag} {ca : Nat → Addr} {F H : Hp} {Q : VK}
theorem NewQ.id {x : V} {d : PyData} (s : Same F H) (r : FR K F x d) (h : NewQ K ca F H Q (.d d)) : Q x H := h F H x [] Step.refl ⟨s, List.nodup_nil, fun _ m => nomatch m⟩ (.d r)
theorem same_updN {p : Addr} {o : HO} (h : H p = none) : Same H (upd H p o) := fun b x e => by rw [upd_ne (ne_of_none e h)]; exact e
theorem step_new {p : Addr} {o : HO} (n : H p = none) : Step F H [] F (upd H p o) [p] where
  fr := Same.refl _
  keep := fun a x e _ => same_updN n a x e
  there := fun a e => by
    cases q : H a with
    | none => exact absurd q e
    | some x =>
      rw [same_updN n a x q]
      exact fun z => nomatch z
  nf := fun a m => by
    rw [List.mem_singleton.mp m]
    exact .inr n
  nF := fun a e => .inl e
theorem crs_d : ∀ {ds : List PyData} {vs : List V}, FRs K F vs ds → CRs K ca F H vs (ds.map C.d) []
  | [], _, h => by cases h; exact .nil
  | d :: ds, _, h => by cases h with | cons a r => have := CRs.cons (CR.d (ca := ca) (H := H) a) (crs_d r); simpa using this
theorem NewQ.lst {ds : List PyData} {vs : List V} {p : Addr} (s : Same F H) (r : FRs K F vs ds) (h : NewQ K ca F H Q (fresh ds)) (n : H p = none) : Q (.ref p) (upd H p (.lst vs)) :=
  h F _ _ [p] (step_new n) ⟨s.trans (same_updN n), by simp, fun a m => by rw [List.mem_singleton.mp m]; exact s.free n⟩ (.lst upd_same (crs_d r))
theorem NewQ.frozen {d : PyData} {p : Addr} {o : HO} (s : Same F H) (n : H p = none) (r : FR K (upd F p o) (.ref p) d) (h : NewQ K ca F H Q (.d d)) : Q (.ref p) (upd H p o) := by
  have nF : F p = none := s.free n
  refine h (upd F p o) _ _ [] ⟨same_updN nF, fun a x e _ => same_updN n a x e, (step_new (F := F) (o := o) n).there, (fun _ m => nomatch m), fun a e => ?_⟩ ⟨fun a x e => ?_, List.nodup_nil, fun _ m => nomatch m⟩ (.d r)
  · by_cases q : a = p
    · subst q; exact .inr (.inl n)
    · rw [upd_ne q] at e; exact .inl e
  · by_cases q : a = p
    · subst q; rw [upd_same] at e ⊢; exact e
    · rw [upd_ne q] at e ⊢; exact s a x e
theorem NewQ.tup {ds : List PyData} {vs : List V} {p : Addr} (s : Same F H) (r : FRs K F vs ds) (h : NewQ K ca F H Q (.d (.tuple ds))) (n : H p = none) : Q (.ref p) (upd H p (.tup vs)) :=
  NewQ.frozen s n (.tup (.inl (.inl upd_same)) (FRs.mono (same_updN (s.free n)) _ r)) h
end

/-! ### in -/
theorem FR.flatV {K : PySem.W.Frag} {F : Hp} {x : V} {d : PyData} (h : FR K F x d) (c : scalar d = true) : L2.flatV x = true := by
  cases h <;> first | rfl | exact nomatch c
theorem FRs.flatV {K : PySem.W.Frag} {F : Hp} : ∀ {ds : List PyData} {xs : List V}, FRs K F xs ds → ds.all scalar = true → xs.all L2.flatV = true
  | [], _, h, _ => by cases h; rfl
  | d :: ds, _, h, c => by
    rw [List.all_cons, Bool.and_eq_true] at c
    cases h with | cons a r => rw [List.all_cons, a.flatV c.1, FRs.flatV r c.2]; rfl
theorem eqV_eqv {K : PySem.W.Frag} {F : Hp} {x y : V} {d e : PyData} (hx : FR K F x d) (hy : FR K F y e) (c : scalar d = true) (c' : scalar e = true) : L2.eqV x y = PyData.eqv d e := by
  cases hx <;> first | (cases hy <;> first | rfl | exact nomatch c') | exact nomatch c
theorem inV_mem {K : PySem.W.Frag} {F : Hp} {x : V} {d : PyData} (hx : FR K F x d) (c : scalar d = true) : ∀ {ds : List PyData} {xs : List V}, FRs K F xs ds → ds.all scalar = true → L2.inV x xs = mem d ds
  | [], _, h, _ => by cases h; rfl
  | e :: ds, _, h, q => by
    rw [List.all_cons, Bool.and_eq_true] at q
    cases h with
    | cons a r =>
      have := inV_mem hx c r q.2
      unfold L2.inV mem at this ⊢
      rw [List.any_cons, List.any_cons, eqV_eqv a hx q.1 c, this]
section
variable {X : Cx} {pins : List (Addr × Obj)} {σ : L2.St} {H : Hp} {s : Shared}
theorem mem_ok {x y : V} {v u : Value} {d : PyData} {ds : List PyData} {Q : VK} (I : Inv X pins σ H s) (hu : X.A.units + 70 < cLine) (hx : FR X.K H x d) (hy : FR X.K H y (.list ds) ∨ FR X.K H y (.tuple ds)) (rx : RelV x v) (ry : RelV y u) (ok : memOk d ds = true) :
    (Q (.bl (mem d ds)) H → wpAny (model X.prog X.w) X.A (compareOp .In v u) (EP X pins σ Q) X.xe s) ∧ (Q (.bl (!mem d ds)) H → wpAny (model X.prog X.w) X.A (compareOp .NotIn v u) (EP X pins σ Q) X.xe s) := by
  simp only [memOk, Bool.or_eq_true, Bool.and_eq_true, decide_eq_true_eq] at ok
  rcases ok with ⟨c1, c2⟩ | ⟨⟨c1, c2⟩, c3⟩
  · obtain ⟨p, xs, rfl, hq, r⟩ : ∃ p xs, y = .ref p ∧ (SqL X.K H p xs ∨ SqT X.K H p xs) ∧ FRs X.K H xs ds := by
      rcases hy with hy | hy
      · cases hy with | lst q r => exact ⟨_, _, rfl, .inl q, r⟩
      · cases hy with | tup q r => exact ⟨_, _, rfl, .inr q, r⟩
    have e := inV_mem hx c1 r c2
    refine ⟨fun q => op_in_seq pins s σ H _ _ v u Q I rx ry ⟨p, xs, rfl, hq, hx.flatV c1, r.flatV c2, ?_⟩, fun q => op_notIn_seq pins s σ H _ _ v u Q I rx ry ⟨p, xs, rfl, hq, hx.flatV c1, r.flatV c2, ?_⟩⟩
    · rw [e]; exact q
    · rw [e]; exact q
  · obtain ⟨as, r1⟩ := Dp.reads I d x v (FR.dp d hx c1) rx
    have hroom : ∀ ys : List PyData, X.A.units + 1 + min (PyData.depthAll ys) d.depth < cLine := fun ys => by omega
    rcases hy with hy | hy
    · obtain ⟨bs, r2⟩ := Dp.reads I (.list ds) y u (FR.dp (.list ds) hy c2) ry
      exact ⟨fun q => SeqAt.in_list_reads r2 r1 c2 c1 (hroom _) ⟨.bl _, H, I, rfl, q⟩, fun q => SeqAt.notIn_list_reads r2 r1 c2 c1 (hroom _) ⟨.bl _, H, I, rfl, q⟩⟩
    · obtain ⟨bs, r2⟩ := Dp.reads I (.tuple ds) y u (FR.dp (.tuple ds) hy c2) ry
      exact ⟨fun q => SeqAt.in_tuple_reads r2 r1 c2 c1 (hroom _) ⟨.bl _, H, I, rfl, q⟩, fun q => SeqAt.notIn_tuple_reads r2 r1 c2 c1 (hroom _) ⟨.bl _, H, I, rfl, q⟩⟩
end

/-! ### the operators -/
section
open PySem.Calls PyProof.Rows
theorem intRmulZ (a : Int) (t : Tok) (l : Addr) (its : Array Value) (n : Nat) (sl : Array (Option Value)) :
    Meets (Builtin.«int.__rmul__» ⟨[.int a t, .ref l], []⟩) (fun _ R s => s.heap.get? l = some { cls := .type "list", dict := none, data := .seq its n, slots := sl } ∧ R (.ok (.ret Value.notImplemented)) s) :=
  .of_wp fun prog w A R s h => by
    obtain ⟨hp, g, d, tk, os⟩ := s
    obtain ⟨hl, h⟩ := h
    wp_walk using wpAny_loadPart' hl
    exact ⟨_, rfl, h⟩
theorem listMulZ (l : Addr) (its : Array Value) (n : Nat) (sl : Array (Option Value)) (k : Int) (u : Tok) (c0 : ¬ (!Builtin.List.listFitsIndex k) = true) (c1 : ¬ its.size * k.toNat > (2 ^ 63 - 1) / 8) (c2 : ¬ Builtin.List.listTooLong (its.size * k.toNat) = true) :
    Meets (Builtin.«list.__mul__» ⟨[.ref l, .int k u], []⟩) (fun _ R s => s.heap.get? l = some { cls := .type "list", dict := none, data := .seq its n, slots := sl } ∧
      R (.ok (.ret (Value.ref s.heap.objs.size))) { s with heap := s.heap.push { cls := Value.type "list", data := Data.seq (List.foldl (fun x1 x2 => x1 ++ x2) #[] (List.replicate (if its.isEmpty = true then 0 else k.toNat) its)) }, toks := s.toks }) :=
  .of_wp fun prog w A R s h => by
    obtain ⟨hp, g, d, tk, os⟩ := s
    obtain ⟨hl, h⟩ := h
    have hz := AutoListH.joined_fits c2
    wp_walk using wpAny_loadPart' hl
    refine wpAny_ite_false (decide_eq_false (Nat.not_lt.mpr hz)) ?_
    wp_walk using wpAny_loadPart' hl
    exact ⟨_, rfl, h⟩
end

section
open PySem.Calls PyProof.Rows
variable {X : Cx}
/-- a list times a number, however the list stands -/
theorem op_repZ : OpR X (binaryOp .Mult) (fun x y H Q => ∃ l k xs, x = .ref l ∧ y = .int k ∧ SqL X.K H l xs ∧ -1000 ≤ k ∧ k ≤ 1000 ∧ xs.length ≤ 1000 ∧ ∀ p, H p = none → Q (.ref p) (upd H p (.lst (List.replicate k.toNat xs).flatten))) := by
  intro pins s σ H x y v u Q I rx ry h
  obtain ⟨l, k, xs, rfl, rfl, hl, h1, h2, hx, q⟩ := h
  cases rx
  obtain ⟨t, rfl⟩ := ry
  obtain ⟨its, r, ⟨⟨cls, dd, data, sl⟩, n, ho, hc, hdd, hd⟩, hz⟩ := I.list hl
  simp only at hc hdd hd
  subst hc hdd hd
  have hlen : its.toArray.size * k.toNat ≤ 1000000 := by
    rw [List.size_toArray, ← r.length]
    calc xs.length * k.toNat ≤ 1000 * 1000 := Nat.mul_le_mul hx (by omega)
      _ = 1000000 := rfl
  have hcap : ¬ its.toArray.size * k.toNat > (2 ^ 63 - 1) / 8 := by
    have : (1000000 : Nat) ≤ (2 ^ 63 - 1) / 8 := by decide
    omega
  have hfit : ¬ (!Builtin.List.listFitsIndex k) = true := by
    rw [fitsIndex_both (by omega) (by omega)]
    exact Bool.false_ne_true
  have hlong : ¬ Builtin.List.listTooLong (its.toArray.size * k.toNat) = true := by
    rw [notLongL (by rw [sizeLine_eq]; omega)]
    exact Bool.false_ne_true
  have hnew : List.foldl (fun x1 x2 => x1 ++ x2) #[] (List.replicate (if its.toArray.isEmpty = true then 0 else k.toNat) its.toArray) = (List.replicate k.toNat its).flatten.toArray := by
    rw [size_rep]
    cases its with
    | nil => simp
    | cons a r' => rw [if_neg (by simp)]
  refine wpAny_binaryOp_repeat_ref (T := "list") (U := "int") (by decide) ⟨_, ho, rfl⟩ (fun s' => typeIs_int s' k t) noFill_list_mul F.fills_int_mul F.slot_int_rmul repeat_list F.slot_int_index.lookup ?_
  refine call_meets F.slot_int_rmul (typeIs_int s k t) F.entry_int_rmul (F.args_int_rmul_2 _ _) (intRmulZ k t l its.toArray n sl) ⟨ho, rfl, ⟨_, ho, rfl⟩, ?_⟩
  refine call_meets F.slot_list_mul ⟨_, ho, rfl⟩ F.entry_list_mul (F.args_list_mul_2 _ _) (listMulZ l its.toArray n sl k t hfit hcap hlong) ⟨ho, ?_⟩
  rw [hnew]
  have hle : (List.replicate k.toNat xs).flatten.length ≤ sizeLine := by
    rw [lm_len_rep_flat, Nat.mul_comm, sizeLine_eq]
    have := hlen
    rw [List.size_toArray, ← r.length] at this
    omega
  exact ⟨.ref _, _, I.lnew (t' := s.toks) (r.rep k.toNat) hle, rfl, q _ I.fresh⟩
/-- two lists, however they stand -/
theorem op_catZ : OpR X (binaryOp .Add) (fun x y H Q => ∃ l b xs ys, x = .ref l ∧ y = .ref b ∧ SqL X.K H l xs ∧ SqL X.K H b ys ∧ xs.length + ys.length ≤ sizeLine ∧ ∀ p, H p = none → Q (.ref p) (upd H p (.lst (xs ++ ys)))) := by
  intro pins s σ H x y v u Q I rx ry h
  obtain ⟨l, b, xs, ys, rfl, rfl, hl, hb, hz, q⟩ := h
  cases rx
  cases ry
  obtain ⟨its, r1, ⟨⟨cls, dd, data, sl⟩, n, ho, hc, hdd, hd⟩, _⟩ := I.list hl
  obtain ⟨its2, r2, ⟨⟨cls2, dd2, data2, sl2⟩, n2, ho2, hc2, hdd2, hd2⟩, _⟩ := I.list hb
  simp only at hc hdd hd hc2 hdd2 hd2
  subst hc hdd hd hc2 hdd2 hd2
  have hn : its.toArray.size + its2.toArray.size ≤ sizeLine := by rw [List.size_toArray, List.size_toArray, ← r1.length, ← r2.length]; exact hz
  refine concat_meets ⟨_, ho, rfl⟩ ⟨_, ho2, rfl⟩ noFill_list_add seq_list_add PySem.F.slot_list_add PySem.F.entry_list_add (PySem.F.args_list_add_2 _ _) (list_addW l b its.toArray its2.toArray n n2 none none sl sl2 hn) ⟨ho, ho2, ?_⟩
  have e : its.toArray ++ its2.toArray = (its ++ its2).toArray := by simp
  rw [e]
  exact ⟨.ref _, _, I.lnew (t' := s.toks) (r1.append r2) (by rw [List.length_append]; exact hz), rfl, q _ I.fresh⟩
end
end Z
set_option linter.all false
set_option Elab.async false
set_option maxRecDepth 100000
/-! Z6: tuples and texts times a number; all operators. -/
namespace Z
open PySem L2
section
open PySem.Calls PyProof.Rows
theorem tupMul1 (l : Addr) (its : Array Value) (n : Nat) (dd : Option Addr) (sl : Array (Option Value)) (k : Int) (u : Tok) (c0 : (decide (k < -(2 ^ 63)) || decide (k ≥ 2 ^ 63)) = false) (c1 : (its.isEmpty || k == 1) = true) :
    Meets (Builtin.«tuple.__mul__» ⟨[.ref l, .int k u], []⟩) (fun _ R s => s.heap.get? l = some { cls := .type "tuple", dict := dd, data := .seq its n, slots := sl } ∧ R (.ok (.ret (Value.ref l))) { s with heap := s.heap, toks := s.toks }) :=
  .of_wp fun prog w A R s h => by
    obtain ⟨hp, g, d, tk, os⟩ := s
    obtain ⟨hl, h⟩ := h
    have f1 := AutoSeq1.idx_int
    wp_walk using wpAny_loadPart' hl
    repeat (first
      | (refine wpAny_ite_false (decide_eq_false (by rw [c0]; exact Bool.false_ne_true)) ?_; wp_walk using wpAny_loadPart' hl)
      | (refine wpAny_ite_true (decide_eq_true c1) ?_; wp_walk using wpAny_loadPart' hl))
    exact ⟨_, rfl, h⟩
theorem tupMul0 (l : Addr) (its : Array Value) (n : Nat) (dd : Option Addr) (sl : Array (Option Value)) (k : Int) (u : Tok) (c0 : (decide (k < -(2 ^ 63)) || decide (k ≥ 2 ^ 63)) = false) (c1 : (its.isEmpty || k == 1) = false) (c2 : (decide (k ≤ 0) || its.isEmpty) = true) :
    Meets (Builtin.«tuple.__mul__» ⟨[.ref l, .int k u], []⟩) (fun _ R s => s.heap.get? l = some { cls := .type "tuple", dict := dd, data := .seq its n, slots := sl } ∧
      R (.ok (.ret (Value.ref s.heap.objs.size))) { s with heap := s.heap.push { cls := Value.type "tuple", data := Data.seq #[] }, toks := s.toks }) :=
  .of_wp fun prog w A R s h => by
    obtain ⟨hp, g, d, tk, os⟩ := s
    obtain ⟨hl, h⟩ := h
    have f1 := AutoSeq1.idx_int
    wp_walk using wpAny_loadPart' hl
    repeat (first
      | (refine wpAny_ite_false (decide_eq_false (by rw [c0]; exact Bool.false_ne_true)) ?_; wp_walk using wpAny_loadPart' hl)
      | (refine wpAny_ite_false (decide_eq_false (by rw [c1]; exact Bool.false_ne_true)) ?_; wp_walk using wpAny_loadPart' hl)
      | (refine wpAny_ite_true (decide_eq_true c2) ?_; wp_walk using wpAny_loadPart' hl))
    exact ⟨_, rfl, h⟩
variable {X : Cx}
theorem op_repTZ : OpR X (binaryOp .Mult) (fun x y H Q => ∃ l k xs, x = .ref l ∧ y = .int k ∧ SqT X.K H l xs ∧ -1000 ≤ k ∧ k ≤ 1000 ∧ xs.length ≤ 1000 ∧ (xs = [] ∨ k = 1 → Q (.ref l) H) ∧ ∀ p, H p = none → Q (.ref p) (upd H p (.tup (List.replicate k.toNat xs).flatten))) := by
  intro pins s σ H x y v u Q I rx ry h
  obtain ⟨l, k, xs, rfl, rfl, hT, h1, h2, hz, q1, q⟩ := h
  have rx0 := rx
  have ry0 := ry
  cases rx
  obtain ⟨t, rfl⟩ := ry
  obtain ⟨its, r, ⟨⟨cls, dd, data, sl⟩, ho, hc, n, hd⟩, hs⟩ := I.tuple hT
  simp only at hc hd
  subst hc hd
  have c0 : (decide (k < -(2 ^ 63)) || decide (k ≥ 2 ^ 63)) = false := by
    rw [decide_eq_false (by omega), decide_eq_false (by omega)] <;> rfl
  have go : ∀ {R : Value → Shared → Prop}, wpAny (model X.prog X.w) (X.A.in1.in1) (call (.builtin "tuple.__mul__") [.ref l, .int k t]) R X.xe s → True := fun _ => trivial
  by_cases hx : xs = [] ∨ k = 1
  · have c1 : (its.toArray.isEmpty || k == 1) = true := by
      rcases hx with e | e
      · subst e
        cases r
        rfl
      · subst e
        simp
    refine wpAny_binaryOp_repeat_ref (T := "tuple") (U := "int") (by decide) ⟨_, ho, rfl⟩ (fun s' => typeIs_int s' k t) noFill_tuple_mul F.fills_int_mul F.slot_int_rmul repeat_tuple F.slot_int_index.lookup ?_
    refine call_meets F.slot_int_rmul (typeIs_int s k t) F.entry_int_rmul (F.args_int_rmul_2 _ _) (int_rmul_tuple k t l its.toArray n dd sl) ⟨ho, rfl, ⟨_, ho, rfl⟩, ?_⟩
    exact call_meets F.slot_tuple_mul ⟨_, ho, rfl⟩ F.entry_tuple_mul (F.args_tuple_mul_2 _ _) (tupMul1 l its.toArray n dd sl k t c0 c1) ⟨ho, .ref l, H, I, rfl, q1 hx⟩
  · have hx0 : xs ≠ [] := fun e => hx (.inl e)
    have hk1 : k ≠ 1 := fun e => hx (.inr e)
    by_cases hk : k ≤ 0
    · have hi : its.toArray.isEmpty = false := by
        cases r with
        | nil => exact absurd rfl hx0
        | cons _ _ => rfl
      have c1 : (its.toArray.isEmpty || k == 1) = false := by
        rw [hi, Bool.false_or]
        exact beq_eq_false_iff_ne.mpr hk1
      have c2 : (decide (k ≤ 0) || its.toArray.isEmpty) = true := by rw [decide_eq_true hk]; rfl
      refine wpAny_binaryOp_repeat_ref (T := "tuple") (U := "int") (by decide) ⟨_, ho, rfl⟩ (fun s' => typeIs_int s' k t) noFill_tuple_mul F.fills_int_mul F.slot_int_rmul repeat_tuple F.slot_int_index.lookup ?_
      refine call_meets F.slot_int_rmul (typeIs_int s k t) F.entry_int_rmul (F.args_int_rmul_2 _ _) (int_rmul_tuple k t l its.toArray n dd sl) ⟨ho, rfl, ⟨_, ho, rfl⟩, ?_⟩
      refine call_meets F.slot_tuple_mul ⟨_, ho, rfl⟩ F.entry_tuple_mul (F.args_tuple_mul_2 _ _) (tupMul0 l its.toArray n dd sl k t c0 c1 c2) ⟨ho, ?_⟩
      have e : (List.replicate k.toNat xs).flatten = [] := by
        have : k.toNat = 0 := by omega
        rw [this]
        rfl
      have q' := q s.heap.objs.size (I.hok.fresh (Nat.le_refl _))
      rw [e] at q'
      refine ⟨.ref s.heap.objs.size, _, I.laid (t' := s.toks) (o := .tup []) (fun b ob q => Heap.get?_push_of_some _ q) (Nat.le_refl _) ?_, rfl, q'⟩
      exact ⟨Nat.zero_le _, [], .nil, IsTup.new _ _⟩
    · exact op_repT pins s σ H _ _ _ _ Q I rx0 ry0 ⟨l, k, xs, rfl, rfl, hT, hx0, by omega, by omega, hz, q⟩
theorem foldl_arr : ∀ (m : Nat) (x a : Array Nat), ((List.replicate m x).foldl (· ++ ·) a).toList = a.toList ++ (List.replicate m x.toList).flatten
  | 0, x, a => by simp
  | m + 1, x, a => by rw [List.replicate_succ, List.foldl_cons, foldl_arr m x (a ++ x), List.replicate_succ, List.flatten_cons]; simp [List.append_assoc]
theorem mul_strOf (x : Str) (n : Int) : Txt.mul x n = strOf (rep x.cps.toList n) := by
  unfold Txt.mul strOf rep
  split
  · rename_i h
    have : n.toNat = 0 := by omega
    rw [this]
    rfl
  · split
    · rename_i h h2
      simp only [Bool.or_eq_true, beq_iff_eq] at h2
      rcases h2 with h2 | h2
      · subst h2
        simp
      · have : x.cps.toList = [] := by
          have h3 : x.cps.size = 0 := h2
          exact List.length_eq_zero_iff.mp (by simpa using h3)
        have e : x = ⟨#[]⟩ := by
          cases x with
          | mk c => simp at this; subst this; rfl
        subst e
        simp
    · have := foldl_arr n.toNat x.cps #[]
      simp only [Array.toList_empty, List.nil_append] at this
      rw [← this]
theorem op_repSZ : OpR X (binaryOp .Mult) (fun x y H Q => ∃ z k, x = .str z ∧ y = .int k ∧ z.length ≤ 1000 ∧ -10000 ≤ k ∧ k ≤ 10000 ∧ Q (.str (strOf (rep z.cps.toList k))) H) := by
  intro pins s σ H x y v u Q I rx ry h
  obtain ⟨z, k, rfl, rfl, hz, h1, h2, q⟩ := h
  obtain ⟨t, rfl⟩ := rx
  obtain ⟨t', rfl⟩ := ry
  refine SB.mul ⟨?_, fun h3 h4 => ?_, fun h3 h4 => ?_⟩ fun t' k' => ⟨.str (strOf (rep z.cps.toList k)), H, I.tok k', ⟨t', by rw [mul_strOf]⟩, q⟩
  · rw [decide_eq_false (by omega), decide_eq_false (by omega)] <;> rfl
  · have h5 : (z.length : Int) * k ≤ 1000 * 10000 := Int.mul_le_mul (by omega) (by omega) (by omega) (by omega)
    have h6 : (z.length : Int) ≤ (2 ^ 63 - 1) / k := Int.le_ediv_of_mul_le (by omega) (by omega)
    omega
  · have : z.length * k.toNat ≤ 1000 * 10000 := Nat.mul_le_mul hz (by omega)
    unfold Builtin.Str.tooLong
    rw [sizeLine_eq]
    exact decide_eq_false (by omega)
end

def opF : O2 → Value → Value → Sem Value
  | .add => binaryOp .Add
  | .sub => binaryOp .Sub
  | .mul => binaryOp .Mult
  | .fdiv => binaryOp .FloorDiv
  | .mod => binaryOp .Mod
  | .pow => binaryOp .Pow
  | .shr => binaryOp .RShift
  | .band => binaryOp .BitAnd
  | .eq => compareOp .Eq
  | .ne => compareOp .NotEq
  | .lt => compareOp .Lt
  | .le => compareOp .LtE
  | .gt => compareOp .Gt
  | .ge => compareOp .GtE
  | .isin => compareOp .In
  | .notin => compareOp .NotIn
theorem natAbs_wide {x : Int} (h : x.natAbs < 2 ^ 64) : -(2 ^ 64) < x ∧ x < 2 ^ 64 := by omega
section
variable {X : Cx} {pins : List (Addr × Obj)} {σ : L2.St} {H F : Hp} {s : Shared} {ca : Nat → Addr}
theorem sizeLine' : sizeLine = 16777216 := sizeLine_eq
theorem hasK_val {K : PySem.W.Frag} {F : Hp} : ∀ {ps : List (PyData × PyData)} {kvs : List (L2.Key × V)}, FRk K F kvs ps → ∀ k : Ky, hasK k ps = (L2.valV kvs k).isSome
  | [], _, h, k => by cases h; rfl
  | p :: ps, _, h, k => by
    cases h with
    | @cons j v r d s a q =>
      have ih := hasK_val q k
      unfold hasK at ih ⊢
      have e : dKy (kyD j) = some j := by cases j <;> rfl
      rw [List.any_cons, e]
      by_cases hj : j = k
      · rw [L2.valV_pos (p := (j, v)) hj]
        simp [hj]
      · rw [L2.valV_neg (p := (j, v)) hj, ← ih]
        simp [hj]
theorem in_ok (neg : Bool) {x y : V} {v u : Value} {d e : PyData} {c : C} {Q : VK} (I : Inv X pins σ H s) (hu : X.A.units + 70 < cLine) (sm : Same F H) (hx : PR X.K F H x d) (hy : PR X.K F H y e) (rx : RelV x v) (ry : RelV y u)
    (ok : sem2 (if neg then .notin else .isin) d e = some c) (q : NewQ X.K ca F H Q c) : wpAny (model X.prog X.w) X.A (opF (if neg then .notin else .isin) v u) (EP X pins σ Q) X.xe s := by
  have ofI : ∀ {i : Int} {z : V}, PR X.K F H z (.int i) → z = .int i := fun h => by cases h with | fr h => cases h; rfl
  have ofS : ∀ {i : Str} {z : V}, PR X.K F H z (.str i) → z = .str i := fun h => by cases h with | fr h => cases h; rfl
  have qB : ∀ {i : Bool}, c = .d (.bool i) → Q (.bl i) H := fun e => by subst e; exact q.id sm (.bl _)
  have seq : ∀ {ds : List PyData}, (e = .list ds ∨ e = .tuple ds) → memOk d ds = true → c = .d (.bool (if neg then !mem d ds else mem d ds)) → wpAny (model X.prog X.w) X.A (opF (if neg then .notin else .isin) v u) (EP X pins σ Q) X.xe s := fun {ds} he hm hc => by
    have hy' : FR X.K H y (.list ds) ∨ FR X.K H y (.tuple ds) := by
      rcases he with he | he
      · subst he; exact .inl (hy.read sm)
      · subst he; exact .inr (hy.read sm)
    have z := mem_ok (Q := Q) I hu (hx.read sm) hy' rx ry hm
    cases neg with
    | true => exact z.2 (qB hc)
    | false => exact z.1 (qB hc)
  cases e with
  | list ds =>
    have : memOk d ds = true ∧ c = .d (.bool (if neg then !mem d ds else mem d ds)) := by
      cases neg <;> (cases d <;> (simp only [Bool.false_eq_true, if_false, if_true, sem2] at ok; split at ok <;> first | (cases ok; done) | exact ⟨by assumption, (Option.some.inj ok).symm⟩))
    exact seq (.inl rfl) this.1 this.2
  | tuple ds =>
    have : memOk d ds = true ∧ c = .d (.bool (if neg then !mem d ds else mem d ds)) := by
      cases neg <;> (cases d <;> (simp only [Bool.false_eq_true, if_false, if_true, sem2] at ok; split at ok <;> first | (cases ok; done) | exact ⟨by assumption, (Option.some.inj ok).symm⟩))
    exact seq (.inr rfl) this.1 this.2
  | str b =>
    cases d with
    | str a =>
      obtain rfl := ofS hx
      obtain rfl := ofS hy
      cases neg with
      | true => exact op_notin_str pins s σ H _ _ v u Q I rx ry ⟨a, b, rfl, rfl, qB (Option.some.inj ok).symm⟩
      | false => exact op_in_str pins s σ H _ _ v u Q I rx ry ⟨a, b, rfl, rfl, qB (Option.some.inj ok).symm⟩
    | _ => cases neg <;> exact nomatch ok
  | dict ps =>
    obtain ⟨kvs, p, rfl, hH, hk⟩ : ∃ kvs p, y = .ref p ∧ H p = some (.dK kvs) ∧ FRk X.K H kvs ps := by
      have := hy.read sm
      cases this with | dict e r => exact ⟨_, _, rfl, e, r⟩
    cases ry
    have key : ∀ k : Ky, dKy d = some k → c = .d (.bool (if neg then !hasK k ps else hasK k ps)) → wpAny (model X.prog X.w) X.A (opF (if neg then .notin else .isin) v (.ref p)) (EP X pins σ Q) X.xe s := fun k hd hc => by
      have hxk : x = L2.kV k := by
        cases d <;> simp only [dKy, Option.some.injEq] at hd <;> first | (cases hd; done) | skip
        · subst hd; exact ofI hx
        · subst hd; exact ofS hx
      subst hxk
      have g : L2.DGet H p (L2.kV k) (L2.valV kvs k) := L2.DGet.k hH
      have hb := hasK_val hk k
      cases neg with
      | true => exact d_notIn (by omega) I g rx fun s' I' => ⟨.bl (!(L2.valV kvs k).isSome), H, I', rfl, qB (by rw [hc, hb]; rfl)⟩
      | false => exact d_in (by omega) I g rx fun s' I' => ⟨.bl (L2.valV kvs k).isSome, H, I', rfl, qB (by rw [hc, hb]; rfl)⟩
    cases neg <;> (cases d <;> simp only [Bool.false_eq_true, if_false, if_true, sem2, dKy, Option.map_some, Option.map_none, Option.some.injEq] at ok <;> first | (cases ok; done) | exact key _ rfl ok.symm)
  | _ => cases neg <;> (cases d <;> exact nomatch ok)
/-- an operator on what may be read -/
theorem o2_ok (o : O2) {x y : V} {v u : Value} {d e : PyData} {c : C} {Q : VK} (I : Inv X pins σ H s) (hu : X.A.units + 70 < cLine) (sm : Same F H) (hx : PR X.K F H x d) (hy : PR X.K F H y e) (rx : RelV x v) (ry : RelV y u)
    (ok : sem2 o d e = some c) (q : NewQ X.K ca F H Q c) : wpAny (model X.prog X.w) X.A (opF o v u) (EP X pins σ Q) X.xe s := by
  have ofI : ∀ {i : Int} {z : V}, PR X.K F H z (.int i) → z = .int i := fun h => by cases h with | fr h => cases h; rfl
  have ofS : ∀ {i : Str} {z : V}, PR X.K F H z (.str i) → z = .str i := fun h => by cases h with | fr h => cases h; rfl
  have qI : ∀ {i : Int}, c = .d (.int i) → Q (.int i) H := fun e => by subst e; exact q.id sm (.int _)
  have qB : ∀ {i : Bool}, c = .d (.bool i) → Q (.bl i) H := fun e => by subst e; exact q.id sm (.bl _)
  have qS : ∀ {i : Str}, c = .d (.str i) → Q (.str i) H := fun e => by subst e; exact q.id sm (.str _)
  have ii : ∀ {r : R2} {f : Value → Value → Sem Value} (i j : Int), OpR X f r → d = .int i → e = .int j → r (.int i) (.int j) H Q → wpAny (model X.prog X.w) X.A (f v u) (EP X pins σ Q) X.xe s := fun i j R e1 e2 h => by
    subst e1 e2
    obtain rfl := ofI hx
    obtain rfl := ofI hy
    exact R pins s σ H _ _ v u Q I rx ry h
  cases o with
  | add =>
    cases d <;> cases e <;> first | (simp [sem2] at ok; done) | skip
    · rename_i i j
      exact ii i j op_add rfl rfl ⟨i, j, rfl, rfl, qI (Option.some.inj ok).symm⟩
    · rename_i a b
      simp only [sem2] at ok
      split at ok <;> first | (cases ok; done) | skip
      rename_i hz
      obtain rfl := ofS hx
      obtain rfl := ofS hy
      exact op_add_str pins s σ H _ _ v u Q I rx ry ⟨a, b, rfl, rfl, by rw [sizeLine_eq]; exact hz, qS (Option.some.inj ok).symm⟩
    · rename_i a b
      simp only [sem2] at ok
      split at ok <;> first | (cases ok; done) | skip
      rename_i hz
      obtain ⟨p, vs, rfl, s1, r1⟩ := hx.items sm
      obtain ⟨p', vs', rfl, s2, r2⟩ := hy.items sm
      cases ok
      refine op_catZ pins s σ H _ _ v u Q I rx ry ⟨p, p', vs, vs', rfl, rfl, s1, s2, by rw [sizeLine_eq, r1.length, r2.length]; exact hz, fun n hn => q.lst sm (r1.append r2) hn⟩
    · rename_i a b
      simp only [sem2] at ok
      split at ok <;> first | (cases ok; done) | skip
      rename_i hz
      obtain ⟨p, vs, rfl, s1, r1⟩ := hx.itemsT sm
      obtain ⟨p', vs', rfl, s2, r2⟩ := hy.itemsT sm
      cases ok
      refine op_catA pins s σ H _ _ v u Q I rx ry ⟨p, p', vs, vs', rfl, rfl, s1, s2, by rw [sizeLine_eq, r1.length, r2.length]; exact hz, fun e => ?_, fun _ e => ?_, fun _ _ n hn => q.tup sm (r1.append r2) hn⟩
      · subst e
        have : a = [] := List.length_eq_zero_iff.mp r1.length.symm
        subst this
        rw [List.nil_append] at q
        cases hy with
        | fr h => exact q.id sm h
      · subst e
        have : b = [] := List.length_eq_zero_iff.mp r2.length.symm
        subst this
        rw [List.append_nil] at q
        cases hx with
        | fr h => exact q.id sm h
  | sub =>
    cases d <;> cases e <;> first | (simp [sem2] at ok; done) | skip
    rename_i i j
    exact ii i j op_sub rfl rfl ⟨i, j, rfl, rfl, qI (Option.some.inj ok).symm⟩
  | mul =>
    cases d <;> cases e <;> first | (simp [sem2] at ok; done) | skip
    · rename_i i j
      simp only [sem2] at ok
      split at ok <;> first | (cases ok; done) | skip
      rename_i hz
      exact ii i j op_mul rfl rfl ⟨i, j, rfl, rfl, hz.imp natAbs_wide natAbs_wide, qI (Option.some.inj ok).symm⟩
    · rename_i a k
      simp only [sem2] at ok
      split at ok <;> first | (cases ok; done) | skip
      rename_i hz
      obtain rfl := ofS hx
      obtain rfl := ofI hy
      exact op_repSZ pins s σ H _ _ v u Q I rx ry ⟨a, k, rfl, rfl, hz.1, hz.2.1, hz.2.2, qS (Option.some.inj ok).symm⟩
    · rename_i a k
      simp only [sem2] at ok
      split at ok <;> first | (cases ok; done) | skip
      rename_i hz
      obtain ⟨p, vs, rfl, s1, r1⟩ := hx.items sm
      obtain rfl := ofI hy
      cases ok
      exact op_repZ pins s σ H _ _ v u Q I rx ry ⟨p, k, vs, rfl, rfl, s1, hz.2.1, hz.2.2, by rw [r1.length]; exact hz.1, fun n hn => q.lst sm (r1.rep _) hn⟩
    · rename_i a k
      simp only [sem2] at ok
      split at ok <;> first | (cases ok; done) | skip
      rename_i hz
      obtain ⟨p, vs, rfl, s1, r1⟩ := hx.itemsT sm
      obtain rfl := ofI hy
      cases ok
      refine op_repTZ pins s σ H _ _ v u Q I rx ry ⟨p, k, vs, rfl, rfl, s1, hz.2.1, hz.2.2, by rw [r1.length]; exact hz.1, fun e => ?_, fun n hn => q.tup sm (r1.rep _) hn⟩
      cases hx with
      | fr h =>
        have e' : rep a k = a := by
          rcases e with e | e
          · subst e
            have : a = [] := List.length_eq_zero_iff.mp r1.length.symm
            subst this
            simp [rep]
          · subst e
            simp [rep]
        rw [e'] at q
        exact q.id sm h
  | fdiv =>
    cases d <;> cases e <;> first | (simp [sem2] at ok; done) | skip
    rename_i i j
    simp only [sem2] at ok
    split at ok <;> first | (cases ok; done) | skip
    rename_i hz
    exact ii i j op_fdivN rfl rfl ⟨i, j, rfl, rfl, ⟨fun e => hz (.inl e), by omega⟩, qI (Option.some.inj ok).symm⟩
  | mod =>
    cases d <;> cases e <;> first | (simp [sem2] at ok; done) | skip
    rename_i i j
    simp only [sem2] at ok
    split at ok <;> first | (cases ok; done) | skip
    rename_i hz
    exact ii i j op_modN rfl rfl ⟨i, j, rfl, rfl, hz, qI (Option.some.inj ok).symm⟩
  | pow =>
    cases d <;> cases e <;> first | (simp [sem2] at ok; done) | skip
    rename_i i j
    simp only [sem2] at ok
    split at ok <;> first | (cases ok; done) | skip
    rename_i hz
    exact ii i j op_pow rfl rfl ⟨i, j, rfl, rfl, hz, qI (Option.some.inj ok).symm⟩
  | shr =>
    cases d <;> cases e <;> first | (simp [sem2] at ok; done) | skip
    rename_i i j
    simp only [sem2] at ok
    split at ok <;> first | (cases ok; done) | skip
    rename_i hz
    exact ii i j op_shr rfl rfl ⟨i, j, rfl, rfl, hz, qI (Option.some.inj ok).symm⟩
  | band =>
    cases d <;> cases e <;> first | (simp [sem2] at ok; done) | skip
    rename_i i j
    exact ii i j op_and rfl rfl ⟨i, j, rfl, rfl, qI (Option.some.inj ok).symm⟩
  | eq =>
    simp only [sem2] at ok
    split at ok <;> first | (cases ok; done) | skip
    rename_i hz
    exact (eq_ok I hu (hx.read sm) (hy.read sm) rx ry hz).1 X.prog X.w X.xe _ ⟨.bl _, H, I, rfl, qB (Option.some.inj ok).symm⟩
  | ne =>
    simp only [sem2] at ok
    split at ok <;> first | (cases ok; done) | skip
    rename_i hz
    exact (eq_ok I hu (hx.read sm) (hy.read sm) rx ry hz).2 X.prog X.w X.xe _ ⟨.bl _, H, I, rfl, qB (Option.some.inj ok).symm⟩
  | lt =>
    cases d <;> cases e <;> first | (simp [sem2] at ok; done) | skip
    rename_i i j
    exact ii i j op_lt rfl rfl ⟨i, j, rfl, rfl, qB (Option.some.inj ok).symm⟩
  | le =>
    cases d <;> cases e <;> first | (simp [sem2] at ok; done) | skip
    rename_i i j
    exact ii i j op_le rfl rfl ⟨i, j, rfl, rfl, qB (Option.some.inj ok).symm⟩
  | gt =>
    cases d <;> cases e <;> first | (simp [sem2] at ok; done) | skip
    rename_i i j
    exact ii i j op_gt rfl rfl ⟨i, j, rfl, rfl, qB (Option.some.inj ok).symm⟩
  | ge =>
    cases d <;> cases e <;> first | (simp [sem2] at ok; done) | skip
    rename_i i j
    exact ii i j op_ge rfl rfl ⟨i, j, rfl, rfl, qB (Option.some.inj ok).symm⟩
  | isin => exact in_ok false I hu sm hx hy rx ry ok q
  | notin => exact in_ok true I hu sm hx hy rx ry ok q
end
end Z
set_option linter.all false
set_option Elab.async false
set_option maxRecDepth 100000
/-! Z7: the built-ins. -/
namespace Z
open PySem L2
section
variable {K : PySem.W.Frag} {F : Hp}
theorem FRs.bools : ∀ {ds : List PyData} {vs : List V} {bs : List Bool}, FRs K F vs ds → boolsD ds = some bs → vs = bs.map V.bl
  | [], _, _, h, e => by cases h; simp only [boolsD, Option.some.injEq] at e; subst e; rfl
  | d :: ds, _, _, h, e => by
    cases h with
    | cons a r =>
      cases a <;> first | (simp [boolsD] at e; done) | skip
      simp only [boolsD, Option.map_eq_some_iff] at e
      obtain ⟨bs, e, rfl⟩ := e
      rw [FRs.bools r e, List.map_cons]
theorem FRs.ints : ∀ {ds : List PyData} {vs : List V} {bs : List Int}, FRs K F vs ds → intsD ds = some bs → vs = bs.map V.int
  | [], _, _, h, e => by cases h; simp only [intsD, Option.some.injEq] at e; subst e; rfl
  | d :: ds, _, _, h, e => by
    cases h with
    | cons a r =>
      cases a <;> first | (simp [intsD] at e; done) | skip
      simp only [intsD, Option.map_eq_some_iff] at e
      obtain ⟨bs, e, rfl⟩ := e
      rw [FRs.ints r e, List.map_cons]
theorem FRs.strs : ∀ {ds : List PyData} {vs : List V} {bs : List Str}, FRs K F vs ds → strsD ds = some bs → vs = bs.map V.str
  | [], _, _, h, e => by cases h; simp only [strsD, Option.some.injEq] at e; subst e; rfl
  | d :: ds, _, _, h, e => by
    cases h with
    | cons a r =>
      cases a <;> first | (simp [strsD] at e; done) | skip
      simp only [strsD, Option.map_eq_some_iff] at e
      obtain ⟨bs, e, rfl⟩ := e
      rw [FRs.strs r e, List.map_cons]
end
section
variable {X : Cx} {pins : List (Addr × Obj)} {σ : L2.St} {H F : Hp} {s : Shared} {ca : Nat → Addr}
/-! ### repr -/
mutual
theorem FR.reads (I : Inv X pins σ H s) : ∀ (d : PyData) {v : V} {u : Value}, FR X.K H v d → RelV v u → d.hasDict = false → ∃ as, Reads s.heap u d as
  | .none, _, _, h, r, _ => by cases h; cases r; exact ⟨_, .none⟩
  | .bool b, _, _, h, r, _ => by cases h; cases r; exact ⟨_, .bool b⟩
  | .int b, _, _, h, r, _ => by cases h; obtain ⟨t, rfl⟩ := r; exact ⟨_, .int b t⟩
  | .str b, _, _, h, r, _ => by cases h; obtain ⟨t, rfl⟩ := r; exact ⟨_, .str b t⟩
  | .list ds, _, _, h, r, n => by
    cases h with
    | lst q q' =>
      cases r
      obtain ⟨its, rv, ⟨o, m, ho, hc, _, hd⟩, _⟩ := I.list q
      obtain ⟨as, hr⟩ := FRs.reads I ds q' rv n
      exact ⟨_, .list ho hc hd hr⟩
  | .tuple ds, _, _, h, r, n => by
    cases h with
    | tup q q' =>
      cases r
      obtain ⟨its, rv, ⟨o, ho, hc, m, hd⟩, _⟩ := I.tuple q
      obtain ⟨as, hr⟩ := FRs.reads I ds q' rv n
      exact ⟨_, .tuple ho hc hd hr⟩
  | .dict _, _, _, _, _, n => nomatch n
theorem FRs.reads (I : Inv X pins σ H s) : ∀ (ds : List PyData) {v : List V} {u : List Value}, FRs X.K H v ds → Vals v u → PyData.hasDictAll ds = false → ∃ as, ReadsAll s.heap u ds as
  | [], _, _, h, r, _ => by cases h; cases r; exact ⟨_, .nil⟩
  | d :: ds, _, _, h, r, n => by
    have n' : d.hasDict = false ∧ PyData.hasDictAll ds = false := by simpa [PyData.hasDictAll] using n
    cases h with
    | cons a q =>
      cases r with
      | cons r1 r2 =>
        obtain ⟨as, h1⟩ := FR.reads I d a r1 n'.1
        obtain ⟨bs, h2⟩ := FRs.reads I ds q r2 n'.2
        exact ⟨_, .cons h1 h2⟩
end
theorem FR.reads0 (I : Inv X pins σ H s) {v : V} {u : Value} (h : FR X.K H v (.dict [])) (r : RelV v u) : ∃ a as, u = .ref a ∧ Reads s.heap u (.dict []) as ∧ sysModules ∉ as := by
  cases h with
  | @dict a kvs ps h q =>
    cases q
    cases r
    obtain ⟨_, ya, vs, rv, o, es, ep, ho, he, hd, hk, hp, _⟩ := (show ObjOk X.prog X.w H s.heap a (.dK []) from I.hok a _ h)
    cases rv
    have hes : es.toList = [] := by
      cases e : es.toList with
      | nil => rfl
      | cons _ _ => rw [e] at hp; cases hp
    refine ⟨a, _, rfl, .dict (as := []) (bs := []) ho he.1 hd ?_ ?_, ?_⟩
    · rw [hes]; exact .nil
    · rw [hes]; exact .nil
    · intro m
      have : sysModules = a := by simpa using m
      rw [← this] at ya
      simp at ya
/-- what repr takes -/
theorem repr_ok {x : V} {v : Value} {d : PyData} {Q : VK} (I : Inv X pins σ H s) (hu : X.A.units + 70 < cLine) (hg : X.A.guards = some []) (h : FR X.K H x d) (r : RelV x v) (h1 : d.hasDict = false ∨ d = .dict []) (h2 : d.showable = true) (h3 : d.depth ≤ 60) (h4 : d.shown.length ≤ 16777216)
    (q : Q (.str d.shown) H) : wpAny (model X.prog X.w) X.A (call (.builtin "repr") [v]) (EP X pins σ Q) X.xe s := by
  have fin : ∀ {h' : Heap} {u : Tok} {tk : Nat}, (∀ b o, s.heap.get? b = some o → h'.get? b = some o) → EP X pins σ Q (.str d.shown u) { s with heap := h', toks := tk } := fun {h' u tk} k => ⟨.str d.shown, H, I.kept k, ⟨u, rfl⟩, q⟩
  have hz : d.shown.length ≤ sizeLine := by rw [sizeLine_eq]; exact h4
  cases d with
  | none => cases h; cases r; exact P.repr_of_none ⟨.str _, H, I.tok _, ⟨_, rfl⟩, q⟩
  | bool b => cases h; cases r; exact P.repr_of_bool ⟨.str _, H, I.tok _, ⟨_, rfl⟩, by cases b <;> exact q⟩
  | int b =>
    cases h
    obtain ⟨t, rfl⟩ := r
    exact P.repr_of_int (of_decide_eq_true h2) ⟨.str _, H, I.tok _, ⟨_, rfl⟩, q⟩
  | str b =>
    cases h
    obtain ⟨t, rfl⟩ := r
    exact P.repr_of_str ⟨.str _, H, I.tok _, ⟨_, rfl⟩, q⟩ hz
  | list ds =>
    have h1' : (PyData.list ds).hasDict = false := by rcases h1 with h1 | h1; (· exact h1); (· cases h1)
    obtain ⟨as, hr⟩ := FR.reads I _ h r h1'
    cases h with
    | lst _ _ =>
      cases r
      exact repr_of_reads' hr h2 (fun e => by rw [h1'] at e; cases e) hg (by omega) (fun _ _ e => e) (fun h' u tk k => fin k) hz
  | tuple ds =>
    have h1' : (PyData.tuple ds).hasDict = false := by rcases h1 with h1 | h1; (· exact h1); (· cases h1)
    obtain ⟨as, hr⟩ := FR.reads I _ h r h1'
    cases h with
    | tup _ _ =>
      cases r
      exact repr_of_reads' hr h2 (fun e => by rw [h1'] at e; cases e) hg (by omega) (fun _ _ e => e) (fun h' u tk k => fin k) hz
  | dict ps =>
    have : ps = [] := by
      rcases h1 with h1 | h1
      · simp [PyData.hasDict] at h1
      · cases h1; rfl
    subst this
    obtain ⟨a, as, rfl, hr, hs⟩ := FR.reads0 I h r
    exact repr_of_reads' hr h2 (fun _ => hs) hg (by omega) (fun _ _ e => e) (fun h' u tk k => fin k) hz
end

/-! ### all of them -/
def biF : BI → Option Value
  | .len => some (.builtin "len")
  | .all => some (.builtin "all")
  | .any => some (.builtin "any")
  | .abs => some (.builtin "abs")
  | .int => some (.type "int")
  | .str => some (.type "str")
  | .repr => some (.builtin "repr")
  | .tuple => some (.type "tuple")
  | .list => some (.type "list")
  | .min => some (.builtin "min")
  | .max => some (.builtin "max")
  | .sum => some (.builtin "sum")
  | _ => none
section
variable {X : Cx} {pins : List (Addr × Obj)} {σ : L2.St} {H F : Hp} {s : Shared} {ca : Nat → Addr}
theorem frs_of_get {K : PySem.W.Frag} {F : Hp} : ∀ {ds : List PyData} {vs : List V}, vs.length = ds.length → (∀ (i : Nat) (v : V) (d : PyData), vs[i]? = some v → ds[i]? = some d → FR K F v d) → FRs K F vs ds
  | [], [], _, _ => .nil
  | d :: ds, v :: vs, h, q => .cons (q 0 v d rfl rfl) (frs_of_get (by simpa using h) fun i v' d' e1 e2 => q (i + 1) v' d' (by simpa using e1) (by simpa using e2))
  | [], _ :: _, h, _ => by simp at h
  | _ :: _, [], h, _ => by simp at h
theorem chars_vals {K : PySem.W.Frag} {F : Hp} {z : Str} {acc : Array Value} (h : ItemsOf (SignAt z) acc z.cps.size) : ∃ vs, Vals vs acc.toList ∧ FRs K F vs (chars z) := by
  have hl : acc.toList.length = z.cps.size := by rw [Array.length_toList]; exact h.1
  refine ⟨(List.range acc.toList.length).map fun j => (match z.cps[j]? with | some c => V.str ⟨#[c]⟩ | none => V.non), vals_of_get _ _ fun j u e => ?_, frs_of_get (by rw [List.length_map, List.length_range, hl]; simp [chars]) fun i v d e1 e2 => ?_⟩
  · obtain ⟨c, t, h1, h2⟩ := h.2 j u (by simpa using e)
    rw [h1]
    exact ⟨t, h2⟩
  · rw [List.getElem?_map, Option.map_eq_some_iff] at e1
    obtain ⟨k, hk, e1⟩ := e1
    obtain ⟨hk1, hk2⟩ := List.getElem?_eq_some_iff.mp hk
    have : k = i := by rw [← hk2]; exact List.getElem_range _
    subst this
    simp only [chars, List.getElem?_map, Array.getElem?_toList, Option.map_eq_some_iff] at e2
    obtain ⟨c, h1, h2⟩ := e2
    rw [h1] at e1
    subst e1 h2
    exact .str _
theorem fr_str {K : PySem.W.Frag} {F H : Hp} {x : V} {z : Str} (h : PR K F H x (.str z)) : x = .str z := by
  cases h with | fr h => cases h; rfl
theorem txtTup {X : Cx} {pins : List (Addr × Obj)} {σ : L2.St} {H F : Hp} {s : Shared} {x : V} {us : List Value} {z : Str} {Q : VK} (I : Inv X pins σ H s) (hc : X.calm = true) (hx : x = .str z) (r : Vals [x] us) (hz : z.cps.size ≤ 16777216)
    (q : ∀ vs n, H n = none → FRs X.K F vs (chars z) → Q (.ref n) (upd H n (.tup vs))) : wpAny (model X.prog X.w) X.A (call (.type "tuple") us) (EP X pins σ Q) X.xe s := by
  subst hx
  obtain ⟨u, rfl, t, rfl⟩ := vals1 r
  refine call_tuple_str (I.ok.hd hc) z t (fun h' tk acc hk hi => ?_) (by rw [sizeLine_eq]; exact hz)
  obtain ⟨vs, hv, fr⟩ := chars_vals (K := X.K) (F := F) hi
  have I1 : Inv X pins σ H { s with heap := h', toks := tk } := I.kept (t' := tk) hk
  have nf := I1.hok.fresh (a := h'.objs.size) (Nat.le_refl _)
  have ob : ObjOk X.prog X.w (upd H h'.objs.size (.tup vs)) (h'.push { cls := .type "tuple", data := .seq acc }) h'.objs.size (.tup vs) :=
    ⟨by rw [hv.length, sizeLine_eq, Array.length_toList, hi.1]; exact hz, acc.toList, hv, by simpa using PyProof.Rows.IsTup.new h' acc⟩
  exact ⟨.ref h'.objs.size, _, I1.laid (t' := tk) (fun b u e => Heap.get?_push_of_some _ e) (Nat.le_refl _) ob, rfl, q vs _ nf fr⟩
theorem txtLst {X : Cx} {pins : List (Addr × Obj)} {σ : L2.St} {H F : Hp} {s : Shared} {x : V} {us : List Value} {z : Str} {Q : VK} (I : Inv X pins σ H s) (hc : X.calm = true) (hx : x = .str z) (r : Vals [x] us) (hz : z.cps.size ≤ 16777216)
    (q : ∀ vs n, H n = none → FRs X.K F vs (chars z) → Q (.ref n) (upd H n (.lst vs))) : wpAny (model X.prog X.w) X.A (call (.type "list") us) (EP X pins σ Q) X.xe s := by
  subst hx
  obtain ⟨u, rfl, t, rfl⟩ := vals1 r
  refine call_list_str (I.ok.hd hc) z t (fun h' tk acc c' hk hl hi => ?_) (by rw [sizeLine_eq]; exact hz)
  obtain ⟨vs, hv, fr⟩ := chars_vals (K := X.K) (F := F) hi
  have nf := I.hok.fresh (a := s.heap.objs.size) (Nat.le_refl _)
  have ob : ObjOk X.prog X.w (upd H s.heap.objs.size (.lst vs)) h' s.heap.objs.size (.lst vs) :=
    ⟨by rw [hv.length, sizeLine_eq, Array.length_toList, hi.1]; exact hz, acc.toList, c', hv, by simpa using hl⟩
  exact ⟨.ref s.heap.objs.size, _, I.laid (t' := tk) hk (Nat.le_refl _) ob, rfl, q vs _ nf fr⟩

theorem bi_ok (f : BI) {fv : Value} {vs : List V} {us : List Value} {ds : List PyData} {c : C} {Q : VK} (I : Inv X pins σ H s) (hc : X.calm = true) (hu : X.A.units + 70 < cLine) (hg : X.A.guards = some []) (sm : Same F H) (hv : PRs X.K F H vs ds) (r : Vals vs us)
    (hf : biF f = some fv) (ok : biSem f ds = some c) (sup : biSup f ds = true) (q : NewQ X.K ca F H Q c) : wpAny (model X.prog X.w) X.A (call fv us) (EP X pins σ Q) X.xe s := by
  have one : ∀ {d : PyData}, ds = [d] → ∃ x, vs = [x] ∧ PR X.K F H x d := fun e => by
    subst e
    cases hv with | cons a t => cases t; exact ⟨_, rfl, a⟩
  have two : ∀ {d e : PyData}, ds = [d, e] → ∃ x y, vs = [x, y] ∧ PR X.K F H x d ∧ PR X.K F H y e := fun e => by
    subst e
    cases hv with | cons a t => cases t with | cons b t => cases t; exact ⟨_, _, rfl, a, b⟩
  have ofI : ∀ {i : Int} {z : V}, PR X.K F H z (.int i) → z = .int i := fun h => by cases h with | fr h => cases h; rfl
  have ofB : ∀ {i : Bool} {z : V}, PR X.K F H z (.bool i) → z = .bl i := fun h => by cases h with | fr h => cases h; rfl
  have ofS : ∀ {i : Str} {z : V}, PR X.K F H z (.str i) → z = .str i := fun h => by cases h with | fr h => cases h; rfl
  have qI : ∀ {i : Int}, c = .d (.int i) → Q (.int i) H := fun e => by subst e; exact q.id sm (.int _)
  have qB : ∀ {i : Bool}, c = .d (.bool i) → Q (.bl i) H := fun e => by subst e; exact q.id sm (.bl _)
  have qS : ∀ {i : Str}, c = .d (.str i) → Q (.str i) H := fun e => by subst e; exact q.id sm (.str _)
  cases f <;> simp only [biF, Option.some.injEq] at hf <;> first | (cases hf; done) | skip
  · -- len
    subst hf
    simp only [biSem] at ok
    split at ok <;> first | contradiction | skip
    · rename_i xs _
      obtain ⟨x, rfl, h⟩ := one rfl
      obtain ⟨p, ys, rfl, h1, h2⟩ := h.items sm
      exact call_len_seq pins s σ H _ us Q I r ⟨p, ys, rfl, .inl h1, by rw [h2.length]; exact qI (Option.some.inj ok).symm⟩
    · rename_i xs _
      obtain ⟨x, rfl, h⟩ := one rfl
      obtain ⟨p, ys, rfl, h1, h2⟩ := h.itemsT sm
      exact call_len_seq pins s σ H _ us Q I r ⟨p, ys, rfl, .inr h1, by rw [h2.length]; exact qI (Option.some.inj ok).symm⟩
    · rename_i z _
      split at ok <;> first | (cases ok; done) | skip
      rename_i hz
      obtain ⟨x, rfl, h⟩ := one rfl
      obtain rfl := ofS h
      exact call_len_str pins s σ H _ us Q I r ⟨z, rfl, by rw [sizeLine_eq]; exact hz, qI (Option.some.inj ok).symm⟩
  · -- all
    subst hf
    simp only [biSem] at ok
    split at ok <;> first | contradiction | skip
    rename_i xs _
    obtain ⟨bs, e, ok⟩ := Option.map_eq_some_iff.mp ok
    obtain ⟨x, rfl, h⟩ := one rfl
    obtain ⟨p, ys, rfl, h1, h2⟩ := h.items sm
    exact cr_all hc pins s σ H _ us Q I r ⟨p, bs, rfl, by rw [← h2.bools e]; exact h1, qB ok.symm⟩
  · -- any
    subst hf
    simp only [biSem] at ok
    split at ok <;> first | contradiction | skip
    rename_i xs _
    obtain ⟨bs, e, ok⟩ := Option.map_eq_some_iff.mp ok
    obtain ⟨x, rfl, h⟩ := one rfl
    obtain ⟨p, ys, rfl, h1, h2⟩ := h.items sm
    exact cr_any hc pins s σ H _ us Q I r ⟨p, bs, rfl, by rw [← h2.bools e]; exact h1, qB ok.symm⟩
  · -- abs
    subst hf
    simp only [biSem] at ok
    split at ok <;> first | contradiction | skip
    rename_i i _
    obtain ⟨x, rfl, h⟩ := one rfl
    obtain rfl := ofI h
    refine call_abs pins s σ H _ us Q I r ⟨i, rfl, ?_⟩
    have : (if i < 0 then -i else i) = (i.natAbs : Int) := by split <;> omega
    rw [this]
    exact qI (Option.some.inj ok).symm
  · -- int
    subst hf
    simp only [biSem] at ok
    split at ok <;> first | contradiction | skip
    · rename_i i _
      obtain ⟨x, rfl, h⟩ := one rfl
      obtain rfl := ofB h
      exact call_int1 pins s σ H _ us Q I r (.inr ⟨i, rfl, qI (Option.some.inj ok).symm⟩)
  · -- str
    subst hf
    simp only [biSem] at ok
    split at ok <;> first | contradiction | skip
    · rename_i i _
      split at ok <;> first | (cases ok; done) | skip
      rename_i hz
      obtain ⟨x, rfl, h⟩ := one rfl
      obtain rfl := ofI h
      exact call_str_int pins s σ H _ us Q I r ⟨i, rfl, hz, qS (Option.some.inj ok).symm⟩
    · rename_i z _
      obtain ⟨x, rfl, h⟩ := one rfl
      obtain rfl := ofS h
      exact SkE.call_str_str pins s σ H _ us Q I r ⟨z, rfl, qS (Option.some.inj ok).symm⟩
  · -- repr
    subst hf
    simp only [biSem] at ok
    split at ok <;> first | contradiction | skip
    rename_i d _
    split at ok <;> first | (cases ok; done) | skip
    rename_i hz
    simp only [Bool.and_eq_true, decide_eq_true_eq] at hz
    obtain ⟨x, rfl, h⟩ := one rfl
    obtain ⟨u, rfl, ru⟩ := vals1 r
    refine repr_ok I hu hg (h.read sm) ru ?_ hz.1.1 hz.1.2 hz.2 (qS (Option.some.inj ok).symm)
    simp only [biSup, Bool.or_eq_true, Bool.not_eq_true'] at sup
    rcases sup with sup | sup
    · exact .inl sup
    · split at sup
      · exact .inr rfl
      · cases sup
  · -- tuple
    subst hf
    simp only [biSem] at ok
    split at ok <;> first | contradiction | skip
    rename_i d _
    obtain ⟨x, rfl, h⟩ := one rfl
    obtain ⟨xs, e, ok⟩ := Option.map_eq_some_iff.mp ok
    subst ok
    cases d <;> simp only [items, Option.some.injEq] at e <;> first | (cases e; done) | skip
    · subst e
      simp only [biSup, decide_eq_true_eq] at sup
      exact txtTup I hc (fr_str h) r sup fun vs n hn hv => q.tup sm hv hn
    · subst e
      obtain ⟨p, ys, rfl, h1, h2⟩ := h.items sm
      exact call_tuple_of pins s σ H _ us Q I r ⟨p, ys, rfl, .inl ⟨h1, fun n hn => q.tup sm h2 hn⟩⟩
    · subst e
      obtain ⟨p, ys, rfl, h1, h2⟩ := h.itemsT sm
      refine call_tuple_of pins s σ H _ us Q I r ⟨p, ys, rfl, .inr ⟨h1, ?_⟩⟩
      cases h with | fr h => exact q.id sm h
  · -- list
    subst hf
    simp only [biSem] at ok
    split at ok <;> first | contradiction | skip
    rename_i d _
    obtain ⟨x, rfl, h⟩ := one rfl
    obtain ⟨xs, e, ok⟩ := Option.map_eq_some_iff.mp ok
    subst ok
    cases d <;> simp only [items, Option.some.injEq] at e <;> first | (cases e; done) | skip
    · subst e
      simp only [biSup, decide_eq_true_eq] at sup
      exact txtLst I hc (fr_str h) r sup fun vs n hn hv => q.lst sm hv hn
    · subst e
      obtain ⟨p, ys, rfl, h1, h2⟩ := h.items sm
      exact call_list_of pins s σ H _ us Q I r ⟨p, ys, rfl, .inl h1, fun n hn => q.lst sm h2 hn⟩
    · subst e
      obtain ⟨p, ys, rfl, h1, h2⟩ := h.itemsT sm
      exact call_list_of pins s σ H _ us Q I r ⟨p, ys, rfl, .inr h1, fun n hn => q.lst sm h2 hn⟩
  · -- min
    subst hf
    simp only [biSem] at ok
    split at ok <;> first | contradiction | skip
    · rename_i i j _
      obtain ⟨x, y, rfl, h, h'⟩ := two rfl
      obtain rfl := ofI h
      obtain rfl := ofI h'
      exact call_min2 hc pins s σ H _ us Q I r ⟨i, j, rfl, qI (Option.some.inj ok).symm⟩
  · -- max
    subst hf
    simp only [biSem] at ok
    split at ok <;> first | contradiction | skip
    · rename_i i j _
      obtain ⟨x, y, rfl, h, h'⟩ := two rfl
      obtain rfl := ofI h
      obtain rfl := ofI h'
      exact call_max2 hc pins s σ H _ us Q I r ⟨i, j, rfl, qI (Option.some.inj ok).symm⟩
  · -- sum
    subst hf
    simp only [biSem] at ok
    split at ok <;> first | contradiction | skip
    · rename_i xs _
      obtain ⟨ns, e, ok⟩ := Option.map_eq_some_iff.mp ok
      obtain ⟨x, rfl, h⟩ := one rfl
      obtain ⟨p, ys, rfl, h1, h2⟩ := h.items sm
      exact cr_sum hc pins s σ H _ us Q I r ⟨p, ns, rfl, by rw [← h2.ints e]; exact h1, qI ok.symm⟩
end
end Z
set_option linter.all false
set_option Elab.async false
set_option maxRecDepth 100000
/-! Z8: which text an expression of the small language stands for. -/
namespace Z
open PySem L2

def nmB (sc : Scope) (x : Str) (ks : List NameKind) : Bool := match sc.names.lookup x with
  | some k => ks.contains k
  | none => false
/-- a name of the def -/
def visB (sc : Scope) (x : Str) : Bool := nmB sc x [.local, .cell, .free] && decide (x ≠ "__debug__") && decide (x ≠ "__classdict__")
def glB (sc : Scope) (x : Str) : Bool := nmB sc x [.globalImplicit] && decide (x ≠ "__debug__") && decide (x ≠ "__name__")
theorem vis_of {sc : Scope} {x : Str} (h : visB sc x = true) : Vis sc x ∧ (x == ("__debug__" : Str)) = false ∧ (x == ("__classdict__" : Str)) = false := by
  simp only [visB, nmB, Bool.and_eq_true, decide_eq_true_eq] at h
  refine ⟨?_, beq_eq_false_iff_ne.mpr h.1.2, beq_eq_false_iff_ne.mpr h.2⟩
  cases e : sc.names.lookup x with
  | none => rw [e] at h; simp at h
  | some k =>
    rw [e] at h
    have := h.1.1
    cases k <;> first | exact .inl e | exact .inr (.inl e) | exact .inr (.inr e) | (simp at this; done) | (exact absurd this (by decide))
theorem gl_of {sc : Scope} {x : Str} (h : glB sc x = true) : sc.names.lookup x = some .globalImplicit ∧ (x == ("__debug__" : Str)) = false ∧ x ≠ "__name__" := by
  simp only [glB, nmB, Bool.and_eq_true, decide_eq_true_eq] at h
  refine ⟨?_, beq_eq_false_iff_ne.mpr h.1.2, h.2⟩
  cases e : sc.names.lookup x with
  | none => rw [e] at h; simp at h
  | some k =>
    rw [e] at h
    have := h.1.1
    cases k <;> first | rfl | (exact absurd this (by decide))

/-! ### views of a text -/
def asName : Expr → Option Str
  | .Name x _ => some x
  | _ => none
theorem asName_eq {e : Expr} {x : Str} (h : asName e = some x) : ∃ p, e = .Name x p := by
  cases e <;> simp [asName] at h
  subst h
  exact ⟨_, rfl⟩
def binO : Operator → Option O2
  | .Add => some .add
  | .Sub => some .sub
  | .Mult => some .mul
  | .FloorDiv => some .fdiv
  | .Mod => some .mod
  | .Pow => some .pow
  | .RShift => some .shr
  | .BitAnd => some .band
  | _ => none
def cmpO : CmpOp → Option O2
  | .Eq => some .eq
  | .NotEq => some .ne
  | .Lt => some .lt
  | .LtE => some .le
  | .Gt => some .gt
  | .GtE => some .ge
  | .In => some .isin
  | .NotIn => some .notin
  | _ => none
theorem binO_eq {o : Operator} {p : O2} (h : binO o = some p) : opF p = binaryOp o := by cases o <;> simp [binO] at h <;> subst h <;> rfl
theorem cmpO_eq {o : CmpOp} {p : O2} (h : cmpO o = some p) : opF p = compareOp o := by cases o <;> simp [cmpO] at h <;> subst h <;> rfl
def as2 : Expr → Option (Expr × O2 × Expr)
  | .BinOp a o b _ => (binO o).map fun p => (a, p, b)
  | .Compare a [o] [b] _ => if behindInMarks o b then none else (cmpO o).map fun p => (a, p, b)
  | _ => none
theorem as2_eq {e a b : Expr} {p : O2} (h : as2 e = some (a, p, b)) : (∃ o q, e = .BinOp a o b q ∧ opF p = binaryOp o) ∨ ∃ o q, e = .Compare a [o] [b] q ∧ opF p = compareOp o ∧ behindInMarks o b = false := by
  unfold as2 at h
  split at h
  · obtain ⟨p', h1, h2⟩ := Option.map_eq_some_iff.mp h
    cases h2
    exact .inl ⟨_, _, rfl, binO_eq h1⟩
  · split at h
    · cases h
    · rename_i hm
      obtain ⟨p', h1, h2⟩ := Option.map_eq_some_iff.mp h
      cases h2
      exact .inr ⟨_, _, rfl, cmpO_eq h1, by simpa using hm⟩
  · cases h
def as3 : Expr → Option (Expr × O2 × Expr × O2 × Expr)
  | .Compare a [o, o'] [b, c] _ => if lastMarks [o, o'] [b, c] then none else (cmpO o).bind fun p => (cmpO o').map fun p' => (a, p, b, p', c)
  | _ => none
theorem as3_eq {e a b c : Expr} {p p' : O2} (h : as3 e = some (a, p, b, p', c)) : ∃ o o' q, e = .Compare a [o, o'] [b, c] q ∧ opF p = compareOp o ∧ opF p' = compareOp o' ∧ lastMarks [o, o'] [b, c] = false := by
  unfold as3 at h
  split at h
  · split at h
    · cases h
    · rename_i hm
      obtain ⟨p1, h1, h2⟩ := Option.bind_eq_some_iff.mp h
      obtain ⟨p2, h3, h4⟩ := Option.map_eq_some_iff.mp h2
      cases h4
      exact ⟨_, _, _, rfl, cmpO_eq h1, cmpO_eq h3, by simpa using hm⟩
  · cases h
/-- a call of a global name -/
def asCall : Expr → Option (Str × List Expr)
  | .Call (.Name f _) es [] _ => some (f, es)
  | _ => none
theorem asCall_eq {e : Expr} {f : Str} {es : List Expr} (h : asCall e = some (f, es)) : ∃ p q, e = .Call (.Name f p) es [] q := by
  unfold asCall at h
  split at h
  · cases h; exact ⟨_, _, rfl⟩
  · cases h
/-- o.m(..) -/
def asMeth : Expr → Option (Expr × Str × List Expr)
  | .Call (.Attribute o m p) es [] q => if (p.endLine == q.line) = true ∧ es.length < 20 then some (o, m, es) else none
  | _ => none
theorem asMeth_eq {e o : Expr} {m : Str} {es : List Expr} (h : asMeth e = some (o, m, es)) : ∃ p q, e = .Call (.Attribute o m p) es [] q ∧ (p.endLine == q.line) = true ∧ es.length < 20 := by
  unfold asMeth at h
  split at h
  · split at h
    · cases h; rename_i hh; exact ⟨_, _, rfl, hh.1, hh.2⟩
    · cases h
  · cases h
def asSub : Expr → Option (Expr × Expr)
  | .Subscript a i _ => some (a, i)
  | _ => none
theorem asSub_eq {e a i : Expr} (h : asSub e = some (a, i)) : ∃ q, e = .Subscript a i q := by
  unfold asSub at h
  split at h
  · cases h; exact ⟨_, rfl⟩
  · cases h
def asSlc : Expr → Option (Expr × Option Expr × Option Expr)
  | .Subscript a (.Slice lo hi none _) _ => some (a, lo, hi)
  | _ => none
theorem asSlc_eq {e a : Expr} {lo hi : Option Expr} (h : asSlc e = some (a, lo, hi)) : ∃ p q, e = .Subscript a (.Slice lo hi none p) q := by
  unfold asSlc at h
  split at h
  · cases h; exact ⟨_, _, rfl⟩
  · cases h
def litB : PyData → Const → Bool
  | .none, .none => true
  | .bool a, .bool b => a == b
  | .int a, .int b => a == b
  | .str a, .str b => decide (a = b)
  | _, _ => false
def pdB : PyData → PyData → Bool
  | .int a, .int b => decide (a = b)
  | .str a, .str b => decide (a = b)
  | .none, .none => true
  | .bool a, .bool b => decide (a = b)
  | _, _ => false
theorem pdB_eq {x y : PyData} (h : pdB x y = true) : x = y := by
  cases x <;> cases y <;> simp [pdB] at h <;> first | rfl | (subst h; rfl)

/-! ### the world of a law -/
structure Ws where
  T : Tab
  /-- the names of the defs at the top ("" of methods) -/
  fn : List Str
  /-- the classes' names -/
  cn : List Str
  globs : List (Str × PyData)
structure Wo extends Ws where
  /-- the defs' addresses, data, parameters -/
  fa : Nat → Addr
  fd : Nat → FuncData
  ps : Nat → List Str
  ca : Nat → Addr

def tyB (cn : List Str) : Ty → Str → Bool
  | .int, x => x == "int"
  | .str, x => x == "str"
  | .bool, x => x == "bool"
  | .list, x => x == "list"
  | .tuple, x => x == "tuple"
  | .valueError, x => x == "ValueError"
  | .cls k, x => cn[k]? == some x
def tysB (cn : List Str) (sc : Scope) : List Ty → List Expr → Bool
  | [], [] => true
  | t :: ts, y :: ys => (match asName y with
    | some n => tyB cn t n && glB sc n
    | none => false) && tysB cn sc ts ys
  | _, _ => false
def biN : BI → Str
  | .len => "len"
  | .all => "all"
  | .any => "any"
  | .abs => "abs"
  | .int => "int"
  | .str => "str"
  | .repr => "repr"
  | .tuple => "tuple"
  | .list => "list"
  | .min => "min"
  | .max => "max"
  | .sum => "sum"
  | .range => "list"
  | .trange => "tuple"
  | .maxd => "max"
  | .sorted => "sorted"
  | .sortset => "sorted"
  | .lenset => "len"
  | .dict => "dict"
  | .dzip => "dict"
  | .zip => "zip"
def mtN : Mt → Str
  | .append => "append"
  | .extend => "extend"
  | .insert => "insert"
  | .pop => "pop"
  | .index => "index"
  | .count => "count"
  | .join => "join"
  | .partition => "partition"
  | .split => "split"
  | .strip => "strip"
  | .replace => "replace"
  | .upper => "upper"
  | .get => "get"
  | .setdefault => "setdefault"
  | .update => "update"
def mtSup : Mt → Bool
  | .append => true
  | .extend => true
  | .join => true
  | .index => true
  | .pop => true
  | _ => false
mutual
/-- a target; fb: the names that the frame keeps in cells of its own -/
def tgB (fb : Str → Bool) (sc : Scope) (N : List Str) : Tg → Expr → Bool
  | .nm i, e => match asName e with
    | some x => decide (N[i]? = some x) && (nmB sc x [.local] || (nmB sc x [.cell] && fb x))
    | none => false
  | .tup ts, e => match e with
    | .Tuple es _ _ => tgsB fb sc N ts es && decide (2 ≤ ts.length)
    | _ => false
def tgsB (fb : Str → Bool) (sc : Scope) (N : List Str) : List Tg → List Expr → Bool
  | [], [] => true
  | t :: ts, e :: es => tgB fb sc N t e && tgsB fb sc N ts es
  | _, _ => false
end
mutual
/-- the places of a target -/
def tgI : Tg → List Nat
  | .nm i => [i]
  | .tup ts => tgsI ts
def tgsI : List Tg → List Nat
  | [] => []
  | t :: ts => tgI t ++ tgsI ts
end
/-! ### no star, no slice, no walrus at the top of what is checked -/
def plainB : Expr → Bool
  | .Starred _ _ => false
  | .Slice _ _ _ _ => false
  | .Set _ _ _ => false
  | .SetComp _ _ _ _ => false
  | .DictComp _ _ _ _ _ => false
  | .NamedExpr _ _ _ => false
  | .Call (.Name _ _) [] [] _ => false
  | _ => true
theorem star_plain {e : Expr} (h : plainB e = true) (es : List Expr) (env : PySem.Env) : starEach (e :: es) env = (false, eval e env) :: starEach es env := by
  cases e <;> first | rfl | (simp [plainB] at h; done)
theorem base_plain {o : Expr} (h : plainB o = true) (nm : Str) (env : PySem.Env) : attributeBase o nm env (eval o env) = eval o env := by
  unfold attributeBase
  split
  · simp [plainB] at h
  · rfl
end Z
set_option linter.all false
set_option Elab.async false
set_option maxRecDepth 100000
/-! Z9: what is wanted of an expression; operators, displays. -/
namespace Z
open PySem L2

/-- an exception as it lies -/
def XR (K : PySem.W.Frag) (ca : Nat → Addr) (F H : Hp) (cls : Value) (d : Option Addr) (x : Exn) (f : List Addr) : Prop :=
  cls = .ref (ca x.k) ∧ ((x.fs = [] ∧ f = [] ∧ d = none) ∨ ∃ dd vs, d = some dd ∧ f = [dd] ∧ H dd = some (.xd vs) ∧ XFs K F vs x.fs)
section
variable (K : PySem.W.Frag) (ca : Nat → Addr) (W : WX) (F H : Hp) (f : List Addr) (σ : L2.St)
def OkV (Q : VK) (pu : Bool) (v : Val) (ρ' : Env) : Prop := ∀ (F' H' : Hp) (x : V) (g f' : List Addr), Step F H f F' H' (g ++ f') → Wd F' H' (g ++ f') → ER K ca F' H' σ ρ' f' → VR K ca F' H' σ x v g → (pu = true → Same H H') → Q x H'
def ExV (x : Exn) (ρ' : Env) : Prop := ∀ (F' H' : Hp) (cls : Value) (d : Option Addr) (g f' : List Addr), Step F H f F' H' (g ++ f') → Wd F' H' (g ++ f') → ER K ca F' H' σ ρ' f' → XR K ca F' H' cls d x g → W cls d σ H'
def OutV (Q : VK) (pu : Bool) (r : Res Val) : Prop :=
  match r with
  | .ok v ρ' => OkV K ca F H f σ Q pu v ρ'
  | .exc x ρ' => ExV K ca W F H f σ x ρ'
  | .bad => False
/-- values, in a row -/
inductive VRs : List V → List Val → List Addr → Prop
  | nil : VRs [] [] []
  | cons {x : V} {v : Val} {xs : List V} {vs : List Val} {g h : List Addr} : VR K ca F H σ x v g → VRs xs vs h → VRs (x :: xs) (v :: vs) (g ++ h)
end
section
variable {K : PySem.W.Frag} {ca : Nat → Addr} {W : WX} {F H F1 H1 F2 H2 : Hp} {f f1 f2 g : List Addr} {σ : L2.St} {Q : VK} {pu : Bool} {ρ2 : Env} {c : C}
theorem ExV.step {x : Exn} (st : Step F H f F1 H1 g) (hs : ∀ a ∈ f1, a ∈ g) (h : ExV K ca W F H f σ x ρ2) : ExV K ca W F1 H1 f1 σ x ρ2 := fun F' H' cls d g f' s w e r => h F' H' cls d g f' (st.trans (s.wide hs)) w e r
theorem OkV.new (h : OkV K ca F H f σ Q pu (.own c) ρ2) (st : Step F H f F2 H2 g) (hs : ∀ a ∈ f2, a ∈ g) (w : Wd F2 H2 f2) (er : ER K ca F2 H2 σ ρ2 f2) (hp : pu = true → Same H H2) : NewQ K ca F2 H2 Q c := fun F' H' x f' s3 w3 cr => by
  have w3' : Wd F' H' (f2 ++ f') := s3.apart (g := f2) (by rw [List.append_nil]; exact w) w3 (ER.lives er)
  have sm : Same H2 H' := fun a o e => s3.keep a o e (by simp)
  refine h F' H' x f' f2 ?_ (w3'.perm List.perm_append_comm) (er.mv s3.fr fun a m => ?_) cr fun e => (hp e).trans sm
  · refine st.trans ?_
    have s4 := (s3.more f2)
    rw [List.append_nil] at s4
    exact (s4.wide hs).less fun a m => by simp only [List.mem_append] at m ⊢; exact m.symm
  · cases q : H2 a with
    | none => exact absurd q (ER.lives er a m)
    | some o => exact sm a o q
/-- the same value, later -/
theorem OkV.step {v : Val} (h : OkV K ca F H f σ Q pu v ρ2) (st : Step F H f F1 H1 g) (hs : ∀ a ∈ f1, a ∈ g) (hp : pu = true → Same H H1) : OkV K ca F1 H1 f1 σ Q pu v ρ2 := fun F' H' x g' f' s w e r p => h F' H' x g' f' (st.trans (s.wide hs)) w e r fun z => (hp z).trans (p z)
theorem OkV.mono {v : Val} {pu' : Bool} (h : OkV K ca F H f σ Q pu v ρ2) (hp : pu = true → pu' = true) : OkV K ca F H f σ Q pu' v ρ2 := fun F' H' x g' f' s w e r p => h F' H' x g' f' s w e r fun z => p (hp z)
end

section
variable (O : Wo) (n : Nat)
abbrev ev : E → Env → Res Val := evE O.T (callF O.T n)
def tE (K : PySem.W.Frag) (W : WX) (ir : E) : TE := fun σ H Q => ∃ (ρ : Env) (F : Hp) (f : List Addr), Wd F H f ∧ ER K O.ca F H σ ρ f ∧ OutV K O.ca W F H f σ Q (nc ir) (evE O.T (callF O.T n) ir ρ)
/-- as a test -/
def tT (K : PySem.W.Frag) (W : WX) (ir : E) : TT := fun σ H Q => ∃ (ρ : Env) (F : Hp) (f : List Addr), Wd F H f ∧ ER K O.ca F H σ ρ f ∧
  OutV K O.ca W F H f σ (fun x H' => ∃ b, x = .bl b ∧ Q b H') (nc ir) (evE O.T (callF O.T n) ir ρ)
def OkVs (K : PySem.W.Frag) (ca : Nat → Addr) (F H : Hp) (f : List Addr) (σ : L2.St) (Q : List V → Hp → Prop) (pu : Bool) (vs : List Val) (ρ' : Env) : Prop := ∀ (F' H' : Hp) (xs : List V) (g f' : List Addr), Step F H f F' H' (g ++ f') → Wd F' H' (g ++ f') → ER K ca F' H' σ ρ' f' → VRs K ca F' H' σ xs vs g → (pu = true → Same H H') → Q xs H'
def tVs (K : PySem.W.Frag) (W : WX) (irs : List E) : TA := fun σ H Q => ∃ (ρ : Env) (F : Hp) (f : List Addr), Wd F H f ∧ ER K O.ca F H σ ρ f ∧ (match evVs O.T (callF O.T n) irs ρ with
  | .ok vs ρ' => OkVs K O.ca F H f σ Q (ncs irs) vs ρ'
  | .exc x ρ' => ExV K O.ca W F H f σ x ρ'
  | .bad => False)
def OkFs (K : PySem.W.Frag) (ca : Nat → Addr) (F H : Hp) (f : List Addr) (σ : L2.St) (Q : List V → Hp → Prop) (pu : Bool) (ds : List PyData) (ρ' : Env) : Prop := ∀ (F' H' : Hp) (xs : List V) (f' : List Addr), Step F H f F' H' f' → Wd F' H' f' → ER K ca F' H' σ ρ' f' → FRs K F' xs ds → (pu = true → Same H H') → Q xs H'
def tFs (K : PySem.W.Frag) (W : WX) (irs : List E) : TA := fun σ H Q => ∃ (ρ : Env) (F : Hp) (f : List Addr), Wd F H f ∧ ER K O.ca F H σ ρ f ∧ (match evF O.T (callF O.T n) irs ρ with
  | .ok vs ρ' => OkFs K O.ca F H f σ Q (ncs irs) vs ρ'
  | .exc x ρ' => ExV K O.ca W F H f σ x ρ'
  | .bad => False)
def OkPs (K : PySem.W.Frag) (ca : Nat → Addr) (F H : Hp) (f : List Addr) (σ : L2.St) (Q : List V → Hp → Prop) (pu : Bool) (cs : List C) (ρ' : Env) : Prop := ∀ (F' H' : Hp) (xs : List V) (g f' : List Addr), Step F H f F' H' (g ++ f') → Wd F' H' (g ++ f') → ER K ca F' H' σ ρ' f' → CRs K ca F' H' xs cs g → (pu = true → Same H H') → Q xs H'
def tPs (K : PySem.W.Frag) (W : WX) (irs : List E) : TA := fun σ H Q => ∃ (ρ : Env) (F : Hp) (f : List Addr), Wd F H f ∧ ER K O.ca F H σ ρ f ∧ (match evP O.T (callF O.T n) irs ρ with
  | .ok vs ρ' => OkPs K O.ca F H f σ Q (ncs irs) vs ρ'
  | .exc x ρ' => ExV K O.ca W F H f σ x ρ'
  | .bad => False)
end

theorem PE.imp {X : Cx} {e : Expr} {t t' : TE} (h : PE X e t) (k : ∀ σ H Q, t' σ H Q → t σ H Q) : PE X e t' := ⟨fun pins s σ H Q I q => h.run pins s σ H Q I (k σ H Q q)⟩
theorem PT.imp {X : Cx} {e : Expr} {t t' : TT} (h : PT X e t) (k : ∀ σ H Q, t' σ H Q → t σ H Q) : PT X e t' := ⟨fun pins s σ H Q I q => h.run pins s σ H Q I (k σ H Q q)⟩
theorem PA.imp {X : Cx} {e : List Expr} {t t' : TA} (h : PA X e t) (k : ∀ σ H Q, t' σ H Q → t σ H Q) : PA X e t' := ⟨fun pos pins s σ H Q I q => h.run pos pins s σ H Q I (k σ H Q q)⟩
/-- by values: the wish itself -/
def rW (X : Cx) (f : Value → Value → Sem Value) : R2 := fun x y H Q => ∀ (pins : List (Addr × Obj)) (s : Shared) (σ : L2.St) (v u : Value), Inv X pins σ H s → RelV x v → RelV y u → wpAny (model X.prog X.w) X.A (f v u) (EP X pins σ Q) X.xe s
theorem rW_ok {X : Cx} {f : Value → Value → Sem Value} : OpR X f (rW X f) := fun pins s σ H x y v u Q I rx ry h => h pins s σ v u I rx ry

section
variable {O : Wo} {n : Nat} {X : Cx} {W : WX} {e x y z : Expr} {a b c : E}
theorem bind_out {K : PySem.W.Frag} {ca : Nat → Addr} {F H : Hp} {f : List Addr} {σ : L2.St} {Q : VK} {pu : Bool} {r : Res Val} {k : Val → Env → Res Val} (h : OutV K ca W F H f σ Q pu (r.bind k)) :
    ∀ {Q' : VK} {pu' : Bool}, (∀ v ρ', r = .ok v ρ' → OutV K ca W F H f σ Q pu (k v ρ') → OkV K ca F H f σ Q' pu' v ρ') → OutV K ca W F H f σ Q' pu' r := fun {Q' pu'} hk => by
  cases e : r with
  | ok v ρ' =>
    rw [e] at h
    exact hk v ρ' e h
  | exc x ρ' =>
    rw [e] at h
    exact h
  | bad =>
    rw [e] at h
    exact h
/-- a o b -/
theorem o2_key {o : O2} (hu : X.A.units + 70 < cLine) : ∀ σ H Q, tE O n X.K W (.o2 o a b) σ H Q → tOp (rW X (opF o)) (tE O n X.K W a) (tE O n X.K W b) σ H Q := by
    intro σ H Q ⟨ρ, F, f, w, er, out⟩
    refine ⟨ρ, F, f, w, er, ?_⟩
    simp only [evE] at out
    refine bind_out out fun v ρ1 _ out1 F1 H1 xv g f1 st1 w1 er1 r1 p1 => ?_
    refine ⟨ρ1, F1, f1, w1.sub (List.sublist_append_right _ _), er1, ?_⟩
    have hs1 : ∀ a ∈ f1, a ∈ g ++ f1 := fun a m => List.mem_append_right _ m
    cases e2 : evE O.T (callF O.T n) b ρ1 with
    | bad => rw [e2] at out1; exact out1
    | exc x2 ρ2 => rw [e2] at out1; exact ExV.step st1 hs1 out1
    | ok u ρ2 =>
      rw [e2] at out1
      intro F2 H2 yv g2 f2 st2 w2 er2 r2 p2 pins s σ' v' u' I rx ry
      simp only [bind_ok] at out1
      split at out1
      · exact out1.elim
      · rename_i hp
        cases e3 : ((peek ρ2 v).bind fun x => (peek ρ2 u).bind fun y => (sem2 o x y).map Val.own) with
        | none => rw [e3] at out1; exact out1.elim
        | some v3 =>
          rw [e3] at out1
          obtain ⟨dx, h1, h2⟩ := Option.bind_eq_some_iff.mp e3
          obtain ⟨dy, h3, h4⟩ := Option.bind_eq_some_iff.mp h2
          obtain ⟨cc, h5, rfl⟩ := Option.map_eq_some_iff.mp h4
          have hpath : hasPath v = true → Same H1 H2 := fun e => p2 (by
            cases hn : nc b with
            | true => rfl
            | false => simp [e, hn] at hp)
          have rx2 := VR.stay st2 w1 r1 hpath
          have w2' : Wd F2 H2 f2 := w2.sub (List.sublist_append_right _ _)
          have st : Step F H f F2 H2 (g2 ++ f2) := st1.trans (st2.wide hs1)
          refine o2_ok o I hu w2.same (VR.peek er2 rx2 h1) (VR.peek er2 r2 h3) rx ry h5 (OkV.new out1 st (fun a m => List.mem_append_right _ m) w2' er2 fun e => ?_)
          simp only [nc, Bool.and_eq_true] at e
          exact (p1 e.1).trans (p2 e.2)
end
end Z
set_option linter.all false
set_option Elab.async false
set_option maxRecDepth 100000
/-! Z10: names, constants, displays, truth. -/
namespace Z
open PySem L2
section
variable {O : Wo} {n : Nat} {X : Cx} {W : WX} {N : List Str} {sc : Scope} {e x y z : Expr} {a b c : E}
theorem Wd.cons0 {F H : Hp} {f : List Addr} (w : Wd F H f) : Wd F H ([] ++ f) := w
/-- a value that is there already, without a step -/
theorem OkV.here {K : PySem.W.Frag} {ca : Nat → Addr} {F H : Hp} {f : List Addr} {σ : L2.St} {Q : VK} {pu : Bool} {v : Val} {ρ : Env} {xv : V} (h : OkV K ca F H f σ Q pu v ρ) (w : Wd F H f) (er : ER K ca F H σ ρ f) (r : VR K ca F H σ xv v []) : Q xv H :=
  h F H xv [] f Step.refl w er r fun _ => Same.refl _
theorem s_var {i : Nat} {nm : Str} {p : Pos} (hN : X.N = N) (hs : X.env.scope = sc) (h1 : N[i]? = some nm) (h2 : visB sc nm = true) : PE X (.Name nm p) (tE O n X.K W (.var i)) := by
  obtain ⟨v1, v2, v3⟩ := vis_of h2
  subst hN hs
  refine PE.imp (pe_var h1 v1 v2 v3) ?_
  intro σ H Q ⟨ρ, F, f, w, er, out⟩
  simp only [evE] at out
  cases hsl : slot ρ i with
  | none => rw [hsl] at out; exact out.elim
  | some c =>
    rw [hsl] at out
    obtain ⟨v, l, g, r, hv, hf, hc, _, _⟩ := er.focus hsl
    refine ⟨v, hv, ?_⟩
    have bor : OkV X.K O.ca F H f σ Q true (.bor i []) ρ → Q v H := fun h => h.here w er ⟨rfl, v, hv, .nil⟩
    cases c with
    | d d =>
      cases hc with
      | d fr => exact OkV.here (v := .own (.d d)) out w er (CR.d fr)
    | _ => exact bor out
theorem s_lit {d : PyData} {k : Const} {j : Nat} {p : Pos} (h : litB d k = true) : PE X (.Constant k j p) (tE O n X.K W (.lit d)) := by
  have key : ∀ {v : V}, (∀ F : Hp, FR X.K F v d) → ∀ σ H Q, tE O n X.K W (.lit d) σ H Q → tC v σ H Q := fun fr σ H Q ⟨ρ, F, f, w, er, out⟩ =>
    OkV.here (v := .own (.d d)) (ρ := ρ) out w er (CR.d (fr F))
  cases d <;> cases k <;> first | (simp [litB] at h; done) | skip
  · exact PE.imp pe_non (key fun _ => .non)
  · simp only [litB, beq_iff_eq] at h
    subst h
    exact PE.imp pe_bl (key fun _ => .bl _)
  · simp only [litB, beq_iff_eq] at h
    subst h
    exact PE.imp pe_int (key fun _ => .int _)
  · simp only [litB, decide_eq_true_eq] at h
    subst h
    exact PE.imp pe_str (key fun _ => .str _)
theorem s_glob {nm : Str} {d : PyData} {p : Pos} (hs : X.env.scope = sc) (hg : glB sc nm = true) (h : ∃ u v, X.mg nm = some u ∧ RelV v u ∧ ∀ F : Hp, FR X.K F v d) : PE X (.Name nm p) (tE O n X.K W (.glob nm d)) := by
  obtain ⟨u, v, hm, hr, fr⟩ := h
  subst hs
  obtain ⟨g1, g2, _⟩ := gl_of hg
  exact PE.imp (pe_glob g1 hm hr g2) fun σ H Q ⟨ρ, F, f, w, er, out⟩ => OkV.here (v := .own (.d d)) (ρ := ρ) out w er (CR.d (fr F))
theorem s_keep (h : PE X e (tE O n X.K W a)) : PE X e (tE O n X.K W (.keep a)) := PE.imp h fun σ H Q ⟨ρ, F, f, w, er, out⟩ => ⟨ρ, F, f, w, er, out⟩

/-! ### rows of expressions -/
theorem s_vs_nil : PA X [] (tVs O n X.K W []) := PA.imp pa_nil fun σ H Q ⟨ρ, F, f, w, er, out⟩ => out F H [] [] f Step.refl w er .nil fun _ => Same.refl _
theorem s_vs_cons {xs : List Expr} {as : List E} (hp : plainB x = true) (ha : PE X x (tE O n X.K W a)) (hb : PA X xs (tVs O n X.K W as)) : PA X (x :: xs) (tVs O n X.K W (a :: as)) := by
  refine PA.imp (pa_cons ha hb (star_plain hp _ _)) ?_
  intro σ H Q ⟨ρ, F, f, w, er, out⟩
  refine ⟨ρ, F, f, w, er, ?_⟩
  simp only [evVs] at out
  cases e1 : evE O.T (callF O.T n) a ρ with
  | bad => rw [e1] at out; exact out
  | exc x1 ρ1 => rw [e1] at out; exact out
  | ok v ρ1 =>
    rw [e1] at out
    simp only [bind_ok] at out
    intro F1 H1 xv g f1 st1 w1 er1 r1 p1
    by_cases hp : (hasPath v && !ncs as) = true
    · rw [if_pos hp] at out
      exact out.elim
    · rw [if_neg hp] at out
      refine ⟨ρ1, F1, f1, w1.sub (List.sublist_append_right _ _), er1, ?_⟩
      cases e2 : evVs O.T (callF O.T n) as ρ1 with
      | bad => rw [e2] at out; exact out
      | exc x2 ρ2 => rw [e2] at out; exact ExV.step st1 (fun a m => List.mem_append_right _ m) out
      | ok vs ρ2 =>
        rw [e2] at out
        intro F2 H2 xs' g2 f2 st2 w2 er2 r2 p2
        have hpath : hasPath v = true → Same H1 H2 := fun e => p2 (by
          cases hn : ncs as with
          | true => rfl
          | false => simp [e, hn] at hp)
        have rx2 := VR.stay st2 w1 r1 hpath
        have lv : ∀ a ∈ g, H1 a ≠ none := fun a m => by
          cases v with
          | own c => exact CR.lives c r1 a m
          | bor i p => rw [r1.bor_nil] at m; cases m
        have w3 : Wd F2 H2 (g ++ (g2 ++ f2)) := st2.apart w1 w2 lv
        refine out F2 H2 (xv :: xs') (g ++ g2) f2 ?_ (by rw [List.append_assoc]; exact w3) er2 (.cons rx2 r2) fun e => ?_
        · rw [List.append_assoc]
          exact st1.trans (st2.more g)
        · simp only [ncs, Bool.and_eq_true] at e
          exact (p1 e.1).trans (p2 e.2)
theorem s_fs_nil : PA X [] (tFs O n X.K W []) := PA.imp pa_nil fun σ H Q ⟨ρ, F, f, w, er, out⟩ => out F H [] f Step.refl w er .nil fun _ => Same.refl _
theorem s_fs_cons {xs : List Expr} {as : List E} (hp : plainB x = true) (ha : PE X x (tE O n X.K W a)) (hb : PA X xs (tFs O n X.K W as)) : PA X (x :: xs) (tFs O n X.K W (a :: as)) := by
  refine PA.imp (pa_cons ha hb (star_plain hp _ _)) ?_
  intro σ H Q ⟨ρ, F, f, w, er, out⟩
  refine ⟨ρ, F, f, w, er, ?_⟩
  simp only [evF] at out
  cases e1 : evE O.T (callF O.T n) a ρ with
  | bad => rw [e1] at out; exact out
  | exc x1 ρ1 => rw [e1] at out; exact out
  | ok v ρ1 =>
    rw [e1] at out
    simp only [bind_ok] at out
    intro F1 H1 xv g f1 st1 w1 er1 r1 p1
    cases e2 : frz ρ1 v with
    | bad => rw [e2] at out; exact out.elim
    | exc x2 ρ2 =>
      exfalso
      cases v with
      | own c => simp only [frz] at e2; cases h : c.toD <;> rw [h] at e2 <;> cases e2
      | bor i p => simp only [frz] at e2; split at e2 <;> cases e2
    | ok d ρ2 =>
      rw [e2] at out
      simp only [bind_ok] at out
      obtain ⟨F1', f1', fr, er1', w1', st1'⟩ := VR.frz w1 er1 r1 e2
      have st := st1.trans st1'
      refine ⟨ρ2, F1', f1', w1', er1', ?_⟩
      cases e3 : evF O.T (callF O.T n) as ρ2 with
      | bad => rw [e3] at out; exact out
      | exc x2 ρ3 => rw [e3] at out; exact ExV.step st (fun a m => m) out
      | ok vs ρ3 =>
        rw [e3] at out
        intro F2 H2 xs' f2 st2 w2 er2 r2 p2
        refine out F2 H2 (xv :: xs') f2 (st.trans st2) w2 er2 (.cons (FR.mono st2.fr _ fr) r2) fun e => ?_
        simp only [ncs, Bool.and_eq_true] at e
        exact (p1 e.1).trans (p2 e.2)
theorem s_ps_nil : PA X [] (tPs O n X.K W []) := PA.imp pa_nil fun σ H Q ⟨ρ, F, f, w, er, out⟩ => out F H [] [] f Step.refl w er .nil fun _ => Same.refl _
/-- what is put into a list -/
theorem putIn_ok {K : PySem.W.Frag} {ca : Nat → Addr} {F H : Hp} {f g : List Addr} {σ : L2.St} {ρ ρ' : Env} {v : Val} {xv : V} {cc : C} (ir : E) (w : Wd F H (g ++ f)) (er : ER K ca F H σ ρ f) (r : VR K ca F H σ xv v g) (h : putIn ir ρ v = .ok cc ρ') :
    ∃ F' g' f', CR K ca F' H xv cc g' ∧ ER K ca F' H σ ρ' f' ∧ Wd F' H (g' ++ f') ∧ Step F H (g ++ f) F' H (g' ++ f') := by
  have dflt : (frz ρ v).bind (fun x ρ => (Res.ok (C.d x) ρ : Res C)) = .ok cc ρ' → ∃ F' g' f', CR K ca F' H xv cc g' ∧ ER K ca F' H σ ρ' f' ∧ Wd F' H (g' ++ f') ∧ Step F H (g ++ f) F' H (g' ++ f') := fun h => by
    cases e : frz ρ v with
    | bad => rw [e] at h; cases h
    | exc _ _ => rw [e] at h; cases h
    | ok d ρ2 =>
      rw [e] at h
      cases h
      obtain ⟨F', f', fr, er', w', st⟩ := VR.frz w er r e
      exact ⟨F', [], f', .d fr, er', w', st⟩
  unfold putIn at h
  split at h
  · cases h
    exact ⟨F, g, f, r, er, w, Step.refl⟩
  · exact dflt h
theorem putIn_exc {ir : E} {ρ ρ' : Env} {v : Val} {x : Exn} : putIn ir ρ v ≠ .exc x ρ' := fun h => by
  unfold putIn at h
  split at h
  · cases h
  · cases v with
    | own c => simp only [frz] at h; cases h1 : c.toD <;> rw [h1] at h <;> cases h
    | bor i p => simp only [frz] at h; split at h <;> cases h
theorem s_ps_cons {xs : List Expr} {as : List E} (hp : plainB x = true) (ha : PE X x (tE O n X.K W a)) (hb : PA X xs (tPs O n X.K W as)) : PA X (x :: xs) (tPs O n X.K W (a :: as)) := by
  refine PA.imp (pa_cons ha hb (star_plain hp _ _)) ?_
  intro σ H Q ⟨ρ, F, f, w, er, out⟩
  refine ⟨ρ, F, f, w, er, ?_⟩
  simp only [evP] at out
  cases e1 : evE O.T (callF O.T n) a ρ with
  | bad => rw [e1] at out; exact out
  | exc x1 ρ1 => rw [e1] at out; exact out
  | ok v ρ1 =>
    rw [e1] at out
    simp only [bind_ok] at out
    intro F1 H1 xv g f1 st1 w1 er1 r1 p1
    cases e2 : putIn a ρ1 v with
    | bad => rw [e2] at out; exact out.elim
    | exc x2 ρ2 => exact (putIn_exc e2).elim
    | ok d ρ2 =>
      rw [e2] at out
      simp only [bind_ok] at out
      obtain ⟨F1', g1', f1', cr, er1', w1', st1'⟩ := putIn_ok a w1 er1 r1 e2
      have st := st1.trans st1'
      refine ⟨ρ2, F1', f1', w1'.sub (List.sublist_append_right _ _), er1', ?_⟩
      cases e3 : evP O.T (callF O.T n) as ρ2 with
      | bad => rw [e3] at out; exact out
      | exc x2 ρ3 => rw [e3] at out; exact ExV.step st (fun a m => List.mem_append_right _ m) out
      | ok vs ρ3 =>
        rw [e3] at out
        intro F2 H2 xs' g2 f2 st2 w2 er2 r2 p2
        have lv := CR.lives d cr
        have cr2 : CR X.K O.ca F2 H2 xv d g1' := CR.mv st2.fr d cr (st2.stay w1'.nd lv)
        have w3 : Wd F2 H2 (g1' ++ (g2 ++ f2)) := st2.apart w1' w2 lv
        refine out F2 H2 (xv :: xs') (g1' ++ g2) f2 ?_ (by rw [List.append_assoc]; exact w3) er2 (.cons cr2 r2) fun e => ?_
        · rw [List.append_assoc]
          exact st.trans (st2.more g1')
        · simp only [ncs, Bool.and_eq_true] at e
          exact (p1 e.1).trans (p2 e.2)
theorem evF_len : ∀ {as : List E} {ρ ρ' : Env} {ds : List PyData}, evF O.T (callF O.T n) as ρ = .ok ds ρ' → ds.length = as.length
  | [], _, _, _, h => by simp only [evF] at h; cases h; rfl
  | a :: as, ρ, _, _, h => by
    simp only [evF] at h
    cases e1 : evE O.T (callF O.T n) a ρ with
    | bad => rw [e1] at h; cases h
    | exc _ _ => rw [e1] at h; cases h
    | ok v ρ1 =>
      rw [e1] at h
      simp only [bind_ok] at h
      cases e2 : frz ρ1 v with
      | bad => rw [e2] at h; cases h
      | exc _ _ => rw [e2] at h; cases h
      | ok d ρ2 =>
        rw [e2] at h
        simp only [bind_ok] at h
        cases e3 : evF O.T (callF O.T n) as ρ2 with
        | bad => rw [e3] at h; cases h
        | exc _ _ => rw [e3] at h; cases h
        | ok ds ρ3 =>
          rw [e3] at h
          cases h
          simp [evF_len e3]
theorem evP_len : ∀ {as : List E} {ρ ρ' : Env} {ds : List C}, evP O.T (callF O.T n) as ρ = .ok ds ρ' → ds.length = as.length
  | [], _, _, _, h => by simp only [evP] at h; cases h; rfl
  | a :: as, ρ, _, _, h => by
    simp only [evP] at h
    cases e1 : evE O.T (callF O.T n) a ρ with
    | bad => rw [e1] at h; cases h
    | exc _ _ => rw [e1] at h; cases h
    | ok v ρ1 =>
      rw [e1] at h
      simp only [bind_ok] at h
      cases e2 : putIn a ρ1 v with
      | bad => rw [e2] at h; cases h
      | exc _ _ => rw [e2] at h; cases h
      | ok d ρ2 =>
        rw [e2] at h
        simp only [bind_ok] at h
        cases e3 : evP O.T (callF O.T n) as ρ2 with
        | bad => rw [e3] at h; cases h
        | exc _ _ => rw [e3] at h; cases h
        | ok ds ρ3 =>
          rw [e3] at h
          cases h
          simp [evP_len e3]
theorem CRs.length {K : PySem.W.Frag} {ca : Nat → Addr} {F H : Hp} : ∀ {cs : List C} {vs : List V} {g : List Addr}, CRs K ca F H vs cs g → vs.length = cs.length
  | [], _, _, h => by cases h; rfl
  | _ :: _, _, _, h => by cases h with | cons _ r => simp [CRs.length r]

/-! ### displays -/
theorem s_tup {xs : List Expr} {as : List E} {k : Nat} {p : Pos} (hl : as.length ≤ 1000) (h : PA X xs (tFs O n X.K W as)) : PE X (.Tuple xs k p) (tE O n X.K W (.tup as)) := by
  refine PE.imp (pe_tup h) ?_
  intro σ H Q ⟨ρ, F, f, w, er, out⟩
  refine ⟨ρ, F, f, w, er, ?_⟩
  simp only [evE] at out
  cases e1 : evF O.T (callF O.T n) as ρ with
  | bad => rw [e1] at out; exact out
  | exc x1 ρ1 => rw [e1] at out; exact out
  | ok ds ρ1 =>
    rw [e1] at out
    intro F1 H1 vs f1 st w1 er1 r p1
    have hlen := evF_len e1
    refine ⟨by rw [r.length, hlen, sizeLine_eq]; omega, fun q hq => ?_⟩
    have nq : NewQ X.K O.ca F1 H1 Q (.d (.tuple ds)) := OkV.new (c := .d (.tuple ds)) out st (fun a m => m) w1 er1 (fun e => p1 (by simpa [nc] using e))
    exact nq.tup w1.same r hq
theorem s_lst {xs : List Expr} {as : List E} {p : Pos} (hl : as.length ≤ 1000) (h : PA X xs (tPs O n X.K W as)) : PE X (.List xs p) (tE O n X.K W (.lst as)) := by
  refine PE.imp (pe_lst h) ?_
  intro σ H Q ⟨ρ, F, f, w, er, out⟩
  refine ⟨ρ, F, f, w, er, ?_⟩
  simp only [evE] at out
  cases e1 : evP O.T (callF O.T n) as ρ with
  | bad => rw [e1] at out; exact out
  | exc x1 ρ1 => rw [e1] at out; exact out
  | ok cs ρ1 =>
    rw [e1] at out
    intro F1 H1 vs g f1 st w1 er1 r p1
    have hlen := evP_len e1
    refine ⟨by rw [r.length, hlen, sizeLine_eq]; omega, fun q hq => ?_⟩
    have sm := same_updN (o := .lst vs) hq
    have kp : ∀ a ∈ g ++ f1, (upd H1 q (.lst vs)) a = H1 a := fun a m => upd_ne fun e => by
      subst e
      rcases List.mem_append.mp m with m | m
      · exact CRs.lives cs r a m hq
      · exact ER.lives er1 a m hq
    have sn := step_new (F := F1) (o := .lst vs) hq
    have lv : ∀ a ∈ g ++ f1, H1 a ≠ none := fun a m => (List.mem_append.mp m).elim (CRs.lives cs r a) (ER.lives er1 a)
    have wn : Wd F1 (upd H1 q (.lst vs)) [q] := ⟨w1.same.trans sm, by simp, fun a m => by rw [List.mem_singleton.mp m]; exact w1.same.free hq⟩
    have w2 : Wd F1 (upd H1 q (.lst vs)) ((g ++ f1) ++ [q]) := sn.apart (by rw [List.append_nil]; exact w1) wn lv
    refine out F1 _ (.ref q) (q :: g) f1 ?_ (w2.perm ?_) (er1.mv (Same.refl _) fun a m => kp a (List.mem_append_right _ m)) (.lst upd_same (CRs.mv (Same.refl _) cs r fun a m => kp a (List.mem_append_left _ m))) fun e => (p1 (by simpa [nc] using e)).trans sm
    · have s4 := sn.more (g ++ f1)
      rw [List.append_nil] at s4
      refine (st.trans s4).less fun a m => ?_
      simp only [List.mem_append, List.cons_append, List.mem_cons, List.not_mem_nil, or_false] at m ⊢
      rcases m with m | m | m <;> simp [m]
    · rw [List.cons_append]
      exact List.perm_append_comm.trans (by rw [List.singleton_append])
theorem s_dict {p : Pos} : PE X (.Dict [] [] p) (tE O n X.K W (.dict [] [])) := by
  refine PE.imp pe_dnewK ?_
  intro σ H Q ⟨ρ, F, f, w, er, out⟩
  simp only [evE, evP, bind_ok] at out
  intro q hq
  have nq : NewQ X.K O.ca F H Q (.dct []) := OkV.new (c := .dct []) out Step.refl (fun a m => m) w er (fun _ => Same.refl _)
  exact nq F _ (.ref q) [q] (step_new hq) ⟨w.same.trans (same_updN hq), by simp, fun a m => by rw [List.mem_singleton.mp m]; exact w.same.free hq⟩ (.dct upd_same .nil)
end
end Z
set_option linter.all false
set_option Elab.async false
set_option maxRecDepth 100000
/-! Z11: truth, chains, subscripts, slices. -/
namespace Z
open PySem L2
section
variable (O : Wo) (n : Nat) (X : Cx) (W : WX)
/-- an expression keeps what the small language says -/
structure EOk (e : Expr) (ir : E) : Prop where
  pe : PE X e (tE O n X.K W ir)
  pt : PT X e (tB (tE O n X.K W ir))
  pl : plainB e = true
inductive ELs : List Expr → List E → Prop
  | nil : ELs [] []
  | cons {x : Expr} {a : E} {xs : List Expr} {as : List E} : EOk O n X W x a → ELs xs as → ELs (x :: xs) (a :: as)
def tA (K : PySem.W.Frag) (W : WX) (as : List E) : TE := fun σ H Q => ∃ (ρ : Env) (F : Hp) (f : List Addr), Wd F H f ∧ ER K O.ca F H σ ρ f ∧ OutV K O.ca W F H f σ Q (ncs as) (evAnd O.T (callF O.T n) as ρ)
def tO (K : PySem.W.Frag) (W : WX) (as : List E) : TE := fun σ H Q => ∃ (ρ : Env) (F : Hp) (f : List Addr), Wd F H f ∧ ER K O.ca F H σ ρ f ∧ OutV K O.ca W F H f σ Q (ncs as) (evOr O.T (callF O.T n) as ρ)
end
section
variable {O : Wo} {n : Nat} {X : Cx} {W : WX} {e x y z : Expr} {a b c : E}
theorem ELs.vs : ∀ {xs : List Expr} {as : List E}, ELs O n X W xs as → PA X xs (tVs O n X.K W as)
  | _, _, .nil => s_vs_nil
  | _, _, .cons h r => s_vs_cons h.pl h.pe r.vs
theorem ELs.fs : ∀ {xs : List Expr} {as : List E}, ELs O n X W xs as → PA X xs (tFs O n X.K W as)
  | _, _, .nil => s_fs_nil
  | _, _, .cons h r => s_fs_cons h.pl h.pe r.fs
theorem ELs.ps : ∀ {xs : List Expr} {as : List E}, ELs O n X W xs as → PA X xs (tPs O n X.K W as)
  | _, _, .nil => s_ps_nil
  | _, _, .cons h r => s_ps_cons h.pl h.pe r.ps
theorem ELs.length : ∀ {xs : List Expr} {as : List E}, ELs O n X W xs as → xs.length = as.length
  | _, _, .nil => rfl
  | _, _, .cons h r => by simp [r.length]
theorem vr_bool {K : PySem.W.Frag} {ca : Nat → Addr} {F H : Hp} {σ : L2.St} {xv : V} {t : Bool} {g : List Addr} (r : VR K ca F H σ xv (.own (.d (.bool t))) g) : xv = .bl t ∧ g = [] := by
  cases r with | d h => cases h; exact ⟨rfl, rfl⟩
theorem vr_int {K : PySem.W.Frag} {ca : Nat → Addr} {F H : Hp} {σ : L2.St} {xv : V} {t : Int} {g : List Addr} (r : VR K ca F H σ xv (.own (.d (.int t))) g) : xv = .int t ∧ g = [] := by
  cases r with | d h => cases h; exact ⟨rfl, rfl⟩
theorem asBool_ok {v : Val} {ρ ρ' : Env} {t : Bool} (h : asBool v ρ = .ok t ρ') : v = .own (.d (.bool t)) ∧ ρ' = ρ := by
  unfold asBool at h
  split at h <;> cases h
  exact ⟨rfl, rfl⟩
theorem asBool_ne {v : Val} {ρ ρ' : Env} {x : Exn} : asBool v ρ ≠ .exc x ρ' := fun h => by
  unfold asBool at h
  split at h <;> cases h
theorem OkV.next {K : PySem.W.Frag} {ca : Nat → Addr} {F H F1 H1 : Hp} {f f1 g : List Addr} {σ : L2.St} {Q : VK} {pu pu2 : Bool} {v : Val} {ρ : Env} (h : OkV K ca F H f σ Q pu v ρ) (st : Step F H f F1 H1 g) (hs : ∀ a ∈ f1, a ∈ g)
    (hp : pu = true → Same H H1 ∧ pu2 = true) : OkV K ca F1 H1 f1 σ Q pu2 v ρ := fun F' H' x g' f' s w e r p => h F' H' x g' f' (st.trans (s.wide hs)) w e r fun z => (hp z).1.trans (p (hp z).2)
/-- a scalar answer -/
theorem OkV.sc {K : PySem.W.Frag} {ca : Nat → Addr} {F H F1 H1 : Hp} {f f1 g : List Addr} {σ : L2.St} {Q : VK} {pu : Bool} {d : PyData} {ρ : Env} {xv : V} (h : OkV K ca F H f σ Q pu (.own (.d d)) ρ) (st : Step F H f F1 H1 g) (hs : ∀ a ∈ f1, a ∈ g) (w : Wd F1 H1 f1) (er : ER K ca F1 H1 σ ρ f1)
    (r : FR K F1 xv d) (hp : pu = true → Same H H1) : Q xv H1 := h F1 H1 xv [] f1 (st.less hs) w er (CR.d r) hp
/-- the first part is a bool: bind through asBool -/
theorem bool_out {K : PySem.W.Frag} {ca : Nat → Addr} {F H : Hp} {f : List Addr} {σ : L2.St} {Q : VK} {pu : Bool} {r : Res Val} {k : Bool → Env → Res Val} (h : OutV K ca W F H f σ Q pu (r.bind fun v ρ => (asBool v ρ).bind k)) :
    ∀ {Q' : VK} {pu' : Bool}, (∀ t ρ', r = .ok (.own (.d (.bool t))) ρ' → OutV K ca W F H f σ Q pu (k t ρ') → OkV K ca F H f σ Q' pu' (.own (.d (.bool t))) ρ') → OutV K ca W F H f σ Q' pu' r := fun {Q' pu'} hk =>
  bind_out h fun v ρ' e out => by
    cases e2 : asBool v ρ' with
    | bad => rw [e2] at out; exact out.elim
    | exc x ρ2 => exact (asBool_ne e2).elim
    | ok t ρ2 =>
      obtain ⟨rfl, rfl⟩ := asBool_ok e2
      rw [e2] at out
      exact hk t _ e out
/-- bind_out, later -/
theorem bind_out' {K : PySem.W.Frag} {ca : Nat → Addr} {F H F1 H1 : Hp} {f f1 g : List Addr} {σ : L2.St} {Q : VK} {pu : Bool} {r : Res Val} {k : Val → Env → Res Val} (h : OutV K ca W F H f σ Q pu (r.bind k)) (st : Step F H f F1 H1 g) (hs : ∀ a ∈ f1, a ∈ g) :
    ∀ {Q' : VK} {pu' : Bool}, (∀ v ρ', r = .ok v ρ' → OutV K ca W F H f σ Q pu (k v ρ') → OkV K ca F1 H1 f1 σ Q' pu' v ρ') → OutV K ca W F1 H1 f1 σ Q' pu' r := fun {Q' pu'} hk => by
  cases e : r with
  | ok v ρ' =>
    rw [e] at h
    exact hk v ρ' e h
  | exc x ρ' =>
    rw [e] at h
    exact ExV.step st hs h
  | bad =>
    rw [e] at h
    exact h
theorem bl_of {xv : V} {H1 : Hp} {t : Bool} {K : PySem.W.Frag} {ca : Nat → Addr} {F : Hp} {σ : L2.St} {g : List Addr} (r : VR K ca F H1 σ xv (.own (.d (.bool t))) g) : xv = .bl t := (vr_bool r).1
theorem exc_next {K : PySem.W.Frag} {ca : Nat → Addr} {F H F1 H1 : Hp} {f f1 g : List Addr} {σ : L2.St} {Q Q' : VK} {pu pu' : Bool} {r : Res Val} (out : OutV K ca W F H f σ Q pu r) (st : Step F H f F1 H1 g) (hs : ∀ a ∈ f1, a ∈ g)
    (hk : ∀ v ρ', OkV K ca F H f σ Q pu v ρ' → OkV K ca F1 H1 f1 σ Q' pu' v ρ') : OutV K ca W F1 H1 f1 σ Q' pu' r := by
  cases r with
  | bad => exact out
  | exc x ρ' => exact ExV.step st hs out
  | ok v ρ' => exact hk v ρ' out
theorem tE_mono {K : PySem.W.Frag} {ir : E} {σ : L2.St} {H : Hp} {Q Q' : VK} (h : tE O n K W ir σ H Q) (k : ∀ x H1, Q x H1 → Q' x H1) : tE O n K W ir σ H Q' := by
  obtain ⟨ρ, F, f, w, er, out⟩ := h
  refine ⟨ρ, F, f, w, er, ?_⟩
  cases e : evE O.T (callF O.T n) ir ρ with
  | bad => rw [e] at out; exact out
  | exc x ρ' => rw [e] at out; exact out
  | ok v ρ' => rw [e] at out; exact fun F' H' x g f' s w r q p => k _ _ (out F' H' x g f' s w r q p)
/-! ### and, or -/
theorem s_and1 {p : Pos} (h : EOk O n X W x a) : PE X (.BoolOp .And [x] p) (tA O n X.K W [a]) ∧ PW X (.BoolOp .And [x] p) (tB (tA O n X.K W [a])) := by
  have key : ∀ {σ H Q}, tA O n X.K W [a] σ H Q → tE O n X.K W a σ H Q := fun {σ H Q} ⟨ρ, F, f, w, er, out⟩ => by
    refine ⟨ρ, F, f, w, er, ?_⟩
    simp only [evAnd] at out
    refine bool_out out fun t ρ1 e out1 => ?_
    have hpu : nc a = true → ncs [a] = true := fun e => by simp [ncs, e]
    cases t with
    | true => exact OkV.next out1 Step.refl (fun a m => m) fun e => ⟨Same.refl _, by simpa [ncs] using e⟩
    | false => exact OkV.next out1 Step.refl (fun a m => m) fun e => ⟨Same.refl _, by simpa [ncs] using e⟩
  have key' : ∀ {σ H Q}, tA O n X.K W [a] σ H Q → tE O n X.K W a σ H Q := key
  refine ⟨PE.imp (pe_one h.pe) fun σ H Q q => key q, ?_⟩
  exact pw_and1 (PT.imp h.pt fun σ H Q q => key (Q := fun x H1 => ∃ c, x = .bl c ∧ Q c H1) q)
theorem s_or1 {p : Pos} (h : EOk O n X W x a) : PE X (.BoolOp .Or [x] p) (tO O n X.K W [a]) ∧ PW X (.BoolOp .Or [x] p) (tB (tO O n X.K W [a])) := by
  have key : ∀ {σ H Q}, tO O n X.K W [a] σ H Q → tE O n X.K W a σ H Q := fun {σ H Q} ⟨ρ, F, f, w, er, out⟩ => by
    refine ⟨ρ, F, f, w, er, ?_⟩
    simp only [evOr] at out
    refine bool_out out fun t ρ1 e out1 => ?_
    cases t with
    | true => exact OkV.next out1 Step.refl (fun a m => m) fun e => ⟨Same.refl _, by simpa [ncs] using e⟩
    | false => exact OkV.next out1 Step.refl (fun a m => m) fun e => ⟨Same.refl _, by simpa [ncs] using e⟩
  refine ⟨PE.imp (pe_one h.pe) fun σ H Q q => key q, ?_⟩
  exact pw_or1 (PT.imp h.pt fun σ H Q q => key (Q := fun x H1 => ∃ c, x = .bl c ∧ Q c H1) q)
theorem and_key {as : List E} {σ : L2.St} {H : Hp} {Q : VK} (q : tA O n X.K W (a :: b :: as) σ H Q) : tE O n X.K W a σ H fun x H1 => ∃ c, x = .bl c ∧ if c = true then tA O n X.K W (b :: as) σ H1 Q else Q (.bl false) H1 := by
  obtain ⟨ρ, F, f, w, er, out⟩ := q
  refine ⟨ρ, F, f, w, er, ?_⟩
  rw [evAnd] at out
  refine bool_out out fun t ρ1 e out1 => ?_
  intro F1 H1 xv g f1 st1 w1 er1 r1 p1
  obtain ⟨rfl, rfl⟩ := vr_bool r1
  refine ⟨t, rfl, ?_⟩
  cases t with
  | true =>
    simp only [if_true] at out1 ⊢
    refine ⟨ρ1, F1, f1, w1, er1, exc_next out1 st1 (fun a m => m) fun v ρ' h => ?_⟩
    exact h.next st1 (fun a m => m) fun e => by
      have e' : nc a = true ∧ ncs (b :: as) = true := by simpa [ncs] using e
      exact ⟨p1 e'.1, e'.2⟩
  | false =>
    simp only [Bool.false_eq_true, if_false] at out1 ⊢
    exact OkV.sc out1 st1 (fun a m => m) w1 er1 (.bl false) fun e => p1 (by simp only [ncs, Bool.and_eq_true] at e; exact e.1)
theorem or_key {as : List E} {σ : L2.St} {H : Hp} {Q : VK} (q : tO O n X.K W (a :: b :: as) σ H Q) : tE O n X.K W a σ H fun x H1 => ∃ c, x = .bl c ∧ if c = true then Q (.bl true) H1 else tO O n X.K W (b :: as) σ H1 Q := by
  obtain ⟨ρ, F, f, w, er, out⟩ := q
  refine ⟨ρ, F, f, w, er, ?_⟩
  rw [evOr] at out
  refine bool_out out fun t ρ1 e out1 => ?_
  intro F1 H1 xv g f1 st1 w1 er1 r1 p1
  obtain ⟨rfl, rfl⟩ := vr_bool r1
  refine ⟨t, rfl, ?_⟩
  cases t with
  | false =>
    simp only [Bool.false_eq_true, if_false] at out1 ⊢
    refine ⟨ρ1, F1, f1, w1, er1, exc_next out1 st1 (fun a m => m) fun v ρ' h => ?_⟩
    exact h.next st1 (fun a m => m) fun e => by
      have e' : nc a = true ∧ ncs (b :: as) = true := by simpa [ncs] using e
      exact ⟨p1 e'.1, e'.2⟩
  | true =>
    simp only [if_true] at out1 ⊢
    exact OkV.sc out1 st1 (fun a m => m) w1 er1 (.bl true) fun e => p1 (by simp only [ncs, Bool.and_eq_true] at e; exact e.1)
theorem s_andL : ∀ {as : List E} {xs : List Expr} {p : Pos}, ELs O n X W xs as → as ≠ [] → PE X (.BoolOp .And xs p) (tA O n X.K W as) ∧ PW X (.BoolOp .And xs p) (tB (tA O n X.K W as))
  | [], _, _, _, h => absurd rfl h
  | [a], _, _, .cons h .nil, _ => s_and1 h
  | a :: b :: as, _, _, .cons h (.cons h2 r), _ => by
    obtain ⟨e1, e2⟩ := s_andL (.cons h2 r) (by simp)
    refine ⟨PE.imp (pe_and h.pe e1) fun σ H Q q => and_key q, ⟨fun wh pins s σ H Q I q => ?_⟩⟩
    refine (pw_and h.pt e2).run wh pins s σ H Q I ?_
    have q' := and_key (Q := fun x H1 => ∃ c, x = .bl c ∧ Q c H1) q
    refine tE_mono q' fun x H1 ⟨c, e, k⟩ => ⟨c, e, ?_⟩
    cases c with
    | true => exact k
    | false =>
      simp only [Bool.false_eq_true, if_false] at k ⊢
      obtain ⟨c, e, k⟩ := k
      cases e
      exact k
theorem s_orL : ∀ {as : List E} {xs : List Expr} {p : Pos}, ELs O n X W xs as → as ≠ [] → PE X (.BoolOp .Or xs p) (tO O n X.K W as) ∧ PW X (.BoolOp .Or xs p) (tB (tO O n X.K W as))
  | [], _, _, _, h => absurd rfl h
  | [a], _, _, .cons h .nil, _ => s_or1 h
  | a :: b :: as, _, _, .cons h (.cons h2 r), _ => by
    obtain ⟨e1, e2⟩ := s_orL (.cons h2 r) (by simp)
    refine ⟨PE.imp (pe_or h.pe e1) fun σ H Q q => or_key q, ⟨fun wh pins s σ H Q I q => ?_⟩⟩
    refine (pw_or h.pt e2).run wh pins s σ H Q I ?_
    have q' := or_key (Q := fun x H1 => ∃ c, x = .bl c ∧ Q c H1) q
    refine tE_mono q' fun x H1 ⟨c, e, k⟩ => ⟨c, e, ?_⟩
    cases c with
    | false => exact k
    | true =>
      simp only [if_true] at k ⊢
      obtain ⟨c, e, k⟩ := k
      cases e
      exact k
theorem s_and {xs : List Expr} {as : List E} {p : Pos} (h : ELs O n X W xs as) (hn : as ≠ []) : EOk O n X W (.BoolOp .And xs p) (.and as) := by
  obtain ⟨h1, h2⟩ := s_andL (p := p) h hn
  exact ⟨PE.imp h1 fun σ H Q ⟨ρ, F, f, w, er, out⟩ => ⟨ρ, F, f, w, er, out⟩, PT.imp h2.pt fun σ H Q ⟨ρ, F, f, w, er, out⟩ => ⟨ρ, F, f, w, er, out⟩, rfl⟩
theorem s_or {xs : List Expr} {as : List E} {p : Pos} (h : ELs O n X W xs as) (hn : as ≠ []) : EOk O n X W (.BoolOp .Or xs p) (.or as) := by
  obtain ⟨h1, h2⟩ := s_orL (p := p) h hn
  exact ⟨PE.imp h1 fun σ H Q ⟨ρ, F, f, w, er, out⟩ => ⟨ρ, F, f, w, er, out⟩, PT.imp h2.pt fun σ H Q ⟨ρ, F, f, w, er, out⟩ => ⟨ρ, F, f, w, er, out⟩, rfl⟩
theorem not_key {σ : L2.St} {H : Hp} {Q : VK} (q : tE O n X.K W (.not a) σ H Q) : tE O n X.K W a σ H fun x H1 => ∃ c, x = .bl c ∧ Q (.bl (!c)) H1 := by
  obtain ⟨ρ, F, f, w, er, out⟩ := q
  refine ⟨ρ, F, f, w, er, ?_⟩
  simp only [evE] at out
  refine bool_out out fun t ρ1 e out1 => ?_
  intro F1 H1 xv g f1 st1 w1 er1 r1 p1
  obtain ⟨rfl, rfl⟩ := vr_bool r1
  exact ⟨t, rfl, OkV.sc out1 st1 (fun a m => m) w1 er1 (.bl _) p1⟩
theorem s_not {p : Pos} (h : EOk O n X W x a) : EOk O n X W (.UnaryOp .Not x p) (.not a) := by
  refine ⟨PE.imp (pe_not h.pe) fun σ H Q q => not_key q, PT.imp (pt_not h.pt) fun σ H Q q => ?_, rfl⟩
  exact tE_mono (not_key (Q := fun x H1 => ∃ c, x = .bl c ∧ Q c H1) q) fun x H1 ⟨c, e, k⟩ => ⟨c, e, by obtain ⟨d, e2, k⟩ := k; cases e2; exact k⟩
/-- a if c else b -/
theorem ite_key {σ : L2.St} {H : Hp} {Q : VK} (q : tE O n X.K W (.ite c a b) σ H Q) : tE O n X.K W c σ H fun x H1 => ∃ t, x = .bl t ∧ if t = true then tE O n X.K W a σ H1 Q else tE O n X.K W b σ H1 Q := by
  obtain ⟨ρ, F, f, w, er, out⟩ := q
  refine ⟨ρ, F, f, w, er, ?_⟩
  simp only [evE] at out
  refine bool_out out fun t ρ1 e out1 => ?_
  intro F1 H1 xv g f1 st1 w1 er1 r1 p1
  obtain ⟨rfl, rfl⟩ := vr_bool r1
  refine ⟨t, rfl, ?_⟩
  cases t with
  | true =>
    simp only [if_true] at out1 ⊢
    refine ⟨ρ1, F1, f1, w1, er1, exc_next out1 st1 (fun a m => m) fun v ρ' h => h.next st1 (fun a m => m) fun e => ?_⟩
    have e' : (nc c = true ∧ nc a = true) ∧ nc b = true := by simpa [nc] using e
    exact ⟨p1 e'.1.1, e'.1.2⟩
  | false =>
    simp only [Bool.false_eq_true, if_false] at out1 ⊢
    refine ⟨ρ1, F1, f1, w1, er1, exc_next out1 st1 (fun a m => m) fun v ρ' h => h.next st1 (fun a m => m) fun e => ?_⟩
    have e' : (nc c = true ∧ nc a = true) ∧ nc b = true := by simpa [nc] using e
    exact ⟨p1 e'.1.1, e'.2⟩
theorem s_ite {p : Pos} (hc : EOk O n X W z c) (ha : EOk O n X W x a) (hb : EOk O n X W y b) : EOk O n X W (.IfExp z x y p) (.ite c a b) := by
  have h1 : PE X (.IfExp z x y p) (tE O n X.K W (.ite c a b)) := PE.imp (pe_ifExp hc.pt ha.pe hb.pe) fun σ H Q q => ite_key q
  refine ⟨h1, ⟨fun pins s σ H Q I q => ?_⟩, rfl⟩
  have q' := ite_key (Q := fun x H1 => ∃ t, x = .bl t ∧ Q t H1) q
  show wpAny _ _ (do if ← isTrue z X.env (eval z X.env) then isTrue x X.env (eval x X.env) else isTrue y X.env (eval y X.env)) _ _ _
  refine wpAny_bind (thn (hc.pt.run pins s σ H (fun t H1 => if t = true then tB (tE O n X.K W a) σ H1 Q else tB (tE O n X.K W b) σ H1 Q) I q') fun t s1 ⟨H1, I1, q1⟩ => ?_)
  cases t with
  | true => exact wpAny_ite_true rfl (ha.pt.run pins s1 σ H1 Q I1 q1)
  | false => exact wpAny_ite_false rfl (hb.pt.run pins s1 σ H1 Q I1 q1)
end
end Z
set_option linter.all false
set_option Elab.async false
set_option maxRecDepth 100000
/-! Z12: operators as values and tests; subscripts; calls of built-ins. -/
namespace Z
open PySem L2
section
variable {O : Wo} {n : Nat} {X : Cx} {W : WX} {e x y z : Expr} {a b c : E}
theorem s_o2 {o : O2} (hu : X.A.units + 70 < cLine) (ha : EOk O n X W x a) (hb : EOk O n X W y b) (h : as2 e = some (x, o, y)) : EOk O n X W e (.o2 o a b) := by
  rcases as2_eq h with ⟨op, q, rfl, ho⟩ | ⟨op, q, rfl, ho, hm⟩
  · have h1 := PE.imp (pe_op (r := rW X (opF o)) (pos := q) (by rw [ho]; exact rW_ok) ha.pe hb.pe) (o2_key hu)
    exact ⟨h1, pt_val h1, rfl⟩
  · exact ⟨PE.imp (pe_cmpR (r := rW X (opF o)) (by rw [ho]; exact rW_ok) ha.pe hb.pe hm) (o2_key hu), PT.imp (pt_cmpR (r := rW X (opF o)) (by rw [ho]; exact rW_ok) ha.pe hb.pe hm) fun σ H Q q => o2_key hu σ H _ q, rfl⟩
theorem s_fz {nm : Str} {p : Pos} (h : EOk O n X W (.Name nm p) a) : EOk O n X W (.Name nm p) (.fz a) := by
  have h1 : PE X (.Name nm p) (tE O n X.K W (.fz a)) := by
    refine PE.imp h.pe ?_
    intro σ H Q ⟨ρ, F, f, w, er, out⟩
    refine ⟨ρ, F, f, w, er, ?_⟩
    simp only [evE] at out
    refine bind_out out fun v ρ1 _ out1 F1 H1 xv g f1 st1 w1 er1 r1 p1 => ?_
    cases e2 : frz ρ1 v with
    | bad => rw [e2] at out1; exact out1.elim
    | exc x2 ρ2 =>
      exfalso
      cases v with
      | own c => simp only [frz] at e2; cases h : c.toD <;> rw [h] at e2 <;> cases e2
      | bor i p => simp only [frz] at e2; split at e2 <;> cases e2
    | ok d ρ2 =>
      rw [e2] at out1
      simp only [bind_ok] at out1
      obtain ⟨F2, f2, fr, er2, w2, st2⟩ := VR.frz w1 er1 r1 e2
      exact out1 F2 H1 xv [] f2 (st1.trans st2) w2 er2 (.d fr) fun e => by cases e
  exact ⟨h1, pt_val h1, h.pl⟩
theorem s_neg {p : Pos} (h : EOk O n X W x a) : EOk O n X W (.UnaryOp .USub x p) (.neg a) := by
  have h1 : PE X (.UnaryOp .USub x p) (tE O n X.K W (.neg a)) := by
    refine PE.imp (pe_un un_neg h.pe) ?_
    intro σ H Q ⟨ρ, F, f, w, er, out⟩
    refine ⟨ρ, F, f, w, er, ?_⟩
    simp only [evE] at out
    refine bind_out out fun v ρ1 _ out1 F1 H1 xv g f1 st1 w1 er1 r1 p1 => ?_
    split at out1
    · rename_i i _
      obtain ⟨rfl, rfl⟩ := vr_int r1
      exact ⟨i, rfl, OkV.sc out1 st1 (fun a m => m) w1 er1 (.int _) p1⟩
    · exact out1.elim
  exact ⟨h1, pt_val h1, rfl⟩
theorem none_iff {K : PySem.W.Frag} {ca : Nat → Addr} {F H : Hp} {σ : L2.St} {xv : V} {v : Val} {ρ : Env} {g f : List Addr} {t : Bool} (er : ER K ca F H σ ρ f) (r : VR K ca F H σ xv v g) (h : noneV ρ v = some t) : decide (xv = .non) = t := by
  have nd : ∀ {c : C} {k : List Addr}, (∀ d, c ≠ .d d) → CR K ca F H xv c k → decide (xv = .non) = false := fun {c k} hd cr => by
    cases cr <;> first | rfl | exact absurd rfl (hd _)
  cases v with
  | own c =>
    cases c with
    | d d =>
      simp only [noneV, Option.some.injEq] at h
      subst h
      cases r with | d h => cases h <;> rfl
    | _ => cases h; exact nd (fun _ e => by cases e) r
  | bor i p =>
    simp only [noneV] at h
    obtain ⟨rfl⟩ := r.bor_nil
    split at h <;> first | (cases h; done) | skip
    rename_i c hd hl
    cases h
    obtain ⟨l, g', r', _, cr, _⟩ := er.at hl r
    exact nd (fun d e => hd d e) cr
/-- is, is not None -/
theorem isNone_key {σ : L2.St} {H : Hp} {Q : VK} (q : tE O n X.K W (.isNone a) σ H Q) : tE O n X.K W a σ H fun x H1 => Q (.bl (decide (x = .non))) H1 := by
  obtain ⟨ρ, F, f, w, er, out⟩ := q
  refine ⟨ρ, F, f, w, er, ?_⟩
  simp only [evE] at out
  refine bind_out out fun v ρ1 e1 out1 F1 H1 xv g f1 st1 w1 er1 r1 p1 => ?_
  cases h : noneV ρ1 v with
  | none => rw [h] at out1; exact out1.elim
  | some t =>
    rw [h] at out1
    rw [none_iff er1 r1 h]
    exact OkV.sc out1 st1 (fun a m => List.mem_append_right _ m) (w1.sub (List.sublist_append_right g f1)) er1 (.bl _) p1
theorem notNone_key {σ : L2.St} {H : Hp} {Q : VK} (q : tE O n X.K W (.notNone a) σ H Q) : tE O n X.K W a σ H fun x H1 => Q (.bl (!decide (x = .non))) H1 := by
  obtain ⟨ρ, F, f, w, er, out⟩ := q
  refine ⟨ρ, F, f, w, er, ?_⟩
  simp only [evE] at out
  refine bind_out out fun v ρ1 e1 out1 F1 H1 xv g f1 st1 w1 er1 r1 p1 => ?_
  cases h : noneV ρ1 v with
  | none => rw [h] at out1; exact out1.elim
  | some t =>
    rw [h] at out1
    rw [none_iff er1 r1 h]
    exact OkV.sc out1 st1 (fun a m => List.mem_append_right _ m) (w1.sub (List.sublist_append_right g f1)) er1 (.bl _) p1
theorem s_isNone {j : Nat} {p q : Pos} (h : EOk O n X W x a) : EOk O n X W (.Compare x [.Is] [.Constant .none j q] p) (.isNone a) :=
  ⟨PE.imp (pe_cmp (pc_isN h.pe)) fun σ H Q q => isNone_key q, PT.imp (pt_cmp (pc_isN h.pe)) fun σ H Q q => isNone_key (Q := fun x H1 => ∃ c, x = .bl c ∧ Q c H1) q, rfl⟩
theorem s_notNone {j : Nat} {p q : Pos} (h : EOk O n X W x a) : EOk O n X W (.Compare x [.IsNot] [.Constant .none j q] p) (.notNone a) :=
  ⟨PE.imp (pe_cmp (pc_notN h.pe)) fun σ H Q q => notNone_key q, PT.imp (pt_cmp (pc_notN h.pe)) fun σ H Q q => notNone_key (Q := fun x H1 => ∃ c, x = .bl c ∧ Q c H1) q, rfl⟩
theorem isB_key {t : Bool} {σ : L2.St} {H : Hp} {Q : VK} (q : tE O n X.K W (.isB t a) σ H Q) : tOp rIsB (tE O n X.K W a) (tC (.bl t)) σ H Q := by
  obtain ⟨ρ, F, f, w, er, out⟩ := q
  refine ⟨ρ, F, f, w, er, ?_⟩
  simp only [evE] at out
  refine bool_out out fun u ρ1 e out1 => ?_
  intro F1 H1 xv g f1 st1 w1 er1 r1 p1
  obtain ⟨rfl, rfl⟩ := vr_bool r1
  refine ⟨u, t, rfl, rfl, ?_⟩
  have := OkV.sc out1 st1 (fun a m => m) w1 er1 (.bl _) p1
  rwa [Bool.beq_eq_decide_eq] at this
theorem notB_key {t : Bool} {σ : L2.St} {H : Hp} {Q : VK} (q : tE O n X.K W (.notB t a) σ H Q) : tOp rNotB (tE O n X.K W a) (tC (.bl t)) σ H Q := by
  obtain ⟨ρ, F, f, w, er, out⟩ := q
  refine ⟨ρ, F, f, w, er, ?_⟩
  simp only [evE] at out
  refine bool_out out fun u ρ1 e out1 => ?_
  intro F1 H1 xv g f1 st1 w1 er1 r1 p1
  obtain ⟨rfl, rfl⟩ := vr_bool r1
  refine ⟨u, t, rfl, rfl, ?_⟩
  have := OkV.sc out1 st1 (fun a m => m) w1 er1 (.bl _) p1
  rwa [Bool.beq_eq_decide_eq] at this
theorem s_isB {t : Bool} {j : Nat} {p q : Pos} (h : EOk O n X W x a) : EOk O n X W (.Compare x [.Is] [.Constant (.bool t) j q] p) (.isB t a) :=
  ⟨PE.imp (pe_cmpR op_isBl h.pe pe_bl (nomark _)) fun σ H Q q => isB_key q, PT.imp (pt_cmpR op_isBl h.pe pe_bl (nomark _)) fun σ H Q q => isB_key q, rfl⟩
theorem s_notB {t : Bool} {j : Nat} {p q : Pos} (h : EOk O n X W x a) : EOk O n X W (.Compare x [.IsNot] [.Constant (.bool t) j q] p) (.notB t a) :=
  ⟨PE.imp (pe_cmpR op_notBl h.pe pe_bl (nomark _)) fun σ H Q q => notB_key q, PT.imp (pt_cmpR op_notBl h.pe pe_bl (nomark _)) fun σ H Q q => notB_key q, rfl⟩
/-! ### chains -/
theorem chain_key {o o' : O2} (hu : X.A.units + 70 < cLine) {σ : L2.St} {H : Hp} {Q : VK} (q : tE O n X.K W (.chain o o' a b c) σ H Q) :
    tChain (rW X (opF o)) (rW X (opF o')) (tE O n X.K W a) (tE O n X.K W b) (tE O n X.K W c) σ H Q := by
  obtain ⟨ρ, F, f, w, er, out⟩ := q
  refine ⟨ρ, F, f, w, er, ?_⟩
  simp only [evE] at out
  refine bind_out out fun v ρ1 _ out1 F1 H1 xv g f1 st1 w1 er1 r1 p1 => ?_
  have hs1 : ∀ a ∈ f1, a ∈ g ++ f1 := fun a m => List.mem_append_right _ m
  refine ⟨ρ1, F1, f1, w1.sub (List.sublist_append_right _ _), er1, ?_⟩
  cases e2 : evE O.T (callF O.T n) b ρ1 with
  | bad => rw [e2] at out1; exact out1
  | exc x2 ρ2 => rw [e2] at out1; exact ExV.step st1 hs1 out1
  | ok u ρ2 =>
    rw [e2] at out1
    intro F2 H2 yv g2 f2 st2 w2 er2 r2 p2 pins s σ' v' u' I rx ry
    simp only [bind_ok] at out1
    split at out1
    · rename_i dx dy _
      cases e3 : sem2 o dx dy with
      | none => rw [e3] at out1; exact out1.elim
      | some cc =>
        rw [e3] at out1
        simp only [of_some, bind_ok] at out1
        have lv0 : g = [] ∧ FR X.K F1 xv dx := by cases r1 with | d h => exact ⟨rfl, h⟩
        obtain ⟨rfl, fx⟩ := lv0
        have lv1 : g2 = [] ∧ FR X.K F2 yv dy := by cases r2 with | d h => exact ⟨rfl, h⟩
        obtain ⟨rfl, fy⟩ := lv1
        have st : Step F H f F2 H2 f2 := st1.trans st2
        refine o2_ok o (ca := O.ca) I hu w2.same (.fr (FR.mono st2.fr _ fx)) (.fr fy) rx ry e3 ?_
        intro F3 H3 x3 f3 st3 w3 cr3
        have w3' : Wd F3 H3 (f2 ++ f3) := st3.apart (g := f2) (by rw [List.append_nil]; exact w2) w3 (ER.lives er2)
        have sm : Same H2 H3 := fun a o e => st3.keep a o e (by simp)
        have er3 : ER X.K O.ca F3 H3 σ ρ2 f2 := er2.mv st3.fr fun a m => by
          cases q : H2 a with
          | none => exact absurd q (ER.lives er2 a m)
          | some o => exact sm a o q
        have st03 : Step F H f F3 H3 (f2 ++ f3) := by
          have s4 := st3.more f2
          rw [List.append_nil] at s4
          exact st.trans s4
        have hs3 : ∀ a ∈ f2, a ∈ f2 ++ f3 := fun a m => List.mem_append_left _ m
        split at out1
        · -- goes on
          cases cr3 with
          | d hb =>
            cases hb
            refine ⟨true, rfl, ?_⟩
            simp only [if_true]
            refine ⟨ρ2, F3, f2, w3'.sub (List.sublist_append_left _ _), er3, ?_⟩
            refine bind_out' out1 st03 hs3 fun wv ρ3 _ out2 F4 H4 zv g4 f4 st4 w4 er4 r4 p4 pins4 s4 σ4 v4 u4 I4 ry4 rz4 => ?_
            split at out2
            · rename_i dz _
              have lv2 : g4 = [] ∧ FR X.K F4 zv dz := by cases r4 with | d h => exact ⟨rfl, h⟩
              obtain ⟨rfl, fz⟩ := lv2
              cases e5 : sem2 o' dy dz with
              | none => rw [e5] at out2; exact out2.elim
              | some cc2 =>
                rw [e5] at out2
                have st04 : Step F H f F4 H4 f4 := st03.trans (st4.wide hs3)
                refine o2_ok o' I4 hu w4.same (.fr (FR.mono (st3.fr.trans st4.fr) _ fy)) (.fr fz) ry4 rz4 e5 (OkV.new out2 st04 (fun a m => m) w4 er4 fun e => ?_)
                simp only [nc, Bool.and_eq_true] at e
                exact ((p1 e.1.1).trans (p2 e.1.2)).trans (sm.trans (p4 e.2))
            · exact out2.elim
        · cases cr3 with
          | d hb =>
            cases hb
            refine ⟨false, rfl, ?_⟩
            simp only [Bool.false_eq_true, if_false]
            refine OkV.sc out1 st03 hs3 (w3'.sub (List.sublist_append_left _ _)) er3 (.bl false) fun e => ?_
            simp only [nc, Bool.and_eq_true] at e
            exact ((p1 e.1.1).trans (p2 e.1.2)).trans sm
        · exact out1.elim
    · exact out1.elim
theorem s_chain {o o' : O2} (hu : X.A.units + 70 < cLine) (ha : EOk O n X W x a) (hb : EOk O n X W y b) (hc : EOk O n X W z c) (h : as3 e = some (x, o, y, o', z)) : EOk O n X W e (.chain o o' a b c) := by
  obtain ⟨p, p', q, rfl, h1, h2, hm⟩ := as3_eq h
  exact ⟨PE.imp (pe_chain (r := rW X (opF o)) (r' := rW X (opF o')) (by rw [h1]; exact rW_ok) (by rw [h2]; exact rW_ok) ha.pe hb.pe hc.pe hm) fun σ H Q q => chain_key hu q,
    PT.imp (pt_chain (r := rW X (opF o)) (r' := rW X (opF o')) (by rw [h1]; exact rW_ok) (by rw [h2]; exact rW_ok) ha.pe hb.pe hc.pe hm) fun σ H Q q => chain_key hu q, rfl⟩
end
end Z
set_option linter.all false
set_option Elab.async false
set_option maxRecDepth 100000
/-! Z13: calls of built-ins; subscripts; slices. -/
namespace Z
open PySem L2 PyProof.Rows
section
variable {O : Wo} {n : Nat} {X : Cx} {W : WX} {e x y z : Expr} {a b c : E} {xs : List Expr} {as : List E}
theorem no_star : ∀ {xs : List Expr} {as : List E}, ELs O n X W xs as → ∀ (pos : Pos), (backTo pos (starEach xs X.env)).any (·.1) = false
  | _, _, .nil, pos => rfl
  | _, _, .cons h r, pos => by
    rw [star_plain h.pl]
    exact no_star r pos
theorem no_star' : ∀ {xs : List Expr} {as : List E}, ELs O n X W xs as → ∀ (pos : Pos), (backTo pos (starEach xs X.env)).all (fun x => !x.1) = true
  | _, _, .nil, pos => rfl
  | _, _, .cons h r, pos => by
    rw [star_plain h.pl]
    exact no_star' r pos
theorem VRs.peeks {K : PySem.W.Frag} {ca : Nat → Addr} {F H : Hp} {σ : L2.St} {ρ : Env} {f : List Addr} (er : ER K ca F H σ ρ f) : ∀ {vs : List Val} {xs : List V} {g : List Addr} {ds : List PyData}, VRs K ca F H σ xs vs g → peeks ρ vs = some ds → PRs K F H xs ds
  | [], _, _, _, h, e => by cases h; cases e; exact .nil
  | v :: vs, _, _, _, h, e => by
    cases h with
    | cons a r =>
      simp only [Z.peeks, Option.bind_eq_some_iff, Option.map_eq_some_iff] at e
      obtain ⟨d, e1, ds, e2, rfl⟩ := e
      exact .cons (VR.peek er a e1) (VRs.peeks er r e2)
/-- a call by values: the wish itself -/
def rC (X : Cx) (f : Value) : List V → Hp → VK → Prop := fun vs H Q => ∀ (pins : List (Addr × Obj)) (s : Shared) (σ : L2.St) (us : List Value), Inv X pins σ H s → Vals vs us → wpAny (model X.prog X.w) X.A (call f us) (EP X pins σ Q) X.xe s
theorem rC_ok {f : Value} : CallR X f (rC X f) := fun pins s σ H vs us Q I r h => h pins s σ us I r
theorem bi_key {f : BI} {fv : Value} (hc : X.calm = true) (hu : X.A.units + 70 < cLine) (hg : X.A.guards = some []) (hf : biF f = some fv) (σ : L2.St) (H : Hp) (Q : VK) (q : tE O n X.K W (.bi f as) σ H Q) : tCB (rC X fv) (tVs O n X.K W as) σ H Q := by
  obtain ⟨ρ, F, f0, w, er, out⟩ := q
  refine ⟨ρ, F, f0, w, er, ?_⟩
  simp only [evE] at out
  cases e1 : evVs O.T (callF O.T n) as ρ with
  | bad => rw [e1] at out; exact out
  | exc x1 ρ1 => rw [e1] at out; exact out
  | ok vs ρ1 =>
    rw [e1] at out
    simp only [bind_ok] at out
    intro F1 H1 xs g f1 st1 w1 er1 r1 p1 pins s σ' us I rs
    cases e3 : (peeks ρ1 vs).bind fun xs => (biS f xs).map Val.own with
    | none => rw [e3] at out; exact out.elim
    | some v3 =>
      rw [e3] at out
      obtain ⟨ds, h1, h2⟩ := Option.bind_eq_some_iff.mp e3
      obtain ⟨cc, h5, rfl⟩ := Option.map_eq_some_iff.mp h2
      unfold biS at h5
      split at h5
      · rename_i sup
        exact bi_ok f I hc hu hg w1.same (r1.peeks er1 h1) rs hf h5 sup (OkV.new out st1 (fun a m => List.mem_append_right _ m) (w1.sub (List.sublist_append_right _ _)) er1 fun e => p1 (by simpa [nc] using e))
      · cases h5
theorem biF_boot {f : BI} {fv : Value} (h : biF f = some fv) : bootBuiltins (biN f) = some fv ∧ biN f ≠ "__name__" ∧ (biN f == ("__debug__" : Str)) = false := by
  cases f <;> simp only [biF, Option.some.injEq] at h <;> first | (cases h; done) | (subst h; exact ⟨by decide +kernel, by decide, by decide⟩)
theorem biF_kind {f : BI} {fv : Value} (h : biF f = some fv) : (∃ i, fv = .builtin i) ∨ ∃ T, fv = .type T := by
  cases f <;> simp only [biF, Option.some.injEq] at h <;> first | (cases h; done) | (subst h; first | exact .inl ⟨_, rfl⟩ | exact .inr ⟨_, rfl⟩)
theorem s_bi {sc : Scope} {f : BI} {nm : Str} {p q : Pos} (hc : X.calm = true) (hu : X.A.units + 70 < cLine) (hg : X.A.guards = some []) (hs : X.env.scope = sc) (hgl : glB sc nm = true) (hn : nm = biN f) (hm : X.mg nm = none) (hf : (biF f).isSome = true) (hne : as ≠ []) (h : ELs O n X W xs as) :
    EOk O n X W (.Call (.Name nm p) xs [] q) (.bi f as) := by
  obtain ⟨fv, hf⟩ := Option.isSome_iff_exists.mp hf
  obtain ⟨b1, b2, b3⟩ := biF_boot hf
  subst hn hs
  obtain ⟨g1, g2, _⟩ := gl_of hgl
  cases h with
  | nil => exact absurd rfl hne
  | @cons x0 a0 xs0 as0 h0 hr =>
    have hl : ELs O n X W (x0 :: xs0) (a0 :: as0) := .cons h0 hr
    have h1 : PE X (.Call (.Name (biN f) p) (x0 :: xs0) [] q) (tE O n X.K W (.bi f (a0 :: as0))) := by
      rcases biF_kind hf with ⟨i, rfl⟩ | ⟨T, rfl⟩
      · exact PE.imp (pe_callB rC_ok g1 hm b1 hl.vs b2 b3 (star_plain h0.pl _ _) (no_star hr _)) fun σ H Q => bi_key hc hu hg hf σ H Q
      · exact PE.imp (pe_callTy rC_ok g1 hm b1 hl.vs b2 b3 (star_plain h0.pl _ _) (no_star hr _)) fun σ H Q => bi_key hc hu hg hf σ H Q
    exact ⟨h1, pt_val h1, rfl⟩

/-! ### slices -/
def rSW (X : Cx) : V → Option Int → Option Int → Hp → VK → Prop := fun x lo hi H Q => ∀ (pins : List (Addr × Obj)) (s : Shared) (σ : L2.St) (v vl vu : Value) (sl : Addr), Inv X pins σ H s → RelV x v → s.heap.IsSliceOf sl vl vu .none → IsPart vl lo → IsPart vu hi →
  ∃ T id, typeLookup (.type T) "__getitem__" = pure (some (.builtin id)) ∧ s.TypeIs v T ∧ wpAny (model X.prog X.w) X.A (getItem v (.ref sl)) (EP X pins σ Q) X.xe s
theorem rSW_ok : SlR X (rSW X) := fun pins s σ H x v vl vu lo hi sl Q I r hs pl pu h => h pins s σ v vl vu sl I r hs pl pu
theorem cutV_frs {K : PySem.W.Frag} {F : Hp} {vs : List V} {ds : List PyData} (h : FRs K F vs ds) (lo hi : Option Int) : FRs K F (cutV vs lo hi) (cutL ds lo hi) := by
  unfold cutV cutL
  rw [h.length]
  exact (h.drop _).take _
theorem cutL_whole {ds : List PyData} {lo hi : Option Int} (h1 : HT.sIx ds.length 0 lo = 0) (h2 : HT.sIx ds.length ds.length hi = ds.length) : cutL ds lo hi = ds := by
  unfold cutL
  rw [h1, h2]
  simp
theorem cut_ok {K : PySem.W.Frag} {ca : Nat → Addr} {F H : Hp} {x : V} {d : PyData} {lo hi : Option Int} {c : C} {Q : VK} (hK : K = X.K) (sm : Same F H) (r : PR K F H x d) (h : cutD d lo hi = some c) (q : NewQ K ca F H Q c) : rSW X x lo hi H Q := by
  subst hK
  intro pins s σ v vl vu sl I rx hs pl pu
  cases d <;> simp only [cutD] at h <;> first | (cases h; done) | skip
  · -- text
    split at h <;> first | (cases h; done) | skip
    rename_i z hz
    cases h
    cases r with
    | fr r =>
      cases r
      exact sl_str pins s σ H _ v vl vu lo hi sl Q I rx hs pl pu ⟨z, rfl, by rw [sizeLine_eq]; exact hz, q.id sm (.str _)⟩
  · -- list
    cases h
    obtain ⟨p, ys, rfl, h1, h2⟩ := r.items sm
    exact sl_list pins s σ H _ v vl vu lo hi sl Q I rx hs pl pu ⟨p, ys, rfl, h1, fun n hn => q.lst sm (cutV_frs h2 lo hi) hn⟩
  · -- tuple
    cases h
    rename_i ds
    obtain ⟨p, ys, rfl, h1, h2⟩ := r.itemsT sm
    refine sl_tupA pins s σ H _ v vl vu lo hi sl Q I rx hs pl pu ⟨p, ys, rfl, h1, fun hw => ?_, fun _ n hn => q.tup sm (cutV_frs h2 lo hi) hn⟩
    rw [h2.length] at hw
    rw [cutL_whole hw.1 hw.2] at q
    cases r with
    | fr r => exact q.id sm r

/-- a part of a slice -/
def tPo (O : Wo) (n : Nat) (K : PySem.W.Frag) (W : WX) : Option E → TO
  | none => tNoPart
  | some e => tPart (tE O n K W e)
def OutO (K : PySem.W.Frag) (ca : Nat → Addr) (W : WX) (F H : Hp) (f : List Addr) (σ : L2.St) (Q : Option Int → Hp → Prop) (pu : Bool) (r : Res (Option Int)) : Prop :=
  match r with
  | .ok l ρ' => ∀ (F' H' : Hp) (f' : List Addr), Step F H f F' H' f' → Wd F' H' f' → ER K ca F' H' σ ρ' f' → (pu = true → Same H H') → Q l H'
  | .exc x ρ' => ExV K ca W F H f σ x ρ'
  | .bad => False
theorem po_key {lo : Option E} {σ : L2.St} {H F : Hp} {f : List Addr} {ρ : Env} {Q : Option Int → Hp → Prop} (w : Wd F H f) (er : ER X.K O.ca F H σ ρ f) (out : OutO X.K O.ca W F H f σ Q (nco lo) (evO O.T (callF O.T n) lo ρ)) : tPo O n X.K W lo σ H Q := by
  cases lo with
  | none =>
    simp only [evO] at out
    exact out F H f Step.refl w er fun _ => Same.refl _
  | some e =>
    refine ⟨ρ, F, f, w, er, ?_⟩
    simp only [evO] at out
    cases e1 : evE O.T (callF O.T n) e ρ with
    | bad => rw [e1] at out; exact out
    | exc x1 ρ1 => rw [e1] at out; exact out
    | ok v ρ1 =>
      rw [e1] at out
      simp only [bind_ok] at out
      intro F1 H1 xv g f1 st1 w1 er1 r1 p1
      cases e2 : asInt ρ1 v with
      | none => rw [e2] at out; exact out.elim
      | some t =>
        rw [e2] at out
        have hv : v = .own (.d (.int t)) := by
          unfold asInt at e2
          split at e2 <;> cases e2
          rfl
        subst hv
        obtain ⟨rfl, rfl⟩ := vr_int r1
        exact ⟨t, rfl, out F1 H1 f1 st1 w1 er1 p1⟩
theorem po_ok {lo : Option E} {l : Option Expr} (h : match lo, l with | none, none => True | some a, some x => PE X x (tE O n X.K W a) | _, _ => False) : PO X l (tPo O n X.K W lo) := by
  cases lo <;> cases l <;> first | exact po_none | exact po_some h | exact h.elim
theorem slc_key {lo hi : Option E} (σ : L2.St) (H : Hp) (Q : VK) (q : tE O n X.K W (.slc a lo hi) σ H Q) : tSl (rSW X) (tE O n X.K W a) (tPo O n X.K W lo) (tPo O n X.K W hi) σ H Q := by
  obtain ⟨ρ, F, f0, w, er, out⟩ := q
  refine ⟨ρ, F, f0, w, er, ?_⟩
  simp only [evE] at out
  refine bind_out out fun v ρ1 _ out1 F1 H1 xv g f1 st1 w1 er1 r1 p1 => ?_
  have hs1 : ∀ a ∈ f1, a ∈ g ++ f1 := fun a m => List.mem_append_right _ m
  refine po_key (w1.sub (List.sublist_append_right _ _)) er1 ?_
  cases e2 : evO O.T (callF O.T n) lo ρ1 with
  | bad => rw [e2] at out1; exact out1
  | exc x2 ρ2 => rw [e2] at out1; exact ExV.step st1 hs1 out1
  | ok l ρ2 =>
    rw [e2] at out1
    simp only [bind_ok] at out1
    intro F2 H2 f2 st2 w2 er2 p2
    have st12 : Step F H f0 F2 H2 f2 := st1.trans (st2.wide hs1)
    refine po_key w2 er2 ?_
    cases e3 : evO O.T (callF O.T n) hi ρ2 with
    | bad => rw [e3] at out1; exact out1
    | exc x2 ρ3 => rw [e3] at out1; exact ExV.step st12 (fun a m => m) out1
    | ok h ρ3 =>
      rw [e3] at out1
      simp only [bind_ok] at out1
      intro F3 H3 f3 st3 w3 er3 p3
      split at out1
      · exact out1.elim
      · rename_i hp
        cases e4 : ((peek ρ3 v).bind fun x => (cutD x l h).map Val.own) with
        | none => rw [e4] at out1; exact out1.elim
        | some v4 =>
          rw [e4] at out1
          obtain ⟨d, h1, h2⟩ := Option.bind_eq_some_iff.mp e4
          obtain ⟨cc, h3, rfl⟩ := Option.map_eq_some_iff.mp h2
          have hpath : hasPath v = true → Same H1 H3 := fun e => by
            have : (nco lo && nco hi) = true := by
              cases hn : (nco lo && nco hi) with
              | true => rfl
              | false => rw [e, hn] at hp; exact absurd rfl hp
            rw [Bool.and_eq_true] at this
            exact (p2 this.1).trans (p3 this.2)
          refine cut_ok rfl w3.same (VR.peek er3 (VR.stay (st2.trans st3) w1 r1 hpath) h1) h3 (OkV.new out1 (st12.trans st3) (fun a m => m) w3 er3 fun e => ?_)
          simp only [nc, Bool.and_eq_true] at e
          exact ((p1 e.1.1).trans (p2 e.1.2)).trans (p3 e.2)
theorem s_slc {lo hi : Option E} {l h : Option Expr} {p p2 : Pos} (ha : EOk O n X W x a) (hl : match lo, l with | none, none => True | some a, some x => PE X x (tE O n X.K W a) | _, _ => False)
    (hh : match hi, h with | none, none => True | some a, some x => PE X x (tE O n X.K W a) | _, _ => False) : EOk O n X W (.Subscript x (.Slice l h none p2) p) (.slc a lo hi) := by
  have h1 : PE X (.Subscript x (.Slice l h none p2) p) (tE O n X.K W (.slc a lo hi)) := PE.imp (pe_slice rSW_ok ha.pe (po_ok hl) (po_ok hh)) fun σ H Q => slc_key σ H Q
  exact ⟨h1, pt_val h1, rfl⟩

/-! ### subscripts -/
def rXW (X : Cx) : R2 := fun x y H Q => ∀ (value slice : Expr) (pins : List (Addr × Obj)) (s : Shared) (σ : L2.St) (v u : Value), Inv X pins σ H s → RelV x v → RelV y u → subscripted slice false v u = operate [v, u] (getItem v u) →
  wpAny (model X.prog X.w) X.A (subscriptTail value slice v u) (EP X pins σ Q) X.xe s
theorem rXW_ok : IxR X (rXW X) := fun value slice pins s σ H x y v u Q I rx ry h hs => h value slice pins s σ v u I rx ry hs
theorem atI_of {α : Type} {xs : List α} {m : Nat} {k : Int} {j : Nat} {v : α} (h : seqI m k = some j) (hl : xs.length = m) (hv : xs[j]? = some v) : L2.atI xs k = some v := by
  have : L2.ixN xs.length k = some j := by
    rw [hl]
    exact h
  unfold L2.atI
  rw [this]
  exact hv
theorem sub_ok {F H : Hp} {x : V} {d y : PyData} {k : Int} {Q : VK} (sm : Same F H) (r : PR X.K F H x d) (h : subD d (.int k) = some y) (q : ∀ w, FR X.K F w y → Q w H) : rXW X x (.int k) H Q := by
  intro value slice pins s σ v u I rx ry hs
  cases d <;> simp only [subD] at h <;> first | (cases h; done) | skip
  · split at h <;> first | (cases h; done) | skip
    rename_i z hz
    obtain ⟨j, h1, h2⟩ := Option.bind_eq_some_iff.mp h
    obtain ⟨c, h3, rfl⟩ := Option.map_eq_some_iff.mp h2
    unfold strAt at h3
    obtain ⟨m, h4, rfl⟩ := Option.map_eq_some_iff.mp h3
    cases r with
    | fr r =>
      cases r
      exact ix_str value slice pins s σ H _ _ v u Q I rx ry ⟨z, k, m, rfl, rfl, by rw [sizeLine_eq]; exact hz, atI_of h1 (by simp [Str.length]) h4, q _ (.str _)⟩ hs
  · obtain ⟨j, h1, h2⟩ := Option.bind_eq_some_iff.mp h
    obtain ⟨p, ys, rfl, h3, h4⟩ := r.items sm
    obtain ⟨w, h5, h6⟩ := h4.get h2
    exact ix_list value slice pins s σ H _ _ v u Q I rx ry ⟨p, ys, k, w, rfl, rfl, h3, atI_of h1 h4.length h5, q _ h6⟩ hs
  · obtain ⟨j, h1, h2⟩ := Option.bind_eq_some_iff.mp h
    obtain ⟨p, ys, rfl, h3, h4⟩ := r.itemsT sm
    obtain ⟨w, h5, h6⟩ := h4.get h2
    exact ix_tup value slice pins s σ H _ _ v u Q I rx ry ⟨p, ys, k, w, rfl, rfl, h3, atI_of h1 h4.length h5, q _ h6⟩ hs
theorem CRs.get {K : PySem.W.Frag} {ca : Nat → Addr} {F H : Hp} : ∀ {cs : List C} {vs : List V} {f : List Addr} {k : Nat} {y : C}, CRs K ca F H vs cs f → cs[k]? = some y → ∃ w g, vs[k]? = some w ∧ CR K ca F H w y g
  | [], _, _, _, _, _, e => by simp at e
  | c :: cs, _, _, 0, _, h, e => by
    cases h with
    | cons a r =>
      simp only [List.getElem?_cons_zero, Option.some.injEq] at e
      subst e
      exact ⟨_, _, rfl, a⟩
  | c :: cs, _, _, k + 1, _, h, e => by
    cases h with
    | cons a r =>
      obtain ⟨w, g, h1, h2⟩ := CRs.get (k := k) r (by simpa using e)
      exact ⟨w, g, by simpa using h1, h2⟩
theorem CRk.get {K : PySem.W.Frag} {ca : Nat → Addr} {F H : Hp} : ∀ {cs : List (Ky × C)} {vs : List (L2.Key × V)} {f : List Addr} {k : Ky} {y : C}, CRk K ca F H vs cs f → getA cs k = some y → ∃ w g, L2.valV vs k = some w ∧ CR K ca F H w y g
  | [], _, _, _, _, _, e => by simp [getA] at e
  | (j, c) :: cs, _, _, k, _, h, e => by
    cases h with
    | @cons j v vs c cs f g a r =>
      by_cases hj : j = k
      · subst hj
        simp only [getA, if_true, Option.some.injEq] at e
        subst e
        exact ⟨_, _, L2.valV_pos rfl, a⟩
      · simp only [getA, if_neg hj] at e
        obtain ⟨w, g, h1, h2⟩ := CRk.get r e
        exact ⟨w, g, by rw [L2.valV_neg hj]; exact h1, h2⟩
theorem ixd_ok {H : Hp} {p : Addr} {kvs : List (L2.Key × V)} {k : L2.Key} {w : V} {Q : VK} (hu : X.A.units + 70 < cLine) (hH : H p = some (.dK kvs)) (hv : L2.valV kvs k = some w) (q : Q w H) : rXW X (.ref p) (L2.kV k) H Q := by
  intro value slice pins s σ v u I rx ry hs
  cases rx
  have g : L2.DGet H p (L2.kV k) (some w) := by rw [← hv]; exact L2.DGet.k hH
  exact tail_any (L2.dict_typeIs I g) PySem.F.slot_dict_getitem.lookup (L2.d_getItem (by omega) I g ry fun w' s' I' r' => ⟨w, H, I', r', q⟩) hs
/-- an owned thing's item -/
theorem subo_ok {ca : Nat → Addr} {F H : Hp} {f0 g : List Addr} {x yv : V} {c y : C} {k : PyData} {s : Sel} {Q : VK} (hu : X.A.units + 70 < cLine) (r : CR X.K ca F H x c g) (ry : FR X.K F yv k) (h : selOf c k = some s) (hy : c.get s = some y)
    (q : ∀ w g', CR X.K ca F H w y g' → PathV H x [s] w → Q w H) : rXW X x yv H Q := by
  cases c with
  | lst cs =>
    cases k <;> simp only [selOf] at h <;> first | (cases h; done) | skip
    obtain ⟨j, h1, rfl⟩ := Option.map_eq_some_iff.mp h
    cases ry
    cases r with
    | lst hH hr =>
      obtain ⟨w, g', h2, h3⟩ := CRs.get hr hy
      intro value slice pins s σ v u I rx ry hs
      exact ix_list value slice pins s σ H _ _ v u Q I rx ry ⟨_, _, _, w, rfl, rfl, .inl (.inl hH), atI_of h1 (CRs.length hr) h2, q w g' h3 (.idx hH h2 .nil)⟩ hs
  | dct cs =>
    cases r with
    | dct hH hr =>
      cases k <;> simp only [selOf, Option.some.injEq] at h <;> first | (cases h; done) | skip
      · subst h
        cases ry
        obtain ⟨w, g', h2, h3⟩ := CRk.get hr hy
        exact ixd_ok (k := .inl _) hu hH h2 (q w g' h3 (.key hH h2 .nil))
      · subst h
        cases ry
        obtain ⟨w, g', h2, h3⟩ := CRk.get hr hy
        exact ixd_ok (k := .inr _) hu hH h2 (q w g' h3 (.key hH h2 .nil))
  | _ => cases h
theorem sub_key (hu : X.A.units + 70 < cLine) (σ : L2.St) (H : Hp) (Q : VK) (q : tE O n X.K W (.sub a b) σ H Q) : tOp (rXW X) (tE O n X.K W a) (tE O n X.K W b) σ H Q := by
  obtain ⟨ρ, F, f, w, er, out⟩ := q
  refine ⟨ρ, F, f, w, er, ?_⟩
  simp only [evE] at out
  refine bind_out out fun v ρ1 e1 out1 F1 H1 xv g f1 st1 w1 er1 r1 p1 => ?_
  refine ⟨ρ1, F1, f1, w1.sub (List.sublist_append_right _ _), er1, ?_⟩
  have hs1 : ∀ a ∈ f1, a ∈ g ++ f1 := fun a m => List.mem_append_right _ m
  cases e2 : evE O.T (callF O.T n) b ρ1 with
  | bad => rw [e2] at out1; exact out1
  | exc x2 ρ2 => rw [e2] at out1; exact ExV.step st1 hs1 out1
  | ok u ρ2 =>
    rw [e2] at out1
    intro F2 H2 yv g2 f2 st2 w2 er2 r2 p2
    simp only [bind_ok] at out1
    split at out1
    · exact out1.elim
    · rename_i hp
      split at out1
      · rename_i k
        have hk : FR X.K F2 yv k ∧ g2 = [] := by cases r2 with | d h => exact ⟨h, rfl⟩
        obtain ⟨hk, rfl⟩ := hk
        have hpath : hasPath v = true → Same H1 H2 := fun e => p2 (by
          cases hn : nc b with
          | true => rfl
          | false => simp [e, hn] at hp)
        have rx2 := VR.stay st2 w1 r1 hpath
        have w2' : Wd F2 H2 f2 := w2
        have st : Step F H f F2 H2 f2 := st1.trans (st2.wide hs1)
        have pure' : nc (.sub a b) = true → Same H H2 := fun e => by
          simp only [nc, Bool.and_eq_true] at e
          exact (p1 e.1).trans (p2 e.2)
        split at out1
        · rename_i c
          cases e3 : (c.flat.bind fun x => (subD x k).map fun y => Val.own (.d y)) with
          | none => rw [e3] at out1; exact out1.elim
          | some v3 =>
            rw [e3] at out1
            obtain ⟨dx, h1, h2⟩ := Option.bind_eq_some_iff.mp e3
            obtain ⟨y, h3, rfl⟩ := Option.map_eq_some_iff.mp h2
            have hint : ∃ i, k = .int i := by
              cases dx <;> cases k <;> simp only [subD] at h3 <;> first | exact ⟨_, rfl⟩ | cases h3
            obtain ⟨i, rfl⟩ := hint
            cases hk
            exact sub_ok w2'.same (CR.flat rx2 h1) h3 fun w3 hw => OkV.sc out1 st (fun a m => m) w2' er2 hw pure'
        · rename_i j p
          split at out1
          · exact out1.elim
          · rename_i c hc
            split at out1
            · exact out1.elim
            · rename_i s hs
              obtain ⟨l, g3, r3, _, cr, _⟩ := er2.at hc (by have := r1.bor_nil; subst this; exact rx2)
              have bor : ∀ w3, PathV H2 xv [s] w3 → OkV X.K O.ca F H f σ Q (nc (.sub a b)) (.bor j (p ++ [s])) ρ2 → Q w3 H2 := fun w3 pv hq => by
                refine hq F2 H2 w3 [] f2 st w2' er2 ?_ pure'
                have := r1.bor_nil
                subst this
                obtain ⟨_, w0, hw0, hp0⟩ := rx2
                exact ⟨rfl, w0, hw0, hp0.snoc pv⟩
              split at out1
              · rename_i y hy
                exact subo_ok (f0 := f2) hu cr hk hs hy fun w3 g' hw _ => by cases hw with | d hw => exact OkV.sc out1 st (fun a m => m) w2' er2 hw pure'
              · rename_i y _ hy
                exact subo_ok (f0 := f2) hu cr hk hs hy fun w3 g' hw pv => bor w3 pv out1
              · exact out1.elim
      · exact out1.elim
theorem plainIx_of (h : plainB y = true) : PlainIx y := by
  intro o i
  cases y <;> first | rfl | (simp [plainB] at h; done)
theorem s_sub {p : Pos} (hu : X.A.units + 70 < cLine) (ha : EOk O n X W x a) (hb : EOk O n X W y b) : EOk O n X W (.Subscript x y p) (.sub a b) := by
  have h1 : PE X (.Subscript x y p) (tE O n X.K W (.sub a b)) := PE.imp (pe_ix rXW_ok ha.pe hb.pe (plainIx_of hb.pl)) fun σ H Q => sub_key hu σ H Q
  exact ⟨h1, pt_val h1, rfl⟩
end
end Z
set_option linter.all false
set_option Elab.async false
set_option maxRecDepth 100000
/-! Z14: methods. -/
namespace Z
section
open PySem PySem.AutoSeq1
theorem extW (l : Addr) (xs : Array Value) (n : Nat) (b : Addr) (ys : Array Value) (m : Nat) (sl : Array (Option Value)) (c0 : ¬(!xs.isEmpty && Builtin.List.listTooLong (xs.size + ys.size)) = true) (c1 : xs.size ≤ sizeLine) (c2 : xs.size + ys.size ≤ sizeLine + 1) :
    Meets (Builtin.«list.extend» ⟨[.ref l, .ref b], []⟩) (fun _ R s => s.heap.get? l = some { cls := .type "list", data := .seq xs n } ∧
      s.heap.get? b = some { cls := .type "list", data := .seq ys m, slots := sl } ∧ R (.ok (.ret Value.none)) { s with heap := s.heap.update l (Obj.mapSeq fun x => x ++ ys), toks := s.toks }) :=
  .of_wp fun P w A R s h => by
    obtain ⟨hp, g, d, tk, os⟩ := s
    obtain ⟨hl, hb, h⟩ := h
    have f1 := idx_int
    have f2 := sub_tuple_tuple
    have f3 := sub_list_list
    have f4 := sub_tuple_list
    have f5 := sub_list_tuple
    have z2 : (xs ++ ys).size ≤ sizeLine + 1 := by rw [Array.size_append]; exact c2
    wp_walk using (wpAny_updateSeq hl rfl (hz := c1) (_hz' := z2)), wpAny_loadPart' hl, wpAny_loadPart' hb
    exact ⟨_, rfl, h⟩
end
open PySem L2
section
variable {O : Wo} {n : Nat} {X : Cx} {W : WX} {e x y z : Expr} {a b c : E} {xs : List Expr} {as : List E}
/-- a method by values: the wish itself -/
def rM (X : Cx) (id : String) : V → List V → Hp → VK → Prop := fun x xs H Q => ∀ (pins : List (Addr × Obj)) (s : Shared) (σ : L2.St) (v : Value) (us : List Value), Inv X pins σ H s → RelV x v → Vals xs us →
  wpAny (model X.prog X.w) X.A (call (.builtin id) (v :: us)) (EP X pins σ Q) X.xe s
/-- what is found by name on a kind -/
def mkT : Nat → String
  | 0 => "str"
  | 1 => "list"
  | 2 => "tuple"
  | _ => "dict"
def mId : Mt → Nat → String
  | .append, 1 => "list.append"
  | .extend, 1 => "list.extend"
  | .pop, 1 => "list.pop"
  | .index, 1 => "list.index"
  | .join, 0 => "str.join"
  | _, _ => ""
theorem mOk_at {m : Mt} {k : Nat} (h : mOk m k = true) : PlainAttrs (mkT k) ∧ Slot (mkT k) (mtN m) (mId m k) ∧ typeOf (.builtin (mId m k)) = pure (.type "method_descriptor") := by
  unfold mOk at h
  split at h
  · exact ⟨PySem.F.plainAttrs_list, PySem.F.slot_list_append, PySem.F.type_list_append⟩
  · exact ⟨PySem.F.plainAttrs_list, PySem.F.slot_list_extend, PySem.F.type_list_extend⟩
  · exact ⟨PySem.F.plainAttrs_list, PySem.F.slot_list_pop, PySem.F.type_list_pop⟩
  · exact ⟨PySem.F.plainAttrs_list, PySem.F.slot_list_index, PySem.F.type_list_index⟩
  · exact ⟨PySem.F.plainAttrs_str, PySem.F.slot_str_join, PySem.F.type_str_join⟩
  · cases h
def tMt (X : Cx) (m : Mt) (to : TE) (t : TA) : TE := fun σ H Q => to σ H fun x H1 => ∃ k, mOk m k = true ∧ tyV X.K (mkT k) x H1 ∧ t σ H1 fun xs H2 => rM X (mId m k) x xs H2 Q
theorem pe_mt {m : Mt} {apos cpos : Pos} {to : TE} (hp : plainB x = true) (ho : PE X x to) (hl : ELs O n X W xs as) (hlen : xs.length < 20) (hline : (apos.endLine == cpos.line) = true) :
    PE X (.Call (.Attribute x (mtN m) apos) xs [] cpos) (tMt X m to (tPs O n X.K W as)) := by
  refine ⟨fun pins s σ H Q I h => ?_⟩
  have hfew : ((backTo cpos (starEach xs X.env)).all (fun x => !x.1) && (backToKw cpos (keywordEach [] X.env)).all (fun x => x.1.isSome)
      && decide (xs.length + ([] : List Keyword).length + (if ([] : List Keyword).isEmpty then 0 else 1) < 30)) = true := by
    rw [no_star' hl cpos, Bool.true_and]
    have : xs.length + ([] : List Keyword).length + (if ([] : List Keyword).isEmpty then 0 else 1) < 30 := by
      simp only [List.length_nil, List.isEmpty_nil, if_true]
      omega
    rw [decide_eq_true this]
    rfl
  refine wpAny_Call_method_late (base_plain hp _ _) hfew hline rfl (thn (ho.run pins s σ H _ I h) fun v s1 ⟨xv, H1, I1, r1, k, hk, ty, q1⟩ => ?_)
  obtain ⟨h1, h2⟩ := tyV_is I1 r1 ty
  obtain ⟨m1, m2, m3⟩ := mOk_at hk
  refine ⟨mkT k, mId m k, m1, m2, m3, h1, h2, ?_⟩
  have hA := hl.ps.run cpos pins s1 σ H1 _ I1 q1
  cases hl with
  | nil =>
    obtain ⟨ρ, F, f, w, er, out⟩ := q1
    have q2 := out F H1 [] [] f Step.refl w er .nil (fun _ => Same.refl _)
    exact Calls.callWith_builtin rfl (PySem.evalArgs_none (q2 pins s1 σ v [] I1 r1 .nil))
  | @cons x0 a0 xs0 as0 h0 hr =>
    rw [star_plain h0.pl] at hA ⊢
    refine Calls.callWith_builtin (by show (false || (backTo cpos (starEach xs0 X.env)).any (·.1)) = false; rw [no_star hr]; rfl) (Calls.evalArgs_plain ?_)
    exact thn hA fun us s2 ⟨vs, H2, I2, r2, q2⟩ => q2 pins s2 σ v us I2 r1 r2

/-! ### what they do -/
theorem sizeL : sizeLine = 16777216 := sizeLine_eq
/-- a list's own place, changed -/
theorem place_lst {ca : Nat → Addr} {F H : Hp} {f g l r : List Addr} {σ : L2.St} {ρ ρ' : Env} {p : Addr} {vs : List V} {cs : List C} {gl : List Addr} (w : Wd F H (g ++ (l ++ (p :: gl) ++ r))) : True := trivial
/-- a step that changes one owned object -/
theorem step_upd {F H : Hp} {f : List Addr} {p : Addr} {o o' : HO} (hp : p ∈ f) (h : H p = some o) : Step F H f F (upd H p o') f where
  fr := Same.refl _
  keep := fun a x e n => by
    have : a ≠ p := fun q => n (by rw [q]; exact hp)
    rw [upd_ne this]; exact e
  there := fun a e => by
    by_cases q : a = p
    · subst q; rw [upd_same]; exact fun z => nomatch z
    · rw [upd_ne q]; exact e
  nf := fun a m => .inl m
  nF := fun a e => .inl e
theorem wd_upd {F H : Hp} {f : List Addr} {p : Addr} {o o' : HO} (w : Wd F H f) (hp : p ∈ f) (h : H p = some o) : Wd F (upd H p o') f where
  same := fun a x e => by
    have : a ≠ p := fun q => by subst q; rw [w.ap a hp] at e; cases e
    rw [upd_ne this]
    exact w.same a x e
  nd := w.nd
  ap := w.ap
theorem crs_append {K : PySem.W.Frag} {ca : Nat → Addr} {F H : Hp} : ∀ {cs ds : List C} {vs us : List V} {f g : List Addr}, CRs K ca F H vs cs f → CRs K ca F H us ds g → CRs K ca F H (vs ++ us) (cs ++ ds) (f ++ g)
  | [], _, _, _, _, _, h, q => by cases h; exact q
  | c :: cs, _, _, _, _, _, h, q => by
    cases h with
    | cons a r =>
      have := CRs.cons a (crs_append r q)
      simpa [List.append_assoc] using this
theorem crs_split {K : PySem.W.Frag} {ca : Nat → Addr} {F H : Hp} : ∀ {cs : List C} {vs : List V} {f : List Addr} {y : C}, CRs K ca F H vs cs f → cs.getLast? = some y → ∃ v g h, vs[vs.length - 1]? = some v ∧ f = g ++ h ∧ CRs K ca F H vs.dropLast cs.dropLast g ∧ CR K ca F H v y h
  | [], _, _, _, _, e => by simp at e
  | [c], _, _, y, h, e => by
    cases h with
    | cons a r =>
      cases r
      simp only [List.getLast?_singleton, Option.some.injEq] at e
      subst e
      exact ⟨_, [], _, rfl, by simp, .nil, a⟩
  | c :: d :: cs, _, _, y, h, e => by
    cases h with
    | @cons v vs _ _ f g a r =>
      have e' : (d :: cs).getLast? = some y := by simpa [List.getLast?_cons_cons] using e
      obtain ⟨w, g1, h1, q1, q2, q3, q4⟩ := crs_split r e'
      have hl := CRs.length r
      have hne : vs ≠ [] := fun z => by subst z; simp at hl
      refine ⟨w, f ++ g1, h1, ?_, by rw [q2, List.append_assoc], ?_, q4⟩
      · cases vs with
        | nil => exact absurd rfl hne
        | cons v1 vs1 => simpa using q1
      · cases vs with
        | nil => exact absurd rfl hne
        | cons v1 vs1 => exact .cons a q3
theorem crs_erase {K : PySem.W.Frag} {ca : Nat → Addr} {F H : Hp} : ∀ {cs : List C} {vs : List V} {f : List Addr} {k : Nat} {y : C}, CRs K ca F H vs cs f → cs[k]? = some y → ∃ v f1 g, vs[k]? = some v ∧ CR K ca F H v y g ∧ CRs K ca F H (vs.eraseIdx k) (cs.eraseIdx k) f1 ∧ (g ++ f1).Perm f
  | [], _, _, _, _, _, e => by simp at e
  | c :: cs, _, _, 0, _, h, e => by
    cases h with
    | cons a r =>
      simp only [List.getElem?_cons_zero, Option.some.injEq] at e
      subst e
      exact ⟨_, _, _, rfl, a, r, .refl _⟩
  | c :: cs, _, _, k + 1, _, h, e => by
    cases h with
    | @cons v vs _ _ f g a r =>
      obtain ⟨w, f1, g1, h1, h2, h3, h4⟩ := crs_erase (k := k) r (by simpa using e)
      refine ⟨w, f ++ f1, g1, by simpa using h1, h2, .cons a h3, ?_⟩
      have e1 : (g1 ++ (f ++ f1)).Perm (f ++ (g1 ++ f1)) := by
        rw [← List.append_assoc, ← List.append_assoc]
        exact List.perm_append_comm.append_right f1
      exact e1.trans (h4.append_left f)
theorem mt_extZ : MtM X "list.extend" (fun x vs H Q => ∃ l b xs zs, x = .ref l ∧ vs = [.ref b] ∧ H l = some (.lst xs) ∧ SqL X.K H b zs ∧ xs.length + zs.length ≤ sizeLine ∧ Q .non (upd H l (.lst (xs ++ zs)))) := by
  intro pins s σ H x vs v us Q I rx rv h
  obtain ⟨l, b, xs, zs, rfl, rfl, hH, hB, hz, q⟩ := h
  cases rx
  obtain ⟨u, rfl, ru⟩ := rv.one
  cases ru
  obtain ⟨z, its, n, r, hl, e⟩ := I.lstM hH
  obtain ⟨its2, r2, ⟨⟨cls2, dd2, data2, sl2⟩, n2, ho2, hc2, hdd2, hd2⟩, _⟩ := I.list hB
  have hl2 := r2.length
  simp only at hc2 hdd2 hd2
  subst hc2 hdd2 hd2
  have hsz : its.toArray.size + its2.toArray.size ≤ sizeLine := by rw [List.size_toArray, List.size_toArray]; omega
  have hlong : ¬ (!its.toArray.isEmpty && Builtin.List.listTooLong (its.toArray.size + its2.toArray.size)) = true := by
    rw [notLongL hsz, Bool.and_false]
    exact Bool.false_ne_true
  refine call_meets PySem.F.slot_list_extend ⟨_, e, rfl⟩ PySem.F.entry_list_extend (PySem.F.args_list_extend_2 _ _) (extW l its.toArray n b its2.toArray n2 sl2 hlong (by rw [List.size_toArray]; omega) (by omega)) ⟨e, ho2, ?_⟩
  refine ⟨.non, _, I.lset (its' := its ++ its2) hH e (by simp) (r.append r2) ?_, rfl, q⟩
  rw [List.length_append]
  omega
theorem idxD_at {K : PySem.W.Frag} {F : Hp} {x : V} {d : PyData} (hx : FR K F x d) (c : scalar d = true) : ∀ {ds : List PyData} {xs : List V} {j : Nat}, FRs K F xs ds → ds.all scalar = true → idxD d ds = some j →
    ∃ z, xs[j]? = some z ∧ L2.eqV z x = true ∧ ∀ i w, i < j → xs[i]? = some w → L2.eqV w x = false
  | [], _, _, _, _, e => by cases e
  | e :: ds, _, j, h, q, hj => by
    rw [List.all_cons, Bool.and_eq_true] at q
    cases h with
    | @cons v vs _ _ a r =>
      simp only [idxD] at hj
      have he := eqV_eqv a hx q.1 c
      split at hj
      · rename_i h1
        cases hj
        exact ⟨v, rfl, by rw [he]; exact h1, fun i w hi => by omega⟩
      · rename_i h1
        obtain ⟨m, hm, rfl⟩ := Option.map_eq_some_iff.mp hj
        obtain ⟨z, z1, z2, z3⟩ := idxD_at hx c r q.2 hm
        refine ⟨z, by simpa using z1, z2, fun i w hi hw => ?_⟩
        cases i with
        | zero =>
          simp only [List.getElem?_cons_zero, Option.some.injEq] at hw
          subst hw
          rw [he]
          simpa using h1
        | succ i => exact z3 i w (by omega) (by simpa using hw)
theorem mtS_ok {ca : Nat → Addr} {F H : Hp} {m : Mt} {k : Nat} {xv : V} {d : PyData} {vs : List V} {ds : List PyData} {c : C} {Q : VK} (sm : Same F H) (hk : kdC (.d d) = some k) (r : PR X.K F H xv d) (rs : FRs X.K F vs ds) (h : mtS m d ds = some c) (q : NewQ X.K ca F H Q c) :
    rM X (mId m k) xv vs H Q := by
  intro pins s σ v us I rx rv
  unfold mtS at h
  split at h <;> first | (cases h; done) | skip
  rename_i sup
  have one : ∀ {e : PyData}, ds = [e] → ∃ y, vs = [y] ∧ FR X.K F y e := fun e => by
    subst e
    cases rs with | cons a t => cases t; exact ⟨_, rfl, a⟩
  unfold mtSupD at sup
  split at sup <;> first | contradiction | skip
  · -- join
    rename_i z y
    cases hk
    obtain ⟨yv, rfl, fy⟩ := one rfl
    cases r with
    | fr r =>
      cases r
      have key : ∀ {xs : List PyData} {p : Addr} {ws : List V}, yv = .ref p → (SqL X.K H p ws ∨ SqT X.K H p ws) → FRs X.K F ws xs → ((strsD xs).bind fun ys => if joinOk z ys then some (C.d (.str (joinD z ys))) else none) = some c →
          wpAny (model X.prog X.w) X.A (call (.builtin "str.join") (v :: us)) (EP X pins σ Q) X.xe s := fun {xs p ws} e sq fr h => by
        subst e
        obtain ⟨ys, h1, h2⟩ := Option.bind_eq_some_iff.mp h
        split at h2 <;> first | (cases h2; done) | skip
        rename_i hz
        cases h2
        refine mt_join pins s σ H _ _ v us Q I rx rv ⟨z, p, ys, rfl, rfl, by rw [← fr.strs h1]; exact sq, by simpa [joinOk] using hz, q.id sm (.str _)⟩
      cases y <;> simp only [mtSem] at h <;> first | (cases h; done) | skip
      · obtain ⟨p, ws, e, sq, fr⟩ := (PR.fr (H := H) fy).items sm
        exact key e (.inl sq) fr h
      · obtain ⟨p, ws, e, sq, fr⟩ := (PR.fr (H := H) fy).itemsT sm
        exact key e (.inr sq) fr h
  · -- index
    rename_i xs y
    cases hk
    obtain ⟨yv, rfl, fy⟩ := one rfl
    rw [Bool.and_eq_true] at sup
    simp only [mtSem] at h
    split at h <;> first | (cases h; done) | skip
    cases h1 : idxD y xs with
    | none => rw [h1] at h; cases h
    | some j =>
    rw [h1] at h
    cases h
    obtain ⟨p, ws, rfl, sq, fr⟩ := r.items sm
    obtain ⟨z, z1, z2, z3⟩ := idxD_at fy sup.1 fr sup.2 h1
    exact mt_index pins s σ H _ _ v us Q I rx rv ⟨p, ws, yv, j, z, rfl, rfl, sq, fy.flatV sup.1, fr.flatV sup.2, z1, z2, z3, q.id sm (.int _)⟩
/-- a change in place -/
theorem mtO_ok {ca : Nat → Addr} {F H : Hp} {m : Mt} {xv : V} {c c' r : C} {cs : List C} {vs : List V} {gc ga : List Addr} {Q : VK} (w : Wd F H (gc ++ ga)) (cr : CR X.K ca F H xv c gc) (rs : CRs X.K ca F H vs cs ga) (h : mtOwnS m c cs = some (r, c'))
    (q : ∀ (p : Addr) (o o' : HO) (y : V) (gr gc' : List Addr), p ∈ gc → H p = some o → (∀ a ∈ gr ++ gc', a ∈ gc ++ ga) → (gr ++ gc').Nodup → CR X.K ca F (upd H p o') y r gr → CR X.K ca F (upd H p o') xv c' gc' → Q y (upd H p o')) : rM X (mId m 1) xv vs H Q := by
  intro pins s σ v us I rx rv
  unfold mtOwnS at h
  split at h <;> first | (cases h; done) | skip
  rename_i sup
  cases m <;> simp only [mtSupO] at sup <;> first | contradiction | skip
  · -- append
    simp only [mtOwn] at h
    split at h <;> first | contradiction | skip
    rename_i cs0 c0 _ _
    split at h <;> first | contradiction | skip
    rename_i hz
    cases h
    cases rs with
    | cons ra rn =>
      cases rn
      cases cr with
      | @lst p xs _ gl hH hr =>
        rename_i yv gy
        have nd := List.nodup_append.mp w.nd
        have nc := List.nodup_cons.mp nd.1
        have kl : ∀ a ∈ gl, (upd H p (.lst (xs ++ [yv]))) a = H a := fun a m => upd_ne fun e => nc.1 (e ▸ m)
        have ky : ∀ a ∈ gy, (upd H p (.lst (xs ++ [yv]))) a = H a := fun a m => upd_ne fun e => nd.2.2 p List.mem_cons_self a (by simp [m]) e.symm
        have key := q p _ (.lst (xs ++ [yv])) .non [] (p :: (gl ++ (gy ++ []))) List.mem_cons_self hH (fun a m => by simpa using m) (by simpa using w.nd) (.d .non)
          (.lst upd_same (crs_append (CRs.mv (Same.refl _) _ hr kl) (.cons (CR.mv (Same.refl _) _ ra ky) .nil)))
        exact mt_append pins s σ H _ _ v us Q I rx rv ⟨p, xs, yv, rfl, rfl, hH, by rw [CRs.length hr, sizeLine_eq]; exact hz, key⟩
  · -- extend
    simp only [mtOwn] at h
    split at h <;> first | contradiction | skip
    rename_i cs0 ds _ _
    split at h <;> first | contradiction | skip
    rename_i hz
    cases h
    cases rs with
    | cons ra rn =>
      cases rn
      cases ra with
      | d fr =>
        cases cr with
        | @lst p xs _ gl hH hr =>
          obtain ⟨b, zs, rfl, sq, fz⟩ := (PR.fr (H := H) fr).items w.same
          have nd := List.nodup_append.mp w.nd
          have nc := List.nodup_cons.mp nd.1
          have kl : ∀ a ∈ gl, (upd H p (.lst (xs ++ zs))) a = H a := fun a m => upd_ne fun e => nc.1 (e ▸ m)
          have key := q p _ (.lst (xs ++ zs)) .non [] (p :: (gl ++ [])) List.mem_cons_self hH (fun a m => by simpa using m) (by simpa using nd.1) (.d .non)
            (.lst upd_same (crs_append (CRs.mv (Same.refl _) _ hr kl) (crs_d fz)))
          exact mt_extZ pins s σ H _ _ v us Q I rx rv ⟨p, b, xs, zs, rfl, rfl, hH, sq, by rw [CRs.length hr, fz.length, sizeLine_eq]; exact hz, key⟩
  · -- pop
    simp only [mtOwn] at h
    split at h <;> first | contradiction | skip
    · rename_i cs0 _ _
      obtain ⟨y, hy, e⟩ := Option.map_eq_some_iff.mp h
      cases e
      cases rs
      cases cr with
      | @lst p xs _ gl hH hr =>
        obtain ⟨yv, g1, h1, z1, rfl, z3, z4⟩ := crs_split hr hy
        have nd := List.nodup_append.mp w.nd
        have nc := List.nodup_cons.mp nd.1
        have kl : ∀ a ∈ g1 ++ h1, (upd H p (.lst xs.dropLast)) a = H a := fun a m => upd_ne fun e => nc.1 (e ▸ m)
        have key := q p _ (.lst xs.dropLast) yv h1 (p :: g1) List.mem_cons_self hH (fun a m => by
            simp only [List.mem_append, List.mem_cons, List.not_mem_nil, or_false] at m ⊢
            rcases m with m | m | m <;> simp [m]) (by
            have : (h1 ++ p :: g1).Perm (p :: (g1 ++ h1)) := List.perm_append_comm.trans (by rw [List.cons_append])
            exact this.nodup_iff.mpr nd.1)
          (CR.mv (Same.refl _) _ z4 fun a m => kl a (List.mem_append_right _ m)) (.lst upd_same (CRs.mv (Same.refl _) _ z3 fun a m => kl a (List.mem_append_left _ m)))
        exact mt_pop pins s σ H _ _ v us Q I rx rv ⟨p, xs, yv, rfl, rfl, hH, z1, key⟩
    · rename_i i _
      obtain ⟨j, hj, h⟩ := Option.bind_eq_some_iff.mp h
      obtain ⟨y, hy, e⟩ := Option.map_eq_some_iff.mp h
      cases e
      cases rs with
      | cons ra rn =>
        cases rn
        cases ra with
        | d fr =>
          cases fr
          cases cr with
          | @lst p xs _ gl hH hr =>
            obtain ⟨yv, g1, h1, z1, z2, z3, z4⟩ := crs_erase hr hy
            have nd := List.nodup_append.mp w.nd
            have nc := List.nodup_cons.mp nd.1
            have kl : ∀ a ∈ h1 ++ g1, (upd H p (.lst (xs.eraseIdx j))) a = H a := fun a m => upd_ne fun e => nc.1 (z4.mem_iff.mp (e ▸ m))
            have key := q p _ (.lst (xs.eraseIdx j)) yv h1 (p :: g1) List.mem_cons_self hH (fun a m => by
                have : a ∈ p :: (h1 ++ g1) := by
                  simp only [List.mem_append, List.mem_cons] at m ⊢
                  rcases m with m | m | m <;> simp [m]
                rcases List.mem_cons.mp this with e | m
                · rw [e]; simp
                · have := z4.mem_iff.mp m
                  simp [this]) (by
                have : (h1 ++ p :: g1).Perm (p :: gl) := List.perm_middle.trans (z4.cons p)
                exact this.nodup_iff.mpr nd.1)
              (CR.mv (Same.refl _) _ z2 fun a m => kl a (List.mem_append_left _ m)) (.lst upd_same (CRs.mv (Same.refl _) _ z3 fun a m => kl a (List.mem_append_right _ m)))
            have hl := CRs.length hr
            obtain ⟨s1, s2, s3, s4⟩ := L2.ixN_seq hj
            have hz := (I.lstM hH).1
            rw [sizeLine_eq] at hz
            exact mt_popAt pins s σ H _ _ v us Q I rx rv ⟨p, xs, i, j, yv, rfl, rfl, hH, by omega, by omega, by rw [hl]; exact s1, z1, key⟩
theorem toDs_frs {K : PySem.W.Frag} {ca : Nat → Addr} {F H : Hp} : ∀ {cs : List C} {vs : List V} {g : List Addr} {ds : List PyData}, CRs K ca F H vs cs g → C.toDs cs = some ds → cs.all (fun c => match c with | .d _ => true | _ => false) = true → FRs K F vs ds
  | [], _, _, _, h, e, _ => by cases h; cases e; exact .nil
  | c :: cs, _, _, _, h, e, q => by
    rw [List.all_cons, Bool.and_eq_true] at q
    cases h with
    | cons a r =>
      simp only [C.toDs, Option.bind_eq_some_iff, Option.map_eq_some_iff] at e
      obtain ⟨y, e1, ys, e2, rfl⟩ := e
      cases c <;> first | (simp at q; done) | skip
      cases e1
      cases a with | d a => exact .cons a (toDs_frs r e2 q.2)

theorem toDs_d {K : PySem.W.Frag} {ca : Nat → Addr} {F H : Hp} {f : List Addr} : ∀ {cs : List C} {vs : List V} {g : List Addr} {ds : List PyData}, Wd F H (g ++ f) → CRs K ca F H vs cs g → C.toDs cs = some ds → ∃ F', FRs K F' vs ds ∧ Wd F' H f ∧ Step F H (g ++ f) F' H f
  | [], _, _, _, w, h, e => by
    cases h; cases e
    exact ⟨F, .nil, w, Step.refl⟩
  | c :: cs, _, _, _, w, h, e => by
    cases h with
    | @cons v vs _ _ g1 g2 a r =>
      simp only [C.toDs, Option.bind_eq_some_iff, Option.map_eq_some_iff] at e
      obtain ⟨y, e1, ys, e2, rfl⟩ := e
      rw [List.append_assoc] at w
      have a' := CR.freeze a w e1
      have w' := w.frz
      have r' : CRs K ca (addF F H g1) H vs cs g2 := CRs.mv w'.2.fr _ r fun _ _ => rfl
      obtain ⟨F', h1, h2, h3⟩ := toDs_d w'.1 r' e2
      refine ⟨F', .cons (FR.mono h3.fr _ a') h1, h2, ?_⟩
      rw [List.append_assoc]
      exact w'.2.trans h3
theorem kd_ty {ca : Nat → Addr} {F H : Hp} {f g : List Addr} {σ : L2.St} {ρ : Env} {v : Val} {xv : V} {k : Nat} {m : Mt} (w : Same F H) (er : ER X.K ca F H σ ρ f) (r : VR X.K ca F H σ xv v g) (h : kd ρ v = some k) (hm : mOk m k = true) : tyV X.K (mkT k) xv H := by
  unfold kd at h
  obtain ⟨c, h1, h2⟩ := Option.bind_eq_some_iff.mp h
  obtain ⟨g', cr, _⟩ := VR.look er r h1
  cases c with
  | d d =>
    cases d <;> simp only [kdC, Option.some.injEq] at h2 <;> first | (cases h2; done) | skip
    · subst h2
      cases cr with | d fr => cases fr; exact rfl
    · subst h2
      cases cr with
      | d fr =>
        obtain ⟨p, ws, rfl, sq, _⟩ := (PR.fr (H := H) fr).items w
        exact .inl ⟨rfl, ws, sq⟩
    · subst h2
      cases m <;> cases hm
  | lst cs =>
    simp only [kdC, Option.some.injEq] at h2
    subst h2
    cases cr with
    | lst hH _ => exact .inl ⟨rfl, _, .inl (.inl hH)⟩
  | dct cs =>
    simp only [kdC, Option.some.injEq] at h2
    subst h2
    cases m <;> cases hm
  | _ => cases h2
theorem kdC_flat {c : C} {d : PyData} {k : Nat} {m : Mt} (hm : mOk m k = true) (h : kdC c = some k) (e : c.flat = some d) : kdC (.d d) = some k := by
  cases c with
  | d x => cases e; exact h
  | lst cs =>
    simp only [C.flat, Option.map_eq_some_iff] at e
    obtain ⟨xs, _, rfl⟩ := e
    exact h
  | dct cs =>
    simp only [C.flat, Option.map_eq_some_iff] at e
    obtain ⟨xs, _, rfl⟩ := e
    simp only [kdC, Option.some.injEq] at h
    subst h
    cases m <;> cases hm
  | _ => cases e

theorem meth_key {m : Mt} (hu : X.A.units + 70 < cLine) (σ : L2.St) (H : Hp) (Q : VK) (q : tE O n X.K W (.meth m a as) σ H Q) : tMt X m (tE O n X.K W a) (tPs O n X.K W as) σ H Q := by
  obtain ⟨ρ, F, f, w, er, out⟩ := q
  refine ⟨ρ, F, f, w, er, ?_⟩
  simp only [evE] at out
  refine bind_out out fun v ρ1 e1 out1 F1 H1 xv g f1 st1 w1 er1 r1 p1 => ?_
  have hs1 : ∀ a ∈ f1, a ∈ g ++ f1 := fun a m => List.mem_append_right _ m
  cases hk : kd ρ1 v with
  | none => rw [hk] at out1; exact out1.elim
  | some k =>
  rw [hk] at out1
  by_cases hm0 : (!kOk m (some k)) = true
  · rw [if_pos hm0] at out1
    exact out1.elim
  rw [if_neg hm0] at out1
  have hm : mOk m k = true := by simpa [kOk] using hm0
  refine ⟨k, hm, kd_ty w1.same er1 r1 hk hm, ρ1, F1, f1, w1.sub (List.sublist_append_right _ _), er1, ?_⟩
  cases e2 : evP O.T (callF O.T n) as ρ1 with
  | bad => rw [e2] at out1; exact out1
  | exc x2 ρ2 => rw [e2] at out1; exact ExV.step st1 hs1 out1
  | ok cs ρ2 =>
  rw [e2] at out1
  simp only [bind_ok] at out1
  intro F2 H2 xs g2 f2 st2 w2 er2 r2 p2
  split at out1
  · exact out1.elim
  rename_i hp
  simp only [Bool.or_eq_true, Bool.and_eq_true, bne_iff_ne, ne_eq, not_or, Decidable.not_not, Bool.not_eq_true', not_and, Bool.not_eq_false] at hp
  have hk2 : kd ρ2 v = some k := by rw [← hp.2]
  have hpath : hasPath v = true → Same H1 H2 := fun e => p2 (hp.1 e)
  have rx2 := VR.stay st2 w1 r1 hpath
  have st : Step F H f F2 H2 (g2 ++ f2) := st1.trans (st2.wide hs1)
  -- on data
  have data : ∀ {c : C} {g3 : List Addr}, look ρ2 v = some c → CR X.K O.ca F2 H2 xv c g3 → OutV X.K O.ca W F H f σ Q (nc (.meth m a as)) (Res.of (c.flat.bind fun x => (C.toDs cs).bind fun xs => (mtS m x xs).map .own) ρ2) → rM X (mId m k) xv xs H2 Q := fun {c g3} hl cr out => by
    cases e3 : (c.flat.bind fun x => (C.toDs cs).bind fun xs => (mtS m x xs).map Val.own) with
    | none => rw [e3] at out; exact out.elim
    | some v3 =>
      rw [e3] at out
      obtain ⟨d, h1, h2⟩ := Option.bind_eq_some_iff.mp e3
      obtain ⟨ds, h3, h4⟩ := Option.bind_eq_some_iff.mp h2
      obtain ⟨cc, h5, rfl⟩ := Option.map_eq_some_iff.mp h4
      have hkc : kdC c = some k := by
        unfold kd at hk2
        rw [hl] at hk2
        exact hk2
      obtain ⟨F3, fr, w3, st3⟩ := toDs_d w2 r2 h3
      have pr : PR X.K F3 H2 xv d := by
        have := CR.flat (CR.mv st3.fr _ cr fun _ _ => rfl) h1
        exact this
      refine mtS_ok w3.same (kdC_flat hm hkc h1) pr fr h5 (OkV.new out (st.trans st3) (fun a m => m) w3 (er2.mv st3.fr fun _ _ => rfl) fun e => ?_)
      simp only [nc, Bool.and_eq_true] at e
      exact (p1 e.1.2).trans (p2 e.2)
  cases v with
  | own c => exact data rfl rx2 out1
  | bor i p =>
    have hg := r1.bor_nil
    subst hg
    simp only at out1
    split at out1
    · exact out1.elim
    · rename_i c hc
      obtain ⟨l, g3, r3, hf, cr, put⟩ := er2.at hc rx2
      split at out1
      · rename_i rr c' ho
        -- in place
        have hkc : kdC c = some k := by
          unfold kd at hk2
          rw [hc] at hk2
          exact hk2
        have hk1 : k = 1 := by
          have : mutM m = true ∨ True := .inr trivial
          unfold mtOwnS at ho
          split at ho <;> first | (cases ho; done) | skip
          rename_i sup
          cases m <;> simp only [mtSupO] at sup <;> first | contradiction | skip
          all_goals
            cases c <;> simp only [mtOwn] at ho <;> first | (cases ho; done) | skip
            simp only [kdC, Option.some.injEq] at hkc
            exact hkc.symm
        subst hk1
        have hmut : mutM m = true := by
          unfold mtOwnS at ho
          split at ho <;> first | (cases ho; done) | skip
          rename_i sup
          cases m <;> simp only [mtSupO] at sup <;> first | contradiction | rfl
        have w4 : Wd F2 H2 ((g3 ++ g2) ++ (l ++ r3)) := w2.perm (by
          rw [hf]
          have e1 : (g2 ++ (l ++ g3 ++ r3)).Perm (g2 ++ (g3 ++ (l ++ r3))) := by
            refine List.Perm.append_left g2 ?_
            rw [← List.append_assoc]
            exact (List.perm_append_comm (l₁ := l) (l₂ := g3)).append_right r3
          refine e1.trans ?_
          rw [← List.append_assoc]
          exact (List.perm_append_comm (l₁ := g2) (l₂ := g3)).append_right (l ++ r3))
        refine mtO_ok (w4.sub (List.sublist_append_left _ _)) cr r2 ho fun p0 o o' y gr gc' hp0 hH hsub hnd cy cx => ?_
        have hin : p0 ∈ g2 ++ f2 := by rw [hf]; simp [hp0]
        have su : Step F2 H2 (g2 ++ f2) F2 (upd H2 p0 o') (g2 ++ f2) := step_upd hin hH
        have wu : Wd F2 (upd H2 p0 o') (g2 ++ f2) := wd_upd w2 hin hH
        have nd4 := List.nodup_append.mp w4.nd
        have off : ∀ a ∈ l ++ r3, (upd H2 p0 o') a = H2 a := fun a m => upd_ne fun e => nd4.2.2 p0 (List.mem_append_left _ hp0) a m e.symm
        have er3 := put F2 (upd H2 p0 o') c' gc' (Same.refl _) off cx
        have hsub2 : ∀ a ∈ gr ++ (l ++ gc' ++ r3), a ∈ g2 ++ f2 := fun a m => by
          rw [hf]
          simp only [List.mem_append] at m ⊢
          have hs := hsub a
          simp only [List.mem_append] at hs
          rcases m with m | (m | m) | m
          · rcases hs (.inl m) with z | z <;> simp [z]
          · simp [m]
          · rcases hs (.inr m) with z | z <;> simp [z]
          · simp [m]
        have nd5 : (gr ++ (l ++ gc' ++ r3)).Nodup := by
          have : ((gr ++ gc') ++ (l ++ r3)).Nodup := List.nodup_append.mpr ⟨hnd, nd4.2.1, fun a m b m' e => nd4.2.2 a (hsub a m) b m' e⟩
          refine List.Perm.nodup_iff ?_ |>.mpr this
          rw [List.append_assoc gr]
          refine List.Perm.append_left gr ?_
          rw [← List.append_assoc]
          exact (List.perm_append_comm (l₁ := l) (l₂ := gc')).append_right r3
        refine out1 F2 (upd H2 p0 o') y gr (l ++ gc' ++ r3) ((st.trans su).less hsub2) ⟨wu.same, nd5, fun a m => wu.ap a (hsub2 a m)⟩ er3 cy fun e => ?_
        simp only [nc, hmut, Bool.not_true, Bool.false_and] at e
        cases e
      · exact data hc cr out1
theorem s_meth {m : Mt} {apos cpos : Pos} (hu : X.A.units + 70 < cLine) (ha : EOk O n X W x a) (hl : ELs O n X W xs as) (hlen : xs.length < 20) (hline : (apos.endLine == cpos.line) = true) :
    EOk O n X W (.Call (.Attribute x (mtN m) apos) xs [] cpos) (.meth m a as) := by
  have h1 : PE X (.Call (.Attribute x (mtN m) apos) xs [] cpos) (tE O n X.K W (.meth m a as)) := PE.imp (pe_mt ha.pl ha.pe hl hlen hline) fun σ H Q => meth_key hu σ H Q
  exact ⟨h1, pt_val h1, rfl⟩
end
end Z
set_option linter.all false
set_option Elab.async false
set_option maxRecDepth 100000
/-! Z15: targets; what is walked. -/
namespace Z
open PySem L2 PyProof.Rows
mutual
def gT (K : PySem.W.Frag) : Tg → TG
  | .nm i => gName i
  | .tup ts => gTup K ts.length (gTs K ts)
def gTs (K : PySem.W.Frag) : List Tg → TGs
  | [] => gNil
  | t :: ts => gCons (gT K t) (gTs K ts)
end
section
variable {X : Cx} {fb : Str → Bool}
theorem nm_loc {sc : Scope} {x : Str} (h : (nmB sc x [.local] || (nmB sc x [.cell] && fb x)) = true) : Loc sc x ∧ (fb x = true ∨ sc.names.lookup x = some .local) := by
  simp only [nmB, Bool.or_eq_true, Bool.and_eq_true] at h
  cases e : sc.names.lookup x with
  | none => rw [e] at h; simp at h
  | some k =>
    rw [e] at h
    cases k <;> first | exact ⟨.inl e, .inr rfl⟩ | skip
    all_goals
      rcases h with h | ⟨h, h'⟩
      · exact absurd h (by decide)
      · first | exact ⟨.inr e, .inl h'⟩ | exact absurd h (by decide)
mutual
theorem pg_ok (hf : ∀ x, fb x = true → X.fn x = true) (hc : X.calm = true) (hN : X.N.Nodup) : ∀ (t : Tg) (e : Expr), tgB fb X.env.scope X.N t e = true → PG X e (gT X.K t)
  | .nm i, e, h => by
    simp only [tgB] at h
    split at h
    · rename_i x hx
      obtain ⟨p, rfl⟩ := asName_eq hx
      rw [Bool.and_eq_true, decide_eq_true_eq] at h
      obtain ⟨h1, h2⟩ := nm_loc h.2
      exact pg_name hN h.1 h1 (h2.imp (hf x) id)
    · cases h
  | .tup ts, e, h => by
    cases e <;> simp only [tgB] at h <;> first | (cases h; done) | skip
    rename_i es k p
    rw [Bool.and_eq_true] at h
    obtain ⟨h1, h2, h3⟩ := pgs_ok hf hc hN ts es h.1
    exact pg_tup hc h1 h2 h3
theorem pgs_ok (hf : ∀ x, fb x = true → X.fn x = true) (hc : X.calm = true) (hN : X.N.Nodup) : ∀ (ts : List Tg) (es : List Expr), tgsB fb X.env.scope X.N ts es = true → PGs X es (gTs X.K ts) ∧ (assignEach es X.env).length = ts.length ∧ (assignEach es X.env).findIdx? (·.1) = none
  | [], es, h => by
    cases es with
    | nil => exact ⟨pgs_nil, rfl, rfl⟩
    | cons _ _ => simp [tgsB] at h
  | t :: ts, es, h => by
    cases es with
    | nil => simp [tgsB] at h
    | cons e es =>
      simp only [tgsB, Bool.and_eq_true] at h
      have h1 := pg_ok hf hc hN t e h.1
      obtain ⟨h2, h3, h4⟩ := pgs_ok hf hc hN ts es h.2
      have hs : assignEach (e :: es) X.env = (false, assign e X.env) :: assignEach es X.env := by
        cases t with
        | nm i => cases e <;> first | rfl | (exact absurd h.1 (by simp [tgB, asName]))
        | tup _ => cases e <;> first | rfl | (exact absurd h.1 (by simp [tgB]))
      refine ⟨pgs_cons h1 h2 (by rw [hs]; rfl), by rw [hs, List.length_cons, h3, List.length_cons], ?_⟩
      rw [hs, List.findIdx?_cons]
      simp [h4]
end
end
section
variable {K : PySem.W.Frag} {ca : Nat → Addr} {F H : Hp}
theorem ER.setD {v : V} {d : PyData} (fr : FR K F v d) : ∀ {ρ : Env} {σ : L2.St} {f : List Addr} {i : Nat}, ER K ca F H σ ρ f → i < ρ.length → ∃ f', f'.Sublist f ∧ ER K ca F H (σ.set i (some v)) (ρ.set i (some (.d d))) f'
  | [], _, _, _, _, l => by simp at l
  | o :: ρ, _, _, 0, h, _ => by
    cases h with
    | no r => exact ⟨_, .refl _, by simpa using ER.so (CR.d fr) r⟩
    | so c r => exact ⟨_, List.sublist_append_right _ _, by simpa using ER.so (CR.d fr) r⟩
  | o :: ρ, _, _, i + 1, h, l => by
    have l' : i < ρ.length := by simpa using l
    cases h with
    | no r =>
      obtain ⟨f', s, e⟩ := ER.setD fr r l'
      exact ⟨f', s, .no e⟩
    | so c r =>
      obtain ⟨f', s, e⟩ := ER.setD fr r l'
      exact ⟨_, s.append_left _, .so c e⟩
/-- a place that holds nothing or frozen data is forgotten -/
theorem ER.dropD {s : Option V} : ∀ {ρ : Env} {σ : L2.St} {f : List Addr} {i : Nat}, ER K ca F H σ ρ f → (∀ c, slot ρ i = some c → ∃ d, c = .d d) → ER K ca F H (σ.set i s) (ρ.set i none) f
  | [], _, _, _, h, _ => by cases h; exact .nil
  | o :: ρ, _, _, 0, h, q => by
    cases h with
    | no r => exact .no r
    | so c r =>
      obtain ⟨d, rfl⟩ := q _ rfl
      cases c
      simpa using ER.no r
  | o :: ρ, _, _, i + 1, h, q => by
    cases h with
    | no r => exact .no (ER.dropD r q)
    | so c r => exact .so c (ER.dropD r q)
mutual
theorem gT_ok {io : List Nat} (sm : Same F H) : ∀ (t : Tg) {d : PyData} {x : V} {ρ ρ' : Env} {σ : L2.St} {f : List Addr} {Q : L2.St → Hp → Prop}, setTg io t d ρ = some ρ' → FR K F x d → ER K ca F H σ ρ f →
    (∀ σ' f', f'.Sublist f → ER K ca F H σ' ρ' f' → (∀ i, i ∉ tgI t → σ'[i]? = σ[i]?) → Q σ' H) → gT K t x σ H Q
  | .nm i, d, x, ρ, ρ', σ, f, Q, h, fr, er, q => by
    simp only [setTg] at h
    split at h <;> first | (cases h; done) | skip
    rename_i hi
    cases h
    rw [Bool.and_eq_true, decide_eq_true_eq] at hi
    obtain ⟨f', s, e⟩ := er.setD fr hi.1
    exact q _ f' s e fun j hj => by
      have : i ≠ j := fun z => hj (by simp [tgI, z])
      exact List.getElem?_set_ne this
  | .tup ts, d, x, ρ, ρ', σ, f, Q, h, fr, er, q => by
    cases d <;> simp only [setTg] at h <;> first | (cases h; done) | skip
    rename_i ds
    cases fr with
    | tup sq r =>
      exact ⟨_, _, rfl, sqT_same sm sq, by rw [r.length]; exact setTgs_len h, gTs_ok sm ts h r er q⟩
theorem gTs_ok {io : List Nat} (sm : Same F H) : ∀ (ts : List Tg) {ds : List PyData} {xs : List V} {ρ ρ' : Env} {σ : L2.St} {f : List Addr} {Q : L2.St → Hp → Prop}, setTgs io ts ds ρ = some ρ' → FRs K F xs ds → ER K ca F H σ ρ f →
    (∀ σ' f', f'.Sublist f → ER K ca F H σ' ρ' f' → (∀ i, i ∉ tgsI ts → σ'[i]? = σ[i]?) → Q σ' H) → gTs K ts xs σ H Q
  | [], ds, xs, ρ, ρ', σ, f, Q, h, fr, er, q => by
    cases ds <;> simp only [setTgs] at h <;> first | (cases h; done) | skip
    cases h
    cases fr
    exact ⟨rfl, q σ f (.refl _) er fun _ _ => rfl⟩
  | t :: ts, ds, xs, ρ, ρ', σ, f, Q, h, fr, er, q => by
    cases ds <;> simp only [setTgs] at h <;> first | (cases h; done) | skip
    obtain ⟨ρ1, h1, h2⟩ := Option.bind_eq_some_iff.mp h
    cases fr with
    | cons a r =>
      refine ⟨_, _, rfl, gT_ok sm t h1 a er fun σ1 f1 s1 e1 k1 => gTs_ok sm ts h2 r e1 fun σ2 f2 s2 e2 k2 => q σ2 f2 (s2.trans s1) e2 fun i hi => ?_⟩
      simp only [tgsI, List.mem_append, not_or] at hi
      rw [k2 i hi.2, k1 i hi.1]
theorem setTgs_len {io : List Nat} : ∀ {ts : List Tg} {ds : List PyData} {ρ ρ' : Env}, setTgs io ts ds ρ = some ρ' → ds.length = ts.length
  | [], ds, _, _, h => by cases ds <;> simp only [setTgs] at h <;> first | rfl | cases h
  | t :: ts, ds, _, _, h => by
    cases ds <;> simp only [setTgs] at h <;> first | (cases h; done) | skip
    obtain ⟨ρ1, h1, h2⟩ := Option.bind_eq_some_iff.mp h
    rw [List.length_cons, List.length_cons, setTgs_len h2]
end

/-! ### what is walked -/
/-- J tells the items of l, one after another, as long as what stood stands -/
def Wk (K : PySem.W.Frag) (F0 H0 : Hp) (J : It) (l : List PyData) : Prop := ∀ (F H : Hp) (i : Nat), Same F0 F → Same F H → Same H0 H → (l.length ≤ i → J.stop i H) ∧
  ∀ d, l[i]? = some d → J.go i H ∧ ∀ x H', J.yld i H x H' → ∃ F', Same F F' ∧ Same H H' ∧ (∀ a, F' a ≠ none → F a ≠ none ∨ H a = none) ∧ Same F' H' ∧ FR K F' x d
theorem wk_list {F0 H0 : Hp} {a : Addr} {vs : List V} {ds : List PyData} (sq : SqL K H0 a vs) (fr : FRs K F0 vs ds) : Wk K F0 H0 (Itl K a) ds := fun F H i s1 s2 s3 => by
  have sq' : SqL K H a vs := s3.seq sq
  refine ⟨fun hl => ⟨vs, sq', by rw [fr.length]; exact hl⟩, fun d hd => ?_⟩
  obtain ⟨v, hv, fv⟩ := fr.get hd
  refine ⟨⟨vs, v, sq', hv⟩, fun x H' ⟨e, hx⟩ => ?_⟩
  have := hx vs sq'
  rw [hv] at this
  cases this
  subst e
  exact ⟨F, Same.refl _, Same.refl _, fun a h => .inl h, s2, FR.mono s1 _ fv⟩
theorem wk_tup {F0 H0 : Hp} {a : Addr} {vs : List V} {ds : List PyData} (sq : SqT K H0 a vs) (fr : FRs K F0 vs ds) : Wk K F0 H0 (Itt K a) ds := fun F H i s1 s2 s3 => by
  have sq' : SqT K H a vs := sqT_same s3 sq
  refine ⟨fun hl => ⟨vs, sq', by rw [fr.length]; exact hl⟩, fun d hd => ?_⟩
  obtain ⟨v, hv, fv⟩ := fr.get hd
  refine ⟨⟨vs, v, sq', hv⟩, fun x H' ⟨e, hx⟩ => ?_⟩
  have := hx vs sq'
  rw [hv] at this
  cases this
  subst e
  exact ⟨F, Same.refl _, Same.refl _, fun a h => .inl h, s2, FR.mono s1 _ fv⟩
theorem wk_str {F0 H0 : Hp} {z : Str} : Wk K F0 H0 (Its z) (chars z) := fun F H i s1 s2 s3 => by
  have hl : (chars z).length = z.cps.size := by simp [chars]
  refine ⟨fun h => by rw [hl] at h; exact h, fun d hd => ?_⟩
  have hi : i < z.cps.size := by rw [← hl]; exact (List.getElem?_eq_some_iff.mp hd).1
  refine ⟨hi, fun x H' ⟨e, c, hc, hx⟩ => ?_⟩
  subst e hx
  refine ⟨F, Same.refl _, Same.refl _, fun a h => .inl h, s2, ?_⟩
  have : d = .str ⟨#[c]⟩ := by
    simp only [chars, List.getElem?_map, Array.getElem?_toList, hc, Option.map_some, Option.some.injEq] at hd
    exact hd.symm
  subst this
  exact .str _
theorem wk_rng {F0 H0 : Hp} {lo hi : Int} : Wk K F0 H0 (Itr lo (hi - lo).toNat) (rangeD lo hi) := fun F H i s1 s2 s3 => by
  have hl : (rangeD lo hi).length = (hi - lo).toNat := by simp [rangeD]
  refine ⟨fun h => by rw [hl] at h; exact h, fun d hd => ?_⟩
  have hi' : i < (hi - lo).toNat := by rw [← hl]; exact (List.getElem?_eq_some_iff.mp hd).1
  refine ⟨hi', fun x H' ⟨e, hx⟩ => ?_⟩
  subst e hx
  refine ⟨F, Same.refl _, Same.refl _, fun a h => .inl h, s2, ?_⟩
  have : d = .int (lo + (i : Nat)) := by
    simp only [rangeD, List.getElem?_map, List.getElem?_range hi', Option.map_some, Option.some.injEq] at hd
    exact hd.symm
  subst this
  exact .int _
end
section
variable {X : Cx} {tg e : Expr}
/-- a value is walked: the wish itself -/
def iW (X : Cx) (tg : Expr) (te : TE) : TI := fun σ H R => te σ H fun x H1 => ∀ (pins : List (Addr × Obj)) (s : Shared) (v : Value), Inv X pins σ H1 s → RelV x v → wpAny (model X.prog X.w) X.A (pyIter v) (PIE X pins σ tg R) X.xe s
theorem pi_w {te : TE} (h : PE X e te) : PI X tg e (iW X tg te) := ⟨fun pins s σ H R I q => thn (h.run pins s σ H _ I q) fun v s1 ⟨x, H1, I1, r1, q1⟩ => q1 pins s1 v I1 r1⟩
theorem it_pl {F0 H0 : Hp} {σ : L2.St} {H : Hp} {x : V} {d : PyData} {l : List PyData} {R : It → Hp → Prop} (s0 : Same F0 H0) (sH : Same H0 H) (r : PR X.K F0 H0 x d) (hlen : lenOk d = true) (h : items d = some l) (q : ∀ J, l.length ≤ 16777216 → Wk X.K F0 H0 J l → R J H) :
    ∀ (pins : List (Addr × Obj)) (s : Shared) (v : Value), Inv X pins σ H s → RelV x v → wpAny (model X.prog X.w) X.A (pyIter v) (PIE X pins σ tg R) X.xe s := by
  intro pins s v I rx
  have fp : ∀ {tk : Nat}, ∀ b ∈ [s.heap.objs.size], FpOk X pins H b := fun {tk} b hb => by
    have e : b = s.heap.objs.size := by simpa using hb
    subst e
    exact I.fpOk (Nat.le_refl _) (I.hok.fresh (Nat.le_refl _))
  cases d <;> simp only [items, Option.some.injEq] at h <;> first | (cases h; done) | skip
  · subst h
    rename_i z
    cases r with
    | fr r =>
      cases r
      obtain ⟨t, rfl⟩ := rx
      cases wide : z.cps.all (· < 128)
      · exact wpAny_pyIter_wide wide (pi_one (tk := s.toks) I _ (turn_str _ z t "str_iterator" (.inr rfl)) ⟨_, Heap.get?_push_size _ rfl, rfl, rfl⟩ (q _ (by simpa [chars, lenOk] using hlen) wk_str))
      · exact wpAny_pyIter_ascii wide (pi_one (tk := s.toks) I _ (turn_str _ z t "str_ascii_iterator" (.inl rfl)) ⟨_, Heap.get?_push_size _ rfl, rfl, rfl⟩ (q _ (by simpa [chars, lenOk] using hlen) wk_str))
  · subst h
    obtain ⟨p, ws, rfl, sq, fr⟩ := r.items s0
    cases rx
    obtain ⟨its, rv, pl, hz⟩ := I.list (sH.seq sq)
    refine wpAny_pyIter_list pl.isList ?_
    exact ⟨s.heap.objs.size, [s.heap.objs.size], _, _, H, rfl, I.kept (t' := s.toks) fun b o e => Heap.get?_push_of_some _ e, turn_list p _, ⟨_, Heap.get?_push_size _ rfl, rfl, rfl⟩, fp (tk := 0), q _ (by rw [← fr.length, ← sizeLine_eq]; exact hz) (wk_list sq fr)⟩
  · subst h
    obtain ⟨p, ws, rfl, sq, fr⟩ := r.itemsT s0
    cases rx
    obtain ⟨its, rv, pl, hz⟩ := I.tuple (sqT_same sH sq)
    refine wpAny_pyIter_tuple (show s.heap.IsTuple p its.toArray from pl) ?_
    exact ⟨s.heap.objs.size, [s.heap.objs.size], _, _, H, rfl, I.kept (t' := s.toks) fun b o e => Heap.get?_push_of_some _ e, turn_tuple p _, ⟨_, Heap.get?_push_size _ rfl, rfl, rfl⟩, fp (tk := 0), q _ (by rw [← fr.length, ← sizeLine_eq]; exact hz) (wk_tup sq fr)⟩
end
end Z
set_option linter.all false
set_option Elab.async false
set_option maxRecDepth 100000
/-! Z16: comprehensions. -/
namespace Z
open PySem L2 PyProof.Rows
section
variable {K : PySem.W.Frag} {ca : Nat → Addr} {F H : Hp}
theorem ownD_at {ρ : Env} {vs : List Nat} {v : Nat} (h : ownD ρ vs = true) (m : v ∈ vs) : ∀ c, slot ρ v = some c → ∃ d, c = .d d := fun c e => by
  have := List.all_eq_true.mp h v m
  rw [e] at this
  cases c <;> first | exact ⟨_, rfl⟩ | (simp at this; done)
theorem slot_set_self {ρ : Env} {v : Nat} : slot (ρ.set v none) v = none := by
  unfold slot
  by_cases h : v < ρ.length
  · rw [List.getElem?_set_self h]; rfl
  · rw [List.getElem?_eq_none (by simpa using h)]; rfl
theorem slot_set_ne {ρ : Env} {v w : Nat} {s : Option C} (h : v ≠ w) : slot (ρ.set v s) w = slot ρ w := by
  unfold slot
  rw [List.getElem?_set_ne h]
theorem slot_wipe {ρ : Env} {w : Nat} : ∀ {vs : List Nat}, slot (wipe ρ vs) w = none ∨ slot (wipe ρ vs) w = slot ρ w
  | [] => .inr rfl
  | v :: vs => by
    unfold wipe
    by_cases h : v = w
    · subst h; exact .inl slot_set_self
    · rw [slot_set_ne h]; exact slot_wipe
theorem ER.wipe : ∀ {vs : List Nat} {ρ : Env} {σ : L2.St} {f : List Addr}, ER K ca F H σ ρ f → ownD ρ vs = true → ER K ca F H (L2.wipe σ vs) (Z.wipe ρ vs) f
  | [], _, _, _, h, _ => h
  | v :: vs, ρ, σ, f, h, q => by
    have q' : (ownD ρ vs) = true := by
      unfold ownD at q ⊢
      rw [List.all_cons, Bool.and_eq_true] at q
      exact q.2
    have ih := ER.wipe (vs := vs) h q'
    refine ER.dropD (s := none) ih fun c e => ?_
    rcases slot_wipe (ρ := ρ) (w := v) (vs := vs) with z | z
    · rw [z] at e; cases e
    · rw [z] at e; exact ownD_at q List.mem_cons_self c e
theorem wipe_len : ∀ (vs : List Nat) (ρ : Env), (Z.wipe ρ vs).length = ρ.length
  | [], _ => rfl
  | v :: vs, ρ => by unfold Z.wipe; rw [List.length_set, wipe_len vs]
theorem slot_wiped {ρ : Env} {w : Nat} : ∀ {vs : List Nat}, w ∈ vs → slot (Z.wipe ρ vs) w = none
  | [], m => by cases m
  | v :: vs, m => by
    unfold Z.wipe
    by_cases h : v = w
    · subst h; exact slot_set_self
    · rw [slot_set_ne h]
      exact slot_wiped (by rcases List.mem_cons.mp m with e | m; (· exact absurd e.symm h); (· exact m))
theorem slot_wipe_out {ρ : Env} {w : Nat} : ∀ {vs : List Nat}, w ∉ vs → slot (Z.wipe ρ vs) w = slot ρ w
  | [], _ => rfl
  | v :: vs, m => by
    unfold Z.wipe
    rw [slot_set_ne (fun h => m (by rw [h]; exact List.mem_cons_self)), slot_wipe_out fun h => m (List.mem_cons_of_mem _ h)]
theorem unwipe_len (ρ0 : Env) : ∀ (vs : List Nat) (ρ : Env), (unwipe ρ0 ρ vs).length = ρ.length
  | [], _ => rfl
  | v :: vs, ρ => by unfold unwipe; rw [List.length_set, unwipe_len ρ0 vs]
theorem slot_unwipe_out {ρ0 ρ : Env} {w : Nat} : ∀ {vs : List Nat}, w ∉ vs → slot (unwipe ρ0 ρ vs) w = slot ρ w
  | [], _ => rfl
  | v :: vs, m => by
    unfold unwipe
    rw [slot_set_ne (fun h => m (by rw [h]; exact List.mem_cons_self)), slot_unwipe_out fun h => m (List.mem_cons_of_mem _ h)]
theorem slot_unwipe {ρ0 ρ : Env} {w : Nat} (hl : w < ρ.length) : ∀ {vs : List Nat}, w ∈ vs → slot (unwipe ρ0 ρ vs) w = slot ρ0 w
  | [], m => by cases m
  | v :: vs, m => by
    unfold unwipe
    by_cases h : v = w
    · subst h
      have : v < (unwipe ρ0 ρ vs).length := by rw [unwipe_len]; exact hl
      unfold slot
      rw [List.getElem?_set_self this]
      rfl
    · rw [slot_set_ne h]
      exact slot_unwipe hl (by rcases List.mem_cons.mp m with e | m; (· exact absurd e.symm h); (· exact m))
/-- places with nothing or frozen data may turn into such -/
theorem ER.lift : ∀ {ρ1 ρ2 : Env} {σ1 σ2 : L2.St} {f : List Addr}, ER K ca F H σ1 ρ1 f → ρ2.length = ρ1.length → σ2.length = σ1.length →
    (∀ i, i < ρ1.length → (σ2[i]? = σ1[i]? ∧ slot ρ2 i = slot ρ1 i) ∨ ((∀ c, slot ρ1 i = some c → ∃ d, c = .d d) ∧ (slot ρ2 i = none ∨ ∃ d x, slot ρ2 i = some (.d d) ∧ σ2[i]? = some (some x) ∧ FR K F x d))) → ER K ca F H σ2 ρ2 f
  | [], [], _, σ2, _, h, _, l, _ => by
    cases h
    cases σ2 with
    | nil => exact .nil
    | cons _ _ => simp at l
  | [], _ :: _, _, _, _, _, l, _, _ => by simp at l
  | _ :: _, [], _, _, _, _, l, _, _ => by simp at l
  | o1 :: r1, o2 :: r2, σ1, [], _, h, _, l, _ => by cases h <;> simp at l
  | o1 :: r1, o2 :: r2, σ1, s2 :: t2, _, h, l1, l2, q => by
    have l1' : r2.length = r1.length := by simpa using l1
    cases h with
    | @no s1 t1 _ f r =>
      have ih := ER.lift (ρ1 := r1) (ρ2 := r2) (σ2 := t2) r l1' (by simpa using l2) fun i hi => q (i + 1) (by simpa using hi)
      rcases q 0 (by simp) with ⟨_, e⟩ | ⟨_, e | ⟨d, x, e, e', fr⟩⟩
      · have : o2 = none := e
        subst this
        exact .no ih
      · have : o2 = none := e
        subst this
        exact .no ih
      · have : o2 = some (.d d) := e
        subst this
        have : s2 = some x := by simpa using e'
        subst this
        simpa using ER.so (CR.d (ca := ca) (H := H) fr) ih
    | @so v c t1 _ f g cr r =>
      have ih := ER.lift (ρ1 := r1) (ρ2 := r2) (σ2 := t2) r l1' (by simpa using l2) fun i hi => q (i + 1) (by simpa using hi)
      rcases q 0 (by simp) with ⟨e', e⟩ | ⟨hd, e⟩
      · have : o2 = some c := e
        subst this
        have : s2 = some v := by simpa using e'
        subst this
        exact .so cr ih
      · obtain ⟨d, rfl⟩ := hd c rfl
        cases cr
        rcases e with e | ⟨d', x, e, e', fr⟩
        · have : o2 = none := e
          subst this
          simpa using ER.no ih
        · have : o2 = some (.d d') := e
          subst this
          have : s2 = some x := by simpa using e'
          subst this
          simpa using ER.so (CR.d (ca := ca) (H := H) fr) ih
/-- what stands at a place of the frame, frozen -/
theorem ER.atD {ρ : Env} {σ : L2.St} {f : List Addr} {i : Nat} {d : PyData} (h : ER K ca F H σ ρ f) (e : slot ρ i = some (.d d)) : ∃ x, σ[i]? = some (some x) ∧ FR K F x d := by
  obtain ⟨v, l, g, r, hv, hf, hc, _, _⟩ := h.focus e
  cases hc with | d fr => exact ⟨v, hv, fr⟩
/-- back from a comprehension -/
theorem ER.back {ρ0 ρ : Env} {σ : L2.St} {f f0 : List Addr} {vs : List Nat} {F0 H0 : Hp} (s : Same F0 F) (h0 : ER K ca F0 H0 σ ρ0 f0) (hd : ownD ρ0 vs = true) (h : ER K ca F H (L2.wipe σ vs) ρ f) (hw : ∀ v ∈ vs, slot ρ v = none) : ER K ca F H σ (unwipe ρ0 ρ vs) f := by
  refine ER.lift h (unwipe_len _ _ _) (by rw [L2.wipe_length]) fun i hi => ?_
  by_cases m : i ∈ vs
  · refine .inr ⟨fun c e => (by rw [hw i m] at e; cases e), ?_⟩
    rw [slot_unwipe hi m]
    cases e : slot ρ0 i with
    | none => exact .inl rfl
    | some c =>
      obtain ⟨d, rfl⟩ := ownD_at hd m c e
      obtain ⟨x, h1, h2⟩ := h0.atD e
      exact .inr ⟨d, x, rfl, h1, FR.mono s _ h2⟩
  · exact .inl ⟨(L2.wipe_out m).symm, slot_unwipe_out m⟩
/-- a turn's end: the places of the block forgotten -/
theorem ER.again {ρ : Env} {σ σ2 : L2.St} {f : List Addr} {vs : List Nat} (h : ER K ca F H σ2 ρ f) (hd : ownD ρ vs = true) (e : L2.wipe σ2 vs = L2.wipe σ vs) : ER K ca F H (L2.wipe σ vs) (Z.wipe ρ vs) f := by
  rw [← e]
  exact ER.wipe h hd
theorem wipe_eq {σ σ' : L2.St} {vs : List Nat} (hl : σ'.length = σ.length) (h : ∀ i, i ∉ vs → σ'[i]? = (L2.wipe σ vs)[i]?) : L2.wipe σ' vs = L2.wipe σ vs := by
  refine List.ext_getElem? fun i => ?_
  by_cases m : i ∈ vs
  · have a : ∀ {τ : L2.St} {us : List Nat}, i ∈ us → (L2.wipe τ us)[i]? = if i < τ.length then some none else none := fun {τ us} m => by
      induction us with
      | nil => cases m
      | cons u us ih =>
        unfold L2.wipe
        by_cases hu : u = i
        · subst hu
          by_cases hv : u < τ.length
          · rw [List.getElem?_set_self (by rw [L2.wipe_length]; exact hv), if_pos hv]
          · rw [List.getElem?_eq_none (by rw [List.length_set, L2.wipe_length]; omega), if_neg hv]
        · rw [List.getElem?_set_ne hu]
          exact ih (by rcases List.mem_cons.mp m with e | m; (· exact absurd e.symm hu); (· exact m))
    rw [a m, a m, hl]
  · rw [L2.wipe_out m, h i m]
mutual
theorem setTg_env {io : List Nat} : ∀ {t : Tg} {d : PyData} {ρ ρ' : Env}, setTg io t d ρ = some ρ' → ρ'.length = ρ.length
  | .nm i, d, ρ, ρ', h => by
    simp only [setTg] at h
    split at h <;> first | (cases h; done) | skip
    cases h
    exact List.length_set
  | .tup ts, d, ρ, ρ', h => by
    cases d <;> simp only [setTg] at h <;> first | (cases h; done) | skip
    exact setTgs_env h
theorem setTgs_env {io : List Nat} : ∀ {ts : List Tg} {ds : List PyData} {ρ ρ' : Env}, setTgs io ts ds ρ = some ρ' → ρ'.length = ρ.length
  | [], ds, ρ, ρ', h => by cases ds <;> simp only [setTgs] at h <;> first | (cases h; rfl) | cases h
  | t :: ts, ds, ρ, ρ', h => by
    cases ds <;> simp only [setTgs] at h <;> first | (cases h; done) | skip
    obtain ⟨ρ1, h1, h2⟩ := Option.bind_eq_some_iff.mp h
    rw [setTgs_env h2, setTg_env h1]
end
end
/-- no exception is told within a comprehension -/
def W0 : WX := fun _ _ _ _ => False
section
variable {O : Wo} {n : Nat} {X : Cx}
/-- the tests of a comprehension -/
def tC1 (O : Wo) (n : Nat) (K : PySem.W.Frag) : List E → TT
  | [] => tYes
  | [c] => tB (tE O n K W0 c)
  | _ => fun _ _ _ => False
theorem bind_okR {α β : Type} {r : Res α} {f : α → Env → Res β} {b : β} {ρ : Env} (h : r.bind f = .ok b ρ) : ∃ a ρ1, r = .ok a ρ1 ∧ f a ρ1 = .ok b ρ := by
  cases r with
  | ok a ρ1 => exact ⟨a, ρ1, rfl, h⟩
  | exc _ _ => cases h
  | bad => cases h
theorem of_okR {α : Type} {o : Option α} {a : α} {ρ ρ1 : Env} (h : Res.of o ρ = .ok a ρ1) : o = some a ∧ ρ1 = ρ := by
  cases o with
  | none => cases h
  | some b => cases h; exact ⟨rfl, rfl⟩
/-- the state of a comprehension at a turn -/
structure LcAt (O : Wo) (n : Nat) (K : PySem.W.Frag) (F1 H1 : Hp) (f1 : List Addr) (H0 : Hp) (σ : L2.St) (own : List Nat) (fb : PyData → Env → Res (List C)) (l : List PyData) (cs : List C) (ρe : Env) (pu : Bool) (D : Addr) (i : Nat) (H : Hp) : Prop where
  ex : ∃ (F : Hp) (f gacc : List Addr) (ρ : Env) (acc : List V) (accC rest : List C), Wd F H ((D :: gacc) ++ f) ∧ ER K O.ca F H (L2.wipe σ own) ρ f ∧ H D = some (.lst acc) ∧ CRs K O.ca F H acc accC gacc ∧ Step F1 H1 f1 F H ((D :: gacc) ++ f) ∧ Same H0 H ∧
    (pu = true → Same H1 H) ∧ (∀ v ∈ own, slot ρ v = none) ∧ compL fb (l.drop i) ρ = .ok rest ρe ∧ accC ++ rest = cs ∧ acc.length ≤ i
theorem lc_main {tg : Tg} {own : List Nat} {elt : E} {cond : List E} {l : List PyData} {cs : List C} {ρ1 ρe : Env} {F1 H1 H0 : Hp} {f1 : List Addr} {σ : L2.St} {J : It} {Q : VK} (w1 : Wd F1 H1 f1) (er1 : ER X.K O.ca F1 H1 σ ρ1 f1) (hd : ownD ρ1 own = true)
    (hI : (tgI tg).all own.contains = true) (wk : Wk X.K F1 H0 J l) (s01 : Same H0 H1) (hp : (nc elt && ncs cond) = true ∨ H0 = F1) (hl : l.length ≤ 16777216) (hcl : cond.length ≤ 1)
    (run : compL (turnF tg own elt (fun ρ => evAnd O.T (callF O.T n) cond ρ) (fun ρ => evE O.T (callF O.T n) elt ρ)) l (Z.wipe ρ1 own) = .ok cs ρe)
    (q : ∀ (F' H' : Hp) (D : Addr) (gacc f' : List Addr), Step F1 H1 f1 F' H' ((D :: gacc) ++ f') → Wd F' H' ((D :: gacc) ++ f') → ER X.K O.ca F' H' σ (unwipe ρ1 ρe own) f' → CR X.K O.ca F' H' (.ref D) (.lst cs) (D :: gacc) → ((nc elt && ncs cond) = true → Same H1 H') → Q (.ref D) H') :
    ∀ D, H1 D = none → ∃ Wi : Nat → Nat → Hp → Prop, (∃ m, Wi 0 m (upd H1 D (.lst []))) ∧ ∀ i m H, Wi i m H → (J.stop i H ∧ Q (.ref D) H) ∨ (J.go i H ∧ ∃ Nx : Hp → Prop, (∀ H', Nx H' → ∃ m', m' < m ∧ Wi (i + 1) m' H') ∧
      ∀ x H', J.yld i H x H' → gT X.K tg x (L2.wipe σ own) H' fun σ2 H2 => L2.wipe σ2 own = L2.wipe σ own ∧ tC1 O n X.K cond σ2 H2 fun b H3 => if b = true then tE O n X.K W0 elt σ2 H3 fun y H4 => ∃ acc, H4 D = some (.lst acc) ∧ acc.length < sizeLine ∧ Nx (upd H4 D (.lst (acc ++ [y]))) else Nx H3) := by
  intro D hD
  generalize hfb : turnF tg own elt (fun ρ => evAnd O.T (callF O.T n) cond ρ) (fun ρ => evE O.T (callF O.T n) elt ρ) = fb at run
  have h0D : H0 D = none := by
    cases e : H0 D with
    | none => rfl
    | some o => rw [s01 D o e] at hD; cases hD
  refine ⟨fun i m H => m = l.length - i ∧ i ≤ l.length ∧ LcAt O n X.K F1 H1 f1 H0 σ own fb l cs ρe (nc elt && ncs cond) D i H, ⟨l.length, rfl, Nat.zero_le _, ?_⟩, ?_⟩
  · -- at the start
    have sn := step_new (F := F1) (o := .lst []) hD
    have sm := same_updN (o := .lst []) hD
    have wn : Wd F1 (upd H1 D (.lst [])) [D] := ⟨w1.same.trans sm, by simp, fun a m => by rw [List.mem_singleton.mp m]; exact w1.same.free hD⟩
    have lv : ∀ a ∈ f1, H1 a ≠ none := ER.lives er1
    have w2 : Wd F1 (upd H1 D (.lst [])) (f1 ++ [D]) := sn.apart (by rw [List.append_nil]; exact w1) wn lv
    have s4 := sn.more f1
    rw [List.append_nil] at s4
    refine ⟨F1, f1, [], Z.wipe ρ1 own, [], [], cs, w2.perm (by exact List.perm_append_comm), (er1.wipe hd).mv (Same.refl _) (fun a m => upd_ne fun e => (by subst e; exact lv _ m hD)), upd_same, .nil, s4.less fun a m => ?_, s01.trans sm, fun _ => sm, fun v m => slot_wiped m, run, rfl, Nat.le_refl _⟩
    simp only [List.mem_append, List.mem_cons, List.not_mem_nil, or_false] at m ⊢
    exact m.symm
  · rintro i m H ⟨hm, hi, F, f, gacc, ρ, acc, accC, rest, wd, er, hDl, ra, st, s0H, pH, hw, hrun, hcs, hal⟩
    have sF : Same F1 F := st.fr
    obtain ⟨kstop, kgo⟩ := wk F H i sF wd.same s0H
    by_cases hie : l.length ≤ i
    · -- the end
      refine .inl ⟨kstop hie, ?_⟩
      rw [List.drop_eq_nil_of_le hie] at hrun
      simp only [compL, Res.ok.injEq] at hrun
      obtain ⟨rfl, rfl⟩ := hrun
      rw [List.append_nil] at hcs
      subst hcs
      exact q F H D gacc f st wd (ER.back sF er1 hd er hw) (.lst hDl ra) pH
    · have hil : i < l.length := Nat.lt_of_not_le hie
      have hdi : l[i]? = some l[i] := List.getElem?_eq_getElem hil
      obtain ⟨go, yl⟩ := kgo _ hdi
      rw [List.drop_eq_getElem_cons hil] at hrun
      simp only [compL] at hrun
      obtain ⟨a, ρ9, t1, hrun⟩ := bind_okR hrun
      obtain ⟨as, ρ10, t2, hrun⟩ := bind_okR hrun
      cases hrun
      rw [← hfb] at t1
      unfold turnF at t1
      obtain ⟨ρ2, ρ', u1, ta⟩ := bind_okR t1
      clear t1
      obtain ⟨u1, ep⟩ := of_okR u1
      clear ep
      obtain ⟨tv, ρx, u2, tc⟩ := bind_okR ta
      clear ta
      obtain ⟨tb, ρ3, u3, t1⟩ := bind_okR tc
      clear tc
      obtain ⟨e8, e9⟩ := asBool_ok u3
      clear u3
      subst e8 e9
      refine .inr ⟨go, fun H' => LcAt O n X.K F1 H1 f1 H0 σ own fb l cs ρe (nc elt && ncs cond) D (i + 1) H', fun H' h => ⟨l.length - (i + 1), by omega, rfl, hil, h⟩, fun x H' hy => ?_⟩
      obtain ⟨F', y1, y2, y3, y4, fx⟩ := yl x H' hy
      have lvA : ∀ b ∈ (D :: gacc) ++ f, H b ≠ none := fun b m => by
        rcases List.mem_append.mp m with m | m
        · rcases List.mem_cons.mp m with e | m
          · rw [e, hDl]; exact fun z => nomatch z
          · exact CRs.lives _ ra b m
        · exact ER.lives er b m
      have keepA : ∀ b ∈ (D :: gacc) ++ f, H' b = H b := fun b m => by
        cases e : H b with
        | none => exact absurd e (lvA b m)
        | some o => exact y2 b o e
      have wd' : Wd F' H' ((D :: gacc) ++ f) := ⟨y4, wd.nd, fun b m => by
        cases e : F' b with
        | none => rfl
        | some o =>
          rcases y3 b (by rw [e]; exact fun z => nomatch z) with z | z
          · exact absurd (wd.ap b m) z
          · exact absurd z (lvA b m)⟩
      have stY : Step F H ((D :: gacc) ++ f) F' H' ((D :: gacc) ++ f) := {
        fr := y1
        keep := fun b o e _ => y2 b o e
        there := fun b e => by
          cases z : H b with
          | none => exact absurd z e
          | some o => rw [y2 b o z]; exact fun z => nomatch z
        nf := fun b m => .inl m
        nF := fun b e => (y3 b e).imp id .inl }
      have er' : ER X.K O.ca F' H' (L2.wipe σ own) ρ f := er.mv y1 fun b m => keepA b (List.mem_append_right _ m)
      have ra' : CRs X.K O.ca F' H' acc accC gacc := CRs.mv y1 _ ra fun b m => keepA b (List.mem_append_left _ (List.mem_cons_of_mem _ m))
      have hDl' : H' D = some (.lst acc) := (keepA D (by simp)).trans hDl
      have st' : Step F1 H1 f1 F' H' ((D :: gacc) ++ f) := st.trans stY
      refine gT_ok y4 tg u1 fx er' fun σ2 f2 sub er2 kσ => ?_
      have hwσ : L2.wipe σ2 own = L2.wipe σ own := wipe_eq (by
          have e1 := ER.length er2
          have e2 := ER.length er'
          rw [setTg_env u1] at e1
          rw [L2.wipe_length] at e2
          omega) fun j hj => kσ j fun hm => hj (by simpa using List.all_eq_true.mp hI j hm)
      refine ⟨hwσ, ?_⟩
      have subA : ((D :: gacc) ++ f2).Sublist ((D :: gacc) ++ f) := sub.append_left _
      have w2 : Wd F' H' ((D :: gacc) ++ f2) := wd'.sub subA
      have st2 : Step F1 H1 f1 F' H' ((D :: gacc) ++ f2) := st'.less fun b m => subA.subset m
      have lv2 : ∀ b ∈ D :: gacc, H' b ≠ none := fun b m => by rw [keepA b (List.mem_append_left _ m)]; exact lvA b (List.mem_append_left _ m)
      -- what follows the tests
      have after : ∀ (F3 H3 : Hp) (f3 : List Addr), Step F' H' f2 F3 H3 f3 → Wd F3 H3 f3 → ER X.K O.ca F3 H3 σ2 ρ3 f3 → (ncs cond = true → Same H' H3) →
          (if tb = true then tE O n X.K W0 elt σ2 H3 fun y H4 => ∃ acc, H4 D = some (.lst acc) ∧ acc.length < sizeLine ∧ LcAt O n X.K F1 H1 f1 H0 σ own fb l cs ρe (nc elt && ncs cond) D (i + 1) (upd H4 D (.lst (acc ++ [y])))
            else LcAt O n X.K F1 H1 f1 H0 σ own fb l cs ρe (nc elt && ncs cond) D (i + 1) H3) := fun F3 H3 f3 s3 w3 er3 p3 => by
        have wA3 : Wd F3 H3 ((D :: gacc) ++ f3) := s3.apart w2 w3 lv2
        have kA3 := s3.stay w2.nd lv2
        have ra3 : CRs X.K O.ca F3 H3 acc accC gacc := CRs.mv s3.fr _ ra' fun b m => kA3 b (List.mem_cons_of_mem _ m)
        have hD3 : H3 D = some (.lst acc) := (kA3 D List.mem_cons_self).trans hDl'
        have st3 : Step F1 H1 f1 F3 H3 ((D :: gacc) ++ f3) := st2.trans (s3.more _)
        cases tb with
        | false =>
          simp only [Bool.false_eq_true, if_false] at t1 ⊢
          split at t1 <;> first | (cases t1; done) | skip
          rename_i hod
          cases t1
          refine ⟨F3, f3, gacc, Z.wipe ρ3 own, acc, accC, as, wA3, ER.again er3 hod hwσ, hD3, ra3, st3, ?_, fun e => ?_, fun v m => slot_wiped m, t2, by simpa using hcs, by omega⟩
          · rcases hp with hp | hp
            · rw [Bool.and_eq_true] at hp
              exact s0H.trans (y2.trans (p3 hp.2))
            · rw [hp]; exact st3.fr.trans w3.same
          · have := pH e
            rw [Bool.and_eq_true] at e
            exact this.trans (y2.trans (p3 e.2))
        | true =>
          simp only [if_true] at t1 ⊢
          obtain ⟨ev, ρ4, u4, ta⟩ := bind_okR t1
          clear t1
          obtain ⟨cc, ρ5, u5, t1⟩ := bind_okR ta
          clear ta
          split at t1 <;> first | (cases t1; done) | skip
          rename_i hod
          cases t1
          refine ⟨ρ3, F3, f3, w3, er3, ?_⟩
          rw [u4]
          intro F4 H4 y g4 f4 s4 w4 er4 r4 p4
          obtain ⟨F5, g5, f5, cr5, er5, w5, s5⟩ := putIn_ok elt w4 er4 r4 u5
          have s45 := s4.trans s5
          have lv3 : ∀ b ∈ D :: gacc, H3 b ≠ none := fun b m => by rw [kA3 b m]; exact lv2 b m
          have wA5 : Wd F5 H4 ((D :: gacc) ++ (g5 ++ f5)) := s45.apart wA3 w5 lv3
          have kA5 := s45.stay wA3.nd lv3
          have hD4 : H4 D = some (.lst acc) := (kA5 D List.mem_cons_self).trans hD3
          refine ⟨acc, hD4, by rw [sizeLine_eq]; omega, ?_⟩
          have inD : D ∈ (D :: gacc) ++ (g5 ++ f5) := by simp
          have stU := step_upd (F := F5) (o' := .lst (acc ++ [y])) inD hD4
          have wU := wd_upd (o' := .lst (acc ++ [y])) wA5 inD hD4
          have off : ∀ b ∈ gacc ++ (g5 ++ f5), (upd H4 D (.lst (acc ++ [y]))) b = H4 b := fun b m => upd_ne fun e => by
            subst e
            have := wA5.nd
            rw [List.cons_append, List.nodup_cons] at this
            exact this.1 m
          have ra5 : CRs X.K O.ca F5 (upd H4 D (.lst (acc ++ [y]))) acc accC gacc := CRs.mv s45.fr _ ra3 fun b m => (off b (List.mem_append_left _ m)).trans (kA5 b (List.mem_cons_of_mem _ m))
          have rc5 : CR X.K O.ca F5 (upd H4 D (.lst (acc ++ [y]))) y cc g5 := CR.mv (Same.refl _) _ cr5 fun b m => off b (List.mem_append_right _ (List.mem_append_left _ m))
          have er6 : ER X.K O.ca F5 (upd H4 D (.lst (acc ++ [y]))) σ2 ρ5 f5 := er5.mv (Same.refl _) fun b m => off b (List.mem_append_right _ (List.mem_append_right _ m))
          have st5 : Step F1 H1 f1 F5 (upd H4 D (.lst (acc ++ [y]))) ((D :: gacc) ++ (g5 ++ f5)) := (st3.trans (s45.more _)).trans stU
          have eqA : (D :: gacc) ++ (g5 ++ f5) = (D :: (gacc ++ (g5 ++ []))) ++ f5 := by simp
          rw [eqA] at wU st5
          have cut : Same H0 H4 → Same H0 (upd H4 D (.lst (acc ++ [y]))) := fun s b o e => by
            have : b ≠ D := fun z => by subst z; rw [h0D] at e; cases e
            rw [upd_ne this]
            exact s b o e
          have cut1 : Same H1 H4 → Same H1 (upd H4 D (.lst (acc ++ [y]))) := fun s b o e => by
            have : b ≠ D := fun z => by subst z; rw [hD] at e; cases e
            rw [upd_ne this]
            exact s b o e
          refine ⟨F5, f5, gacc ++ (g5 ++ []), Z.wipe ρ5 own, acc ++ [y], accC ++ [cc], as, wU, ER.again er6 hod hwσ, upd_same, crs_append ra5 (.cons rc5 .nil), st5, ?_, fun e => ?_, fun v m => slot_wiped m, t2, by rw [List.append_assoc]; exact hcs, by rw [List.length_append, List.length_singleton]; omega⟩
          · rcases hp with hp | hp
            · rw [Bool.and_eq_true] at hp
              exact cut (s0H.trans (y2.trans ((p3 hp.2).trans (p4 hp.1))))
            · exact cut (by rw [hp]; exact (st3.trans (s45.more _)).fr.trans wA5.same)
          · have := pH e
            rw [Bool.and_eq_true] at e
            exact cut1 (this.trans (y2.trans ((p3 e.2).trans (p4 e.1))))
      -- the tests
      match cond, hcl, u2, after with
      | [], _, u2, after =>
        simp only [evAnd] at u2
        cases u2
        exact after F' H' f2 Step.refl (w2.sub (List.sublist_append_right _ _)) er2 fun _ => Same.refl _
      | [c], _, u2, after =>
        refine ⟨ρ2, F', f2, w2.sub (List.sublist_append_right _ _), er2, ?_⟩
        simp only [evAnd] at u2
        obtain ⟨cv, ρ8, v1, u2⟩ := bind_okR u2
        obtain ⟨b7, ρ7, v2, u2⟩ := bind_okR u2
        obtain ⟨e5, e6⟩ := asBool_ok v2
        subst e5 e6
        rw [v1]
        intro F3 H3 xv g3 f3 s3 w3 er3 r3 p3
        obtain ⟨rfl, rfl⟩ := vr_bool r3
        have hb : b7 = tb ∧ ρ7 = ρ3 := by
          cases b7 <;> (cases u2; exact ⟨rfl, rfl⟩)
        obtain ⟨rfl, rfl⟩ := hb
        exact ⟨b7, rfl, after F3 H3 f3 s3 w3 er3 fun e => p3 (by simpa [ncs] using e)⟩
end
end Z
set_option linter.all false
set_option Elab.async false
set_option maxRecDepth 100000
/-! Z17: comprehensions, as values. -/
namespace Z
open PySem L2 PyProof.Rows
section
variable {K : PySem.W.Frag} {ca : Nat → Addr} {F H F' H' : Hp} {σ : L2.St}
theorem VRs.stay {f f' : List Addr} (st : Step F H f F' H' f') (hp : Same H H') : ∀ {vs : List Val} {xs : List V} {g : List Addr}, Wd F H (g ++ f) → VRs K ca F H σ xs vs g → VRs K ca F' H' σ xs vs g
  | [], _, _, _, h => by cases h; exact .nil
  | v :: vs, _, _, w, h => by
    cases h with
    | @cons x v xs vs g1 g2 a r =>
      have w1 : Wd F H (g1 ++ f) := w.sub (by rw [List.append_assoc]; exact (List.sublist_append_right g2 f).append_left g1)
      have w2 : Wd F H (g2 ++ f) := w.sub (by rw [List.append_assoc]; exact List.sublist_append_right _ _)
      exact .cons (VR.stay st w1 a fun _ => hp) (VRs.stay st hp w2 r)
theorem VRs.len : ∀ {vs : List Val} {xs : List V} {g : List Addr}, VRs K ca F H σ xs vs g → xs.length = vs.length
  | [], _, _, h => by cases h; rfl
  | v :: vs, _, _, h => by cases h with | cons a r => rw [List.length_cons, List.length_cons, VRs.len r]
theorem VRs.lives : ∀ {vs : List Val} {xs : List V} {g : List Addr}, VRs K ca F H σ xs vs g → ∀ a ∈ g, H a ≠ none
  | [], _, _, h, a, m => by cases h; cases m
  | v :: vs, _, _, h, a, m => by
    cases h with
    | cons b r =>
      rcases List.mem_append.mp m with m | m
      · cases v with
        | own c => exact CR.lives c b a m
        | bor i p => rw [b.bor_nil] at m; cases m
      · exact VRs.lives r a m
theorem frzs_ok : ∀ {vs : List Val} {xs : List V} {g : List Addr} {ρ ρ' : Env} {ds : List PyData} {F : Hp} {f : List Addr}, Wd F H (g ++ f) → ER K ca F H σ ρ f → VRs K ca F H σ xs vs g → frzs vs ρ = .ok ds ρ' →
    ∃ F' f', FRs K F' xs ds ∧ ER K ca F' H σ ρ' f' ∧ Wd F' H f' ∧ Step F H (g ++ f) F' H f'
  | [], _, _, _, _, _, F, f, w, er, h, e => by
    cases h
    simp only [frzs, Res.ok.injEq] at e
    obtain ⟨rfl, rfl⟩ := e
    exact ⟨F, f, .nil, er, w, Step.refl⟩
  | v :: vs, _, _, _, _, _, F, f, w, er, h, e => by
    cases h with
    | @cons x v xs vs g1 g2 a r =>
      simp only [frzs] at e
      obtain ⟨d, ρ1, e1, e⟩ := bind_okR e
      obtain ⟨ds, ρ2, e2, e⟩ := bind_okR e
      cases e
      have w1 : Wd F H (g1 ++ f) := w.sub (by rw [List.append_assoc]; exact (List.sublist_append_right g2 f).append_left g1)
      obtain ⟨F1, f1, fr, er1, wd1, st1⟩ := VR.frz w1 er a e1
      have wp : Wd F H (g2 ++ (g1 ++ f)) := w.perm (by
        rw [← List.append_assoc]
        exact (List.perm_append_comm (l₁ := g1) (l₂ := g2)).append_right f)
      have r1 := VRs.stay st1 (Same.refl _) wp r
      have lv := VRs.lives r
      have w2 : Wd F1 H (g2 ++ f1) := st1.apart wp wd1 lv
      obtain ⟨F2, f2, frs, er2, wd2, st2⟩ := frzs_ok w2 er1 r1 e2
      refine ⟨F2, f2, .cons (FR.mono st2.fr _ fr) frs, er2, wd2, ?_⟩
      have s3 := (st1.more g2).trans st2
      exact s3.wide fun a m => by simp only [List.mem_append] at m ⊢; rcases m with m | m | m <;> simp [m]
end
section
variable {O : Wo} {n : Nat} {X : Cx} {W : WX} {e x y z : Expr} {a b c : E} {xs : List Expr} {as : List E}
theorem inner_ok' {α β : Type} {K : PySem.W.Frag} {r : Res α} {f : α → Env → Res β} (h : r.inner f ≠ .bad) : ∃ a ρ, r = .ok a ρ := by
  cases r with
  | ok a ρ => exact ⟨a, ρ, rfl⟩
  | exc _ _ => exact absurd rfl h
  | bad => exact absurd rfl h
/-- the sources of a comprehension are told, the walk begins: F1, H0 as lc_main asks -/
theorem comp_go {tg : Tg} {own : List Nat} {elt : E} {cond : List E} {l : List PyData} {ρ1 : Env} {F H F1 H1 H0 : Hp} {f f1 gx : List Addr} {σ : L2.St} {J : It} {Q : VK} {ir : E} (hir : nc ir = false) (st : Step F H f F1 H1 gx) (hs : ∀ a ∈ f1, a ∈ gx) (w1 : Wd F1 H1 f1) (er1 : ER X.K O.ca F1 H1 σ ρ1 f1)
    (hI : (tgI tg).all own.contains = true) (wk : Wk X.K F1 H0 J l) (s01 : Same H0 H1) (hp : (nc elt && ncs cond) = true ∨ H0 = F1) (hl : l.length ≤ 16777216) (hcl : cond.length ≤ 1)
    (out : OutV X.K O.ca W F H f σ Q (nc ir) (if !ownD ρ1 own then .bad else (compL (turnF tg own elt (fun ρ => evAnd O.T (callF O.T n) cond ρ) (fun ρ => evE O.T (callF O.T n) elt ρ)) l (Z.wipe ρ1 own)).inner fun cs ρ' => .ok (.own (.lst cs)) (unwipe ρ1 ρ' own))) :
    ∀ D, H1 D = none → ∃ Wi : Nat → Nat → Hp → Prop, (∃ m, Wi 0 m (upd H1 D (.lst []))) ∧ ∀ i m H, Wi i m H → (J.stop i H ∧ Q (.ref D) H) ∨ (J.go i H ∧ ∃ Nx : Hp → Prop, (∀ H', Nx H' → ∃ m', m' < m ∧ Wi (i + 1) m' H') ∧
      ∀ x H', J.yld i H x H' → gT X.K tg x (L2.wipe σ own) H' fun σ2 H2 => L2.wipe σ2 own = L2.wipe σ own ∧ tC1 O n X.K cond σ2 H2 fun b H3 => if b = true then tE O n X.K W0 elt σ2 H3 fun y H4 => ∃ acc, H4 D = some (.lst acc) ∧ acc.length < sizeLine ∧ Nx (upd H4 D (.lst (acc ++ [y]))) else Nx H3) := by
  by_cases hd : ownD ρ1 own = true
  · rw [if_neg (by rw [hd]; exact Bool.false_ne_true)] at out
    cases hr : compL (turnF tg own elt (fun ρ => evAnd O.T (callF O.T n) cond ρ) (fun ρ => evE O.T (callF O.T n) elt ρ)) l (Z.wipe ρ1 own) with
    | bad => rw [hr] at out; exact out.elim
    | exc x ρ => rw [hr] at out; exact out.elim
    | ok cs ρe =>
      rw [hr] at out
      refine lc_main w1 er1 hd hI wk s01 hp hl hcl hr fun F' H' D gacc f' s' w' er' cr' _ => ?_
      exact out F' H' (.ref D) (D :: gacc) f' (st.trans (s'.wide hs)) w' er' cr' fun e => by rw [hir] at e; cases e
  · rw [if_pos (by cases h : ownD ρ1 own <;> first | rfl | exact absurd h hd)] at out
    exact out.elim
theorem comp_pl {t : Expr} {tg : Tg} {own : List Nat} {elt s : E} {cond : List E} (hI : (tgI tg).all own.contains = true) (hcl : cond.length ≤ 1) (σ : L2.St) (H : Hp) (Q : VK) (q : tE O n X.K W (.comp elt tg .pl [s] cond own) σ H Q) :
    tLc (iW X t (tE O n X.K W s)) (gT X.K tg) (tC1 O n X.K cond) (tE O n X.K W0 elt) own σ H Q := by
  obtain ⟨ρ, F, f, w, er, out⟩ := q
  refine ⟨ρ, F, f, w, er, ?_⟩
  simp only [evE, evVs] at out
  cases e1 : evE O.T (callF O.T n) s ρ with
  | bad => rw [e1] at out; exact out
  | exc x1 ρ1 => rw [e1] at out; exact out
  | ok v ρ1 =>
    rw [e1] at out
    simp only [bind_ok, ncs, Bool.not_true, Bool.and_false, Bool.false_eq_true, if_false] at out
    intro F1 H1 xv g f1 st1 w1 er1 r1 p1
    by_cases hpure : (nc elt && ncs cond) = true
    · rw [if_pos hpure] at out
      simp only [peeks] at out
      cases e2 : peek ρ1 v with
      | none => rw [e2] at out; exact out.elim
      | some d =>
        rw [e2] at out
        simp only [Option.map_some, Option.bind_some, of_some, bind_ok, srcOf] at out
        by_cases hlen : lenOk d = true
        · rw [if_pos hlen] at out
          cases e3 : items d with
          | none => rw [e3] at out; exact out.elim
          | some l =>
            rw [e3] at out
            simp only [of_some, bind_ok] at out
            exact it_pl w1.same (Same.refl _) (VR.peek er1 r1 e2) hlen e3 fun J hl wk => comp_go rfl st1 (fun a m => List.mem_append_right _ m) (w1.sub (List.sublist_append_right _ _)) er1 hI wk (Same.refl _) (.inl hpure) hl hcl out
        · rw [if_neg hlen] at out
          exact out.elim
    · rw [if_neg hpure] at out
      simp only [frzs] at out
      cases e2 : frz ρ1 v with
      | bad => rw [e2] at out; exact out.elim
      | exc x2 ρ2 =>
        exfalso
        cases v with
        | own c => simp only [frz] at e2; cases h : c.toD <;> rw [h] at e2 <;> cases e2
        | bor i p => simp only [frz] at e2; split at e2 <;> cases e2
      | ok d ρ2 =>
        rw [e2] at out
        simp only [bind_ok, srcOf] at out
        obtain ⟨F2, f2, fr, er2, w2, st2⟩ := VR.frz w1 er1 r1 e2
        by_cases hlen : lenOk d = true
        · rw [if_pos hlen] at out
          cases e3 : items d with
          | none => rw [e3] at out; exact out.elim
          | some l =>
            rw [e3] at out
            simp only [of_some, bind_ok] at out
            exact it_pl (Same.refl _) w2.same (PR.fr fr) hlen e3 fun J hl wk => comp_go rfl (st1.trans st2) (fun a m => m) w2 er2 hI wk w2.same (.inr rfl) hl hcl out
        · rw [if_neg hlen] at out
          exact out.elim
theorem vs_len : ∀ {as : List E} {ρ ρ' : Env} {vs : List Val}, evVs O.T (callF O.T n) as ρ = .ok vs ρ' → vs.length = as.length
  | [], _, _, _, h => by simp only [evVs] at h; cases h; rfl
  | a :: as, ρ, _, _, h => by
    simp only [evVs] at h
    obtain ⟨v, ρ1, _, h⟩ := bind_okR h
    split at h <;> first | (cases h; done) | skip
    obtain ⟨vs, ρ2, e, h⟩ := bind_okR h
    cases h
    rw [List.length_cons, List.length_cons, vs_len e]
theorem comp_src {K : PySem.W.Frag} {ca : Nat → Addr} {F H F1 H1 : Hp} {f g f1 : List Addr} {σ : L2.St} {ρ1 ρ2 : Env} {vs : List Val} {xs : List V} {ds : List PyData} {pu : Bool} (st1 : Step F H f F1 H1 (g ++ f1)) (w1 : Wd F1 H1 (g ++ f1)) (er1 : ER K ca F1 H1 σ ρ1 f1) (r1 : VRs K ca F1 H1 σ xs vs g)
    (h : (if pu = true then Res.of (peeks ρ1 vs) ρ1 else frzs vs ρ1) = .ok ds ρ2) : ∃ F2 f2 gx, Step F H f F2 H1 gx ∧ (∀ a ∈ f2, a ∈ gx) ∧ Wd F2 H1 f2 ∧ ER K ca F2 H1 σ ρ2 f2 ∧ PRs K F2 H1 xs ds := by
  cases pu with
  | true =>
    simp only [if_true] at h
    obtain ⟨h1, rfl⟩ := of_okR h
    exact ⟨F1, f1, _, st1, fun a m => List.mem_append_right _ m, w1.sub (List.sublist_append_right _ _), er1, r1.peeks er1 h1⟩
  | false =>
    simp only [Bool.false_eq_true, if_false] at h
    obtain ⟨F2, f2, fr, er2, w2, st2⟩ := frzs_ok w1 er1 r1 h
    exact ⟨F2, f2, f2, st1.trans st2, fun a m => m, w2, er2, prs_of fr⟩
where
  prs_of {K : PySem.W.Frag} {F H : Hp} : ∀ {ds : List PyData} {xs : List V}, FRs K F xs ds → PRs K F H xs ds
  | [], _, h => by cases h; exact .nil
  | d :: ds, _, h => by cases h with | cons a r => exact .cons (.fr a) (prs_of r)
theorem pr_int {K : PySem.W.Frag} {F H : Hp} {x : V} {i : Int} (h : PR K F H x (.int i)) : x = .int i := by cases h with | fr h => cases h; rfl
theorem comp_rg1 {tg : Tg} {own : List Nat} {elt s : E} {cond : List E} (hI : (tgI tg).all own.contains = true) (hcl : cond.length ≤ 1) (σ : L2.St) (H : Hp) (Q : VK) (q : tE O n X.K W (.comp elt tg .range [s] cond own) σ H Q) :
    tLc (iRng1 (tVs O n X.K W [s])) (gT X.K tg) (tC1 O n X.K cond) (tE O n X.K W0 elt) own σ H Q := by
  obtain ⟨ρ, F, f, w, er, out⟩ := q
  refine ⟨ρ, F, f, w, er, ?_⟩
  simp only [evE] at out
  cases e1 : evVs O.T (callF O.T n) [s] ρ with
  | bad => rw [e1] at out; exact out
  | exc x1 ρ1 => rw [e1] at out; exact out
  | ok vs ρ1 =>
    rw [e1] at out
    simp only [bind_ok] at out
    intro F1 H1 xs g f1 st1 w1 er1 r1 p1
    cases e2 : (if (nc elt && ncs cond) = true then Res.of (peeks ρ1 vs) ρ1 else frzs vs ρ1) with
    | bad => rw [e2] at out; exact out.elim
    | exc x2 ρ2 => exact (src_exc e2).elim
    | ok ds ρ2 =>
      rw [e2] at out
      simp only [bind_ok] at out
      obtain ⟨F2, f2, gx, st2, hs, w2, er2, pr⟩ := comp_src st1 w1 er1 r1 e2
      cases e3 : srcOf .range ds with
      | none => rw [e3] at out; exact out.elim
      | some l =>
        rw [e3] at out
        simp only [of_some, bind_ok] at out
        have hv := vs_len e1
        have hx : ds.length = 1 := by
          have := pr.length
          have h2 := r1.len
          simp only [List.length_singleton] at hv
          omega
        match ds, hx, e3, pr with
        | [d], _, e3, pr =>
          cases d <;> simp only [srcOf] at e3 <;> first | (cases e3; done) | skip
          rename_i j _
          split at e3 <;> first | (cases e3; done) | skip
          rename_i hr
          cases e3
          cases pr with
          | cons a r =>
            cases r
            simp only [rangeOk, Bool.and_eq_true, decide_eq_true_eq] at hr
            have := pr_int a
            subst this
            have hw : Wk X.K F2 F2 (Itr 0 j.toNat) (rangeD 0 j) := by
              have := wk_rng (K := X.K) (F0 := F2) (H0 := F2) (lo := 0) (hi := j)
              rwa [Int.sub_zero] at this
            exact ⟨j, rfl, hr.1.1.2, hr.1.2, comp_go rfl st2 hs w2 er2 hI hw w2.same (.inr rfl) (by simp [rangeD]; omega) hcl out⟩
where
  src_exc {pu : Bool} {ρ1 ρ2 : Env} {vs : List Val} {x2 : Exn} (h : (if pu = true then Res.of (peeks ρ1 vs) ρ1 else frzs vs ρ1) = .exc x2 ρ2) : False := by
    cases pu with
    | true =>
      simp only [if_true] at h
      cases e : peeks ρ1 vs <;> rw [e] at h <;> cases h
    | false =>
      simp only [Bool.false_eq_true, if_false] at h
      exact frzs_exc h
  frzs_exc : ∀ {vs : List Val} {ρ1 ρ2 : Env} {x2 : Exn}, frzs vs ρ1 = .exc x2 ρ2 → False
    | [], _, _, _, h => by cases h
    | v :: vs, ρ1, ρ2, x2, h => by
      simp only [frzs] at h
      cases e2 : frz ρ1 v with
      | bad => rw [e2] at h; cases h
      | exc x2 ρ2 =>
        cases v with
        | own c => simp only [frz] at e2; cases h : c.toD <;> rw [h] at e2 <;> cases e2
        | bor i p => simp only [frz] at e2; split at e2 <;> cases e2
      | ok d ρ3 =>
        rw [e2] at h
        simp only [bind_ok] at h
        cases e3 : frzs vs ρ3 with
        | bad => rw [e3] at h; cases h
        | exc _ _ => exact frzs_exc e3
        | ok _ _ => rw [e3] at h; cases h
theorem comp_rg2 {tg : Tg} {own : List Nat} {elt s s2 : E} {cond : List E} (hI : (tgI tg).all own.contains = true) (hcl : cond.length ≤ 1) (σ : L2.St) (H : Hp) (Q : VK) (q : tE O n X.K W (.comp elt tg .range [s, s2] cond own) σ H Q) :
    tLc (iRng2 (tVs O n X.K W [s, s2])) (gT X.K tg) (tC1 O n X.K cond) (tE O n X.K W0 elt) own σ H Q := by
  obtain ⟨ρ, F, f, w, er, out⟩ := q
  refine ⟨ρ, F, f, w, er, ?_⟩
  simp only [evE] at out
  cases e1 : evVs O.T (callF O.T n) [s, s2] ρ with
  | bad => rw [e1] at out; exact out
  | exc x1 ρ1 => rw [e1] at out; exact out
  | ok vs ρ1 =>
    rw [e1] at out
    simp only [bind_ok] at out
    intro F1 H1 xs g f1 st1 w1 er1 r1 p1
    cases e2 : (if (nc elt && ncs cond) = true then Res.of (peeks ρ1 vs) ρ1 else frzs vs ρ1) with
    | bad => rw [e2] at out; exact out.elim
    | exc x2 ρ2 => exact (comp_rg1.src_exc e2).elim
    | ok ds ρ2 =>
      rw [e2] at out
      simp only [bind_ok] at out
      obtain ⟨F2, f2, gx, st2, hs, w2, er2, pr⟩ := comp_src st1 w1 er1 r1 e2
      cases e3 : srcOf .range ds with
      | none => rw [e3] at out; exact out.elim
      | some l =>
        rw [e3] at out
        simp only [of_some, bind_ok] at out
        have hv := vs_len e1
        have hx : ds.length = 2 := by
          have := pr.length
          have h2 := r1.len
          simp only [List.length_cons, List.length_nil] at hv
          omega
        match ds, hx, e3, pr with
        | [d, d2], _, e3, pr =>
          cases d <;> cases d2 <;> simp only [srcOf] at e3 <;> first | (cases e3; done) | skip
          rename_i i j _
          split at e3 <;> first | (cases e3; done) | skip
          rename_i hr
          cases e3
          cases pr with
          | cons a r =>
            cases r with
            | cons b r =>
              cases r
              simp only [rangeOk, Bool.and_eq_true, decide_eq_true_eq] at hr
              have e7 := pr_int a
              have e8 := pr_int b
              subst e7 e8
              exact ⟨i, j, rfl, ⟨hr.1.1.1.1, hr.1.1.1.2, hr.1.1.2, hr.1.2⟩, comp_go rfl st2 hs w2 er2 hI wk_rng w2.same (.inr rfl) (by simp [rangeD]; omega) hcl out⟩

/-- the block's context -/
theorem pts_of {Y : Cx} {ifs : List Expr} {cond : List E} (h : ELs O n Y W0 ifs cond) (hl : cond.length ≤ 1) : PTs Y ifs (tC1 O n Y.K cond) := by
  cases h with
  | nil => exact pts_nil
  | cons h r =>
    cases r with
    | nil => exact pts_one h.pt
    | cons _ _ => simp at hl
theorem own_map (N : List Str) (own : List Nat) : (own.map fun i => ((N[i]?).getD ("" : Str), i)).map (·.2) = own := by
  induction own with
  | nil => rfl
  | cons i is ih => rw [List.map_cons, List.map_cons, ih]
theorem s_comp {x t it : Expr} {ifs : List Expr} {scope sc : Scope} {p : Pos} {elt : E} {tg : Tg} {k : ItK} {src cond : List E} {own : List Nat} {wi : TI} (hc : X.calm = true) (hN : X.N.Nodup) (hs : X.env.scope = sc) (hb : blkC X.N sc scope (own.map fun i => (X.N[i]?.getD "", i)) = true)
    (htg : tgB (fun x => scope.names.lookup x == some .cell) (relS scope sc) X.N tg t = true) (hcl : cond.length ≤ 1) (hi : PI X t it wi)
    (hel : ∀ (s : Shared) (H : Hp) (C : Addr) (cl : List (Str × Addr)) (fp : List Addr), EOk O n (X.blk s H scope (compEnvC scope cl C X.env) fp) W0 x elt)
    (hcd : ∀ (s : Shared) (H : Hp) (C : Addr) (cl : List (Str × Addr)) (fp : List Addr), ELs O n (X.blk s H scope (compEnvC scope cl C X.env) fp) W0 ifs cond)
    (hfold : ∀ v, foldedSetIterable it X.env v = pure v)
    (key : ∀ σ H Q, tE O n X.K W (.comp elt tg k src cond own) σ H Q → tLc wi (gT X.K tg) (tC1 O n X.K cond) (tE O n X.K W0 elt) own σ H Q) : EOk O n X W (.ListComp x [⟨t, it, ifs, 0⟩] scope p) (.comp elt tg k src cond own) := by
  subst hs
  have h1 : PE X (.ListComp x [⟨t, it, ifs, 0⟩] scope p) (tE O n X.K W (.comp elt tg k src cond own)) := by
    refine PE.imp (pe_lc (own := own.map fun i => ((X.N[i]?).getD ("" : Str), i)) (wi := wi) (g := gT X.K tg) (tt := tC1 O n X.K cond) (te := tE O n X.K W0 elt) hc hN hi (blkOk_by hb) (fun s H C cl fp => pg_ok (X := X.blk s H scope (compEnvC scope cl C X.env) fp) (fun y hy => hy) hc hN tg t htg) (fun s H C cl fp => pts_of (hcd s H C cl fp) hcl) (fun s H C cl fp => (hel s H C cl fp).pe) hfold) fun σ H Q q => ?_
    rw [own_map]
    exact key σ H Q q
  exact ⟨h1, pt_val h1, rfl⟩
end
end Z
set_option linter.all false
set_option Elab.async false
set_option maxRecDepth 100000
/-! Z18: calls: arguments, what is given back. -/
namespace Z
open PySem L2 PyProof.Rows
section
variable {K : PySem.W.Frag} {ca : Nat → Addr} {H : Hp} {σ : L2.St}
theorem args1_ok {io : List Nat} : ∀ {vs us : List Val} {xs : List V} {g : List Addr} {k : Nat} {ρ ρ' : Env} {F : Hp} {f : List Addr}, Wd F H (g ++ f) → ER K ca F H σ ρ f → VRs K ca F H σ xs vs g → args1 io k vs ρ = .ok us ρ' →
    ∃ F' g' f', VRs K ca F' H σ xs us g' ∧ ER K ca F' H σ ρ' f' ∧ Wd F' H (g' ++ f') ∧ Step F H (g ++ f) F' H (g' ++ f')
  | [], us, _, _, k, ρ, ρ', F, f, w, er, h, e => by
    cases h
    simp only [args1, Res.ok.injEq] at e
    obtain ⟨rfl, rfl⟩ := e
    exact ⟨F, [], f, .nil, er, w, Step.refl⟩
  | v :: vs, us, _, _, k, ρ, ρ', F, f, w, er, h, e => by
    cases h with
    | @cons x v xs vs g1 g2 a r =>
      simp only [args1] at e
      have wp : Wd F H (g2 ++ (g1 ++ f)) := w.perm (by
        rw [← List.append_assoc]
        exact (List.perm_append_comm (l₁ := g1) (l₂ := g2)).append_right f)
      have w1 : Wd F H (g1 ++ f) := wp.sub (List.sublist_append_right _ _)
      have w2 : Wd F H (g2 ++ f) := w.sub (by rw [List.append_assoc]; exact List.sublist_append_right _ _)
      split at e
      · obtain ⟨us', ρ1, e1, e⟩ := bind_okR e
        cases e
        obtain ⟨F', g', f', r', er', w', st⟩ := args1_ok w2 er r e1
        have wq : Wd F H (g1 ++ (g2 ++ f)) := by rw [← List.append_assoc]; exact w
        have lv : ∀ b ∈ g1, H b ≠ none := fun b m => by
          cases v with
          | own c => exact CR.lives c a b m
          | bor i p => rw [a.bor_nil] at m; cases m
        have wn := st.apart wq w' lv
        refine ⟨F', g1 ++ g', f', .cons (VR.stay st wq a fun _ => Same.refl _) r', er', by rw [List.append_assoc]; exact wn, ?_⟩
        have s3 := st.more g1
        rw [List.append_assoc, List.append_assoc]
        exact s3
      · obtain ⟨d, ρ1, e1, e⟩ := bind_okR e
        obtain ⟨us', ρ2, e2, e⟩ := bind_okR e
        cases e
        obtain ⟨F1, f1, fr, er1, wd1, st1⟩ := VR.frz w1 er a e1
        have r1 := VRs.stay st1 (Same.refl _) wp r
        have wn : Wd F1 H (g2 ++ f1) := st1.apart wp wd1 (VRs.lives r)
        obtain ⟨F2, g', f2, r2, er2, wd2, st2⟩ := args1_ok wn er1 r1 e2
        refine ⟨F2, g', f2, by simpa using VRs.cons (σ := σ) (show VR K ca F2 H σ x (.own (.d d)) [] from CR.d (FR.mono st2.fr _ fr)) r2, er2, wd2, ?_⟩
        have s3 := (st1.more g2).trans st2
        exact s3.wide fun b m => by simp only [List.mem_append] at m ⊢; rcases m with m | m | m <;> simp [m]
theorem args2_len : ∀ {us : List Val} {ρ : Env} {a : List C × List (Option Nat)}, args2 ρ us = some a → a.1.length = us.length ∧ a.2.length = us.length
  | [], _, _, h => by simp only [args2, Option.some.injEq] at h; subst h; exact ⟨rfl, rfl⟩
  | .own c :: vs, ρ, _, h => by
    simp only [args2, Option.map_eq_some_iff] at h
    obtain ⟨r, h, rfl⟩ := h
    obtain ⟨h1, h2⟩ := args2_len h
    simp [h1, h2]
  | .bor i [] :: vs, ρ, _, h => by
    simp only [args2, Option.bind_eq_some_iff, Option.map_eq_some_iff] at h
    obtain ⟨c, _, r, h, rfl⟩ := h
    obtain ⟨h1, h2⟩ := args2_len h
    simp [h1, h2]
  | .bor i (_ :: _) :: vs, ρ, _, h => by simp [args2] at h
/-- a place that isn't asked for may be emptied -/
theorem args2_set {j : Nat} {s : Option C} : ∀ {us : List Val} {ρ : Env} {a : List C × List (Option Nat)}, args2 ρ us = some a → some j ∉ a.2 → args2 (ρ.set j s) us = some a
  | [], _, _, h, _ => h
  | .own c :: vs, ρ, _, h, hj => by
    simp only [args2, Option.map_eq_some_iff] at h ⊢
    obtain ⟨r, h, rfl⟩ := h
    exact ⟨r, args2_set h fun m => hj (List.mem_cons_of_mem _ m), rfl⟩
  | .bor i [] :: vs, ρ, _, h, hj => by
    simp only [args2, Option.bind_eq_some_iff, Option.map_eq_some_iff] at h ⊢
    obtain ⟨c, h0, r, h, rfl⟩ := h
    refine ⟨c, ?_, r, args2_set h fun m => hj (List.mem_cons_of_mem _ m), rfl⟩
    rw [slot_set_ne fun e => hj (by rw [e]; exact List.mem_cons_self)]
    exact h0
  | .bor i (_ :: _) :: vs, ρ, _, h, _ => by simp [args2] at h
theorem goBack_set {j : Nat} {s : Option C} : ∀ {ps : List (Option Nat)} {fin : List (Option C)} {ρ : Env}, some j ∉ ps → goBack ps fin (ρ.set j s) = (goBack ps fin ρ).map fun r => r.set j s
  | [], [], ρ, _ => rfl
  | [], _ :: _, ρ, _ => rfl
  | none :: ps, [], ρ, _ => rfl
  | some i :: ps, [], ρ, _ => rfl
  | none :: ps, o :: fin, ρ, h => by
    simp only [goBack]
    exact goBack_set fun m => h (List.mem_cons_of_mem _ m)
  | some i :: ps, none :: fin, ρ, h => rfl
  | some i :: ps, some c :: fin, ρ, h => by
    simp only [goBack]
    have hij : i ≠ j := fun e => h (by rw [e]; exact List.mem_cons_self)
    rw [List.set_comm _ _ (fun e => hij e.symm)]
    exact goBack_set fun m => h (List.mem_cons_of_mem _ m)
theorem goBack_len : ∀ {ps : List (Option Nat)} {fin : List (Option C)} {ρ ρ' : Env}, goBack ps fin ρ = some ρ' → ρ'.length = ρ.length
  | [], [], ρ, ρ', h => by simp only [goBack, Option.some.injEq] at h; rw [h]
  | [], _ :: _, ρ, ρ', h => by simp [goBack] at h
  | none :: ps, [], ρ, ρ', h => by simp [goBack] at h
  | some i :: ps, [], ρ, ρ', h => by simp [goBack] at h
  | none :: ps, o :: fin, ρ, ρ', h => by simp only [goBack] at h; exact goBack_len h
  | some i :: ps, none :: fin, ρ, ρ', h => by simp [goBack] at h
  | some i :: ps, some c :: fin, ρ, ρ', h => by
    simp only [goBack] at h
    rw [goBack_len h, List.length_set]
theorem goBack_slot {j : Nat} : ∀ {ps : List (Option Nat)} {fin : List (Option C)} {ρ ρ' : Env}, some j ∉ ps → goBack ps fin ρ = some ρ' → slot ρ' j = slot ρ j
  | [], [], ρ, ρ', _, h => by simp only [goBack, Option.some.injEq] at h; rw [h]
  | [], _ :: _, ρ, ρ', _, h => by simp [goBack] at h
  | none :: ps, [], ρ, ρ', _, h => by simp [goBack] at h
  | some i :: ps, [], ρ, ρ', _, h => by simp [goBack] at h
  | none :: ps, o :: fin, ρ, ρ', hj, h => by simp only [goBack] at h; exact goBack_slot (fun m => hj (List.mem_cons_of_mem _ m)) h
  | some i :: ps, none :: fin, ρ, ρ', _, h => by simp [goBack] at h
  | some i :: ps, some c :: fin, ρ, ρ', hj, h => by
    simp only [goBack] at h
    rw [goBack_slot (fun m => hj (List.mem_cons_of_mem _ m)) h, slot_set_ne fun e => hj (by rw [e]; exact List.mem_cons_self)]
/-- the contents of the arguments, taken out of the frame, and given back -/
theorem args2_ok : ∀ {us : List Val} {xs : List V} {g : List Addr} {ρ : Env} {F : Hp} {f : List Addr} {a : List C × List (Option Nat)}, Wd F H (g ++ f) → ER K ca F H σ ρ f → VRs K ca F H σ xs us g → args2 ρ us = some a → apart a.2 = true →
    ∃ gs fr, (gs ++ fr).Perm (g ++ f) ∧ CRs K ca F H xs a.1 gs ∧ ∀ (F' H' : Hp) (fin : List (Option C)) (gf : List Addr) (ρ' : Env), Same F F' → (∀ b ∈ fr, H' b = H b) → ER K ca F' H' (xs.map some) fin gf → goBack a.2 fin ρ = some ρ' →
      ∃ f', (∀ b ∈ f', b ∈ gf ++ fr) ∧ ((gf ++ fr).Nodup → f'.Nodup) ∧ ER K ca F' H' σ ρ' f'
  | [], _, _, ρ, F, f, _, w, er, h, e, _ => by
    cases h
    simp only [args2, Option.some.injEq] at e
    subst e
    refine ⟨[], f, by simp, .nil, fun F' H' fin gf ρ' s k hf hg => ?_⟩
    cases fin with
    | nil =>
      simp only [goBack, Option.some.injEq] at hg
      subst hg
      exact ⟨f, fun b m => List.mem_append_right _ m, fun n => (List.nodup_append.mp n).2.1, er.mv s k⟩
    | cons _ _ => simp [goBack] at hg
  | .own c :: vs, _, _, ρ, F, f, _, w, er, h, e, ap => by
    cases h with
    | @cons x _ xs _ g1 g2 a r =>
      simp only [args2, Option.map_eq_some_iff] at e
      obtain ⟨r0, e, rfl⟩ := e
      have w2 : Wd F H (g2 ++ f) := w.sub (by rw [List.append_assoc]; exact List.sublist_append_right _ _)
      obtain ⟨gs, fr, hp, hc, back⟩ := args2_ok w2 er r e (by simpa [apart] using ap)
      refine ⟨g1 ++ gs, fr, by rw [List.append_assoc, List.append_assoc]; exact hp.append_left g1, .cons a hc, fun F' H' fin gf ρ' s k hf hg => ?_⟩
      cases fin with
      | nil => simp [goBack] at hg
      | cons o fin =>
        simp only [goBack] at hg
        cases hf with
        | no hf => exact back F' H' fin gf ρ' s k hf hg
        | @so _ _ _ _ ff gg hc2 hf =>
          obtain ⟨f', h1, h2, h3⟩ := back F' H' fin gg ρ' s k hf hg
          exact ⟨f', fun b m => by
            have := h1 b m
            simp only [List.mem_append] at this ⊢
            rcases this with z | z <;> simp [z], fun n => h2 (n.sublist (by rw [List.append_assoc]; exact List.sublist_append_right _ _)), h3⟩
  | .bor i [] :: vs, _, _, ρ, F, f, _, w, er, h, e, ap => by
    cases h with
    | @cons x _ xs _ g1 g2 a r =>
      simp only [args2, Option.bind_eq_some_iff, Option.map_eq_some_iff] at e
      obtain ⟨c, e0, r0, e, rfl⟩ := e
      simp only [apart, Bool.and_eq_true, Bool.not_eq_true', List.contains_eq_mem, decide_eq_false_iff_not] at ap
      have hg1 := a.bor_nil
      subst hg1
      obtain ⟨_, w0, hw0, hp0⟩ := a
      cases hp0
      obtain ⟨v, l, gi, rr, hv, hf0, hc0, _, take⟩ := er.focus e0
      rw [hw0] at hv
      cases hv
      have er1 : ER K ca F H σ (ρ.set i none) (l ++ rr) := by
        have := take F H (some x) (Same.refl _) fun _ _ => rfl
        rwa [set_same hw0] at this
      have pf : f.Perm (gi ++ (l ++ rr)) := by
        rw [hf0, ← List.append_assoc]
        exact (List.perm_append_comm (l₁ := l) (l₂ := gi)).append_right rr
      have w2 : Wd F H (g2 ++ (l ++ rr)) := w.sub (by
        rw [List.nil_append, hf0]
        refine List.Sublist.append_left ?_ g2
        rw [List.append_assoc]
        exact (List.sublist_append_right gi rr).append_left l)
      have e' := args2_set (s := none) e ap.1
      obtain ⟨gs, fr, hp, hc, back⟩ := args2_ok w2 er1 r e' ap.2
      refine ⟨gi ++ gs, fr, ?_, .cons hc0 hc, fun F' H' fin gf ρ' s k hf hg => ?_⟩
      · rw [List.append_assoc, List.nil_append]
        have p1 := hp.append_left gi
        refine p1.trans ?_
        rw [← List.append_assoc]
        refine ((List.perm_append_comm (l₁ := gi) (l₂ := g2)).append_right (l ++ rr)).trans ?_
        rw [List.append_assoc]
        exact pf.symm.append_left g2
      · cases fin with
        | nil => simp [goBack] at hg
        | cons o fin =>
          cases o with
          | none => simp [goBack] at hg
          | some cn =>
            simp only [goBack] at hg
            cases hf with
            | @so _ _ _ _ ff gg hc2 hf =>
              rw [goBack_set ap.1] at hg
              obtain ⟨ρ2, hg2, rfl⟩ := Option.map_eq_some_iff.mp hg
              have hg3 : goBack r0.2 fin (ρ.set i none) = some (ρ2.set i none) := by rw [goBack_set ap.1, hg2]; rfl
              obtain ⟨f', h1, h2, h3⟩ := back F' H' fin gg (ρ2.set i none) s k hf hg3
              have hil : i < (ρ2.set i none).length := by
                rw [List.length_set, goBack_len hg2]
                unfold slot at e0
                cases q : ρ[i]? with
                | none => rw [q] at e0; cases e0
                | some _ => exact (List.getElem?_eq_some_iff.mp q).1
              obtain ⟨ins, _⟩ := h3.focus0 hil slot_set_self
              obtain ⟨f3, p3, er3⟩ := ins F' H' x cn ff (Same.refl _) (fun _ _ => rfl) hc2
              rw [set_same hw0, List.set_set] at er3
              refine ⟨f3, fun b m => ?_, fun nd => ?_, er3⟩
              · have := p3.mem_iff.mp m
                simp only [List.mem_append] at this ⊢
                rcases this with z | z
                · simp [z]
                · have := h1 b z
                  simp only [List.mem_append] at this
                  rcases this with z | z <;> simp [z]
              · rw [p3.nodup_iff]
                rw [List.append_assoc] at nd
                have nd' := List.nodup_append.mp nd
                exact List.nodup_append.mpr ⟨nd'.1, h2 nd'.2.1, fun b m b' m' => nd'.2.2 b m b' (h1 b' m')⟩
  | .bor i (_ :: _) :: vs, _, _, ρ, F, f, _, w, er, h, e, _ => by simp [args2] at e
end
end Z
set_option linter.all false
set_option Elab.async false
set_option maxRecDepth 100000
/-! Z19: what a def promises; calls. -/
namespace Z
open PySem L2 PyProof.Rows
/-- the promise of the def f of the table, by what the small language tells of it -/
def spF (O : Wo) (n f : Nat) (K : PySem.W.Frag) : Sp := fun vs H Q E => ∃ (F : Hp) (args : List C) (gs : List Addr), Wd F H gs ∧ CRs K O.ca F H vs args gs ∧ vs.length = (O.ps f).length ∧
  match callF O.T n f args with
  | .ok r fin => ∀ (F' H' : Hp) (x : V) (g gf : List Addr), Step F H gs F' H' (g ++ gf) → Wd F' H' (g ++ gf) → CR K O.ca F' H' x r g → ER K O.ca F' H' (vs.map some) fin gf → Q x H'
  | .exc x fin => ∀ (F' H' : Hp) (cls : Value) (d : Option Addr) (g gf : List Addr), Step F H gs F' H' (g ++ gf) → Wd F' H' (g ++ gf) → XR K O.ca F' H' cls d x g → ER K O.ca F' H' (vs.map some) fin gf → E cls d H'
  | .bad => False
section
variable {O : Wo} {n : Nat} {X : Cx} {W : WX} {xs : List Expr} {as : List E}
theorem args1_exc {io : List Nat} : ∀ {vs : List Val} {k : Nat} {ρ ρ' : Env} {x : Exn}, args1 io k vs ρ = .exc x ρ' → False
  | [], _, _, _, _, h => by simp [args1] at h
  | v :: vs, k, ρ, ρ', x, h => by
    simp only [args1] at h
    split at h
    · cases e : args1 io (k + 1) vs ρ with
      | ok _ _ => rw [e] at h; cases h
      | exc _ _ => exact args1_exc e
      | bad => rw [e] at h; cases h
    · cases e2 : frz ρ v with
      | bad => rw [e2] at h; cases h
      | exc x2 ρ2 =>
        cases v with
        | own c => simp only [frz] at e2; cases h : c.toD <;> rw [h] at e2 <;> cases e2
        | bor i p => simp only [frz] at e2; split at e2 <;> cases e2
      | ok d ρ2 =>
        rw [e2] at h
        simp only [bind_ok] at h
        cases e : args1 io (k + 1) vs ρ2 with
        | ok _ _ => rw [e] at h; cases h
        | exc _ _ => exact args1_exc e
        | bad => rw [e] at h; cases h
theorem callF_np {T : Tab} {n f : Nat} {args : List C} {fd : Fd} (hf : T.fns[f]? = some fd) (h : callF T n f args ≠ .bad) : args.length = fd.np := by
  cases n with
  | zero => exact absurd rfl h
  | succ n =>
    unfold callF at h
    rw [hf] at h
    by_cases e : args.length = fd.np
    · exact e
    · simp only [if_neg e] at h
      exact absurd rfl h
theorem call_key {f : Nat} {fd : Fd} (hfd : O.T.fns[f]? = some fd) (hps : (O.ps f).length = fd.np) (σ : L2.St) (H : Hp) (Q : VK) (q : tE O n X.K W (.call f as) σ H Q) : tCallS (spF O n f X.K) (WE W) (tVs O n X.K W as) σ H Q := by
  obtain ⟨ρ, F, f0, w, er, out⟩ := q
  refine ⟨ρ, F, f0, w, er, ?_⟩
  simp only [evE] at out
  cases e1 : evVs O.T (callF O.T n) as ρ with
  | bad => rw [e1] at out; exact out
  | exc x1 ρ1 => rw [e1] at out; exact out
  | ok vs ρ1 =>
    rw [e1] at out
    simp only [bind_ok] at out
    intro F1 H1 xs g f1 st1 w1 er1 r1 p1
    rw [hfd] at out
    simp only [doCall, argsOf] at out
    cases e2 : args1 fd.io 0 vs ρ1 with
    | bad => rw [e2] at out; exact out.elim
    | exc x2 ρ2 => exact (args1_exc e2).elim
    | ok us ρ2 =>
      rw [e2] at out
      simp only [bind_ok] at out
      obtain ⟨F2, g2, f2, r2, er2, w2, st2⟩ := args1_ok w1 er1 r1 e2
      cases e3 : args2 ρ2 us with
      | none => rw [e3] at out; exact out.elim
      | some a =>
        rw [e3] at out
        simp only [of_some, bind_ok] at out
        by_cases hap : apart a.2 = true
        · rw [if_pos hap] at out
          obtain ⟨gs, fr, hp, hc, back⟩ := args2_ok w2 er2 r2 e3 hap
          have wq : Wd F2 H1 (fr ++ gs) := w2.perm (hp.symm.trans List.perm_append_comm)
          have lvr : ∀ b ∈ fr, H1 b ≠ none := fun b m => by
            have := hp.mem_iff.mp (List.mem_append_right gs m)
            rcases List.mem_append.mp this with z | z
            · exact VRs.lives r2 b z
            · exact ER.lives er2 b z
          have lens : ∀ {R : FRes}, callF O.T n f a.1 = R → R ≠ .bad → xs.length = (O.ps f).length := fun {R} e h => by
            have h1 := callF_np hfd (by rw [e]; exact h)
            rw [hps, ← h1, CRs.length hc]
          have st12 : Step F H f0 F2 H1 (g2 ++ f2) := st1.trans st2
          have wide : ∀ {F' H' : Hp} {g' gf f' : List Addr}, Step F2 H1 gs F' H' (g' ++ gf) → (∀ b ∈ f', b ∈ gf ++ fr) → Step F H f0 F' H' (g' ++ f') := fun {F' H' g' gf f'} s hs => by
            have s1 := (s.more fr).wide (g := g2 ++ f2) fun b m => hp.mem_iff.mp (by simp only [List.mem_append] at m ⊢; exact m.symm)
            refine (st12.trans s1).less fun b m => ?_
            rcases List.mem_append.mp m with z | z
            · simp [z]
            · have := hs b z
              simp only [List.mem_append] at this ⊢
              rcases this with z | z <;> simp [z]
          have wdn : ∀ {F' H' : Hp} {g' gf f' : List Addr}, Step F2 H1 gs F' H' (g' ++ gf) → Wd F' H' (g' ++ gf) → (∀ b ∈ f', b ∈ gf ++ fr) → ((gf ++ fr).Nodup → f'.Nodup) → Wd F' H' (g' ++ f') := fun {F' H' g' gf f'} s w' hs hn => by
            have wa := s.apart wq w' lvr
            have nd : (g' ++ (gf ++ fr)).Nodup := by
              have : (fr ++ (g' ++ gf)).Perm (g' ++ (gf ++ fr)) := List.perm_append_comm.trans (by rw [List.append_assoc])
              exact this.nodup_iff.mp wa.nd
            have nd' := List.nodup_append.mp nd
            refine ⟨wa.same, List.nodup_append.mpr ⟨nd'.1, hn nd'.2.1, fun b m b' m' => nd'.2.2 b m b' (hs b' m')⟩, fun b m => wa.ap b ?_⟩
            rcases List.mem_append.mp m with z | z
            · simp [z]
            · have := hs b z
              simp only [List.mem_append] at this ⊢
              rcases this with z | z <;> simp [z]
          cases e4 : callF O.T n f a.1 with
          | bad => rw [e4] at out; exact out.elim
          | ok r fin =>
            rw [e4] at out
            dsimp only at out
            refine ⟨F2, a.1, gs, wq.sub (List.sublist_append_right _ _), hc, lens e4 (fun z => by cases z), ?_⟩
            rw [e4]
            intro F' H' x g' gf s' w' cr' hfin
            cases e5 : goBack a.2 fin ρ2 with
            | none => rw [e5] at out; exact out.elim
            | some ρ' =>
              rw [e5] at out
              obtain ⟨f', h1, h2, h3⟩ := back F' H' fin gf ρ' s'.fr (s'.stay wq.nd lvr) hfin e5
              exact out F' H' x g' f' (wide s' h1) (wdn s' w' h1 h2) h3 cr' fun e => by cases e
          | exc x fin =>
            rw [e4] at out
            dsimp only at out
            refine ⟨F2, a.1, gs, wq.sub (List.sublist_append_right _ _), hc, lens e4 (fun z => by cases z), ?_⟩
            rw [e4]
            intro F' H' cls d g' gf s' w' xr hfin
            cases e5 : goBack a.2 fin ρ2 with
            | none => rw [e5] at out; exact out.elim
            | some ρ' =>
              rw [e5] at out
              obtain ⟨f', h1, h2, h3⟩ := back F' H' fin gf ρ' s'.fr (s'.stay wq.nd lvr) hfin e5
              exact out F' H' cls d g' f' (wide s' h1) (wdn s' w' h1 h2) h3 xr
        · rw [if_neg hap] at out
          exact out.elim
end
end Z
set_option linter.all false
set_option Elab.async false
set_option maxRecDepth 100000
/-! Z20: defs whose callers hold no guard. -/
namespace Z
open PySem L2 PyProof.Rows
/-- a def's promise to callers that hold no guard (repr asks that) -/
structure FnG (P : Program) (w : World) (K : PySem.W.Frag) (mg : Str → Option Value) (base : Heap) (k : Nat) (f : Addr) (fd : FuncData) (ps : List Str) (sp : Sp) : Prop where
  len : ∀ vs H Q E, sp vs H Q E → vs.length = ps.length
  run : ∀ (A : Around) (outer : List PySem.Env) (s : Shared) (H : Hp) (args : Args) (us : List Value) (vs : List V) (Q : VK) (E : XK), A.guards = some [] → Room k A → Env0 P w K mg base A outer s H → BindsTo s fd args (ps.zip us) → Vals vs us → sp vs H Q E →
    codeAny (model P w) A (.call (.ref f) args) (L2.CR (L2.CX P w) outer P w H s Q E) s
theorem FnG.mono {P : Program} {w : World} {K : PySem.W.Frag} {mg : Str → Option Value} {base : Heap} {j k : Nat} {f : Addr} {fd : FuncData} {ps : List Str} {sp : Sp} (q : FnG P w K mg base j f fd ps sp) (h : j ≤ k) : FnG P w K mg base k f fd ps sp :=
  ⟨q.len, fun A outer s H args us vs Q E g r => q.run A outer s H args us vs Q E g (r.mono h)⟩
section
variable {X : Cx} {k : Nat} {f : Addr} {fd : FuncData} {ps : List Str} {sp : Sp} {E : L2.St → XK} {x : Str} {p pos : Pos} {e : Expr} {es : List Expr} {t : TA}
theorem run_fnG {pins : List (Addr × Obj)} {σ : L2.St} {H : Hp} {s : Shared} {Q : VK} {us : List Value} {vs : List V} (F : FnG X.prog X.w X.K X.mg X.base k f fd ps sp) (hg : X.A.guards = some []) (hr : Room k X.A) (hb : Binds X.K fd ps []) (hx : PassesAt (L2.CX X.prog X.w) X σ (E σ))
    (I : Inv X pins σ H s) (r : Vals vs us) (h : sp vs H Q (E σ)) : wpAny (model X.prog X.w) X.A (call (.ref f) us) (EP X pins σ Q) X.xe s := by
  have hz : (us ++ []).length = ps.length := by rw [List.append_nil, ← r.length]; exact F.len _ _ _ _ h
  have bd := hb s us I.kIn hz
  rw [List.append_nil] at bd
  refine wpAny_call (codeAny_mono (F.run X.A X.stack s H ⟨us, []⟩ us vs Q (E σ) hg hr I.env0 bd r h) fun res s' q => ?_)
  match res, q with
  | .error e, q => exact hx pins H s e s' I q
  | .ok (.ret u), q => exact I.after q
  | .ok .next, q => exact q.elim
  | .ok .brk, q => exact q.elim
  | .ok .cont, q => exact q.elim
theorem pe_callG (F : FnG X.prog X.w X.K X.mg X.base k f fd ps sp) (hgu : X.A.guards = some []) (hr : Room k X.A) (hg : Gl X x) (hm : X.mg x = some (.ref f)) (hk : PySem.W.keepIn X.K (.ref f) = true) (hb : Binds X.K fd ps []) (hx : ∀ σ, PassesAt (L2.CX X.prog X.w) X σ (E σ))
    (ha : PA X (e :: es) t) (hdb : (x == ("__debug__" : Str)) = false) (he : starEach (e :: es) X.env = (false, eval e X.env) :: starEach es X.env) (hpl : (backTo pos (starEach es X.env)).any (·.1) = false) :
    PE X (.Call (.Name x p) (e :: es) [] pos) (tCallS sp E t) := by
  refine ⟨fun pins s σ H Q I h => wpAny_Call_Name_kw (ld_glob I hg hm ?_ hdb)⟩
  exact PySem.W.callWith_K (h₀ := X.base) I.ok.mod.kin hk (thn (ha.run pos pins s σ H _ I h) fun us s1 ⟨vs, H1, I1, r, q⟩ => ⟨I1.kIn, run_fnG F hgu hr hb (hx σ) I1 r q⟩) he hpl
end
section
variable {O : Wo} {n : Nat} {X : Cx} {W : WX} {xs : List Expr} {as : List E}
/-- what the world tells of the def f of the table, at level n -/
structure CallOk (O : Wo) (n k : Nat) (X : Cx) (f : Nat) (nm : Str) : Prop where
  fn : FnG X.prog X.w X.K X.mg X.base k (O.fa f) (O.fd f) (O.ps f) (spF O n f X.K)
  mg : X.mg nm = some (.ref (O.fa f))
  kp : PySem.W.keepIn X.K (.ref (O.fa f)) = true
  bd : Binds X.K (O.fd f) (O.ps f) []
  np : ∀ fd, O.T.fns[f]? = some fd → (O.ps f).length = fd.np
theorem s_call {f k : Nat} {nm : Str} {p q : Pos} {sc : Scope} (hs : X.env.scope = sc) (hgl : glB sc nm = true) (hgu : X.A.guards = some []) (hr : Room k X.A) (tk : Takes X W) (c : CallOk O n k X f nm) (hne : as ≠ []) (h : ELs O n X W xs as) : EOk O n X W (.Call (.Name nm p) xs [] q) (.call f as) := by
  subst hs
  obtain ⟨g1, g2, _⟩ := gl_of hgl
  cases h with
  | nil => exact absurd rfl hne
  | @cons x0 a0 xs0 as0 h0 hrs =>
    have hl : ELs O n X W (x0 :: xs0) (a0 :: as0) := .cons h0 hrs
    have h1 : PE X (.Call (.Name nm p) (x0 :: xs0) [] q) (tE O n X.K W (.call f (a0 :: as0))) := by
      refine PE.imp (pe_callG (E := WE W) c.fn hgu hr g1 c.mg c.kp c.bd (passAt tk) hl.vs g2 (star_plain h0.pl _ _) (no_star hrs _)) fun σ H Q q => ?_
      cases hfd : O.T.fns[f]? with
      | some fd => exact call_key hfd (c.np fd hfd) σ H Q q
      | none =>
        obtain ⟨ρ, F, f0, w, er, out⟩ := q
        refine ⟨ρ, F, f0, w, er, ?_⟩
        simp only [evE] at out
        cases e1 : evVs O.T (callF O.T n) (a0 :: as0) ρ with
        | bad => rw [e1] at out; exact out
        | exc x1 ρ1 => rw [e1] at out; exact out
        | ok vs ρ1 =>
          rw [e1] at out
          simp only [bind_ok, hfd] at out
          exact out.elim
    exact ⟨h1, pt_val h1, rfl⟩
end
end Z
set_option linter.all false
set_option Elab.async false
set_option maxRecDepth 100000
/-! Z21: a def by its body. -/
namespace Z
open PySem L2 PyProof.Rows PySem.Spec
theorem fn_ofG {P : Program} {w : World} {K : PySem.W.Frag} {mg : Str → Option Value} {base : Heap} {k : Nat} {f : Addr} {name qual : Str} {params : Arguments} {body : List Stmt} {scope : Scope} {dV kV doc pm cdv ct oc : Value} {an od : Option Addr}
    {osl : Array (Option Value)} {N ps : List Str} {sp : Sp} (lk : K.lookup f = some ⟨oc, od, .func (PySem.W.fnOf name qual params body scope dV kV doc pm an cdv ct), osl⟩) (cd : PySem.W.codeIn K cdv qual = true) (S : FnScope N ps scope)
    (hlen : ∀ vs H Q E, sp vs H Q E → vs.length = ps.length)
    (go : ∀ (A : Around) (outer : List PySem.Env) (s : Shared) (H : Hp) (vs : List V) (Q : VK) (E : XK), A.guards = some [] → Room k (A.deeper (envOfC qual scope s.heap.objs.size f cdv)) → sp vs H Q E →
      ∃ t, PSs (cxOf (L2.CX P w) P w K mg base N qual scope f cdv A outer s H E) body t ∧ t { nx := fun _ H' => Q .non H', rt := Q } (start N vs) H) :
    FnG P w K mg base (k + 1) f (PySem.W.fnOf name qual params body scope dV kV doc pm an cdv ct) ps sp := by
  refine ⟨hlen, fun A outer s H args us vs Q E hgu hr e0 hb r hsp => ?_⟩
  have hz := hlen _ _ _ _ hsp
  have kx : K.In s.heap := e0.mod.kin.keeps fun b o e => (e0.bs b o e).1
  have nl : s.heap.NoLimit := e0.mod.nolimit.keeps fun b o e => (e0.bs b o e).1
  have kinds : ∀ y ∈ ps.zip us, scope.names.lookup y.1 = some .local ∨ (scope.names.lookup y.1 = some .cell ∧ ((cellsFrom (s.heap.objs.size + 1) scope.names []).lookup y.1).isSome = true) := fun ⟨m, v⟩ hy =>
    (S.par m (List.of_mem_zip hy).1).imp id fun q => ⟨q, PySem.W.cellsFrom_some _ _ _ (.inl q)⟩
  refine codeAny_call_function hr.depth (kx _ _ lk) rfl S.co S.gen rfl (PySem.W.codeRec_of kx cd) (hb _ _ _ _ ?_)
  refine wpAny_newFunctionEnv_cells S.kind kinds fun env he s1 x => ?_
  subst he
  refine ⟨nl.keeps x.toInCall.keep, codeAny_func ?_⟩
  obtain ⟨t, ht, hq⟩ := go A outer s H vs Q E hgu (hr.deeper _) hsp
  have I := inv_start (CX := L2.CX P w) (E := E) S hr.hd e0 hz r x
  refine wpAny_mono (ht.run [] s1 (start N vs) H _ I hq) (fun fl s' hs => ?_) fun e s' hs => hs
  match fl, hs with
  | .ret u, ⟨v, σ', H', J, rv, q⟩ => exact ⟨v, H', J.os, J.bare, J.base, J.hok, rv, q⟩
  | .next, ⟨σ', H', J, q⟩ => exact ⟨.non, H', J.os, J.bare, J.base, J.hok, rfl, q⟩
  | .brk, ⟨_, _, _, q⟩ => exact q.elim
  | .cont, ⟨_, _, _, q⟩ => exact q.elim
end Z
set_option linter.all false
set_option Elab.async false
set_option maxRecDepth 100000
/-! Z22: statements. -/
namespace Z
open PySem L2 PyProof.Rows
/-- the places of the parameters that are changed still name the same objects -/
def Io (io : List Nat) (σ σ' : L2.St) : Prop := ∀ i, i ∈ io → σ'[i]? = σ[i]?
theorem Io.refl {io : List Nat} {σ : L2.St} : Io io σ σ := fun _ _ => rfl
theorem Io.trans {io : List Nat} {σ σ1 σ2 : L2.St} (a : Io io σ σ1) (b : Io io σ1 σ2) : Io io σ σ2 := fun i m => (b i m).trans (a i m)
section
variable (K : PySem.W.Frag) (ca : Nat → Addr) (W : WX) (io : List Nat)
def OkN (F H : Hp) (f : List Addr) (σ : L2.St) (R : L2.St → Hp → Prop) (ρ' : Env) : Prop := ∀ (F' H' : Hp) (f' : List Addr) (σ' : L2.St), Step F H f F' H' f' → Wd F' H' f' → ER K ca F' H' σ' ρ' f' → Io io σ σ' → R σ' H'
def OutS (F H : Hp) (f : List Addr) (σ : L2.St) (D : Ends) (r : Res Fl) : Prop :=
  match r with
  | .ok .next ρ' => OkN K ca io F H f σ D.nx ρ'
  | .ok .cont ρ' => OkN K ca io F H f σ D.ct ρ'
  | .ok (.ret c) ρ' => ∀ (F' H' : Hp) (x : V) (g f' : List Addr) (σ' : L2.St), Step F H f F' H' (g ++ f') → Wd F' H' (g ++ f') → ER K ca F' H' σ' ρ' f' → CR K ca F' H' x c g → Io io σ σ' → D.rt x H'
  | .exc x ρ' => ∀ (F' H' : Hp) (cls : Value) (d : Option Addr) (g f' : List Addr) (σ' : L2.St), Step F H f F' H' (g ++ f') → Wd F' H' (g ++ f') → ER K ca F' H' σ' ρ' f' → XR K ca F' H' cls d x g → Io io σ σ' → W cls d σ' H'
  | .bad => False
/-- the wish of a statement, of a suite -/
def tSt (r : Env → Res Fl) : TS := fun D σ H => ∃ (ρ : Env) (F : Hp) (f : List Addr), Wd F H f ∧ ER K ca F H σ ρ f ∧ OutS K ca W io F H f σ D (r ρ)
end
section
variable {K : PySem.W.Frag} {ca : Nat → Addr} {W : WX} {io : List Nat} {F H F1 H1 : Hp} {f f1 g : List Addr} {σ σ1 : L2.St} {D : Ends}
theorem OutS.step {r : Res Fl} (h : OutS K ca W io F H f σ D r) (st : Step F H f F1 H1 g) (hs : ∀ a ∈ f1, a ∈ g) (i : Io io σ σ1) : OutS K ca W io F1 H1 f1 σ1 D r := by
  match r, h with
  | .ok .next ρ', h => exact fun F' H' f' σ' s w e j => h F' H' f' σ' (st.trans (s.wide hs)) w e (i.trans j)
  | .ok .cont ρ', h => exact fun F' H' f' σ' s w e j => h F' H' f' σ' (st.trans (s.wide hs)) w e (i.trans j)
  | .ok (.ret c) ρ', h => exact fun F' H' x g f' σ' s w e c j => h F' H' x g f' σ' (st.trans (s.wide hs)) w e c (i.trans j)
  | .exc x ρ', h => exact fun F' H' cls d g f' σ' s w e c j => h F' H' cls d g f' σ' (st.trans (s.wide hs)) w e c (i.trans j)
  | .bad, h => exact h.elim
/-- an expression's exception is the statement's -/
theorem ExV.ofS {x : Exn} {ρ' : Env} (h : OutS K ca W io F H f σ D (.exc x ρ')) : ExV K ca W F H f σ x ρ' := fun F' H' cls d g f' s w e r => h F' H' cls d g f' σ s w e r Io.refl
end
theorem PS.imp {X : Cx} {e : Stmt} {t t' : TS} (h : PS X e t) (k : ∀ D σ H, t' D σ H → t D σ H) : PS X e t' := ⟨fun pins s σ H D I q => h.run pins s σ H D I (k D σ H q)⟩
theorem PSs.imp {X : Cx} {e : List Stmt} {t t' : TS} (h : PSs X e t) (k : ∀ D σ H, t' D σ H → t D σ H) : PSs X e t' := ⟨fun pins s σ H D I q => h.run pins s σ H D I (k D σ H q)⟩
section
variable {O : Wo} {n : Nat} {X : Cx} {W : WX} {io : List Nat}
/-- the result of a suite -/
def exS' (O : Wo) (n : Nat) (io : List Nat) (s : S) : Env → Res Fl := exS O.T (callF O.T n) io s
def exSs' (O : Wo) (n : Nat) (io : List Nat) (s : List S) : Env → Res Fl := exSs O.T (callF O.T n) io s
abbrev SOk (O : Wo) (n : Nat) (X : Cx) (W : WX) (io : List Nat) (st : Stmt) (s : S) : Prop := PS X st (tSt X.K O.ca W io (exS' O n io s))
abbrev SsOk (O : Wo) (n : Nat) (X : Cx) (W : WX) (io : List Nat) (sts : List Stmt) (ss : List S) : Prop := PSs X sts (tSt X.K O.ca W io (exSs' O n io ss))
theorem s_pass {pos : Pos} : SOk O n X W io (.Pass pos) .pass := PS.imp ps_pass fun D σ H ⟨ρ, F, f, w, er, out⟩ => by
  simp only [exS', exS] at out
  exact out F H f σ Step.refl w er Io.refl
theorem s_doc {x : Str} {j : Nat} {p q : Pos} : SOk O n X W io (.Expr (.Constant (.str x) j p) q) .pass := PS.imp ps_doc fun D σ H ⟨ρ, F, f, w, er, out⟩ => by
  simp only [exS', exS] at out
  exact out F H f σ Step.refl w er Io.refl
theorem s_cont {pos : Pos} : SOk O n X W io (.Continue pos) .cont := PS.imp ps_continue fun D σ H ⟨ρ, F, f, w, er, out⟩ => by
  simp only [exS', exS] at out
  exact out F H f σ Step.refl w er Io.refl
theorem s_ret0 {pos : Pos} : SOk O n X W io (.Return none pos) .ret0 := PS.imp ps_retN fun D σ H ⟨ρ, F, f, w, er, out⟩ => by
  simp only [exS', exS] at out
  exact out F H .non [] f σ Step.refl w er (.d .non) Io.refl
theorem s_nil : SsOk O n X W io [] [] := PSs.imp pss_nil fun D σ H ⟨ρ, F, f, w, er, out⟩ => by
  simp only [exSs', exSs] at out
  exact out F H f σ Step.refl w er Io.refl
theorem s_cons {st : Stmt} {sts : List Stmt} {s : S} {ss : List S} (h1 : SOk O n X W io st s) (h2 : SsOk O n X W io sts ss) : SsOk O n X W io (st :: sts) (s :: ss) := by
  refine PSs.imp (pss_cons h1 h2) fun D σ H ⟨ρ, F, f, w, er, out⟩ => ⟨ρ, F, f, w, er, ?_⟩
  simp only [exSs', exSs] at out
  show OutS X.K O.ca W io F H f σ _ (exS O.T (callF O.T n) io s ρ)
  cases e : exS O.T (callF O.T n) io s ρ with
  | bad => rw [e] at out; exact out
  | exc x ρ1 => rw [e] at out; exact out
  | ok r ρ1 =>
    rw [e] at out
    cases r with
    | next =>
      simp only [bind_ok] at out
      exact fun F' H' f' σ' st w' er' i => ⟨ρ1, F', f', w', er', out.step st (fun a m => m) i⟩
    | cont => exact out
    | ret c => exact out
end
end Z
set_option linter.all false
set_option Elab.async false
set_option maxRecDepth 100000
/-! Z23: assignments, return, expressions, if. -/
namespace Z
open PySem L2 PyProof.Rows
/-- a comprehension, whose stores may be exchanged -/
def lcB : Expr → Bool
  | .ListComp _ _ _ _ => true
  | .SetComp _ _ _ _ => true
  | .DictComp _ _ _ _ _ => true
  | _ => false
theorem sw_no {e : Expr} {t : Option Expr} {l : Nat} {env : PySem.Env} (h : lcB e = false) : swapsWith e t l env = pure false := by
  cases e <;> first | rfl | (simp [lcB] at h; done)
def tupB : Expr → Bool
  | .Tuple _ _ _ => true
  | _ => false
theorem sws_no {t e : Expr} {env : PySem.Env} (h : tupB e = false) : swappedStores [t] e env = pure none := by
  cases e <;> first | (simp [tupB] at h; done) | (cases t <;> rfl)
theorem take_exc {io : List Nat} {ρ ρ2 : Env} {v : Val} {x : Exn} (h : take io ρ v = .exc x ρ2) : False := by
  have of_exc : ∀ {α : Type} {o : Option α} {ρ : Env}, Res.of o ρ = .exc x ρ2 → False := fun {α o ρ} h => by cases o <;> cases h
  cases v with
  | own c => cases h
  | bor i p =>
    simp only [take] at h
    split at h
    · split at h
      · exact of_exc h
      · cases h
    · split at h
      · exact of_exc h
      · cases h
theorem frz_exc {ρ ρ2 : Env} {v : Val} {x : Exn} (h : frz ρ v = .exc x ρ2) : False := by
  cases v with
  | own c => simp only [frz] at h; cases e : c.toD <;> rw [e] at h <;> cases h
  | bor i p => simp only [frz] at h; split at h <;> cases h
section
variable {K : PySem.W.Frag} {ca : Nat → Addr} {W : WX} {io : List Nat} {F H F1 H1 : Hp} {f f1 g : List Addr} {σ σ1 : L2.St} {D : Ends}
theorem bindS {r : Res Val} {k : Val → Env → Res Fl} {Q : VK} {pu : Bool} (h : OutS K ca W io F H f σ D (r.bind k)) (hk : ∀ v ρ', r = .ok v ρ' → OutS K ca W io F H f σ D (k v ρ') → OkV K ca F H f σ Q pu v ρ') : OutV K ca W F H f σ Q pu r := by
  cases e : r with
  | ok v ρ' => rw [e] at h; exact hk v ρ' e h
  | exc x ρ' => rw [e] at h; exact ExV.ofS h
  | bad => rw [e] at h; exact h
/-- bindS, later -/
theorem bindS' {r : Res Val} {k : Val → Env → Res Fl} {Q : VK} {pu : Bool} (h : OutS K ca W io F H f σ D (r.bind k)) (st : Step F H f F1 H1 g) (hs : ∀ a ∈ f1, a ∈ g) (hk : ∀ v ρ', r = .ok v ρ' → OutS K ca W io F H f σ D (k v ρ') → OkV K ca F1 H1 f1 σ Q pu v ρ') : OutV K ca W F1 H1 f1 σ Q pu r := by
  cases e : r with
  | ok v ρ' => rw [e] at h; exact hk v ρ' e h
  | exc x ρ' => rw [e] at h; exact ExV.step st hs (ExV.ofS h)
  | bad => rw [e] at h; exact h
theorem Io.set {i : Nat} {s : Option V} (h : i ∉ io) : Io io σ (σ.set i s) := fun j hj => List.getElem?_set_ne fun e => h (by rw [e]; exact hj)
/-- a place gets what is owned -/
theorem ER.setC {v : V} {c : C} {ρ : Env} {i : Nat} (cr : CR K ca F H v c g) (er : ER K ca F H σ ρ f) (hi : i < ρ.length) (w : Wd F H (g ++ f)) : ∃ f', (∀ a ∈ f', a ∈ g ++ f) ∧ Wd F H f' ∧ ER K ca F H (σ.set i (some v)) (ρ.set i (some c)) f' := by
  cases e : slot ρ i with
  | none =>
    obtain ⟨f', p, h⟩ := (er.focus0 hi e).1 F H v c g (Same.refl _) (fun _ _ => rfl) cr
    exact ⟨f', fun a m => p.mem_iff.mp m, w.perm p.symm, h⟩
  | some c0 =>
    obtain ⟨u, l, g0, r, h1, h2, h3, h4, _⟩ := er.focus e
    have p : (g ++ (l ++ r)).Perm (l ++ g ++ r) := by
      rw [← List.append_assoc]
      exact List.perm_append_comm.append_right r
    have s : List.Sublist (g ++ (l ++ r)) (g ++ f) := by
      rw [h2, List.append_assoc]
      exact ((List.sublist_append_right g0 r).append_left l).append_left g
    refine ⟨l ++ g ++ r, fun a m => s.subset (p.mem_iff.mpr m), (w.sub s).perm p, h4 F H v c g (Same.refl _) (fun _ _ => rfl) cr⟩
mutual
theorem setTg_io : ∀ {t : Tg} {d : PyData} {ρ ρ' : Env}, setTg io t d ρ = some ρ' → ∀ i ∈ tgI t, i ∉ io
  | .nm i, d, ρ, ρ', h => by
    simp only [setTg] at h
    split at h <;> first | (cases h; done) | skip
    rename_i hi
    intro j hj
    simp only [tgI, List.mem_singleton] at hj
    subst hj
    rw [Bool.and_eq_true] at hi
    simpa using hi.2
  | .tup ts, d, ρ, ρ', h => by
    cases d <;> simp only [setTg] at h <;> first | (cases h; done) | skip
    exact setTgs_io h
theorem setTgs_io : ∀ {ts : List Tg} {ds : List PyData} {ρ ρ' : Env}, setTgs io ts ds ρ = some ρ' → ∀ i ∈ tgsI ts, i ∉ io
  | [], _, _, _, _ => fun i m => by cases m
  | t :: ts, ds, ρ, ρ', h => by
    cases ds <;> simp only [setTgs] at h <;> first | (cases h; done) | skip
    obtain ⟨ρ1, h1, h2⟩ := Option.bind_eq_some_iff.mp h
    intro i m
    rcases List.mem_append.mp m with m | m
    · exact setTg_io h1 i m
    · exact setTgs_io h2 i m
end
end
section
variable {O : Wo} {n : Nat} {X : Cx} {W : WX} {io : List Nat} {e x : Expr} {a b c : E} {pos : Pos}
theorem s_ret (h : EOk O n X W e a) : SOk O n X W io (.Return (some e) pos) (.ret a) := by
  refine PS.imp (ps_ret h.pe) fun D σ H ⟨ρ, F, f, w, er, out⟩ => ⟨ρ, F, f, w, er, ?_⟩
  simp only [exS', exS] at out
  refine bindS out fun v ρ1 _ out1 F1 H1 xv g f1 st1 w1 er1 r1 p1 => ?_
  cases e2 : take io ρ1 v with
  | bad => rw [e2] at out1; exact out1.elim
  | exc x ρ2 => exact (take_exc e2).elim
  | ok c ρ2 =>
    rw [e2] at out1
    obtain ⟨F2, g2, f2, cr, er2, w2, st2⟩ := VR.take w1 er1 r1 e2
    exact out1 F2 H1 xv g2 f2 σ (st1.trans st2) w2 er2 cr Io.refl
theorem s_ex (hl : lcB e = false) (h : EOk O n X W e a) : SOk O n X W io (.Expr e pos) (.ex a) := by
  refine PS.imp (ps_expr h.pe (sw_no hl)) fun D σ H ⟨ρ, F, f, w, er, out⟩ => ⟨ρ, F, f, w, er, ?_⟩
  simp only [exS', exS] at out
  refine bindS out fun v ρ1 _ out1 F1 H1 xv g f1 st1 w1 er1 r1 p1 => ?_
  exact out1 F1 H1 f1 σ (st1.less fun a m => List.mem_append_right _ m) (w1.sub (List.sublist_append_right _ _)) er1 Io.refl
theorem asg_key {i : Nat} {D : Ends} {σ : L2.St} {H : Hp} (q : tSt X.K O.ca W io (exS' O n io (.assign i a)) D σ H) : tE O n X.K W a σ H fun x H1 => D.nx (σ.set i (some x)) H1 := by
  obtain ⟨ρ, F, f, w, er, out⟩ := q
  refine ⟨ρ, F, f, w, er, ?_⟩
  simp only [exS', exS] at out
  refine bindS out fun v ρ1 _ out1 F1 H1 xv g f1 st1 w1 er1 r1 p1 => ?_
  cases e2 : take io ρ1 v with
  | bad => rw [e2] at out1; exact out1.elim
  | exc x ρ2 => exact (take_exc e2).elim
  | ok c ρ2 =>
    rw [e2] at out1
    simp only [bind_ok, setNm] at out1
    split at out1
    · rename_i hi
      rw [Bool.and_eq_true, decide_eq_true_eq] at hi
      obtain ⟨F2, g2, f2, cr, er2, w2, st2⟩ := VR.take w1 er1 r1 e2
      obtain ⟨f3, s3, w3, er3⟩ := ER.setC cr er2 hi.1 w2
      exact out1 F2 H1 f3 _ ((st1.trans st2).less s3) w3 er3 (Io.set (by simpa using hi.2))
    · exact out1.elim
theorem s_assign {i : Nat} {y : Str} {p : Pos} (hN : X.N.Nodup) (hi : X.N[i]? = some y) (hx : Loc X.env.scope y) (hf : X.fn y = true ∨ X.env.scope.names.lookup y = some .local) (hsw : swapsWith e (some (.Name y p)) pos.line X.env = pure false) (h : EOk O n X W e a) : SOk O n X W io (.Assign [.Name y p] e pos) (.assign i a) :=
  PS.imp (ps_set hN hi hx h.pe hsw hf) fun D σ H q => asg_key q
theorem s_unpack {fb : Str → Bool} {t : Tg} {tg : Expr} (hfb : ∀ x, fb x = true → X.fn x = true) (hf : tgB fb X.env.scope X.N t tg = true) (hc : X.calm = true) (hN : X.N.Nodup) (hl : lcB e = false) (ht : tupB e = false) (hh : (assignEach [tg] X.env).map (·.2) = [assign tg X.env]) (h : EOk O n X W e a) : SOk O n X W io (.Assign [tg] e pos) (.unpack t a) := by
  refine PS.imp (ps_asg h.pe (pg_ok hfb hc hN t tg hf) (sw_no hl) (sws_no ht) hh) fun D σ H ⟨ρ, F, f, w, er, out⟩ => ⟨ρ, F, f, w, er, ?_⟩
  simp only [exS', exS] at out
  refine bindS out fun v ρ1 _ out1 F1 H1 xv g f1 st1 w1 er1 r1 p1 => ?_
  cases e2 : frz ρ1 v with
  | bad => rw [e2] at out1; exact out1.elim
  | exc x ρ2 => exact (frz_exc e2).elim
  | ok d ρ2 =>
    rw [e2] at out1
    simp only [bind_ok] at out1
    obtain ⟨F2, f2, fr, er2, w2, st2⟩ := VR.frz w1 er1 r1 e2
    cases e3 : setTg io t d ρ2 with
    | none => rw [e3] at out1; exact out1.elim
    | some ρ3 =>
      rw [e3] at out1
      refine gT_ok w2.same t e3 fr er2 fun σ' f' sub er' keep => ?_
      exact out1 F2 H1 f' σ' ((st1.trans st2).less fun a m => sub.subset m) (w2.sub sub) er' fun i hi => keep i fun hm => setTg_io e3 i hm hi
theorem s_iff {sa sb : List Stmt} {ssa ssb : List S} (h : EOk O n X W e c) (ha : SsOk O n X W io sa ssa) (hb : SsOk O n X W io sb ssb) : SOk O n X W io (.If e sa sb pos) (.iff c ssa ssb) := by
  refine PS.imp (ps_if h.pt ha hb) fun D σ H ⟨ρ, F, f, w, er, out⟩ => ⟨ρ, F, f, w, er, ?_⟩
  simp only [exS', exS, evB] at out
  cases e1 : evE O.T (callF O.T n) c ρ with
  | bad => rw [e1] at out; exact out
  | exc x1 ρ1 => rw [e1] at out; exact ExV.ofS out
  | ok v ρ1 =>
    rw [e1] at out
    simp only [bind_ok] at out
    intro F1 H1 xv g f1 st1 w1 er1 r1 p1
    cases e2 : asBool v ρ1 with
    | bad => rw [e2] at out; exact out.elim
    | exc x2 ρ2 => exact (asBool_ne e2).elim
    | ok t ρ2 =>
      obtain ⟨rfl, rfl⟩ := asBool_ok e2
      rw [e2] at out
      simp only [bind_ok] at out
      obtain ⟨rfl, rfl⟩ := vr_bool r1
      refine ⟨t, rfl, ?_⟩
      cases t with
      | true => exact ⟨_, F1, f1, w1, er1, OutS.step out st1 (fun a m => m) Io.refl⟩
      | false => exact ⟨_, F1, f1, w1, er1, OutS.step out st1 (fun a m => m) Io.refl⟩
end
end Z
set_option linter.all false
set_option Elab.async false
set_option maxRecDepth 100000
/-! Z24: o[i] = e. -/
namespace Z
open PySem L2 PyProof.Rows
/-- o[i] = v by values: the wish itself -/
def sWi (X : Cx) : TSet := fun o i v H Q => ∀ (pins : List (Addr × Obj)) (s : Shared) (σ : L2.St) (ov iv u : Value), Inv X pins σ H s → RelV o ov → RelV i iv → RelV v u → wpAny (model X.prog X.w) X.A (setItem ov iv u) (fun _ s' => ∃ H', Inv X pins σ H' s' ∧ Q H') X.xe s
theorem sWi_ok {X : Cx} : PSet X (sWi X) := fun pins s σ H o i v ov iv u Q I ro ri rv h => h pins s σ ov iv u I ro ri rv
theorem seqI_ixN {n : Nat} {k : Int} : seqI n k = ixN n k := rfl
theorem seqI_lt {n : Nat} {k : Int} {j : Nat} (h : seqI n k = some j) : j < n := by
  unfold seqI at h
  split at h
  · split at h <;> first | (cases h; done) | skip
    cases h
    omega
  · split at h <;> first | (cases h; done) | skip
    cases h
    omega
section
variable {O : Wo} {n : Nat} {X : Cx} {W : WX} {io : List Nat} {e x y : Expr} {a b c : E} {pos : Pos}
/-- a list's item is exchanged -/
theorem setl_ok {F H : Hp} {f g : List Addr} {σ : L2.St} {ρ : Env} {j : Nat} {p : List Sel} {ov xv : V} {cs : List C} {k : Int} {i : Nat} {cc : C} {R : Hp → Prop} (w : Wd F H (g ++ f)) (er : ER X.K O.ca F H σ ρ f) (r : VR X.K O.ca F H σ ov (.bor j p) [])
    (hl : look ρ (.bor j p) = some (.lst cs)) (hk : seqI cs.length k = some i) (cr : CR X.K O.ca F H xv cc g)
    (q : ∀ (H' : Hp) (f' : List Addr), Step F H (g ++ f) F H' f' → Wd F H' f' → ER X.K O.ca F H' σ (putV ρ j p (.lst (cs.set i cc))) f' → R H') : sWi X ov (.int k) xv H R := by
  obtain ⟨l, gl, rr, hf, crl, back⟩ := er.at hl r
  cases crl with
  | @lst ad vs cs fc hH rs =>
    have hi : i < cs.length := seqI_lt hk
    have hiv : i < vs.length := by rw [CRs.length rs]; exact hi
    obtain ⟨l2, gy, r2, hfc, _, upd2⟩ := CRs.focus rs (List.getElem?_eq_getElem hi) (List.getElem?_eq_getElem hiv)
    have hm : ad ∈ g ++ f := by rw [hf]; simp
    have hu : upd H ad (.lst (vs.set i xv)) ad = some (.lst (vs.set i xv)) := upd_same
    have ndf : f.Nodup := (List.nodup_append.mp w.nd).2.1
    have dsj : ∀ b ∈ g, ∀ b' ∈ f, b ≠ b' := (List.nodup_append.mp w.nd).2.2
    have hadf : ad ∈ f := by rw [hf]; simp
    have hadg : ∀ b ∈ g, b ≠ ad := fun b m => dsj b m ad hadf
    have nd1 : (l ++ (ad :: fc) ++ rr).Nodup := by rw [← hf]; exact ndf
    have nl : ∀ b ∈ l ++ rr, b ≠ ad := fun b m e => by
      subst e
      rw [List.append_assoc] at nd1
      have n1 := List.nodup_append.mp nd1
      rcases List.mem_append.mp m with m | m
      · exact n1.2.2 b m b (by simp) rfl
      · have n2 := List.nodup_append.mp n1.2.1
        exact n2.2.2 b (by simp) b m rfl
    have nfc : ∀ b ∈ fc, b ≠ ad := fun b m e => by
      subst e
      rw [List.append_assoc] at nd1
      have n1 := (List.nodup_append.mp (List.nodup_append.mp nd1).2.1).1
      exact (List.nodup_cons.mp n1).1 m
    have keep : ∀ b, b ≠ ad → upd H ad (.lst (vs.set i xv)) b = H b := fun b hb => upd_ne hb
    have crx : CR X.K O.ca F (upd H ad (.lst (vs.set i xv))) xv cc g := CR.mv (Same.refl _) cc cr fun b m => keep b (hadg b m)
    have rs' := upd2 F (upd H ad (.lst (vs.set i xv))) cc xv g (Same.refl _) (fun b m => keep b (nfc b (by rw [hfc]; simp only [List.mem_append] at m ⊢; rcases m with m | m <;> simp [m]))) crx
    have er' := back F (upd H ad (.lst (vs.set i xv))) (.lst (cs.set i cc)) (ad :: (l2 ++ g ++ r2)) (Same.refl _) (fun b m => keep b (nl b m)) (.lst hu rs')
    have sub : List.Sublist (g ++ (l ++ (ad :: (l2 ++ r2)) ++ rr)) (g ++ f) := by
      refine List.Sublist.append_left ?_ g
      rw [hf]
      refine List.Sublist.append_right (List.Sublist.append_left (List.Sublist.cons₂ ad ?_) l) rr
      rw [hfc, List.append_assoc]
      exact (List.sublist_append_right gy r2).append_left l2
    have pm : (g ++ (l ++ (ad :: (l2 ++ r2)) ++ rr)).Perm (l ++ (ad :: (l2 ++ g ++ r2)) ++ rr) := by
      have p1 : (g ++ (l2 ++ r2)).Perm (l2 ++ g ++ r2) := by
        rw [← List.append_assoc]
        exact List.perm_append_comm.append_right r2
      have p2 : (g ++ (ad :: (l2 ++ r2))).Perm (ad :: (l2 ++ g ++ r2)) := by
        refine List.Perm.trans ?_ (p1.cons ad)
        exact List.perm_middle
      rw [← List.append_assoc, ← List.append_assoc]
      refine List.Perm.append_right rr ?_
      refine (List.perm_append_comm.append_right (ad :: (l2 ++ r2))).trans ?_
      rw [List.append_assoc]
      exact p2.append_left l
    have st := step_upd (F := F) (o' := .lst (vs.set i xv)) hm hH
    have wd := wd_upd (o' := .lst (vs.set i xv)) w hm hH
    have fin := q (upd H ad (.lst (vs.set i xv))) _ (st.less fun b m => sub.subset (pm.mem_iff.mpr m)) ((wd.sub sub).perm pm) er'
    intro pins s σ' ov' iv' u I ro ri rv
    exact set_list pins s σ' H (.ref ad) (.int k) xv ov' iv' u R I ro ri rv ⟨ad, vs, k, i, rfl, rfl, hH, by rw [CRs.length rs]; exact hk, fin⟩
theorem crk_set {K : PySem.W.Frag} {ca : Nat → Addr} {F H : Hp} {k : Ky} {x : V} {c : C} {g : List Addr} (cr : CR K ca F H x c g) : ∀ {cs : List (Ky × C)} {vs : List (L2.Key × V)} {f : List Addr}, CRk K ca F H vs cs f → (vs.map (·.1)).Nodup → (match getA cs k with
    | none => true
    | some (.d _) => true
    | some _ => false) = true → ∃ f', CRk K ca F H (L2.putK vs k x) (setA cs k c) f' ∧ f'.Perm (g ++ f)
  | [], _, _, h, _, _ => by
    cases h
    exact ⟨g ++ [], .cons cr .nil, .refl _⟩
  | (j, y) :: cs, _, _, h, nd, q => by
    cases h with
    | @cons j v vs _ _ f1 f2 a r =>
      rw [List.map_cons, List.nodup_cons] at nd
      by_cases hj : j = k
      · subst hj
        simp only [getA, if_true] at q
        have hy : ∃ d, y = .d d := by
          cases y <;> first | exact ⟨_, rfl⟩ | (simp at q; done)
        obtain ⟨d, rfl⟩ := hy
        cases a
        have e : L2.putK ((j, v) :: vs) j x = (j, x) :: vs := by
          unfold L2.putK
          rw [if_pos (by simp), List.map_cons, if_pos rfl]
          congr 1
          refine (List.map_congr_left fun p hp => ?_).trans (List.map_id _)
          have : p.1 ≠ j := fun z => nd.1 (List.mem_map.mpr ⟨p, hp, z⟩)
          rw [if_neg this]
          rfl
        rw [e, setA, if_pos rfl]
        exact ⟨g ++ f2, .cons cr r, by simp⟩
      · simp only [getA, if_neg hj] at q
        obtain ⟨f', h1, h2⟩ := crk_set cr r nd.2 q
        have e : L2.putK ((j, v) :: vs) k x = (j, v) :: L2.putK vs k x := by
          unfold L2.putK
          have e1 : (((j, v) :: vs).any fun kv => decide (kv.1 = k)) = (vs.any fun kv => decide (kv.1 = k)) := by
            rw [List.any_cons]
            simp [hj]
          rw [e1]
          split
          · rw [List.map_cons, if_neg hj]
          · rfl
        rw [e, setA, if_neg hj]
        refine ⟨f1 ++ f', .cons a h1, ?_⟩
        refine (h2.append_left f1).trans ?_
        rw [← List.append_assoc, ← List.append_assoc]
        exact List.perm_append_comm.append_right f2
theorem CRk.mvH {K : PySem.W.Frag} {ca : Nat → Addr} {F H H' : Hp} {cs : List (Ky × C)} {vs : List (L2.Key × V)} {f : List Addr} (h : CRk K ca F H vs cs f) (q : ∀ a ∈ f, H' a = H a) : CRk K ca F H' vs cs f := CRk.mv (Same.refl _) cs h q
theorem CRk.len {K : PySem.W.Frag} {ca : Nat → Addr} {F H : Hp} : ∀ {cs : List (Ky × C)} {vs : List (L2.Key × V)} {f : List Addr}, CRk K ca F H vs cs f → vs.length = cs.length
  | [], _, _, h => by cases h; rfl
  | _ :: _, _, _, h => by cases h with | cons _ r => simp [CRk.len r]
theorem kv_keys : ∀ {kvs : List (L2.Key × V)} {vs : List (L2.Key × Value)}, L2.KV kvs vs → kvs.map (·.1) = vs.map (·.1)
  | _, _, .nil => rfl
  | _, _, .cons r t => by rw [List.map_cons, List.map_cons, r.1, kv_keys t]
/-- a dict's item is set -/
theorem setd_ok {F H : Hp} {f g : List Addr} {σ : L2.St} {ρ : Env} {j : Nat} {p : List Sel} {ov xv : V} {cs : List (Ky × C)} {k : Ky} {cc : C} {R : Hp → Prop} (hun : X.A.units + 70 < cLine) (w : Wd F H (g ++ f)) (er : ER X.K O.ca F H σ ρ f) (r : VR X.K O.ca F H σ ov (.bor j p) [])
    (hl : look ρ (.bor j p) = some (.dct cs)) (hp : putOk (.dct cs) (.key k) = true) (cr : CR X.K O.ca F H xv cc g)
    (q : ∀ (H' : Hp) (f' : List Addr), Step F H (g ++ f) F H' f' → Wd F H' f' → ER X.K O.ca F H' σ (putV ρ j p (.dct (setA cs k cc))) f' → R H') : sWi X ov (L2.kV k) xv H R := by
  obtain ⟨l, gl, rr, hf, crl, back⟩ := er.at hl r
  cases crl with
  | @dct ad vs cs fc hH rs =>
    simp only [putOk, Bool.and_eq_true, decide_eq_true_eq] at hp
    intro pins s σ' ov' iv' u I ro ri rv
    have nd : (vs.map (·.1)).Nodup := by
      obtain ⟨_, _, ws, kv, o, es, ep, _, _, _, _, _, nd⟩ := dk_of I.hok hH
      rw [kv_keys kv]
      exact nd
    have hm : ad ∈ g ++ f := by rw [hf]; simp
    have ndf : f.Nodup := (List.nodup_append.mp w.nd).2.1
    have hadf : ad ∈ f := by rw [hf]; simp
    have hadg : ∀ b ∈ g, b ≠ ad := fun b m => (List.nodup_append.mp w.nd).2.2 b m ad hadf
    have nd1 : (l ++ (ad :: fc) ++ rr).Nodup := by rw [← hf]; exact ndf
    have nl : ∀ b ∈ l ++ rr, b ≠ ad := fun b m e => by
      subst e
      rw [List.append_assoc] at nd1
      have n1 := List.nodup_append.mp nd1
      rcases List.mem_append.mp m with m | m
      · exact n1.2.2 b m b (by simp) rfl
      · have n2 := List.nodup_append.mp n1.2.1
        exact n2.2.2 b (by simp) b m rfl
    have nfc : ∀ b ∈ fc, b ≠ ad := fun b m e => by
      subst e
      rw [List.append_assoc] at nd1
      have n1 := (List.nodup_append.mp (List.nodup_append.mp nd1).2.1).1
      exact (List.nodup_cons.mp n1).1 m
    have keep : ∀ b, b ≠ ad → upd H ad (.dK (L2.putK vs k xv)) b = H b := fun b hb => upd_ne hb
    obtain ⟨fc', rs0, pm0⟩ := crk_set cr rs nd hp.2
    have hfc' : ∀ b ∈ fc', b ≠ ad := fun b m => (List.mem_append.mp (pm0.mem_iff.mp m)).elim (hadg b) (nfc b)
    have rs' := rs0.mvH (H' := upd H ad (.dK (L2.putK vs k xv))) fun b m => keep b (hfc' b m)
    have er' := back F (upd H ad (.dK (L2.putK vs k xv))) (.dct (setA cs k cc)) (ad :: fc') (Same.refl _) (fun b m => keep b (nl b m)) (.dct upd_same rs')
    have pm : (g ++ f).Perm (l ++ (ad :: fc') ++ rr) := by
      rw [hf]
      have p2 : (g ++ (ad :: fc)).Perm (ad :: fc') := List.perm_middle.trans ((pm0.symm).cons ad)
      rw [← List.append_assoc, ← List.append_assoc]
      refine List.Perm.append_right rr ?_
      refine (List.perm_append_comm.append_right (ad :: fc)).trans ?_
      rw [List.append_assoc]
      exact p2.append_left l
    have st := step_upd (F := F) (o' := .dK (L2.putK vs k xv)) hm hH
    have wd := wd_upd (o' := .dK (L2.putK vs k xv)) w hm hH
    have fin := q (upd H ad (.dK (L2.putK vs k xv))) _ (st.less fun b m => pm.mem_iff.mpr m) (wd.perm pm) er'
    cases ro
    exact d_setItem (by omega) I (L2.DPut.k hH (by rw [rs.len, sizeLine_eq]; exact hp.1)) ri rv fun s' I' => ⟨_, I', fin⟩
theorem setIx_key {D : Ends} {σ : L2.St} {H : Hp} (hun : X.A.units + 70 < cLine) (q : tSt X.K O.ca W io (exS' O n io (.setIx a b c)) D σ H) :
    tE O n X.K W c σ H fun v H1 => tE O n X.K W a σ H1 fun o H2 => tE O n X.K W b σ H2 fun i H3 => sWi X o i v H3 fun H4 => D.nx σ H4 := by
  obtain ⟨ρ, F, f, w, er, out⟩ := q
  refine ⟨ρ, F, f, w, er, ?_⟩
  simp only [exS', exS] at out
  refine bindS out fun v ρ1 _ out1 F1 H1 xv g f1 st1 w1 er1 r1 p1 => ?_
  cases e2 : putIn c ρ1 v with
  | bad => rw [e2] at out1; exact out1.elim
  | exc x ρ2 => exact (putIn_exc e2).elim
  | ok cc ρ2 =>
    rw [e2] at out1
    simp only [bind_ok] at out1
    obtain ⟨F2, g2, f2, cr, er2, w2, st2⟩ := putIn_ok c w1 er1 r1 e2
    refine ⟨ρ2, F2, f2, w2.sub (List.sublist_append_right _ _), er2, ?_⟩
    have st12 := st1.trans st2
    refine bindS' out1 st12 (fun a m => List.mem_append_right _ m) fun u ρ3 _ out3 F3 H3 ov g3 f3 st3 w3 er3 r3 p3 => ?_
    have w3a : Wd F3 H3 (g2 ++ (g3 ++ f3)) := st3.apart w2 w3 (CR.lives _ cr)
    have cr3 : CR X.K O.ca F3 H3 xv cc g2 := CR.mv st3.fr cc cr (st3.stay w2.nd (CR.lives _ cr))
    have st13 : Step F H f F3 H3 (g2 ++ (g3 ++ f3)) := st12.trans (st3.more g2)
    refine ⟨ρ3, F3, f3, w3.sub (List.sublist_append_right _ _), er3, ?_⟩
    refine bindS' out3 st13 (fun a m => by simp [m]) fun k ρ4 _ out4 F4 H4 iv g4 f4 st4 w4 er4 r4 p4 => ?_
    cases u with
    | own _ => exact out4.elim
    | bor j p =>
      cases k with
      | bor _ _ => exact out4.elim
      | own ck =>
        cases ck with
        | d kd =>
          simp only at out4
          have hg3 : g3 = [] := r3.bor_nil
          subst hg3
          rw [List.nil_append] at w3a st13
          have hg4 : g4 = [] := by cases r4; rfl
          subst hg4
          split at out4
          · exact out4.elim
          · rename_i hp
            cases e5 : look ρ4 (.bor j p) with
            | none => rw [e5] at out4; exact out4.elim
            | some bb =>
              rw [e5] at out4
              simp only at out4
              cases e6 : selOf bb kd with
              | none => rw [e6] at out4; exact out4.elim
              | some sl =>
                rw [e6] at out4
                simp only at out4
                split at out4
                · rename_i hput
                  have w4a : Wd F4 H4 (g2 ++ f4) := st4.apart w3a w4 (CR.lives _ cr3)
                  have cr4 : CR X.K O.ca F4 H4 xv cc g2 := CR.mv st4.fr cc cr3 (st4.stay w3a.nd (CR.lives _ cr3))
                  have st14 : Step F H f F4 H4 (g2 ++ f4) := st13.trans (st4.more g2)
                  have r3' : VR X.K O.ca F4 H4 σ ov (.bor j p) [] := VR.stay st4 (by rw [List.nil_append]; exact w3.sub (List.sublist_append_right _ _)) r3 fun e => p4 (by
                    cases hn : nc b with
                    | true => rfl
                    | false => simp [e, hn] at hp)
                  cases bb with
                  | lst cs =>
                    cases kd <;> simp only [selOf, Option.map_eq_some_iff] at e6 <;> first | (cases e6; done) | skip
                    rename_i ki
                    obtain ⟨i, e6, rfl⟩ := e6
                    cases r4 with
                    | d fr =>
                      cases fr
                      exact setl_ok w4a er4 r3' e5 e6 cr4 fun H' f' st5 w5 er5 => out4 F4 H' f' σ (st14.trans st5) w5 er5 Io.refl
                  | d _ => simp [putOk] at hput
                  | dct cs =>
                    have key : ∀ k : Ky, sl = .key k → iv = L2.kV k → sWi X ov iv xv H4 fun H4 => D.nx σ H4 := fun k hs hi => by
                      subst hs hi
                      exact setd_ok hun w4a er4 r3' e5 hput cr4 fun H' f' st5 w5 er5 => out4 F4 H' f' σ (st14.trans st5) w5 er5 Io.refl
                    cases r4 with
                    | d fr =>
                      cases kd <;> simp only [selOf, Option.some.injEq] at e6 <;> first | (cases e6; done) | skip
                      · cases fr; exact key _ e6.symm rfl
                      · cases fr; exact key _ e6.symm rfl
                  | obj _ _ => simp [putOk] at hput
                  | exc _ _ => simp [putOk] at hput
                · exact out4.elim
        | lst _ => exact out4.elim
        | dct _ => exact out4.elim
        | obj _ _ => exact out4.elim
        | exc _ _ => exact out4.elim
theorem s_setIx {p : Pos} (hun : X.A.units + 70 < cLine) (hl : lcB e = false) (ht : tupB e = false) (hpl : plainB y = true) (he : EOk O n X W e c) (ho : EOk O n X W x a) (hi : EOk O n X W y b) : SOk O n X W io (.Assign [.Subscript x y p] e pos) (.setIx a b c) := by
  have hsw : swapsWithSole [.Subscript x y p] e pos.line X.env = pure false := by
    unfold swapsWithSole
    exact sw_no hl
  refine PS.imp (ps_asg he.pe (pg_sub ho.pe hi.pe sWi_ok ?_) hsw (sws_no ht) rfl) fun D σ H q => setIx_key hun q
  intro v
  cases y <;> first | rfl | (simp [plainB] at hpl; done)
end
end Z
set_option linter.all false
set_option Elab.async false
set_option maxRecDepth 100000
/-! Z25: loops. -/
namespace Z
open PySem L2 PyProof.Rows
section
variable {O : Wo} {n : Nat} {X : Cx} {W : WX} {io : List Nat} {e x y : Expr} {a b c : E} {pos : Pos}
/-- the state of a for at a turn -/
def ForAt (O : Wo) (K : PySem.W.Frag) (W : WX) (io : List Nat) (F1 H1 : Hp) (f1 : List Addr) (σ1 : L2.St) (D : Ends) (fb : PyData → Env → Res Fl) (l : List PyData) (i : Nat) (σ : L2.St) (H : Hp) : Prop :=
  ∃ (F : Hp) (f : List Addr) (ρ : Env), Wd F H f ∧ ER K O.ca F H σ ρ f ∧ Step F1 H1 f1 F H f ∧ Io io σ1 σ ∧ OutS K O.ca W io F1 H1 f1 σ1 D (forL fb (l.drop i) ρ)
theorem for_main {tg : Tg} {body : List S} {l : List PyData} {ρ1 : Env} {F1 H1 : Hp} {f1 : List Addr} {σ1 : L2.St} {J : It} {D : Ends} (w1 : Wd F1 H1 f1) (er1 : ER X.K O.ca F1 H1 σ1 ρ1 f1) (wk : Wk X.K F1 F1 J l)
    (out : OutS X.K O.ca W io F1 H1 f1 σ1 D (forL (fun x ρ => (Res.of (setTg io tg x ρ) ρ).bind fun ρ _ => exSs O.T (callF O.T n) io body ρ) l ρ1)) :
    ∃ Wi : Nat → Nat → L2.St → Hp → Prop, (∃ m, Wi 0 m σ1 H1) ∧ ∀ i m σ H, Wi i m σ H → (J.stop i H ∧ D.nx σ H) ∨ (J.go i H ∧ ∃ N : L2.St → Hp → Prop, (∀ σ' H', N σ' H' → ∃ m', m' < m ∧ Wi (i + 1) m' σ' H') ∧
      ∀ x H', J.yld i H x H' → gT X.K tg x σ H' fun σ2 H2 => tSt X.K O.ca W io (exSs' O n io body) { D with nx := N, ct := N, bk := D.nx } σ2 H2) := by
  generalize hfb : (fun x ρ => (Res.of (setTg io tg x ρ) ρ).bind fun ρ _ => exSs O.T (callF O.T n) io body ρ : PyData → Env → Res Fl) = fb at out
  refine ⟨fun i m σ H => m = l.length - i ∧ i ≤ l.length ∧ ForAt O X.K W io F1 H1 f1 σ1 D fb l i σ H, ⟨l.length, rfl, Nat.zero_le _, F1, f1, ρ1, w1, er1, Step.refl, Io.refl, out⟩, ?_⟩
  rintro i m σ H ⟨hm, hi, F, f, ρ, wd, er, st, hio, out⟩
  have sF : Same F1 F := st.fr
  obtain ⟨kstop, kgo⟩ := wk F H i sF wd.same (sF.trans wd.same)
  by_cases hie : l.length ≤ i
  · refine .inl ⟨kstop hie, ?_⟩
    rw [List.drop_eq_nil_of_le hie] at out
    exact out F H f σ st wd er hio
  · have hil : i < l.length := Nat.lt_of_not_le hie
    have hdi : l[i]? = some l[i] := List.getElem?_eq_getElem hil
    obtain ⟨go, yl⟩ := kgo _ hdi
    rw [List.drop_eq_getElem_cons hil] at out
    simp only [forL] at out
    refine .inr ⟨go, ForAt O X.K W io F1 H1 f1 σ1 D fb l (i + 1), fun σ' H' h => ⟨l.length - (i + 1), by omega, rfl, hil, h⟩, fun x H' hy => ?_⟩
    obtain ⟨F', y1, y2, y3, y4, fx⟩ := yl x H' hy
    have keepA : ∀ b ∈ f, H' b = H b := fun b m => by
      cases e : H b with
      | none => exact absurd e (ER.lives er b m)
      | some o => exact y2 b o e
    have wd' : Wd F' H' f := ⟨y4, wd.nd, fun b m => by
      cases e : F' b with
      | none => rfl
      | some o =>
        rcases y3 b (by rw [e]; exact fun z => nomatch z) with z | z
        · exact absurd (wd.ap b m) z
        · exact absurd z (ER.lives er b m)⟩
    have stY : Step F H f F' H' f := {
      fr := y1
      keep := fun b o e _ => y2 b o e
      there := fun b e => by
        cases z : H b with
        | none => exact absurd z e
        | some o => rw [y2 b o z]; exact fun z => nomatch z
      nf := fun b m => .inl m
      nF := fun b e => (y3 b e).imp id .inl }
    have er' : ER X.K O.ca F' H' σ ρ f := er.mv y1 keepA
    have st' := st.trans stY
    cases e1 : setTg io tg l[i] ρ with
    | none =>
      rw [← hfb] at out
      simp only [e1, of_none, bind_bad] at out
      exact out.elim
    | some ρ2 =>
      refine gT_ok y4 tg e1 fx er' fun σ2 f2 sub er2 kσ => ?_
      have io2 : Io io σ σ2 := fun j hj => kσ j fun hm => setTg_io e1 j hm hj
      have st2 : Step F1 H1 f1 F' H' f2 := st'.less fun b m => sub.subset m
      refine ⟨ρ2, F', f2, wd'.sub sub, er2, ?_⟩
      have hb : fb l[i] ρ = exSs O.T (callF O.T n) io body ρ2 := by rw [← hfb]; simp only [e1, of_some, bind_ok]
      rw [hb] at out
      show OutS X.K O.ca W io F' H' f2 σ2 _ (exSs O.T (callF O.T n) io body ρ2)
      cases e2 : exSs O.T (callF O.T n) io body ρ2 with
      | bad => rw [e2] at out; exact out
      | exc x ρ3 =>
        rw [e2] at out
        exact OutS.step (D := D) (r := .exc x ρ3) out st2 (fun a m => m) (hio.trans io2)
      | ok r ρ3 =>
        rw [e2] at out
        simp only [bind_ok] at out
        cases r with
        | ret cc => exact OutS.step (D := D) (r := .ok (.ret cc) ρ3) out st2 (fun a m => m) (hio.trans io2)
        | next => exact fun F3 H3 f3 σ3 s3 w3 er3 io3 => ⟨F3, f3, ρ3, w3, er3, st2.trans s3, (hio.trans io2).trans io3, out⟩
        | cont => exact fun F3 H3 f3 σ3 s3 w3 er3 io3 => ⟨F3, f3, ρ3, w3, er3, st2.trans s3, (hio.trans io2).trans io3, out⟩
theorem src_rg1 {d : PyData} {l : List PyData} (h : srcOf .range [d] = some l) : ∃ j, d = .int j ∧ (rangeOk 0 j && decide (j ≤ 16777216)) = true ∧ l = rangeD 0 j := by
  cases d <;> simp only [srcOf] at h <;> first | (cases h; done) | skip
  split at h <;> first | (cases h; done) | skip
  cases h
  exact ⟨_, rfl, by assumption, rfl⟩
theorem src_rg2 {d d2 : PyData} {l : List PyData} (h : srcOf .range [d, d2] = some l) : ∃ i j, d = .int i ∧ d2 = .int j ∧ (rangeOk i j && decide (j - i ≤ 16777216)) = true ∧ l = rangeD i j := by
  cases d <;> cases d2 <;> simp only [srcOf] at h <;> first | (cases h; done) | skip
  split at h <;> first | (cases h; done) | skip
  cases h
  exact ⟨_, _, rfl, rfl, by assumption, rfl⟩
/-- the sources are told -/
theorem for_src {K : PySem.W.Frag} {ca : Nat → Addr} {F H F1 H1 : Hp} {f g f1 : List Addr} {σ : L2.St} {ρ1 : Env} {vs : List Val} {xs : List V} {D : Ends} {k : List PyData → Env → Res Fl} (st1 : Step F H f F1 H1 (g ++ f1)) (w1 : Wd F1 H1 (g ++ f1)) (er1 : ER K ca F1 H1 σ ρ1 f1) (r1 : VRs K ca F1 H1 σ xs vs g)
    (out : OutS K ca W io F H f σ D ((frzs vs ρ1).bind k)) : ∃ F2 f2 ds ρ2, Step F H f F2 H1 f2 ∧ Wd F2 H1 f2 ∧ ER K ca F2 H1 σ ρ2 f2 ∧ FRs K F2 xs ds ∧ OutS K ca W io F2 H1 f2 σ D (k ds ρ2) := by
  cases e2 : frzs vs ρ1 with
  | bad => rw [e2] at out; exact out.elim
  | exc x2 ρ2 => exact (comp_rg1.frzs_exc e2).elim
  | ok ds ρ2 =>
    rw [e2] at out
    simp only [bind_ok] at out
    obtain ⟨F2, f2, fr, er2, w2, st2⟩ := frzs_ok w1 er1 r1 e2
    exact ⟨F2, f2, ds, ρ2, st1.trans st2, w2, er2, fr, OutS.step out (st1.trans st2) (fun a m => m) Io.refl⟩
abbrev forF (O : Wo) (n : Nat) (io : List Nat) (tg : Tg) (body : List S) : PyData → Env → Res Fl := fun x ρ => (Res.of (setTg io tg x ρ) ρ).bind fun ρ _ => exSs O.T (callF O.T n) io body ρ
theorem for_pl {t : Expr} {tg : Tg} {body : List S} {s : E} {D : Ends} {σ : L2.St} {H : Hp} (q : tSt X.K O.ca W io (exS' O n io (.for tg .pl [s] body)) D σ H) :
    tFor (iW X t (tE O n X.K W s)) (gT X.K tg) (tSt X.K O.ca W io (exSs' O n io body)) D σ H := by
  obtain ⟨ρ, F, f, w, er, out⟩ := q
  refine ⟨ρ, F, f, w, er, ?_⟩
  simp only [exS', exS, evVs] at out
  cases e1 : evE O.T (callF O.T n) s ρ with
  | bad => rw [e1] at out; exact out
  | exc x1 ρ1 => rw [e1] at out; exact ExV.ofS out
  | ok v ρ1 =>
    rw [e1] at out
    simp only [bind_ok, ncs, Bool.not_true, Bool.and_false, Bool.false_eq_true, if_false] at out
    intro F1 H1 xv g f1 st1 w1 er1 r1 p1
    obtain ⟨F2, f2, ds, ρ2, st2, w2, er2, fr, out2⟩ := for_src (xs := [xv]) (g := g) st1 w1 er1 (by simpa using VRs.cons r1 VRs.nil) out
    cases fr with
    | @cons _ _ d ds' fr1 fr2 =>
      cases fr2
      simp only [srcOf] at out2
      by_cases hlen : lenOk d = true
      · rw [if_pos hlen] at out2
        cases e3 : items d with
        | none => rw [e3] at out2; exact out2.elim
        | some l =>
          rw [e3] at out2
          simp only [of_some, bind_ok] at out2
          exact it_pl (Same.refl _) w2.same (PR.fr fr1) hlen e3 fun J hl wk => for_main w2 er2 wk out2
      · rw [if_neg hlen] at out2
        exact out2.elim
theorem for_rg1 {tg : Tg} {body : List S} {s : E} {D : Ends} {σ : L2.St} {H : Hp} (q : tSt X.K O.ca W io (exS' O n io (.for tg .range [s] body)) D σ H) :
    tFor (iRng1 (tVs O n X.K W [s])) (gT X.K tg) (tSt X.K O.ca W io (exSs' O n io body)) D σ H := by
  obtain ⟨ρ, F, f, w, er, out⟩ := q
  refine ⟨ρ, F, f, w, er, ?_⟩
  simp only [exS', exS] at out
  cases e1 : evVs O.T (callF O.T n) [s] ρ with
  | bad => rw [e1] at out; exact out
  | exc x1 ρ1 => rw [e1] at out; exact ExV.ofS out
  | ok vs ρ1 =>
    rw [e1] at out
    simp only [bind_ok] at out
    intro F1 H1 xs g f1 st1 w1 er1 r1 p1
    obtain ⟨F2, f2, ds, ρ2, st2, w2, er2, fr, out2⟩ := for_src st1 w1 er1 r1 out
    have hv := vs_len e1
    have hx : ds.length = 1 := by
      have := fr.length
      have h2 := r1.len
      simp only [List.length_singleton] at hv
      omega
    match ds, hx, fr, out2 with
    | [d], _, fr, out2 =>
      cases e3 : srcOf .range [d] with
      | none => rw [e3] at out2; exact out2.elim
      | some l =>
        rw [e3] at out2
        simp only [of_some, bind_ok] at out2
        obtain ⟨j, rfl, hr, rfl⟩ := src_rg1 e3
        cases fr with
        | cons a r =>
          cases r
          cases a
          simp only [rangeOk, Bool.and_eq_true, decide_eq_true_eq] at hr
          have hw : Wk X.K F2 F2 (Itr 0 j.toNat) (rangeD 0 j) := by
            have := wk_rng (K := X.K) (F0 := F2) (H0 := F2) (lo := 0) (hi := j)
            rwa [Int.sub_zero] at this
          exact ⟨j, rfl, hr.1.1.2, hr.1.2, for_main w2 er2 hw out2⟩
theorem for_rg2 {tg : Tg} {body : List S} {s s2 : E} {D : Ends} {σ : L2.St} {H : Hp} (q : tSt X.K O.ca W io (exS' O n io (.for tg .range [s, s2] body)) D σ H) :
    tFor (iRng2 (tVs O n X.K W [s, s2])) (gT X.K tg) (tSt X.K O.ca W io (exSs' O n io body)) D σ H := by
  obtain ⟨ρ, F, f, w, er, out⟩ := q
  refine ⟨ρ, F, f, w, er, ?_⟩
  simp only [exS', exS] at out
  cases e1 : evVs O.T (callF O.T n) [s, s2] ρ with
  | bad => rw [e1] at out; exact out
  | exc x1 ρ1 => rw [e1] at out; exact ExV.ofS out
  | ok vs ρ1 =>
    rw [e1] at out
    simp only [bind_ok] at out
    intro F1 H1 xs g f1 st1 w1 er1 r1 p1
    obtain ⟨F2, f2, ds, ρ2, st2, w2, er2, fr, out2⟩ := for_src st1 w1 er1 r1 out
    have hv := vs_len e1
    have hx : ds.length = 2 := by
      have := fr.length
      have h2 := r1.len
      simp only [List.length_cons, List.length_nil] at hv
      omega
    match ds, hx, fr, out2 with
    | [d, d2], _, fr, out2 =>
      cases e3 : srcOf .range [d, d2] with
      | none => rw [e3] at out2; exact out2.elim
      | some l =>
        rw [e3] at out2
        simp only [of_some, bind_ok] at out2
        obtain ⟨i, j, rfl, rfl, hr, rfl⟩ := src_rg2 e3
        cases fr with
        | cons a r =>
          cases r with
          | cons b r =>
            cases r
            cases a
            cases b
            simp only [rangeOk, Bool.and_eq_true, decide_eq_true_eq] at hr
            exact ⟨i, j, rfl, ⟨hr.1.1.1.1, hr.1.1.1.2, hr.1.1.2, hr.1.2⟩, for_main w2 er2 wk_rng out2⟩
theorem s_for {fb : Str → Bool} {t it : Expr} {sb : List Stmt} {tg : Tg} {k : ItK} {src : List E} {body : List S} {wi : TI} (po : PassesOwn (model X.prog X.w) X.A X.env X.xe) (hc : X.calm = true) (hN : X.N.Nodup) (hfb : ∀ x, fb x = true → X.fn x = true) (htg : tgB fb X.env.scope X.N tg t = true) (hi : PI X t it wi) (hb : SsOk O n X W io sb body)
    (hfold : ∀ v, foldedSetIterable it X.env v = pure v)
    (key : ∀ D σ H, tSt X.K O.ca W io (exS' O n io (.for tg k src body)) D σ H → tFor wi (gT X.K tg) (tSt X.K O.ca W io (exSs' O n io body)) D σ H) : SOk O n X W io (.For t it sb [] pos) (.for tg k src body) :=
  PS.imp (ps_for po hc hi (pg_ok hfb hc hN tg t htg) hb hfold) key
/-! ### while -/
def WhAt (O : Wo) (n : Nat) (K : PySem.W.Frag) (W : WX) (io : List Nat) (F1 H1 : Hp) (f1 : List Addr) (σ1 : L2.St) (D : Ends) (c : E) (body : List S) (m : Nat) (σ : L2.St) (H : Hp) : Prop :=
  ∃ (F : Hp) (f : List Addr) (ρ : Env), Wd F H f ∧ ER K O.ca F H σ ρ f ∧ Step F1 H1 f1 F H f ∧ Io io σ1 σ ∧ OutS K O.ca W io F1 H1 f1 σ1 D (whileL (evB O.T (callF O.T n) c) (fun ρ => exSs O.T (callF O.T n) io body ρ) m ρ)
theorem while_key {c : E} {body : List S} {D : Ends} {σ : L2.St} {H : Hp} (q : tSt X.K O.ca W io (exS' O n io (.while c body)) D σ H) : tWhile (tB (tE O n X.K W c)) (tSt X.K O.ca W io (exSs' O n io body)) D σ H := by
  obtain ⟨ρ1, F1, f1, w1, er1, out⟩ := q
  simp only [exS', exS] at out
  refine ⟨fun m σ' H' => WhAt O n X.K W io F1 H f1 σ D c body m σ' H', ⟨fuelW, F1, f1, ρ1, w1, er1, Step.refl, Io.refl, out⟩, ?_⟩
  rintro m σ2 H2 ⟨F, f, ρ, wd, er, st, hio, out⟩
  cases m with
  | zero => exact out.elim
  | succ m =>
    simp only [whileL, evB] at out
    refine ⟨ρ, F, f, wd, er, ?_⟩
    have outX : OutS X.K O.ca W io F H2 f σ2 D _ := OutS.step out st (fun a m => m) hio
    cases e1 : evE O.T (callF O.T n) c ρ with
    | bad => rw [e1] at outX; exact outX
    | exc x1 ρ2 => rw [e1] at outX; exact ExV.ofS outX
    | ok v ρ2 =>
      rw [e1] at out
      simp only [bind_ok] at out
      intro F3 H3 xv g f3 st3 w3 er3 r3 p3
      cases e2 : asBool v ρ2 with
      | bad => rw [e2] at out; exact out.elim
      | exc x2 ρ2 => exact (asBool_ne e2).elim
      | ok t ρ3 =>
        obtain ⟨rfl, e9⟩ := asBool_ok e2
        subst e9
        rw [e2] at out
        simp only [bind_ok] at out
        obtain ⟨rfl, rfl⟩ := vr_bool r3
        have stA : Step F1 H f1 F3 H3 f3 := st.trans st3
        refine ⟨t, rfl, ?_⟩
        cases t with
        | false =>
          simp only [Bool.false_eq_true, if_false] at out ⊢
          exact out F3 H3 f3 σ2 stA w3 er3 hio
        | true =>
          simp only [if_true] at out ⊢
          refine ⟨fun σ' H' => WhAt O n X.K W io F1 H f1 σ D c body m σ' H', fun σ' H' h => ⟨m, Nat.lt_succ_self _, h⟩, ρ3, F3, f3, w3, er3, ?_⟩
          show OutS X.K O.ca W io F3 H3 f3 σ2 _ (exSs O.T (callF O.T n) io body ρ3)
          cases e4 : exSs O.T (callF O.T n) io body ρ3 with
          | bad => rw [e4] at out; exact out
          | exc x ρ5 =>
            rw [e4] at out
            exact OutS.step (D := D) (r := .exc x ρ5) out stA (fun a m => m) hio
          | ok r ρ5 =>
            rw [e4] at out
            simp only [bind_ok] at out
            cases r with
            | ret cc => exact OutS.step (D := D) (r := .ok (.ret cc) ρ5) out stA (fun a m => m) hio
            | next => exact fun F5 H5 f5 σ5 s5 w5 er5 io5 => ⟨F5, f5, ρ5, w5, er5, stA.trans s5, hio.trans io5, out⟩
            | cont => exact fun F5 H5 f5 σ5 s5 w5 er5 io5 => ⟨F5, f5, ρ5, w5, er5, stA.trans s5, hio.trans io5, out⟩
theorem s_while {sb : List Stmt} {c : E} {body : List S} (po : PassesOwn (model X.prog X.w) X.A X.env X.xe) (hc : EOk O n X W e c) (hb : SsOk O n X W io sb body) : SOk O n X W io (.While e sb [] pos) (.while c body) :=
  PS.imp (ps_while po hc.pt hb) fun D σ H q => while_key q
end
end Z
set_option linter.all false
set_option Elab.async false
set_option maxRecDepth 100000
/-! Z40a: enumerate of anything begins; an iterator of new tuples as a turn of the layer. -/
namespace Z
open PySem L2 PyProof.Rows
set_option maxHeartbeats 1000000 in
theorem en_meets {x : Value} {ob : Obj} {Hx : Heap → Prop} (b0 : Begins x ob Hx) :
    Meets (Builtin.«enumerate.__new__» ⟨[.type "enumerate", x], []⟩) (fun _ R t => Hx t.heap ∧ R (.ok (.ret (.ref (t.heap.push ob).objs.size)))
      { t with heap := (t.heap.push ob).push { cls := .type "enumerate", data := .fields #[.none, .bool false, .ref t.heap.objs.size, rawInt 0, .none, .none] } }) :=
  .of_wp fun pr wo A R t ht => by
    obtain ⟨hh, gg, dd, tt, oo⟩ := t
    obtain ⟨hx, ht⟩ := ht
    have es := sub_enumerate
    have go : ∀ {A' : Around} {E : Value → Shared → Prop} {Q : Value → Shared → Prop}, Q (.ref hh.objs.size) ⟨hh.push ob, gg, dd, tt, oo⟩ → wpAny (model pr wo) A' (pyIter x) Q E ⟨hh, gg, dd, tt, oo⟩ :=
      fun k => b0.iter pr wo _ _ ⟨hh, gg, dd, tt, oo⟩ _ hx k
    wp_walk using go
    refine wpAny_stack_any fun _ => wpAny_pure ?_
    split
    · rename_i k _ _ _ _ _
      cases (k == Value.type "enumerate") <;> (wp_walk using go; exact ⟨_, rfl, ht⟩)
    · wp_walk using go
      exact ⟨_, rfl, ht⟩
theorem en_begins {pr : Program} {wo : World} {A : Around} {E : Value → Shared → Prop} {t : Shared} {x : Value} {ob : Obj} {Hx : Heap → Prop} {Q : Value → Shared → Prop} (b0 : Begins x ob Hx) (hx : Hx t.heap)
    (k : ∀ h2, IsEnum h2 (t.heap.objs.size + 1) t.heap.objs.size 0 .none → h2.get? t.heap.objs.size = some ob → (∀ a u, t.heap.get? a = some u → h2.get? a = some u) → Q (.ref (t.heap.objs.size + 1)) { t with heap := h2 }) :
    wpAny (model pr wo) A (call (.type "enumerate") [x]) Q E t := by
  have size1 : (t.heap.push ob).objs.size = t.heap.objs.size + 1 := Heap.size_push ..
  have last : IsEnum ((t.heap.push ob).push { cls := .type "enumerate", data := .fields #[.none, .bool false, .ref t.heap.objs.size, rawInt 0, .none, .none] }) (t.heap.objs.size + 1) t.heap.objs.size 0 .none := by
    have z := Heap.get?_push_size (t.heap.push ob) (o := { cls := .type "enumerate", data := .fields #[.none, .bool false, .ref t.heap.objs.size, rawInt 0, .none, .none] }) rfl
    rwa [size1] at z
  refine callType_new F.called_enumerate (by decide) (F.typeCall_enumerate_1 _) (F.newCall_enumerate_1 _) (fun _ => F.args_object_init_2 _ _) F.entry_enumerate_new (en_meets b0) ⟨hx, ?_⟩
  show _ ∧ _
  rw [size1]
  exact ⟨⟨_, last, rfl⟩, k _ last (Heap.get?_push_of_some _ (Heap.get?_push_size _ b0.free)) fun a u e => Heap.get?_push_of_some _ (Heap.get?_push_of_some _ e)⟩

/-! ### an iterator of new tuples -/
def itN (H0 : Hp) (Y : Nat → List V → Prop) (n : Nat) : It where
  go := fun i H => i < n ∧ Same H0 H
  yld := fun i H x H' => ∃ T xs, x = .ref T ∧ H T = none ∧ H' = upd H T (.tup xs) ∧ Y i xs
  stop := fun i H => n ≤ i ∧ Same H0 H
theorem turn_N {P : Program} {w : World} {K : PySem.W.Frag} {elts : List Expr} {kk : Nat} {tp : Pos} {H0 : Hp} {Y : Nat → List V → Prop} {n : Nat} {I : Addr} {wr fp fpT : List Addr} {Pm : Type} {Pt : Pm → Nat → Array Value → Prop} {St : Pm → Nat → Heap → Prop} {Mid : Pm → Nat → Addr → Heap → Prop} {T0 : Nat → Heap → Prop} {Sx : Pm → Heap → Prop}
    (W : ∀ A : Around, A.handled = none → ∀ p, WalksT P w A I fp wr n (Pt p) (St p) (Mid p)) (hI : I ∈ fpT) (hwr : ∀ b ∈ wr, b ∈ fpT) (mk : ∀ p i h, T0 i h → Sx p h → St p i h) (un : ∀ p i h, St p i h → T0 i h)
    (keep0 : ∀ i h h', T0 i h → (∀ b ∈ fpT, ∀ o, h.get? b = some o → h'.get? b = some o) → T0 i h') (obj0 : ∀ i h, T0 i h → ∀ b ∈ fpT, ∃ o, h.get? b = some o ∧ ∀ v, o.data ≠ .cell v)
    (self0 : ∀ (A : Around) i (s : Shared) (Q : Value → Shared → Prop) (E : Value → Shared → Prop), T0 i s.heap → Q (.ref I) s → wpAny (model P w) A (pyIter (.ref I)) Q E s)
    (src : ∀ (X : Cx) (pins : List (Addr × Obj)) (σ : L2.St) (H : Hp) (s : Shared), X.prog = P → X.w = w → X.K = K → Same H0 H → Inv X pins σ H s → ∃ p, Sx p s.heap ∧ ∀ i vals, i < n → Pt p i vals → ∃ xs, Vals xs vals.toList ∧ xs.length ≤ sizeLine ∧ Y i xs) :
    Turn P w K (.Tuple elts kk tp) (itN H0 Y n) fpT I (fun i h => i ≤ n ∧ T0 i h) where
  mem := hI
  obj := fun i h st => obj0 i h st.2
  keep := fun i h h' st k => ⟨st.1, keep0 i h h' st.2 k⟩
  item := by
    intro X hP hw hK hc i pins s σ H E I0 hf st hg
    subst hP hw hK
    obtain ⟨hin, sm⟩ := hg
    obtain ⟨p, hs, hY⟩ := src X pins σ H s rfl rfl rfl sm I0
    refine (W X.A (I0.ok.hd hc) p).item i s _ _ hin (mk p i _ st.2 hs) fun T vals h' tk hP hT hTup hMid hk => ?_
    refine ⟨.ref T, rfl, (W X.A (I0.ok.hd hc) p).go elts kk tp i T { s with heap := h', toks := tk } _ _ hMid fun h'' hSt hk2 => ?_⟩
    obtain ⟨xs, hv, hl, hy⟩ := hY i vals hin hP
    have nT := (W X.A (I0.ok.hd hc) p).apart i T h' hMid
    have hT2 : h''.IsTuple T vals := hTup.at fun o e => hk2 T o nT e
    have kp : ∀ b o, b ∉ fpT → s.heap.get? b = some o → h''.get? b = some o := fun b o hb e => hk2 b o (fun m => hb (hwr b m)) (hk b o (fun m => hb (hwr b m)) e)
    have new : ObjOk X.prog X.w (upd H T (.tup xs)) h'' T (.tup xs) := ⟨hl, vals.toList, hv, by
      have : vals.toList.toArray = vals := by simp
      rw [this]
      exact hT2⟩
    refine ⟨.ref T, _, I0.turnedNew (ch := fpT) kp hf hT new, rfl, ⟨T, xs, rfl, I0.hok.fresh hT, rfl, hy⟩, ⟨hin, un p _ _ hSt⟩, fun b hb => ?_⟩
    obtain ⟨o, ho, _⟩ := obj0 i s.heap st.2 b hb
    rw [upd_ne (Nat.ne_of_lt (Nat.lt_of_lt_of_le (Heap.lt_size ho) hT))]
    exact (hf b hb).1
  done := by
    intro X hP hw hK hc i pins s σ H E I0 hf st hg
    subst hP hw hK
    obtain ⟨hin, sm⟩ := hg
    have hi : i = n := Nat.le_antisymm st.1 hin
    subst hi
    obtain ⟨p, hs, _⟩ := src X pins σ H s rfl rfl rfl sm I0
    exact (W X.A (I0.ok.hd hc) p).done s _ _ (mk p i _ st.2 hs) fun h' tk hk => ⟨rfl, I0.turnedL (ch := fpT) (fun b o hb e => hk b o (fun m => hb (hwr b m)) e) hf⟩
  self := fun A i s Q E st h => self0 A i s Q E st.2 h
end Z
set_option linter.all false
set_option Elab.async false
set_option maxRecDepth 100000
/-! Z40: enumerate(x), zip(x, y): x, y lists, tuples, texts. -/
namespace Z
open PySem L2 PyProof.Rows
/-- what is drawn from: the iterator's own state T0, what stands of the source Sx -/
structure Sr (P : Program) (w : World) (K : PySem.W.Frag) (F0 H0 : Hp) (v : Value) (l : List PyData) where
  o : Obj
  Pm : Type
  T0 : Addr → Nat → Heap → Prop
  Sx : Pm → Heap → Prop
  fpS : List Addr
  Pp : Pm → Nat → Value → Prop
  beg : ∀ p, Begins v o (Sx p)
  dr : ∀ (A : Around), A.handled = none → ∀ (it : Addr), it ∉ fpS → ∀ p, Draws P w A it (it :: fpS) l.length (Pp p) (fun i h => T0 it i h ∧ Sx p h)
  st : ∀ it h, h.get? it = some o → T0 it 0 h
  fr : ∀ it i h h', T0 it i h → (∀ o, h.get? it = some o → h'.get? it = some o) → T0 it i h'
  ob : ∀ it i h, T0 it i h → ∃ o, h.get? it = some o ∧ ∀ u, o.data ≠ .cell u
  src : ∀ (X : Cx) (pins : List (Addr × Obj)) (σ : L2.St) (H : Hp) (s : Shared), X.prog = P → X.w = w → X.K = K → Same H0 H → Inv X pins σ H s →
    l.length ≤ 16777216 ∧ ∃ p, Sx p s.heap ∧ (∀ b ∈ fpS, b < s.heap.objs.size) ∧ ∀ i y, Pp p i y → ∃ x d, RelV x y ∧ l[i]? = some d ∧ FR K F0 x d
theorem vals_get' {xs : List V} {us : List Value} {i : Nat} {u : Value} (h : Vals xs us) (e : us[i]? = some u) : ∃ x, xs[i]? = some x ∧ RelV x u := by
  have hl := h.length
  have hi : i < xs.length := by rw [hl]; exact (List.getElem?_eq_some_iff.mp e).1
  obtain ⟨u', h1, h2⟩ := h.get (List.getElem?_eq_getElem hi)
  rw [e] at h1
  cases h1
  exact ⟨_, List.getElem?_eq_getElem hi, h2⟩
def srT {P : Program} {w : World} {K : PySem.W.Frag} {F0 H0 : Hp} {a : Addr} {xs : List V} {ds : List PyData} (sq : SqT K H0 a xs) (fr : FRs K F0 xs ds) : Sr P w K F0 H0 (.ref a) ds where
  o := { cls := .type "tuple_iterator", data := .fields #[.ref a, .int 0 0] }
  Pm := { its : List Value // its.length = ds.length }
  T0 := fun it i h => h.IsTupleIter it a i
  Sx := fun p h => h.IsTuple a p.1.toArray
  fpS := [a]
  Pp := fun p i y => p.1.toArray[i]? = some y
  beg := fun p => begins_tuple a _
  dr := fun A hA it hn p => by
    have := Draws.tuple (prog := P) (w := w) hA it a (fun e => hn (by simp [e])) p.1.toArray
    rw [List.size_toArray, p.2] at this
    exact this
  st := fun it h e => ⟨_, e, rfl, rfl⟩
  fr := fun it i h h' st k => st.at k
  ob := fun it i h ⟨o, e, _, d⟩ => ⟨o, e, fun u q => by rw [d] at q; cases q⟩
  src := fun X pins σ H s hP hw hK sm I => by
    subst hP hw hK
    obtain ⟨its, rv, p, hz⟩ := I.tuple (sqT_same sm sq)
    refine ⟨by rw [← fr.length, ← sizeLine_eq]; exact hz, ⟨its, by rw [← rv.length]; exact fr.length⟩, p, fun b hb => by rw [List.mem_singleton.mp hb]; exact p.lt, fun i y e => ?_⟩
    obtain ⟨x, h1, h2⟩ := vals_get' rv (by simpa using e)
    obtain ⟨d, h3, h4⟩ := fr.get' h1
    exact ⟨x, d, h2, h3, h4⟩
def srL {P : Program} {w : World} {K : PySem.W.Frag} {F0 H0 : Hp} {a : Addr} {xs : List V} {ds : List PyData} (sq : SqL K H0 a xs) (fr : FRs K F0 xs ds) : Sr P w K F0 H0 (.ref a) ds where
  o := { cls := .type "list_iterator", data := .fields #[.ref a, .int 0 0] }
  Pm := { its : List Value // its.length = ds.length }
  T0 := fun it i h => h.IsListIter it a i
  Sx := fun p h => h.IsList a p.1.toArray
  fpS := [a]
  Pp := fun p i y => p.1.toArray[i]? = some y
  beg := fun p => begins_list a _
  dr := fun A hA it hn p => by
    have := Draws.list (prog := P) (w := w) hA it a (fun e => hn (by simp [e])) p.1.toArray
    rw [List.size_toArray, p.2] at this
    exact this
  st := fun it h e => ⟨_, e, rfl, rfl⟩
  fr := fun it i h h' st k => st.at k
  ob := fun it i h ⟨o, e, _, d⟩ => ⟨o, e, fun u q => by rw [d] at q; cases q⟩
  src := fun X pins σ H s hP hw hK sm I => by
    subst hP hw hK
    obtain ⟨its, rv, p, hz⟩ := I.list (sm.seq sq)
    refine ⟨by rw [← fr.length, ← sizeLine_eq]; exact hz, ⟨its, by rw [← rv.length]; exact fr.length⟩, p.isList, fun b hb => by rw [List.mem_singleton.mp hb]; exact p.lt, fun i y e => ?_⟩
    obtain ⟨x, h1, h2⟩ := vals_get' rv (by simpa using e)
    obtain ⟨d, h3, h4⟩ := fr.get' h1
    exact ⟨x, d, h2, h3, h4⟩
def srS {P : Program} {w : World} {K : PySem.W.Frag} {F0 H0 : Hp} {z : Str} {t : Tok} (hz : z.cps.size ≤ 16777216) : Sr P w K F0 H0 (.str z t) (chars z) where
  o := { cls := .type (strIterType z), data := .fields #[.str z t, .int 0 0] }
  Pm := Unit
  T0 := fun it i h => h.IsStrIter it (strIterType z) z t i
  Sx := fun _ _ => True
  fpS := []
  Pp := fun _ i y => ∃ c u, z.cps[i]? = some c ∧ y = .str ⟨#[c]⟩ u
  beg := fun _ => begins_text z t
  dr := fun A hA it hn p => by
    have := Draws.text (prog := P) (w := w) hA it z t
    have hl : (chars z).length = z.cps.size := by simp [chars]
    rw [hl]
    exact { live := fun i h st => this.live i h st.1, frame := fun i h h' st k => ⟨this.frame i h h' st.1 k, trivial⟩, item := fun i s Q E hi st k => this.item i s Q E hi st.1 fun x h' tk p st' sb => k x h' tk p ⟨st', trivial⟩ sb, done := fun s Q E st k => this.done s Q E st.1 k }
  st := fun it h e => ⟨_, e, rfl, rfl⟩
  fr := fun it i h h' ⟨o, e, r⟩ k => ⟨o, k o e, r⟩
  ob := fun it i h ⟨o, e, _, d⟩ => ⟨o, e, fun u q => by rw [d] at q; cases q⟩
  src := fun X pins σ H s hP hw hK sm I => ⟨by simpa [chars] using hz, (), trivial, (fun b hb => nomatch hb), fun i y ⟨c, u, hc, e⟩ => ⟨.str ⟨#[c]⟩, .str ⟨#[c]⟩, ⟨u, e⟩, (by simp [chars, hc]), .str _⟩⟩
theorem sr_of {X : Cx} {F0 H0 : Hp} {x : V} {v : Value} {d : PyData} {l : List PyData} (s0 : Same F0 H0) (r : PR X.K F0 H0 x d) (rx : RelV x v) (hlen : lenOk d = true) (h : items d = some l) : Nonempty (Sr X.prog X.w X.K F0 H0 v l) := by
  cases d <;> simp only [items, Option.some.injEq] at h <;> first | (cases h; done) | skip
  · subst h
    cases r with
    | fr r =>
      cases r
      obtain ⟨t, rfl⟩ := rx
      exact ⟨srS (by simpa [lenOk] using hlen)⟩
  · subst h
    obtain ⟨p, ws, rfl, sq, fr⟩ := r.items s0
    cases rx
    exact ⟨srL sq fr⟩
  · subst h
    obtain ⟨p, ws, rfl, sq, fr⟩ := r.itemsT s0
    cases rx
    exact ⟨srT sq fr⟩
theorem same_up2 {F H : Hp} {q : Addr} {o : HO} (s : Same F H) : Same (upd F q o) (upd H q o) := fun a u e => by
  by_cases hq : a = q
  · subst hq
    rw [upd_same] at e ⊢
    exact e
  · rw [upd_ne hq] at e ⊢
    exact s a u e
theorem wk_N {K : PySem.W.Frag} {F0 H0 : Hp} {Y : Nat → List V → Prop} {l : List PyData} (h : ∀ i xs, Y i xs → ∃ ds, l[i]? = some (.tuple ds) ∧ FRs K F0 xs ds) : Wk K F0 H0 (itN H0 Y l.length) l := fun F H i s1 s2 s3 => by
  refine ⟨fun hl => ⟨hl, s3⟩, fun d hd => ⟨⟨(List.getElem?_eq_some_iff.mp hd).1, s3⟩, ?_⟩⟩
  rintro x H' ⟨T, xs, rfl, hT, rfl, hy⟩
  obtain ⟨ds, h1, h2⟩ := h i xs hy
  rw [hd] at h1
  cases h1
  have fT := s2.free hT
  refine ⟨upd F T (.tup xs), same_updN fT, same_updN hT, fun a ha => ?_, same_up2 s2, .tup (.inl (.inl upd_same)) (FRs.mono (s1.trans (same_updN fT)) _ h2)⟩
  by_cases e : a = T
  · exact .inr (by rw [e]; exact hT)
  · rw [upd_ne e] at ha
    exact .inl ha
theorem enum_get {l : List PyData} : ∀ {k i : Nat} {d : PyData}, l[i]? = some d → (enumD k l)[i]? = some (.tuple [.int ((k + i : Nat) : Int), d]) := by
  induction l with
  | nil => intro k i d h; simp at h
  | cons y ys ih =>
    intro k i d h
    cases i with
    | zero => simp at h; subst h; rfl
    | succ i =>
      rw [enumD, List.getElem?_cons_succ, ih (by simpa using h)]
      have : k + 1 + i = k + (i + 1) := by omega
      rw [this]
theorem enum_len {l : List PyData} : ∀ {k : Nat}, (enumD k l).length = l.length := by
  induction l with
  | nil => intro k; rfl
  | cons y ys ih => intro k; rw [enumD, List.length_cons, List.length_cons, ih]
section
variable {X : Cx} {elts : List Expr} {kk : Nat} {tp : Pos}
theorem en_go {F0 H0 H : Hp} {v : Value} {l : List PyData} {pins : List (Addr × Obj)} {σ : L2.St} {s : Shared} {R : It → Hp → Prop} (S : Sr X.prog X.w X.K F0 H0 v l) (s3 : Same H0 H) (I : Inv X pins σ H s) (q : ∀ J, (enumD 0 l).length ≤ 16777216 → Wk X.K F0 H0 J (enumD 0 l) → R J H) :
    wpAny (model X.prog X.w) X.A (call (.type "enumerate") [v]) (fun r s2 => wpAny (model X.prog X.w) X.A (pyIter r) (PIE X pins σ (.Tuple elts kk tp) R) X.xe s2) X.xe s := by
  obtain ⟨hlen, p, hs, hb, _⟩ := S.src X pins σ H s rfl rfl rfl s3 I
  have n1 : s.heap.objs.size ∉ S.fpS := fun m => absurd (hb _ m) (Nat.lt_irrefl _)
  have n2 : s.heap.objs.size + 1 ∉ s.heap.objs.size :: S.fpS := fun m => by
    rcases List.mem_cons.mp m with e | m
    · exact absurd e (Nat.succ_ne_self _)
    · exact absurd (hb _ m) (by show ¬ (s.heap.objs.size + 1 < s.heap.objs.size); omega)
  refine en_begins (S.beg p) hs fun h2 hE ho hk => wpAny_pyIter_enum hE ?_
  have I2 : Inv X pins σ H { s with heap := h2 } := I.kept (t' := s.toks) hk
  have T : Turn X.prog X.w X.K (.Tuple elts kk tp) (itN H0 (fun i xs => ∃ x d, xs = [.int (i : Nat), x] ∧ l[i]? = some d ∧ FR X.K F0 x d) l.length) [s.heap.objs.size + 1, s.heap.objs.size] (s.heap.objs.size + 1)
      (fun i h => i ≤ l.length ∧ (∃ old, IsEnum h (s.heap.objs.size + 1) s.heap.objs.size (0 + (i : Int)) old) ∧ S.T0 s.heap.objs.size i h) := by
    refine turn_N (Pm := S.Pm) (Sx := S.Sx) (T0 := fun i h => (∃ old, IsEnum h (s.heap.objs.size + 1) s.heap.objs.size (0 + (i : Int)) old) ∧ S.T0 s.heap.objs.size i h) (fun A hA p => WalksT.enumFrom 0 (S.dr A.in1 hA s.heap.objs.size n1 p) (s.heap.objs.size + 1) (Nat.succ_ne_self _) n2 (by simp)) (by simp) (fun b hb => hb) (fun p i h st hx => ⟨st.1, st.2, hx⟩) (fun p i h st => ⟨st.1, st.2.1⟩) ?_ ?_ ?_ ?_
    · rintro i h h' ⟨⟨old, he⟩, ht⟩ k
      exact ⟨⟨old, k _ (by simp) _ he⟩, S.fr _ _ _ _ ht fun o e => k _ (by simp) o e⟩
    · rintro i h ⟨⟨old, he⟩, ht⟩ b hb
      have e' : b = s.heap.objs.size + 1 ∨ b = s.heap.objs.size := by simpa using hb
      rcases e' with rfl | rfl
      · exact ⟨_, he, fun v q => nomatch q⟩
      · exact S.ob _ _ _ ht
    · rintro A i s Q E ⟨⟨old, he⟩, _⟩ h
      exact wpAny_pyIter_enum he h
    · intro X' pins σ H s hP hw hK sm I
      obtain ⟨_, p, h1, _, h3⟩ := S.src X' pins σ H s hP hw hK sm I
      refine ⟨p, h1, fun i vals hi ⟨t, y, hp, e⟩ => ?_⟩
      subst e
      obtain ⟨x, d, r1, r2, r3⟩ := h3 i y hp
      refine ⟨[.int (i : Nat), x], .cons ⟨t, ?_⟩ (.cons r1 .nil), by show 2 ≤ sizeLine; decide, x, d, rfl, r2, r3⟩
      show Value.int (0 + (i : Int)) t = Value.int (i : Int) t
      rw [Int.zero_add]
  refine ⟨s.heap.objs.size + 1, _, _, _, H, rfl, I2, T, ⟨Nat.zero_le _, ⟨.none, hE⟩, S.st _ _ ho⟩, fun b hb => ?_, q _ (by rw [enum_len]; exact hlen) ?_⟩
  · have e' : b = s.heap.objs.size + 1 ∨ b = s.heap.objs.size := by simpa using hb
    have hle : s.heap.objs.size ≤ b := by rcases e' with z | z <;> (rw [z]; first | exact Nat.le_succ _ | exact Nat.le_refl _)
    exact I.fpOk hle (I.hok.fresh hle)
  · have := wk_N (K := X.K) (F0 := F0) (H0 := H0) (Y := fun i xs => ∃ x d, xs = [.int (i : Nat), x] ∧ l[i]? = some d ∧ FR X.K F0 x d) (l := enumD 0 l) fun i xs ⟨x, d, e, h1, h2⟩ => ⟨[.int (i : Nat), d], by rw [enum_get h1, Nat.zero_add], by rw [e]; exact .cons (.int _) (.cons h2 .nil)⟩
    rwa [enum_len] at this
theorem zip_go {F0 H0 H : Hp} {v1 v2 : Value} {l1 l2 : List PyData} {pins : List (Addr × Obj)} {σ : L2.St} {s : Shared} {R : It → Hp → Prop} (S1 : Sr X.prog X.w X.K F0 H0 v1 l1) (S2 : Sr X.prog X.w X.K F0 H0 v2 l2) (s3 : Same H0 H) (I : Inv X pins σ H s) (q : ∀ J, (zipD l1 l2).length ≤ 16777216 → Wk X.K F0 H0 J (zipD l1 l2) → R J H) :
    wpAny (model X.prog X.w) X.A (call (.type "zip") [v1, v2]) (fun r s2 => wpAny (model X.prog X.w) X.A (pyIter r) (PIE X pins σ (.Tuple elts kk tp) R) X.xe s2) X.xe s := by
  obtain ⟨hlen1, p1, hs1, hb1, _⟩ := S1.src X pins σ H s rfl rfl rfl s3 I
  obtain ⟨_, p2, hs2, hb2, _⟩ := S2.src X pins σ H s rfl rfl rfl s3 I
  generalize hN : s.heap.objs.size = N at *
  have m1 : N ∉ S1.fpS := fun m => absurd (hb1 _ m) (Nat.lt_irrefl _)
  have m2 : N + 1 ∉ S2.fpS := fun m => absurd (hb2 _ m) (by show ¬ (N + 1 < N); omega)
  refine zip_begins2 (S1.beg p1) (S2.beg p2) hs1 hs2 fun h2 hz hTI hTO ho1 ho2 _ hk => wpAny_pyIter_zip hz ?_
  rw [hN] at hz hTI hTO ho1 ho2
  rw [hN]
  have I2 : Inv X pins σ H { s with heap := h2 } := I.kept (t' := s.toks) hk
  have T : Turn X.prog X.w X.K (.Tuple elts kk tp) (itN H0 (fun i xs => ∃ x1 d1 x2 d2, xs = [x1, x2] ∧ l1[i]? = some d1 ∧ l2[i]? = some d2 ∧ FR X.K F0 x1 d1 ∧ FR X.K F0 x2 d2) (min l1.length l2.length)) [N + 4, N + 2, N + 3, N, N + 1] (N + 4)
      (fun i h => i ≤ min l1.length l2.length ∧ IsZip h (N + 4) (N + 2) (N + 3) .none ∧ IsTupOf2 h (N + 2) (.ref N) (.ref (N + 1)) ∧ (∃ a1 a2, IsTupOf2 h (N + 3) a1 a2) ∧ S1.T0 N i h ∧ S2.T0 (N + 1) i h) := by
    refine turn_N (Pm := S1.Pm × S2.Pm) (Sx := fun p h => S1.Sx p.1 h ∧ S2.Sx p.2 h) (T0 := fun i h => IsZip h (N + 4) (N + 2) (N + 3) .none ∧ IsTupOf2 h (N + 2) (.ref N) (.ref (N + 1)) ∧ (∃ a1 a2, IsTupOf2 h (N + 3) a1 a2) ∧ S1.T0 N i h ∧ S2.T0 (N + 1) i h)
      (fun A hA p => WalksT.zipD2 (zip_sep2 hb1 hb2) (S1.dr A.in1 hA N m1 p.1) (S2.dr A.in1 hA (N + 1) m2 p.2)) (by simp) ?_ (fun p i h st hx => ⟨st.1, st.2.1, st.2.2.1, ⟨st.2.2.2.1, hx.1⟩, st.2.2.2.2, hx.2⟩) (fun p i h st => ⟨st.1, st.2.1, st.2.2.1, st.2.2.2.1.1, st.2.2.2.2.1⟩) ?_ ?_ ?_ ?_
    · intro b hb
      simp only [List.mem_cons, List.not_mem_nil, or_false] at hb ⊢
      rcases hb with h | h | h | h <;> simp [h]
    · rintro i h h' ⟨a1, a2, ⟨y1, y2, a3⟩, a4, a5⟩ k
      exact ⟨k _ (by simp) _ a1, k _ (by simp) _ a2, ⟨y1, y2, k _ (by simp) _ a3⟩, S1.fr _ _ _ _ a4 fun o e => k _ (by simp) o e, S2.fr _ _ _ _ a5 fun o e => k _ (by simp) o e⟩
    · rintro i h ⟨a1, a2, ⟨y1, y2, a3⟩, a4, a5⟩ b hb
      simp only [List.mem_cons, List.not_mem_nil, or_false] at hb
      rcases hb with rfl | rfl | rfl | rfl | rfl
      · exact ⟨_, a1, fun v q => nomatch q⟩
      · exact ⟨_, a2, fun v q => nomatch q⟩
      · exact ⟨_, a3, fun v q => nomatch q⟩
      · exact S1.ob _ _ _ a4
      · exact S2.ob _ _ _ a5
    · rintro A i s Q E ⟨a1, _⟩ h
      exact wpAny_pyIter_zip a1 h
    · intro X' pins σ H s hP hw hK sm I
      obtain ⟨_, p1, h1, _, h3⟩ := S1.src X' pins σ H s hP hw hK sm I
      obtain ⟨_, p2, h4, _, h6⟩ := S2.src X' pins σ H s hP hw hK sm I
      refine ⟨(p1, p2), ⟨h1, h4⟩, fun i vals hi ⟨y1, y2, hp1, hp2, e⟩ => ?_⟩
      subst e
      obtain ⟨x1, d1, r1, r2, r3⟩ := h3 i y1 hp1
      obtain ⟨x2, d2, r4, r5, r6⟩ := h6 i y2 hp2
      exact ⟨[x1, x2], .cons r1 (.cons r4 .nil), by show 2 ≤ sizeLine; decide, x1, d1, x2, d2, rfl, r2, r5, r3, r6⟩
  refine ⟨N + 4, _, _, _, H, rfl, I2, T, ⟨Nat.zero_le _, hz, hTI, ⟨_, _, hTO⟩, S1.st _ _ ho1, S2.st _ _ ho2⟩, fun b hb => ?_, q _ (by simp only [zipD, List.length_map, List.length_zip]; omega) ?_⟩
  · have hle : s.heap.objs.size ≤ b := by
      rw [hN]
      simp only [List.mem_cons, List.not_mem_nil, or_false] at hb
      rcases hb with z | z | z | z | z <;> (rw [z]; first | exact Nat.le_add_right _ _ | exact Nat.le_refl _)
    exact I.fpOk hle (I.hok.fresh hle)
  · have := wk_N (K := X.K) (F0 := F0) (H0 := H0) (Y := fun i xs => ∃ x1 d1 x2 d2, xs = [x1, x2] ∧ l1[i]? = some d1 ∧ l2[i]? = some d2 ∧ FR X.K F0 x1 d1 ∧ FR X.K F0 x2 d2) (l := zipD l1 l2) fun i xs ⟨x1, d1, x2, d2, e, h1, h2, h3, h4⟩ =>
      ⟨[d1, d2], by rw [zipD, List.getElem?_map, (List.getElem?_zip_eq_some (z := (d1, d2))).mpr ⟨h1, h2⟩]; rfl, by rw [e]; exact .cons h3 (.cons h4 .nil)⟩
    have hl : (zipD l1 l2).length = min l1.length l2.length := by simp [zipD]
    rwa [hl] at this
/-- a call of enumerate, zip that is walked: the wish itself -/
def iCl (X : Cx) (tg : Expr) (T : String) (ta : TA) : TI := fun σ H R => ta σ H fun vs H1 => ∀ (pins : List (Addr × Obj)) (s : Shared) (us : List Value), Inv X pins σ H1 s → Vals vs us →
  wpAny (model X.prog X.w) X.A (call (.type T) us) (fun r s2 => wpAny (model X.prog X.w) X.A (pyIter r) (PIE X pins σ tg R) X.xe s2) X.xe s
theorem pi_cl {tg e : Expr} {es : List Expr} {T : String} {ta : TA} {p pos : Pos} (hg : Gl X (Str.ofString T)) (hm : X.mg (Str.ofString T) = none) (hb : bootBuiltins (Str.ofString T) = some (.type T)) (hn : (Str.ofString T) ≠ "__name__") (hd : (Str.ofString T == ("__debug__" : Str)) = false) (ha : PA X (e :: es) ta)
    (hs : starEach (e :: es) X.env = (false, eval e X.env) :: starEach es X.env) (hpl : (backTo pos (starEach es X.env)).any (·.1) = false) : PI X tg (.Call (.Name (Str.ofString T) p) (e :: es) [] pos) (iCl X tg T ta) := by
  refine ⟨fun pins s σ H R I h => ?_⟩
  exact Call_ (ld_blt I hg hm hb (PyProof.Rows.callWith_type1 (thn (ha.run pos pins s σ H _ I h) fun us s1 ⟨vs, H1, I1, r1, q1⟩ => q1 pins s1 us I1 r1) hs hpl) hn hd)
end
end Z
set_option linter.all false
set_option Elab.async false
set_option maxRecDepth 100000
/-! Z41: for, [..] over enumerate(x), zip(x, y). -/
namespace Z
open PySem L2 PyProof.Rows
theorem comp_src2 {K : PySem.W.Frag} {ca : Nat → Addr} {F H F1 H1 : Hp} {f g f1 : List Addr} {σ : L2.St} {ρ1 ρ2 : Env} {vs : List Val} {xs : List V} {ds : List PyData} {pu : Bool} (st1 : Step F H f F1 H1 (g ++ f1)) (w1 : Wd F1 H1 (g ++ f1)) (er1 : ER K ca F1 H1 σ ρ1 f1) (r1 : VRs K ca F1 H1 σ xs vs g)
    (h : (if pu = true then Res.of (peeks ρ1 vs) ρ1 else frzs vs ρ1) = .ok ds ρ2) : ∃ F2 f2 gx H0, Step F H f F2 H1 gx ∧ (∀ a ∈ f2, a ∈ gx) ∧ Wd F2 H1 f2 ∧ ER K ca F2 H1 σ ρ2 f2 ∧ PRs K F2 H0 xs ds ∧ Same F2 H0 ∧ Same H0 H1 ∧ (pu = true ∨ H0 = F2) := by
  cases pu with
  | true =>
    simp only [if_true] at h
    obtain ⟨h1, rfl⟩ := of_okR h
    exact ⟨F1, f1, _, H1, st1, fun a m => List.mem_append_right _ m, w1.sub (List.sublist_append_right _ _), er1, r1.peeks er1 h1, w1.same, Same.refl _, .inl rfl⟩
  | false =>
    simp only [Bool.false_eq_true, if_false] at h
    obtain ⟨F2, f2, fr, er2, w2, st2⟩ := frzs_ok w1 er1 r1 h
    exact ⟨F2, f2, f2, F2, st1.trans st2, fun a m => m, w2, er2, comp_src.prs_of fr, Same.refl _, w2.same, .inr rfl⟩
theorem src_en {d : PyData} {l : List PyData} (h : srcOf .enum [d] = some l) : lenOk d = true ∧ ∃ l0, items d = some l0 ∧ l = enumD 0 l0 := by
  simp only [srcOf] at h
  split at h <;> first | (cases h; done) | skip
  rename_i hl
  obtain ⟨l0, h1, rfl⟩ := Option.map_eq_some_iff.mp h
  exact ⟨hl, l0, h1, rfl⟩
theorem src_zip {d e : PyData} {l : List PyData} (h : srcOf .zip [d, e] = some l) : lenOk d = true ∧ lenOk e = true ∧ ∃ l1 l2, items d = some l1 ∧ items e = some l2 ∧ l = zipD l1 l2 := by
  simp only [srcOf] at h
  split at h <;> first | (cases h; done) | skip
  rename_i hl
  rw [Bool.and_eq_true] at hl
  obtain ⟨l1, h1, h⟩ := Option.bind_eq_some_iff.mp h
  obtain ⟨l2, h2, rfl⟩ := Option.map_eq_some_iff.mp h
  exact ⟨hl.1, hl.2, l1, l2, h1, h2, rfl⟩
section
variable {O : Wo} {n : Nat} {X : Cx} {W : WX} {io : List Nat} {elts : List Expr} {kk : Nat} {tp : Pos}
theorem comp_en {tg : Tg} {own : List Nat} {elt s : E} {cond : List E} (hI : (tgI tg).all own.contains = true) (hcl : cond.length ≤ 1) (σ : L2.St) (H : Hp) (Q : VK) (q : tE O n X.K W (.comp elt tg .enum [s] cond own) σ H Q) :
    tLc (iCl X (.Tuple elts kk tp) "enumerate" (tVs O n X.K W [s])) (gT X.K tg) (tC1 O n X.K cond) (tE O n X.K W0 elt) own σ H Q := by
  obtain ⟨ρ, F, f, w, er, out⟩ := q
  refine ⟨ρ, F, f, w, er, ?_⟩
  simp only [evE] at out
  cases e1 : evVs O.T (callF O.T n) [s] ρ with
  | bad => rw [e1] at out; exact out
  | exc x1 ρ1 => rw [e1] at out; exact out
  | ok vs ρ1 =>
    rw [e1] at out
    simp only [bind_ok] at out
    intro F1 H1 xs g f1 st1 w1 er1 r1 p1
    cases e2 : (if (nc elt && ncs cond) = true then Res.of (peeks ρ1 vs) ρ1 else frzs vs ρ1) with
    | bad => rw [e2] at out; exact out.elim
    | exc x2 ρ2 => exact (comp_rg1.src_exc e2).elim
    | ok ds ρ2 =>
      rw [e2] at out
      simp only [bind_ok] at out
      obtain ⟨F2, f2, gx, H0, st2, hs, w2, er2, pr, s0, s3, hp⟩ := comp_src2 st1 w1 er1 r1 e2
      cases e3 : srcOf .enum ds with
      | none => rw [e3] at out; exact out.elim
      | some l =>
        rw [e3] at out
        simp only [of_some, bind_ok] at out
        have hv := vs_len e1
        have hx : ds.length = 1 := by
          have := pr.length
          have h2 := r1.len
          simp only [List.length_singleton] at hv
          omega
        match ds, hx, e3, pr with
        | [d], _, e3, pr =>
          obtain ⟨hlen, l0, h1, rfl⟩ := src_en e3
          cases pr with
          | cons a r =>
            cases r
            intro pins s us I rv
            obtain ⟨u, rfl, rx⟩ := vals1 rv
            obtain ⟨S⟩ := sr_of (X := X) s0 a rx hlen h1
            exact en_go S s3 I fun J hl wk => comp_go rfl st2 hs w2 er2 hI wk s3 hp hl hcl out
theorem comp_zip {tg : Tg} {own : List Nat} {elt s s' : E} {cond : List E} (hI : (tgI tg).all own.contains = true) (hcl : cond.length ≤ 1) (σ : L2.St) (H : Hp) (Q : VK) (q : tE O n X.K W (.comp elt tg .zip [s, s'] cond own) σ H Q) :
    tLc (iCl X (.Tuple elts kk tp) "zip" (tVs O n X.K W [s, s'])) (gT X.K tg) (tC1 O n X.K cond) (tE O n X.K W0 elt) own σ H Q := by
  obtain ⟨ρ, F, f, w, er, out⟩ := q
  refine ⟨ρ, F, f, w, er, ?_⟩
  simp only [evE] at out
  cases e1 : evVs O.T (callF O.T n) [s, s'] ρ with
  | bad => rw [e1] at out; exact out
  | exc x1 ρ1 => rw [e1] at out; exact out
  | ok vs ρ1 =>
    rw [e1] at out
    simp only [bind_ok] at out
    intro F1 H1 xs g f1 st1 w1 er1 r1 p1
    cases e2 : (if (nc elt && ncs cond) = true then Res.of (peeks ρ1 vs) ρ1 else frzs vs ρ1) with
    | bad => rw [e2] at out; exact out.elim
    | exc x2 ρ2 => exact (comp_rg1.src_exc e2).elim
    | ok ds ρ2 =>
      rw [e2] at out
      simp only [bind_ok] at out
      obtain ⟨F2, f2, gx, H0, st2, hs, w2, er2, pr, s0, s3, hp⟩ := comp_src2 st1 w1 er1 r1 e2
      cases e3 : srcOf .zip ds with
      | none => rw [e3] at out; exact out.elim
      | some l =>
        rw [e3] at out
        simp only [of_some, bind_ok] at out
        have hv := vs_len e1
        have hx : ds.length = 2 := by
          have := pr.length
          have h2 := r1.len
          simp only [List.length_cons, List.length_nil] at hv
          omega
        match ds, hx, e3, pr with
        | [d, d'], _, e3, pr =>
          obtain ⟨hlen, hlen', l1, l2, h1, h2, rfl⟩ := src_zip e3
          cases pr with
          | cons a r =>
            cases r with
            | cons b r =>
              cases r
              intro pins s us I rv
              obtain ⟨u, u', rfl, rx, ry⟩ := Vals.two rv
              obtain ⟨S1⟩ := sr_of (X := X) s0 a rx hlen h1
              obtain ⟨S2⟩ := sr_of (X := X) s0 b ry hlen' h2
              exact zip_go S1 S2 s3 I fun J hl wk => comp_go rfl st2 hs w2 er2 hI wk s3 hp hl hcl out
theorem for_en {tg : Tg} {body : List S} {s : E} {D : Ends} {σ : L2.St} {H : Hp} (q : tSt X.K O.ca W io (exS' O n io (.for tg .enum [s] body)) D σ H) :
    tFor (iCl X (.Tuple elts kk tp) "enumerate" (tVs O n X.K W [s])) (gT X.K tg) (tSt X.K O.ca W io (exSs' O n io body)) D σ H := by
  obtain ⟨ρ, F, f, w, er, out⟩ := q
  refine ⟨ρ, F, f, w, er, ?_⟩
  simp only [exS', exS] at out
  cases e1 : evVs O.T (callF O.T n) [s] ρ with
  | bad => rw [e1] at out; exact out
  | exc x1 ρ1 => rw [e1] at out; exact ExV.ofS out
  | ok vs ρ1 =>
    rw [e1] at out
    simp only [bind_ok] at out
    intro F1 H1 xs g f1 st1 w1 er1 r1 p1
    obtain ⟨F2, f2, ds, ρ2, st2, w2, er2, fr, out2⟩ := for_src st1 w1 er1 r1 out
    have hv := vs_len e1
    have hx : ds.length = 1 := by
      have := fr.length
      have h2 := r1.len
      simp only [List.length_singleton] at hv
      omega
    match ds, hx, fr, out2 with
    | [d], _, fr, out2 =>
      cases e3 : srcOf .enum [d] with
      | none => rw [e3] at out2; exact out2.elim
      | some l =>
        rw [e3] at out2
        simp only [of_some, bind_ok] at out2
        obtain ⟨hlen, l0, h1, rfl⟩ := src_en e3
        cases fr with
        | cons a r =>
          cases r
          intro pins s us I rv
          obtain ⟨u, rfl, rx⟩ := vals1 rv
          obtain ⟨S⟩ := sr_of (X := X) (Same.refl F2) (PR.fr (H := F2) a) rx hlen h1
          exact en_go S w2.same I fun J hl wk => for_main w2 er2 wk out2
theorem for_zip {tg : Tg} {body : List S} {s s' : E} {D : Ends} {σ : L2.St} {H : Hp} (q : tSt X.K O.ca W io (exS' O n io (.for tg .zip [s, s'] body)) D σ H) :
    tFor (iCl X (.Tuple elts kk tp) "zip" (tVs O n X.K W [s, s'])) (gT X.K tg) (tSt X.K O.ca W io (exSs' O n io body)) D σ H := by
  obtain ⟨ρ, F, f, w, er, out⟩ := q
  refine ⟨ρ, F, f, w, er, ?_⟩
  simp only [exS', exS] at out
  cases e1 : evVs O.T (callF O.T n) [s, s'] ρ with
  | bad => rw [e1] at out; exact out
  | exc x1 ρ1 => rw [e1] at out; exact ExV.ofS out
  | ok vs ρ1 =>
    rw [e1] at out
    simp only [bind_ok] at out
    intro F1 H1 xs g f1 st1 w1 er1 r1 p1
    obtain ⟨F2, f2, ds, ρ2, st2, w2, er2, fr, out2⟩ := for_src st1 w1 er1 r1 out
    have hv := vs_len e1
    have hx : ds.length = 2 := by
      have := fr.length
      have h2 := r1.len
      simp only [List.length_cons, List.length_nil] at hv
      omega
    match ds, hx, fr, out2 with
    | [d, d'], _, fr, out2 =>
      cases e3 : srcOf .zip [d, d'] with
      | none => rw [e3] at out2; exact out2.elim
      | some l =>
        rw [e3] at out2
        simp only [of_some, bind_ok] at out2
        obtain ⟨hlen, hlen', l1, l2, h1, h2, rfl⟩ := src_zip e3
        cases fr with
        | cons a r =>
          cases r with
          | cons b r =>
            cases r
            intro pins s us I rv
            obtain ⟨u, u', rfl, rx, ry⟩ := Vals.two rv
            obtain ⟨S1⟩ := sr_of (X := X) (Same.refl F2) (PR.fr (H := F2) a) rx hlen h1
            obtain ⟨S2⟩ := sr_of (X := X) (Same.refl F2) (PR.fr (H := F2) b) ry hlen' h2
            exact zip_go S1 S2 w2.same I fun J hl wk => for_main w2 er2 wk out2
theorem pi_enumW {t e : Expr} {s : E} {p pos : Pos} (hg : Gl X "enumerate") (hm : X.mg "enumerate" = none) (h : ELs O n X W [e] [s]) : PI X t (.Call (.Name "enumerate" p) [e] [] pos) (iCl X t "enumerate" (tVs O n X.K W [s])) := by
  have pa := h.vs
  cases h with
  | cons h1 hr => exact pi_cl (T := "enumerate") hg hm (by decide +kernel) (by decide) (by decide) pa (star_plain h1.pl _ _) (no_star hr _)
theorem pi_zipW {t e e' : Expr} {s s' : E} {p pos : Pos} (hg : Gl X "zip") (hm : X.mg "zip" = none) (h : ELs O n X W [e, e'] [s, s']) : PI X t (.Call (.Name "zip" p) [e, e'] [] pos) (iCl X t "zip" (tVs O n X.K W [s, s'])) := by
  have pa := h.vs
  cases h with
  | cons h1 hr => exact pi_cl (T := "zip") hg hm (by decide +kernel) (by decide) (by decide) pa (star_plain h1.pl _ _) (no_star hr _)
end
end Z
set_option linter.all false
set_option Elab.async false
set_option maxRecDepth 100000
/-! Z26: raise. -/
namespace Z
open PySem L2 PyProof.Rows
def bmVE : List Value := [.type "ValueError", .type "Exception", .type "BaseException", .type "object"]
/-- an exception class of the table, without an __init__ of its own -/
structure ExcF (O : Wo) (X : Cx) (k : Nat) (nm : Str) : Prop where
  mg : X.mg nm = some (.ref (O.ca k))
  kp : PySem.W.keepIn X.K (.ref (O.ca k)) = true
  ex : PySem.W.excIn X.K (O.ca k) bmVE "ValueError.__new__" = true
  sb : PySem.W.subIn X.K (.ref (O.ca k)) (.type "BaseException") = some true
  ty : PySem.W.typeIn X.K (.ref (O.ca k)) = some (.type "type")
section
variable {O : Wo} {n : Nat} {X : Cx} {W : WX} {io : List Nat} {e x y : Expr} {a b c : E} {pos : Pos} {xs : List Expr} {as : List E}
theorem s_raise {k : Nat} {nm : Str} {p q : Pos} {sc : Scope} {cl : Cls} (hs : X.env.scope = sc) (hgl : glB sc nm = true) (hc : X.calm = true) (tk : Takes X W) (F : ExcF O X k nm) (hcl : O.T.cls[k]? = some cl) (hfd : cl.fields = []) (hl : as.length ≤ 1000) (hne : as ≠ []) (h : ELs O n X W xs as) :
    SOk O n X W io (.Raise (some (.Call (.Name nm p) xs [] q)) none pos) (.raise k as) := by
  subst hs
  obtain ⟨g1, g2, _⟩ := gl_of hgl
  cases h with
  | nil => exact absurd rfl hne
  | @cons x0 a0 xs0 as0 h0 hrs =>
    have hl' : ELs O n X W (x0 :: xs0) (a0 :: as0) := .cons h0 hrs
    refine PS.imp (ps_raise hc tk (pmk_ownA PySem.F.excBase_ValueError F.ex F.mg F.kp (raises_own F.sb F.ty) g1 hl'.fs g2 (star_plain h0.pl _ _) (no_star hrs _))) fun D σ H ⟨ρ, F', f, w, er, out⟩ => ⟨ρ, F', f, w, er, ?_⟩
    simp only [exS', exS] at out
    cases e1 : evF O.T (callF O.T n) (a0 :: as0) ρ with
    | bad => rw [e1] at out; exact out
    | exc x1 ρ1 => rw [e1] at out; exact ExV.ofS out
    | ok ds ρ1 =>
      rw [e1] at out
      simp only [bind_ok, hcl, hfd, List.zip_nil_left] at out
      intro F1 H1 vs f1 st1 w1 er1 r1 p1
      refine ⟨?_, out F1 H1 (.ref (O.ca k)) none [] f1 σ st1 w1 er1 ⟨rfl, .inl ⟨rfl, rfl, rfl⟩⟩ Io.refl⟩
      rw [r1.length, evF_len e1, sizeLine_eq]
      omega
end
end Z
set_option linter.all false
set_option Elab.async false
set_option maxRecDepth 100000
/-! Z27: try .. except C as n: t = n; the exception stands in t from then on. -/
namespace Z
open PySem L2 PyProof.Rows
section
variable {X : Cx} {pins : List (Addr × Obj)} {σ : L2.St} {H : Hp} {s : Shared}
/-- an object that was made since the entry is told to the abstract heap -/
theorem Inv.track {a : Addr} {o : HO} (I : Inv X pins σ H s) (hn : H a = none) (h0 : X.s_0.heap.get? a = none) (hp : ∀ p ∈ X.pn ++ pins, p.1 ≠ a) (hL : X.env.locals ≠ a) (hC : ∀ x c, X.env.cells.lookup x = some c → c ≠ a)
    (new : ObjOk X.prog X.w (upd H a o) s.heap a o) : Inv X pins σ (upd H a o) s where
  ok := I.ok
  os := I.os
  bare := I.bare
  base := {
    keep := I.base.keep
    slot := I.base.slot
    free := fun b ob e n hx => by
      rw [upd_ne fun z => by rw [z, h0] at e; cases e]
      exact I.base.free b ob e n hx
    there := I.base.there
    tups := fun b xs e => by
      have z := I.base.tups b xs e
      rw [upd_ne fun q => by rw [q, hn] at z; cases z]
      exact z
    frzs := fun b u v e => by
      have z := I.base.frzs b u v e
      rw [upd_ne fun q => by rw [q, hn] at z; cases z]
      exact z
    tbls := fun b ps e => by
      obtain ⟨more, z⟩ := I.base.tbls b ps e
      exact ⟨more, by rw [upd_ne fun q => by rw [q, hn] at z; cases z]; exact z⟩ }
  loc := I.loc
  cell := I.cell
  free := by rw [upd_ne hL]; exact I.free
  freeC := fun x c e => by rw [upd_ne (hC x c e)]; exact I.freeC x c e
  pin := fun p m => by
    obtain ⟨h1, h2, h3⟩ := I.pin p m
    exact ⟨h1, by rw [upd_ne (hp p m)]; exact h2, h3⟩
  hok := fun b ob e => by
    by_cases hb : b = a
    · subst hb
      rw [upd_same] at e
      cases e
      exact new
    · rw [upd_ne hb] at e
      refine (I.hok b ob e).stay (fun _ _ _ q => q) (fun c q => ?_) fun c xs q => ?_
      · rw [upd_ne fun z => by rw [z, hn] at q; cases q]; exact q
      · rw [upd_ne fun z => by rw [z, hn] at q; cases q]; exact q
  len := I.len
/-- what the clause wishes: slot i is the clause's name, slot j keeps the exception -/
def wKeep (K : PySem.W.Frag) (c : Value) (i j : Nat) (D : Ends) : WX := fun cls d σ H => PySem.W.exmOne K cls c = some true ∧
  ∀ a, H a = none → D.nx (((σ.set i (some (.ref a))).set j (some (.ref a))).set i none) (upd H a (.ext (excO a cls d)))
section
variable {x nm tn : Str} {c : Value} {i j : Nat} {body : List Stmt} {np np2 tp ap pos pos' : Pos} {tb : WX → TS}
theorem ps_tryK (hs : X.stack = X.env :: X.outer) (hf : X.env.frame = some X.env.locals) (hex : X.ex = []) (hN : X.N.Nodup) (hi : X.N[i]? = some nm) (hj : X.N[j]? = some tn) (hni : X.env.scope.names.lookup nm = some .local) (hnj : X.env.scope.names.lookup tn = some .local)
    (hd1 : (nm == ("__debug__" : Str)) = false) (hd2 : (nm == ("__classdict__" : Str)) = false) (hc : Names X x c)
    (hb : ∀ (W : WX) (pn : List (Addr × Obj)) (xe : Value → Shared → Prop), Takes (X.tr pn xe) W → PassesOwn (model X.prog X.w) X.A X.env xe → PSs (X.tr pn xe) body (tb W)) :
    PS X (.Try body [.ExceptHandler (some (.Name x np)) (some nm) [.Assign [.Name tn tp] (.Name nm np2) ap] pos'] [] [] pos) (fun D σ H => tb (wKeep X.K c i j D) D σ H) := by
  refine ⟨fun pins s σ H D I h => ?_⟩
  have ok := I.ok
  have hframes : X.A.frames = some (X.env :: X.outer) := by rw [ok.frames, hs]
  have hkind : X.env.kindOf nm = some .local := hni
  refine wpAny_Try_except ?_
  let clause : ExceptHandler := .ExceptHandler (some (.Name x np)) (some nm) [.Assign [.Name tn tp] (.Name nm np2) ap] pos'
  let xe' : Value → Shared → Prop := fun e s₁ => wpAny (model X.prog X.w) X.A (noteFrame e X.env) (fun _ s₂ => wpAny (model X.prog X.w) X.A (setFlight e none) (fun _ s₃ => wpAny (model X.prog X.w) X.A (handleBy e X.env [clause]) (SP X pins D) X.xe s₃) X.xe s₂) X.xe s₁
  have hpo : PassesOwn (model X.prog X.w) X.A X.env xe' := PassesOwn.looking
  have htk : Takes (X.tr (X.pn ++ pins) xe') (wKeep X.K c i j D) := by
    intro u s' xx
    obtain ⟨a, B, sI, pins', σ', H', cls, d, rfl, Jt, nb, up, sky, na, os, ag, hmatch, hyes⟩ := xx
    have J : Inv X pins σ' H' sI := Jt.ofTry ok
    have skyA : Sky B (X.env :: X.outer) a (Zc cls d) X.env.locals s'.heap := by rw [← hs]; exact sky
    show wpAny (model X.prog X.w) X.A (noteFrame (.ref a) X.env) _ _ _
    refine Sky.land Zc.steady hframes hf skyA fun h3 fy3 up3 => ?_
    have J3 : Inv X pins σ' H' { s' with heap := h3 } := J.landed nb fy3.1 (up.trans up3) os ag
    obtain ⟨ob3, ws3, he3, hz3, hd3⟩ := fy3.there
    -- the exception's object is no frame
    have aside : ∀ {h : Heap} {o : Obj} {vs : Array Value}, h.FunFrames B (X.env :: X.outer) → h.get? a = some o → o.data = .fields vs → a ∉ frs (X.env :: X.outer) := fun {h o vs} ff e dd hm => by
      obtain ⟨_, o', e', hnf⟩ := ff.mem hm
      rw [e] at e'
      cases e'
      exact hnf _ dd
    have nfr := aside fy3.2.2.1 he3 hd3
    have nL : a ≠ X.env.locals := fun z => nfr (List.mem_filterMap.mpr ⟨X.env, List.mem_cons_self, by rw [hf, z]⟩)
    have nF : a ∉ X.fs := fun hm => by
      obtain ⟨e, he, q⟩ := List.mem_filterMap.mp hm
      exact nfr (List.mem_filterMap.mpr ⟨e, List.mem_cons_of_mem _ he, q⟩)
    -- it was not there ahead of the try
    have newI : sI.heap.get? a = none := by
      cases q : sI.heap.get? a with
      | none => rfl
      | some o =>
        have z := nb a o q (by rw [hs]; exact nfr)
        rw [fy3.2.1] at z
        cases z
    have new0 : X.s_0.heap.get? a = none := by
      cases q : X.s_0.heap.get? a with
      | none => rfl
      | some o =>
        obtain ⟨o', z⟩ := J.base.there a o q (by rw [hex]; exact fun z => nomatch z)
        rw [newI] at z
        cases z
    have S3 := J3.suite he3 hd3 na nL nF
    refine wpAny_handleBy_cons (codeAny_handlers_test ?_) (by intro q; cases q)
    have LT : PySem.W.Looks (model X.prog X.w) h3 (typeOf (.ref a)) cls := fun A Q E s k q => wpAny_typeOf_ref (k _ _ he3) (by rw [hz3.1]; exact q)
    have LM := PySem.W.exm_one (M := model X.prog X.w) (J3.kIn) LT hmatch
    have named : ∀ {Q : Value → Shared → Prop} {E : Value → Shared → Prop}, Q c { s' with heap := h3 } → wpAny (model X.prog X.w) (X.A.mark (some (.ref a))) (eval (.Name x np) X.env) Q E { s' with heap := h3 } := fun {Q E} q => by
      obtain ⟨hg, hdbg, hm⟩ := hc
      rcases hm with hm | ⟨hm, hv, hnn⟩
      · exact ld_glob (X := X.suite a ((a, ob3) :: (X.pn ++ pins))) S3 hg hm q hdbg
      · exact ld_blt (X := X.suite a ((a, ob3) :: (X.pn ++ pins))) S3 hg hm hv q hnn hdbg
    refine named (LM.here ?_)
    refine codeAny_handlers_suite_as ?_
    refine HandSPX.lands_againZ fy3 fun h4 fy4 up4 => ?_
    have J4 : Inv X pins σ' H' { s' with heap := h4 } := J.landed nb fy4.1 ((up.trans up3).trans up4) os ag
    obtain ⟨ob4, ws4, he4, hz4, hd4⟩ := fy4.there
    have S4 := J4.suite he4 hd4 na nL nF
    refine store_ok (X := X.suite a ((a, ob4) :: (X.pn ++ pins))) (v := .ref a) S4 hN hi (.inl hkind) rfl (fun s5 S5 => ?_) (.inr hkind)
    have hlen : i < σ'.length := by
      rw [J.len]
      exact (List.getElem?_eq_some_iff.mp hi).1
    have suite : PSs (X.suite a ((a, ob4) :: (X.pn ++ pins))) [.Assign [.Name tn tp] (.Name nm np2) ap] (tAsg (tVar i) (gName j)) := pss_one (ps_set hN hj (.inl hnj) (pe_var hi (.inl hni) hd1 hd2) rfl (.inr hnj))
    refine wpAny_mono (suite.run [] s5 _ H' { nx := fun σ6 H6 => σ6 = (σ'.set i (some (.ref a))).set j (some (.ref a)) ∧ H6 = H', rt := fun _ _ => False } S5 ⟨.ref a, List.getElem?_set_self hlen, rfl, rfl⟩) (fun f s6 ended => ?_) (fun _ _ z => False.elim z)
    cases f with
    | brk => obtain ⟨_, _, _, z⟩ := ended; exact z.elim
    | cont => obtain ⟨_, _, _, z⟩ := ended; exact z.elim
    | ret u => obtain ⟨_, _, _, _, _, z⟩ := ended; exact z.elim
    | next =>
      obtain ⟨σ6, H6, S6, rfl, rfl⟩ := ended
      have pinA := S6.pin (a, ob4) (List.mem_append_left _ List.mem_cons_self)
      have U6 : Inv X pins _ H6 s6 := S6.unsuite ok
      have U7 : Inv X ((a, ob4) :: pins) _ H6 s6 := U6.pins_of fun p hp => by
        rcases List.mem_cons.mp hp with e | hp
        · rw [e]; exact pinA
        · exact U6.pin p (List.mem_append_right _ hp)
      refine gone_ok U7 hN hi hkind fun s7 J7 => ?_
      obtain ⟨g7, n7, _, _, dc⟩ := J7.pin (a, ob4) (List.mem_append_right _ List.mem_cons_self)
      have J8 : Inv X pins _ H6 s7 := J7.pins_of fun p hp => J7.pin p (List.mem_append_right _ (List.mem_cons_of_mem _ hp))
      refine ⟨_, _, Z.Inv.track J8 na new0 (fun p hp e => ?_) (Ne.symm nL) (fun y cc e z => ?_) ?_, hyes a na⟩
      · have z := (J.pin p hp).1
        rw [e, newI] at z
        cases z
      · obtain ⟨w, o, ho, hd⟩ := J7.cell y cc e
        rw [z, g7] at ho
        cases ho
        exact dc _ hd
      · refine ⟨⟨ob4, g7, hz4.1, hz4.2, ws4, hd4⟩, ⟨ob4, g7⟩, fun h1 h2 q k => ?_⟩
        obtain ⟨o, q1, q2⟩ := q
        exact ⟨o, k o q1, q2⟩
  refine wpAny_mono ((hb (wKeep X.K c i j D) (X.pn ++ pins) xe' htk hpo).run [] s σ H D (I.toTry _) h) (fun f s1 ended => ?_) (fun e s1 he => he)
  cases f with
  | next =>
    obtain ⟨σ', H', Jt, q⟩ := ended
    exact wpAny_execs_nil ⟨σ', H', Jt.ofTry ok, q⟩
  | brk =>
    obtain ⟨σ', H', Jt, q⟩ := ended
    exact ⟨σ', H', Jt.ofTry ok, q⟩
  | cont =>
    obtain ⟨σ', H', Jt, q⟩ := ended
    exact ⟨σ', H', Jt.ofTry ok, q⟩
  | ret u =>
    obtain ⟨v, σ', H', Jt, r, q⟩ := ended
    exact ⟨v, σ', H', Jt.ofTry ok, r, q⟩
end
end
end Z
set_option linter.all false
set_option Elab.async false
set_option maxRecDepth 100000
/-! Z28: try in the small language. -/
namespace Z
open PySem L2 PyProof.Rows
section
variable {K : PySem.W.Frag} {ca : Nat → Addr} {F H : Hp} {f g : List Addr} {σ : L2.St}
/-- a place is forgotten -/
theorem ER.setN {s : Option V} {ρ : Env} {i : Nat} (er : ER K ca F H σ ρ f) (hi : i < ρ.length) : ∃ f', f'.Sublist f ∧ ER K ca F H (σ.set i s) (ρ.set i none) f' := by
  cases e : slot ρ i with
  | none => exact ⟨f, .refl _, (er.focus0 hi e).2 s⟩
  | some c0 =>
    obtain ⟨u, l, g0, r, _, h2, _, _, h5⟩ := er.focus e
    refine ⟨l ++ r, ?_, h5 F H s (Same.refl _) fun _ _ => rfl⟩
    rw [h2, List.append_assoc]
    exact (List.sublist_append_right g0 r).append_left l
end
section
variable {O : Wo} {n : Nat} {X : Cx} {W : WX} {io : List Nat}
theorem tryE_key {k i j : Nat} {body : List S} (hij : i ≠ j) (hx : ∀ x cl, O.T.cls[x]? = some cl → cl.up.contains k = true → PySem.W.exmOne X.K (.ref (O.ca x)) (.ref (O.ca k)) = some true) {D : Ends} {σ : L2.St} {H : Hp}
    (q : tSt X.K O.ca W io (exS' O n io (.tryE body k i j)) D σ H) : tSt X.K O.ca (wKeep X.K (.ref (O.ca k)) i j D) io (exSs' O n io body) D σ H := by
  obtain ⟨ρ, F, f, w, er, out⟩ := q
  refine ⟨ρ, F, f, w, er, ?_⟩
  simp only [exS', exS] at out
  show OutS X.K O.ca _ io F H f σ D (exSs O.T (callF O.T n) io body ρ)
  cases e1 : exSs O.T (callF O.T n) io body ρ with
  | bad => rw [e1] at out; exact out
  | ok r ρ1 =>
    rw [e1] at out
    cases r <;> exact out
  | exc x ρ1 =>
    rw [e1] at out
    simp only at out
    cases e2 : O.T.cls[x.k]? with
    | none => rw [e2] at out; exact out.elim
    | some cl =>
      rw [e2] at out
      simp only at out
      split at out
      · rename_i hc
        simp only [Bool.and_eq_true, decide_eq_true_eq, Bool.not_eq_true', List.contains_eq_mem, decide_eq_false_iff_not] at hc
        obtain ⟨hup, ⟨⟨hj, hi⟩, hjo⟩, hio⟩ := hc
        intro F1 H1 cls d g f1 σ1 st1 w1 er1 xr io1
        obtain ⟨rfl, xr⟩ := xr
        refine ⟨hx _ cl e2 (by simpa using hup), fun a ha => ?_⟩
        obtain ⟨f2, s2, er2⟩ := ER.setN (s := none) er1 hi
        have lv : ∀ b ∈ g ++ f2, H1 b ≠ none := fun b m => by
          rcases List.mem_append.mp m with m | m
          · rcases xr with ⟨_, e, _⟩ | ⟨dd, vs, _, e, e', _⟩
            · rw [e] at m; cases m
            · rw [e] at m
              rw [List.mem_singleton.mp m, e']
              exact fun z => nomatch z
          · exact ER.lives er2 b m
        have sn := step_new (F := F1) (o := .ext (excO a (.ref (O.ca x.k)) d)) ha
        have sm := same_updN (o := .ext (excO a (.ref (O.ca x.k)) d)) ha
        have w2 : Wd F1 H1 (g ++ f2) := w1.sub (s2.append_left g)
        have wn : Wd F1 (upd H1 a (.ext (excO a (.ref (O.ca x.k)) d))) [a] := ⟨w1.same.trans sm, by simp, fun b m => by rw [List.mem_singleton.mp m]; exact w1.same.free ha⟩
        have w3 : Wd F1 (upd H1 a (.ext (excO a (.ref (O.ca x.k)) d))) ((g ++ f2) ++ [a]) := sn.apart (by rw [List.append_nil]; exact w2) wn lv
        have keep : ∀ b ∈ g ++ f2, upd H1 a (.ext (excO a (.ref (O.ca x.k)) d)) b = H1 b := fun b m => upd_ne fun e => by subst e; exact lv _ m ha
        have er3 : ER X.K O.ca F1 (upd H1 a (.ext (excO a (.ref (O.ca x.k)) d))) (σ1.set i none) (ρ1.set i none) f2 := er2.mv (Same.refl _) fun b m => keep b (List.mem_append_right _ m)
        have s4 := sn.more (g ++ f2)
        rw [List.append_nil] at s4
        have cr : CR X.K O.ca F1 (upd H1 a (.ext (excO a (.ref (O.ca x.k)) d))) (.ref a) (.exc x.k x.fs) (a :: g) := by
          rcases xr with ⟨e, e', ed⟩ | ⟨dd, vs, e, e', e3, e4⟩
          · subst ed
            rw [e, e']
            exact .exc0 upd_same
          · subst e e'
            exact .exc1 upd_same ((keep dd (by simp)).trans e3) e4
        have w4 : Wd F1 (upd H1 a (.ext (excO a (.ref (O.ca x.k)) d))) ((a :: g) ++ f2) := w3.perm (List.perm_append_comm (l₁ := g ++ f2) (l₂ := [a]))
        obtain ⟨f5, s5, w5, er5⟩ := ER.setC cr er3 (by simpa using hj) w4
        have hσ : ((σ1.set i (some (.ref a))).set j (some (.ref a))).set i none = (σ1.set i none).set j (some (.ref a)) := by
          rw [List.set_comm _ _ hij, List.set_set, List.set_comm _ _ (Ne.symm hij)]
        rw [hσ]
        refine out F1 _ f5 _ ((st1.trans (s4.wide fun b m => (s2.append_left g).subset m)).less fun b m => ?_) w5 er5 (io1.trans fun b m => ?_)
        · have := s5 b m
          simp only [List.mem_append, List.mem_cons, List.mem_singleton] at this ⊢
          rcases this with (z | z) | z <;> simp [z]
        · rw [List.getElem?_set_ne fun e => hjo (by rw [e]; exact m), List.getElem?_set_ne fun e => hio (by rw [e]; exact m)]
      · exact out.elim
theorem s_tryE {k i j : Nat} {cn nm tn : Str} {body : List S} {sb : List Stmt} {np np2 tp ap pos pos' : Pos} (hs : X.stack = X.env :: X.outer) (hf : X.env.frame = some X.env.locals) (hex : X.ex = []) (hN : X.N.Nodup) (hi : X.N[i]? = some nm) (hj : X.N[j]? = some tn) (hij : i ≠ j) (hni : X.env.scope.names.lookup nm = some .local) (hnj : X.env.scope.names.lookup tn = some .local)
    (hd1 : (nm == ("__debug__" : Str)) = false) (hd2 : (nm == ("__classdict__" : Str)) = false) (hgl : glB X.env.scope cn = true) (hmg : X.mg cn = some (.ref (O.ca k)))
    (hx : ∀ x cl, O.T.cls[x]? = some cl → cl.up.contains k = true → PySem.W.exmOne X.K (.ref (O.ca x)) (.ref (O.ca k)) = some true)
    (hb : ∀ (W : WX) (pn : List (Addr × Obj)) (xe : Value → Shared → Prop), Takes (X.tr pn xe) W → PassesOwn (model X.prog X.w) X.A X.env xe → SsOk O n (X.tr pn xe) W io sb body) :
    SOk O n X W io (.Try sb [.ExceptHandler (some (.Name cn np)) (some nm) [.Assign [.Name tn tp] (.Name nm np2) ap] pos'] [] [] pos) (.tryE body k i j) := by
  obtain ⟨g1, g2, g3⟩ := gl_of hgl
  exact PS.imp (ps_tryK (tb := fun W => tSt X.K O.ca W io (exSs' O n io body)) hs hf hex hN hi hj hni hnj hd1 hd2 ⟨g1, g2, .inl hmg⟩ hb) fun D σ H q => tryE_key hij hx q
end
end Z
set_option linter.all false
set_option Elab.async false
set_option maxRecDepth 100000
/-! Z29: isinstance. -/
namespace Z
open PySem L2 PyProof.Rows
def tyV (ca : Nat → Addr) : Ty → Value
  | .int => .type "int"
  | .str => .type "str"
  | .bool => .type "bool"
  | .list => .type "list"
  | .tuple => .type "tuple"
  | .valueError => .type "ValueError"
  | .cls k => .ref (ca k)
def tyC (ca : Nat → Addr) : Ty → V
  | .int => .ty "int"
  | .str => .ty "str"
  | .bool => .ty "bool"
  | .list => .ty "list"
  | .tuple => .ty "tuple"
  | .valueError => .ty "ValueError"
  | .cls k => .ref (ca k)
theorem tyC_ok {ca : Nat → Addr} (t : Ty) : ClsV (tyC ca t) (tyV ca t) := by cases t <;> first | exact .ty _ | exact .own _
/-- what isinstance asks of an exception class of the table -/
structure ExcI (K : PySem.W.Frag) (ca : Nat → Addr) (T : Tab) (m : Nat) (k : Nat) (cl : Cls) : Prop where
  hc : (PySem.W.clsIn K (ca k)).isSome = true
  hg : PySem.W.findIn K (.ref (ca k)) "__getattribute__" = some (some (.builtin "BaseException.__getattribute__"))
  hk : PySem.W.findIn K (.ref (ca k)) "__getattr__" = some none
  hs : PySem.W.subIn K (.ref (ca k)) (.type "BaseException") = some true
  ha : PySem.W.findIn K (.ref (ca k)) "__class__" = some (some (.builtin "object.__class__"))
  hn : PySem.W.specialIn K (.builtin "object.__class__") "__get__" = some (some (.builtin "getset_descriptor.__get__"))
  ht : PySem.W.takesIn K (.builtin "object.__class__") = some true
  hm : PySem.W.mroIn K (ca k) (.type "object") = some true
  is : ∀ j, j < m → PySem.W.kitOne K (.ref (ca k)) (.ref (ca j)) = some (cl.up.contains j)
  iv : PySem.W.kitOne K (.ref (ca k)) (.type "ValueError") = some true
def tyIn (m : Nat) : Ty → Bool
  | .cls k => decide (k < m)
  | _ => true
section
variable {X : Cx} {ca : Nat → Addr} {T : Tab} {m : Nat}
/-- isinstance of what is told, type by type -/
def KitI (X : Cx) (ca : Nat → Addr) (T : Tab) (m : Nat) (s : Shared) (u : Value) (c : C) : Prop := ∃ (P : Heap → Prop) (t : Value), PySem.W.KitX X.K u t P ∧ P s.heap ∧ u ≠ .builtin "__main__.__loader__#opaque" ∧ ∀ ty b, tyIn m ty = true → isTy T c ty = some b → PySem.W.kitOne X.K t (tyV ca ty) = some b
theorem kit_data {d : PyData} {a : String} {K : PySem.W.Frag} (h : ∀ ty b, isTy T (.d d) ty = some b → (match ty with | .cls _ => none | .int => kitB a "int" | .str => kitB a "str" | .bool => kitB a "bool" | .list => kitB a "list" | .tuple => kitB a "tuple" | .valueError => none) = some b) :
    ∀ ty b, tyIn m ty = true → isTy T (.d d) ty = some b → PySem.W.kitOne K (.type a) (tyV ca ty) = some b := fun ty b _ e => by
  have := h ty b e
  cases ty <;> first | exact kit_ty this | (cases this; done)
theorem kit_fr {F H : Hp} {pins : List (Addr × Obj)} {σ : L2.St} {s : Shared} {x : V} {u : Value} {d : PyData} (I : Inv X pins σ H s) (sm : Same F H) (rx : RelV x u) (r : FR X.K F x d) : KitI X ca T m s u (.d d) := by
  have go : ∀ {a : String}, TyX X.K H x (.type a) → (∀ ty b, isTy T (.d d) ty = some b → (match ty with | .cls _ => none | .int => kitB a "int" | .str => kitB a "str" | .bool => kitB a "bool" | .list => kitB a "list" | .tuple => kitB a "tuple" | .valueError => none) = some b) → KitI X ca T m s u (.d d) := fun {a} t h => by
    obtain ⟨P, k1, k2, k3⟩ := kit_of I rx t
    exact ⟨P, _, k1, k2, k3, kit_data h⟩
  cases r with
  | non => exact go (.base .non) fun ty b e => by cases ty <;> simp only [isTy] at e <;> first | (cases e; done) | (cases e; decide +kernel)
  | bl y => exact go (.base (.bl y)) fun ty b e => by cases ty <;> simp only [isTy] at e <;> first | (cases e; done) | (cases e; decide +kernel)
  | int y => exact go (.base (.int y)) fun ty b e => by cases ty <;> simp only [isTy] at e <;> first | (cases e; done) | (cases e; decide +kernel)
  | str y => exact go (.base (.str y)) fun ty b e => by cases ty <;> simp only [isTy] at e <;> first | (cases e; done) | (cases e; decide +kernel)
  | @lst ad _ _ sq _ =>
    have t : TyX X.K H (.ref ad) (.type "list") := by
      rcases sm.seq sq with (e | ⟨o, e⟩) | ⟨o, its, k, e, c, _⟩
      · exact .base (.lst e)
      · exact .base (.frz e)
      · exact .kList e c
    exact go t fun ty b e => by cases ty <;> simp only [isTy] at e <;> first | (cases e; done) | (cases e; decide +kernel)
  | @tup ad _ _ sq _ =>
    have t : TyX X.K H (.ref ad) (.type "tuple") := by
      rcases sqT_same sm sq with (e | ⟨o, e⟩) | ⟨o, its, k, e, c, _⟩
      · exact .base (.tup e)
      · exact .fTuple e
      · exact .kTuple e c
    exact go t fun ty b e => by cases ty <;> simp only [isTy] at e <;> first | (cases e; done) | (cases e; decide +kernel)
  | dict e _ => exact go (.base (.dK (sm _ _ e))) fun ty b e => by cases ty <;> simp only [isTy] at e <;> first | (cases e; done) | (cases e; decide +kernel)
theorem kit_cr {F H : Hp} {pins : List (Addr × Obj)} {σ : L2.St} {s : Shared} {x : V} {u : Value} {c : C} {g : List Addr} (fx : ∀ k cl, T.cls[k]? = some cl → cl.up.contains k = true → ExcI X.K ca T m k cl) (I : Inv X pins σ H s) (sm : Same F H) (rx : RelV x u) (r : CR X.K ca F H x c g) (hne : ∃ ty b, isTy T c ty = some b) : KitI X ca T m s u c := by
  cases r with
  | d r => exact kit_fr I sm rx r
  | @lst a vs cs f e _ =>
    obtain ⟨P, k1, k2, k3⟩ := kit_of I rx (TyX.base (.lst e))
    refine ⟨P, _, k1, k2, k3, fun ty b _ e => ?_⟩
    cases ty <;> simp only [isTy] at e <;> first | (cases e; done) | (cases e; exact kit_ty (by decide +kernel))
  | dct _ _ =>
    obtain ⟨ty, b, e⟩ := hne
    cases ty <;> simp only [isTy] at e <;> cases e
  | obj _ _ =>
    obtain ⟨ty, b, e⟩ := hne
    cases ty <;> simp only [isTy] at e <;> cases e
  | @exc0 a k e =>
    obtain rfl : u = .ref a := rx
    exact go fx (s := s) k [] hne (by
      obtain ⟨⟨o, h1, h2, h3, vs, h4⟩, _⟩ := (show ObjOk X.prog X.w H s.heap a (.ext (excO a (.ref (ca k)) none)) from I.hok a _ e)
      exact ⟨o, none, h1, h2, by unfold PySem.W.notCls; rw [h4], by rw [h3]; trivial⟩) I.kIn
  | @exc1 a dd k fs cs e e' _ =>
    obtain rfl : u = .ref a := rx
    exact go fx (s := s) k cs hne (by
      obtain ⟨⟨o, h1, h2, h3, vs, h4⟩, _⟩ := (show ObjOk X.prog X.w H s.heap a (.ext (excO a (.ref (ca k)) (some dd))) from I.hok a _ e)
      obtain ⟨mA, ⟨o2, _, _, h5, _⟩, _⟩ := (show ObjOk X.prog X.w H s.heap dd (.xd fs) from I.hok dd _ e')
      exact ⟨o, some o2, h1, h2, by unfold PySem.W.notCls; rw [h4], by rw [h3]; exact h5⟩) I.kIn
where
  go {a : Addr} {s : Shared} (fx : ∀ k cl, T.cls[k]? = some cl → cl.up.contains k = true → ExcI X.K ca T m k cl) (k : Nat) (cs : List (Str × PyData)) (hne : ∃ ty b, isTy T (.exc k cs) ty = some b) (J : ∃ o od, PySem.W.InstAt s.heap a o (ca k) od) (kin : X.K.In s.heap) : KitI X ca T m s (.ref a) (.exc k cs) := by
    have : ∃ cl, T.cls[k]? = some cl ∧ cl.up.contains k = true := by
      obtain ⟨ty, b, e⟩ := hne
      cases ty <;> simp only [isTy] at e <;> first | (cases e; done) | skip
      all_goals
        obtain ⟨cl, h1, h2⟩ := Option.bind_eq_some_iff.mp e
        split at h2 <;> first | (cases h2; done) | skip
        exact ⟨cl, h1, by assumption⟩
    obtain ⟨cl, hcl, hup⟩ := this
    have E := fx k cl hcl hup
    obtain ⟨o, od, J⟩ := J
    refine ⟨_, .ref (ca k), PySem.W.kitx_exc E.hc E.hg E.hk E.hs E.ha E.hn E.ht E.hm, J, (fun z => nomatch z), fun ty b hin e => ?_⟩
    cases ty <;> simp only [isTy, hcl, Option.bind_some, hup, if_true] at e <;> first | (cases e; done) | skip
    · rename_i j
      cases e
      exact E.is j (by simpa [tyIn] using hin)
    · cases e
      exact E.iv
theorem kit_any {K : PySem.W.Frag} {t : Value} {c : C} (h : ∀ ty b, tyIn m ty = true → isTy T c ty = some b → PySem.W.kitOne K t (tyV ca ty) = some b) : ∀ {ts : List Ty} {b : Bool}, ts.all (tyIn m) = true → isTys T c ts = some b → PySem.W.kitAny K t (ts.map (tyV ca)) = some b
  | [], b, _, e => by simp only [isTys, Option.some.injEq] at e; subst e; rfl
  | ty :: ts, b, hin, e => by
    simp only [List.all_cons, Bool.and_eq_true] at hin
    simp only [isTys] at e
    obtain ⟨r, e1, e2⟩ := Option.bind_eq_some_iff.mp e
    rw [List.map_cons]
    refine kitAny_cons (h ty r hin.1 e1) (fun hr => ?_) fun hr => ?_
    · subst hr
      simp only [Bool.false_eq_true, if_false] at e2
      exact kit_any h hin.2 e2
    · subst hr
      simp only [if_true, Option.some.injEq] at e2
      exact e2.symm
theorem isTys_ne {c : C} : ∀ {ts : List Ty} {b : Bool}, ts ≠ [] → isTys T c ts = some b → ∃ ty b, isTy T c ty = some b
  | [], _, h, _ => absurd rfl h
  | ty :: ts, b, _, e => by
    simp only [isTys] at e
    obtain ⟨r, e1, _⟩ := Option.bind_eq_some_iff.mp e
    exact ⟨ty, r, e1⟩
end
section
variable {O : Wo} {n : Nat} {X : Cx} {W : WX} {e x y : Expr} {a b c : E}
theorem pe_ty {nm : Str} {T : String} {p : Pos} (hg : Gl X nm) (hm : X.mg nm = none) (hv : bootBuiltins nm = some (.type T)) (hn : nm ≠ "__name__") (hd : (nm == ("__debug__" : Str)) = false) : PE X (.Name nm p) (tC (.ty T)) :=
  ⟨fun pins s σ H Q I h => ld_blt I hg hm hv ⟨.ty T, H, I, rfl, h⟩ hn hd⟩
theorem pe_cl {nm : Str} {A : Addr} {p : Pos} (hg : Gl X nm) (hm : X.mg nm = some (.ref A)) (hd : (nm == ("__debug__" : Str)) = false) : PE X (.Name nm p) (tC (.ref A)) :=
  ⟨fun pins s σ H Q I h => ld_glob I hg hm ⟨.ref A, H, I, rfl, h⟩ hd⟩
/-- the names of types, as a row -/
def tCl (cs : List V) : TA := fun _ H Q => Q cs H
theorem clsVs {ca : Nat → Addr} : ∀ ts : List Ty, Paired ClsV (ts.map (tyC ca)) (ts.map (tyV ca))
  | [] => .nil
  | t :: ts => .cons (tyC_ok t) (clsVs ts)
/-- what isinstance is asked: one type, or a tuple of types -/
theorem isi_key1 {m : Nat} {t : Ty} (fx : ∀ k cl, O.T.cls[k]? = some cl → cl.up.contains k = true → ExcI X.K O.ca O.T m k cl) (hin : tyIn m t = true) (σ : L2.St) (H : Hp) (Q : VK) (q : tE O n X.K W (.isi a [t]) σ H Q) :
    tCB (rC X (.builtin "isinstance")) (tCons (tE O n X.K W a) (tCons (tC (tyC O.ca t)) tNil)) σ H Q := by
  obtain ⟨ρ, F, f, w, er, out⟩ := q
  refine ⟨ρ, F, f, w, er, ?_⟩
  simp only [evE] at out
  refine bind_out out fun v ρ1 _ out1 F1 H1 xv g f1 st1 w1 er1 r1 p1 => ?_
  cases e1 : look ρ1 v with
  | none => rw [e1] at out1; exact out1.elim
  | some cc =>
    rw [e1] at out1
    simp only [Option.bind_some] at out1
    cases e2 : isTys O.T cc [t] with
    | none => rw [e2] at out1; exact out1.elim
    | some b =>
      rw [e2] at out1
      simp only [Option.map_some, of_some] at out1
      obtain ⟨k, cr, _⟩ := VR.look er1 r1 e1
      have fin : Q (.bl b) H1 := out1.sc st1 (fun a m => List.mem_append_right _ m) (w1.sub (List.sublist_append_right _ _)) er1 (.bl b) fun e => p1 (by simpa [nc] using e)
      intro pins s σ' us I r
      cases r with
      | cons ru rr =>
        cases rr with
        | cons rt rr =>
          cases rr
          have et := (tyC_ok (ca := O.ca) t).eq rt
          subst et
          obtain ⟨P, tt, k1, k2, k3, k4⟩ := kit_cr fx I w1.same ru cr (isTys_ne (by simp) e2)
          have e3 : isTy O.T cc t = some b := by
            simp only [isTys] at e2
            obtain ⟨r, h1, h2⟩ := Option.bind_eq_some_iff.mp e2
            rw [h1]
            cases r <;> simp at h2 <;> simp [h2]
          exact PySem.W.kia_one k1 I.kIn k2 (k4 t b hin e3) k3 fun tk => ⟨.bl b, H1, I.tok tk, rfl, fin⟩
theorem isi_keyT {m : Nat} {ts : List Ty} (fx : ∀ k cl, O.T.cls[k]? = some cl → cl.up.contains k = true → ExcI X.K O.ca O.T m k cl) (hin : ts.all (tyIn m) = true) (hne : ts ≠ []) (hl : ts.length ≤ 1000) (σ : L2.St) (H : Hp) (Q : VK) (q : tE O n X.K W (.isi a ts) σ H Q) :
    tCB (rC X (.builtin "isinstance")) (tCons (tE O n X.K W a) (tCons (tTup (tCl (ts.map (tyC O.ca)))) tNil)) σ H Q := by
  obtain ⟨ρ, F, f, w, er, out⟩ := q
  refine ⟨ρ, F, f, w, er, ?_⟩
  simp only [evE] at out
  refine bind_out out fun v ρ1 _ out1 F1 H1 xv g f1 st1 w1 er1 r1 p1 => ?_
  cases e1 : look ρ1 v with
  | none => rw [e1] at out1; exact out1.elim
  | some cc =>
    rw [e1] at out1
    simp only [Option.bind_some] at out1
    cases e2 : isTys O.T cc ts with
    | none => rw [e2] at out1; exact out1.elim
    | some b =>
      rw [e2] at out1
      simp only [Option.map_some, of_some] at out1
      obtain ⟨k, cr, _⟩ := VR.look er1 r1 e1
      refine ⟨by rw [List.length_map, sizeLine_eq]; omega, fun tp htp => ?_⟩
      have sm : Same H1 (upd H1 tp (.tup (ts.map (tyC O.ca)))) := same_updN htp
      have w2 : Wd F1 H1 f1 := w1.sub (List.sublist_append_right _ _)
      have sn := step_new (F := F1) (o := .tup (ts.map (tyC O.ca))) htp
      have lv : ∀ b ∈ f1, H1 b ≠ none := ER.lives er1
      have wn : Wd F1 (upd H1 tp (.tup (ts.map (tyC O.ca)))) [tp] := ⟨w1.same.trans sm, by simp, fun b m => by rw [List.mem_singleton.mp m]; exact w1.same.free htp⟩
      have w3 : Wd F1 (upd H1 tp (.tup (ts.map (tyC O.ca)))) (f1 ++ [tp]) := sn.apart (by rw [List.append_nil]; exact w2) wn lv
      have s4 := sn.more f1
      rw [List.append_nil] at s4
      have keep : ∀ b, H1 b ≠ none → upd H1 tp (.tup (ts.map (tyC O.ca))) b = H1 b := fun b h => upd_ne fun e => by subst e; exact h htp
      have er2 : ER X.K O.ca F1 (upd H1 tp (.tup (ts.map (tyC O.ca)))) σ ρ1 f1 := er1.mv (Same.refl _) fun b m => keep b (lv b m)
      have cr2 : CR X.K O.ca F1 (upd H1 tp (.tup (ts.map (tyC O.ca)))) xv cc k := cr.mv (Same.refl _) cc fun b m => keep b (CR.lives _ cr b m)
      have stA : Step F H f F1 (upd H1 tp (.tup (ts.map (tyC O.ca)))) (f1 ++ [tp]) := st1.trans (s4.wide fun a m => List.mem_append_right _ m)
      have fin : Q (.bl b) (upd H1 tp (.tup (ts.map (tyC O.ca)))) := out1.sc stA (fun a m => List.mem_append_left _ m) (w3.sub (List.sublist_append_left _ _)) er2 (.bl b) fun e => (p1 (by simpa [nc] using e)).trans sm
      intro pins s σ' us I r
      cases r with
      | cons ru rr =>
        cases rr with
        | cons rt rr =>
          cases rr
          obtain rfl : _ = Value.ref tp := rt
          obtain ⟨P, tt, k1, k2, k3, k4⟩ := kit_cr fx I (w1.same.trans sm) ru cr2 (isTys_ne hne e2)
          obtain ⟨_, its, rv, o, h1, h2, nn, h3⟩ := (show ObjOk X.prog X.w _ s.heap tp (.tup (ts.map (tyC O.ca))) from I.hok tp _ upd_same)
          have e3 : its = ts.map (tyV O.ca) := by
            exact ClsV.all (clsVs ts) rv
          subst e3
          obtain ⟨oc, od, dt, sl⟩ := o
          simp only at h2 h3
          subst h2 h3
          exact PySem.W.kia_tup k1 I.kIn k2 h1 (kit_any k4 hin e2) k3 fun tk => ⟨.bl b, _, I.tok tk, rfl, fin⟩
theorem s_isi {m : Nat} {sc : Scope} {p q : Pos} {ts : List Ty} {ty : TE} {v : V} (hs : X.env.scope = sc) (hgl : glB sc "isinstance" = true) (hm : X.mg "isinstance" = none) (fx : ∀ k cl, O.T.cls[k]? = some cl → cl.up.contains k = true → ExcI X.K O.ca O.T m k cl) (hin : ts.all (tyIn m) = true)
    (ha : EOk O n X W x a) (hy : PE X y ty) (hpl : plainB y = true) (hty : (∃ t, ts = [t] ∧ ty = tC (tyC O.ca t)) ∨ (ts ≠ [] ∧ ts.length ≤ 1000 ∧ ty = tTup (tCl (ts.map (tyC O.ca))))) : EOk O n X W (.Call (.Name "isinstance" p) [x, y] [] q) (.isi a ts) := by
  subst hs
  obtain ⟨g1, g2, _⟩ := gl_of hgl
  have pa : PA X [x, y] (tCons (tE O n X.K W a) (tCons ty tNil)) := pa_cons ha.pe (pa_cons hy pa_nil (star_plain hpl _ _)) (star_plain ha.pl _ _)
  have nst : ∀ pos : Pos, (backTo pos (starEach [y] X.env)).any (·.1) = false := fun pos => by rw [star_plain hpl]; rfl
  have key : ∀ σ H Q, tE O n X.K W (.isi a ts) σ H Q → tCB (rC X (.builtin "isinstance")) (tCons (tE O n X.K W a) (tCons ty tNil)) σ H Q := fun σ H Q h => by
    rcases hty with ⟨t, rfl, rfl⟩ | ⟨h1, h2, rfl⟩
    · exact isi_key1 fx (by simpa using hin) σ H Q h
    · exact isi_keyT fx hin h1 h2 σ H Q h
  have h1 : PE X (.Call (.Name "isinstance" p) [x, y] [] q) (tE O n X.K W (.isi a ts)) :=
    PE.imp (pe_callB rC_ok g1 hm PyProof.Rows.boot_isinstance pa (by decide) (by decide) (star_plain ha.pl _ _) (nst _)) key
  exact ⟨h1, pt_val h1, rfl⟩
end
end Z
set_option linter.all false
set_option Elab.async false
set_option maxRecDepth 100000
/-! Z30: xs[:n] = [..]. -/
namespace Z
open PySem L2 PyProof.Rows
theorem head_bounds {c n : Nat} (hc : c ≤ n) : sliceBounds none (some (c : Int)) none n = ((0 : Int), (c : Int), 1) := by
  simp only [sliceBounds, Option.getD_none]
  have h2 : ¬ ((c : Int) < 0) := by omega
  simp only [h2, if_false, show (1 : Int) > 0 by decide, if_true]
  refine Prod.ext rfl (Prod.ext ?_ rfl)
  show max 0 (min (c : Int) (n : Int)) = (c : Int)
  omega
section
variable {prog : Program} {w : World} {A : Around} {E : Value → Shared → Prop} {s : Shared}
/-- list.__setitem__ with a slice from the front and another list -/
theorem setItem_head {pl pb ps : Addr} {old new : Array Value} {k k2 : Nat} {vup : Value} {c : Nat} {Q : Unit → Shared → Prop} (eOld : s.heap.get? pl = some { cls := .type "list", data := .seq old k }) (eNew : s.heap.get? pb = some { cls := .type "list", data := .seq new k2 }) (hne : pl ≠ pb)
    (hsl : s.heap.IsSliceOf ps .none vup .none) (hup : IsPart vup (some (c : Int))) (hc : c ≤ old.size) (hfit : old.size + new.size ≤ sizeLine) (h : Q () { s with heap := s.heap.update pl (Obj.mapSeq fun xs => xs.extract 0 0 ++ new ++ xs.extract c xs.size) }) :
    wpAny (model prog w) A (setItem (.ref pl) (.ref ps) (.ref pb)) Q E s := by
  have isL : s.heap.IsList pl old := PySem.IsL.isList eOld
  have isB : s.heap.IsList pb new := PySem.IsL.isList eNew
  obtain ⟨so, hso, hsc, hsd⟩ := id hsl
  have tyS : s.TypeIs (.ref ps) "slice" := ⟨so, hso, hsc⟩
  have notZero : ¬ ((rawPart none == rawInt 0) = true) := Bool.false_ne_true
  have apart : Builtin.List.listSameRef (.ref pl) (.ref pb) = false := by
    unfold Builtin.List.listSameRef; exact beq_eq_false_iff_ne.mpr hne
  have mx : (max (0 : Int) (c : Int)).toNat = c := by omega
  have zFit : ((fun xs : Array Value => xs.extract 0 0 ++ new ++ xs.extract c xs.size) old).size ≤ sizeLine + 1 := by
    simp only [Array.size_append, Array.size_extract]; omega
  unfold setItem
  try (with_reducible refine wpAny_holding ?_)
  first | (refine wpAny_bind (wpAny_pure ?_)) | skip
  refine wpAny_bind (wpAny_sequenceKey isL.typeIs (by decide) ?_)
  refine wpAny_bind (wpAny_callSpecial?_slot (name := Str.ofString "__setitem__") isL.typeIs slot_list_setitem (wpAny_call_entry slot_list_setitem isL.typeIs entry_list_setitem ?_ (args_list_setitem _ _ _)))
  show wpAny _ _ (Builtin.List.listSubscript? (.ref ps) >>= _) _ _ s
  refine wpAny_bind ?_
  unfold Builtin.List.listSubscript?
  refine wpAny_bind (wpAny_specialOf tyS slice_no_index ?_)
  simp only [Option.isNone_none, if_true]
  refine wpAny_pure ?_
  show wpAny _ _ (typeOf (.ref ps) >>= _) _ _ s
  refine wpAny_bind (wpAny_typeOf tyS ?_)
  first | (rw [if_neg (by decide)]) | (refine PySem.W.KFB.if_not (by decide) ?_)
  rw [listSliceParts_eq]
  refine wpAny_bind (wpAny_bind (wpAny_field hso hsd (x := .none) rfl (wpAny_bind (wpAny_listPart .none ?_))))
  rw [if_neg notZero]
  refine wpAny_bind (wpAny_field hso hsd (x := .none) rfl (wpAny_bind (wpAny_listPart .none ?_)))
  refine wpAny_bind (wpAny_field hso hsd (x := vup) rfl (wpAny_bind (wpAny_listPart hup (wpAny_pure ?_))))
  first
    | simp only [apart, Bool.false_eq_true, if_false]
    | (refine PySem.W.KFB.if_not apart ?_)
    | (dsimp only; rw [if_neg (by rw [apart]; exact Bool.false_ne_true)])
  refine wpAny_bind (m := Builtin.List.listAllItems (.ref pb) "must assign iterable to extended slice") ?_
  unfold Builtin.List.listAllItems
  refine wpAny_bind (wpAny_typeOf isB.typeIs ?_)
  first
    | (refine PySem.W.KFB.if_so (by decide) ?_)
    | (rw [if_pos (by decide)])
    | (simp only [beq_self_eq_true, Bool.true_or, if_true])
  unfold Builtin.List.listItems
  refine wpAny_bind (wpAny_seqItems eNew rfl (wpAny_pure ?_))
  refine wpAny_bind (wpAny_bind (wpAny_seqItems eOld rfl (wpAny_pure ?_)))
  refine wpAny_bind (wpAny_of_eq ((sliceIndices_raw none (some (c : Int)) none old.size (by simp)).trans (congrArg (pure : Int × Int × Int → Sem (Int × Int × Int)) (head_bounds hc))) ?_)
  show wpAny _ _ (if ((1 : Int) == 1) = true then _ else _) _ _ s
  rw [if_pos (by decide)]
  refine wpAny_bind (wpAny_rule ?_)
  first
    | simp only [notLongL hfit, Bool.false_eq_true, if_false]
    | (refine PySem.W.KFB.if_not (notLongL hfit) ?_)
  first | (refine wpAny_bind (wpAny_pure ?_)) | skip
  show wpAny _ _ (updateSeq pl (fun xs => xs.extract 0 ((0 : Int)).toNat ++ new ++ xs.extract (max (0 : Int) (c : Int)).toNat xs.size) >>= _) _ _ s
  rw [mx, Int.toNat_zero]
  refine wpAny_bind (wpAny_updateSeq (hz := Nat.le_trans (Nat.le_add_right _ _) hfit) (_hz' := zFit) eOld rfl ?_)
  refine wpAny_bind (wpAny_letGo ?_)
  first
    | exact wpAny_bind (wpAny_pure (wpAny_pure ⟨.none, rfl, wpAny_pure h⟩))
    | exact wpAny_pure ⟨.none, rfl, wpAny_pure h⟩
end
section
variable {O : Wo} {n : Nat} {X : Cx} {W : WX} {io : List Nat} {e x y : Expr} {a b c : E} {pos : Pos}
/-- the target xs[:n] -/
def gHd (n : Nat) (to : TE) : TG := fun v σ H Q => to σ H fun o H1 => ∃ l xs b ys, o = .ref l ∧ v = .ref b ∧ H1 l = some (.lst xs) ∧ H1 b = some (.lst ys) ∧ l ≠ b ∧ n ≤ xs.length ∧ xs.length + ys.length ≤ sizeLine ∧ Q σ (upd H1 l (.lst (ys ++ xs.drop n)))
theorem pg_hd {to : TE} {m j : Nat} {p2 p3 : Pos} (ho : PE X x to) : PG X (.Subscript x (.Slice none (some (.Constant (.int m) j p3)) none p2) pos) (gHd m to) := by
  refine ⟨fun pins s σ H v u Q I r h => ?_⟩
  have ha : ∀ v, assign (.Subscript x (.Slice none (some (.Constant (.int m) j p3)) none p2) pos) X.env v = (do
      let ov ← holding [v] (eval x X.env)
      let iv ← holding [v, ov] (eval (.Slice none (some (.Constant (.int m) j p3)) none p2) X.env)
      standAt pos
      holding [v, ov, iv] (setItem ov iv v)
      release [iv, v, ov] []) := by intro _; rfl
  rw [ha]
  refine wpAny_bind (wpAny_holding (thn (ho.run pins s σ H _ I h) fun ov t1 hq1 => ?_))
  obtain ⟨xo, H1, I1, ro, l, xs, b, ys, rfl, rfl, hl, hb, hne, hm, hz, q⟩ := hq1
  cases ro
  cases r
  refine wpAny_bind (wpAny_holding ?_)
  have up : PO X (some (.Constant (.int m) j p3)) (tPart (tC (.int m))) := po_some pe_int
  have lo : PO X none tNoPart := po_none
  refine wpAny_Slice (thn (lo.run pins t1 σ H1 (fun i H2 => i = none ∧ H2 = H1) I1 ⟨rfl, rfl⟩) fun vl t2 hq2 => ?_)
  obtain ⟨_, H2, I2, pl, rfl, rfl⟩ := hq2
  cases pl
  refine thn (up.run pins t2 σ H2 (fun i H3 => i = some (m : Int) ∧ H3 = H2) I2 ⟨_, rfl, rfl, rfl⟩) fun vu t3 hq3 => ?_
  obtain ⟨_, H3, I3, pu, rfl, rfl⟩ := hq3
  rw [evalPart_none]
  refine wpAny_pure ?_
  refine wpAny_bind (wpAny_standAt (wpAny_bind (wpAny_holding ?_)))
  have I4 : Inv X pins σ H3 { t3 with heap := t3.heap.push { cls := .type "slice", data := .fields #[.none, vu, .none] } } := I3.kept (t' := t3.toks) fun b ob q => Heap.get?_push_of_some _ q
  obtain ⟨z1, its, k, r1, hl1, e1⟩ := I4.lstM hl
  obtain ⟨z2, its2, k2, r2, hl2, e2⟩ := I4.lstM hb
  refine setItem_head (c := m) e1 e2 hne (Heap.IsSliceOf.new ..) pu (by rw [List.size_toArray]; omega) (by rw [List.size_toArray, List.size_toArray]; omega) ?_
  refine wpAny_release ?_
  refine ⟨σ, _, I4.lset (its' := its2 ++ its.drop m) (t' := t3.toks) hl e1 ?_ (Vals.append r2 (r1.drop _)) ?_, q⟩
  · have := splice_eq its its2 0 m
    simpa using this
  · rw [List.length_append, List.length_drop]
    omega
theorem crs_drop {K : PySem.W.Frag} {ca : Nat → Addr} {F H : Hp} : ∀ {cs : List C} {vs : List V} {f : List Addr} (m : Nat), CRs K ca F H vs cs f → ∃ g, g.Sublist f ∧ CRs K ca F H (vs.drop m) (cs.drop m) g
  | _, _, f, 0, h => ⟨f, .refl _, h⟩
  | [], _, _, m + 1, h => by cases h; exact ⟨[], .refl _, .nil⟩
  | c :: cs, _, _, m + 1, h => by
    cases h with
    | @cons v vs c cs f1 f2 a r =>
      obtain ⟨g, s, q⟩ := crs_drop m r
      exact ⟨g, s.trans (List.sublist_append_right _ _), q⟩
theorem crs_ds {K : PySem.W.Frag} {ca : Nat → Addr} {F H : Hp} : ∀ {ds : List PyData} {vs : List V}, FRs K F vs ds → CRs K ca F H vs (ds.map .d) []
  | [], _, h => by cases h; exact .nil
  | d :: ds, _, h => by cases h with | cons a r => exact .cons (f := []) (.d a) (crs_ds r)
theorem setHd_key {m : Nat} {D : Ends} {σ : L2.St} {H : Hp} (q : tSt X.K O.ca W io (exS' O n io (.setHd a m c)) D σ H) : tAsg (tE O n X.K W c) (gHd m (tE O n X.K W a)) D σ H := by
  obtain ⟨ρ, F, f, w, er, out⟩ := q
  refine ⟨ρ, F, f, w, er, ?_⟩
  simp only [exS', exS] at out
  refine bindS out fun v ρ1 _ out1 F1 H1 xv g f1 st1 w1 er1 r1 p1 => ?_
  cases v with
  | bor _ _ => exact out1.elim
  | own cv =>
    cases cv with
    | lst ds =>
      simp only at out1
      cases e1 : flats ds with
      | none => rw [e1] at out1; exact out1.elim
      | some xs =>
        rw [e1] at out1
        simp only at out1
        cases r1 with
        | @lst pb ys _ g' hB rs =>
          obtain ⟨frs, rfl⟩ := flats_rep rs e1
          refine ⟨ρ1, F1, f1, w1.sub (List.sublist_append_right _ _), er1, ?_⟩
          refine bindS' out1 st1 (fun a m => List.mem_append_right _ m) fun u ρ2 _ out2 F2 H2 ov g2 f2 st2 w2 er2 r2 p2 => ?_
          cases u with
          | own _ => exact out2.elim
          | bor j p =>
            cases p with
            | cons _ _ => exact out2.elim
            | nil =>
              simp only at out2
              obtain rfl := r2.bor_nil
              rw [List.nil_append] at w2 st2
              cases e3 : look ρ2 (.bor j []) with
              | none => rw [e3] at out2; exact out2.elim
              | some bb =>
                rw [e3] at out2
                cases bb with
                | lst cs =>
                  simp only at out2
                  split at out2
                  · rename_i hc
                    simp only [Bool.and_eq_true, decide_eq_true_eq] at hc
                    obtain ⟨l, gl, rr, hf, crl, back⟩ := er2.at e3 r2
                    cases crl with
                    | @lst ad vs _ fc hH rsl =>
                      have lvB : ∀ b ∈ [pb], H1 b ≠ none := fun b m => by rw [List.mem_singleton.mp m, hB]; exact fun z => nomatch z
                      have hB2 : H2 pb = some (.lst ys) := (st2.stay (by simpa using w1.nd) lvB pb (List.mem_singleton.mpr rfl)).trans hB
                      have wB : Wd F2 H2 ([pb] ++ f2) := st2.apart (by simpa using w1) w2 lvB
                      have hmem : ad ∈ f2 := by rw [hf]; simp
                      have hne : ad ≠ pb := fun z => (List.nodup_append.mp wB.nd).2.2 pb (List.mem_singleton.mpr rfl) ad hmem z.symm
                      have hlen : ys.length = xs.length := frs.length
                      have hlv : vs.length = cs.length := CRs.length rsl
                      refine ⟨ad, vs, pb, ys, rfl, rfl, hH, hB2, hne, by omega, by rw [sizeLine_eq]; omega, ?_⟩
                      obtain ⟨gd, sd, rsd⟩ := crs_drop m rsl
                      have st3 := step_upd (F := F2) (o' := .lst (ys ++ vs.drop m)) hmem hH
                      have wd3 := wd_upd (o' := .lst (ys ++ vs.drop m)) w2 hmem hH
                      have nd1 : (l ++ (ad :: fc) ++ rr).Nodup := by rw [← hf]; exact w2.nd
                      have nl : ∀ b ∈ l ++ rr, b ≠ ad := fun b m e => by
                        subst e
                        rw [List.append_assoc] at nd1
                        have n1 := List.nodup_append.mp nd1
                        rcases List.mem_append.mp m with m | m
                        · exact n1.2.2 b m b (by simp) rfl
                        · exact (List.nodup_append.mp n1.2.1).2.2 b (by simp) b m rfl
                      have nfc : ∀ b ∈ fc, b ≠ ad := fun b m e => by
                        subst e
                        rw [List.append_assoc] at nd1
                        exact (List.nodup_cons.mp (List.nodup_append.mp (List.nodup_append.mp nd1).2.1).1).1 m
                      have keep : ∀ b, b ≠ ad → upd H2 ad (.lst (ys ++ vs.drop m)) b = H2 b := fun b hb => upd_ne hb
                      have rsn : CRs X.K O.ca F2 (upd H2 ad (.lst (ys ++ vs.drop m))) (ys ++ vs.drop m) (xs.map .d ++ cs.drop m) ([] ++ gd) := crs_append (crs_ds (FRs.mono st2.fr _ frs)) (CRs.mv (Same.refl _) _ rsd fun b mm => keep b (nfc b (sd.subset mm)))
                      have er3 := back F2 (upd H2 ad (.lst (ys ++ vs.drop m))) (.lst (xs.map .d ++ cs.drop m)) (ad :: ([] ++ gd)) (Same.refl _) (fun b mm => keep b (nl b mm)) (.lst upd_same rsn)
                      have sub : List.Sublist (l ++ (ad :: ([] ++ gd)) ++ rr) f2 := by
                        rw [hf]
                        exact ((List.Sublist.cons₂ ad sd).append_left l).append_right rr
                      have stA : Step F H f F2 H2 f2 := st1.trans (st2.wide fun b m => List.mem_append_right _ m)
                      exact out2 F2 _ _ σ ((stA.trans st3).less fun b m => sub.subset m) (wd3.sub sub) er3 Io.refl
                  · exact out2.elim
                | d _ => exact out2.elim
                | dct _ => exact out2.elim
                | obj _ _ => exact out2.elim
                | exc _ _ => exact out2.elim
    | d _ => exact out1.elim
    | dct _ => exact out1.elim
    | obj _ _ => exact out1.elim
    | exc _ _ => exact out1.elim
theorem s_setHd {m j : Nat} {p p2 p3 : Pos} (hl : lcB e = false) (ht : tupB e = false) (he : EOk O n X W e c) (ho : EOk O n X W x a) : SOk O n X W io (.Assign [.Subscript x (.Slice none (some (.Constant (.int m) j p3)) none p2) p] e pos) (.setHd a m c) := by
  have hsw : swapsWithSole [.Subscript x (.Slice none (some (.Constant (.int m) j p3)) none p2) p] e pos.line X.env = pure false := by
    unfold swapsWithSole
    exact sw_no hl
  exact PS.imp (ps_asg he.pe (pg_hd ho.pe) hsw (sws_no ht) rfl) fun D σ H q => setHd_key q
end
end Z
set_option linter.all false
set_option Elab.async false
set_option maxRecDepth 100000
/-! Z31: a, b = x, y. -/
namespace Z
open PySem L2 PyProof.Rows
section
variable {O : Wo} {n : Nat} {X : Cx} {W : WX} {io : List Nat} {e x y : Expr} {a b c : E} {pos : Pos} {xs : List Expr} {as : List E}
def OkTs (K : PySem.W.Frag) (ca : Nat → Addr) (F H : Hp) (f : List Addr) (σ : L2.St) (Q : List V → Hp → Prop) (cs : List C) (ρ' : Env) : Prop := ∀ (F' H' : Hp) (xs : List V) (g f' : List Addr), Step F H f F' H' (g ++ f') → Wd F' H' (g ++ f') → ER K ca F' H' σ ρ' f' → CRs K ca F' H' xs cs g → Q xs H'
def tTs (O : Wo) (n : Nat) (io : List Nat) (K : PySem.W.Frag) (W : WX) (irs : List E) : TA := fun σ H Q => ∃ (ρ : Env) (F : Hp) (f : List Addr), Wd F H f ∧ ER K O.ca F H σ ρ f ∧ (match evT O.T (callF O.T n) io irs ρ with
  | .ok cs ρ' => OkTs K O.ca F H f σ Q cs ρ'
  | .exc x ρ' => ExV K O.ca W F H f σ x ρ'
  | .bad => False)
theorem ELs.ts : ∀ {xs : List Expr} {as : List E}, ELs O n X W xs as → PA X xs (tTs O n io X.K W as)
  | _, _, .nil => PA.imp pa_nil fun σ H Q ⟨ρ, F, f, w, er, out⟩ => out F H [] [] f Step.refl w er .nil
  | _, _, @ELs.cons _ _ _ _ x0 a0 xs0 as0 h r => by
    refine PA.imp (pa_cons h.pe (ELs.ts r) (star_plain h.pl _ _)) ?_
    intro σ H Q ⟨ρ, F, f, w, er, out⟩
    refine ⟨ρ, F, f, w, er, ?_⟩
    simp only [evT] at out
    cases e1 : evE O.T (callF O.T n) a0 ρ with
    | bad => rw [e1] at out; exact out
    | exc x1 ρ1 => rw [e1] at out; exact out
    | ok v ρ1 =>
      rw [e1] at out
      simp only [bind_ok] at out
      intro F1 H1 xv g f1 st1 w1 er1 r1 p1
      cases e2 : take io ρ1 v with
      | bad => rw [e2] at out; exact out.elim
      | exc x2 ρ2 => exact (take_exc e2).elim
      | ok d ρ2 =>
        rw [e2] at out
        simp only [bind_ok] at out
        obtain ⟨F2, g2, f2, cr, er2, w2, st2⟩ := VR.take w1 er1 r1 e2
        have st := st1.trans st2
        refine ⟨ρ2, F2, f2, w2.sub (List.sublist_append_right _ _), er2, ?_⟩
        cases e3 : evT O.T (callF O.T n) io as0 ρ2 with
        | bad => rw [e3] at out; exact out
        | exc x3 ρ3 => rw [e3] at out; exact ExV.step st (fun a m => List.mem_append_right _ m) out
        | ok vs ρ3 =>
          rw [e3] at out
          intro F3 H3 xs' g3 f3 st3 w3 er3 r3
          have lv := CR.lives d cr
          have cr3 := CR.mv st3.fr d cr (st3.stay w2.nd lv)
          have w4 : Wd F3 H3 (g2 ++ (g3 ++ f3)) := st3.apart w2 w3 lv
          refine out F3 H3 (xv :: xs') (g2 ++ g3) f3 ?_ (by rw [List.append_assoc]; exact w4) er3 (.cons cr3 r3)
          rw [List.append_assoc]
          exact st.trans (st3.more g2)
theorem evT_len : ∀ {as : List E} {ρ ρ' : Env} {cs : List C}, evT O.T (callF O.T n) io as ρ = .ok cs ρ' → cs.length = as.length
  | [], _, _, _, h => by simp only [evT] at h; cases h; rfl
  | a :: as, ρ, _, _, h => by
    simp only [evT] at h
    obtain ⟨v, ρ1, _, h⟩ := bind_okR h
    obtain ⟨c, ρ2, _, h⟩ := bind_okR h
    obtain ⟨cs, ρ3, e, h⟩ := bind_okR h
    cases h
    rw [List.length_cons, List.length_cons, evT_len e]
theorem setNm_ok {i : Nat} {c : C} {ρ ρ' : Env} {u : Unit} (h : setNm io i c ρ = .ok u ρ') : i < ρ.length ∧ i ∉ io ∧ ρ' = ρ.set i (some c) := by
  unfold setNm at h
  split at h
  · rename_i hc
    rw [Bool.and_eq_true, decide_eq_true_eq] at hc
    cases h
    exact ⟨hc.1, by simpa using hc.2, rfl⟩
  · cases h
theorem setNm_ne {i : Nat} {c : C} {ρ ρ' : Env} {x : Exn} (h : setNm io i c ρ = .exc x ρ') : False := by
  unfold setNm at h
  split at h <;> cases h
theorem par_key {i j : Nat} {D : Ends} {σ : L2.St} {H : Hp} (q : tSt X.K O.ca W io (exS' O n io (.par [i, j] [a, b])) D σ H) : tPar i j (tTs O n io X.K W [a, b]) D σ H := by
  obtain ⟨ρ, F, f, w, er, out⟩ := q
  refine ⟨ρ, F, f, w, er, ?_⟩
  simp only [exS', exS] at out
  cases e1 : evT O.T (callF O.T n) io [a, b] ρ with
  | bad => rw [e1] at out; exact out
  | exc x1 ρ1 => rw [e1] at out; exact ExV.ofS out
  | ok cs ρ1 =>
    rw [e1] at out
    simp only [bind_ok] at out
    intro F1 H1 vs g f1 st1 w1 er1 r1
    have hl := evT_len e1
    match cs, hl, out, r1 with
    | [c1, c2], _, out, r1 =>
      cases r1 with
      | @cons v1 _ _ _ g1 g2 a1 r2 =>
        cases r2 with
        | @cons v2 _ _ _ g3 g4 a2 r3 =>
          cases r3
          rw [List.append_nil] at w1 st1
          simp only [setPar] at out
          cases e2 : setNm io i c1 ρ1 with
          | bad => rw [e2] at out; exact out.elim
          | exc _ _ => exact (setNm_ne e2).elim
          | ok _ ρ2 =>
            rw [e2] at out
            simp only [bind_ok] at out
            obtain ⟨hi, hio, rfl⟩ := setNm_ok e2
            cases e3 : setNm io j c2 (ρ1.set i (some c1)) with
            | bad => rw [e3] at out; exact out.elim
            | exc _ _ => exact (setNm_ne e3).elim
            | ok _ ρ3 =>
              rw [e3] at out
              simp only [bind_ok] at out
              obtain ⟨hj, hjo, rfl⟩ := setNm_ok e3
              refine ⟨v1, v2, rfl, ?_⟩
              have wp : Wd F1 H1 (g1 ++ (g3 ++ f1)) := by rw [← List.append_assoc]; exact w1
              have lv3 : ∀ b ∈ g3, H1 b ≠ none := CR.lives _ a2
              have wA : Wd F1 H1 (g1 ++ f1) := wp.sub ((List.sublist_append_right _ _).append_left _)
              obtain ⟨f2, s2, w2, er2⟩ := ER.setC a1 er1 hi wA
              have wB : Wd F1 H1 (g3 ++ f2) := by
                have nd := wp.nd
                have n1 := List.nodup_append.mp nd
                have n2 := List.nodup_append.mp n1.2.1
                refine ⟨w2.same, List.nodup_append.mpr ⟨n2.1, w2.nd, fun b m b' m' e => ?_⟩, fun b m => ?_⟩
                · subst e
                  rcases List.mem_append.mp (s2 b m') with z | z
                  · exact n1.2.2 b z b (List.mem_append_left _ m) rfl
                  · exact n2.2.2 b m b z rfl
                · rcases List.mem_append.mp m with z | z
                  · exact wp.ap b (List.mem_append_right _ (List.mem_append_left _ z))
                  · exact w2.ap b z
              obtain ⟨f4, s4, w4, er4⟩ := ER.setC a2 er2 hj wB
              refine out F1 H1 f4 _ (st1.less fun b m => ?_) w4 er4 (Io.trans (Io.set hio) (Io.set hjo))
              have := s4 b m
              simp only [List.mem_append] at this ⊢
              rcases this with z | z
              · exact .inl (.inr z)
              · have := s2 b z
                simp only [List.mem_append] at this
                rcases this with z | z <;> simp [z]
/-- the stores of two names are exchanged -/
def parB (sc : Scope) (x y : Str) (px py : Pos) (a b : Expr) : Bool :=
  (match sc.kind with | .function => true | _ => false) && decide (sc.names.lookup x = some .local) && decide (sc.names.lookup y = some .local) && (py.line == px.line) && decide (x ≠ y) && plainB a && plainB b &&
    !(([a, b] : List Expr).all (foldedForSure 8)) && !(([a, b] : List Expr).all (constantsAlone 8))
theorem par_sw {x y : Str} {px py pt pt2 : Pos} {kt k2 : Nat} {a b : Expr} {env : PySem.Env} (h : parB env.scope x y px py a b = true) : swappedStores [.Tuple [.Name x px, .Name y py] kt pt] (.Tuple [a, b] k2 pt2) env = pure (some [x, y]) := by
  simp only [parB, Bool.and_eq_true, decide_eq_true_eq, Bool.not_eq_true'] at h
  obtain ⟨⟨⟨⟨⟨⟨⟨⟨h1, h2⟩, h3⟩, h4⟩, h5⟩, h6⟩, h7⟩, h8⟩, h9⟩ := h
  have hb : env.blockKind = .function := by
    unfold Env.blockKind
    cases e : env.scope.kind <;> rw [e] at h1 <;> first | rfl | cases h1
  have kx : env.kindOf x = some .local := h2
  have ky : env.kindOf y = some .local := h3
  have nst : ([a, b] : List Expr).any (fun | .Starred .. => true | _ => false) = false := by
    cases a <;> cases b <;> first | rfl | (simp [plainB] at h6; done) | (simp [plainB] at h7; done)
  unfold swappedStores
  simp only [hb, List.length_cons, List.length_nil, nst, kx, ky, h4, h8, h9, List.filterMap_cons, List.filterMap_nil, List.head?_cons, Option.map_some, Option.getD_some, Expr.pos, beq_self_eq_true, Bool.and_self, if_true]
  have hyx : (x == y) = false := beq_eq_false_iff_ne.mpr h5
  simp [List.eraseDups_cons, hyx, h5, Ne.symm h5]
  intro hs
  exfalso
  rcases hs with hs | hs
  · cases a <;> first | (simp [plainB] at h6; done) | (cases hs)
  · cases b <;> first | (simp [plainB] at h7; done) | (cases hs)
theorem s_par {i j : Nat} {nx ny : Str} {px py pt pt2 : Pos} {kt k2 : Nat} (hc : X.calm = true) (hN : X.N.Nodup) (hi : X.N[i]? = some nx) (hj : X.N[j]? = some ny) (hij : i ≠ j) (hb : parB X.env.scope nx ny px py x y = true) (ha : ELs O n X W [x, y] [a, b]) :
    SOk O n X W io (.Assign [.Tuple [.Name nx px, .Name ny py] kt pt] (.Tuple [x, y] k2 pt2) pos) (.par [i, j] [a, b]) := by
  have hb' := hb
  simp only [parB, Bool.and_eq_true, decide_eq_true_eq, Bool.not_eq_true'] at hb'
  exact PS.imp (ps_par hc hN hi hj hij hb'.1.1.1.1.1.1.1.2 hb'.1.1.1.1.1.1.2 ha.ts (par_sw hb)) fun D σ H q => par_key q
end
end Z
set_option linter.all false
set_option Elab.async false
set_option maxRecDepth 100000
/-! Z32: len(set(..)) of whole numbers and texts; tuple(range(..)). -/
namespace Z
open PySem L2 PyProof.Rows PySem.Spec
def addK (acc : List L2.Key) (k : L2.Key) : List L2.Key := if acc.any (fun j => decide (j = k)) then acc else acc ++ [k]
def ddK (ks : List L2.Key) (i : Nat) : List L2.Key := (ks.take i).foldl addK []
theorem ddK_succ {ks : List L2.Key} {i : Nat} {k : L2.Key} (h : ks[i]? = some k) : ddK ks (i + 1) = addK (ddK ks i) k := by
  unfold ddK
  rw [List.take_add_one, h]
  simp
theorem addK_len (acc : List L2.Key) (k : L2.Key) : (addK acc k).length = if acc.any (fun j => decide (j = k)) then acc.length else acc.length + 1 := by
  unfold addK
  split <;> simp
theorem addK_any (acc : List L2.Key) (k j : L2.Key) : (addK acc k).any (fun i => decide (i = j)) = (acc.any (fun i => decide (i = j)) || decide (j = k)) := by
  unfold addK
  by_cases h : acc.any (fun i => decide (i = k)) = true
  · rw [if_pos h]
    by_cases e : j = k
    · subst e; rw [h]; simp
    · simp [e]
  · rw [if_neg h, List.any_append]
    by_cases e : j = k
    · subst e; simp
    · have : ¬ k = j := fun z => e z.symm
      simp [e, this]
theorem ddK_le (ks : List L2.Key) (i : Nat) : (ddK ks i).length ≤ i := by
  have go : ∀ (l acc : List L2.Key), (l.foldl addK acc).length ≤ acc.length + l.length := fun l => by
    induction l with
    | nil => intro acc; simp
    | cons k l ih =>
      intro acc
      rw [List.foldl_cons]
      have h1 := ih (addK acc k)
      have h2 := addK_len acc k
      rw [List.length_cons]
      split at h2 <;> omega
  have h1 := go (ks.take i) []
  have h2 := List.length_take_le i ks
  unfold ddK
  simp only [List.length_nil, Nat.zero_add] at h1
  omega
theorem setOf_eq {prog : Program} {w : World} {h : Heap} {a : Addr} {S S' : L2.Key → Bool} {m m' : Nat} (hS : h.SetOf (mixKind prog w) a S m) (e : ∀ k, S k = S' k) (em : m = m') : h.SetOf (mixKind prog w) a S' m' := by
  obtain rfl : S = S' := funext e
  subst em
  exact hS
section
variable {prog : Program} {w : World} {A : Around} {R : Result → Shared → Prop} {it : Addr} {fp wr : List Addr} {G : Array GenState → Array GenState → Prop} {n : Nat} {Pv : Nat → Value → Prop} {St : Nat → Shared → Prop}
/-- the loop of set.update over keys -/
theorem upd_keys (W : WalksS prog w A.in1 it fp wr G n Pv St) (a : Addr) (ha : a ∉ fp) (ks : List L2.Key) (hlen : ks.length = n) (hb : n + 1 < scanBound) (hval : ∀ i v, Pv i v → ∃ k, ks[i]? = some k ∧ RelV (kV k) v) :
    ∀ (m i : Nat) (s : Shared), n - i = m → i ≤ n → St i s → s.heap.SetOf (mixKind prog w) a (fun j => (ddK ks i).any (fun q => decide (q = j))) (ddK ks i).length →
      (∀ s1, Moved (a :: wr) G s s1 → s1.heap.SetOf (mixKind prog w) a (fun j => (ddK ks n).any (fun q => decide (q = j))) (ddK ks n).length → R (.ok (.ret .none)) s1) →
      codeAny (model prog w) A (.builtin "set.update.loop" ⟨[.ref a, .ref it], []⟩) R s := by
  have outw : a ∉ wr := fun h => ha (W.sub _ h)
  have more : ∀ b ∈ wr, b ∈ a :: wr := fun b hb => List.mem_cons_of_mem _ hb
  intro m
  induction m with
  | zero =>
    intro i s hm hi hst hS hR
    obtain rfl : i = n := by omega
    refine codeAny_builtin PyProof.Rows.F.entry_set_update_loop ?_
    rw [Around.under_plainId PyProof.Rows.F.plain_set_update_loop _]
    show wpAny _ A.in1 (pyNext (.ref it) >>= _) _ _ s
    refine wpAny_bind (W.done s _ _ hst fun s1 mv => ?_)
    show wpAny _ A.in1 (ret Value.none) _ _ s1
    refine wpAny_pure (hR s1 (mv.mono more) ?_)
    obtain ⟨o, es, ep, t, ho, rest⟩ := hS
    exact ⟨o, es, ep, t, mv.heap a _ outw ho, rest⟩
  | succ m ih =>
    intro i s hm hi hst hS hR
    have hlt : i < n := by omega
    refine codeAny_builtin PyProof.Rows.F.entry_set_update_loop ?_
    rw [Around.under_plainId PyProof.Rows.F.plain_set_update_loop _]
    show wpAny _ A.in1 (pyNext (.ref it) >>= _) _ _ s
    refine wpAny_bind (W.item i s _ _ hlt hst fun v s1 hP hst1 mv => ?_)
    obtain ⟨k, hk, rv⟩ := hval i v hP
    have hS1 : s1.heap.SetOf (mixKind prog w) a (fun j => (ddK ks i).any (fun q => decide (q = j))) (ddK ks i).length := by
      obtain ⟨o, es, ep, t, ho, rest⟩ := hS
      exact ⟨o, es, ep, t, mv.heap a _ outw ho, rest⟩
    show wpAny _ A.in1 (holding [v] (setAdd a v) >>= _) _ _ s1
    refine wpAny_bind (wpAny_holding ?_)
    unfold setAdd
    refine wpAny_holding (wpAny_bind ((mixKind prog w).pyHash (k := k) (kV_is rv) ?_))
    have room : (ddK ks i).length + 1 < scanBound := by have := ddK_le ks i; omega
    refine wpAny_setAddHashed_of (knd := mixKind prog w) (kV_is rv) (key_scan rv) hS1 room fun h' sb hS2 => ?_
    have hS3 : h'.SetOf (mixKind prog w) a (fun j => (ddK ks (i + 1)).any (fun q => decide (q = j))) (ddK ks (i + 1)).length :=
      setOf_eq hS2 (fun j => by rw [ddK_succ hk, addK_any]) (by rw [ddK_succ hk, addK_len])
    refine wpAny_pure ⟨plainId_quiet PyProof.Rows.F.plain_set_update_loop _, ih (i + 1) _ (by omega) hlt (W.frame _ s1 _ _ hst1 (Nat.le_succ _) fun b hb o e => ?_) hS3 fun s2 mv2 hS4 => ?_⟩
    · rw [sb.2 b (fun h : b = a => ha (by rw [← h]; exact hb))]
      exact e
    · refine hR s2 (Moved.trans W.gtrans ((mv.mono more).then_heap (Nat.le_succ _) fun b o hb e => ?_) mv2) hS4
      rw [sb.2 b (fun h : b = a => hb (by rw [h]; exact List.mem_cons_self))]
      exact e
end
section
variable {prog : Program} {w : World} {A : Around} {E : Value → Shared → Prop} {s : Shared}
set_option maxHeartbeats 3200000 in
theorem set_from_list {l : Addr} {items : Array Value} {ks : List L2.Key} {Q : Value → Shared → Prop} (calm : A.handled = none) (hl : s.heap.IsList l items) (hv : Vals (ks.map kV) items.toList) (hb : items.size + 1 < scanBound)
    (h : ∀ (h' : Heap) (tk : Nat), h'.SetOf (mixKind prog w) s.heap.objs.size (fun j => (ddK ks ks.length).any (fun q => decide (q = j))) (ddK ks ks.length).length → (∀ b o, b < s.heap.objs.size → s.heap.get? b = some o → h'.get? b = some o) → Q (.ref s.heap.objs.size) { s with heap := h', toks := tk }) :
    wpAny (model prog w) A (call (.type "set") [.ref l]) Q E s := by
  have hsize : ks.length = items.size := by rw [← Array.length_toList, ← hv.length, List.length_map]
  obtain ⟨c, tl, hmro⟩ := PySem.F.called_set.mro
  have hmade := PySem.F.called_set.made
  have hsub := PySem.F.called_set.sub
  refine wpAny_call (codeAny_of_tree (show wpAny _ _ (callAny (.type "set") _) _ _ _ from ?_))
  refine wpAny_pure ⟨(Code.quiet_builtin _ (by decide +kernel)), (codeAny_builtin PySem.F.entry_type_call ?_)⟩
  rw [Around.under_plain (weight_type_call_type "set" [.ref l] []) rfl]
  have nt := PySem.F.called_set.notType
  have cc := PySem.F.called_set.canCreate
  have ct := PySem.F.typeCall_set_1 (.ref l)
  repeat (any_goals (first | assumption | wp_step))
  refine codeAny_mono (code_set_new_1 (.ref l) (E := E) (Q₁ := fun ob t1 => ∃ led : Bool, ob = .ref s.heap.objs.size ∧ t1 = { s with heap := s.heap.push { cls := .type "set", dict := none, data := .set #[] 0 (.fresh 0 0 led) } }) fun led => ⟨led, rfl, rfl⟩) fun r1 t1 hr1 => ?_
  cases r1 with
  | error e => exact hr1
  | ok fl =>
    cases fl with
    | next => exact hr1.elim
    | brk => exact hr1.elim
    | cont => exact hr1.elim
    | ret ob =>
      obtain ⟨led, rfl, rfl⟩ := hr1
      have atS : (s.heap.push ({ cls := .type "set", dict := none, data := .set #[] 0 (.fresh 0 0 led) } : Obj)).get? s.heap.objs.size = some ({ cls := .type "set", dict := none, data := .set #[] 0 (.fresh 0 0 led) } : Obj) := Heap.get?_push_size _ rfl
      have tyS : Shared.TypeIs { s with heap := s.heap.push ({ cls := .type "set", dict := none, data := .set #[] 0 (.fresh 0 0 led) } : Obj) } (.ref s.heap.objs.size) "set" := ⟨_, atS, rfl⟩
      have lki := PySem.F.called_set.init.lookup
      have bdi := PySem.F.called_set.init.bind (.ref s.heap.objs.size)
      repeat (any_goals (first | assumption | wp_step))
      refine codeAny_mono (codeAny_call_builtin (R := wants (fun r t2 => r = .none ∧ ∃ h' tk, t2 = { s with heap := h', toks := tk } ∧ h'.SetOf (mixKind prog w) s.heap.objs.size (fun j => (ddK ks ks.length).any (fun q => decide (q = j))) (ddK ks ks.length).length ∧
          (∀ b o, b < s.heap.objs.size → s.heap.get? b = some o → h'.get? b = some o)) E) PySem.F.called_set.init.plain PySem.F.entry_set_init (check_set_init_1 tyS ?_)) fun r2 t2 hr2 => ?_
      · obtain ⟨ol, hol, hcl, nl, hdl⟩ := hl
        obtain ⟨oc, od, odt, osl⟩ := ol
        simp only at hcl hdl
        subst hcl hdl
        have hol2 : (s.heap.push ({ cls := .type "set", dict := none, data := .set #[] 0 (.fresh 0 0 led) } : Obj)).get? l = some { cls := .type "list", dict := od, data := .seq items nl, slots := osl } := Heap.get?_push_of_some _ hol
        have s1 := PySem.F.sub_list_set
        have s2 := PySem.F.sub_list_frozenset
        have s3 : (Value.type "list" == Value.type "dict") = false := by decide
        have isl : (s.heap.push ({ cls := .type "set", dict := none, data := .set #[] 0 (.fresh 0 0 led) } : Obj)).IsList l items := ⟨_, hol2, rfl, nl, rfl⟩
        unfold Builtin.«set.__init__» noKeywords Builtin.Frozenset.updateFrom
        generalize hpi : pyIter = PI
        wp_walk
        subst hpi
        refine wpAny_pyIter_list isl ?_
        refine (wpAny_bind (wpAny_runValue ?_))
        have lS : l < s.heap.objs.size := Heap.lt_size hol
        have calm3 : A.in1.in1.in1.handled = none := by simp [calm]
        have lI : l ≠ (s.heap.push ({ cls := .type "set", dict := none, data := .set #[] 0 (.fresh 0 0 led) } : Obj)).objs.size := by rw [Heap.size_push]; exact Nat.ne_of_lt (Nat.lt_succ_of_lt lS)
        have outS : s.heap.objs.size ∉ [(s.heap.push ({ cls := .type "set", dict := none, data := .set #[] 0 (.fresh 0 0 led) } : Obj)).objs.size, l] := by
          rw [Heap.size_push]
          simp only [List.mem_cons, List.mem_singleton, List.not_mem_nil, or_false, not_or]
          exact ⟨Nat.ne_of_lt (Nat.lt_succ_self _), Nat.ne_of_gt lS⟩
        have hval : ∀ (i : Nat) (v : Value), items[i]? = some v → ∃ k, ks[i]? = some k ∧ RelV (kV k) v := fun i v hi => by
          have hi2 : items.toList[i]? = some v := by rw [Array.getElem?_toList]; exact hi
          have hik : i < ks.length := by
            rw [hsize, ← Array.length_toList]
            exact (List.getElem?_eq_some_iff.mp hi2).1
          obtain ⟨u, hu, ru⟩ := hv.get (i := i) (x := kV ks[i]) (by rw [List.getElem?_map, List.getElem?_eq_getElem hik]; rfl)
          rw [hi2] at hu
          cases hu
          exact ⟨ks[i], List.getElem?_eq_getElem hik, ru⟩
        refine upd_keys ((Walks.list calm3 _ l lI items).toS) s.heap.objs.size outS ks hsize hb hval (items.size - 0) 0 _ (by omega) (Nat.zero_le _) ⟨⟨_, Heap.get?_push_size _ rfl, rfl, rfl⟩, (isl.push _)⟩ ?start ?fin
        case start =>
          have g2 : ((s.heap.push ({ cls := .type "set", dict := none, data := .set #[] 0 (.fresh 0 0 led) } : Obj)).push { cls := .type "list_iterator", data := .fields #[.ref l, .int 0 0] }).get? s.heap.objs.size = some ({ cls := .type "set", dict := none, data := .set #[] 0 (.fresh 0 0 led) } : Obj) := Heap.get?_push_of_some _ atS
          exact ⟨_, #[], 0, _, g2, ⟨rfl, rfl, rfl⟩, rfl, (fun e he => by simp at he), (fun k => by simp [ddK]), (by decide), (by rfl), rfl⟩
        case fin =>
          intro t3 mv hS3
          obtain ⟨h3, g3, d3, tk3, os3⟩ := t3
          have e1 : g3 = s.gens := mv.gens
          have e2 : d3 = s.drawn := mv.drawn
          have e3 : os3 = s.os := mv.os
          subst e1 e2 e3
          show wpAny _ _ _ _ _ _
          refine wpAny_pure ?_
          show wpAny _ _ (ret Value.none) _ _ _
          rw [← hsize] at hS3
          refine wpAny_pure ⟨rfl, h3, tk3, rfl, hS3, fun b o hb2 e => ?_⟩
          refine mv.heap b o ?_ (Heap.get?_push_of_some _ (Heap.get?_push_of_some _ e))
          rw [Heap.size_push]
          simp only [List.mem_cons, List.mem_singleton, List.not_mem_nil, or_false, not_or]
          exact ⟨Nat.ne_of_lt hb2, Nat.ne_of_lt (Nat.lt_succ_of_lt hb2)⟩
      · cases r2 with
        | error e => exact hr2
        | ok fl2 =>
          cases fl2 with
          | next => exact hr2.elim
          | brk => exact hr2.elim
          | cont => exact hr2.elim
          | ret r =>
            obtain ⟨rfl, h', tk, rfl, hS4, keep⟩ := hr2
            repeat (any_goals (first | assumption | wp_step))
            exact h _ _ hS4 keep
end
end Z
set_option linter.all false
set_option Elab.async false
set_option maxRecDepth 100000
/-! Z32b: set of a tuple. -/
namespace Z
open PySem L2 PyProof.Rows PySem.Spec
section
variable {prog : Program} {w : World} {A : Around} {E : Value → Shared → Prop} {s : Shared}
set_option maxHeartbeats 3200000 in
theorem set_from_tuple {l : Addr} {items : Array Value} {ks : List L2.Key} {Q : Value → Shared → Prop} (calm : A.handled = none) (hl : s.heap.IsTuple l items) (hv : Vals (ks.map kV) items.toList) (hb : items.size + 1 < scanBound)
    (h : ∀ (h' : Heap) (tk : Nat), h'.SetOf (mixKind prog w) s.heap.objs.size (fun j => (ddK ks ks.length).any (fun q => decide (q = j))) (ddK ks ks.length).length → (∀ b o, b < s.heap.objs.size → s.heap.get? b = some o → h'.get? b = some o) → Q (.ref s.heap.objs.size) { s with heap := h', toks := tk }) :
    wpAny (model prog w) A (call (.type "set") [.ref l]) Q E s := by
  have hsize : ks.length = items.size := by rw [← Array.length_toList, ← hv.length, List.length_map]
  obtain ⟨c, tl, hmro⟩ := PySem.F.called_set.mro
  have hmade := PySem.F.called_set.made
  have hsub := PySem.F.called_set.sub
  refine wpAny_call (codeAny_of_tree (show wpAny _ _ (callAny (.type "set") _) _ _ _ from ?_))
  refine wpAny_pure ⟨(Code.quiet_builtin _ (by decide +kernel)), (codeAny_builtin PySem.F.entry_type_call ?_)⟩
  rw [Around.under_plain (weight_type_call_type "set" [.ref l] []) rfl]
  have nt := PySem.F.called_set.notType
  have cc := PySem.F.called_set.canCreate
  have ct := PySem.F.typeCall_set_1 (.ref l)
  repeat (any_goals (first | assumption | wp_step))
  refine codeAny_mono (code_set_new_1 (.ref l) (E := E) (Q₁ := fun ob t1 => ∃ led : Bool, ob = .ref s.heap.objs.size ∧ t1 = { s with heap := s.heap.push { cls := .type "set", dict := none, data := .set #[] 0 (.fresh 0 0 led) } }) fun led => ⟨led, rfl, rfl⟩) fun r1 t1 hr1 => ?_
  cases r1 with
  | error e => exact hr1
  | ok fl =>
    cases fl with
    | next => exact hr1.elim
    | brk => exact hr1.elim
    | cont => exact hr1.elim
    | ret ob =>
      obtain ⟨led, rfl, rfl⟩ := hr1
      have atS : (s.heap.push ({ cls := .type "set", dict := none, data := .set #[] 0 (.fresh 0 0 led) } : Obj)).get? s.heap.objs.size = some ({ cls := .type "set", dict := none, data := .set #[] 0 (.fresh 0 0 led) } : Obj) := Heap.get?_push_size _ rfl
      have tyS : Shared.TypeIs { s with heap := s.heap.push ({ cls := .type "set", dict := none, data := .set #[] 0 (.fresh 0 0 led) } : Obj) } (.ref s.heap.objs.size) "set" := ⟨_, atS, rfl⟩
      have lki := PySem.F.called_set.init.lookup
      have bdi := PySem.F.called_set.init.bind (.ref s.heap.objs.size)
      repeat (any_goals (first | assumption | wp_step))
      refine codeAny_mono (codeAny_call_builtin (R := wants (fun r t2 => r = .none ∧ ∃ h' tk, t2 = { s with heap := h', toks := tk } ∧ h'.SetOf (mixKind prog w) s.heap.objs.size (fun j => (ddK ks ks.length).any (fun q => decide (q = j))) (ddK ks ks.length).length ∧
          (∀ b o, b < s.heap.objs.size → s.heap.get? b = some o → h'.get? b = some o)) E) PySem.F.called_set.init.plain PySem.F.entry_set_init (check_set_init_1 tyS ?_)) fun r2 t2 hr2 => ?_
      · obtain ⟨ol, hol, hcl, nl, hdl⟩ := hl
        obtain ⟨oc, od, odt, osl⟩ := ol
        simp only at hcl hdl
        subst hcl hdl
        have hol2 : (s.heap.push ({ cls := .type "set", dict := none, data := .set #[] 0 (.fresh 0 0 led) } : Obj)).get? l = some { cls := .type "tuple", dict := od, data := .seq items nl, slots := osl } := Heap.get?_push_of_some _ hol
        have s1 := PySem.F.sub_tuple_set
        have s2 := PySem.F.sub_tuple_frozenset
        have s3 : (Value.type "tuple" == Value.type "dict") = false := by decide
        have isl : (s.heap.push ({ cls := .type "set", dict := none, data := .set #[] 0 (.fresh 0 0 led) } : Obj)).IsTuple l items := ⟨_, hol2, rfl, nl, rfl⟩
        unfold Builtin.«set.__init__» noKeywords Builtin.Frozenset.updateFrom
        generalize hpi : pyIter = PI
        wp_walk
        subst hpi
        refine wpAny_pyIter_tuple isl ?_
        refine (wpAny_bind (wpAny_runValue ?_))
        have lS : l < s.heap.objs.size := Heap.lt_size hol
        have calm3 : A.in1.in1.in1.handled = none := by simp [calm]
        have lI : l ≠ (s.heap.push ({ cls := .type "set", dict := none, data := .set #[] 0 (.fresh 0 0 led) } : Obj)).objs.size := by rw [Heap.size_push]; exact Nat.ne_of_lt (Nat.lt_succ_of_lt lS)
        have outS : s.heap.objs.size ∉ [(s.heap.push ({ cls := .type "set", dict := none, data := .set #[] 0 (.fresh 0 0 led) } : Obj)).objs.size, l] := by
          rw [Heap.size_push]
          simp only [List.mem_cons, List.mem_singleton, List.not_mem_nil, or_false, not_or]
          exact ⟨Nat.ne_of_lt (Nat.lt_succ_self _), Nat.ne_of_gt lS⟩
        have hval : ∀ (i : Nat) (v : Value), items[i]? = some v → ∃ k, ks[i]? = some k ∧ RelV (kV k) v := fun i v hi => by
          have hi2 : items.toList[i]? = some v := by rw [Array.getElem?_toList]; exact hi
          have hik : i < ks.length := by
            rw [hsize, ← Array.length_toList]
            exact (List.getElem?_eq_some_iff.mp hi2).1
          obtain ⟨u, hu, ru⟩ := hv.get (i := i) (x := kV ks[i]) (by rw [List.getElem?_map, List.getElem?_eq_getElem hik]; rfl)
          rw [hi2] at hu
          cases hu
          exact ⟨ks[i], List.getElem?_eq_getElem hik, ru⟩
        refine upd_keys ((Walks.tuple calm3 _ l lI items).toS) s.heap.objs.size outS ks hsize hb hval (items.size - 0) 0 _ (by omega) (Nat.zero_le _) ⟨⟨_, Heap.get?_push_size _ rfl, rfl, rfl⟩, (isl.push _)⟩ ?start ?fin
        case start =>
          have g2 : ((s.heap.push ({ cls := .type "set", dict := none, data := .set #[] 0 (.fresh 0 0 led) } : Obj)).push { cls := .type "tuple_iterator", data := .fields #[.ref l, .int 0 0] }).get? s.heap.objs.size = some ({ cls := .type "set", dict := none, data := .set #[] 0 (.fresh 0 0 led) } : Obj) := Heap.get?_push_of_some _ atS
          exact ⟨_, #[], 0, _, g2, ⟨rfl, rfl, rfl⟩, rfl, (fun e he => by simp at he), (fun k => by simp [ddK]), (by decide), (by rfl), rfl⟩
        case fin =>
          intro t3 mv hS3
          obtain ⟨h3, g3, d3, tk3, os3⟩ := t3
          have e1 : g3 = s.gens := mv.gens
          have e2 : d3 = s.drawn := mv.drawn
          have e3 : os3 = s.os := mv.os
          subst e1 e2 e3
          show wpAny _ _ _ _ _ _
          refine wpAny_pure ?_
          show wpAny _ _ (ret Value.none) _ _ _
          rw [← hsize] at hS3
          refine wpAny_pure ⟨rfl, h3, tk3, rfl, hS3, fun b o hb2 e => ?_⟩
          refine mv.heap b o ?_ (Heap.get?_push_of_some _ (Heap.get?_push_of_some _ e))
          rw [Heap.size_push]
          simp only [List.mem_cons, List.mem_singleton, List.not_mem_nil, or_false, not_or]
          exact ⟨Nat.ne_of_lt hb2, Nat.ne_of_lt (Nat.lt_succ_of_lt hb2)⟩
      · cases r2 with
        | error e => exact hr2
        | ok fl2 =>
          cases fl2 with
          | next => exact hr2.elim
          | brk => exact hr2.elim
          | cont => exact hr2.elim
          | ret r =>
            obtain ⟨rfl, h', tk, rfl, hS4, keep⟩ := hr2
            repeat (any_goals (first | assumption | wp_step))
            exact h _ _ hS4 keep
end
end Z
set_option linter.all false
set_option Elab.async false
set_option maxRecDepth 100000
/-! Z32: len(set(..)). -/
namespace Z
open PySem L2 PyProof.Rows PySem.Spec
section
variable {O : Wo} {n : Nat} {X : Cx} {W : WX} {e x y : Expr} {a b c : E} {as : List E}
theorem eqv_ky (j k : L2.Key) : PyData.eqv (kyD j) (kyD k) = decide (j = k) := by
  cases j <;> cases k
  · rw [key_ll]; rfl
  · rw [key_lr]; rfl
  · rw [key_rl]; rfl
  · rename_i p q
    rw [key_rr]
    show (p == q) = decide (p = q)
    by_cases h : p = q
    · subst h; simp
    · rw [decide_eq_false h]
      exact beq_eq_false_iff_ne.mpr h
theorem dedup_ky (ks : List L2.Key) : dedup (ks.map kyD) = (ddK ks ks.length).map kyD := by
  have go : ∀ (l acc : List L2.Key), (l.map kyD).foldl addD (acc.map kyD) = (l.foldl addK acc).map kyD := fun l => by
    induction l with
    | nil => intro acc; rfl
    | cons k l ih =>
      intro acc
      rw [List.map_cons, List.foldl_cons, List.foldl_cons, ← ih]
      congr 1
      unfold addD addK mem
      have : ((acc.map kyD).any fun y => PyData.eqv y (kyD k)) = acc.any fun j => decide (j = k) := by
        rw [List.any_map]
        congr 1
        funext j
        exact eqv_ky j k
      rw [this]
      split <;> simp
  have := go ks []
  unfold dedup ddK
  rw [List.take_length]
  exact this
theorem set_keys {K : PySem.W.Frag} {F : Hp} : ∀ {ds : List PyData} {vs : List V}, FRs K F vs ds → setOk ds = true → ∃ ks : List L2.Key, vs = ks.map kV ∧ ds = ks.map kyD
  | [], _, h, _ => by cases h; exact ⟨[], rfl, rfl⟩
  | d :: ds, _, h, q => by
    cases h with
    | cons a r =>
      cases a with
      | int i =>
        obtain ⟨ks, e1, e2⟩ := set_keys r (by simpa [setOk] using q)
        exact ⟨.inl i :: ks, by rw [e1]; rfl, by rw [e2]; rfl⟩
      | str i =>
        obtain ⟨ks, e1, e2⟩ := set_keys r (by simpa [setOk] using q)
        exact ⟨.inr i :: ks, by rw [e1]; rfl, by rw [e2]; rfl⟩
      | _ => simp [setOk] at q
def tLenSet (X : Cx) (ta : TE) : TE := fun σ H Q => ta σ H fun x H1 => ∃ (l : Addr) (ks : List L2.Key), x = .ref l ∧ (SqL X.K H1 l (ks.map kV) ∨ SqT X.K H1 l (ks.map kV)) ∧ ks.length ≤ 4000 ∧ Q (.int (ddK ks ks.length).length) H1
theorem pe_lenset {ta : TE} {p p2 q pos : Pos} (hc : X.calm = true) (hg : Gl X "len") (hm : X.mg "len" = none) (hg2 : Gl X "set") (hm2 : X.mg "set" = none) (ha : PE X x ta) (hp : plainB x = true) :
    PE X (.Call (.Name "len" p) [.Call (.Name "set" p2) [x] [] q] [] pos) (tLenSet X ta) := by
  have na : starEach [x] X.env = (false, eval x X.env) :: starEach [] X.env := star_plain hp _ _
  refine ⟨fun pins s σ H Q I h => Call_ (ld_blt I hg hm PySem.boot_len ?_)⟩
  refine PyProof.Rows.callWith_builtin1 (PyProof.Rows.args_cons (Call_ (ld_blt I hg2 hm2 boot_set ?_)) rfl) rfl rfl
  refine PyProof.Rows.callWith_type1 (PyProof.Rows.args_cons (thn (ha.run pins s σ H _ I h) fun v t1 hq1 => PyProof.Rows.args_nil ?_) na) na rfl
  obtain ⟨xv, H1, I1, r1, l, ks, rfl, hq, hl, q1⟩ := hq1
  cases r1
  have fin : ∀ (h' : Heap) (tk : Nat), h'.SetOf (mixKind X.prog X.w) t1.heap.objs.size (fun j => (ddK ks ks.length).any (fun q => decide (q = j))) (ddK ks ks.length).length → (∀ b o, b < t1.heap.objs.size → t1.heap.get? b = some o → h'.get? b = some o) →
      wpAny (model X.prog X.w) X.A (spliced (backTo pos (starEach [] X.env))) (fun vs s₂ => wpAny (model X.prog X.w) X.A (call (.builtin "len") (Value.ref t1.heap.objs.size :: vs)) (EP X pins σ Q) X.xe s₂) X.xe { t1 with heap := h', toks := tk } := fun h' tk hS keep => by
    refine PyProof.Rows.args_nil ?_
    obtain ⟨o, es, ep, t, ho, hex, hd, _, _, _, hf, hn⟩ := hS
    have I2 : Inv X pins σ H1 { t1 with heap := h', toks := tk } := I1.kept fun b o e => keep b o (Heap.lt_size e) e
    have := ddK_le ks ks.length
    exact call_len_set ho hex hd hf (by rw [hn]; omega) ⟨.int (ddK ks ks.length).length, H1, I2.tok _, ⟨_, by rw [hn]⟩, q1⟩
  rcases hq with hq | hq
  · obtain ⟨its, r, pl, hz⟩ := I1.list hq
    exact set_from_list (I1.ok.hd hc) pl.isList (by simpa using r) (by rw [List.size_toArray, ← r.length, List.length_map]; unfold scanBound; omega) fin
  · obtain ⟨its, r, pl, hz⟩ := I1.tuple hq
    exact set_from_tuple (I1.ok.hd hc) pl (by simpa using r) (by rw [List.size_toArray, ← r.length, List.length_map]; unfold scanBound; omega) fin
theorem lenset_key (σ : L2.St) (H : Hp) (Q : VK) (q : tE O n X.K W (.bi .lenset [a]) σ H Q) : tLenSet X (tE O n X.K W a) σ H Q := by
  obtain ⟨ρ, F, f, w, er, out⟩ := q
  refine ⟨ρ, F, f, w, er, ?_⟩
  simp only [evE, evVs] at out
  cases e1 : evE O.T (callF O.T n) a ρ with
  | bad => rw [e1] at out; exact out
  | exc x1 ρ1 => rw [e1] at out; exact out
  | ok v ρ1 =>
    rw [e1] at out
    simp only [bind_ok, ncs, Bool.not_true, Bool.and_false, Bool.false_eq_true, if_false, peeks] at out
    intro F1 H1 xv g f1 st1 w1 er1 r1 p1
    cases e2 : peek ρ1 v with
    | none => rw [e2] at out; exact out.elim
    | some d =>
      rw [e2] at out
      simp only [Option.map_some, Option.bind_some] at out
      have pr := VR.peek er1 r1 e2
      have w2 : Wd F1 H1 f1 := w1.sub (List.sublist_append_right _ _)
      have w10 : Same F1 H1 := w1.same
      have go : ∀ {ds : List PyData}, (biS .lenset [d] = if (setOk ds && decide (ds.length ≤ 4000)) = true then some (.d (.int (dedup ds).length)) else none) → ∀ {l : Addr} {vs : List V}, xv = .ref l → (SqL X.K H1 l vs ∨ SqT X.K H1 l vs) → FRs X.K F1 vs ds →
          ∃ (l : Addr) (ks : List L2.Key), xv = .ref l ∧ (SqL X.K H1 l (ks.map kV) ∨ SqT X.K H1 l (ks.map kV)) ∧ ks.length ≤ 4000 ∧ Q (.int (ddK ks ks.length).length) H1 := fun {ds} ho {l vs} ex hs fr => by
        rw [ho] at out
        split at out
        · rename_i hc
          rw [Bool.and_eq_true, decide_eq_true_eq] at hc
          obtain ⟨ks, e4, e5⟩ := set_keys fr hc.1
          subst e4 e5
          simp only [Option.map_some, of_some, dedup_ky, List.length_map] at out hc
          exact ⟨l, ks, ex, hs, hc.2, out.sc st1 (fun a m => List.mem_append_right _ m) w2 er1 (.int _) fun e => p1 (by simpa [nc, ncs] using e)⟩
        · exact out.elim
      cases d with
      | list ds =>
        obtain ⟨l, vs, ex, sq, fr⟩ := pr.items w10
        exact go rfl ex (.inl sq) fr
      | tuple ds =>
        obtain ⟨l, vs, ex, sq, fr⟩ := pr.itemsT w10
        exact go rfl ex (.inr sq) fr
      | str z => exact out.elim
      | none => exact out.elim
      | bool _ => exact out.elim
      | int _ => exact out.elim
      | dict _ => exact out.elim
theorem s_lenset {sc : Scope} {p p2 q pos : Pos} (hc : X.calm = true) (hs : X.env.scope = sc) (h1 : glB sc "len" = true) (h2 : glB sc "set" = true) (m1 : X.mg "len" = none) (m2 : X.mg "set" = none) (h : EOk O n X W x a) :
    EOk O n X W (.Call (.Name "len" p) [.Call (.Name "set" p2) [x] [] q] [] pos) (.bi .lenset [a]) := by
  subst hs
  have pe : PE X (.Call (.Name "len" p) [.Call (.Name "set" p2) [x] [] q] [] pos) (tE O n X.K W (.bi .lenset [a])) := PE.imp (pe_lenset hc (gl_of h1).1 m1 (gl_of h2).1 m2 h.pe h.pl) lenset_key
  exact ⟨pe, pt_val pe, rfl⟩
end
end Z
set_option linter.all false
set_option Elab.async false
set_option maxRecDepth 100000
/-! Z33: tuple(range(..)), list(range(..)). -/
namespace Z
open PySem L2 PyProof.Rows
section
variable {O : Wo} {n : Nat} {X : Cx} {W : WX} {e x y : Expr} {a b c : E}
theorem rg_frs {K : PySem.W.Frag} {F : Hp} (i j : Int) : FRs K F (rgV i j) (rangeD i j) := by
  have go : ∀ l : List Nat, FRs K F (l.map fun k : Nat => V.int (i + (k : Int))) (l.map fun (k : Nat) => PyData.int (i + (k : Int))) := fun l => by
    induction l with
    | nil => exact .nil
    | cons k l ih => exact .cons (.int _) ih
  exact go _
theorem rgOk_of {i j : Int} (h : (rangeOk i j && decide (j - i ≤ 16777216)) = true) : RgOk i j := by
  simp only [rangeOk, Bool.and_eq_true, decide_eq_true_eq] at h
  exact ⟨h.1.1.1.1, h.1.1.1.2, h.1.1.2, h.1.2, by omega⟩
theorem rgOk_of0 {j : Int} (h : (rangeOk 0 j && decide (j ≤ 16777216)) = true) : RgOk 0 j := by
  refine rgOk_of ?_
  rwa [Int.sub_zero]
/-- the ends of a range are told -/
theorem rg1_key {f : BI} (σ : L2.St) (H : Hp) (Q : VK) (q : tE O n X.K W (.bi f [a]) σ H Q) :
    tE O n X.K W a σ H fun x H1 => ∃ (F1 : Hp) (d : PyData) (cc : C), Same F1 H1 ∧ PR X.K F1 H1 x d ∧ biS f [d] = some cc ∧ NewQ X.K O.ca F1 H1 Q cc := by
  obtain ⟨ρ, F, f0, w, er, out⟩ := q
  refine ⟨ρ, F, f0, w, er, ?_⟩
  simp only [evE, evVs] at out
  cases e1 : evE O.T (callF O.T n) a ρ with
  | bad => rw [e1] at out; exact out
  | exc x1 ρ1 => rw [e1] at out; exact out
  | ok v ρ1 =>
    rw [e1] at out
    simp only [bind_ok, ncs, Bool.not_true, Bool.and_false, Bool.false_eq_true, if_false, peeks] at out
    intro F1 H1 xv g f1 st1 w1 er1 r1 p1
    cases e2 : peek ρ1 v with
    | none => rw [e2] at out; exact out.elim
    | some d =>
      rw [e2] at out
      simp only [Option.map_some, Option.bind_some] at out
      cases e3 : biS f [d] with
      | none => rw [e3] at out; exact out.elim
      | some cc =>
        rw [e3] at out
        exact ⟨F1, d, cc, w1.same, VR.peek er1 r1 e2, e3, OkV.new (c := cc) out st1 (fun a m => List.mem_append_right _ m) (w1.sub (List.sublist_append_right _ _)) er1 fun e => p1 (by simpa [nc, ncs] using e)⟩
theorem rg2_key {f : BI} (σ : L2.St) (H : Hp) (Q : VK) (q : tE O n X.K W (.bi f [a, b]) σ H Q) :
    tE O n X.K W a σ H fun x H1 => tE O n X.K W b σ H1 fun y H2 => ∃ (F2 : Hp) (d e : PyData) (cc : C), Same F2 H2 ∧ PR X.K F2 H2 x d ∧ PR X.K F2 H2 y e ∧ biS f [d, e] = some cc ∧ NewQ X.K O.ca F2 H2 Q cc := by
  obtain ⟨ρ, F, f0, w, er, out⟩ := q
  refine ⟨ρ, F, f0, w, er, ?_⟩
  rw [evE, evVs] at out
  cases e1 : evE O.T (callF O.T n) a ρ with
  | bad => rw [e1] at out; exact out
  | exc x1 ρ1 => rw [e1] at out; exact out
  | ok v ρ1 =>
    rw [e1] at out
    simp only [bind_ok] at out
    split at out
    · exact out.elim
    · rename_i hp
      intro F1 H1 xv g f1 st1 w1 er1 r1 p1
      refine ⟨ρ1, F1, f1, w1.sub (List.sublist_append_right _ _), er1, ?_⟩
      simp only [evVs] at out
      cases e2 : evE O.T (callF O.T n) b ρ1 with
      | bad => rw [e2] at out; exact out
      | exc x1 ρ2 => rw [e2] at out; exact ExV.step st1 (fun a m => List.mem_append_right _ m) out
      | ok u ρ2 =>
        rw [e2] at out
        simp only [bind_ok, ncs, Bool.not_true, Bool.and_false, Bool.false_eq_true, if_false, peeks] at out
        intro F2 H2 yv g2 f2 st2 w2 er2 r2 p2
        have hpath : hasPath v = true → Same H1 H2 := fun e => p2 (by
          cases hn : nc b with
          | true => rfl
          | false => simp [e, ncs, hn] at hp)
        have rx := VR.stay st2 w1 r1 hpath
        cases e3 : peek ρ2 v with
        | none => rw [e3] at out; exact out.elim
        | some d =>
          rw [e3] at out
          simp only [Option.bind_some] at out
          cases e4 : peek ρ2 u with
          | none => rw [e4] at out; exact out.elim
          | some e =>
            rw [e4] at out
            simp only [Option.map_some, Option.bind_some] at out
            cases e5 : biS f [d, e] with
            | none => rw [e5] at out; exact out.elim
            | some cc =>
              rw [e5] at out
              have w2' : Wd F2 H2 f2 := w2.sub (List.sublist_append_right _ _)
              refine ⟨F2, d, e, cc, w2.same, VR.peek er2 rx e3, VR.peek er2 r2 e4, e5, OkV.new (c := cc) out (st1.trans (st2.wide fun a m => List.mem_append_right _ m)) (fun a m => List.mem_append_right _ m) w2' er2 fun e => ?_⟩
              simp only [nc, ncs, Bool.and_eq_true] at e
              exact (p1 e.1).trans (p2 e.2.1)
theorem s_trange1 {sc : Scope} {p p2 q pos : Pos} (hc : X.calm = true) (hs : X.env.scope = sc) (h1 : glB sc "tuple" = true) (h2 : glB sc "range" = true) (m1 : X.mg "tuple" = none) (m2 : X.mg "range" = none) (h : EOk O n X W x a) :
    EOk O n X W (.Call (.Name "tuple" p) [.Call (.Name "range" p2) [x] [] q] [] pos) (.bi .trange [a]) := by
  subst hs
  have pe : PE X (.Call (.Name "tuple" p) [.Call (.Name "range" p2) [x] [] q] [] pos) (tE O n X.K W (.bi .trange [a])) := by
    refine PE.imp (pe_tupRg hc (gl_of h1).1 m1 (prg_1 (gl_of h2).1 m2 h.pe (star_plain h.pl _ _))) fun σ H Q hq => ?_
    refine tE_mono (rg1_key σ H Q hq) fun xv H1 ⟨F1, d, cc, sm, pr, e, nq⟩ => ?_
    cases d <;> first | (cases e; done) | skip
    rename_i i
    have e' : (if (rangeOk 0 i && decide (i ≤ 16777216)) = true then some (C.d (.tuple (rangeD 0 i))) else none) = some cc := e
    split at e' <;> first | (cases e'; done) | skip
    rename_i hr
    cases e'
    exact ⟨i, pr_int pr, rgOk_of0 hr, fun t ht => NewQ.tup sm (rg_frs 0 i) nq ht⟩
  exact ⟨pe, pt_val pe, rfl⟩
theorem s_trange2 {sc : Scope} {p p2 q pos : Pos} (hc : X.calm = true) (hs : X.env.scope = sc) (h1 : glB sc "tuple" = true) (h2 : glB sc "range" = true) (m1 : X.mg "tuple" = none) (m2 : X.mg "range" = none) (hx : EOk O n X W x a) (hy : EOk O n X W y b) :
    EOk O n X W (.Call (.Name "tuple" p) [.Call (.Name "range" p2) [x, y] [] q] [] pos) (.bi .trange [a, b]) := by
  subst hs
  have pe : PE X (.Call (.Name "tuple" p) [.Call (.Name "range" p2) [x, y] [] q] [] pos) (tE O n X.K W (.bi .trange [a, b])) := by
    refine PE.imp (pe_tupRg hc (gl_of h1).1 m1 (prg_2 (gl_of h2).1 m2 hx.pe hy.pe (star_plain hx.pl _ _) (star_plain hy.pl _ _) (by rw [star_plain hy.pl]; rfl))) fun σ H Q hq => ?_
    refine tE_mono (rg2_key σ H Q hq) fun xv H1 hq1 => tE_mono hq1 fun yv H2 ⟨F1, d, d2, cc, sm, pr, pr2, e, nq⟩ => ?_
    cases d <;> cases d2 <;> first | (cases e; done) | skip
    rename_i i j
    have e' : (if (rangeOk i j && decide (j - i ≤ 16777216)) = true then some (C.d (.tuple (rangeD i j))) else none) = some cc := e
    split at e' <;> first | (cases e'; done) | skip
    rename_i hr
    cases e'
    exact ⟨i, j, pr_int pr, pr_int pr2, rgOk_of hr, fun t ht => NewQ.tup sm (rg_frs i j) nq ht⟩
  exact ⟨pe, pt_val pe, rfl⟩
theorem s_lrange1 {sc : Scope} {p p2 q pos : Pos} (hc : X.calm = true) (hs : X.env.scope = sc) (h1 : glB sc "list" = true) (h2 : glB sc "range" = true) (m1 : X.mg "list" = none) (m2 : X.mg "range" = none) (h : EOk O n X W x a) :
    EOk O n X W (.Call (.Name "list" p) [.Call (.Name "range" p2) [x] [] q] [] pos) (.bi .range [a]) := by
  subst hs
  have pe : PE X (.Call (.Name "list" p) [.Call (.Name "range" p2) [x] [] q] [] pos) (tE O n X.K W (.bi .range [a])) := by
    refine PE.imp (pe_listRg hc (gl_of h1).1 m1 (prg_1 (gl_of h2).1 m2 h.pe (star_plain h.pl _ _))) fun σ H Q hq => ?_
    refine tE_mono (rg1_key σ H Q hq) fun xv H1 ⟨F1, d, cc, sm, pr, e, nq⟩ => ?_
    cases d <;> first | (cases e; done) | skip
    rename_i i
    have e' : (if (rangeOk 0 i && decide (i ≤ 16777216)) = true then some (fresh (rangeD 0 i)) else none) = some cc := e
    split at e' <;> first | (cases e'; done) | skip
    rename_i hr
    cases e'
    exact ⟨i, pr_int pr, rgOk_of0 hr, fun t ht => NewQ.lst sm (rg_frs 0 i) nq ht⟩
  exact ⟨pe, pt_val pe, rfl⟩
end
end Z
set_option linter.all false
set_option Elab.async false
set_option maxRecDepth 100000
/-! Z34: what is checked is kept: expressions. -/
namespace Z
open PySem L2 PyProof.Rows
def isTupE : Expr → Bool
  | .Tuple _ _ _ => true
  | _ => false
theorem isTupE_eq {t : Expr} (h : isTupE t = true) : ∃ elts kk tp, t = .Tuple elts kk tp := by
  cases t <;> first | (simp [isTupE] at h; done) | exact ⟨_, _, _, rfl⟩
section
variable (O : Ws) (N : List Str)
mutual
def chkE (sc : Scope) : E → Expr → Bool
  | .var i, e => match asName e with
    | some x => decide (N[i]? = some x) && visB sc x
    | none => false
  | .lit d, e => match e with
    | .Constant c _ _ => litB d c
    | _ => false
  | .glob n d, e => match asName e with
    | some x => decide (x = n) && glB sc x && O.globs.any fun p => decide (p.1 = n) && pdB p.2 d
    | none => false
  | .tup es, e => match e with
    | .Tuple as _ _ => chkEs sc es as && decide (es.length ≤ 1000)
    | _ => false
  | .lst es, e => match e with
    | .List as _ => chkEs sc es as && decide (es.length ≤ 1000)
    | _ => false
  | .dict ks es, e => match e with
    | .Dict [] [] _ => ks.isEmpty && es.isEmpty
    | _ => false
  | .keep a, e => chkE sc a e
  | .fz a, e => (asName e).isSome && chkE sc a e
  | .o2 o a b, e => match as2 e with
    | some (x, p, y) => decide (p = o) && chkE sc a x && chkE sc b y
    | none => false
  | .neg a, e => match e with
    | .UnaryOp .USub x _ => chkE sc a x
    | _ => false
  | .chain o o' a b c, e => match as3 e with
    | some (x, p, y, p', z) => decide (p = o) && decide (p' = o') && chkE sc a x && chkE sc b y && chkE sc c z
    | none => false
  | .and es, e => match e with
    | .BoolOp .And as _ => chkEs sc es as && !es.isEmpty
    | _ => false
  | .or es, e => match e with
    | .BoolOp .Or as _ => chkEs sc es as && !es.isEmpty
    | _ => false
  | .not a, e => match e with
    | .UnaryOp .Not x _ => chkE sc a x
    | _ => false
  | .ite c a b, e => match e with
    | .IfExp x y z _ => chkE sc c x && chkE sc a y && chkE sc b z
    | _ => false
  | .isNone a, e => match e with
    | .Compare x [.Is] [.Constant .none _ _] _ => chkE sc a x
    | _ => false
  | .notNone a, e => match e with
    | .Compare x [.IsNot] [.Constant .none _ _] _ => chkE sc a x
    | _ => false
  | .isB t a, e => match e with
    | .Compare x [.Is] [.Constant (.bool u) _ _] _ => chkE sc a x && decide (u = t)
    | _ => false
  | .notB t a, e => match e with
    | .Compare x [.IsNot] [.Constant (.bool u) _ _] _ => chkE sc a x && decide (u = t)
    | _ => false
  | .bi f es, e => match asCall e with
    | some (n, as) => decide (n = biN f) && glB sc n && !es.isEmpty && (match f with
      | .lenset => (match as with
        | [a] => (match asCall a with
          | some (m, bs) => decide (m = "set") && glB sc m && chkEs sc es bs && decide (es.length = 1)
          | none => false)
        | _ => false)
      | .trange => (match as with
        | [a] => (match asCall a with
          | some (m, bs) => decide (m = "range") && glB sc m && chkEs sc es bs && (decide (es.length = 1) || decide (es.length = 2))
          | none => false)
        | _ => false)
      | .range => (match as with
        | [a] => (match asCall a with
          | some (m, bs) => decide (m = "range") && glB sc m && chkEs sc es bs && decide (es.length = 1)
          | none => false)
        | _ => false)
      | _ => (biF f).isSome && chkEs sc es as)
    | none => false
  | .meth m o es, e => match asMeth e with
    | some (x, n, as) => decide (n = mtN m) && mtSup m && chkE sc o x && chkEs sc es as
    | none => false
  | .sub a i, e => match asSub e with
    | some (x, y) => chkE sc a x && chkE sc i y
    | none => false
  | .slc a lo hi, e => match asSlc e with
    | some (x, y, z) => chkE sc a x && chkO sc lo y && chkO sc hi z
    | none => false
  | .rev _, _ => false
  | .comp elt tg k src cond own, e => match e with
    | .ListComp x [⟨t, it, ifs, 0⟩] scope _ => blkC N sc scope (own.map fun i => (N[i]?.getD "", i)) && tgB (fun x => scope.names.lookup x == some .cell) (relS scope sc) N tg t && (tgI tg).all own.contains && chkE (relS scope sc) elt x && chkEs (relS scope sc) cond ifs && decide (cond.length ≤ 1)
      && own.all (fun i => decide (i < N.length)) && (match k with
        | .pl => (match src with
          | [s] => chkE sc s it
          | _ => false)
        | .range => (match asCall it with
          | some (n, as) => decide (n = "range") && glB sc n && chkEs sc src as && decide (src.length = 1 ∨ src.length = 2)
          | none => false)
        | .enum => isTupE t && (match asCall it with
          | some (n, as) => decide (n = "enumerate") && glB sc n && chkEs sc src as && decide (src.length = 1)
          | none => false)
        | .zip => isTupE t && (match asCall it with
          | some (n, as) => decide (n = "zip") && glB sc n && chkEs sc src as && decide (src.length = 2)
          | none => false)
        | _ => false)
    | _ => false
  | .call f es, e => match asCall e with
    | some (n, as) => decide (O.fn[f]? = some n) && decide (n ≠ "") && glB sc n && chkEs sc es as && !es.isEmpty
    | none => false
  | .mcall _ _ _, _ => false
  | .new _ _, _ => false
  | .fld _ _, _ => false
  | .isi a ts, e => match asCall e with
    | some (n, [x, c]) => decide (n = "isinstance") && glB sc n && chkE sc a x && (match c with
      | .Name y _ => (match ts with
        | [t] => tyB O.cn t y && glB sc y
        | _ => false)
      | .Tuple ys _ _ => !ts.isEmpty && decide (ts.length ≤ 1000) && tysB O.cn sc ts ys
      | _ => false)
    | _ => false
def chkEs (sc : Scope) : List E → List Expr → Bool
  | [], [] => true
  | a :: as, e :: es => chkE sc a e && chkEs sc as es
  | _, _ => false
def chkO (sc : Scope) : Option E → Option Expr → Bool
  | none, none => true
  | some a, some e => chkE sc a e
  | _, _ => false
end
end
def bltN : List Str := ["len", "all", "any", "abs", "int", "str", "repr", "tuple", "list", "min", "max", "sum", "range", "set", "isinstance", "bool", "ValueError", "sorted", "dict", "zip", "enumerate", "reversed"]
/-- what a context tells -/
structure Xo (O : Wo) (n : Nat) (N : List Str) (X : Cx) (W : WX) : Prop where
  N : X.N = N
  nd : X.N.Nodup
  calm : X.calm = true
  gu : X.A.guards = some []
  un : X.A.units + 70 < cLine
  tk : Takes X W
  globs : ∀ p ∈ O.globs, ∃ u v, X.mg p.1 = some u ∧ RelV v u ∧ ∀ F : Hp, FR X.K F v p.2
  blt : ∀ x, x ∈ bltN → X.mg x = none
  call : ∀ (f : Nat) (nm : Str), O.fn[f]? = some nm → nm ≠ "" → ∃ k, Room k X.A ∧ CallOk O n k X f nm
  cls : ∀ (k : Nat) (nm : Str), O.cn[k]? = some nm → X.mg nm = some (.ref (O.ca k))
  exi : ∀ (k : Nat) (cl : Cls), O.T.cls[k]? = some cl → cl.up.contains k = true → ExcI X.K O.ca O.T O.cn.length k cl
section
variable {O : Wo} {n : Nat} {N : List Str}
theorem Xo.blk {X : Cx} {W : WX} {s : Shared} {H : Hp} {scope : Scope} {env : PySem.Env} {fp : List Addr} (h : Xo O n N X W) : Xo O n N (X.blk s H scope env fp) W0 where
  N := h.N
  nd := h.nd
  calm := h.calm
  gu := h.gu
  un := h.un
  tk := fun u s' x => by
    obtain ⟨_, _, _, _, _, _, _, _, _, _, _, _, _, _, _, _, w⟩ := x
    exact w.elim
  globs := h.globs
  blt := h.blt
  call := fun f nm e ne => by
    obtain ⟨k, r, c⟩ := h.call f nm e ne
    exact ⟨k, r, ⟨c.fn, c.mg, c.kp, c.bd, c.np⟩⟩
  cls := h.cls
  exi := h.exi
theorem pe_type {X : Cx} {W : WX} {sc : Scope} {t : Ty} {y : Str} {p : Pos} (h : Xo O n N X W) (hs : X.env.scope = sc) (h1 : tyB O.cn t y = true) (h2 : glB sc y = true) : PE X (.Name y p) (tC (tyC O.ca t)) := by
  subst hs
  obtain ⟨g1, g2, g3⟩ := gl_of h2
  cases t with
  | cls k =>
    simp only [tyB] at h1
    have e : O.cn[k]? = some y := by simpa using h1
    exact pe_cl g1 (h.cls k y e) g2
  | _ =>
    simp only [tyB, beq_iff_eq] at h1
    subst h1
    exact pe_ty g1 (h.blt _ (by decide)) (by decide +kernel) g3 g2
theorem pa_types {X : Cx} {W : WX} {sc : Scope} (h : Xo O n N X W) (hs : X.env.scope = sc) : ∀ {ts : List Ty} {ys : List Expr}, tysB O.cn sc ts ys = true → PA X ys (tCl (ts.map (tyC O.ca)))
  | [], [], _ => PA.imp pa_nil fun σ H Q q => q
  | [], _ :: _, e => by simp [tysB] at e
  | _ :: _, [], e => by simp [tysB] at e
  | t :: ts, y :: ys, e => by
    simp only [tysB, Bool.and_eq_true] at e
    obtain ⟨e1, e2⟩ := e
    split at e1
    · rename_i nm hy
      obtain ⟨p, rfl⟩ := asName_eq hy
      rw [Bool.and_eq_true] at e1
      exact PA.imp (pa_cons (pe_type (p := p) h hs e1.1 e1.2) (pa_types h hs e2) rfl) fun σ H Q q => q
    · cases e1
theorem ty_in {m : Nat} {cn : List Str} : ∀ {t : Ty} {y : Str}, cn.length = m → tyB cn t y = true → tyIn m t = true
  | .cls k, y, hm, e => by
    have e : cn[k]? = some y := by simpa [tyB] using e
    subst hm
    exact decide_eq_true (List.getElem?_eq_some_iff.mp e).1
  | .int, _, _, _ => rfl
  | .str, _, _, _ => rfl
  | .bool, _, _, _ => rfl
  | .list, _, _, _ => rfl
  | .tuple, _, _, _ => rfl
  | .valueError, _, _, _ => rfl
theorem tys_in {m : Nat} {cn : List Str} {sc : Scope} (hm : cn.length = m) : ∀ {ts : List Ty} {ys : List Expr}, tysB cn sc ts ys = true → ts.all (tyIn m) = true
  | [], _, _ => rfl
  | _ :: _, [], e => by simp [tysB] at e
  | t :: ts, y :: ys, e => by
    simp only [tysB, Bool.and_eq_true] at e
    rw [List.all_cons, Bool.and_eq_true]
    refine ⟨?_, tys_in hm e.2⟩
    have e1 := e.1
    split at e1
    · rw [Bool.and_eq_true] at e1
      exact ty_in hm e1.1
    · cases e1
def fold_no : Expr → Bool
  | .Set _ _ _ => false
  | _ => true
theorem fold_ok {e : Expr} {env : PySem.Env} (h : plainB e = true) (v : Value) : foldedSetIterable e env v = pure v := by
  cases e <;> first | rfl | (simp [plainB] at h; done)
theorem isi_some {X : Cx} {W : WX} {sc : Scope} {x c : Expr} {a : E} {ts : List Ty} {p q : Pos} (h : Xo O n N X W) (hs : X.env.scope = sc) (hgl : glB sc "isinstance" = true) (ha : EOk O n X W x a)
    (hc : (match c with
      | .Name y _ => (match ts with
        | [t] => tyB O.cn t y && glB sc y
        | _ => false)
      | .Tuple ys _ _ => !ts.isEmpty && decide (ts.length ≤ 1000) && tysB O.cn sc ts ys
      | _ => false) = true) : EOk O n X W (.Call (.Name "isinstance" p) [x, c] [] q) (.isi a ts) := by
  have hm := h.blt "isinstance" (by decide)
  split at hc
  · split at hc
    · rename_i y _ _ t
      rw [Bool.and_eq_true] at hc
      exact s_isi (v := .non) hs hgl hm h.exi (by simpa using ty_in rfl hc.1) ha (pe_type h hs hc.1 hc.2) rfl (.inl ⟨t, rfl, rfl⟩)
    · cases hc
  · rename_i ys _ _
    simp only [Bool.and_eq_true, decide_eq_true_eq, Bool.not_eq_true', List.isEmpty_eq_false_iff] at hc
    exact s_isi (v := .non) hs hgl hm h.exi (tys_in rfl hc.2) ha (pe_tup (pa_types h hs hc.2)) rfl (.inr ⟨hc.1.1, hc.1.2, rfl⟩)
  · cases hc
mutual
theorem soundE : ∀ (ir : E) {e : Expr} {sc : Scope} {X : Cx} {W : WX}, Xo O n N X W → X.env.scope = sc → chkE O.toWs N sc ir e = true → EOk O n X W e ir
  | .var i, e, sc, X, W, h, hs, c => by
    simp only [chkE] at c
    split at c
    · rename_i nm hn
      obtain ⟨p, rfl⟩ := asName_eq hn
      rw [Bool.and_eq_true, decide_eq_true_eq] at c
      have pe := s_var (O := O) (n := n) (W := W) (p := p) h.N hs c.1 c.2
      exact ⟨pe, pt_val pe, rfl⟩
    · cases c
  | .lit d, e, sc, X, W, h, hs, c => by
    cases e <;> simp only [chkE] at c <;> first | (cases c; done) | skip
    exact ⟨s_lit c, pt_val (s_lit c), rfl⟩
  | .glob nm d, e, sc, X, W, h, hs, c => by
    simp only [chkE] at c
    split at c
    · rename_i x hn
      obtain ⟨p, rfl⟩ := asName_eq hn
      simp only [Bool.and_eq_true, decide_eq_true_eq, List.any_eq_true] at c
      obtain ⟨⟨rfl, c2⟩, g, hg, rfl, hd⟩ := c
      have hd := pdB_eq hd
      subst hd
      have pe := s_glob (O := O) (n := n) (W := W) (p := p) hs c2 (h.globs g hg)
      exact ⟨pe, pt_val pe, rfl⟩
    · cases c
  | .tup es, e, sc, X, W, h, hs, c => by
    cases e <;> simp only [chkE] at c <;> first | (cases c; done) | skip
    rw [Bool.and_eq_true, decide_eq_true_eq] at c
    exact ⟨s_tup c.2 (soundEs es h hs c.1).fs, pt_val (s_tup c.2 (soundEs es h hs c.1).fs), rfl⟩
  | .lst es, e, sc, X, W, h, hs, c => by
    cases e <;> simp only [chkE] at c <;> first | (cases c; done) | skip
    rw [Bool.and_eq_true, decide_eq_true_eq] at c
    exact ⟨s_lst c.2 (soundEs es h hs c.1).ps, pt_val (s_lst c.2 (soundEs es h hs c.1).ps), rfl⟩
  | .dict ks es, e, sc, X, W, h, hs, c => by
    simp only [chkE] at c
    split at c
    · rw [Bool.and_eq_true, List.isEmpty_iff, List.isEmpty_iff] at c
      obtain ⟨rfl, rfl⟩ := c
      exact ⟨s_dict, pt_val s_dict, rfl⟩
    · cases c
  | .keep a, e, sc, X, W, h, hs, c => by
    simp only [chkE] at c
    have q := soundE a h hs c
    exact ⟨s_keep q.pe, PT.imp q.pt fun σ H Q ⟨ρ, F, f, w, er, out⟩ => ⟨ρ, F, f, w, er, out⟩, q.pl⟩
  | .fz a, e, sc, X, W, h, hs, c => by
    simp only [chkE, Bool.and_eq_true] at c
    obtain ⟨nm, hn⟩ := Option.isSome_iff_exists.mp c.1
    obtain ⟨p, rfl⟩ := asName_eq hn
    exact s_fz (soundE a h hs c.2)
  | .o2 o a b, e, sc, X, W, h, hs, c => by
    simp only [chkE] at c
    split at c
    · rename_i x p y he
      simp only [Bool.and_eq_true, decide_eq_true_eq] at c
      obtain ⟨⟨rfl, c1⟩, c2⟩ := c
      exact s_o2 h.un (soundE a h hs c1) (soundE b h hs c2) he
    · cases c
  | .neg a, e, sc, X, W, h, hs, c => by
    simp only [chkE] at c
    split at c
    · exact s_neg (soundE a h hs c)
    · cases c
  | .chain o o' a b d, e, sc, X, W, h, hs, c => by
    simp only [chkE] at c
    split at c
    · rename_i x p y p' z he
      simp only [Bool.and_eq_true, decide_eq_true_eq] at c
      obtain ⟨⟨⟨⟨rfl, rfl⟩, c1⟩, c2⟩, c3⟩ := c
      exact s_chain h.un (soundE a h hs c1) (soundE b h hs c2) (soundE d h hs c3) he
    · cases c
  | .and es, e, sc, X, W, h, hs, c => by
    simp only [chkE] at c
    split at c
    · rw [Bool.and_eq_true] at c
      exact s_and (soundEs es h hs c.1) (by simpa using c.2)
    · cases c
  | .or es, e, sc, X, W, h, hs, c => by
    simp only [chkE] at c
    split at c
    · rw [Bool.and_eq_true] at c
      exact s_or (soundEs es h hs c.1) (by simpa using c.2)
    · cases c
  | .not a, e, sc, X, W, h, hs, c => by
    simp only [chkE] at c
    split at c
    · exact s_not (soundE a h hs c)
    · cases c
  | .ite d a b, e, sc, X, W, h, hs, c => by
    simp only [chkE] at c
    split at c
    · simp only [Bool.and_eq_true] at c
      exact s_ite (soundE d h hs c.1.1) (soundE a h hs c.1.2) (soundE b h hs c.2)
    · cases c
  | .isNone a, e, sc, X, W, h, hs, c => by
    simp only [chkE] at c
    split at c
    · exact s_isNone (soundE a h hs c)
    · cases c
  | .notNone a, e, sc, X, W, h, hs, c => by
    simp only [chkE] at c
    split at c
    · exact s_notNone (soundE a h hs c)
    · cases c
  | .isB t a, e, sc, X, W, h, hs, c => by
    simp only [chkE] at c
    split at c
    · rw [Bool.and_eq_true, decide_eq_true_eq] at c
      obtain ⟨c1, rfl⟩ := c
      exact s_isB (soundE a h hs c1)
    · cases c
  | .notB t a, e, sc, X, W, h, hs, c => by
    simp only [chkE] at c
    split at c
    · rw [Bool.and_eq_true, decide_eq_true_eq] at c
      obtain ⟨c1, rfl⟩ := c
      exact s_notB (soundE a h hs c1)
    · cases c
  | .bi f es, e, sc, X, W, h, hs, c => by
    simp only [chkE] at c
    split at c
    · rename_i nm as he
      obtain ⟨p, q, rfl⟩ := asCall_eq he
      simp only [Bool.and_eq_true, decide_eq_true_eq, Bool.not_eq_true', List.isEmpty_eq_false_iff] at c
      obtain ⟨⟨⟨rfl, c1⟩, c2⟩, c3⟩ := c
      have hb : ∀ f : BI, biN f ∈ bltN := fun f => by cases f <;> decide
      split at c3
      · split at c3
        · rename_i _ _ a0
          split at c3
          · rename_i m bs ha
            obtain ⟨p2, q2, rfl⟩ := asCall_eq ha
            simp only [Bool.and_eq_true, decide_eq_true_eq] at c3
            obtain ⟨⟨⟨rfl, g2⟩, cs⟩, hl⟩ := c3
            have hes := soundEs es h hs cs
            match es, hl, hes with
            | [a1], _, hes =>
              cases hes with
              | cons h1 hr =>
                cases hr
                exact s_lenset h.calm hs c1 g2 (h.blt _ (by decide)) (h.blt _ (by decide)) h1
          · cases c3
        · cases c3
      · split at c3
        · rename_i _ _ a0
          split at c3
          · rename_i m bs ha
            obtain ⟨p2, q2, rfl⟩ := asCall_eq ha
            simp only [Bool.and_eq_true, Bool.or_eq_true, decide_eq_true_eq] at c3
            obtain ⟨⟨⟨rfl, g2⟩, cs⟩, hl⟩ := c3
            have hes := soundEs es h hs cs
            rcases hl with hl | hl
            · match es, hl, hes with
              | [a1], _, hes =>
                cases hes with
                | cons h1 hr =>
                  cases hr
                  exact s_trange1 h.calm hs c1 g2 (h.blt _ (by decide)) (h.blt _ (by decide)) h1
            · match es, hl, hes with
              | [a1, a2], _, hes =>
                cases hes with
                | cons h1 hr =>
                  cases hr with
                  | cons h2 hr =>
                    cases hr
                    exact s_trange2 h.calm hs c1 g2 (h.blt _ (by decide)) (h.blt _ (by decide)) h1 h2
          · cases c3
        · cases c3
      · split at c3
        · rename_i _ _ a0
          split at c3
          · rename_i m bs ha
            obtain ⟨p2, q2, rfl⟩ := asCall_eq ha
            simp only [Bool.and_eq_true, decide_eq_true_eq] at c3
            obtain ⟨⟨⟨rfl, g2⟩, cs⟩, hl⟩ := c3
            have hes := soundEs es h hs cs
            match es, hl, hes with
            | [a1], _, hes =>
              cases hes with
              | cons h1 hr =>
                cases hr
                exact s_lrange1 h.calm hs c1 g2 (h.blt _ (by decide)) (h.blt _ (by decide)) h1
          · cases c3
        · cases c3
      · rw [Bool.and_eq_true] at c3
        exact s_bi h.calm h.un h.gu hs c1 rfl (h.blt _ (hb _)) c3.1 c2 (soundEs es h hs c3.2)
    · cases c
  | .meth m o es, e, sc, X, W, h, hs, c => by
    simp only [chkE] at c
    split at c
    · rename_i x nm as he
      obtain ⟨p, q, rfl, hline, hlen⟩ := asMeth_eq he
      simp only [Bool.and_eq_true, decide_eq_true_eq] at c
      obtain ⟨⟨⟨rfl, c1⟩, c2⟩, c3⟩ := c
      exact s_meth h.un (soundE o h hs c2) (soundEs es h hs c3) hlen hline
    · cases c
  | .sub a i, e, sc, X, W, h, hs, c => by
    simp only [chkE] at c
    split at c
    · rename_i x y he
      obtain ⟨q, rfl⟩ := asSub_eq he
      rw [Bool.and_eq_true] at c
      exact s_sub h.un (soundE a h hs c.1) (soundE i h hs c.2)
    · cases c
  | .slc a lo hi, e, sc, X, W, h, hs, c => by
    simp only [chkE] at c
    split at c
    · rename_i x y z he
      obtain ⟨p, q, rfl⟩ := asSlc_eq he
      simp only [Bool.and_eq_true] at c
      exact s_slc (soundE a h hs c.1.1) (soundO lo h hs c.1.2) (soundO hi h hs c.2)
    · cases c
  | .rev a, e, sc, X, W, h, hs, c => by simp [chkE] at c
  | .comp elt tg k src cond own, e, sc, X, W, h, hs, c => by
    unfold chkE at c
    split at c
    · rename_i x t it ifs scope p
      simp only [Bool.and_eq_true, decide_eq_true_eq] at c
      obtain ⟨⟨⟨⟨⟨⟨⟨c1, c2⟩, c3⟩, c4⟩, c5⟩, c6⟩, c7⟩, c8⟩ := c
      have hel : ∀ (s : Shared) (H : Hp) (C : Addr) (cl : List (Str × Addr)) (fp : List Addr), EOk O n (X.blk s H scope (compEnvC scope cl C X.env) fp) W0 x elt := fun s H C cl fp => soundE elt (h.blk) (by rw [← hs]; rfl) c4
      have hcd : ∀ (s : Shared) (H : Hp) (C : Addr) (cl : List (Str × Addr)) (fp : List Addr), ELs O n (X.blk s H scope (compEnvC scope cl C X.env) fp) W0 ifs cond := fun s H C cl fp => soundEs cond (h.blk) (by rw [← hs]; rfl) c5
      rw [← h.N] at c1 c2
      split at c8
      · split at c8
        · rename_i s
          have q := soundE s h hs c8
          exact s_comp h.calm h.nd hs c1 c2 c6 (pi_w q.pe) hel hcd (fold_ok q.pl) (comp_pl c3 c6)
        · cases c8
      · split at c8
        · rename_i nm as ha
          obtain ⟨p2, q2, rfl⟩ := asCall_eq ha
          simp only [Bool.and_eq_true, decide_eq_true_eq] at c8
          obtain ⟨⟨⟨rfl, g1⟩, cs⟩, hl⟩ := c8
          have hes := soundEs src h hs cs
          have gl : Gl X "range" := by show X.env.scope.names.lookup ("range" : Str) = some NameKind.globalImplicit; rw [hs]; exact (gl_of g1).1
          rcases hl with hl | hl
          · match src, hl, hes with
            | [a1], _, hes =>
              have pa := hes.vs
              cases hes with
              | cons h1 hr =>
                cases hr
                exact s_comp h.calm h.nd hs c1 c2 c6 (pi_range1 gl (h.blt _ (by decide)) pa (by rw [star_plain h1.pl]; rfl)) hel hcd (fun _ => rfl) (comp_rg1 c3 c6)
          · match src, hl, hes with
            | [a1, a2], _, hes =>
              have pa := hes.vs
              cases hes with
              | cons h1 hr =>
                cases hr with
                | cons h2 hr =>
                  cases hr
                  exact s_comp h.calm h.nd hs c1 c2 c6 (pi_range2 gl (h.blt _ (by decide)) pa (by rw [star_plain h1.pl, star_plain h2.pl]; rfl) (by rw [star_plain h2.pl]; rfl)) hel hcd (fun _ => rfl) (comp_rg2 c3 c6)
        · cases c8
      · rw [Bool.and_eq_true] at c8
        obtain ⟨ct, c8⟩ := c8
        obtain ⟨elts, kk, tp, rfl⟩ := isTupE_eq ct
        split at c8
        · rename_i nm as ha
          obtain ⟨p2, q2, rfl⟩ := asCall_eq ha
          simp only [Bool.and_eq_true, decide_eq_true_eq] at c8
          obtain ⟨⟨⟨rfl, g1⟩, cs⟩, hl⟩ := c8
          have hes := soundEs src h hs cs
          have gl : Gl X "enumerate" := by show X.env.scope.names.lookup ("enumerate" : Str) = some NameKind.globalImplicit; rw [hs]; exact (gl_of g1).1
          match src, hl, hes with
          | [a1], _, hes =>
            match as, hes with
            | [x1], hes => exact s_comp h.calm h.nd hs c1 c2 c6 (pi_enumW gl (h.blt _ (by decide)) hes) hel hcd (fun _ => rfl) (comp_en c3 c6)
        · cases c8
      · rw [Bool.and_eq_true] at c8
        obtain ⟨ct, c8⟩ := c8
        obtain ⟨elts, kk, tp, rfl⟩ := isTupE_eq ct
        split at c8
        · rename_i nm as ha
          obtain ⟨p2, q2, rfl⟩ := asCall_eq ha
          simp only [Bool.and_eq_true, decide_eq_true_eq] at c8
          obtain ⟨⟨⟨rfl, g1⟩, cs⟩, hl⟩ := c8
          have hes := soundEs src h hs cs
          have gl : Gl X "zip" := by show X.env.scope.names.lookup ("zip" : Str) = some NameKind.globalImplicit; rw [hs]; exact (gl_of g1).1
          match src, hl, hes with
          | [a1, a2], _, hes =>
            match as, hes with
            | [x1, x2], hes => exact s_comp h.calm h.nd hs c1 c2 c6 (pi_zipW gl (h.blt _ (by decide)) hes) hel hcd (fun _ => rfl) (comp_zip c3 c6)
        · cases c8
      · cases c8
    · cases c
  | .call f es, e, sc, X, W, h, hs, c => by
    simp only [chkE] at c
    split at c
    · rename_i nm as he
      obtain ⟨p, q, rfl⟩ := asCall_eq he
      simp only [Bool.and_eq_true, decide_eq_true_eq, Bool.not_eq_true', List.isEmpty_eq_false_iff] at c
      obtain ⟨⟨⟨⟨c1, c2⟩, c3⟩, c4⟩, c5⟩ := c
      obtain ⟨k, hr, co⟩ := h.call f nm c1 c2
      exact s_call hs c3 h.gu hr h.tk co c5 (soundEs es h hs c4)
    · cases c
  | .mcall _ _ _, e, sc, X, W, h, hs, c => by simp [chkE] at c
  | .new _ _, e, sc, X, W, h, hs, c => by simp [chkE] at c
  | .fld _ _, e, sc, X, W, h, hs, c => by simp [chkE] at c
  | .isi a ts, e, sc, X, W, h, hs, c => by
    simp only [chkE] at c
    split at c
    · rename_i nm x y he
      obtain ⟨p, q, rfl⟩ := asCall_eq he
      simp only [Bool.and_eq_true, decide_eq_true_eq] at c
      obtain ⟨⟨⟨rfl, c1⟩, c2⟩, c3⟩ := c
      exact isi_some h hs c1 (soundE a h hs c2) c3
    · cases c
theorem soundEs : ∀ (irs : List E) {es : List Expr} {sc : Scope} {X : Cx} {W : WX}, Xo O n N X W → X.env.scope = sc → chkEs O.toWs N sc irs es = true → ELs O n X W es irs
  | [], es, sc, X, W, h, hs, c => by
    cases es with
    | nil => exact .nil
    | cons _ _ => simp [chkEs] at c
  | a :: as, es, sc, X, W, h, hs, c => by
    cases es with
    | nil => simp [chkEs] at c
    | cons e es =>
      simp only [chkEs, Bool.and_eq_true] at c
      exact .cons (soundE a h hs c.1) (soundEs as h hs c.2)
theorem soundO : ∀ (lo : Option E) {l : Option Expr} {sc : Scope} {X : Cx} {W : WX}, Xo O n N X W → X.env.scope = sc → chkO O.toWs N sc lo l = true → (match lo, l with | none, none => True | some a, some x => PE X x (tE O n X.K W a) | _, _ => False)
  | none, l, sc, X, W, h, hs, c => by
    cases l with
    | none => trivial
    | some _ => simp [chkO] at c
  | some a, l, sc, X, W, h, hs, c => by
    cases l with
    | none => simp [chkO] at c
    | some e =>
      simp only [chkO] at c
      exact (soundE a h hs c).pe
end
end
end Z
set_option linter.all false
set_option Elab.async false
set_option maxRecDepth 100000
/-! Z35: what is checked is kept: statements. -/
namespace Z
open PySem L2 PyProof.Rows
/-- what a def's context tells -/
structure Xs (O : Wo) (n : Nat) (N : List Str) (sc : Scope) (X : Cx) (W : WX) : Prop extends Xo O n N X W where
  sc : X.env.scope = sc
  po : PassesOwn (model X.prog X.w) X.A X.env X.xe
  stk : X.stack = X.env :: X.outer
  frm : X.env.frame = some X.env.locals
  ex : X.ex = []
  fn : ∀ y, X.fn y = true
  xf : ∀ (k : Nat) (cl : Cls) (nm : Str), O.T.cls[k]? = some cl → O.cn[k]? = some nm → cl.up.contains k = true → cl.fields = [] → ExcF O X k nm
  xm : ∀ (x k : Nat) (cl : Cls), O.T.cls[x]? = some cl → cl.up.contains k = true → PySem.W.exmOne X.K (.ref (O.ca x)) (.ref (O.ca k)) = some true
section
variable {O : Wo} {n : Nat} {N : List Str} {sc : Scope}
theorem Xs.tr {X : Cx} {W W' : WX} {pn : List (Addr × Obj)} {xe : Value → Shared → Prop} (h : Xs O n N sc X W) (tk : Takes (X.tr pn xe) W') (po : PassesOwn (model X.prog X.w) X.A X.env xe) : Xs O n N sc (X.tr pn xe) W' where
  N := h.N
  nd := h.nd
  calm := h.calm
  gu := h.gu
  un := h.un
  tk := tk
  globs := h.globs
  blt := h.blt
  call := fun f nm e ne => by
    obtain ⟨k, r, c⟩ := h.call f nm e ne
    exact ⟨k, r, ⟨c.fn, c.mg, c.kp, c.bd, c.np⟩⟩
  cls := h.cls
  exi := h.exi
  sc := h.sc
  po := po
  stk := h.stk
  frm := h.frm
  ex := h.ex
  fn := h.fn
  xf := fun k cl nm e1 e2 e3 e4 => by
    have q := h.xf k cl nm e1 e2 e3 e4
    exact ⟨q.mg, q.kp, q.ex, q.sb, q.ty⟩
  xm := h.xm
def fnB (sc : Scope) : Bool := match sc.kind with
  | .function => true
  | _ => false
def locB (sc : Scope) (y : Str) : Bool := nmB sc y [.local, .cell]
theorem loc_of {sc : Scope} {y : Str} (h : locB sc y = true) : Loc sc y := by
  unfold locB nmB at h
  cases e : sc.names.lookup y with
  | none => rw [e] at h; cases h
  | some k =>
    rw [e] at h
    cases k <;> first | exact .inl e | exact .inr e | exact absurd h (by decide)
/-- the stores of a name and of a comprehension's own names are not exchanged -/
def swNo (sc : Scope) (y : Str) (e : Expr) : Bool := !lcB e || !decide (sc.names.lookup y = some .local)
theorem swNo_ok {y : Str} {e : Expr} {p : Pos} {l : Nat} {env : PySem.Env} (h : swNo env.scope y e = true) : swapsWith e (some (.Name y p)) l env = pure false := by
  unfold swNo at h
  rw [Bool.or_eq_true] at h
  rcases h with h | h
  · exact sw_no (by simpa using h)
  · have hk : (env.kindOf y == some .local) = false := by
      have : ¬ env.scope.names.lookup y = some .local := by simpa using h
      exact beq_eq_false_iff_ne.mpr this
    cases e <;> first
      | rfl
      | (simp only [swapsWith, hk, Bool.and_false, Bool.false_and]; done)
      | (simp only [swapsWith, hk, Bool.and_false, Bool.false_and]; rfl)
/-- they are -/
def swYes (sc : Scope) (y : Str) (py : Pos) : Expr → Bool
  | .ListComp _ [⟨_, _, _, 0⟩] scope pos => fnB sc && decide (sc.names.lookup y = some .local) && (py.line == pos.line) && !(scope.names.any fun (n, k) => n == y && (k == .local || k == .cell))
  | _ => false
/-- the parts of a comprehension that is checked -/
theorem soundC {elt : E} {tg : Tg} {k : ItK} {src cond : List E} {own : List Nat} {x t it : Expr} {ifs : List Expr} {scope : Scope} {p : Pos} {X : Cx} {W : WX} (h : Xo O n N X W) (hs : X.env.scope = sc) (c : chkE O.toWs N sc (.comp elt tg k src cond own) (.ListComp x [⟨t, it, ifs, 0⟩] scope p) = true) :
    ∃ wi, PI X t it wi ∧ blkC X.N sc scope (own.map fun i => (X.N[i]?.getD "", i)) = true ∧ tgB (fun x => scope.names.lookup x == some .cell) (relS scope sc) X.N tg t = true ∧ cond.length ≤ 1 ∧
      (∀ (s : Shared) (H : Hp) (C : Addr) (cl : List (Str × Addr)) (fp : List Addr), EOk O n (X.blk s H scope (compEnvC scope cl C X.env) fp) W0 x elt) ∧
      (∀ (s : Shared) (H : Hp) (C : Addr) (cl : List (Str × Addr)) (fp : List Addr), ELs O n (X.blk s H scope (compEnvC scope cl C X.env) fp) W0 ifs cond) ∧
      (∀ v, foldedSetIterable it X.env v = pure v) ∧ (∀ σ H Q, tE O n X.K W (.comp elt tg k src cond own) σ H Q → tLc wi (gT X.K tg) (tC1 O n X.K cond) (tE O n X.K W0 elt) own σ H Q) := by
  unfold chkE at c
  simp only [Bool.and_eq_true, decide_eq_true_eq] at c
  obtain ⟨⟨⟨⟨⟨⟨⟨c1, c2⟩, c3⟩, c4⟩, c5⟩, c6⟩, c7⟩, c8⟩ := c
  rw [← h.N] at c1 c2
  have hel : ∀ (s : Shared) (H : Hp) (C : Addr) (cl : List (Str × Addr)) (fp : List Addr), EOk O n (X.blk s H scope (compEnvC scope cl C X.env) fp) W0 x elt := fun s H C cl fp => soundE elt (h.blk) (by rw [← hs]; rfl) c4
  have hcd : ∀ (s : Shared) (H : Hp) (C : Addr) (cl : List (Str × Addr)) (fp : List Addr), ELs O n (X.blk s H scope (compEnvC scope cl C X.env) fp) W0 ifs cond := fun s H C cl fp => soundEs cond (h.blk) (by rw [← hs]; rfl) c5
  split at c8
  · split at c8
    · rename_i s
      have q := soundE s h hs c8
      exact ⟨_, pi_w q.pe, c1, c2, c6, hel, hcd, fold_ok q.pl, comp_pl c3 c6⟩
    · cases c8
  · split at c8
    · rename_i nm as ha
      obtain ⟨p2, q2, rfl⟩ := asCall_eq ha
      simp only [Bool.and_eq_true, decide_eq_true_eq] at c8
      obtain ⟨⟨⟨rfl, g1⟩, cs⟩, hl⟩ := c8
      have hes := soundEs src h hs cs
      have gl : Gl X "range" := by show X.env.scope.names.lookup ("range" : Str) = some NameKind.globalImplicit; rw [hs]; exact (gl_of g1).1
      rcases hl with hl | hl
      · match src, hl, hes with
        | [a1], _, hes =>
          have pa := hes.vs
          cases hes with
          | cons h1 hr =>
            cases hr
            exact ⟨_, pi_range1 gl (h.blt _ (by decide)) pa (by rw [star_plain h1.pl]; rfl), c1, c2, c6, hel, hcd, (fun _ => rfl), comp_rg1 c3 c6⟩
      · match src, hl, hes with
        | [a1, a2], _, hes =>
          have pa := hes.vs
          cases hes with
          | cons h1 hr =>
            cases hr with
            | cons h2 hr =>
              cases hr
              exact ⟨_, pi_range2 gl (h.blt _ (by decide)) pa (by rw [star_plain h1.pl, star_plain h2.pl]; rfl) (by rw [star_plain h2.pl]; rfl), c1, c2, c6, hel, hcd, (fun _ => rfl), comp_rg2 c3 c6⟩
    · cases c8
  · rw [Bool.and_eq_true] at c8
    obtain ⟨ct, c8⟩ := c8
    obtain ⟨elts, kk, tp, rfl⟩ := isTupE_eq ct
    split at c8
    · rename_i nm as ha
      obtain ⟨p2, q2, rfl⟩ := asCall_eq ha
      simp only [Bool.and_eq_true, decide_eq_true_eq] at c8
      obtain ⟨⟨⟨rfl, g1⟩, cs⟩, hl⟩ := c8
      have hes := soundEs src h hs cs
      have gl : Gl X "enumerate" := by show X.env.scope.names.lookup ("enumerate" : Str) = some NameKind.globalImplicit; rw [hs]; exact (gl_of g1).1
      match src, hl, hes with
      | [a1], _, hes =>
        match as, hes with
        | [x1], hes => exact ⟨_, pi_enumW gl (h.blt _ (by decide)) hes, c1, c2, c6, hel, hcd, (fun _ => rfl), comp_en c3 c6⟩
    · cases c8
  · rw [Bool.and_eq_true] at c8
    obtain ⟨ct, c8⟩ := c8
    obtain ⟨elts, kk, tp, rfl⟩ := isTupE_eq ct
    split at c8
    · rename_i nm as ha
      obtain ⟨p2, q2, rfl⟩ := asCall_eq ha
      simp only [Bool.and_eq_true, decide_eq_true_eq] at c8
      obtain ⟨⟨⟨rfl, g1⟩, cs⟩, hl⟩ := c8
      have hes := soundEs src h hs cs
      have gl : Gl X "zip" := by show X.env.scope.names.lookup ("zip" : Str) = some NameKind.globalImplicit; rw [hs]; exact (gl_of g1).1
      match src, hl, hes with
      | [a1, a2], _, hes =>
        match as, hes with
        | [x1, x2], hes => exact ⟨_, pi_zipW gl (h.blt _ (by decide)) hes, c1, c2, c6, hel, hcd, (fun _ => rfl), comp_zip c3 c6⟩
    · cases c8
  · cases c8
def isComp : E → Bool
  | .comp _ _ _ _ _ _ => true
  | _ => false
/-- y = [..], the stores exchanged -/
theorem s_setLc {X : Cx} {W : WX} {io : List Nat} {i : Nat} {y : Str} {py pos : Pos} {e : Expr} {a : E} (h : Xs O n N sc X W) (hi : X.N[i]? = some y) (c : chkE O.toWs N sc a e = true) (ic : isComp a = true) (sw : swYes sc y py e = true) : SOk O n X W io (.Assign [.Name y py] e pos) (.assign i a) := by
  unfold swYes at sw
  split at sw
  · rename_i x t it ifs scope p
    simp only [Bool.and_eq_true, decide_eq_true_eq, Bool.not_eq_true'] at sw
    obtain ⟨⟨⟨k1, k2⟩, k3⟩, k4⟩ := sw
    cases a <;> first | (simp [isComp] at ic; done) | skip
    · rename_i elt tg k src cond own
      obtain ⟨wi, p1, p2, p3, p4, p5, p6, p7, p8⟩ := soundC h.toXo h.sc c
      have hk : X.env.scope.kind = .function := by
        rw [h.sc]
        unfold fnB at k1
        split at k1 <;> first | assumption | cases k1
      have hyl : X.env.scope.names.lookup y = some .local := by rw [h.sc]; exact k2
      refine PS.imp (ps_setLc (own := own.map fun i => ((X.N[i]?).getD ("" : Str), i)) (wi := wi) (g := gT X.K tg) (tt := tC1 O n X.K cond) (te := tE O n X.K W0 elt) h.calm h.nd hi hyl (sw_true hk hyl k3 k4) p1 (blkOk_by (by rw [h.sc]; exact p2)) (fun s H C cl fp => pg_ok (X := X.blk s H scope (compEnvC scope cl C X.env) fp) (fun y hy => hy) h.calm h.nd tg t (by have := p3; rw [← h.sc] at this; exact this)) (fun s H C cl fp => pts_of (p6 s H C cl fp) p4) (fun s H C cl fp => (p5 s H C cl fp).pe) p7) fun D σ H q => ?_
      rw [own_map]
      exact p8 σ H _ (asg_key q)
  · cases sw
section
variable (O : Ws) (N : List Str) (sc : Scope)
mutual
def chkS : S → Stmt → Bool
  | .assign i a, st => match st with
    | .Assign [.Name y py] e _ => decide (N[i]? = some y) && locB sc y && (swNo sc y e || (isComp a && swYes sc y py e)) && chkE O N sc a e
    | _ => false
  | .unpack t a, st => match st with
    | .Assign [.Tuple ts k p] e _ => tgB (fun _ => true) sc N t (.Tuple ts k p) && !lcB e && !tupB e && chkE O N sc a e
    | _ => false
  | .par is es, st => match is, es, st with
    | [i, j], [a, b], .Assign [.Tuple [.Name nx px, .Name ny py] _ _] (.Tuple [x, y] _ _) _ => decide (N[i]? = some nx) && decide (N[j]? = some ny) && decide (i ≠ j) && parB sc nx ny px py x y && chkE O N sc a x && chkE O N sc b y
    | _, _, _ => false
  | .setIx a b c, st => match st with
    | .Assign [.Subscript x y _] e _ => !lcB e && !tupB e && chkE O N sc c e && chkE O N sc a x && chkE O N sc b y
    | _ => false
  | .setHd a m c, st => match st with
    | .Assign [.Subscript x (.Slice none (some (.Constant (.int k) _ _)) none _) _] e _ => decide (k = (m : Int)) && !lcB e && !tupB e && chkE O N sc c e && chkE O N sc a x
    | _ => false
  | .swap _ _ _, _ => false
  | .setFld _ _ _, _ => false
  | .ex a, st => match st with
    | .Expr e _ => !lcB e && chkE O N sc a e
    | _ => false
  | .ret a, st => match st with
    | .Return (some e) _ => chkE O N sc a e
    | _ => false
  | .ret0, st => match st with
    | .Return none _ => true
    | _ => false
  | .iff c a b, st => match st with
    | .If e sa sb _ => chkE O N sc c e && chkSs a sa && chkSs b sb
    | _ => false
  | .for tg k src body, st => match st with
    | .For t it sb [] _ => tgB (fun _ => true) sc N tg t && chkSs body sb && (match k with
      | .pl => (match src with
        | [s] => chkE O N sc s it
        | _ => false)
      | .range => (match asCall it with
        | some (nm, as) => decide (nm = "range") && glB sc nm && chkEs O N sc src as && decide (src.length = 1 ∨ src.length = 2)
        | none => false)
      | .enum => isTupE t && (match asCall it with
        | some (nm, as) => decide (nm = "enumerate") && glB sc nm && chkEs O N sc src as && decide (src.length = 1)
        | none => false)
      | .zip => isTupE t && (match asCall it with
        | some (nm, as) => decide (nm = "zip") && glB sc nm && chkEs O N sc src as && decide (src.length = 2)
        | none => false)
      | _ => false)
    | _ => false
  | .while c body, st => match st with
    | .While e sb [] _ => chkE O N sc c e && chkSs body sb
    | _ => false
  | .raise k es, st => match st with
    | .Raise (some (.Call (.Name nm _) xs [] _)) none _ => decide (O.cn[k]? = some nm) && glB sc nm && (match O.T.cls[k]? with
      | some cl => cl.up.contains k && cl.fields.isEmpty
      | none => false) && decide (es.length ≤ 1000) && !es.isEmpty && chkEs O N sc es xs
    | _ => false
  | .tryE body k i j, st => match st with
    | .Try sb [.ExceptHandler (some (.Name cn _)) (some nm) [.Assign [.Name tn _] (.Name nm2 _) _] _] [] [] _ => decide (nm2 = nm) && decide (N[i]? = some nm) && decide (N[j]? = some tn) && decide (i ≠ j) && decide (sc.names.lookup nm = some .local) && decide (sc.names.lookup tn = some .local) &&
        decide (nm ≠ "__debug__") && decide (nm ≠ "__classdict__") && glB sc cn && decide (O.cn[k]? = some cn) && chkSs body sb
    | _ => false
  | .pass, st => match st with
    | .Pass _ => true
    | .Expr (.Constant (.str _) _ _) _ => true
    | _ => false
  | .cont, st => match st with
    | .Continue _ => true
    | _ => false
def chkSs : List S → List Stmt → Bool
  | [], [] => true
  | s :: ss, st :: sts => chkS s st && chkSs ss sts
  | _, _ => false
end
end
mutual
theorem soundS {io : List Nat} : ∀ (s : S) {st : Stmt} {X : Cx} {W : WX}, Xs O n N sc X W → chkS O.toWs N sc s st = true → SOk O n X W io st s
  | .assign i a, st, X, W, h, c => by
    unfold chkS at c
    split at c
    · rename_i y py e pos
      simp only [Bool.and_eq_true, Bool.or_eq_true, decide_eq_true_eq] at c
      obtain ⟨⟨⟨c1, c2⟩, c3⟩, c4⟩ := c
      rw [← h.N] at c1
      rcases c3 with c3 | c3
      · exact s_assign h.nd c1 (by rw [h.sc]; exact loc_of c2) (.inl (h.fn _)) (swNo_ok (by rw [h.sc]; exact c3)) (soundE a h.toXo h.sc c4)
      · exact s_setLc h c1 c4 c3.1 c3.2
    · cases c
  | .unpack t a, st, X, W, h, c => by
    unfold chkS at c
    split at c
    · simp only [Bool.and_eq_true, Bool.not_eq_true'] at c
      obtain ⟨⟨⟨c1, c2⟩, c3⟩, c4⟩ := c
      rw [← h.N, ← h.sc] at c1
      exact s_unpack (fun x _ => h.fn x) c1 h.calm h.nd c2 c3 rfl (soundE a h.toXo h.sc c4)
    · cases c
  | .par is es, st, X, W, h, c => by
    unfold chkS at c
    split at c
    · simp only [Bool.and_eq_true, decide_eq_true_eq] at c
      obtain ⟨⟨⟨⟨⟨c1, c2⟩, c3⟩, c4⟩, c5⟩, c6⟩ := c
      rw [← h.N] at c1 c2
      rw [← h.sc] at c4
      exact s_par h.calm h.nd c1 c2 c3 c4 (.cons (soundE _ h.toXo h.sc c5) (.cons (soundE _ h.toXo h.sc c6) .nil))
    · cases c
  | .setIx a b d, st, X, W, h, c => by
    unfold chkS at c
    split at c
    · simp only [Bool.and_eq_true, Bool.not_eq_true'] at c
      obtain ⟨⟨⟨⟨c1, c2⟩, c3⟩, c4⟩, c5⟩ := c
      have q := soundE b h.toXo h.sc c5
      exact s_setIx h.un c1 c2 q.pl (soundE d h.toXo h.sc c3) (soundE a h.toXo h.sc c4) q
    · cases c
  | .setHd a m d, st, X, W, h, c => by
    unfold chkS at c
    split at c
    · simp only [Bool.and_eq_true, decide_eq_true_eq, Bool.not_eq_true'] at c
      obtain ⟨⟨⟨⟨rfl, c1⟩, c2⟩, c3⟩, c4⟩ := c
      exact s_setHd c1 c2 (soundE d h.toXo h.sc c3) (soundE a h.toXo h.sc c4)
    · cases c
  | .swap _ _ _, st, X, W, h, c => by simp [chkS] at c
  | .setFld _ _ _, st, X, W, h, c => by simp [chkS] at c
  | .ex a, st, X, W, h, c => by
    unfold chkS at c
    split at c
    · simp only [Bool.and_eq_true, Bool.not_eq_true'] at c
      exact s_ex c.1 (soundE a h.toXo h.sc c.2)
    · cases c
  | .ret a, st, X, W, h, c => by
    unfold chkS at c
    split at c
    · exact s_ret (soundE a h.toXo h.sc c)
    · cases c
  | .ret0, st, X, W, h, c => by
    unfold chkS at c
    split at c
    · exact s_ret0
    · cases c
  | .iff d a b, st, X, W, h, c => by
    unfold chkS at c
    split at c
    · simp only [Bool.and_eq_true] at c
      exact s_iff (soundE d h.toXo h.sc c.1.1) (soundSs a h c.1.2) (soundSs b h c.2)
    · cases c
  | .for tg k src body, st, X, W, h, c => by
    unfold chkS at c
    split at c
    · simp only [Bool.and_eq_true] at c
      obtain ⟨⟨c1, c2⟩, c3⟩ := c
      rw [← h.N, ← h.sc] at c1
      have hb := soundSs (io := io) body h c2
      split at c3
      · split at c3
        · rename_i s
          have q := soundE s h.toXo h.sc c3
          exact s_for h.po h.calm h.nd (fun x _ => h.fn x) c1 (pi_w q.pe) hb (fold_ok q.pl) fun D σ H q => for_pl q
        · cases c3
      · split at c3
        · rename_i nm as ha
          obtain ⟨p2, q2, rfl⟩ := asCall_eq ha
          simp only [Bool.and_eq_true, decide_eq_true_eq] at c3
          obtain ⟨⟨⟨rfl, g1⟩, cs⟩, hl⟩ := c3
          have hes := soundEs src h.toXo h.sc cs
          have gl : Gl X "range" := by show X.env.scope.names.lookup ("range" : Str) = some NameKind.globalImplicit; rw [h.sc]; exact (gl_of g1).1
          rcases hl with hl | hl
          · match src, hl, hes with
            | [a1], _, hes =>
              have pa := hes.vs
              cases hes with
              | cons h1 hr =>
                cases hr
                exact s_for h.po h.calm h.nd (fun x _ => h.fn x) c1 (pi_range1 gl (h.blt _ (by decide)) pa (by rw [star_plain h1.pl]; rfl)) hb (fun _ => rfl) fun D σ H q => for_rg1 q
          · match src, hl, hes with
            | [a1, a2], _, hes =>
              have pa := hes.vs
              cases hes with
              | cons h1 hr =>
                cases hr with
                | cons h2 hr =>
                  cases hr
                  exact s_for h.po h.calm h.nd (fun x _ => h.fn x) c1 (pi_range2 gl (h.blt _ (by decide)) pa (by rw [star_plain h1.pl, star_plain h2.pl]; rfl) (by rw [star_plain h2.pl]; rfl)) hb (fun _ => rfl) fun D σ H q => for_rg2 q
        · cases c3
      · rw [Bool.and_eq_true] at c3
        obtain ⟨ct, c3⟩ := c3
        obtain ⟨elts, kk, tp, rfl⟩ := isTupE_eq ct
        split at c3
        · rename_i nm as ha
          obtain ⟨p2, q2, rfl⟩ := asCall_eq ha
          simp only [Bool.and_eq_true, decide_eq_true_eq] at c3
          obtain ⟨⟨⟨rfl, g1⟩, cs⟩, hl⟩ := c3
          have hes := soundEs src h.toXo h.sc cs
          have gl : Gl X "enumerate" := by show X.env.scope.names.lookup ("enumerate" : Str) = some NameKind.globalImplicit; rw [h.sc]; exact (gl_of g1).1
          match src, hl, hes with
          | [a1], _, hes =>
            match as, hes with
            | [x1], hes => exact s_for h.po h.calm h.nd (fun x _ => h.fn x) c1 (pi_enumW gl (h.blt _ (by decide)) hes) hb (fun _ => rfl) fun D σ H q => for_en q
        · cases c3
      · rw [Bool.and_eq_true] at c3
        obtain ⟨ct, c3⟩ := c3
        obtain ⟨elts, kk, tp, rfl⟩ := isTupE_eq ct
        split at c3
        · rename_i nm as ha
          obtain ⟨p2, q2, rfl⟩ := asCall_eq ha
          simp only [Bool.and_eq_true, decide_eq_true_eq] at c3
          obtain ⟨⟨⟨rfl, g1⟩, cs⟩, hl⟩ := c3
          have hes := soundEs src h.toXo h.sc cs
          have gl : Gl X "zip" := by show X.env.scope.names.lookup ("zip" : Str) = some NameKind.globalImplicit; rw [h.sc]; exact (gl_of g1).1
          match src, hl, hes with
          | [a1, a2], _, hes =>
            match as, hes with
            | [x1, x2], hes => exact s_for h.po h.calm h.nd (fun x _ => h.fn x) c1 (pi_zipW gl (h.blt _ (by decide)) hes) hb (fun _ => rfl) fun D σ H q => for_zip q
        · cases c3
      · cases c3
    · cases c
  | .while d body, st, X, W, h, c => by
    unfold chkS at c
    split at c
    · simp only [Bool.and_eq_true] at c
      exact s_while h.po (soundE d h.toXo h.sc c.1) (soundSs body h c.2)
    · cases c
  | .raise k es, st, X, W, h, c => by
    unfold chkS at c
    split at c
    · rename_i nm _ xs _ _
      simp only [Bool.and_eq_true, decide_eq_true_eq, Bool.not_eq_true', List.isEmpty_eq_false_iff] at c
      obtain ⟨⟨⟨⟨⟨c1, c2⟩, c3⟩, c4⟩, c5⟩, c6⟩ := c
      split at c3
      · rename_i cl hcl
        rw [Bool.and_eq_true, List.isEmpty_iff] at c3
        exact s_raise h.sc c2 h.calm h.tk (h.xf k cl nm hcl c1 c3.1 c3.2) hcl c3.2 c4 c5 (soundEs es h.toXo h.sc c6)
      · cases c3
    · cases c
  | .tryE body k i j, st, X, W, h, c => by
    unfold chkS at c
    split at c
    · simp only [Bool.and_eq_true, decide_eq_true_eq] at c
      obtain ⟨⟨⟨⟨⟨⟨⟨⟨⟨⟨rfl, c1⟩, c2⟩, c3⟩, c4⟩, c5⟩, c6⟩, c7⟩, c8⟩, c9⟩, c10⟩ := c
      rw [← h.N] at c1 c2
      exact s_tryE h.stk h.frm h.ex h.nd c1 c2 c3 (by rw [h.sc]; exact c4) (by rw [h.sc]; exact c5) (beq_eq_false_iff_ne.mpr c6) (beq_eq_false_iff_ne.mpr c7) (by rw [h.sc]; exact c8) (h.cls _ _ c9) (fun x cl e1 e2 => h.xm x k cl e1 e2) fun W' pn xe tk po => soundSs body (h.tr tk po) c10
    · cases c
  | .pass, st, X, W, h, c => by
    unfold chkS at c
    split at c
    · exact s_pass
    · exact s_doc
    · cases c
  | .cont, st, X, W, h, c => by
    unfold chkS at c
    split at c
    · exact s_cont
    · cases c
theorem soundSs {io : List Nat} : ∀ (ss : List S) {sts : List Stmt} {X : Cx} {W : WX}, Xs O n N sc X W → chkSs O.toWs N sc ss sts = true → SsOk O n X W io sts ss
  | [], sts, X, W, h, c => by
    cases sts with
    | nil => exact s_nil
    | cons _ _ => simp [chkSs] at c
  | s :: ss, sts, X, W, h, c => by
    cases sts with
    | nil => simp [chkSs] at c
    | cons st sts =>
      simp only [chkSs, Bool.and_eq_true] at c
      exact s_cons (soundS s h c.1) (soundSs ss h c.2)
end
end
end Z
set_option linter.all false
set_option Elab.async false
set_option maxRecDepth 100000
/-! Z36: the defs of a table, by the level. -/
namespace Z
open PySem L2 PyProof.Rows
section
variable {K : PySem.W.Frag} {ca : Nat → Addr} {F H : Hp}
theorem er_none : ∀ (σ : L2.St), ER K ca F H σ (List.replicate σ.length none) []
  | [] => .nil
  | s :: σ => by
    rw [List.length_cons, List.replicate_succ]
    exact .no (er_none σ)
theorem er_start {m : Nat} : ∀ {args : List C} {vs : List V} {gs : List Addr}, CRs K ca F H vs args gs → ER K ca F H (vs.map some ++ List.replicate m none) (args.map some ++ List.replicate m none) gs
  | [], _, _, h => by
    cases h
    have := er_none (K := K) (ca := ca) (F := F) (H := H) (List.replicate m (none : Option V))
    rw [List.length_replicate] at this
    exact this
  | c :: cs, _, _, h => by
    cases h with
    | cons a r => exact .so a (er_start r)
def finP (p : Nat → Bool) (ρ : Env) (np : Nat) : List (Option C) := (List.range np).map fun k => if p k then slot ρ k else none
theorem finP_succ (p : Nat → Bool) (o : Option C) (ρ : Env) (np : Nat) : finP p (o :: ρ) (np + 1) = (if p 0 then o else none) :: finP (fun k => p (k + 1)) ρ np := by
  unfold finP
  rw [List.range_succ_eq_map, List.map_cons, List.map_map]
  rfl
theorem finP_nil (p : Nat → Bool) (np : Nat) : finP p [] np = List.replicate np none := by
  unfold finP
  rw [List.eq_replicate_iff]
  refine ⟨by simp, fun b hb => ?_⟩
  obtain ⟨k, _, e⟩ := List.mem_map.mp hb
  rw [← e]
  split <;> simp [slot]
theorem fin_ok : ∀ {vs : List V} {ρ : Env} {σ : L2.St} {f : List Addr} {p : Nat → Bool}, ER K ca F H σ ρ f → (∀ i, p i = true → i < vs.length → σ[i]? = (vs.map some)[i]?) → ∃ g, g.Sublist f ∧ ER K ca F H (vs.map some) (finP p ρ vs.length) g
  | [], ρ, σ, f, p, _, _ => ⟨[], List.nil_sublist f, by simpa [finP] using ER.nil⟩
  | v :: vs, [], σ, f, p, h, _ => by
    cases h
    refine ⟨[], .refl _, ?_⟩
    rw [finP_nil]
    have := er_none (K := K) (ca := ca) (F := F) (H := H) ((v :: vs).map some)
    rwa [List.length_map] at this
  | v :: vs, o :: ρ, σ, f, p, h, q => by
    rw [List.length_cons, finP_succ]
    cases h with
    | @no s σ ρ f r =>
      obtain ⟨g, s1, e1⟩ := fin_ok (vs := vs) (p := fun k => p (k + 1)) r fun i hp hi => by simpa using q (i + 1) hp (by simpa using hi)
      refine ⟨g, s1, ?_⟩
      have : (if p 0 = true then (none : Option C) else none) = none := by split <;> rfl
      rw [this]
      exact .no e1
    | @so v0 c σ ρ f1 g1 cr r =>
      obtain ⟨g, s1, e1⟩ := fin_ok (vs := vs) (p := fun k => p (k + 1)) r fun i hp hi => by simpa using q (i + 1) hp (by simpa using hi)
      cases hp : p 0 with
      | false =>
        exact ⟨g, s1.trans (List.sublist_append_right _ _), .no e1⟩
      | true =>
        have := q 0 hp (by simp)
        simp only [List.getElem?_cons_zero, List.map_cons, Option.some.injEq] at this
        subst this
        exact ⟨f1 ++ g, s1.append_left _, .so cr e1⟩
end
/-- what the top has left, for a table -/
structure Wf (O : Wo) (K : PySem.W.Frag) (mg : Str → Option Value) : Prop where
  fnd : ∀ (f : Nat) (nm : Str), O.fn[f]? = some nm → nm ≠ "" → ∃ (fd : Fd) (N : List Str) (pr : Arguments) (bd : List Stmt) (sc : Scope), O.T.fns[f]? = some fd ∧ FunD K nm nm pr bd sc [] [] (O.fa f) (O.fd f) ∧ FnScope N (O.ps f) sc ∧ chkSs O.toWs N sc fd.body bd = true ∧
    N.length = fd.ns ∧ (O.ps f).length = fd.np ∧ mg nm = some (.ref (O.fa f)) ∧ Binds K (O.fd f) (O.ps f) []
  globs : ∀ p ∈ O.globs, ∃ u v, mg p.1 = some u ∧ RelV v u ∧ ∀ F : Hp, FR K F v p.2
  blt : ∀ x, x ∈ bltN → mg x = none
  cls : ∀ (k : Nat) (nm : Str), O.cn[k]? = some nm → mg nm = some (.ref (O.ca k))
  exi : ∀ (k : Nat) (cl : Cls), O.T.cls[k]? = some cl → cl.up.contains k = true → ExcI K O.ca O.T O.cn.length k cl
  xkp : ∀ (k : Nat) (cl : Cls), O.T.cls[k]? = some cl → cl.up.contains k = true → PySem.W.keepIn K (.ref (O.ca k)) = true ∧ PySem.W.typeIn K (.ref (O.ca k)) = some (.type "type")
  xex : ∀ (k : Nat) (cl : Cls), O.T.cls[k]? = some cl → cl.up.contains k = true → cl.fields = [] → PySem.W.excIn K (O.ca k) bmVE "ValueError.__new__" = true
  xm : ∀ (x k : Nat) (cl : Cls), O.T.cls[x]? = some cl → cl.up.contains k = true → PySem.W.exmOne K (.ref (O.ca x)) (.ref (O.ca k)) = some true
section
variable {O : Wo} {P : Program} {w : World} {K : PySem.W.Frag} {mg : Str → Option Value} {base : Heap}
theorem fnG_all (W : Wf O K mg) : ∀ (n f : Nat) (nm : Str), O.fn[f]? = some nm → nm ≠ "" → FnG P w K mg base n (O.fa f) (O.fd f) (O.ps f) (spF O n f K)
  | 0, f, nm, h1, h2 => ⟨fun vs H Q E ⟨_, _, _, _, _, hl, _⟩ => hl, fun A outer s H args us vs Q E _ _ _ _ _ hsp => by
      obtain ⟨F, as, gs, _, _, _, q⟩ := hsp
      exact q.elim⟩
  | n + 1, f, nm, h1, h2 => by
    obtain ⟨fd, N, pr, bd, sc, hfd, FD, S, chk, hns, hnp, hmg, hbd⟩ := W.fnd f nm h1 h2
    obtain ⟨oc, od, dV, kV, doc, pm, an, cdv, ct, osl, efd, lk, hcd, _, _⟩ := FD.ex
    have hlen : ∀ vs H Q E, spF O (n + 1) f K vs H Q E → vs.length = (O.ps f).length := fun vs H Q E ⟨_, _, _, _, _, hl, _⟩ => hl
    rw [efd] at lk ⊢
    refine fn_ofG lk hcd S hlen fun A outer s H vs Q E hg hr hsp => ?_
    have hX : Xs O n N sc (cxOf (L2.CX P w) P w K mg base N nm sc (O.fa f) cdv A outer s H E) (fun cls d _ H' => E cls d H') := {
      N := rfl
      nd := S.nd
      calm := rfl
      gu := hg
      un := by
        have := hr.un
        show (A.deeper (envOfC nm sc s.heap.objs.size (O.fa f) cdv)).units + 70 < cLine
        omega
      tk := takes_of rfl rfl rfl rfl
      globs := W.globs
      blt := W.blt
      call := fun g gn e1 e2 => by
        obtain ⟨fd2, _, _, _, _, h3, FD2, _, _, _, h6, h7, h8⟩ := W.fnd g gn e1 e2
        exact ⟨n, hr, ⟨fnG_all W n g gn e1 e2, h7, FD2.kp, h8, fun fd3 e3 => by rw [h3] at e3; cases e3; exact h6⟩⟩
      cls := W.cls
      exi := W.exi
      sc := rfl
      po := passes_of rfl
      stk := rfl
      frm := rfl
      ex := rfl
      fn := fun _ => rfl
      xf := fun k cl gn e1 e2 e3 e4 => ⟨W.cls k gn e2, (W.xkp k cl e1 e3).1, W.xex k cl e1 e3 e4, (W.exi k cl e1 e3).hs, (W.xkp k cl e1 e3).2⟩
      xm := W.xm }
    refine ⟨_, soundSs (io := fd.io) fd.body hX chk, ?_⟩
    obtain ⟨F, args, gs, wd, cr, hl, q⟩ := hsp
    have hal : args.length = fd.np := by rw [← CRs.length cr, hl, hnp]
    refine ⟨args.map some ++ List.replicate (fd.ns - fd.np) none, F, gs, wd, ?_, ?_⟩
    · have : L2.start N vs = vs.map some ++ List.replicate (fd.ns - fd.np) none := by
        unfold L2.start
        rw [hns, hl, hnp]
      rw [this]
      exact er_start cr
    · have hio : ∀ (σ' : L2.St), Io fd.io (L2.start N vs) σ' → ∀ i, fd.io.contains i = true → i < vs.length → σ'[i]? = (vs.map some)[i]? := fun σ' io i hi hlt => by
        rw [io i (by simpa using hi)]
        unfold L2.start
        rw [List.getElem?_append_left (by rw [List.length_map]; exact hlt)]
      have finE : ∀ ρ : Env, finOf fd.io ρ fd.np = finP (fun k => fd.io.contains k) ρ vs.length := fun ρ => by
        rw [hl, hnp]
        rfl
      have e0 : callF O.T (n + 1) f args = (match exSs O.T (callF O.T n) fd.io fd.body (args.map some ++ List.replicate (fd.ns - fd.np) none) with
        | .ok (.ret c) ρ => .ok c (finOf fd.io ρ fd.np)
        | .ok .next ρ => .ok (.d .none) (finOf fd.io ρ fd.np)
        | .ok .cont _ => .bad
        | .exc x ρ => .exc x (finOf fd.io ρ fd.np)
        | .bad => .bad) := by
        rw [callF, hfd]
        simp only
        rw [if_pos hal]
        all_goals
          cases exSs O.T (callF O.T n) fd.io fd.body (args.map some ++ List.replicate (fd.ns - fd.np) none) with
          | ok r ρ => cases r <;> rfl
          | exc _ _ => rfl
          | bad => rfl
      rw [e0] at q
      show OutS K O.ca _ fd.io F H gs (L2.start N vs) _ (exSs O.T (callF O.T n) fd.io fd.body (args.map some ++ List.replicate (fd.ns - fd.np) none))
      cases e1 : exSs O.T (callF O.T n) fd.io fd.body (args.map some ++ List.replicate (fd.ns - fd.np) none) with
      | bad => rw [e1] at q; exact q
      | exc x ρ =>
        rw [e1] at q
        intro F' H' cls d g f' σ' st w' er xr io
        obtain ⟨gf, s1, er2⟩ := fin_ok (vs := vs) er (hio σ' io)
        exact q F' H' cls d g gf (st.less fun a m => (s1.append_left g).subset m) (w'.sub (s1.append_left g)) xr (by rw [finE]; exact er2)
      | ok r ρ =>
        rw [e1] at q
        cases r with
        | cont => exact q.elim
        | next =>
          intro F' H' f' σ' st w' er io
          obtain ⟨gf, s1, er2⟩ := fin_ok (vs := vs) er (hio σ' io)
          exact q F' H' .non [] gf (st.less fun a m => s1.subset m) (w'.sub s1) (.d .non) (by rw [finE]; exact er2)
        | ret c =>
          intro F' H' x g f' σ' st w' er crx io
          obtain ⟨gf, s1, er2⟩ := fin_ok (vs := vs) er (hio σ' io)
          exact q F' H' x g gf (st.less fun a m => (s1.append_left g).subset m) (w'.sub (s1.append_left g)) crx (by rw [finE]; exact er2)
end
end Z
set_option linter.all false
set_option Elab.async false
set_option maxRecDepth 100000
/-! Z37: the law's call, for a def whose callers hold no guard. -/
namespace Z
open PySem PySem.Spec PyProof.Rows L2
section
variable {P : Program} {w : World} {K : PySem.W.Frag} {mg mb : Str → Option Value} {k : Nat} {fl sc : Addr} {fd : FuncData} {x : Str} {sp : Sp} {t : Shared} {vs : List Value} {ns : List Int}
/-- from an abstract heap in which the script alone may stand -/
theorem callG_core {H : Hp} (KX : K.In t.heap) (gl : t.heap.Ns mainGlobals mg) (bl : t.heap.Ns builtinsNs mb) (bb : ∀ y : Str, y ≠ "__name__" → mb y = bootBuiltins y) (nl : t.heap.NoLimit) (ng : t.gens = #[]) (ha : t.heap.get? sc = some { cls := .type "list", data := .seq vs.toArray })
    (hr : Room k callerA) (F : ∀ base : Heap, K.In base → base.Ns mainGlobals mg → FnG P w K mg base k fl fd [x] sp) (hb : ∀ (s : Shared) (u : Value), K.In s.heap → BindsTo s fd ⟨[u], []⟩ [(x, u)])
    (only : Only H) (hsp : sp [.ref sc] H (fun v _ => v = .bl true) fun _ _ _ => False) (hok : HOk P w H t.heap) (one : ∀ b, H b ≠ none → b = sc) (nK : H sc ≠ none → K.lookup sc = none) :
    codeAny (model P w) callerA (.call (.ref fl) ⟨[.ref sc], []⟩) (fun r s' => r = .ok (.ret (.bool true)) ∧ OldK t.heap s'.heap ∧ s'.os = t.os ∧ AllBare s'.gens) t := by
  have below : ∀ {b : Addr} {o : Obj}, t.heap.get? b = some o → H b = none → (hidT t.heap H).get? b = some o := fun e n => hidT_get e n
  have dictFree : ∀ {b : Addr} {o : Obj} {es : Array DictEntry} {ep : Nat}, t.heap.get? b = some o → o.data = .dict es ep → H b = none := fun {b o es ep} e d => by
    cases q : H b with
    | none => rfl
    | some u =>
      obtain rfl : b = sc := one b (by rw [q]; exact fun z => nomatch z)
      rw [ha] at e
      cases e
      exact absurd (show Data.seq vs.toArray _ = Data.dict es ep from d) (fun z => by cases z)
  have space : ∀ {b : Addr} {m : Str → Option Value}, t.heap.Ns b m → (hidT t.heap H).Ns b m := fun {b m} h => by
    obtain ⟨o, es, ep, e, d, r⟩ := h
    exact ⟨o, es, ep, below e (dictFree e d), d, r⟩
  have kb : K.In (hidT t.heap H) := fun b o e => below (KX b o e) (by
    cases q : H b with
    | none => rfl
    | some u =>
      have h1 : H b ≠ none := by rw [q]; exact fun z => nomatch z
      obtain rfl : b = sc := one b h1
      rw [nK h1] at e
      cases e)
  have lim : (hidT t.heap H).NoLimit := by
    obtain ⟨mc, h1, h2⟩ := nl
    exact ⟨mc, space h1, h2⟩
  have env : Env0 P w K mg (hidT t.heap H) callerA [] t H := ⟨rfl, ⟨kb, space gl, ⟨mb, space bl, bb⟩, lim⟩, fun b o e => of_hidT e, Nat.le_of_eq (hidT_size _ _), trivial, fun b m => absurd m (List.not_mem_nil), hok, .of_eq ng⟩
  refine codeAny_mono ((F _ kb (space gl)).run callerA [] t H ⟨[.ref sc], []⟩ [.ref sc] [.ref sc] _ _ rfl hr env (hb t (.ref sc) KX) (.cons rfl .nil) hsp) fun r s' h => ?_
  match r, h with
  | .error e, h =>
    obtain ⟨_, _, _, _, _, _, _, _, _, _, _, _, z⟩ := h
    exact z.elim
  | .ok .next, h => exact h.elim
  | .ok .brk, h => exact h.elim
  | .ok .cont, h => exact h.elim
  | .ok (.ret u), h =>
    obtain ⟨v, H', os, bare, un, hok', rv, q⟩ := h
    obtain rfl : v = .bl true := q
    obtain rfl : u = Value.bool true := rv
    refine ⟨rfl, OldK.of_keep fun b o e => ?_, os, bare⟩
    cases q : H b with
    | none => exact un.keep b o e q (fun z => absurd z List.not_mem_nil) (by simp)
    | some u =>
      rcases only b with z | ⟨ob, xs, z⟩
      · rw [q] at z
        cases z
      · obtain ⟨e1, _⟩ := hok b _ z
        obtain ⟨e2, _⟩ := hok' b _ (un.frzs b ob _ z)
        rw [e] at e1
        cases e1
        exact e2
theorem law_callG (KX : K.In t.heap) (gl : t.heap.Ns mainGlobals mg) (bl : t.heap.Ns builtinsNs mb) (bb : ∀ y : Str, y ≠ "__name__" → mb y = bootBuiltins y) (nl : t.heap.NoLimit) (ng : t.gens = #[]) (ha : t.heap.get? sc = some { cls := .type "list", data := .seq vs.toArray }) (hi : IntsAre vs ns) (hl : ns.length ≤ sizeLine)
    (hr : Room k callerA) (F : ∀ base : Heap, K.In base → base.Ns mainGlobals mg → FnG P w K mg base k fl fd [x] sp) (hb : ∀ (s : Shared) (u : Value), K.In s.heap → BindsTo s fd ⟨[u], []⟩ [(x, u)]) (hsp : ∀ H : Hp, Only H → SqL K H sc (ns.map V.int) → sp [.ref sc] H (fun v _ => v = .bl true) fun _ _ _ => False) :
    codeAny (model P w) callerA (.call (.ref fl) ⟨[.ref sc], []⟩) (fun r s' => r = .ok (.ret (.bool true)) ∧ OldK t.heap s'.heap ∧ s'.os = t.os ∧ AllBare s'.gens) t := by
  have rv := vals_ints hi
  cases hk : K.lookup sc with
  | some o =>
    have e := KX sc o hk
    rw [ha] at e
    cases e
    have only : Only fun _ => none := fun _ => .inl rfl
    refine callG_core KX gl bl bb nl ng ha hr F hb only (hsp _ only (.inr ⟨_, vs.toArray, _, hk, rfl, rfl, rfl, ?_, by simpa using rv⟩)) (fun b u z => nomatch z) (fun b z => absurd rfl z) fun z => absurd rfl z
    rw [List.size_toArray, hi.length]
    exact hl
  | none =>
    let H : Hp := fun b => if b = sc then some (.frz { cls := .type "list", data := .seq vs.toArray } (.lst (ns.map V.int))) else none
    have at_ : H sc = some (.frz { cls := .type "list", data := .seq vs.toArray } (.lst (ns.map V.int))) := if_pos rfl
    have off : ∀ b, b ≠ sc → H b = none := fun b hb => if_neg hb
    have only : Only H := fun b => by
      by_cases e : b = sc
      · subst e; exact .inr ⟨_, _, at_⟩
      · exact .inl (off b e)
    refine callG_core KX gl bl bb nl ng ha hr F hb only (hsp H only (.inl (.inr ⟨_, at_⟩))) (fun b u z => ?_) (fun b z => ?_) fun _ => hk
    · by_cases e : b = sc
      · subst e
        rw [at_] at z
        cases z
        exact ⟨ha, by rw [List.length_map]; exact hl, vs, _, rv, ha⟩
      · rw [off b e] at z
        cases z
    · by_cases e : b = sc
      · exact e
      · exact absurd (off b e) z
end
/-- a law: F gives the written part, the function object, the promise over every base -/
theorem walk_ofG {l : PySem.W.OpenLaw} {n k : Nat} {q : Program} {loose : List Str} {XP : (Str → Option Value) → Heap → Prop} {YP : World → Heap → Prop} {d : DefRec} {x : Str} (hn : l.most = some n) (hn2 : n ≤ sizeLine) (hdf : d.params.defaults = []) (hr : Room k callerA)
    (F : ∀ (w : World) (mg : Str → Option Value) (fl : Addr) (h : Heap), YP w h → h.Ns mainGlobals mg → mg d.name = some (.ref fl) → ∃ (K : PySem.W.Frag) (fd : FuncData) (sp : Sp), K.In h ∧ (∀ (s : Shared) (u : Value), K.In s.heap → BindsTo s fd ⟨[u], []⟩ [(x, u)]) ∧
      (∀ (H : Hp) (a : Addr) (ns : List Int), ns.length ≤ n → Only H → SqL K H a (ns.map V.int) → sp [.ref a] H (fun v _ => v = .bl true) fun _ _ _ => False) ∧ ∀ base : Heap, K.In base → base.Ns mainGlobals mg → FnG l.prog w K mg base k fl fd [x] sp) :
    PySem.W.WalkO q loose XP YP l.row.toRowW d [] (fun f vs => PySem.call f vs) := by
  refine Att.attach_call hn hdf fun w s₀ s₁ mg mb fl o pm cd doc a vs ns G Y ho hd hcd hmg hobj hints hlen hg => ?_
  obtain ⟨K, fd, sp, KX, hb, hsp, hF⟩ := F w mg fl _ Y G.T.g hmg
  exact law_callG KX G.T.g G.T.b G.T.builtins G.T.nolimit hg hobj hints (Nat.le_trans hlen hn2) hr hF hb fun H hO hS => hsp H a ns hlen hO hS
end Z
set_option linter.all false
set_option Elab.async false
set_option maxRecDepth 100000
/-! Z38: a table's world, from what the head tells. -/
namespace Z
open PySem PySem.Spec PyProof.Rows L2
def mkD (nm : Str) (st : Stmt) : He.DefD := ⟨(nm, none), nm, nm, defArgs st, defBody st, defScope st, [], []⟩
/-- one def of the text -/
structure Df where
  nm : Str
  st : Stmt
  N : List Str
  ps : List Str
structure DfOk (S : Ws) (f : Nat) (d : Df) (fd : Fd) : Prop where
  tab : S.T.fns[f]? = some fd
  sc : FnScope d.N d.ps (defScope d.st)
  chk : chkSs S d.N (defScope d.st) fd.body (defBody d.st) = true
  ns : d.N.length = fd.ns
  np : d.ps.length = fd.np
  bd : ∀ (kV doc pm : Value) (an : Option Addr) (cdv ct : Value) (us : List Value), us.length = d.ps.length → bindArgs (PySem.W.fnOf d.nm d.nm (defArgs d.st) (defBody d.st) (defScope d.st) .none kV doc pm an cdv ct) ⟨us, []⟩ = pure (d.ps.zip us)
structure Dat where
  S : Ws
  df : List (Option Df)
def Dat.defs (D : Dat) : List He.DefD := D.df.filterMap fun o => o.map fun d => mkD d.nm d.st
structure DatOk (D : Dat) : Prop where
  fn : D.S.fn = D.df.map fun o => (o.map Df.nm).getD ""
  df : ∀ (f : Nat) (d : Df), D.df[f]? = some (some d) → ∃ fd, DfOk D.S f d fd
  self : (D.S.T.cls.zipIdx.all fun q => q.1.up.isEmpty || q.1.up.contains q.2) = true
  up : (D.S.T.cls.all fun cl => cl.up.all fun j => decide (j < D.S.cn.length)) = true
def fdAt (K : PySem.W.Frag) (a : Addr) : FuncData := match K.lookup a with
  | some ⟨_, _, .func fd, _⟩ => fd
  | _ => ⟨"", "", default, .stmts [], default, 0, [], .none, .none, .none, .none, none, .none, .none, 0⟩
def mkO (D : Dat) (K : PySem.W.Frag) : Wo where
  toWs := D.S
  fa := fun f => He.fAd K (D.S.fn.getD f "", none)
  fd := fun f => fdAt K (He.fAd K (D.S.fn.getD f "", none))
  ps := fun f => match D.df.getD f none with
    | some d => d.ps
    | none => []
  ca := fun k => He.ga K (D.S.cn.getD k "")
/-- what isinstance, raise and except ask of a class -/
def exiB (K : PySem.W.Frag) (ca : Nat → Addr) (m k : Nat) (cl : Cls) : Bool :=
  (PySem.W.clsIn K (ca k)).isSome && (decide (PySem.W.findIn K (.ref (ca k)) "__getattribute__" = some (some (.builtin "BaseException.__getattribute__"))) && (decide (PySem.W.findIn K (.ref (ca k)) "__getattr__" = some none) && (decide (PySem.W.subIn K (.ref (ca k)) (.type "BaseException") = some true) &&
  (decide (PySem.W.findIn K (.ref (ca k)) "__class__" = some (some (.builtin "object.__class__"))) && (decide (PySem.W.specialIn K (.builtin "object.__class__") "__get__" = some (some (.builtin "getset_descriptor.__get__"))) && (decide (PySem.W.takesIn K (.builtin "object.__class__") = some true) &&
  (decide (PySem.W.mroIn K (ca k) (.type "object") = some true) && (((List.range m).all fun j => decide (PySem.W.kitOne K (.ref (ca k)) (.ref (ca j)) = some (cl.up.contains j))) && (decide (PySem.W.kitOne K (.ref (ca k)) (.type "ValueError") = some true) && (PySem.W.keepIn K (.ref (ca k)) &&
  (decide (PySem.W.typeIn K (.ref (ca k)) = some (.type "type")) && ((!cl.fields.isEmpty || PySem.W.excIn K (ca k) bmVE "ValueError.__new__") && (List.range m).all fun j => !cl.up.contains j || decide (PySem.W.exmOne K (.ref (ca k)) (.ref (ca j)) = some true)))))))))))))
def globB (K : PySem.W.Frag) (p : Str × PyData) : Bool := match p.2 with
  | .int i => (He.Fa.int p.1 i).ok K
  | .str z => (He.Fa.str p.1 z).ok K
  | _ => false
def worldB (S : Ws) (K : PySem.W.Frag) : Bool :=
  (bltN.all fun x => (He.Fa.free x).ok K) && ((S.fn.all fun x => decide (x = "") || (He.Fa.glo x).ok K) && ((S.cn.all fun x => (He.Fa.glo x).ok K) && ((S.globs.all (globB K)) &&
    (S.T.cls.zipIdx.all fun q => !q.1.up.contains q.2 || exiB K (fun k => He.ga K (S.cn.getD k "")) S.cn.length q.2 q.1))))
section
variable {D : Dat} {K : PySem.W.Frag} {h : Heap} {mg : Str → Option Value}
theorem getD_of {α : Type} {l : List α} {i : Nat} {x d : α} (e : l[i]? = some x) : l.getD i d = x := by
  rw [List.getD_eq_getElem?_getD, e]
  rfl
theorem wf_of (ok : DatOk D) (X : K.In h) (G : h.Ns mainGlobals mg) (c : He.SaysD [] D.defs K) (m : worldB D.S K = true) : Wf (mkO D K) K mg := by
  simp only [worldB, Bool.and_eq_true, List.all_eq_true] at m
  obtain ⟨m1, m2, m3, m4, m5⟩ := m
  have cl_at : ∀ (k : Nat) (cl : Cls), D.S.T.cls[k]? = some cl → cl.up.contains k = true → exiB K (fun k => He.ga K (D.S.cn.getD k "")) D.S.cn.length k cl = true := fun k cl e u => by
    have := m5 (cl, k) (List.mem_zipIdx_iff_getElem?.mpr e)
    rw [Bool.or_eq_true] at this
    rcases this with z | z
    · have z : (!cl.up.contains k) = true := z
      rw [u] at z
      cases z
    · exact z
  refine {
    fnd := fun f nm e ne => ?_
    globs := fun p hp => ?_
    blt := fun x hx => He.free_ok X G (m1 x hx)
    cls := fun k nm e => ?_
    exi := fun k cl e u => ?_
    xkp := fun k cl e u => ?_
    xex := fun k cl e u hf => ?_
    xm := fun x k cl e u => ?_ }
  · have e' : D.S.fn[f]? = some nm := e
    have gl := m2 nm (List.mem_of_getElem? e')
    have gl : (He.Fa.glo nm).ok K = true := by simpa [ne] using gl
    have ed : ∃ d, D.df[f]? = some (some d) ∧ d.nm = nm := by
      have e2 := e'
      rw [ok.fn, List.getElem?_map] at e2
      obtain ⟨o, h1, h2⟩ := Option.map_eq_some_iff.mp e2
      cases o with
      | none => exact absurd h2.symm ne
      | some d => exact ⟨d, h1, h2⟩
    obtain ⟨d, h1, rfl⟩ := ed
    obtain ⟨fd, q⟩ := ok.df f d h1
    have hmem : mkD d.nm d.st ∈ D.defs := List.mem_filterMap.mpr ⟨some d, List.mem_of_getElem? h1, rfl⟩
    obtain ⟨fd', FD⟩ := c.defs hmem
    have FD : FunD K d.nm d.nm (defArgs d.st) (defBody d.st) (defScope d.st) [] [] (He.fAd K (d.nm, none)) fd' := FD
    have ha : (mkO D K).fa f = He.fAd K (d.nm, none) := by
      show He.fAd K (D.S.fn.getD f "", none) = _
      rw [getD_of e']
    have hfd : (mkO D K).fd f = fd' := by
      show fdAt K (He.fAd K (D.S.fn.getD f "", none)) = _
      rw [getD_of e']
      obtain ⟨oc, od, dV, kV, doc, pm, an, cdv, ct, osl, _, lk, _⟩ := FD.ex
      unfold fdAt
      rw [lk]
    have hps : (mkO D K).ps f = d.ps := by
      show (match D.df.getD f none with
        | some d => d.ps
        | none => []) = d.ps
      rw [getD_of h1]
    refine ⟨fd, d.N, defArgs d.st, defBody d.st, defScope d.st, q.tab, ?_, ?_, q.chk, q.ns, ?_, ?_, ?_⟩
    · rw [ha, hfd]; exact FD
    · rw [hps]; exact q.sc
    · rw [hps]; exact q.np
    · rw [ha]; exact He.glo_ok X G gl
    · rw [hfd, hps]; exact FD.bindsN q.bd
  · have := m4 p hp
    obtain ⟨x, v⟩ := p
    cases v <;> simp only [globB] at this <;> first | (cases this; done) | skip
    · obtain ⟨t, e⟩ := He.int_ok X G this
      exact ⟨_, .int _, e, ⟨t, rfl⟩, fun F => .int _⟩
    · obtain ⟨t, e⟩ := He.str_ok X G this
      exact ⟨_, .str _, e, ⟨t, rfl⟩, fun F => .str _⟩
  · have e' : D.S.cn[k]? = some nm := e
    have q := He.glo_ok X G (m3 nm (List.mem_of_getElem? e'))
    show mg nm = some (.ref (He.ga K (D.S.cn.getD k "")))
    rw [getD_of e']
    exact q
  · have q := cl_at k cl e u
    simp only [exiB, Bool.and_eq_true, decide_eq_true_eq, List.all_eq_true, List.mem_range] at q
    obtain ⟨q1, q2, q3, q4, q5, q6, q7, q8, q9, q10, _⟩ := q
    exact ⟨q1, q2, q3, q4, q5, q6, q7, q8, fun j hj => q9 j hj, q10⟩
  · have q := cl_at k cl e u
    simp only [exiB, Bool.and_eq_true, decide_eq_true_eq] at q
    obtain ⟨_, _, _, _, _, _, _, _, _, _, q1, q2, _⟩ := q
    exact ⟨q1, q2⟩
  · have q := cl_at k cl e u
    simp only [exiB, Bool.and_eq_true, decide_eq_true_eq] at q
    obtain ⟨_, _, _, _, _, _, _, _, _, _, _, _, q, _⟩ := q
    rw [Bool.or_eq_true] at q
    rcases q with z | z
    · rw [hf] at z
      cases z
    · exact z
  · have q := cl_at x cl e (by
      have := List.all_eq_true.mp ok.self (cl, x) (List.mem_zipIdx_iff_getElem?.mpr e)
      rw [Bool.or_eq_true] at this
      rcases this with z | z
      · rw [List.isEmpty_iff] at z
        have z : cl.up = [] := z
        rw [z] at u
        cases u
      · exact z)
    simp only [exiB, Bool.and_eq_true, decide_eq_true_eq, List.all_eq_true, List.mem_range] at q
    obtain ⟨_, _, _, _, _, _, _, _, _, _, _, _, _, q⟩ := q
    have hk : k < D.S.cn.length := by
      have := List.all_eq_true.mp ok.up cl (List.mem_of_getElem? e)
      have := List.all_eq_true.mp this k (by simpa using u)
      simpa using this
    have := q k hk
    rw [Bool.or_eq_true] at this
    rcases this with z | z
    · rw [u] at z
      cases z
    · exact of_decide_eq_true z
end
end Z
set_option linter.all false
set_option Elab.async false
set_option maxRecDepth 100000
/-! Z39: a law from its table. -/
namespace Z
open PySem PySem.Spec PyProof.Rows L2
theorem ints_frs {K : PySem.W.Frag} {F : Hp} : ∀ ns : List Int, FRs K F (ns.map V.int) (ns.map PyData.int)
  | [] => .nil
  | n :: ns => .cons (.int n) (ints_frs ns)
theorem law_walk {l : PySem.W.OpenLaw} {k f : Nat} {D : Dat} {q : Program} {loose : List Str} {XP : (Str → Option Value) → Heap → Prop} {d : DefRec} {x : Str} {df : Df} (ok : DatOk D) (hn : l.most = some 63) (hdf : d.params.defaults = []) (hr : Room k callerA) (hd : d.name = ("law" : Str)) (hf : D.df[f]? = some (some df)) (hnm : df.nm = "law") (hps : df.ps = [x])
    (pure : ∀ ns : List Int, ns.length ≤ 63 → ∃ fin, callF D.S.T k f [.d (.list (ns.map .int))] = .ok (.d (.bool true)) fin) :
    PySem.W.WalkO q loose XP (fun w h => ∃ K : PySem.W.Frag, K.In h ∧ He.SaysX [] D.defs [] [] (worldB D.S) w h K) l.row.toRowW d [] (fun f vs => PySem.call f vs) := by
  refine walk_ofG (n := 63) (k := k) (x := x) hn (by rw [sizeLine_eq]; decide) hdf hr fun w mg fl h Y G hmg0 => ?_
  obtain ⟨K, KX, c⟩ := Y
  have hmg : mg ("law" : Str) = some (.ref fl) := by rw [← hd]; exact hmg0
  have W := wf_of ok KX G c.t.d c.more
  have hfn : (mkO D K).fn[f]? = some ("law" : Str) := by
    show D.S.fn[f]? = _
    rw [ok.fn, List.getElem?_map, hf]
    show some df.nm = _
    rw [hnm]
  obtain ⟨_, _, _, _, _, _, _, _, _, _, _, g, bd⟩ := W.fnd f "law" hfn (by decide)
  have e := hmg.symm.trans g
  cases e
  have ps : (mkO D K).ps f = [x] := by
    show (match D.df.getD f none with
      | some d => d.ps
      | none => []) = _
    rw [getD_of hf]
    exact hps
  refine ⟨K, (mkO D K).fd f, spF (mkO D K) k f K, KX, fun s u kin => ?_, fun H a ns hl _ sq => ?_, fun base kb gb => ?_⟩
  · have := bd s [u] kin (by rw [ps]; rfl)
    rw [ps] at this
    exact this
  · obtain ⟨fin, hp⟩ := pure ns hl
    refine ⟨H, [.d (.list (ns.map .int))], [], ⟨Same.refl _, List.nodup_nil, fun _ m => nomatch m⟩, .cons (f := []) (.d (.lst sq (ints_frs ns))) .nil, by rw [ps]; rfl, ?_⟩
    show (match callF D.S.T k f [.d (.list (ns.map .int))] with
      | .ok r fin => _
      | .exc x fin => _
      | .bad => False)
    rw [hp]
    intro F' H' v g gf _ _ cr _
    cases cr with
    | d fr => cases fr; rfl
  · have := fnG_all (P := l.prog) (w := w) (base := base) W k f "law" hfn (by decide)
    rw [ps] at this
    exact this
end Z
set_option linter.all false
namespace T_k05
open PySem Z
/-- runs_of(rows): rows 0, wide 1, found 2, r 3, row 4, c 5, run 6 -/
def fd_runs_of : Fd := ⟨1, [], 7, [(.assign 1 (.bi .len [(.sub (.var 0) (.lit (.int 0)))])), (.assign 2 (.lst [])), (.for (.tup [(.nm 3), (.nm 4)]) .enum [(.var 0)] [(.for (.nm 5) .range [(.var 1)] [(.iff (.o2 .eq (.sub (.var 4) (.var 5)) (.glob "DARK" (.str "X"))) [.cont] []), (.iff (.or [(.o2 .eq (.var 5) (.lit (.int 0))), (.o2 .eq (.sub (.var 4) (.o2 .sub (.var 5) (.lit (.int 1)))) (.glob "DARK" (.str "X")))]) [(.ex (.meth .append (.var 2) [(.call 1 [(.var 0), (.var 3), (.var 5), (.lit (.int 0)), (.lit (.int 1))])]))] []), (.iff (.or [(.o2 .eq (.var 3) (.lit (.int 0))), (.o2 .eq (.sub (.sub (.var 0) (.o2 .sub (.var 3) (.lit (.int 1)))) (.var 5)) (.glob "DARK" (.str "X")))]) [(.ex (.meth .append (.var 2) [(.call 1 [(.var 0), (.var 3), (.var 5), (.lit (.int 1)), (.lit (.int 0))])]))] [])])]), (.ret (.comp (.var 6) (.nm 6) .pl [(.var 2)] [(.o2 .gt (.bi .len [(.var 6)]) (.lit (.int 1)))] [6]))]⟩
/-- run_from(rows, r, c, down, across): rows 0, r 1, c 2, down 3, across 4, wide 5, found 6 -/
def fd_run_from : Fd := ⟨5, [], 7, [(.assign 5 (.bi .len [(.sub (.var 0) (.lit (.int 0)))])), (.assign 6 (.lst [])), (.while (.and [(.o2 .lt (.var 1) (.bi .len [(.var 0)])), (.o2 .lt (.var 2) (.var 5)), (.o2 .ne (.sub (.sub (.var 0) (.var 1)) (.var 2)) (.glob "DARK" (.str "X")))]) [(.ex (.meth .append (.var 6) [(.o2 .add (.o2 .mul (.var 1) (.var 5)) (.var 2))])), (.assign 1 (.o2 .add (.var 1) (.var 3))), (.assign 2 (.o2 .add (.var 2) (.var 4)))]), (.ret (.bi .tuple [(.var 6)]))]⟩
/-- turned_faults(rows): rows 0, wide 1, found 2, r 3, row 4, c 5, other 6 -/
def fd_turned_faults : Fd := ⟨1, [], 7, [(.assign 1 (.bi .len [(.sub (.var 0) (.lit (.int 0)))])), (.assign 2 (.lst [])), (.for (.tup [(.nm 3), (.nm 4)]) .enum [(.var 0)] [(.for (.nm 5) .range [(.var 1)] [(.assign 6 (.sub (.sub (.var 0) (.o2 .sub (.o2 .sub (.bi .len [(.var 0)]) (.lit (.int 1))) (.var 3))) (.o2 .sub (.o2 .sub (.var 1) (.lit (.int 1))) (.var 5)))), (.iff (.o2 .ne (.o2 .eq (.sub (.var 4) (.var 5)) (.glob "DARK" (.str "X"))) (.o2 .eq (.var 6) (.glob "DARK" (.str "X")))) [(.ex (.meth .append (.var 2) [(.tup [(.lit (.str "turned")), (.var 3), (.var 5)])]))] [])])]), (.ret (.var 2))]⟩
/-- near_cells(rows, cell): rows 0, cell 1, wide 2, r 3, c 4, found 5, one 6, other 7 -/
def fd_near_cells : Fd := ⟨2, [], 8, [(.assign 2 (.bi .len [(.sub (.var 0) (.lit (.int 0)))])), (.par [3, 4] [(.o2 .fdiv (.var 1) (.var 2)), (.o2 .mod (.var 1) (.var 2))]), (.assign 5 (.lst [])), (.for (.tup [(.nm 6), (.nm 7)]) .pl [(.tup [(.tup [(.o2 .sub (.var 3) (.lit (.int 1))), (.var 4)]), (.tup [(.var 3), (.o2 .sub (.var 4) (.lit (.int 1)))]), (.tup [(.var 3), (.o2 .add (.var 4) (.lit (.int 1)))]), (.tup [(.o2 .add (.var 3) (.lit (.int 1))), (.var 4)])])] [(.iff (.and [(.chain .le .lt (.lit (.int 0)) (.var 6) (.bi .len [(.var 0)])), (.chain .le .lt (.lit (.int 0)) (.var 7) (.var 2)), (.o2 .ne (.sub (.sub (.var 0) (.var 6)) (.var 7)) (.glob "DARK" (.str "X")))]) [(.ex (.meth .append (.var 5) [(.o2 .add (.o2 .mul (.var 6) (.var 2)) (.var 7))]))] [])]), (.ret (.var 5))]⟩
/-- apart_faults(rows): rows 0, wide 1, light 2, seen 3, pile 4, cell 5 -/
def fd_apart_faults : Fd := ⟨1, [], 6, [(.assign 1 (.bi .len [(.sub (.var 0) (.lit (.int 0)))])), (.assign 2 (.comp (.var 5) (.nm 5) .range [(.o2 .mul (.bi .len [(.var 0)]) (.var 1))] [(.o2 .ne (.sub (.sub (.var 0) (.o2 .fdiv (.var 5) (.var 1))) (.o2 .mod (.var 5) (.var 1))) (.glob "DARK" (.str "X")))] [5])), (.assign 3 (.dict [] [])), (.assign 4 (.slc (.var 2) none (some (.lit (.int 1))))), (.while (.o2 .ne (.var 4) (.lst [])) [(.assign 5 (.meth .pop (.var 4) [])), (.iff (.o2 .notin (.var 5) (.var 3)) [(.setIx (.var 3) (.var 5) (.lit (.bool true))), (.ex (.meth .extend (.var 4) [(.call 3 [(.var 0), (.var 5)])]))] [])]), (.ret (.comp (.tup [(.lit (.str "apart")), (.o2 .fdiv (.var 5) (.var 1)), (.o2 .mod (.var 5) (.var 1))]) (.nm 5) .pl [(.var 2)] [(.o2 .notin (.var 5) (.var 3))] [5]))]⟩
/-- short_faults(rows, shortest): rows 0, shortest 1, wide 2, found 3, run 4, way 5 -/
def fd_short_faults : Fd := ⟨2, [], 6, [(.assign 2 (.bi .len [(.sub (.var 0) (.lit (.int 0)))])), (.assign 3 (.lst [])), (.for (.nm 4) .pl [(.call 0 [(.var 0)])] [(.iff (.o2 .lt (.bi .len [(.var 4)]) (.var 1)) [(.assign 5 (.ite (.and [(.o2 .eq (.sub (.var 4) (.lit (.int 1))) (.o2 .add (.sub (.var 4) (.lit (.int 0))) (.lit (.int 1)))), (.o2 .eq (.o2 .fdiv (.sub (.var 4) (.lit (.int 0))) (.var 2)) (.o2 .fdiv (.sub (.var 4) (.lit (.int 1))) (.var 2)))]) (.lit (.str "across")) (.lit (.str "down")))), (.ex (.meth .append (.var 3) [(.tup [(.lit (.str "short")), (.var 5), (.o2 .fdiv (.sub (.var 4) (.lit (.int 0))) (.var 2)), (.o2 .mod (.sub (.var 4) (.lit (.int 0))) (.var 2))])]))] [])]), (.ret (.var 3))]⟩
/-- faults_of(square): square 0, rows 1, shortest 2, words 3 -/
def fd_faults_of : Fd := ⟨1, [], 4, [(.unpack (.tup [(.nm 1), (.nm 2), (.nm 3)]) (.var 0)), (.ret (.bi .tuple [(.o2 .add (.o2 .add (.call 2 [(.var 1)]) (.call 4 [(.var 1)])) (.call 5 [(.var 1), (.var 2)]))]))]⟩
/-- _law_take(_law_draw, _law_many): _law_draw 0, _law_many 1, _law_script 2, _law_found 3, _law_k 4, _law_cell 5, _law_number 6 -/
def fd__law_take : Fd := ⟨2, [0], 7, [(.assign 2 (.sub (.var 0) (.lit (.int 0)))), (.iff (.and [(.o2 .ne (.var 2) (.lst [])), (.o2 .eq (.o2 .mod (.sub (.var 2) (.lit (.int 0))) (.lit (.int 2))) (.lit (.int 1)))]) [(.iff (.o2 .eq (.sub (.var 0) (.lit (.int 3))) (.lit (.int 0))) [(.setIx (.var 0) (.lit (.int 1)) (.o2 .add (.sub (.var 0) (.lit (.int 1))) (.lit (.int 1)))), (.setIx (.var 0) (.lit (.int 2)) (.lit (.int 0))), (.iff (.o2 .lt (.sub (.var 0) (.lit (.int 1))) (.bi .len [(.var 2)])) [(.setIx (.var 0) (.lit (.int 2)) (.bi .abs [(.sub (.var 2) (.sub (.var 0) (.lit (.int 1))))]))] []), (.setIx (.var 0) (.lit (.int 3)) (.lit (.int 60)))] []), (.assign 3 (.o2 .mod (.sub (.var 0) (.lit (.int 2))) (.var 1))), (.setIx (.var 0) (.lit (.int 2)) (.o2 .fdiv (.sub (.var 0) (.lit (.int 2))) (.var 1))), (.setIx (.var 0) (.lit (.int 3)) (.o2 .sub (.sub (.var 0) (.lit (.int 3))) (.lit (.int 1)))), (.ret (.var 3))] []), (.setIx (.var 0) (.lit (.int 1)) (.o2 .add (.sub (.var 0) (.lit (.int 1))) (.lit (.int 1)))), (.assign 4 (.sub (.var 0) (.lit (.int 1)))), (.assign 5 (.lit (.int 17))), (.iff (.o2 .ne (.var 2) (.lst [])) [(.assign 5 (.o2 .mod (.sub (.var 2) (.o2 .mod (.var 4) (.bi .len [(.var 2)]))) (.lit (.int 2147483647))))] []), (.assign 6 (.o2 .mod (.o2 .mul (.o2 .add (.o2 .add (.var 5) (.o2 .mul (.o2 .mul (.lit (.int 7919)) (.var 4)) (.var 4))) (.o2 .mul (.lit (.int 31)) (.var 4))) (.lit (.int 48271))) (.lit (.int 2147483647)))), (.assign 6 (.o2 .mod (.o2 .mul (.o2 .fdiv (.o2 .mod (.o2 .mul (.var 6) (.lit (.int 69621))) (.lit (.int 2147483629))) (.lit (.int 64))) (.lit (.int 16807))) (.lit (.int 2147483629)))), (.ret (.o2 .mod (.o2 .fdiv (.var 6) (.lit (.int 32))) (.var 1)))]⟩
/-- _law_letters(_law_draw, _law_many): _law_draw 0, _law_many 1, _law_letters_here 2, _law_few 3, _law_k 4 -/
def fd__law_letters : Fd := ⟨2, [0], 5, [(.assign 2 (.lit (.str "abcdefghijklmnopqrstuvwxyz"))), (.assign 3 (.call 7 [(.var 0), (.lit (.int 3))])), (.ret (.meth .join (.lit (.str "")) [(.comp (.sub (.var 2) (.call 7 [(.var 0), (.sub (.lst [(.lit (.int 26)), (.lit (.int 3)), (.lit (.int 2))]) (.var 3))])) (.nm 4) .range [(.var 1)] [] [4])]))]⟩
/-- _law_cells(_law_draw, _law_high, _law_wide): _law_draw 0, _law_high 1, _law_wide 2, _law_often 3, _law_rows 4, _law_turned 5, _law_r 6, _law_c 7, _law_row 8 -/
def fd__law_cells : Fd := ⟨3, [0], 9, [(.assign 3 (.sub (.lst [(.lit (.int 1)), (.lit (.int 4)), (.lit (.int 9)), (.lit (.int 30))]) (.call 7 [(.var 0), (.lit (.int 4))]))), (.assign 4 (.comp (.keep (.o2 .mul (.lst [(.lit (.str "."))]) (.var 2))) (.nm 6) .range [(.var 1)] [] [6])), (.assign 5 (.call 7 [(.var 0), (.lit (.int 4))])), (.for (.nm 6) .range [(.var 1)] [(.for (.nm 7) .range [(.var 2)] [(.iff (.and [(.o2 .eq (.call 7 [(.var 0), (.o2 .add (.var 3) (.lit (.int 3)))]) (.o2 .add (.var 3) (.lit (.int 2)))), (.o2 .eq (.sub (.sub (.var 4) (.var 6)) (.var 7)) (.lit (.str ".")))]) [(.setIx (.sub (.var 4) (.var 6)) (.var 7) (.lit (.str "X"))), (.iff (.o2 .gt (.var 5) (.lit (.int 0))) [(.setIx (.sub (.var 4) (.o2 .sub (.o2 .sub (.var 1) (.lit (.int 1))) (.var 6))) (.o2 .sub (.o2 .sub (.var 2) (.lit (.int 1))) (.var 7)) (.lit (.str "X")))] [])] [(.iff (.and [(.o2 .eq (.sub (.sub (.var 4) (.var 6)) (.var 7)) (.lit (.str "."))), (.o2 .eq (.call 7 [(.var 0), (.lit (.int 12))]) (.lit (.int 11)))]) [(.setIx (.sub (.var 4) (.var 6)) (.var 7) (.call 8 [(.var 0), (.lit (.int 1))]))] [])])])]), (.ret (.bi .tuple [(.comp (.meth .join (.lit (.str "")) [(.var 8)]) (.nm 8) .pl [(.fz (.var 4))] [] [8])]))]⟩
/-- _law_words(_law_draw, _law_many): _law_draw 0, _law_many 1, _law_found 2, _law_k 3, _law_word 4, _law_worth 5, _law_one 6 -/
def fd__law_words : Fd := ⟨2, [0], 7, [(.assign 2 (.lst [])), (.for (.nm 3) .range [(.var 1)] [(.assign 4 (.call 8 [(.var 0), (.o2 .add (.lit (.int 2)) (.call 7 [(.var 0), (.lit (.int 7))]))])), (.assign 5 (.sub (.lst [(.lit (.int 0)), (.call 7 [(.var 0), (.lit (.int 9))]), (.lit (.int 1000)), (.call 7 [(.var 0), (.lit (.int 1001))])]) (.call 7 [(.var 0), (.lit (.int 4))]))), (.iff (.o2 .notin (.var 4) (.comp (.sub (.var 6) (.lit (.int 0))) (.nm 6) .pl [(.var 2)] [] [6])) [(.ex (.meth .append (.var 2) [(.tup [(.var 4), (.var 5)])]))] [])]), (.ret (.bi .tuple [(.var 2)]))]⟩
/-- _law_square(_law_draw, _law_most): _law_draw 0, _law_most 1, _law_high 2, _law_wide 3, _law_shortest 4, _law_cells_here 5 -/
def fd__law_square : Fd := ⟨2, [0], 6, [(.par [2, 3] [(.o2 .add (.lit (.int 1)) (.call 7 [(.var 0), (.lit (.int 8))])), (.o2 .add (.lit (.int 1)) (.call 7 [(.var 0), (.lit (.int 8))]))]), (.assign 4 (.o2 .add (.lit (.int 2)) (.call 7 [(.var 0), (.lit (.int 4))]))), (.assign 5 (.call 9 [(.var 0), (.var 2), (.var 3)])), (.ret (.tup [(.var 5), (.var 4), (.call 10 [(.var 0), (.call 7 [(.var 0), (.o2 .add (.var 1) (.lit (.int 1)))])])]))]⟩
/-- _law_light(_law_rows, _law_r, _law_c): _law_rows 0, _law_r 1, _law_c 2 -/
def fd__law_light : Fd := ⟨3, [], 3, [(.ret (.and [(.chain .le .lt (.lit (.int 0)) (.var 1) (.bi .len [(.var 0)])), (.chain .le .lt (.lit (.int 0)) (.var 2) (.bi .len [(.sub (.var 0) (.lit (.int 0)))])), (.o2 .ne (.sub (.sub (.var 0) (.var 1)) (.var 2)) (.lit (.str "X")))]))]⟩
/-- _law_runs(_law_rows): _law_rows 0, _law_found 1, _law_r 2, _law_c 3, _law_way 4, _law_down 5, _law_across 6, _law_size 7, _law_cells_here 8, _law_k 9 -/
def fd__law_runs : Fd := ⟨1, [], 10, [(.assign 1 (.lst [])), (.for (.nm 2) .range [(.bi .len [(.var 0)])] [(.for (.nm 3) .range [(.bi .len [(.sub (.var 0) (.lit (.int 0)))])] [(.for (.tup [(.nm 4), (.nm 5), (.nm 6)]) .pl [(.tup [(.tup [(.lit (.str "across")), (.lit (.int 0)), (.lit (.int 1))]), (.tup [(.lit (.str "down")), (.lit (.int 1)), (.lit (.int 0))])])] [(.iff (.or [(.not (.call 12 [(.var 0), (.var 2), (.var 3)])), (.call 12 [(.var 0), (.o2 .sub (.var 2) (.var 5)), (.o2 .sub (.var 3) (.var 6))])]) [.cont] []), (.assign 7 (.lit (.int 1))), (.while (.call 12 [(.var 0), (.o2 .add (.var 2) (.o2 .mul (.var 7) (.var 5))), (.o2 .add (.var 3) (.o2 .mul (.var 7) (.var 6)))]) [(.assign 7 (.o2 .add (.var 7) (.lit (.int 1))))]), (.assign 8 (.comp (.o2 .add (.o2 .add (.o2 .mul (.o2 .add (.var 2) (.o2 .mul (.var 9) (.var 5))) (.bi .len [(.sub (.var 0) (.lit (.int 0)))])) (.var 3)) (.o2 .mul (.var 9) (.var 6))) (.nm 9) .range [(.var 7)] [] [9])), (.iff (.o2 .gt (.var 7) (.lit (.int 1))) [(.ex (.meth .append (.var 1) [(.tup [(.var 4), (.bi .tuple [(.var 8)])])]))] [])])])]), (.ret (.var 1))]⟩
/-- _law_apart(_law_rows): _law_rows 0, _law_light_here 1, _law_r 2, _law_reached 3, _law_turn 4, _law_c 5, _law_beside 6, _law_one 7 -/
def fd__law_apart : Fd := ⟨1, [], 8, [(.assign 1 (.lst [])), (.for (.nm 2) .range [(.bi .len [(.var 0)])] [(.assign 1 (.o2 .add (.var 1) (.comp (.tup [(.var 2), (.var 5)]) (.nm 5) .range [(.bi .len [(.sub (.var 0) (.lit (.int 0)))])] [(.o2 .ne (.sub (.sub (.var 0) (.var 2)) (.var 5)) (.lit (.str "X")))] [5])))]), (.assign 3 (.slc (.var 1) none (some (.lit (.int 1))))), (.for (.nm 4) .range [(.bi .len [(.var 1)])] [(.for (.tup [(.nm 2), (.nm 5)]) .pl [(.var 1)] [(.assign 6 (.lst [(.tup [(.o2 .sub (.var 2) (.lit (.int 1))), (.var 5)]), (.tup [(.o2 .add (.var 2) (.lit (.int 1))), (.var 5)]), (.tup [(.var 2), (.o2 .sub (.var 5) (.lit (.int 1)))]), (.tup [(.var 2), (.o2 .add (.var 5) (.lit (.int 1)))])])), (.iff (.and [(.o2 .notin (.tup [(.var 2), (.var 5)]) (.var 3)), (.o2 .ne (.comp (.var 7) (.nm 7) .pl [(.var 6)] [(.o2 .isin (.var 7) (.var 3))] [7]) (.lst []))]) [(.ex (.meth .append (.var 3) [(.tup [(.var 2), (.var 5)])]))] [])])]), (.ret (.comp (.tup [(.lit (.str "apart")), (.var 2), (.var 5)]) (.tup [(.nm 2), (.nm 5)]) .pl [(.var 1)] [(.o2 .notin (.tup [(.var 2), (.var 5)]) (.var 3))] [2, 5]))]⟩
/-- _law_faults(_law_rows, _law_shortest): _law_rows 0, _law_shortest 1, _law_found 2, _law_high 3, _law_wide 4, _law_r 5, _law_c 6, _law_way 7, _law_cells_here 8 -/
def fd__law_faults : Fd := ⟨2, [], 9, [(.assign 2 (.lst [])), (.par [3, 4] [(.bi .len [(.var 0)]), (.bi .len [(.sub (.var 0) (.lit (.int 0)))])]), (.for (.nm 5) .range [(.var 3)] [(.for (.nm 6) .range [(.var 4)] [(.iff (.o2 .ne (.call 12 [(.var 0), (.var 5), (.var 6)]) (.call 12 [(.var 0), (.o2 .sub (.o2 .sub (.var 3) (.lit (.int 1))) (.var 5)), (.o2 .sub (.o2 .sub (.var 4) (.lit (.int 1))) (.var 6))])) [(.ex (.meth .append (.var 2) [(.tup [(.lit (.str "turned")), (.var 5), (.var 6)])]))] [])])]), (.assign 2 (.o2 .add (.var 2) (.call 14 [(.var 0)]))), (.for (.tup [(.nm 7), (.nm 8)]) .pl [(.call 13 [(.var 0)])] [(.iff (.o2 .lt (.bi .len [(.var 8)]) (.var 1)) [(.ex (.meth .append (.var 2) [(.tup [(.lit (.str "short")), (.var 7), (.o2 .fdiv (.sub (.var 8) (.lit (.int 0))) (.var 4)), (.o2 .mod (.sub (.var 8) (.lit (.int 0))) (.var 4))])]))] [])]), (.ret (.bi .tuple [(.var 2)]))]⟩
/-- law(_law_script): _law_script 0, _law_draw 1, _law_square_here 2, _law_due 3, _law_turn 4, _law_found 5, _law_line 6, _law_rows 7, _law_way 8, _law_cells_here 9, _law_k 10 -/
def fd_law : Fd := ⟨1, [], 11, [(.assign 1 (.lst [(.var 0), (.lit (.int 0)), (.lit (.int 0)), (.lit (.int 0))])), (.assign 2 (.call 11 [(.var 1), (.lit (.int 3))])), (.assign 3 (.comp (.var 9) (.tup [(.nm 8), (.nm 9)]) .pl [(.call 13 [(.sub (.var 2) (.lit (.int 0)))])] [] [8, 9])), (.for (.nm 4) .range [(.lit (.int 2))] [(.assign 5 (.call 0 [(.sub (.var 2) (.lit (.int 0)))])), (.iff (.or [(.not (.isi (.var 5) [.list])), (.o2 .ne (.bi .repr [(.var 5)]) (.bi .repr [(.var 3)]))]) [(.ret (.lit (.bool false)))] []), (.ex (.meth .append (.var 5) [(.tup [])])), (.iff (.o2 .ne (.bi .repr [(.call 6 [(.var 2)])]) (.bi .repr [(.call 15 [(.sub (.var 2) (.lit (.int 0))), (.sub (.var 2) (.lit (.int 1)))])])) [(.ret (.lit (.bool false)))] [])]), (.assign 6 (.meth .join (.lit (.str "")) [(.comp (.sub (.lit (.str ".X")) (.call 7 [(.var 1), (.lit (.int 2))])) (.nm 10) .range [(.lit (.int 8))] [] [10])])), (.for (.nm 7) .pl [(.tup [(.tup [(.var 6)]), (.bi .tuple [(.var 6)])])] [(.assign 3 (.comp (.var 9) (.tup [(.nm 8), (.nm 9)]) .pl [(.call 13 [(.var 7)])] [] [8, 9])), (.iff (.or [(.o2 .ne (.bi .repr [(.call 0 [(.var 7)])]) (.bi .repr [(.var 3)])), (.o2 .ne (.bi .repr [(.call 6 [(.tup [(.var 7), (.lit (.int 2)), (.tup [])])])]) (.bi .repr [(.call 15 [(.var 7), (.lit (.int 2))])]))]) [(.ret (.lit (.bool false)))] [])]), (.ret (.lit (.bool true)))]⟩
def tab : Tab := ⟨[fd_runs_of, fd_run_from, fd_turned_faults, fd_near_cells, fd_apart_faults, fd_short_faults, fd_faults_of, fd__law_take, fd__law_letters, fd__law_cells, fd__law_words, fd__law_square, fd__law_light, fd__law_runs, fd__law_apart, fd__law_faults, fd_law], []⟩
abbrev f_runs_of : Nat := 0
abbrev f_run_from : Nat := 1
abbrev f_turned_faults : Nat := 2
abbrev f_near_cells : Nat := 3
abbrev f_apart_faults : Nat := 4
abbrev f_short_faults : Nat := 5
abbrev f_faults_of : Nat := 6
abbrev f__law_take : Nat := 7
abbrev f__law_letters : Nat := 8
abbrev f__law_cells : Nat := 9
abbrev f__law_words : Nat := 10
abbrev f__law_square : Nat := 11
abbrev f__law_light : Nat := 12
abbrev f__law_runs : Nat := 13
abbrev f__law_apart : Nat := 14
abbrev f__law_faults : Nat := 15
abbrev f_law : Nat := 16
theorem tt0 : tab.fns[0]? = some fd_runs_of := rfl
theorem io0 : fd_runs_of.io = [] := rfl
theorem tt1 : tab.fns[1]? = some fd_run_from := rfl
theorem io1 : fd_run_from.io = [] := rfl
theorem tt2 : tab.fns[2]? = some fd_turned_faults := rfl
theorem io2 : fd_turned_faults.io = [] := rfl
theorem tt3 : tab.fns[3]? = some fd_near_cells := rfl
theorem io3 : fd_near_cells.io = [] := rfl
theorem tt4 : tab.fns[4]? = some fd_apart_faults := rfl
theorem io4 : fd_apart_faults.io = [] := rfl
theorem tt5 : tab.fns[5]? = some fd_short_faults := rfl
theorem io5 : fd_short_faults.io = [] := rfl
theorem tt6 : tab.fns[6]? = some fd_faults_of := rfl
theorem io6 : fd_faults_of.io = [] := rfl
theorem tt7 : tab.fns[7]? = some fd__law_take := rfl
theorem io7 : fd__law_take.io = [0] := rfl
theorem tt8 : tab.fns[8]? = some fd__law_letters := rfl
theorem io8 : fd__law_letters.io = [0] := rfl
theorem tt9 : tab.fns[9]? = some fd__law_cells := rfl
theorem io9 : fd__law_cells.io = [0] := rfl
theorem tt10 : tab.fns[10]? = some fd__law_words := rfl
theorem io10 : fd__law_words.io = [0] := rfl
theorem tt11 : tab.fns[11]? = some fd__law_square := rfl
theorem io11 : fd__law_square.io = [0] := rfl
theorem tt12 : tab.fns[12]? = some fd__law_light := rfl
theorem io12 : fd__law_light.io = [] := rfl
theorem tt13 : tab.fns[13]? = some fd__law_runs := rfl
theorem io13 : fd__law_runs.io = [] := rfl
theorem tt14 : tab.fns[14]? = some fd__law_apart := rfl
theorem io14 : fd__law_apart.io = [] := rfl
theorem tt15 : tab.fns[15]? = some fd__law_faults := rfl
theorem io15 : fd__law_faults.io = [] := rfl
theorem tt16 : tab.fns[16]? = some fd_law := rfl
theorem io16 : fd_law.io = [] := rfl
end T_k05
set_option linter.all false
set_option Elab.async false
/-! PL: single steps of the small language, as equations. -/
namespace Z
open PySem
section
variable {T : Tab}
theorem it1 {c : C} {t : Ty} : isTys T c [t] = isTy T c t := by
  simp only [isTys]
  cases isTy T c t with
  | none => rfl
  | some b => cases b <;> rfl
theorem ii_int {i : Int} : isTy T (.d (.int i)) .int = some true := rfl
theorem ii_bool {i : Bool} : isTy T (.d (.bool i)) .int = some true := rfl
theorem ii_str {i : Str} : isTy T (.d (.str i)) .int = some false := rfl
theorem ii_none : isTy T (.d .none) .int = some false := rfl
theorem ii_list {i : List PyData} : isTy T (.d (.list i)) .int = some false := rfl
theorem ii_tup {i : List PyData} : isTy T (.d (.tuple i)) .int = some false := rfl
theorem ii_dict {i : List (PyData × PyData)} : isTy T (.d (.dict i)) .int = some false := rfl
theorem ib_int {i : Int} : isTy T (.d (.int i)) .bool = some false := rfl
theorem ib_bool {i : Bool} : isTy T (.d (.bool i)) .bool = some true := rfl
theorem ib_str {i : Str} : isTy T (.d (.str i)) .bool = some false := rfl
theorem is_int {i : Int} : isTy T (.d (.int i)) .str = some false := rfl
theorem is_bool {i : Bool} : isTy T (.d (.bool i)) .str = some false := rfl
theorem is_str {i : Str} : isTy T (.d (.str i)) .str = some true := rfl
theorem is_none : isTy T (.d .none) .str = some false := rfl
theorem is_list {i : List PyData} : isTy T (.d (.list i)) .str = some false := rfl
theorem is_tup {i : List PyData} : isTy T (.d (.tuple i)) .str = some false := rfl
theorem is_dict {i : List (PyData × PyData)} : isTy T (.d (.dict i)) .str = some false := rfl
theorem it_int {i : Int} : isTy T (.d (.int i)) .tuple = some false := rfl
theorem it_bool {i : Bool} : isTy T (.d (.bool i)) .tuple = some false := rfl
theorem it_str {i : Str} : isTy T (.d (.str i)) .tuple = some false := rfl
theorem it_none : isTy T (.d .none) .tuple = some false := rfl
theorem it_list {i : List PyData} : isTy T (.d (.list i)) .tuple = some false := rfl
theorem it_tup {i : List PyData} : isTy T (.d (.tuple i)) .tuple = some true := rfl
theorem it_dict {i : List (PyData × PyData)} : isTy T (.d (.dict i)) .tuple = some false := rfl
end
section
variable {x y : Int} {s t : Str} {xs ys : List PyData} {d e : PyData}
theorem s2_add : sem2 .add (.int x) (.int y) = some (.d (.int (x + y))) := rfl
theorem s2_sub : sem2 .sub (.int x) (.int y) = some (.d (.int (x - y))) := rfl
theorem s2_mod : sem2 .mod (.int x) (.int y) = if y = 0 then none else some (.d (.int (x.fmod y))) := rfl
theorem s2_fdiv : sem2 .fdiv (.int x) (.int y) = if y = 0 ∨ 1073741824 ≤ y.natAbs then none else some (.d (.int (x.fdiv y))) := rfl
theorem s2_mul : sem2 .mul (.int x) (.int y) = if x.natAbs < 2 ^ 64 ∨ y.natAbs < 2 ^ 64 then some (.d (.int (x * y))) else none := rfl
theorem s2_lt : sem2 .lt (.int x) (.int y) = some (.d (.bool (decide (x < y)))) := rfl
theorem s2_le : sem2 .le (.int x) (.int y) = some (.d (.bool (decide (x ≤ y)))) := rfl
theorem s2_gt : sem2 .gt (.int x) (.int y) = some (.d (.bool (decide (y < x)))) := rfl
theorem s2_ge : sem2 .ge (.int x) (.int y) = some (.d (.bool (decide (y ≤ x)))) := rfl
theorem s2_adds : sem2 .add (.str s) (.str t) = if s.length + t.length ≤ 16777216 then some (.d (.str (s ++ t))) else none := rfl
theorem s2_addl : sem2 .add (.list xs) (.list ys) = if xs.length + ys.length ≤ 16777216 then some (fresh (xs ++ ys)) else none := rfl
theorem s2_addt : sem2 .add (.tuple xs) (.tuple ys) = if xs.length + ys.length ≤ 16777216 then some (.d (.tuple (xs ++ ys))) else none := rfl
theorem s2_mult : sem2 .mul (.tuple xs) (.int y) = if xs.length ≤ 1000 ∧ -1000 ≤ y ∧ y ≤ 1000 then some (.d (.tuple (rep xs y))) else none := rfl
theorem eqv_int : PyData.eqv (.int x) (.int y) = (x == y) := rfl
theorem eqv_str : PyData.eqv (.str s) (.str t) = (s == t) := rfl
theorem s2_eqi : sem2 .eq (.int x) (.int y) = some (.d (.bool (x == y))) := rfl
theorem s2_nei : sem2 .ne (.int x) (.int y) = some (.d (.bool (!(x == y)))) := rfl
theorem s2_eqs : sem2 .eq (.str s) (.str t) = some (.d (.bool (s == t))) := rfl
theorem s2_nes : sem2 .ne (.str s) (.str t) = some (.d (.bool (!(s == t)))) := rfl
theorem s2_nel0 : sem2 .ne (.list xs) (.list []) = some (.d (.bool (!xs.isEmpty))) := by
  cases xs <;> rfl
theorem s2_eql0 : sem2 .eq (.list xs) (.list []) = some (.d (.bool xs.isEmpty)) := by
  cases xs <;> rfl
theorem s2_ins : sem2 .isin (.str s) (.str t) = some (.d (.bool (subStr s t))) := rfl
theorem s2_int : sem2 .isin (.str s) (.tuple ys) = if memOk (.str s) ys then some (.d (.bool (mem (.str s) ys))) else none := rfl
theorem bi_lenl : biS .len [.list xs] = some (.d (.int xs.length)) := rfl
theorem bi_lent : biS .len [.tuple xs] = some (.d (.int xs.length)) := rfl
theorem bi_lens : biS .len [.str s] = if s.length ≤ 16777216 then some (.d (.int s.length)) else none := rfl
theorem bi_abs : biS .abs [.int x] = some (.d (.int x.natAbs)) := rfl
theorem bi_all : biS .all [.list xs] = (boolsD xs).map fun bs => .d (.bool (bs.all id)) := rfl
theorem bi_tl : biS .tuple [.list xs] = some (.d (.tuple xs)) := rfl
theorem bi_ll : biS .list [.list xs] = some (fresh xs) := rfl
theorem bi_lt : biS .list [.tuple xs] = some (fresh xs) := rfl
theorem bi_min : biS .min [.int x, .int y] = some (.d (.int (if y < x then y else x))) := rfl
theorem bi_tr1 : biS .trange [.int x] = if rangeOk 0 x && decide (x ≤ 16777216) then some (.d (.tuple (rangeD 0 x))) else none := rfl
theorem bi_tr2 : biS .trange [.int x, .int y] = if rangeOk x y && decide (y - x ≤ 16777216) then some (.d (.tuple (rangeD x y))) else none := rfl
theorem bi_rep : biS .repr [d] = if biSup .repr [d] then (if d.showable && decide (d.depth ≤ 60) && decide (d.shown.length ≤ 16777216) then some (.d (.str d.shown)) else none) else none := rfl
theorem bi_lsl : biS .lenset [.list xs] = if setOk xs && decide (xs.length ≤ 4000) then some (.d (.int (dedup xs).length)) else none := rfl
theorem bi_lst : biS .lenset [.tuple xs] = if setOk xs && decide (xs.length ≤ 4000) then some (.d (.int (dedup xs).length)) else none := rfl
theorem sd_l : subD (.list xs) (.int x) = (seqI xs.length x).bind fun j => xs[j]? := rfl
theorem sd_t : subD (.tuple xs) (.int x) = (seqI xs.length x).bind fun j => xs[j]? := rfl
theorem sd_s : subD (.str s) (.int x) = if s.length ≤ 16777216 then (seqI s.length x).bind fun j => (strAt s j).map .str else none := rfl
theorem cd_l {a b : Option Int} : cutD (.list xs) a b = some (fresh (cutL xs a b)) := rfl
theorem cd_t {a b : Option Int} : cutD (.tuple xs) a b = some (.d (.tuple (cutL xs a b))) := rfl
theorem sel_l {cs : List C} : selOf (.lst cs) (.int x) = (seqI cs.length x).map .idx := rfl
theorem get_l {cs : List C} {k : Nat} : (C.lst cs).get (.idx k) = cs[k]? := rfl
theorem put_l {cs : List C} {k : Nat} {c : C} : (C.lst cs).put (.idx k) c = .lst (cs.set k c) := rfl
theorem po_l {cs : List C} {k : Nat} : putOk (.lst cs) (.idx k) = true := rfl
theorem seq_nat {n k : Nat} : seqI n (k : Int) = if k < n then some k else none := by
  unfold seqI
  rw [if_pos (Int.natCast_nonneg k)]
  by_cases h : k < n
  · rw [if_pos h, if_pos (by omega)]; rfl
  · rw [if_neg h, if_neg (by omega)]
theorem seq0 {n : Nat} : seqI (n + 1) 0 = some 0 := by
  have : seqI (n + 1) ((0 : Nat) : Int) = some 0 := by rw [seq_nat, if_pos (Nat.succ_pos n)]
  exact this
theorem seq_pos {n : Nat} {i : Int} (h0 : 0 ≤ i) (h1 : i < n) : seqI n i = some i.toNat := by
  unfold seqI
  rw [if_pos h0, if_pos h1]
theorem tk_own {io : List Nat} {ρ : Env} {c : C} : Z.take io ρ (.own c) = .ok c ρ := rfl
theorem ab_own {ρ : Env} {b : Bool} : asBool (.own (.d (.bool b))) ρ = .ok b ρ := rfl
theorem fz_own {ρ : Env} {c : C} : Z.frz ρ (.own c) = Res.of c.toD ρ := rfl
theorem pk_own {ρ : Env} {c : C} : peek ρ (.own c) = c.flat := rfl
theorem lk_own {ρ : Env} {c : C} : Z.look ρ (.own c) = some c := rfl
theorem hp_own {c : C} : hasPath (.own c) = false := rfl
theorem hp_bor {i : Nat} : hasPath (.bor i []) = false := rfl
theorem fl_d : (C.d d).flat = some d := rfl
theorem td_d : (C.d d).toD = some d := rfl
theorem flats_d : flats (xs.map .d) = some xs := by
  induction xs with
  | nil => rfl
  | cons x xs ih => rw [List.map_cons, flats, ih]; rfl
theorem toDs_dd : C.toDs (xs.map .d) = some xs := by
  induction xs with
  | nil => rfl
  | cons x xs ih => rw [List.map_cons, C.toDs, ih]; rfl
theorem fl_f : (fresh xs).flat = some (.list xs) := by
  show (flats (xs.map .d)).map PyData.list = _
  rw [flats_d]; rfl
theorem td_f : (fresh xs).toD = some (.list xs) := by
  show (C.toDs (xs.map .d)).map PyData.list = _
  rw [toDs_dd]; rfl
end
end Z
set_option linter.all false
set_option Elab.async false
/-! PL2: comprehensions and loops, as equations. -/
namespace Z
open PySem
section
variable {T : Tab} {Γ : Nat → List C → FRes}
theorem compL_all {f : PyData → Env → Res (List C)} {g : PyData → C} {ρ : Env} : ∀ {l : List PyData}, (∀ x ∈ l, f x ρ = .ok [g x] ρ) → compL f l ρ = .ok (l.map g) ρ
  | [], _ => rfl
  | x :: xs, h => by
    simp only [compL, h x List.mem_cons_self, bind_ok, compL_all (l := xs) fun y hy => h y (List.mem_cons_of_mem _ hy)]
    rfl
theorem set_back {ρ : Env} {i : Nat} {s : Option C} (hi : i < ρ.length) (hs : slot ρ i = none) : (ρ.set i s).set i none = ρ := by
  rw [List.set_set]
  refine List.ext_getElem? fun j => ?_
  by_cases h : i = j
  · subst h
    rw [List.getElem?_set_self hi]
    unfold slot at hs
    rw [List.getElem?_eq_getElem hi] at hs ⊢
    simp only [Option.bind_some, id_eq] at hs
    rw [hs]
  · rw [List.getElem?_set_ne h]
theorem set_none {ρ : Env} {i : Nat} (hi : i < ρ.length) (hs : slot ρ i = none) : ρ.set i none = ρ := by
  have := set_back (s := none) hi hs
  rwa [List.set_set] at this
/-- [elt for x in src], the names as they were -/
theorem comp_map {elt src : E} {i : Nat} {ρ : Env} {v : Val} {d : PyData} {l : List PyData} {g : PyData → PyData} (h1 : evE T Γ src ρ = .ok v ρ) (h2 : (if nc elt then Res.of (peek ρ v) ρ else frz ρ v) = .ok d ρ) (h3 : lenOk d = true) (h4 : items d = some l) (hi : i < ρ.length) (hs : slot ρ i = none)
    (hk : ∀ ρ v, putIn elt ρ v = (frz ρ v).bind fun x ρ => .ok (.d x) ρ) (h : ∀ x ∈ l, evE T Γ elt (ρ.set i (some (.d x))) = .ok (.own (.d (g x))) (ρ.set i (some (.d x)))) :
    evE T Γ (.comp elt (.nm i) .pl [src] [] [i]) ρ = .ok (.own (fresh (l.map g))) ρ := by
  have hw : wipe ρ [i] = ρ := by
    show ρ.set i none = ρ
    exact set_none hi hs
  have ho : ownD ρ [i] = true := by simp [ownD, hs]
  have turn : ∀ x ∈ l, turnF (.nm i) [i] elt (fun ρ => evAnd T Γ [] ρ) (fun ρ => evE T Γ elt ρ) x ρ = .ok [.d (g x)] ρ := fun x hx => by
    have h5 : setTg [] (.nm i) x ρ = some (ρ.set i (some (.d x))) := by
      simp only [setTg]
      rw [if_pos (by simp [hi])]
    have h6 : ownD (ρ.set i (some (.d x))) [i] = true := by
      have : slot (ρ.set i (some (.d x))) i = some (.d x) := by
        unfold slot
        rw [List.getElem?_set_self hi]
        rfl
      simp [ownD, this]
    unfold turnF
    rw [h5]
    simp only [of_some, bind_ok, evAnd, asBool, if_true, h x hx, hk, frz, C.toD, h6]
    show Res.ok [C.d (g x)] ((ρ.set i (some (.d x))).set i none) = _
    rw [set_back hi hs]
  simp only [evE, evVs, h1, bind_ok]
  have e1 : (if (hasPath v && !ncs []) = true then (Res.bad : Res (List Val)) else Res.ok [v] ρ) = .ok [v] ρ := by
    rw [if_neg]
    simp [ncs]
  rw [e1]
  simp only [bind_ok]
  have e2 : (if (nc elt && ncs []) = true then Res.of (peeks ρ [v]) ρ else frzs [v] ρ) = .ok [d] ρ := by
    simp only [ncs, Bool.and_true]
    cases hn : nc elt with
    | true =>
      rw [hn] at h2
      simp only [if_true] at h2 ⊢
      cases hp : peek ρ v with
      | none => rw [hp] at h2; cases h2
      | some y =>
        rw [hp] at h2
        cases h2
        simp only [peeks, hp]
        rfl
    | false =>
      rw [hn] at h2
      simp only [Bool.false_eq_true, if_false] at h2 ⊢
      simp only [frzs, h2, bind_ok]
  rw [e2]
  simp only [bind_ok, srcOf, h3, if_true, h4, of_some, ho, Bool.not_true, Bool.false_eq_true, if_false, hw]
  rw [compL_all turn]
  simp only [inner_ok]
  have hu : unwipe ρ ρ [i] = ρ := by
    show ρ.set i (slot ρ i) = ρ
    rw [hs]
    exact set_none hi hs
  rw [hu]
  simp only [fresh, List.map_map]
  rfl
theorem bools_map {l : List PyData} {p : PyData → Bool} : boolsD (l.map fun x => .bool (p x)) = some (l.map p) := by
  induction l with
  | nil => rfl
  | cons x l ih => simp only [List.map_cons, boolsD, ih, Option.map_some]
theorem all_comp {elt src : E} {i : Nat} {ρ : Env} {v : Val} {d : PyData} {l : List PyData} {p : PyData → Bool} (h1 : evE T Γ src ρ = .ok v ρ) (h2 : (if nc elt then Res.of (peek ρ v) ρ else frz ρ v) = .ok d ρ) (h3 : lenOk d = true) (h4 : items d = some l) (hi : i < ρ.length) (hs : slot ρ i = none)
    (hk : ∀ ρ v, putIn elt ρ v = (frz ρ v).bind fun x ρ => .ok (.d x) ρ) (h : ∀ x ∈ l, evE T Γ elt (ρ.set i (some (.d x))) = .ok (.own (.d (.bool (p x)))) (ρ.set i (some (.d x)))) :
    evE T Γ (.bi .all [.comp elt (.nm i) .pl [src] [] [i]]) ρ = .ok (.own (.d (.bool (l.all p)))) ρ := by
  rw [evE, evVs, comp_map (g := fun x => .bool (p x)) h1 h2 h3 h4 hi hs hk h]
  simp only [bind_ok, evVs, hp_own, Bool.false_and, Bool.false_eq_true, if_false, peeks, pk_own, fl_f, Option.bind_some, Option.map_some, bi_all, bools_map, of_some]
  have : (l.map p).all id = l.all p := by
    rw [List.all_map]
    rfl
  rw [this]
end
end Z
set_option linter.all false
set_option Elab.async false
/-! PL3: calls, as equations. -/
namespace Z
open PySem
section
variable {F : List C → FRes} {a b c : PyData} {r : C} {x y z : Option C} {ρ : Env} {C0 C1 : C} {i : Nat} {e : Exn}
theorem dc1 (h : F [.d a] = .ok r [x]) : doCall [] F [.own (.d a)] ρ = .ok r ρ := by
  simp only [doCall, argsOf, args1, List.contains_nil, Bool.false_eq_true, if_false, frz, C.toD, of_some, bind_ok, args2, Option.map_some, apart, if_true, h, goBack]
theorem dc2 (h : F [.d a, .d b] = .ok r [x, y]) : doCall [] F [.own (.d a), .own (.d b)] ρ = .ok r ρ := by
  simp only [doCall, argsOf, args1, List.contains_nil, Bool.false_eq_true, if_false, frz, C.toD, of_some, bind_ok, args2, Option.map_some, apart, if_true, h, goBack]
theorem dc3 (h : F [.d a, .d b, .d c] = .ok r [x, y, z]) : doCall [] F [.own (.d a), .own (.d b), .own (.d c)] ρ = .ok r ρ := by
  simp only [doCall, argsOf, args1, List.contains_nil, Bool.false_eq_true, if_false, frz, C.toD, of_some, bind_ok, args2, Option.map_some, apart, if_true, h, goBack]
theorem dx1 (h : F [.d a] = .exc e [x]) : doCall [] F [.own (.d a)] ρ = .exc e ρ := by
  simp only [doCall, argsOf, args1, List.contains_nil, Bool.false_eq_true, if_false, frz, C.toD, of_some, bind_ok, args2, Option.map_some, apart, if_true, h, goBack]
theorem dl1 {xs : List PyData} (h : F [.d (.list xs)] = .ok r [x]) : doCall [] F [.own (fresh xs)] ρ = .ok r ρ := by
  simp only [doCall, argsOf, args1, List.contains_nil, Bool.false_eq_true, if_false, frz, td_f, of_some, bind_ok, args2, Option.map_some, apart, if_true, h, goBack]
/-- the first argument is changed there -/
theorem dd1 (hs : slot ρ i = some C0) (h : F [C0] = .ok r [some C1]) : doCall [0] F [.bor i []] ρ = .ok r (ρ.set i (some C1)) := by
  have c0 : ([0] : List Nat).contains 0 = true := rfl
  simp only [doCall, argsOf, args1, c0, if_true, of_some, bind_ok, args2, hs, Option.map_some, Option.bind_some, apart, List.contains_nil, Bool.not_false, Bool.and_true, h, goBack]
theorem dd2 (hs : slot ρ i = some C0) (h : F [C0, .d a] = .ok r [some C1, y]) : doCall [0] F [.bor i [], .own (.d a)] ρ = .ok r (ρ.set i (some C1)) := by
  have c0 : ([0] : List Nat).contains 0 = true := rfl
  have c1 : ([0] : List Nat).contains (0 + 1) = false := rfl
  simp only [doCall, argsOf, args1, c0, c1, if_true, Bool.false_eq_true, if_false, frz, C.toD, of_some, bind_ok, args2, hs, Option.map_some, Option.bind_some, apart, List.contains_cons, List.contains_nil, Bool.not_false, Bool.and_true, h, goBack, Bool.or_false]
  rfl
end
end Z
set_option linter.all false
set_option Elab.async false
/-! PL4: rules for expressions and statements that leave the frame as it is. -/
namespace Z
open PySem
section
variable {T : Tab} {Γ : Nat → List C → FRes} {ρ : Env} {a b c e : E} {es : List E} {x y z d : PyData} {s t : Bool} {ss sa sb : List S} {io : List Nat} {R : Res Fl}
/-- e tells d, the frame stays -/
def Ev (T : Tab) (Γ : Nat → List C → FRes) (ρ : Env) (e : E) (d : PyData) : Prop := evE T Γ e ρ = .ok (.own (.d d)) ρ
def EvA (T : Tab) (Γ : Nat → List C → FRes) (ρ : Env) (es : List E) (t : Bool) : Prop := evAnd T Γ es ρ = .ok (.own (.d (.bool t))) ρ
def EvR (T : Tab) (Γ : Nat → List C → FRes) (ρ : Env) (es : List E) (t : Bool) : Prop := evOr T Γ es ρ = .ok (.own (.d (.bool t))) ρ
theorem p_var {i : Nat} (h : slot ρ i = some (.d x)) : Ev T Γ ρ (.var i) x := by
  unfold Ev
  rw [evE, h]
theorem p_lit : Ev T Γ ρ (.lit x) x := by unfold Ev; rw [evE]
theorem p_glob {n : Str} : Ev T Γ ρ (.glob n x) x := by unfold Ev; rw [evE]
theorem p_o2 {o : O2} (ha : Ev T Γ ρ a x) (hb : Ev T Γ ρ b y) (h : sem2 o x y = some (.d z)) : Ev T Γ ρ (.o2 o a b) z := by
  unfold Ev at *
  simp only [evE, ha, hb, bind_ok, hp_own, Bool.false_and, Bool.false_eq_true, if_false, pk_own, fl_d, Option.bind_some, h, Option.map_some, of_some]
theorem p_not (ha : Ev T Γ ρ a (.bool t)) : Ev T Γ ρ (.not a) (.bool (!t)) := by
  unfold Ev at *
  simp only [evE, ha, bind_ok, ab_own]
theorem p_a1 (ha : Ev T Γ ρ a (.bool t)) : EvA T Γ ρ [a] t := by
  unfold Ev EvA at *
  rw [evAnd, ha]
  cases t <;> rfl
theorem p_ac (ha : Ev T Γ ρ a (.bool s)) (hb : s = true → EvA T Γ ρ (b :: es) t) : EvA T Γ ρ (a :: b :: es) (s && t) := by
  unfold Ev EvA at *
  rw [evAnd, ha]
  cases s with
  | false => rfl
  | true => exact hb rfl
theorem p_and (h : EvA T Γ ρ es t) : Ev T Γ ρ (.and es) (.bool t) := by
  unfold Ev EvA at *
  rw [evE, h]
theorem p_r1 (ha : Ev T Γ ρ a (.bool t)) : EvR T Γ ρ [a] t := by
  unfold Ev EvR at *
  rw [evOr, ha]
  cases t <;> rfl
theorem p_rc (ha : Ev T Γ ρ a (.bool s)) (hb : s = false → EvR T Γ ρ (b :: es) t) : EvR T Γ ρ (a :: b :: es) (s || t) := by
  unfold Ev EvR at *
  rw [evOr, ha]
  cases s with
  | true => rfl
  | false => exact hb rfl
theorem p_or (h : EvR T Γ ρ es t) : Ev T Γ ρ (.or es) (.bool t) := by
  unfold Ev EvR at *
  rw [evE, h]
theorem p_chain {o o' : O2} (ha : Ev T Γ ρ a x) (hb : Ev T Γ ρ b y) (h1 : sem2 o x y = some (.d (.bool s))) (hc : s = true → Ev T Γ ρ c z) (h2 : s = true → sem2 o' y z = some (.d (.bool t))) : Ev T Γ ρ (.chain o o' a b c) (.bool (s && t)) := by
  unfold Ev at *
  rw [evE, ha]
  simp only [bind_ok, hb, h1, of_some]
  cases s with
  | false => rfl
  | true => simp only [hc rfl, bind_ok, h2 rfl, Option.map_some, of_some, Bool.true_and]
theorem p_bi1 {f : BI} (ha : Ev T Γ ρ a x) (h : biS f [x] = some (.d z)) : Ev T Γ ρ (.bi f [a]) z := by
  unfold Ev at *
  simp only [evE, evVs, ha, bind_ok, hp_own, Bool.false_and, Bool.false_eq_true, if_false, peeks, pk_own, fl_d, Option.bind_some, h, Option.map_some, of_some]
theorem p_bi2 {f : BI} (ha : Ev T Γ ρ a x) (hb : Ev T Γ ρ b y) (h : biS f [x, y] = some (.d z)) : Ev T Γ ρ (.bi f [a, b]) z := by
  unfold Ev at *
  simp only [evE, evVs, ha, hb, bind_ok, hp_own, Bool.false_and, Bool.false_eq_true, if_false, peeks, pk_own, fl_d, Option.bind_some, h, Option.map_some, of_some]
theorem p_sub {k : PyData} (ha : Ev T Γ ρ a x) (hb : Ev T Γ ρ b k) (h : subD x k = some z) : Ev T Γ ρ (.sub a b) z := by
  unfold Ev at *
  simp only [evE, ha, hb, bind_ok, hp_own, Bool.false_and, Bool.false_eq_true, if_false, fl_d, Option.bind_some, h, Option.map_some, of_some]
theorem p_isi {ts : List Ty} (ha : Ev T Γ ρ a x) (h : isTys T (.d x) ts = some t) : Ev T Γ ρ (.isi a ts) (.bool t) := by
  unfold Ev at *
  simp only [evE, ha, bind_ok, lk_own, Option.bind_some, h, Option.map_some, of_some]
theorem p_tup {ds : List PyData} (h : evF T Γ es ρ = .ok ds ρ) : Ev T Γ ρ (.tup es) (.tuple ds) := by
  unfold Ev
  simp only [evE, h, bind_ok]
theorem p_f0 : evF T Γ [] ρ = .ok [] ρ := by rw [evF]
theorem p_fc {ds : List PyData} (ha : Ev T Γ ρ a x) (h : evF T Γ es ρ = .ok ds ρ) : evF T Γ (a :: es) ρ = .ok (x :: ds) ρ := by
  unfold Ev at ha
  simp only [evF, ha, bind_ok, fz_own, td_d, of_some, h]
theorem p_call1 {f : Nat} {fd : Fd} {o : Option C} (h1 : T.fns[f]? = some fd) (h2 : fd.io = []) (ha : Ev T Γ ρ a x) (h : Γ f [.d x] = .ok (.d d) [o]) : Ev T Γ ρ (.call f [a]) d := by
  unfold Ev at *
  simp only [evE, evVs, ha, bind_ok, hp_own, Bool.false_and, Bool.false_eq_true, if_false, h1, h2, dc1 h]
theorem p_call2 {f : Nat} {fd : Fd} {o o' : Option C} (h1 : T.fns[f]? = some fd) (h2 : fd.io = []) (ha : Ev T Γ ρ a x) (hb : Ev T Γ ρ b y) (h : Γ f [.d x, .d y] = .ok (.d d) [o, o']) : Ev T Γ ρ (.call f [a, b]) d := by
  unfold Ev at *
  simp only [evE, evVs, ha, hb, bind_ok, hp_own, Bool.false_and, Bool.false_eq_true, if_false, h1, h2, dc2 h]
theorem p_call3 {f : Nat} {fd : Fd} {o o' o2 : Option C} (h1 : T.fns[f]? = some fd) (h2 : fd.io = []) (ha : Ev T Γ ρ a x) (hb : Ev T Γ ρ b y) (hc : Ev T Γ ρ c z) (h : Γ f [.d x, .d y, .d z] = .ok (.d d) [o, o', o2]) : Ev T Γ ρ (.call f [a, b, c]) d := by
  unfold Ev at *
  simp only [evE, evVs, ha, hb, hc, bind_ok, hp_own, Bool.false_and, Bool.false_eq_true, if_false, h1, h2, dc3 h]
theorem p_all {elt src : E} {i : Nat} {l : List PyData} {p : PyData → Bool} (h1 : Ev T Γ ρ src d) (h3 : lenOk d = true) (h4 : items d = some l) (hi : i < ρ.length) (hs : slot ρ i = none) (hk : ∀ ρ v, putIn elt ρ v = (frz ρ v).bind fun x ρ => .ok (.d x) ρ)
    (h : ∀ x ∈ l, Ev T Γ (ρ.set i (some (.d x))) elt (.bool (p x))) : Ev T Γ ρ (.bi .all [.comp elt (.nm i) .pl [src] [] [i]]) (.bool (l.all p)) :=
  all_comp h1 (by cases nc elt <;> rfl) h3 h4 hi hs hk h
/-- [elt for x in src], as an own list -/
theorem p_comp {elt src : E} {i : Nat} {l : List PyData} {g : PyData → PyData} (h1 : Ev T Γ ρ src d) (h3 : lenOk d = true) (h4 : items d = some l) (hi : i < ρ.length) (hs : slot ρ i = none) (hk : ∀ ρ v, putIn elt ρ v = (frz ρ v).bind fun x ρ => .ok (.d x) ρ)
    (h : ∀ x ∈ l, Ev T Γ (ρ.set i (some (.d x))) elt (g x)) : evE T Γ (.comp elt (.nm i) .pl [src] [] [i]) ρ = .ok (.own (fresh (l.map g))) ρ :=
  comp_map h1 (by cases nc elt <;> rfl) h3 h4 hi hs hk h
theorem p_biF {f : BI} {xs : List PyData} (ha : evE T Γ a ρ = .ok (.own (fresh xs)) ρ) (h : biS f [.list xs] = some (.d z)) : Ev T Γ ρ (.bi f [a]) z := by
  unfold Ev
  simp only [evE, evVs, ha, bind_ok, hp_own, Bool.false_and, Bool.false_eq_true, if_false, peeks, pk_own, fl_f, Option.bind_some, h, Option.map_some, of_some]
/-! statements -/
theorem q_ret (h : Ev T Γ ρ e d) : exSs T Γ io (.ret e :: ss) ρ = .ok (.ret (.d d)) ρ := by
  unfold Ev at h
  simp only [exSs, exS, h, bind_ok, tk_own]
theorem q_iffT {r : C} {ρ' : Env} (h : Ev T Γ ρ c (.bool true)) (h2 : exSs T Γ io sa ρ = .ok (.ret r) ρ') : exSs T Γ io (.iff c sa sb :: ss) ρ = .ok (.ret r) ρ' := by
  unfold Ev at h
  simp only [exSs, exS, evB, h, bind_ok, ab_own, if_true, h2]
theorem q_iffF (h : Ev T Γ ρ c (.bool false)) : exSs T Γ io (.iff c sa [] :: ss) ρ = exSs T Γ io ss ρ := by
  unfold Ev at h
  simp only [exSs, exS, evB, h, bind_ok, ab_own, Bool.false_eq_true, if_false]
theorem q_assign {i : Nat} (h : Ev T Γ ρ e d) (hi : i < ρ.length) (hio : io.contains i = false) : exSs T Γ io (.assign i e :: ss) ρ = exSs T Γ io ss (ρ.set i (some (.d d))) := by
  unfold Ev at h
  simp only [exSs, exS, h, bind_ok, tk_own, setNm]
  rw [if_pos (by rw [hio]; simpa using hi)]
  simp only [bind_ok]
theorem callF_ret {n f : Nat} {args : List C} {fd : Fd} {r : C} {ρ' : Env} (h : T.fns[f]? = some fd) (hl : args.length = fd.np) (hb : exSs T (callF T n) fd.io fd.body (args.map some ++ List.replicate (fd.ns - fd.np) none) = .ok (.ret r) ρ') : callF T (n + 1) f args = .ok r (finOf fd.io ρ' fd.np) := by
  rw [callF, h]
  simp only [hl, if_true, hb]
end
end Z
set_option linter.all false
set_option Elab.async false
/-! PL5: rules for own lists, for what is changed, for comprehensions over ranges. -/
namespace Z
open PySem
section
variable {T : Tab} {Γ : Nat → List C → FRes} {ρ ρ' : Env} {a b c e o : E} {es : List E} {x y z d : PyData} {s t : Bool} {ss sa sb : List S} {io : List Nat} {R : Res Fl} {i j : Nat} {cs : List C} {xs : List PyData}
theorem p_own {C0 : C} (h : slot ρ i = some (.lst cs)) : evE T Γ (.var i) ρ = .ok (.bor i []) ρ := by
  rw [evE, h]
theorem lk_bor {C0 : C} (h : slot ρ i = some C0) : look ρ (.bor i []) = some C0 := by
  unfold look
  simp only [h, Option.bind_some, C.getP]
/-- a part of an own list -/
theorem p_subl {k : Int} {m : Nat} (h : slot ρ i = some (.lst cs)) (hb : Ev T Γ ρ b (.int k)) (hk : seqI cs.length k = some m) (hx : cs[m]? = some (.d x)) : Ev T Γ ρ (.sub (.var i) b) x := by
  unfold Ev at *
  rw [evE, p_own (C0 := .lst cs) h, bind_ok, hb, bind_ok, if_neg (by simp [hp_bor])]
  simp only [lk_bor h, sel_l, hk, Option.map_some, get_l, hx]
theorem p_lenl (h : slot ρ i = some (.lst cs)) (hx : flats cs = some xs) : Ev T Γ ρ (.bi .len [.var i]) (.int xs.length) := by
  unfold Ev
  have hp : peek ρ (.bor i []) = some (.list xs) := by
    unfold peek
    rw [lk_bor h, Option.bind_some, C.flat, hx]
    rfl
  simp only [evE, evVs, h, bind_ok, hp_bor, Bool.false_and, Bool.false_eq_true, if_false, peeks, hp, Option.bind_some, Option.map_some, bi_lenl, of_some]
theorem p_ne0 (ha : Ev T Γ ρ a (.list xs)) : Ev T Γ ρ (.o2 .ne a (.lst [])) (.bool (!xs.isEmpty)) := by
  unfold Ev at *
  have : (C.lst []).flat = some (.list []) := rfl
  simp only [evE, evP, ha, bind_ok, hp_own, Bool.false_and, Bool.false_eq_true, if_false, pk_own, fl_d, this, Option.bind_some, s2_nel0, Option.map_some, of_some]
theorem q_iffT' (h : Ev T Γ ρ c (.bool true)) (h2 : exSs T Γ io sa ρ = .ok .next ρ') : exSs T Γ io (.iff c sa sb :: ss) ρ = exSs T Γ io ss ρ' := by
  unfold Ev at h
  simp only [exSs, exS, evB, h, bind_ok, ab_own, if_true, h2]
theorem q_nil : exSs T Γ io [] ρ = .ok .next ρ := by rw [exSs]
/-- a part of an own list is set -/
theorem q_setl {k : Int} {m : Nat} (he : Ev T Γ ρ e x) (hk : ∀ ρ v, putIn e ρ v = (frz ρ v).bind fun x ρ => .ok (.d x) ρ) (h : slot ρ i = some (.lst cs)) (hb : Ev T Γ ρ b (.int k)) (hm : seqI cs.length k = some m) : exSs T Γ io (.setIx (.var i) b e :: ss) ρ = exSs T Γ io ss (ρ.set i (some (.lst (cs.set m (.d x))))) := by
  unfold Ev at *
  have hp : ∀ p, putV ρ i [] p = ρ.set i (some p) := fun p => by
    unfold putV
    simp only [h, C.putP]
  simp only [exSs, exS, he, bind_ok, hk, fz_own, td_d, of_some, p_own (C0 := .lst cs) h, hb, hp_bor, Bool.false_and, Bool.false_eq_true, if_false, lk_bor h, sel_l, hm, Option.map_some, po_l, if_true, put_l, hp]
theorem callF_next {n f : Nat} {args : List C} {fd : Fd} (h : T.fns[f]? = some fd) (hl : args.length = fd.np) (hb : exSs T (callF T n) fd.io fd.body (args.map some ++ List.replicate (fd.ns - fd.np) none) = .ok .next ρ') : callF T (n + 1) f args = .ok (.d .none) (finOf fd.io ρ' fd.np) := by
  rw [callF, h]
  simp only [hl, if_true, hb]
end
end Z
set_option linter.all false
set_option Elab.async false
/-! PL6: rules for expressions that change the frame; loops and comprehensions over ranges. -/
namespace Z
open PySem
section
variable {T : Tab} {Γ : Nat → List C → FRes} {ρ ρ1 ρ2 ρ' : Env} {a b c e o : E} {es : List E} {x y z d : PyData} {s t : Bool} {ss sa sb : List S} {io : List Nat} {R : Res Fl} {i j : Nat} {cs : List C} {xs : List PyData} {C0 : C}
/-- e tells d, the frame is then ρ' -/
def EvC (T : Tab) (Γ : Nat → List C → FRes) (ρ : Env) (e : E) (d : PyData) (ρ' : Env) : Prop := evE T Γ e ρ = .ok (.own (.d d)) ρ'
theorem EvC.of (h : Ev T Γ ρ e d) : EvC T Γ ρ e d ρ := h
theorem c_o2 {o : O2} (ha : EvC T Γ ρ a x ρ1) (hb : EvC T Γ ρ1 b y ρ') (h : sem2 o x y = some (.d z)) : EvC T Γ ρ (.o2 o a b) z ρ' := by
  unfold EvC at *
  simp only [evE, ha, hb, bind_ok, hp_own, Bool.false_and, Bool.false_eq_true, if_false, pk_own, fl_d, Option.bind_some, h, Option.map_some, of_some]
theorem c_bi2 {f : BI} (ha : EvC T Γ ρ a x ρ1) (hb : EvC T Γ ρ1 b y ρ') (h : biS f [x, y] = some (.d z)) : EvC T Γ ρ (.bi f [a, b]) z ρ' := by
  unfold EvC at *
  simp only [evE, evVs, ha, hb, bind_ok, hp_own, Bool.false_and, Bool.false_eq_true, if_false, peeks, pk_own, fl_d, Option.bind_some, h, Option.map_some, of_some]
theorem c_sub {k : PyData} (ha : evE T Γ a ρ = .ok (.own C0) ρ1) (hx : C0.flat = some x) (hb : EvC T Γ ρ1 b k ρ') (h : subD x k = some z) : EvC T Γ ρ (.sub a b) z ρ' := by
  unfold EvC at *
  simp only [evE, ha, hb, bind_ok, hp_own, Bool.false_and, Bool.false_eq_true, if_false, hx, Option.bind_some, h, Option.map_some, of_some]
theorem c_subl {k : Int} {m : Nat} (h0 : slot ρ i = some (.lst cs)) (hb : EvC T Γ ρ b (.int k) ρ') (h : slot ρ' i = some (.lst cs)) (hk : seqI cs.length k = some m) (hx : cs[m]? = some (.d x)) : EvC T Γ ρ (.sub (.var i) b) x ρ' := by
  unfold EvC at *
  rw [evE, p_own (C0 := .lst cs) h0, bind_ok, hb, bind_ok, if_neg (by simp [hp_bor])]
  simp only [lk_bor h, sel_l, hk, Option.map_some, get_l, hx]
theorem c_tup {ds : List PyData} (h : evF T Γ es ρ = .ok ds ρ') : EvC T Γ ρ (.tup es) (.tuple ds) ρ' := by
  unfold EvC
  simp only [evE, h, bind_ok]
theorem c_fc {ds : List PyData} (ha : EvC T Γ ρ a x ρ1) (h : evF T Γ es ρ1 = .ok ds ρ') : evF T Γ (a :: es) ρ = .ok (x :: ds) ρ' := by
  unfold EvC at ha
  simp only [evF, ha, bind_ok, fz_own, td_d, of_some, h]
/-- what is put into a list -/
theorem c_pc {cs : List C} (hk : ∀ ρ v, putIn a ρ v = (frz ρ v).bind fun x ρ => .ok (.d x) ρ) (ha : EvC T Γ ρ a x ρ1) (h : evP T Γ es ρ1 = .ok cs ρ') : evP T Γ (a :: es) ρ = .ok (.d x :: cs) ρ' := by
  unfold EvC at ha
  simp only [evP, ha, bind_ok, hk, fz_own, td_d, of_some, h]
theorem c_pc' {cs : List C} (hk : ∀ ρ v, putIn a ρ v = (frz ρ v).bind fun x ρ => .ok (.d x) ρ) (ha : evE T Γ a ρ = .ok (.own (fresh xs)) ρ1) (h : evP T Γ es ρ1 = .ok cs ρ') : evP T Γ (a :: es) ρ = .ok (.d (.list xs) :: cs) ρ' := by
  simp only [evP, ha, bind_ok, hk, fz_own, td_f, of_some, h]
theorem c_p0 : evP T Γ [] ρ = .ok [] ρ := by rw [evP]
theorem c_lst (h : evP T Γ es ρ = .ok (xs.map .d) ρ') : evE T Γ (.lst es) ρ = .ok (.own (fresh xs)) ρ' := by
  simp only [evE, h, bind_ok]
  rfl
theorem q_assignC (h : evE T Γ e ρ = .ok (.own C0) ρ') (hi : i < ρ'.length) (hio : io.contains i = false) : exSs T Γ io (.assign i e :: ss) ρ = exSs T Γ io ss (ρ'.set i (some C0)) := by
  simp only [exSs, exS, h, bind_ok, tk_own, setNm]
  rw [if_pos (by rw [hio]; simpa using hi)]
  simp only [bind_ok]
theorem q_retC (h : EvC T Γ ρ e d ρ') : exSs T Γ io (.ret e :: ss) ρ = .ok (.ret (.d d)) ρ' := by
  unfold EvC at h
  simp only [exSs, exS, h, bind_ok, tk_own]
theorem q_iffTC {r : C} (h : EvC T Γ ρ c (.bool true) ρ1) (h2 : exSs T Γ io sa ρ1 = .ok (.ret r) ρ') : exSs T Γ io (.iff c sa sb :: ss) ρ = .ok (.ret r) ρ' := by
  unfold EvC at h
  simp only [exSs, exS, evB, h, bind_ok, ab_own, if_true, h2]
theorem q_iffFC (h : EvC T Γ ρ c (.bool false) ρ1) : exSs T Γ io (.iff c sa [] :: ss) ρ = exSs T Γ io ss ρ1 := by
  unfold EvC at h
  simp only [exSs, exS, evB, h, bind_ok, ab_own, Bool.false_eq_true, if_false]
/-- xs.append(e), xs an own list -/
theorem q_append (h0 : slot ρ i = some (.lst cs)) (he : evP T Γ [e] ρ = .ok [.d x] ρ1) (h : slot ρ1 i = some (.lst cs)) (hl : cs.length < 16777216) : exSs T Γ io (.ex (.meth .append (.var i) [e]) :: ss) ρ = exSs T Γ io ss (ρ1.set i (some (.lst (cs ++ [.d x])))) := by
  have k0 : kd ρ (.bor i []) = some 1 := by
    unfold kd
    rw [lk_bor h0]
    rfl
  have k1 : kd ρ1 (.bor i []) = some 1 := by
    unfold kd
    rw [lk_bor h]
    rfl
  have kk : kOk .append (some 1) = true := rfl
  have mo : mtOwnS .append (.lst cs) [.d x] = some (.d .none, .lst (cs ++ [.d x])) := by
    simp only [mtOwnS, mtSupO, if_true, mtOwn, hl]
  have hp : putV ρ1 i [] (.lst (cs ++ [.d x])) = ρ1.set i (some (.lst (cs ++ [.d x]))) := by
    unfold putV
    simp only [h, C.putP]
  have hb : (some 1 != some 1) = false := rfl
  simp only [exSs, exS, evE, h0, bind_ok, k0, k1, kk, Bool.not_true, Bool.false_eq_true, if_false, he, hp_bor, Bool.false_and, Bool.false_or, hb, lk_bor h, mo, hp]
theorem rng_ok {m : Nat} (h : m ≤ 16777216) : (rangeOk 0 m && decide ((m : Int) ≤ 16777216)) = true := by
  unfold rangeOk
  simp only [Bool.and_eq_true, decide_eq_true_eq]
  omega
theorem src_rng {m : Nat} (h : m ≤ 16777216) : srcOf .range [.int m] = some (rangeD 0 m) := by
  simp only [srcOf, rng_ok h, if_true]
theorem rng_len {m : Nat} : (rangeD 0 m).length = m := by
  unfold rangeD
  rw [List.length_map, List.length_range]
  omega
theorem rng_eq {m : Nat} : rangeD 0 m = (List.range m).map fun k : Nat => .int (k : Int) := by
  unfold rangeD
  have : ((m : Int) - 0).toNat = m := by omega
  rw [this]
  refine List.map_congr_left fun k _ => ?_
  rw [Int.zero_add]
theorem forL_inv {f : PyData → Env → Res Fl} {P : Nat → Env → Prop} : ∀ {l : List PyData} {j : Nat} {ρ : Env}, P j ρ → (∀ i x, l[i]? = some x → ∀ ρ, P (j + i) ρ → ∃ ρ', f x ρ = .ok .next ρ' ∧ P (j + i + 1) ρ') → ∃ ρ', forL f l ρ = .ok .next ρ' ∧ P (j + l.length) ρ'
  | [], j, ρ, h, _ => ⟨ρ, rfl, h⟩
  | x :: xs, j, ρ, h, hs => by
    obtain ⟨ρ1, h1, h2⟩ := hs 0 x rfl ρ h
    obtain ⟨ρ2, h3, h4⟩ := forL_inv (l := xs) (j := j + 1) h2 fun i y hy ρ hp => by
      have e : j + 1 + i = j + (i + 1) := by omega
      rw [e] at hp ⊢
      exact hs (i + 1) y hy ρ hp
    refine ⟨ρ2, ?_, ?_⟩
    · rw [forL, h1]
      exact h3
    · rw [List.length_cons]
      have e : j + (xs.length + 1) = j + 1 + xs.length := by omega
      rw [e]
      exact h4
theorem ex_for {io : List Nat} {src : E} {body : List S} {v : Val} (h : evE T Γ src ρ = .ok v ρ1) (hv : hasPath v = false) (hf : frz ρ1 v = .ok d ρ2) {k : ItK} {l : List PyData} (hl : srcOf k [d] = some l) {tg : Tg} : exS T Γ io (.for tg k [src] body) ρ = forL (fun x ρ => (Res.of (setTg io tg x ρ) ρ).bind fun ρ _ => exSs T Γ io body ρ) l ρ2 := by
  rw [exS, evVs, h, bind_ok, hv, Bool.false_and, if_neg Bool.false_ne_true, evVs, bind_ok, bind_ok, frzs, hf, bind_ok, frzs, bind_ok, bind_ok, hl, of_some, bind_ok]
theorem q_for {src : E} {body : List S} {m : Nat} {P : Nat → Env → Prop} (hs : EvC T Γ ρ src (.int m) ρ1) (hm : m ≤ 16777216) (h0 : P 0 ρ1) (hst : ∀ j, j < m → ∀ ρ, P j ρ → i < ρ.length ∧ ∃ ρ', exSs T Γ io body (ρ.set i (some (.d (.int (j : Nat))))) = .ok .next ρ' ∧ P (j + 1) ρ') (hio : io.contains i = false) :
    ∃ ρ', exSs T Γ io (.for (.nm i) .range [src] body :: ss) ρ = exSs T Γ io ss ρ' ∧ P m ρ' := by
  unfold EvC at hs
  obtain ⟨ρ', h1, h2⟩ := forL_inv (f := fun x ρ => (Res.of (setTg io (.nm i) x ρ) ρ).bind fun ρ _ => exSs T Γ io body ρ) (P := P) (l := rangeD 0 m) (j := 0) h0 fun j x hx ρ hp => by
    rw [Nat.zero_add] at hp ⊢
    rw [rng_eq, List.getElem?_map] at hx
    have hj : j < m := by
      by_cases h : j < m
      · exact h
      · rw [List.getElem?_eq_none (by rw [List.length_range]; omega)] at hx
        cases hx
    rw [List.getElem?_range hj] at hx
    cases hx
    obtain ⟨hi, ρ', h1, h2⟩ := hst j hj ρ hp
    refine ⟨ρ', ?_, h2⟩
    have : setTg io (.nm i) (.int (j : Nat)) ρ = some (ρ.set i (some (.d (.int (j : Nat))))) := by
      simp only [setTg]
      rw [if_pos (by rw [hio]; simpa using hi)]
    simp only [this, of_some, bind_ok, h1]
  rw [Nat.zero_add, rng_len] at h2
  refine ⟨ρ', ?_, h2⟩
  rw [exSs, ex_for hs hp_own (d := .int (m : Nat)) (ρ2 := ρ1) rfl (src_rng hm), h1, bind_ok]
end
end Z
set_option linter.all false
set_option Elab.async false
/-! PL7: comprehensions over ranges. -/
namespace Z
open PySem
section
variable {T : Tab} {Γ : Nat → List C → FRes} {ρ ρ1 ρ2 ρ' : Env} {a b c e o : E} {es : List E} {x y z d : PyData} {s t : Bool} {io : List Nat} {i j : Nat} {xs : List PyData} {C0 : C}
theorem ex_comp {elt src : E} {cond : List E} {tg : Tg} {k : ItK} {v : Val} {l : List PyData} (h : evE T Γ src ρ = .ok v ρ1) (hv : hasPath v = false) (hp : peek ρ1 v = some d) (hf : frz ρ1 v = .ok d ρ1) (hl : srcOf k [d] = some l) (ho : ownD ρ1 [i] = true) :
    evE T Γ (.comp elt tg k [src] cond [i]) ρ = (compL (turnF tg [i] elt (fun ρ => evAnd T Γ cond ρ) (fun ρ => evE T Γ elt ρ)) l (ρ1.set i none)).inner fun cs ρ' => .ok (.own (.lst cs)) (ρ'.set i (slot ρ1 i)) := by
  rw [evE, evVs, h, bind_ok, hv, Bool.false_and, if_neg Bool.false_ne_true, evVs, bind_ok, bind_ok]
  have e : (if (nc elt && ncs cond) = true then Res.of (peeks ρ1 [v]) ρ1 else frzs [v] ρ1) = .ok [d] ρ1 := by
    split
    · rw [peeks, hp]
      rfl
    · rw [frzs, hf]
      rfl
  rw [e, bind_ok, hl, of_some, bind_ok, ho, Bool.not_true, if_neg Bool.false_ne_true]
  rfl
theorem compL_inv {f : PyData → Env → Res (List C)} {P : Nat → Env → Prop} {G : Nat → PyData → Prop} : ∀ {l : List PyData} {j : Nat} {ρ : Env}, P j ρ → (∀ i x, l[i]? = some x → ∀ ρ, P (j + i) ρ → ∃ y ρ', f x ρ = .ok [.d y] ρ' ∧ P (j + i + 1) ρ' ∧ G (j + i) y) →
    ∃ (ys : List PyData) (ρ' : Env), compL f l ρ = .ok (ys.map .d) ρ' ∧ P (j + l.length) ρ' ∧ ys.length = l.length ∧ ∀ i y, ys[i]? = some y → G (j + i) y
  | [], j, ρ, h, _ => ⟨[], ρ, rfl, h, rfl, fun i y hy => by cases hy⟩
  | x :: xs, j, ρ, h, hs => by
    obtain ⟨y, ρ1, h1, h2, h5⟩ := hs 0 x rfl ρ h
    obtain ⟨ys, ρ2, h3, h4, h6, h7⟩ := compL_inv (l := xs) (j := j + 1) h2 fun i y hy ρ hp => by
      have e : j + 1 + i = j + (i + 1) := by omega
      rw [e] at hp ⊢
      exact hs (i + 1) y hy ρ hp
    refine ⟨y :: ys, ρ2, ?_, ?_, ?_, ?_⟩
    · rw [compL, h1, bind_ok, h3]
      rfl
    · rw [List.length_cons]
      have e : j + (xs.length + 1) = j + 1 + xs.length := by omega
      rw [e]
      exact h4
    · rw [List.length_cons, List.length_cons, h6]
    · intro i z hz
      cases i with
      | zero => cases hz; exact h5
      | succ i =>
        have e : j + (i + 1) = j + 1 + i := by omega
        rw [e]
        exact h7 i z hz
theorem rng_at {m : Nat} (hx : (rangeD 0 m)[j]? = some x) : j < m ∧ x = .int (j : Nat) := by
  rw [rng_eq, List.getElem?_map] at hx
  have hj : j < m := by
    by_cases h : j < m
    · exact h
    · rw [List.getElem?_eq_none (by rw [List.length_range]; omega)] at hx
      cases hx
  rw [List.getElem?_range hj] at hx
  cases hx
  exact ⟨hj, rfl⟩
/-- [elt for i in range(m)], elt changes the frame -/
theorem c_rngC {elt src : E} {m : Nat} {P : Nat → Env → Prop} {G : Nat → PyData → Prop} (hs : EvC T Γ ρ src (.int m) ρ1) (hm : m ≤ 16777216) (ho : ownD ρ1 [i] = true) (h0 : P 0 (ρ1.set i none)) (hk : ∀ ρ v, putIn elt ρ v = (frz ρ v).bind fun x ρ => .ok (.d x) ρ)
    (hst : ∀ j, j < m → ∀ ρ, P j ρ → i < ρ.length ∧ ∃ y ρ', EvC T Γ (ρ.set i (some (.d (.int (j : Nat))))) elt y ρ' ∧ ownD ρ' [i] = true ∧ P (j + 1) (ρ'.set i none) ∧ G j y) :
    ∃ (ys : List PyData) (ρ' : Env), evE T Γ (.comp elt (.nm i) .range [src] [] [i]) ρ = .ok (.own (fresh ys)) (ρ'.set i (slot ρ1 i)) ∧ P m ρ' ∧ ys.length = m ∧ ∀ j y, ys[j]? = some y → G j y := by
  obtain ⟨ys, ρ', h1, h2, h3, h4⟩ := compL_inv (f := turnF (.nm i) [i] elt (fun ρ => evAnd T Γ [] ρ) (fun ρ => evE T Γ elt ρ)) (P := P) (G := G) (l := rangeD 0 m) (j := 0) h0 fun j x hx ρ hp => by
    rw [Nat.zero_add] at hp ⊢
    obtain ⟨hj, rfl⟩ := rng_at hx
    obtain ⟨hi, y, ρ', h1, h2, h3, h4⟩ := hst j hj ρ hp
    refine ⟨y, ρ'.set i none, ?_, h3, h4⟩
    have h5 : setTg [] (.nm i) (.int (j : Nat)) ρ = some (ρ.set i (some (.d (.int (j : Nat))))) := by
      simp only [setTg]
      rw [if_pos (by simpa using hi)]
    unfold EvC at h1
    have h6 : asBool (.own (.d (.bool true))) (ρ.set i (some (.d (.int (j : Nat))))) = .ok true (ρ.set i (some (.d (.int (j : Nat))))) := rfl
    rw [turnF, h5, of_some, bind_ok, evAnd, bind_ok, h6, bind_ok, if_pos rfl, h1, bind_ok, hk, fz_own, td_d, of_some, bind_ok, bind_ok, h2, if_pos rfl]
    rfl
  refine ⟨ys, ρ', ?_, ?_, ?_, ?_⟩
  · rw [ex_comp (d := .int (m : Nat)) (l := rangeD 0 m) hs hp_own rfl rfl (src_rng hm) ho, h1, inner_ok]
    rfl
  · rw [Nat.zero_add, rng_len] at h2
    exact h2
  · rw [h3, rng_len]
  · intro j y hy
    have := h4 j y hy
    rwa [Nat.zero_add] at this
theorem compL_pure {f : PyData → Env → Res (List C)} {g : PyData → PyData} {p : PyData → Bool} : ∀ {l : List PyData}, (∀ x ∈ l, f x ρ = .ok (if p x then [.d (g x)] else []) ρ) → compL f l ρ = .ok (((l.filter p).map g).map .d) ρ
  | [], _ => rfl
  | x :: xs, h => by
    rw [compL, h x List.mem_cons_self, bind_ok, compL_pure (l := xs) fun y hy => h y (List.mem_cons_of_mem _ hy), bind_ok, List.filter_cons]
    split <;> rfl
theorem own_set {r : Option C} (hi : i < ρ.length) (hr : match r with | none => True | some (.d _) => True | _ => False) : ownD (ρ.set i r) [i] = true := by
  have : slot (ρ.set i r) i = r := by
    unfold slot
    rw [List.getElem?_set_self hi]
    rfl
  simp only [ownD, List.all_cons, List.all_nil, Bool.and_true, this]
  match r with
  | none => rfl
  | some (.d _) => rfl
/-- [elt for i in range(m) if cond], nothing changes -/
theorem c_rng {elt src : E} {cond : List E} {m : Nat} {p : PyData → Bool} {g : PyData → PyData} (hs : EvC T Γ ρ src (.int m) ρ1) (hm : m ≤ 16777216) (hi : i < ρ1.length) (ho : ownD ρ1 [i] = true) (hk : ∀ ρ v, putIn elt ρ v = (frz ρ v).bind fun x ρ => .ok (.d x) ρ)
    (hc : ∀ j, j < m → EvA T Γ (ρ1.set i (some (.d (.int (j : Nat))))) cond (p (.int (j : Nat)))) (he : ∀ j, j < m → p (.int (j : Nat)) = true → Ev T Γ (ρ1.set i (some (.d (.int (j : Nat))))) elt (g (.int (j : Nat)))) :
    evE T Γ (.comp elt (.nm i) .range [src] cond [i]) ρ = .ok (.own (fresh (((rangeD 0 m).filter p).map g))) ρ1 := by
  have turn : ∀ x ∈ rangeD 0 m, turnF (.nm i) [i] elt (fun ρ => evAnd T Γ cond ρ) (fun ρ => evE T Γ elt ρ) x (ρ1.set i none) = .ok (if p x then [.d (g x)] else []) (ρ1.set i none) := fun x hx => by
    obtain ⟨j, hj⟩ := List.mem_iff_getElem?.mp hx
    obtain ⟨hjm, rfl⟩ := rng_at hj
    have h5 : setTg [] (.nm i) (.int (j : Nat)) (ρ1.set i none) = some (ρ1.set i (some (.d (.int (j : Nat))))) := by
      simp only [setTg]
      rw [if_pos (by simpa using hi), List.set_set]
    have hc := hc j hjm
    have he := he j hjm
    unfold EvA at hc
    unfold Ev at he
    have ow : ownD (ρ1.set i (some (.d (.int (j : Nat))))) [i] = true := own_set hi trivial
    have wi : wipe (ρ1.set i (some (.d (.int (j : Nat))))) [i] = ρ1.set i none := List.set_set ..
    rw [turnF, h5, of_some, bind_ok, hc, bind_ok, ab_own, bind_ok]
    cases hp : p (.int (j : Nat)) with
    | true => rw [if_pos rfl, he hp, bind_ok, hk, fz_own, td_d, of_some, bind_ok, bind_ok, ow, if_pos rfl, wi]; rfl
    | false => rw [if_neg Bool.false_ne_true, ow, if_pos rfl, wi]; rfl
  rw [ex_comp (d := .int (m : Nat)) (l := rangeD 0 m) hs hp_own rfl rfl (src_rng hm) ho, compL_pure turn, inner_ok, List.set_set]
  have : ρ1.set i (slot ρ1 i) = ρ1 := by
    refine List.ext_getElem? fun j => ?_
    by_cases h : i = j
    · subst h
      rw [List.getElem?_set_self hi]
      unfold slot
      rw [List.getElem?_eq_getElem hi]
      rfl
    · rw [List.getElem?_set_ne h]
  rw [this]
  rfl
/-- "".join(xs) -/
theorem c_join {xs : List Str} {sep : Str} (hk : ∀ ρ v, putIn e ρ v = (frz ρ v).bind fun x ρ => .ok (.d x) ρ) (h : evE T Γ e ρ = .ok (.own (fresh (xs.map .str))) ρ') (hj : joinOk sep xs = true) : EvC T Γ ρ (.meth .join (.lit (.str sep)) [e]) (.str (joinD sep xs)) ρ' := by
  have sd : strsD (xs.map .str) = some xs := by
    clear h hj
    induction xs with
    | nil => rfl
    | cons x xs ih => rw [List.map_cons, strsD, ih]; rfl
  have k0 : ∀ ρ, kd ρ (.own (.d (.str sep))) = some 0 := fun _ => rfl
  have kk : kOk .join (some 0) = true := rfl
  have hb : (some 0 != some 0) = false := rfl
  have hp := c_pc' hk h c_p0
  have ms : mtS .join (.str sep) [.list (xs.map .str)] = some (.d (.str (joinD sep xs))) := by
    simp only [mtS, mtSupD, if_true, mtSem, sd, Option.bind_some, hj]
  unfold EvC
  rw [evE, evE, bind_ok, k0, kk, Bool.not_true, if_neg Bool.false_ne_true, hp, bind_ok, hp_own, k0, hb, Bool.false_and, Bool.or_false, if_neg Bool.false_ne_true]
  simp only [fl_d, C.toDs, td_d, Option.bind_some, Option.map_some, ms, of_some]
end
end Z
set_option linter.all false
set_option Elab.async false
namespace Z
open PySem
section
variable {T : Tab} {Γ : Nat → List C → FRes} {ρ ρ' : Env} {e : E} {ss : List S} {io : List Nat} {i n : Nat} {cs : List C} {xs : List PyData}
/-- xs[:n] = e -/
theorem q_setHd (he : evE T Γ e ρ = .ok (.own (fresh xs)) ρ') (h : slot ρ' i = some (.lst cs)) (hn : n ≤ cs.length) (hl : cs.length + xs.length ≤ 16777216) : exSs T Γ io (.setHd (.var i) n e :: ss) ρ = exSs T Γ io ss (ρ'.set i (some (.lst (xs.map .d ++ cs.drop n)))) := by
  have hp : ∀ p, putV ρ' i [] p = ρ'.set i (some p) := fun p => by
    unfold putV
    simp only [h, C.putP]
  have hf : flats (xs.map .d) = some xs := flats_d
  have hg : (decide (n ≤ cs.length) && decide (cs.length + xs.length ≤ 16777216)) = true := by
    rw [decide_eq_true hn, decide_eq_true hl]
    rfl
  simp only [exSs, exS, he, bind_ok, fresh, hf, p_own (C0 := .lst cs) h, lk_bor h, hg, if_true, hp]
theorem p_at {b : E} {j : Nat} (h : slot ρ i = some (fresh xs)) (hb : Ev T Γ ρ b (.int (j : Nat))) (hj : j < xs.length) : Ev T Γ ρ (.sub (.var i) b) (xs.getD j .none) := by
  refine p_subl (cs := xs.map .d) (m := j) h hb ?_ ?_
  · rw [seq_nat, List.length_map, if_pos hj]
  · rw [List.getElem?_map, List.getElem?_eq_getElem hj, List.getD_eq_getElem?_getD, List.getElem?_eq_getElem hj]
    rfl
theorem p_lenf (h : slot ρ i = some (fresh xs)) : Ev T Γ ρ (.bi .len [.var i]) (.int xs.length) := p_lenl h flats_d
end
end Z
set_option linter.all false
set_option Elab.async false
namespace Z
open PySem
section
variable {T : Tab} {Γ : Nat → List C → FRes} {ρ ρ' : Env} {a b e : E} {ss : List S} {io : List Nat} {i n k : Nat} {cs : List C} {xs : List PyData}
theorem cut_to : cutL xs none (some (k : Int)) = xs.take k := by
  unfold cutL
  rw [HT.sIx_none, HT.sIx_nat, List.drop_zero, Nat.sub_zero]
  by_cases h : k ≤ xs.length
  · rw [Nat.min_eq_left h]
  · rw [Nat.min_eq_right (by omega), List.take_of_length_le (Nat.le_refl _), List.take_of_length_le (by omega)]
theorem cut_from : cutL xs (some (k : Int)) none = xs.drop k := by
  unfold cutL
  rw [HT.sIx_none, HT.sIx_nat]
  by_cases h : k ≤ xs.length
  · rw [Nat.min_eq_left h, List.take_of_length_le (by rw [List.length_drop]; omega)]
  · rw [Nat.min_eq_right (by omega), List.drop_of_length_le (Nat.le_refl _), List.drop_of_length_le (by omega), List.take_nil]
theorem p_to (ha : Ev T Γ ρ a (.tuple xs)) (hb : Ev T Γ ρ b (.int (k : Nat))) : Ev T Γ ρ (.slc a none (some b)) (.tuple (xs.take k)) := by
  unfold Ev at *
  have hi : asInt ρ (.own (.d (.int (k : Nat)))) = some (k : Int) := rfl
  rw [evE, ha, bind_ok, evO, bind_ok, evO, hb, bind_ok, hi, Option.map_some, of_some, bind_ok, hp_own, Bool.false_and, if_neg Bool.false_ne_true, pk_own, fl_d, Option.bind_some, cd_t, cut_to, Option.map_some, of_some]
theorem p_from (ha : Ev T Γ ρ a (.tuple xs)) (hb : Ev T Γ ρ b (.int (k : Nat))) : Ev T Γ ρ (.slc a (some b) none) (.tuple (xs.drop k)) := by
  unfold Ev at *
  have hi : asInt ρ (.own (.d (.int (k : Nat)))) = some (k : Int) := rfl
  rw [evE, ha, bind_ok, evO, hb, bind_ok, hi, Option.map_some, of_some, bind_ok, evO, bind_ok, hp_own, Bool.false_and, if_neg Bool.false_ne_true, pk_own, fl_d, Option.bind_some, cd_t, cut_from, Option.map_some, of_some]
theorem m_addt {xs ys : List PyData} (h : xs.length + ys.length ≤ 16777216) : sem2 .add (.tuple xs) (.tuple ys) = some (.d (.tuple (xs ++ ys))) := by
  rw [s2_addt, if_pos h]
end
end Z
set_option linter.all false
set_option Elab.async false
namespace Z
open PySem
section
variable {T : Tab} {Γ : Nat → List C → FRes} {ρ ρ1 ρ2 ρ3 ρ' : Env} {a b c e : E} {es : List E} {ss : List S} {io : List Nat} {i n k : Nat} {cs : List C} {xs ys : List PyData} {x y z d : PyData} {t : Bool}
theorem c_pick {v : Int} (ha : evE T Γ a ρ = .ok (.own (fresh xs)) ρ1) (hb : EvC T Γ ρ1 b (.int v) ρ') (h0 : 0 ≤ v) (h1 : v < xs.length) : ∃ x ∈ xs, EvC T Γ ρ (.sub a b) x ρ' := by
  have h2 : v.toNat < xs.length := by omega
  refine ⟨xs[v.toNat], List.getElem_mem h2, c_sub ha fl_f hb ?_⟩
  rw [sd_l, seq_pos h0 h1, Option.bind_some, List.getElem?_eq_getElem h2]
theorem c_pickl {v : Int} (h : slot ρ i = some (fresh xs)) (hb : EvC T Γ ρ b (.int v) ρ') (h' : slot ρ' i = some (fresh xs)) (h0 : 0 ≤ v) (h1 : v < xs.length) : ∃ x ∈ xs, EvC T Γ ρ (.sub (.var i) b) x ρ' := by
  have h2 : v.toNat < xs.length := by omega
  refine ⟨xs[v.toNat], List.getElem_mem h2, c_subl (cs := xs.map .d) (m := v.toNat) h hb h' ?_ ?_⟩
  · rw [List.length_map, seq_pos h0 h1]
  · rw [List.getElem?_map, List.getElem?_eq_getElem h2]
    rfl
theorem p_pickt {v : Int} (ha : Ev T Γ ρ a (.tuple xs)) (hb : Ev T Γ ρ b (.int v)) (h0 : 0 ≤ v) (h1 : v < xs.length) : ∃ x, xs[v.toNat]? = some x ∧ Ev T Γ ρ (.sub a b) x := by
  have h2 : v.toNat < xs.length := by omega
  refine ⟨xs[v.toNat], List.getElem?_eq_getElem h2, p_sub ha hb ?_⟩
  rw [sd_t, seq_pos h0 h1, Option.bind_some, List.getElem?_eq_getElem h2]
theorem c_call3 {f : Nat} {fd : Fd} {o o' o2 : Option C} (h1 : T.fns[f]? = some fd) (h2 : fd.io = []) (ha : EvC T Γ ρ a x ρ1) (hb : EvC T Γ ρ1 b y ρ2) (hc : EvC T Γ ρ2 c z ρ3) (h : Γ f [.d x, .d y, .d z] = .ok (.d d) [o, o', o2]) : EvC T Γ ρ (.call f [a, b, c]) d ρ3 := by
  unfold EvC at *
  simp only [evE, evVs, ha, hb, hc, bind_ok, hp_own, Bool.false_and, Bool.false_eq_true, if_false, h1, h2, dc3 h]
/-- f(draw, a), the draw is changed -/
theorem c_calld {f : Nat} {fd : Fd} {o : Option C} {C0 C1 : C} {r : Env} (h1 : T.fns[f]? = some fd) (h2 : fd.io = [0]) (h0 : evE T Γ (.var 0) (some C0 :: r) = .ok (.bor 0 []) (some C0 :: r)) (ha : Ev T Γ (some C0 :: r) a x) (h : Γ f [C0, .d x] = .ok (.d d) [some C1, o]) : EvC T Γ (some C0 :: r) (.call f [.var 0, a]) d (some C1 :: r) := by
  unfold Ev at ha
  unfold EvC
  rw [evE, evVs, h0, bind_ok, hp_bor, Bool.false_and, if_neg Bool.false_ne_true, evVs, ha, bind_ok, hp_own, Bool.false_and, if_neg Bool.false_ne_true, evVs, bind_ok, bind_ok, bind_ok, h1]
  show (doCall fd.io (Γ f) [.bor 0 [], .own (.d x)] (some C0 :: r)).bind _ = _
  rw [h2, dd2 (C0 := C0) (C1 := C1) (r := .d d) rfl h, bind_ok]
  rfl
/-- f(draw) -/
theorem c_calld1 {f : Nat} {fd : Fd} {C0 C1 : C} {r : Env} (h1 : T.fns[f]? = some fd) (h2 : fd.io = [0]) (h0 : evE T Γ (.var 0) (some C0 :: r) = .ok (.bor 0 []) (some C0 :: r)) (h : Γ f [C0] = .ok (.d d) [some C1]) : EvC T Γ (some C0 :: r) (.call f [.var 0]) d (some C1 :: r) := by
  unfold EvC
  rw [evE, evVs, h0, bind_ok, hp_bor, Bool.false_and, if_neg Bool.false_ne_true, evVs, bind_ok, bind_ok, h1]
  show (doCall fd.io (Γ f) [.bor 0 []] (some C0 :: r)).bind _ = _
  rw [h2, dd1 (C0 := C0) (C1 := C1) (r := .d d) rfl h, bind_ok]
  rfl
theorem c_iteT (hc : EvC T Γ ρ c (.bool true) ρ1) (ha : EvC T Γ ρ1 a x ρ') : EvC T Γ ρ (.ite c a b) x ρ' := by
  unfold EvC at *
  rw [evE, hc, bind_ok, ab_own, bind_ok, if_pos rfl, ha]
theorem c_iteF (hc : EvC T Γ ρ c (.bool false) ρ1) (hb : EvC T Γ ρ1 b x ρ') : EvC T Γ ρ (.ite c a b) x ρ' := by
  unfold EvC at *
  rw [evE, hc, bind_ok, ab_own, bind_ok, if_neg Bool.false_ne_true, hb]
theorem pk_fresh (h : slot ρ i = some (fresh xs)) : peek ρ (.bor i []) = some (.list xs) := by
  unfold peek
  rw [lk_bor h, Option.bind_some]
  exact fl_f
theorem p_eq0l (h : slot ρ i = some (fresh xs)) : Ev T Γ ρ (.o2 .eq (.var i) (.lst [])) (.bool xs.isEmpty) := by
  unfold Ev
  have h0 := p_own (T := T) (Γ := Γ) (cs := xs.map .d) (C0 := fresh xs) h
  have e0 : evE T Γ (.lst []) ρ = .ok (.own (fresh [])) ρ := c_lst (xs := []) c_p0
  rw [evE, h0, bind_ok, e0, bind_ok, hp_bor, Bool.false_and, if_neg Bool.false_ne_true, pk_fresh h, pk_own, fl_f, Option.bind_some, Option.bind_some, s2_eql0, Option.map_some, of_some]
theorem c_addl (h : slot ρ i = some (fresh xs)) (hb : evE T Γ b ρ = .ok (.own (fresh ys)) ρ') (h' : slot ρ' i = some (fresh xs)) (hl : xs.length + ys.length ≤ 16777216) : evE T Γ (.o2 .add (.var i) b) ρ = .ok (.own (fresh (xs ++ ys))) ρ' := by
  have h0 := p_own (T := T) (Γ := Γ) (cs := xs.map .d) (C0 := fresh xs) h
  rw [evE, h0, bind_ok, hb, bind_ok, hp_bor, Bool.false_and, if_neg Bool.false_ne_true, pk_fresh h', pk_own, fl_f, Option.bind_some, Option.bind_some, s2_addl, if_pos hl, Option.map_some, of_some]
theorem p_neg {v : Int} (ha : Ev T Γ ρ a (.int v)) : Ev T Γ ρ (.neg a) (.int (-v)) := by
  unfold Ev at *
  rw [evE, ha, bind_ok]
theorem c_listt (ha : Ev T Γ ρ a (.tuple xs)) : evE T Γ (.bi .list [a]) ρ = .ok (.own (fresh xs)) ρ := by
  unfold Ev at *
  rw [evE, evVs, ha, bind_ok, hp_own, Bool.false_and, if_neg Bool.false_ne_true, evVs, bind_ok, bind_ok, peeks, pk_own, fl_d, Option.bind_some, peeks, Option.map_some, Option.bind_some, bi_lt, Option.map_some, of_some]
theorem q_unpack {tg : Tg} (h : Ev T Γ ρ e d) (hs : setTg io tg d ρ = some ρ') : exSs T Γ io (.unpack tg e :: ss) ρ = exSs T Γ io ss ρ' := by
  unfold Ev at h
  have hf : frz ρ (.own (.d d)) = .ok d ρ := rfl
  rw [exSs, exS, h, bind_ok, hf, bind_ok, hs, of_some, bind_ok, bind_ok]
theorem q_par2 {j : Nat} (ha : EvC T Γ ρ a x ρ1) (hb : EvC T Γ ρ1 b y ρ2) (hi : i < ρ2.length) (hj : j < ρ2.length) (h1 : io.contains i = false) (h2 : io.contains j = false) : exSs T Γ io (.par [i, j] [a, b] :: ss) ρ = exSs T Γ io ss ((ρ2.set i (some (.d x))).set j (some (.d y))) := by
  unfold EvC at *
  have e1 : setNm io i (.d x) ρ2 = .ok () (ρ2.set i (some (.d x))) := by
    unfold setNm
    rw [if_pos (by rw [h1]; simpa using hi)]
  have e2 : setNm io j (.d y) (ρ2.set i (some (.d x))) = .ok () ((ρ2.set i (some (.d x))).set j (some (.d y))) := by
    unfold setNm
    rw [if_pos (by rw [h2]; simpa using hj)]
  rw [exSs, exS, evT, ha, bind_ok, tk_own, bind_ok, evT, hb, bind_ok, tk_own, bind_ok, evT, bind_ok, bind_ok, bind_ok, setPar, e1, bind_ok, setPar, e2, bind_ok, setPar, bind_ok, bind_ok]
end
end Z
set_option linter.all false
set_option Elab.async false
namespace Z
open PySem
section
variable {T : Tab} {Γ : Nat → List C → FRes} {ρ ρ1 ρ2 ρ3 ρ' : Env} {a b c e : E} {es : List E} {ss sb : List S} {io : List Nat} {i n k : Nat} {cs : List C} {xs ys : List PyData} {x y z d : PyData} {s t : Bool}
theorem p_notB (ha : Ev T Γ ρ a (.bool s)) : Ev T Γ ρ (.notB t a) (.bool (!(s == t))) := by
  unfold Ev at *
  rw [evE, ha, bind_ok, ab_own, bind_ok]
theorem p_isB (ha : Ev T Γ ρ a (.bool s)) : Ev T Γ ρ (.isB t a) (.bool (s == t)) := by
  unfold Ev at *
  rw [evE, ha, bind_ok, ab_own, bind_ok]
/-- f(draw, a), the draw at place 1 -/
theorem c_call1d {f : Nat} {fd : Fd} {o : Option C} {C0 C1 : C} {p : Option C} {r : Env} (h1 : T.fns[f]? = some fd) (h2 : fd.io = [0]) (h0 : evE T Γ (.var 1) (p :: some C0 :: r) = .ok (.bor 1 []) (p :: some C0 :: r)) (ha : Ev T Γ (p :: some C0 :: r) a x) (h : Γ f [C0, .d x] = .ok (.d d) [some C1, o]) : EvC T Γ (p :: some C0 :: r) (.call f [.var 1, a]) d (p :: some C1 :: r) := by
  unfold Ev at ha
  unfold EvC
  rw [evE, evVs, h0, bind_ok, hp_bor, Bool.false_and, if_neg Bool.false_ne_true, evVs, ha, bind_ok, hp_own, Bool.false_and, if_neg Bool.false_ne_true, evVs, bind_ok, bind_ok, bind_ok, h1]
  show (doCall fd.io (Γ f) [.bor 1 [], .own (.d x)] (p :: some C0 :: r)).bind _ = _
  rw [h2, dd2 (C0 := C0) (C1 := C1) (r := .d d) rfl h, bind_ok]
  rfl
theorem c_call1d1 {f : Nat} {fd : Fd} {C0 C1 : C} {p : Option C} {r : Env} (h1 : T.fns[f]? = some fd) (h2 : fd.io = [0]) (h0 : evE T Γ (.var 1) (p :: some C0 :: r) = .ok (.bor 1 []) (p :: some C0 :: r)) (h : Γ f [C0] = .ok (.d d) [some C1]) : EvC T Γ (p :: some C0 :: r) (.call f [.var 1]) d (p :: some C1 :: r) := by
  unfold EvC
  rw [evE, evVs, h0, bind_ok, hp_bor, Bool.false_and, if_neg Bool.false_ne_true, evVs, bind_ok, bind_ok, h1]
  show (doCall fd.io (Γ f) [.bor 1 []] (p :: some C0 :: r)).bind _ = _
  rw [h2, dd1 (C0 := C0) (C1 := C1) (r := .d d) rfl h, bind_ok]
  rfl
end
end Z
set_option linter.all false
set_option Elab.async false
/-! W1: rules by wishes for the small language; a tactic that walks. -/
namespace Z
open PySem
section
variable (T : Tab) (Γ : Nat → List C → FRes) (io : List Nat)
def WE (e : E) (ρ : Env) (Q : Val → Env → Prop) : Prop := ∃ v ρ', evE T Γ e ρ = .ok v ρ' ∧ Q v ρ'
def WV (es : List E) (ρ : Env) (Q : List Val → Env → Prop) : Prop := ∃ v ρ', evVs T Γ es ρ = .ok v ρ' ∧ Q v ρ'
def WFz (es : List E) (ρ : Env) (Q : List PyData → Env → Prop) : Prop := ∃ v ρ', evF T Γ es ρ = .ok v ρ' ∧ Q v ρ'
def WPz (es : List E) (ρ : Env) (Q : List C → Env → Prop) : Prop := ∃ v ρ', evP T Γ es ρ = .ok v ρ' ∧ Q v ρ'
def WA (es : List E) (ρ : Env) (Q : Bool → Env → Prop) : Prop := ∃ t ρ', evAnd T Γ es ρ = .ok (.own (.d (.bool t))) ρ' ∧ Q t ρ'
def WO (es : List E) (ρ : Env) (Q : Bool → Env → Prop) : Prop := ∃ t ρ', evOr T Γ es ρ = .ok (.own (.d (.bool t))) ρ' ∧ Q t ρ'
def WI (e : Option E) (ρ : Env) (Q : Option Int → Env → Prop) : Prop := ∃ t ρ', evO T Γ e ρ = .ok t ρ' ∧ Q t ρ'
def WS (ss : List S) (ρ : Env) (Q : Fl → Env → Prop) : Prop := ∃ r ρ', exSs T Γ io ss ρ = .ok r ρ' ∧ Q r ρ'
end
/-- where the walk ends -/
structure Fin (p : Prop) : Prop where
  out : p
/-- a place is set -/
def SetAt (ρ : Env) (i : Nat) (s : Option C) (ρ' : Env) : Prop := i < ρ.length ∧ ρ.set i s = ρ'
theorem setZ {s t : Option C} {r : Env} : SetAt (s :: r) 0 t (t :: r) := ⟨Nat.succ_pos _, rfl⟩
theorem setS {s t : Option C} {r r' : Env} {i : Nat} (h : SetAt r i t r') : SetAt (s :: r) (i + 1) t (s :: r') := ⟨Nat.succ_lt_succ h.1, by rw [List.set_cons_succ, h.2]⟩
theorem tgN {io : List Nat} {ρ ρ' : Env} {i : Nat} {x : PyData} (h : SetAt ρ i (some (.d x)) ρ') (hi : io.contains i = false) : setTg io (.nm i) x ρ = some ρ' := by
  simp only [setTg]
  rw [if_pos (by rw [hi]; simpa using h.1), h.2]
theorem tgT {io : List Nat} {ρ ρ' : Env} {ts : List Tg} {xs : List PyData} (h : setTgs io ts xs ρ = some ρ') : setTg io (.tup ts) (.tuple xs) ρ = some ρ' := h
theorem tgs0 {io : List Nat} {ρ : Env} : setTgs io [] [] ρ = some ρ := rfl
theorem tgsC {io : List Nat} {ρ ρ1 ρ' : Env} {t : Tg} {ts : List Tg} {x : PyData} {xs : List PyData} (h : setTg io t x ρ = some ρ1) (h2 : setTgs io ts xs ρ1 = some ρ') : setTgs io (t :: ts) (x :: xs) ρ = some ρ' := by
  simp only [setTgs, h, Option.bind_some, h2]
section
variable {T : Tab} {Γ : Nat → List C → FRes} {io : List Nat} {ρ : Env} {a b c e : E} {es : List E} {Q : Val → Env → Prop} {QS : Fl → Env → Prop} {ss sa sb : List S} {i : Nat} {x : PyData}
theorem WE.mono {Q' : Val → Env → Prop} (h : WE T Γ e ρ Q) (k : ∀ v ρ', Q v ρ' → Q' v ρ') : WE T Γ e ρ Q' := let ⟨v, ρ', h1, h2⟩ := h; ⟨v, ρ', h1, k _ _ h2⟩
theorem WS.mono {Q' : Fl → Env → Prop} (h : WS T Γ io ss ρ QS) (k : ∀ v ρ', QS v ρ' → Q' v ρ') : WS T Γ io ss ρ Q' := let ⟨v, ρ', h1, h2⟩ := h; ⟨v, ρ', h1, k _ _ h2⟩
theorem we_ev {d : PyData} (h : Ev T Γ ρ e d) (q : Q (.own (.d d)) ρ) : WE T Γ e ρ Q := ⟨_, _, h, q⟩
theorem we_lit (q : Q (.own (.d x)) ρ) : WE T Γ (.lit x) ρ Q := ⟨_, _, by rw [evE], q⟩
theorem we_glob {n : Str} (q : Q (.own (.d x)) ρ) : WE T Γ (.glob n x) ρ Q := ⟨_, _, by rw [evE], q⟩
theorem we_vd (h : slot ρ i = some (.d x)) (q : Q (.own (.d x)) ρ) : WE T Γ (.var i) ρ Q := ⟨_, _, by rw [evE, h], q⟩
theorem we_vl {cs : List C} (h : slot ρ i = some (.lst cs)) (q : Q (.bor i []) ρ) : WE T Γ (.var i) ρ Q := ⟨_, _, by rw [evE, h], q⟩
theorem we_vk {cs : List (Ky × C)} (h : slot ρ i = some (.dct cs)) (q : Q (.bor i []) ρ) : WE T Γ (.var i) ρ Q := ⟨_, _, by rw [evE, h], q⟩
theorem we_vx {k : Nat} {fs : List (Str × PyData)} (h : slot ρ i = some (.exc k fs)) (q : Q (.bor i []) ρ) : WE T Γ (.var i) ρ Q := ⟨_, _, by rw [evE, h], q⟩
theorem we_tup (h : WFz T Γ es ρ fun xs ρ' => Q (.own (.d (.tuple xs))) ρ') : WE T Γ (.tup es) ρ Q := let ⟨v, ρ', h1, h2⟩ := h; ⟨_, ρ', by rw [evE, h1, bind_ok], h2⟩
theorem we_lst (h : WPz T Γ es ρ fun xs ρ' => Q (.own (.lst xs)) ρ') : WE T Γ (.lst es) ρ Q := let ⟨v, ρ', h1, h2⟩ := h; ⟨_, ρ', by rw [evE, h1, bind_ok], h2⟩
theorem we_dict {ks : List Ky} (h : WPz T Γ es ρ fun xs ρ' => Q (.own (.dct ((ks.zip xs).foldl (fun m p => setA m p.1 p.2) []))) ρ') : WE T Γ (.dict ks es) ρ Q := let ⟨v, ρ', h1, h2⟩ := h; ⟨_, ρ', by rw [evE, h1, bind_ok], h2⟩
theorem we_keep (h : WE T Γ e ρ Q) : WE T Γ (.keep e) ρ Q := let ⟨v, ρ', h1, h2⟩ := h; ⟨_, ρ', by rw [evE, h1], h2⟩
theorem we_fz (h : WE T Γ e ρ fun v ρ1 => ∃ x ρ2, frz ρ1 v = .ok x ρ2 ∧ Q (.own (.d x)) ρ2) : WE T Γ (.fz e) ρ Q := let ⟨v, ρ', h1, x, ρ2, h2, h3⟩ := h; ⟨_, ρ2, by rw [evE, h1, bind_ok, h2, bind_ok], h3⟩
theorem wf0 {Q : List PyData → Env → Prop} (q : Q [] ρ) : WFz T Γ [] ρ Q := ⟨_, _, by rw [evF], q⟩
theorem wfc {Q : List PyData → Env → Prop} (h : WE T Γ e ρ fun v ρ1 => ∃ x ρ2, frz ρ1 v = .ok x ρ2 ∧ WFz T Γ es ρ2 fun xs ρ' => Q (x :: xs) ρ') : WFz T Γ (e :: es) ρ Q :=
  let ⟨v, ρ1, h1, x, ρ2, h2, xs, ρ3, h3, h4⟩ := h; ⟨_, ρ3, by rw [evF, h1, bind_ok, h2, bind_ok, h3, bind_ok], h4⟩
theorem wp0 {Q : List C → Env → Prop} (q : Q [] ρ) : WPz T Γ [] ρ Q := ⟨_, _, by rw [evP], q⟩
theorem wpc {Q : List C → Env → Prop} (h : WE T Γ e ρ fun v ρ1 => ∃ x ρ2, putIn e ρ1 v = .ok x ρ2 ∧ WPz T Γ es ρ2 fun xs ρ' => Q (x :: xs) ρ') : WPz T Γ (e :: es) ρ Q :=
  let ⟨v, ρ1, h1, x, ρ2, h2, xs, ρ3, h3, h4⟩ := h; ⟨_, ρ3, by rw [evP, h1, bind_ok, h2, bind_ok, h3, bind_ok], h4⟩
theorem wv0 {Q : List Val → Env → Prop} (q : Q [] ρ) : WV T Γ [] ρ Q := ⟨_, _, by rw [evVs], q⟩
theorem wvc {Q : List Val → Env → Prop} (h : WE T Γ e ρ fun v ρ1 => (hasPath v && !ncs es) = false ∧ WV T Γ es ρ1 fun xs ρ' => Q (v :: xs) ρ') : WV T Γ (e :: es) ρ Q :=
  let ⟨v, ρ1, h1, hp, xs, ρ3, h3, h4⟩ := h; ⟨_, ρ3, by rw [evVs, h1, bind_ok, hp, if_neg Bool.false_ne_true, h3, bind_ok], h4⟩
theorem wi0 {Q : Option Int → Env → Prop} (q : Q none ρ) : WI T Γ none ρ Q := ⟨_, _, by rw [evO], q⟩
theorem wi1 {Q : Option Int → Env → Prop} (h : WE T Γ e ρ fun v ρ1 => ∃ k, v = .own (.d (.int k)) ∧ Q (some k) ρ1) : WI T Γ (some e) ρ Q :=
  let ⟨v, ρ1, h1, k, hv, hq⟩ := h; ⟨_, ρ1, by subst hv; rw [evO, h1, bind_ok]; rfl, hq⟩
theorem wa1 {Q : Bool → Env → Prop} (h : WE T Γ e ρ fun v ρ1 => ∃ t, v = .own (.d (.bool t)) ∧ Q t ρ1) : WA T Γ [e] ρ Q :=
  let ⟨v, ρ1, h1, t, hv, hq⟩ := h; ⟨t, ρ1, by subst hv; rw [evAnd, h1, bind_ok, ab_own, bind_ok]; cases t <;> rfl, hq⟩
theorem wac {Q : Bool → Env → Prop} (h : WE T Γ e ρ fun v ρ1 => ∃ t, v = .own (.d (.bool t)) ∧ (t = true → WA T Γ (b :: es) ρ1 Q) ∧ (t = false → Q false ρ1)) : WA T Γ (e :: b :: es) ρ Q := by
  obtain ⟨v, ρ1, h1, t, rfl, k1, k2⟩ := h
  cases t with
  | true =>
    obtain ⟨t2, ρ2, h2, q⟩ := k1 rfl
    exact ⟨t2, ρ2, by rw [evAnd, h1, bind_ok, ab_own, bind_ok, if_pos rfl]; exact h2, q⟩
  | false => exact ⟨false, ρ1, by rw [evAnd, h1, bind_ok, ab_own, bind_ok, if_neg Bool.false_ne_true], k2 rfl⟩
theorem wa0 {Q : Bool → Env → Prop} (q : Q true ρ) : WA T Γ [] ρ Q := ⟨true, ρ, by rw [evAnd], q⟩
theorem we_and (h : WA T Γ es ρ fun t ρ' => Q (.own (.d (.bool t))) ρ') : WE T Γ (.and es) ρ Q := let ⟨t, ρ', h1, h2⟩ := h; ⟨_, ρ', by rw [evE, h1], h2⟩
theorem wo1 {Q : Bool → Env → Prop} (h : WE T Γ e ρ fun v ρ1 => ∃ t, v = .own (.d (.bool t)) ∧ Q t ρ1) : WO T Γ [e] ρ Q :=
  let ⟨v, ρ1, h1, t, hv, hq⟩ := h; ⟨t, ρ1, by subst hv; rw [evOr, h1, bind_ok, ab_own, bind_ok]; cases t <;> rfl, hq⟩
theorem woc {Q : Bool → Env → Prop} (h : WE T Γ e ρ fun v ρ1 => ∃ t, v = .own (.d (.bool t)) ∧ (t = false → WO T Γ (b :: es) ρ1 Q) ∧ (t = true → Q true ρ1)) : WO T Γ (e :: b :: es) ρ Q := by
  obtain ⟨v, ρ1, h1, t, rfl, k1, k2⟩ := h
  cases t with
  | false =>
    obtain ⟨t2, ρ2, h2, q⟩ := k1 rfl
    exact ⟨t2, ρ2, by rw [evOr, h1, bind_ok, ab_own, bind_ok, if_neg Bool.false_ne_true]; exact h2, q⟩
  | true => exact ⟨true, ρ1, by rw [evOr, h1, bind_ok, ab_own, bind_ok, if_pos rfl], k2 rfl⟩
theorem we_or (h : WO T Γ es ρ fun t ρ' => Q (.own (.d (.bool t))) ρ') : WE T Γ (.or es) ρ Q := let ⟨t, ρ', h1, h2⟩ := h; ⟨_, ρ', by rw [evE, h1], h2⟩
theorem we_not (h : WE T Γ a ρ fun v ρ1 => ∃ t, v = .own (.d (.bool t)) ∧ Q (.own (.d (.bool (!t)))) ρ1) : WE T Γ (.not a) ρ Q :=
  let ⟨v, ρ1, h1, t, hv, hq⟩ := h; ⟨_, ρ1, by subst hv; rw [evE, h1, bind_ok, ab_own, bind_ok], hq⟩
theorem we_isB {s : Bool} (h : WE T Γ a ρ fun v ρ1 => ∃ t, v = .own (.d (.bool t)) ∧ Q (.own (.d (.bool (t == s)))) ρ1) : WE T Γ (.isB s a) ρ Q :=
  let ⟨v, ρ1, h1, t, hv, hq⟩ := h; ⟨_, ρ1, by subst hv; rw [evE, h1, bind_ok, ab_own, bind_ok], hq⟩
theorem we_notB {s : Bool} (h : WE T Γ a ρ fun v ρ1 => ∃ t, v = .own (.d (.bool t)) ∧ Q (.own (.d (.bool (!(t == s))))) ρ1) : WE T Γ (.notB s a) ρ Q :=
  let ⟨v, ρ1, h1, t, hv, hq⟩ := h; ⟨_, ρ1, by subst hv; rw [evE, h1, bind_ok, ab_own, bind_ok], hq⟩
theorem we_ite (h : WE T Γ c ρ fun v ρ1 => ∃ t, v = .own (.d (.bool t)) ∧ (t = true → WE T Γ a ρ1 Q) ∧ (t = false → WE T Γ b ρ1 Q)) : WE T Γ (.ite c a b) ρ Q := by
  obtain ⟨v, ρ1, h1, t, rfl, k1, k2⟩ := h
  cases t with
  | true =>
    obtain ⟨u, ρ2, h2, q⟩ := k1 rfl
    exact ⟨u, ρ2, by rw [evE, h1, bind_ok, ab_own, bind_ok, if_pos rfl, h2], q⟩
  | false =>
    obtain ⟨u, ρ2, h2, q⟩ := k2 rfl
    exact ⟨u, ρ2, by rw [evE, h1, bind_ok, ab_own, bind_ok, if_neg Bool.false_ne_true, h2], q⟩
theorem we_isN (h : WE T Γ a ρ fun v ρ1 => ∃ t, noneV ρ1 v = some t ∧ Q (.own (.d (.bool t))) ρ1) : WE T Γ (.isNone a) ρ Q :=
  let ⟨v, ρ1, h1, t, hv, hq⟩ := h; ⟨_, ρ1, by rw [evE, h1, bind_ok, hv]; rfl, hq⟩
theorem we_notN (h : WE T Γ a ρ fun v ρ1 => ∃ t, noneV ρ1 v = some t ∧ Q (.own (.d (.bool (!t)))) ρ1) : WE T Γ (.notNone a) ρ Q :=
  let ⟨v, ρ1, h1, t, hv, hq⟩ := h; ⟨_, ρ1, by rw [evE, h1, bind_ok, hv]; rfl, hq⟩
theorem we_neg (h : WE T Γ a ρ fun v ρ1 => ∃ k, v = .own (.d (.int k)) ∧ Q (.own (.d (.int (-k)))) ρ1) : WE T Γ (.neg a) ρ Q :=
  let ⟨v, ρ1, h1, t, hv, hq⟩ := h; ⟨_, ρ1, by subst hv; rw [evE, h1, bind_ok], hq⟩
theorem we_o2 {o : O2} (h : WE T Γ a ρ fun v ρ1 => WE T Γ b ρ1 fun u ρ2 => (hasPath v && !nc b) = false ∧ ∃ x y c, peek ρ2 v = some x ∧ peek ρ2 u = some y ∧ sem2 o x y = some c ∧ Q (.own c) ρ2) : WE T Γ (.o2 o a b) ρ Q := by
  obtain ⟨v, ρ1, h1, u, ρ2, h2, hp, x, y, c, hx, hy, hs, hq⟩ := h
  exact ⟨.own c, ρ2, by rw [evE, h1, bind_ok, h2, bind_ok, hp, if_neg Bool.false_ne_true, hx, Option.bind_some, hy, Option.bind_some, hs]; rfl, hq⟩
theorem we_chain {o o' : O2} (h : WE T Γ a ρ fun v ρ1 => WE T Γ b ρ1 fun u ρ2 => ∃ x y t, v = .own (.d x) ∧ u = .own (.d y) ∧ sem2 o x y = some (.d (.bool t)) ∧ (t = false → Q (.own (.d (.bool false))) ρ2) ∧
    (t = true → WE T Γ c ρ2 fun w ρ3 => ∃ z cc, w = .own (.d z) ∧ sem2 o' y z = some cc ∧ Q (.own cc) ρ3)) : WE T Γ (.chain o o' a b c) ρ Q := by
  obtain ⟨v, ρ1, h1, u, ρ2, h2, x, y, t, rfl, rfl, hs, k1, k2⟩ := h
  cases t with
  | false => exact ⟨_, ρ2, by rw [evE, h1, bind_ok, h2, bind_ok]; simp only [hs, of_some, bind_ok], k1 rfl⟩
  | true =>
    obtain ⟨w, ρ3, h3, z, cc, rfl, h4, q⟩ := k2 rfl
    exact ⟨_, ρ3, by rw [evE, h1, bind_ok, h2, bind_ok]; simp only [hs, of_some, bind_ok, h3, h4, Option.map_some], q⟩
theorem we_bi {f : BI} (h : WV T Γ es ρ fun vs ρ1 => ∃ xs c, peeks ρ1 vs = some xs ∧ biS f xs = some c ∧ Q (.own c) ρ1) : WE T Γ (.bi f es) ρ Q :=
  let ⟨v, ρ1, h1, xs, c, hx, hc, hq⟩ := h; ⟨_, ρ1, by rw [evE, h1, bind_ok, hx, Option.bind_some, hc]; rfl, hq⟩
/-- a part of data -/
theorem we_sub (h : WE T Γ a ρ fun v ρ1 => WE T Γ b ρ1 fun u ρ2 => ∃ C0 x k y, v = .own C0 ∧ C0.flat = some x ∧ u = .own (.d k) ∧ subD x k = some y ∧ Q (.own (.d y)) ρ2) : WE T Γ (.sub a b) ρ Q := by
  obtain ⟨v, ρ1, h1, u, ρ2, h2, C0, x, k, y, rfl, hf, rfl, hs, hq⟩ := h
  exact ⟨_, ρ2, by rw [evE, h1, bind_ok, h2, bind_ok, hp_own, Bool.false_and, if_neg Bool.false_ne_true]; simp only [hf, Option.bind_some, hs, Option.map_some, of_some], hq⟩
/-- a part of what is owned: data -/
theorem we_subB (h : WE T Γ a ρ fun v ρ1 => WE T Γ b ρ1 fun u ρ2 => (hasPath v && !nc b) = false ∧ ∃ j p k C0 s y, v = .bor j p ∧ u = .own (.d k) ∧ look ρ2 (.bor j p) = some C0 ∧ selOf C0 k = some s ∧ C0.get s = some (.d y) ∧ Q (.own (.d y)) ρ2) : WE T Γ (.sub a b) ρ Q := by
  obtain ⟨v, ρ1, h1, u, ρ2, h2, hp, j, p, k, C0, s, y, rfl, rfl, hl, hk, hg, hq⟩ := h
  exact ⟨_, ρ2, by rw [evE, h1, bind_ok, h2, bind_ok, hp, if_neg Bool.false_ne_true]; simp only [hl, hk, hg], hq⟩
/-- a part of what is owned: owned -/
theorem we_subO (h : WE T Γ a ρ fun v ρ1 => WE T Γ b ρ1 fun u ρ2 => (hasPath v && !nc b) = false ∧ ∃ j p k C0 s cs, v = .bor j p ∧ u = .own (.d k) ∧ look ρ2 (.bor j p) = some C0 ∧ selOf C0 k = some s ∧ C0.get s = some (.lst cs) ∧ Q (.bor j (p ++ [s])) ρ2) : WE T Γ (.sub a b) ρ Q := by
  obtain ⟨v, ρ1, h1, u, ρ2, h2, hp, j, p, k, C0, s, y, rfl, rfl, hl, hk, hg, hq⟩ := h
  exact ⟨_, ρ2, by rw [evE, h1, bind_ok, h2, bind_ok, hp, if_neg Bool.false_ne_true]; simp only [hl, hk, hg], hq⟩
theorem we_slc {lo hi : Option E} (h : WE T Γ a ρ fun v ρ1 => WI T Γ lo ρ1 fun l ρ2 => WI T Γ hi ρ2 fun h ρ3 => (hasPath v && !(nco lo && nco hi)) = false ∧ ∃ x c, peek ρ3 v = some x ∧ cutD x l h = some c ∧ Q (.own c) ρ3) : WE T Γ (.slc a lo hi) ρ Q := by
  obtain ⟨v, ρ1, h1, l, ρ2, h2, u, ρ3, h3, hp, x, c, hx, hc, hq⟩ := h
  exact ⟨_, ρ3, by rw [evE, h1, bind_ok, h2, bind_ok, h3, bind_ok, hp, if_neg Bool.false_ne_true, hx, Option.bind_some, hc]; rfl, hq⟩
theorem we_isi {ts : List Ty} (h : WE T Γ a ρ fun v ρ1 => ∃ c t, look ρ1 v = some c ∧ isTys T c ts = some t ∧ Q (.own (.d (.bool t))) ρ1) : WE T Γ (.isi a ts) ρ Q :=
  let ⟨v, ρ1, h1, c, t, hl, ht, hq⟩ := h; ⟨_, ρ1, by rw [evE, h1, bind_ok, hl, Option.bind_some, ht]; rfl, hq⟩
theorem we_join {s : Str} (h : WPz T Γ [e] ρ fun cs ρ1 => ∃ xs : List Str, C.toDs cs = some [.list (xs.map .str)] ∧ joinOk s xs = true ∧ Q (.own (.d (.str (joinD s xs)))) ρ1) : WE T Γ (.meth .join (.lit (.str s)) [e]) ρ Q := by
  obtain ⟨cs, ρ1, h1, xs, hd, hj, hq⟩ := h
  have sd : strsD (xs.map .str) = some xs := by
    clear hd hj hq h1
    induction xs with
    | nil => rfl
    | cons x xs ih => rw [List.map_cons, strsD, ih]; rfl
  have k0 : ∀ ρ, kd ρ (.own (.d (.str s))) = some 0 := fun _ => rfl
  have kk : kOk .join (some 0) = true := rfl
  have hb : (some 0 != some 0) = false := rfl
  have ms : mtS .join (.str s) [.list (xs.map .str)] = some (.d (.str (joinD s xs))) := by
    simp only [mtS, mtSupD, if_true, mtSem, sd, Option.bind_some, hj]
  refine ⟨_, ρ1, ?_, hq⟩
  rw [evE, evE, bind_ok, k0, kk, Bool.not_true, if_neg Bool.false_ne_true, h1, bind_ok, hp_own, k0, hb, Bool.false_and, Bool.or_false, if_neg Bool.false_ne_true]
  simp only [fl_d, hd, Option.bind_some, ms, Option.map_some, of_some]
/-! calls -/
theorem args_fz {io : List Nat} : ∀ {vs : List Val} {k : Nat} {ρ : Env}, (∀ j, k ≤ j → io.contains j = false) → args1 io k vs ρ = (frzs vs ρ).bind fun xs ρ => .ok (xs.map fun x => .own (.d x)) ρ
  | [], k, ρ, _ => rfl
  | v :: vs, k, ρ, h => by
    rw [args1, h k (Nat.le_refl _), if_neg Bool.false_ne_true, frzs]
    cases frz ρ v with
    | bad => rfl
    | exc _ _ => rfl
    | ok x ρ1 =>
      rw [bind_ok, bind_ok, args_fz fun j hj => h j (Nat.le_of_succ_le hj)]
      cases frzs vs ρ1 <;> rfl
theorem args2_own {ρ : Env} : ∀ {xs : List PyData}, args2 ρ (xs.map fun x => .own (.d x)) = some (xs.map .d, xs.map fun _ => none)
  | [] => rfl
  | x :: xs => by rw [List.map_cons, args2, args2_own]; rfl
theorem apart_none : ∀ {xs : List PyData}, apart (xs.map fun _ => (none : Option Nat)) = true
  | [] => rfl
  | x :: xs => by rw [List.map_cons, apart]; exact apart_none
theorem back_none {ρ : Env} : ∀ {xs : List PyData} {fin : List (Option C)}, fin.length = xs.length → goBack (xs.map fun _ => (none : Option Nat)) fin ρ = some ρ
  | [], [], _ => rfl
  | x :: xs, c :: fin, h => by
    rw [List.map_cons, goBack]
    exact back_none (by simpa using h)
  | [], _ :: _, h => by simp at h
  | _ :: _, [], h => by simp at h
/-- f(e, ..), nothing is changed there -/
theorem we_call {f : Nat} {fd : Fd} (h1 : T.fns[f]? = some fd) (h2 : fd.io = []) (h : WV T Γ es ρ fun vs ρ1 => ∃ xs ρ2 r fin, frzs vs ρ1 = .ok xs ρ2 ∧ Γ f (xs.map .d) = .ok r fin ∧ fin.length = xs.length ∧ Q (.own r) ρ2) : WE T Γ (.call f es) ρ Q := by
  obtain ⟨vs, ρ1, e1, xs, ρ2, r, fin, hz, hc, hl, hq⟩ := h
  refine ⟨.own r, ρ2, ?_, hq⟩
  have ha : argsOf fd.io 0 vs ρ1 = .ok (xs.map .d, xs.map fun _ => none) ρ2 := by
    unfold argsOf
    rw [args_fz (fun j _ => by rw [h2]; rfl), hz, bind_ok, bind_ok, args2_own, of_some]
  rw [evE, e1, bind_ok, h1]
  show (doCall fd.io (Γ f) vs ρ1).bind _ = _
  unfold doCall
  rw [ha, bind_ok, apart_none, if_pos rfl]
  simp only [hc, back_none hl, of_some, bind_ok]
/-- f(x, e, ..), x an own list that is changed there -/
theorem we_calld {f k : Nat} {fd : Fd} {cs : List C} (h1 : T.fns[f]? = some fd) (h2 : fd.io = [0]) (h0 : slot ρ k = some (.lst cs)) (h : WV T Γ es ρ fun vs ρ1 => ∃ xs ρ2 ds r ds' fin ρ3, frzs vs ρ1 = .ok xs ρ2 ∧ slot ρ2 k = some (.lst ds) ∧ Γ f (.lst ds :: xs.map .d) = .ok r (some (.lst ds') :: fin) ∧ fin.length = xs.length ∧ SetAt ρ2 k (some (.lst ds')) ρ3 ∧ Q (.own r) ρ3) :
    WE T Γ (.call f (.var k :: es)) ρ Q := by
  obtain ⟨vs, ρ1, e1, xs, ρ2, ds, r, ds', fin, ρ3, hz, hs, hc, hl, hst, hq⟩ := h
  refine ⟨.own r, ρ3, ?_, hq⟩
  have c0 : ([0] : List Nat).contains 0 = true := rfl
  have ha : argsOf [0] 0 (.bor k [] :: vs) ρ1 = .ok (.lst ds :: xs.map .d, some k :: xs.map fun _ => none) ρ2 := by
    unfold argsOf
    rw [args1, c0, if_pos rfl, args_fz (fun j hj => by
      have : j ≠ 0 := by omega
      simp [this]), hz, bind_ok, bind_ok, bind_ok, args2, hs, Option.bind_some, args2_own]
    rfl
  have ap : apart (some k :: xs.map fun _ => none) = true := by
    rw [apart, apart_none, Bool.and_true]
    have : (xs.map fun _ => (none : Option Nat)).contains (some k) = false := by
      induction xs with
      | nil => rfl
      | cons x xs ih => simp
    rw [this]
    rfl
  rw [evE, evVs, evE, h0, bind_ok, hp_bor, Bool.false_and, if_neg Bool.false_ne_true, e1, bind_ok, bind_ok, h1]
  show (doCall fd.io (Γ f) _ ρ1).bind _ = _
  unfold doCall
  rw [h2, ha, bind_ok, ap, if_pos rfl]
  simp only [hc, goBack, back_none hl, of_some, bind_ok, hst.2]
end
end Z
set_option linter.all false
set_option Elab.async false
/-! W2: statements, loops, comprehensions by wishes. -/
namespace Z
open PySem
section
variable {T : Tab} {Γ : Nat → List C → FRes} {io : List Nat} {ρ : Env} {a b c e o : E} {es : List E} {Q : Val → Env → Prop} {QS : Fl → Env → Prop} {ss sa sb body : List S} {i : Nat} {x : PyData}
theorem ws_nil (q : QS .next ρ) : WS T Γ io [] ρ QS := ⟨_, _, by rw [exSs], q⟩
theorem ws_cont (q : QS .cont ρ) : WS T Γ io (.cont :: ss) ρ QS := ⟨_, _, by rw [exSs, exS, bind_ok], q⟩
theorem ws_pass (q : WS T Γ io ss ρ QS) : WS T Γ io (.pass :: ss) ρ QS := let ⟨r, ρ', h1, h2⟩ := q; ⟨r, ρ', by rw [exSs, exS, bind_ok]; exact h1, h2⟩
theorem ws_assign (h : WE T Γ e ρ fun v ρ1 => ∃ c ρ2 ρ3, take io ρ1 v = .ok c ρ2 ∧ SetAt ρ2 i (some c) ρ3 ∧ io.contains i = false ∧ WS T Γ io ss ρ3 QS) : WS T Γ io (.assign i e :: ss) ρ QS := by
  obtain ⟨v, ρ1, h1, c, ρ2, ρ3, h2, h3, h4, r, ρ', h5, q⟩ := h
  refine ⟨r, ρ', ?_, q⟩
  have hs : setNm io i c ρ2 = .ok () ρ3 := by
    unfold setNm
    rw [if_pos (by rw [h4]; simpa using h3.1), h3.2]
  rw [exSs, exS, h1, bind_ok, h2, bind_ok, hs, bind_ok, bind_ok]
  exact h5
theorem ws_unpack {tg : Tg} (h : WE T Γ e ρ fun v ρ1 => ∃ x ρ2 ρ3, frz ρ1 v = .ok x ρ2 ∧ setTg io tg x ρ2 = some ρ3 ∧ WS T Γ io ss ρ3 QS) : WS T Γ io (.unpack tg e :: ss) ρ QS := by
  obtain ⟨v, ρ1, h1, x, ρ2, ρ3, h2, h3, r, ρ', h5, q⟩ := h
  refine ⟨r, ρ', ?_, q⟩
  rw [exSs, exS, h1, bind_ok, h2, bind_ok, h3, of_some, bind_ok, bind_ok]
  exact h5
theorem ws_par2 {j : Nat} (h : WE T Γ a ρ fun v ρ1 => ∃ x ρ2, take io ρ1 v = .ok x ρ2 ∧ WE T Γ b ρ2 fun u ρ3 => ∃ y ρ4 ρ5 ρ6, take io ρ3 u = .ok y ρ4 ∧ SetAt ρ4 i (some x) ρ5 ∧ SetAt ρ5 j (some y) ρ6 ∧ io.contains i = false ∧ io.contains j = false ∧ WS T Γ io ss ρ6 QS) : WS T Γ io (.par [i, j] [a, b] :: ss) ρ QS := by
  obtain ⟨v, ρ1, h1, x, ρ2, h2, u, ρ3, h3, y, ρ4, ρ5, ρ6, h4, h5, h6, h7, h8, r, ρ', h9, q⟩ := h
  refine ⟨r, ρ', ?_, q⟩
  have e1 : setNm io i x ρ4 = .ok () ρ5 := by
    unfold setNm
    rw [if_pos (by rw [h7]; simpa using h5.1), h5.2]
  have e2 : setNm io j y ρ5 = .ok () ρ6 := by
    unfold setNm
    rw [if_pos (by rw [h8]; simpa using h6.1), h6.2]
  rw [exSs, exS, evT, h1, bind_ok, h2, bind_ok, evT, h3, bind_ok, h4, bind_ok, evT, bind_ok, bind_ok, bind_ok, setPar, e1, bind_ok, setPar, e2, bind_ok, setPar, bind_ok, bind_ok]
  exact h9
theorem ws_ret (h : WE T Γ e ρ fun v ρ1 => ∃ c ρ2, take io ρ1 v = .ok c ρ2 ∧ QS (.ret c) ρ2) : WS T Γ io (.ret e :: ss) ρ QS := by
  obtain ⟨v, ρ1, h1, c, ρ2, h2, q⟩ := h
  exact ⟨_, ρ2, by rw [exSs, exS, h1, bind_ok, h2, bind_ok, bind_ok], q⟩
theorem ws_ret0 (q : QS (.ret (.d .none)) ρ) : WS T Γ io (.ret0 :: ss) ρ QS := ⟨_, ρ, by rw [exSs, exS, bind_ok], q⟩
theorem ws_ex (h : WE T Γ e ρ fun _ ρ1 => WS T Γ io ss ρ1 QS) : WS T Γ io (.ex e :: ss) ρ QS := by
  obtain ⟨v, ρ1, h1, r, ρ', h2, q⟩ := h
  exact ⟨r, ρ', by rw [exSs, exS, h1, bind_ok, bind_ok]; exact h2, q⟩
/-- what comes behind a part -/
def andThen (T : Tab) (Γ : Nat → List C → FRes) (io : List Nat) (ss : List S) (QS : Fl → Env → Prop) : Fl → Env → Prop
  | .next, ρ => WS T Γ io ss ρ QS
  | .cont, ρ => QS .cont ρ
  | .ret c, ρ => QS (.ret c) ρ
theorem ws_seq {s : S} (h : ∃ r ρ', exS T Γ io s ρ = .ok r ρ' ∧ andThen T Γ io ss QS r ρ') : WS T Γ io (s :: ss) ρ QS := by
  obtain ⟨r, ρ', h1, h2⟩ := h
  cases r with
  | next =>
    obtain ⟨r, ρ2, h3, q⟩ := h2
    exact ⟨r, ρ2, by rw [exSs, h1, bind_ok]; exact h3, q⟩
  | cont => exact ⟨_, ρ', by rw [exSs, h1, bind_ok], h2⟩
  | ret c => exact ⟨_, ρ', by rw [exSs, h1, bind_ok], h2⟩
theorem ws_iff (h : WE T Γ c ρ fun v ρ1 => ∃ t, v = .own (.d (.bool t)) ∧ (t = true → WS T Γ io sa ρ1 (andThen T Γ io ss QS)) ∧ (t = false → WS T Γ io sb ρ1 (andThen T Γ io ss QS))) : WS T Γ io (.iff c sa sb :: ss) ρ QS := by
  obtain ⟨v, ρ1, h1, t, rfl, k1, k2⟩ := h
  refine ws_seq ?_
  cases t with
  | true =>
    obtain ⟨r, ρ2, h2, q⟩ := k1 rfl
    exact ⟨r, ρ2, by rw [exS, evB, h1, bind_ok, ab_own, bind_ok, if_pos rfl]; exact h2, q⟩
  | false =>
    obtain ⟨r, ρ2, h2, q⟩ := k2 rfl
    exact ⟨r, ρ2, by rw [exS, evB, h1, bind_ok, ab_own, bind_ok, if_neg Bool.false_ne_true]; exact h2, q⟩
/-- xs.append(e) -/
theorem ws_append {cs : List C} (h0 : slot ρ i = some (.lst cs)) (h : WPz T Γ [e] ρ fun xs ρ1 => ∃ y ds ρ2, xs = [y] ∧ slot ρ1 i = some (.lst ds) ∧ ds.length < 16777216 ∧ SetAt ρ1 i (some (.lst (ds ++ [y]))) ρ2 ∧ WS T Γ io ss ρ2 QS) : WS T Γ io (.ex (.meth .append (.var i) [e]) :: ss) ρ QS := by
  obtain ⟨xs, ρ1, h1, y, ds, ρ2, rfl, h2, hl, hs, r, ρ', h3, q⟩ := h
  refine ⟨r, ρ', ?_, q⟩
  have k0 : kd ρ (.bor i []) = some 1 := by
    unfold kd
    rw [lk_bor h0]
    rfl
  have k1 : kd ρ1 (.bor i []) = some 1 := by
    unfold kd
    rw [lk_bor h2]
    rfl
  have kk : kOk .append (some 1) = true := rfl
  have mo : mtOwnS .append (.lst ds) [y] = some (.d .none, .lst (ds ++ [y])) := by
    simp only [mtOwnS, mtSupO, if_true, mtOwn, hl]
  have hp : putV ρ1 i [] (.lst (ds ++ [y])) = ρ2 := by
    unfold putV
    simp only [h2, C.putP]
    exact hs.2
  have hb : (some 1 != some 1) = false := rfl
  have he : evE T Γ (.meth .append (.var i) [e]) ρ = .ok (.own (.d .none)) ρ2 := by
    rw [evE, evE, h0, bind_ok, k0, kk, Bool.not_true, if_neg Bool.false_ne_true, h1, bind_ok, hp_bor, k1, hb, Bool.false_and, Bool.or_false, if_neg Bool.false_ne_true]
    simp only [lk_bor h2, mo, hp]
  rw [exSs, exS, he, bind_ok, bind_ok]
  exact h3
/-- xs.extend(e) -/
theorem ws_extend {cs : List C} (h0 : slot ρ i = some (.lst cs)) (h : WPz T Γ [e] ρ fun xs ρ1 => ∃ ys ds ρ2, xs = [.d (.list ys)] ∧ slot ρ1 i = some (.lst ds) ∧ ds.length + ys.length ≤ 16777216 ∧ SetAt ρ1 i (some (.lst (ds ++ ys.map .d))) ρ2 ∧ WS T Γ io ss ρ2 QS) : WS T Γ io (.ex (.meth .extend (.var i) [e]) :: ss) ρ QS := by
  obtain ⟨xs, ρ1, h1, y, ds, ρ2, rfl, h2, hl, hs, r, ρ', h3, q⟩ := h
  refine ⟨r, ρ', ?_, q⟩
  have k0 : kd ρ (.bor i []) = some 1 := by
    unfold kd
    rw [lk_bor h0]
    rfl
  have k1 : kd ρ1 (.bor i []) = some 1 := by
    unfold kd
    rw [lk_bor h2]
    rfl
  have kk : kOk .extend (some 1) = true := rfl
  have mo : mtOwnS .extend (.lst ds) [.d (.list y)] = some (.d .none, .lst (ds ++ y.map .d)) := by
    simp only [mtOwnS, mtSupO, if_true, mtOwn, hl]
  have hp : putV ρ1 i [] (.lst (ds ++ y.map .d)) = ρ2 := by
    unfold putV
    simp only [h2, C.putP]
    exact hs.2
  have hb : (some 1 != some 1) = false := rfl
  have he : evE T Γ (.meth .extend (.var i) [e]) ρ = .ok (.own (.d .none)) ρ2 := by
    rw [evE, evE, h0, bind_ok, k0, kk, Bool.not_true, if_neg Bool.false_ne_true, h1, bind_ok, hp_bor, k1, hb, Bool.false_and, Bool.or_false, if_neg Bool.false_ne_true]
    simp only [lk_bor h2, mo, hp]
  rw [exSs, exS, he, bind_ok, bind_ok]
  exact h3
/-- xs.pop() -/
theorem we_pop {xs : List PyData} {x : PyData} {ρ2 : Env} (h0 : slot ρ i = some (fresh (xs ++ [x]))) (hs : SetAt ρ i (some (fresh xs)) ρ2) (q : Q (.own (.d x)) ρ2) : WE T Γ (.meth .pop (.var i) []) ρ Q := by
  refine ⟨_, ρ2, ?_, q⟩
  have k0 : kd ρ (.bor i []) = some 1 := by
    unfold kd
    rw [lk_bor h0]
    rfl
  have kk : kOk .pop (some 1) = true := rfl
  have mo : mtOwnS .pop (fresh (xs ++ [x])) [] = some (.d x, fresh xs) := by
    show mtOwnS .pop (.lst ((xs ++ [x]).map .d)) [] = _
    simp [mtOwnS, mtSupO, mtOwn, fresh]
  have hp : putV ρ i [] (fresh xs) = ρ2 := by
    unfold putV
    simp only [h0, C.putP]
    exact hs.2
  have hb : (some 1 != some 1) = false := rfl
  have h0' : slot ρ i = some (.lst ((xs ++ [x]).map .d)) := h0
  rw [evE, evE, h0', bind_ok, k0, kk, Bool.not_true, if_neg Bool.false_ne_true, evP, bind_ok, hp_bor, k0, hb, Bool.false_and, Bool.or_false, if_neg Bool.false_ne_true]
  simp only [lk_bor h0, mo, hp]
/-- o[i] = e -/
theorem ws_setIx (h : WE T Γ e ρ fun v ρ1 => ∃ y ρ2, putIn e ρ1 v = .ok y ρ2 ∧ WE T Γ o ρ2 fun u ρ3 => WE T Γ b ρ3 fun w ρ4 => (hasPath u && !nc b) = false ∧ ∃ j p k C0 s ρ5, u = .bor j p ∧ w = .own (.d k) ∧ look ρ4 (.bor j p) = some C0 ∧ selOf C0 k = some s ∧ putOk C0 s = true ∧ putV ρ4 j p (C0.put s y) = ρ5 ∧ WS T Γ io ss ρ5 QS) : WS T Γ io (.setIx o b e :: ss) ρ QS := by
  obtain ⟨v, ρ1, h1, y, ρ2, h2, u, ρ3, h3, w, ρ4, h4, hp, j, p, k, C0, s, ρ5, rfl, rfl, hl, hk, ho, hv, r, ρ', h5, q⟩ := h
  refine ⟨r, ρ', ?_, q⟩
  rw [exSs, exS, h1, bind_ok, h2, bind_ok, h3, bind_ok, h4, bind_ok]
  simp only [hp, Bool.false_eq_true, if_false, hl, hk, ho, if_true, hv, bind_ok]
  exact h5
/-! loops -/
theorem forL_w {f : PyData → Env → Res Fl} {P : Nat → Env → Prop} {R : Fl → Env → Prop} : ∀ {l : List PyData} {j : Nat} {ρ : Env}, P j ρ → (∀ i x, l[i]? = some x → ∀ ρ, P (j + i) ρ → ∃ r ρ', f x ρ = .ok r ρ' ∧ match r with | .ret c => R (.ret c) ρ' | _ => P (j + i + 1) ρ') →
    (∀ ρ, P (j + l.length) ρ → R .next ρ) → ∃ r ρ', forL f l ρ = .ok r ρ' ∧ R r ρ'
  | [], j, ρ, h, _, k => ⟨_, ρ, rfl, k ρ h⟩
  | x :: xs, j, ρ, h, hs, k => by
    obtain ⟨r, ρ1, h1, h2⟩ := hs 0 x rfl ρ h
    have go : P (j + 1) ρ1 → ∃ r ρ', forL f xs ρ1 = .ok r ρ' ∧ R r ρ' := fun h2 => forL_w (l := xs) (j := j + 1) h2 (fun i y hy ρ hp => by
      have e : j + 1 + i = j + (i + 1) := by omega
      rw [e] at hp ⊢
      exact hs (i + 1) y hy ρ hp) fun ρ hp => k ρ (by
        rw [List.length_cons]
        have e : j + (xs.length + 1) = j + 1 + xs.length := by omega
        rw [e]
        exact hp)
    cases r with
    | ret c => exact ⟨_, ρ1, by rw [forL, h1, bind_ok], h2⟩
    | next =>
      obtain ⟨r, ρ', h3, h4⟩ := go h2
      exact ⟨r, ρ', by rw [forL, h1, bind_ok]; exact h3, h4⟩
    | cont =>
      obtain ⟨r, ρ', h3, h4⟩ := go h2
      exact ⟨r, ρ', by rw [forL, h1, bind_ok]; exact h3, h4⟩
def turnEnd (P : Env → Prop) (QS : Fl → Env → Prop) : Fl → Env → Prop
  | .ret c, ρ => QS (.ret c) ρ
  | .next, ρ => P ρ
  | .cont, ρ => P ρ
theorem ws_for {tg : Tg} {k : ItK} {src : List E} (P : Nat → Env → Prop) (h : WV T Γ src ρ fun vs ρ1 => ∃ xs ρ2 l, frzs vs ρ1 = .ok xs ρ2 ∧ srcOf k xs = some l ∧ P 0 ρ2 ∧
      (∀ j x ρ, l[j]? = some x → P j ρ → ∃ ρ', setTg io tg x ρ = some ρ' ∧ WS T Γ io body ρ' (turnEnd (P (j + 1)) QS)) ∧ (∀ ρ, P l.length ρ → WS T Γ io ss ρ QS)) : WS T Γ io (.for tg k src body :: ss) ρ QS := by
  obtain ⟨vs, ρ1, h1, xs, ρ2, l, h2, h3, h0, hs, hk⟩ := h
  refine ws_seq ?_
  obtain ⟨r, ρ', h4, h5⟩ := forL_w (f := fun x ρ => (Res.of (setTg io tg x ρ) ρ).bind fun ρ _ => exSs T Γ io body ρ) (P := P) (R := andThen T Γ io ss QS) (l := l) (j := 0) h0 (fun i x hx ρ hp => by
    rw [Nat.zero_add] at hp ⊢
    obtain ⟨ρ', e1, r, ρ2, e2, q⟩ := hs i x ρ hx hp
    refine ⟨r, ρ2, by simp only [e1, of_some, bind_ok]; exact e2, ?_⟩
    cases r <;> exact q) fun ρ hp => hk ρ (by rwa [Nat.zero_add] at hp)
  exact ⟨r, ρ', by rw [exS, h1, bind_ok, h2, bind_ok, h3, of_some, bind_ok]; exact h4, h5⟩
theorem whileL_w {c : Env → Res Bool} {f : Env → Res Fl} {P : Nat → Env → Prop} {R : Fl → Env → Prop} (step : ∀ m ρ, P m ρ → ∃ t ρ1, c ρ = .ok t ρ1 ∧ (t = false → R .next ρ1) ∧ (t = true → ∃ r ρ2, f ρ1 = .ok r ρ2 ∧ match r with | .ret x => R (.ret x) ρ2 | _ => ∃ m', m' < m ∧ P m' ρ2)) :
    ∀ (fuel m : Nat) (ρ : Env), m < fuel → P m ρ → ∃ r ρ', whileL c f fuel ρ = .ok r ρ' ∧ R r ρ'
  | 0, m, ρ, h, _ => absurd h (Nat.not_lt_zero _)
  | n + 1, m, ρ, h, hp => by
    obtain ⟨t, ρ1, h1, k1, k2⟩ := step m ρ hp
    cases t with
    | false => exact ⟨_, ρ1, by rw [whileL, h1, bind_ok, if_neg Bool.false_ne_true], k1 rfl⟩
    | true =>
      obtain ⟨r, ρ2, h2, h3⟩ := k2 rfl
      cases r with
      | ret x => exact ⟨_, ρ2, by rw [whileL, h1, bind_ok, if_pos rfl, h2, bind_ok], h3⟩
      | next =>
        obtain ⟨m', hm, hp'⟩ := h3
        obtain ⟨r, ρ', h4, h5⟩ := whileL_w step n m' ρ2 (by omega) hp'
        exact ⟨r, ρ', by rw [whileL, h1, bind_ok, if_pos rfl, h2, bind_ok]; exact h4, h5⟩
      | cont =>
        obtain ⟨m', hm, hp'⟩ := h3
        obtain ⟨r, ρ', h4, h5⟩ := whileL_w step n m' ρ2 (by omega) hp'
        exact ⟨r, ρ', by rw [whileL, h1, bind_ok, if_pos rfl, h2, bind_ok]; exact h4, h5⟩
theorem ws_while (P : Nat → Env → Prop) (m : Nat) (hm : m < 5000) (h0 : P m ρ) (step : ∀ m ρ, P m ρ → WE T Γ c ρ fun v ρ1 => ∃ t, v = .own (.d (.bool t)) ∧ (t = true → WS T Γ io body ρ1 (turnEnd (fun ρ2 => Fin (∃ m', m' < m ∧ P m' ρ2)) QS)) ∧ (t = false → WS T Γ io ss ρ1 QS)) : WS T Γ io (.while c body :: ss) ρ QS := by
  refine ws_seq ?_
  obtain ⟨r, ρ', h1, h2⟩ := whileL_w (c := evB T Γ c) (f := fun ρ => exSs T Γ io body ρ) (P := P) (R := andThen T Γ io ss QS) (fun m ρ hp => by
    obtain ⟨v, ρ1, e1, t, rfl, k1, k2⟩ := step m ρ hp
    refine ⟨t, ρ1, by unfold evB; rw [e1, bind_ok, ab_own], k2, fun ht => ?_⟩
    obtain ⟨r, ρ2, e2, q⟩ := k1 ht
    refine ⟨r, ρ2, e2, ?_⟩
    cases r <;> first | exact q | exact q.out) fuelW m ρ hm h0
  exact ⟨r, ρ', by rw [exS]; exact h1, h2⟩
/-! comprehensions -/
theorem compL_w {f : PyData → Env → Res (List C)} {P : Nat → List C → Env → Prop} : ∀ {l : List PyData} {j : Nat} {acc : List C} {ρ : Env}, P j acc ρ → (∀ i x acc, l[i]? = some x → ∀ ρ, P (j + i) acc ρ → ∃ ys ρ', f x ρ = .ok ys ρ' ∧ P (j + i + 1) (acc ++ ys) ρ') →
    ∃ ys ρ', compL f l ρ = .ok ys ρ' ∧ P (j + l.length) (acc ++ ys) ρ'
  | [], j, acc, ρ, h, _ => ⟨[], ρ, rfl, by rw [List.append_nil]; exact h⟩
  | x :: xs, j, acc, ρ, h, hs => by
    obtain ⟨ys, ρ1, h1, h2⟩ := hs 0 x acc rfl ρ h
    obtain ⟨zs, ρ2, h3, h4⟩ := compL_w (l := xs) (j := j + 1) h2 fun i y acc hy ρ hp => by
      have e : j + 1 + i = j + (i + 1) := by omega
      rw [e] at hp ⊢
      exact hs (i + 1) y acc hy ρ hp
    refine ⟨ys ++ zs, ρ2, by rw [compL, h1, bind_ok, h3, bind_ok], ?_⟩
    rw [List.length_cons, ← List.append_assoc]
    have e : j + (xs.length + 1) = j + 1 + xs.length := by omega
    rw [e]
    exact h4
theorem we_compI {elt : E} {tg : Tg} {k : ItK} {src cond : List E} {own : List Nat} (P : Nat → List C → Env → Prop) (h : WV T Γ src ρ fun vs ρ1 => ∃ xs ρ2 l, (if (nc elt && ncs cond) = true then Res.of (peeks ρ1 vs) ρ1 else frzs vs ρ1) = .ok xs ρ2 ∧ srcOf k xs = some l ∧ ownD ρ2 own = true ∧ P 0 [] (wipe ρ2 own) ∧
      (∀ j x acc ρ, l[j]? = some x → P j acc ρ → ∃ ρx, setTg [] tg x ρ = some ρx ∧ WA T Γ cond ρx fun t ρ' => (t = true → WE T Γ elt ρ' fun v ρ'' => ∃ y ρ3, putIn elt ρ'' v = .ok y ρ3 ∧ ownD ρ3 own = true ∧ P (j + 1) (acc ++ [y]) (wipe ρ3 own)) ∧ (t = false → ownD ρ' own = true ∧ P (j + 1) acc (wipe ρ' own))) ∧
      (∀ ys ρ', P l.length ys ρ' → Q (.own (.lst ys)) (unwipe ρ2 ρ' own))) : WE T Γ (.comp elt tg k src cond own) ρ Q := by
  obtain ⟨vs, ρ1, h1, xs, ρ2, l, h2, h3, ho, h0, hs, hq⟩ := h
  obtain ⟨ys, ρ', h4, h5⟩ := compL_w (f := turnF tg own elt (fun ρ => evAnd T Γ cond ρ) (fun ρ => evE T Γ elt ρ)) (P := P) (l := l) (j := 0) (acc := []) h0 fun i x acc hx ρ hp => by
    rw [Nat.zero_add] at hp ⊢
    obtain ⟨ρx, e1, t, ρt, e2, k1, k2⟩ := hs i x acc ρ hx hp
    cases t with
    | true =>
      obtain ⟨v, ρv, e3, y, ρ3, e4, e5, e6⟩ := k1 rfl
      exact ⟨[y], wipe ρ3 own, by rw [turnF, e1, of_some, bind_ok, e2, bind_ok, ab_own, bind_ok, if_pos rfl, e3, bind_ok, e4, bind_ok, e5, if_pos rfl], e6⟩
    | false =>
      obtain ⟨e5, e6⟩ := k2 rfl
      exact ⟨[], wipe ρt own, by rw [turnF, e1, of_some, bind_ok, e2, bind_ok, ab_own, bind_ok, if_neg Bool.false_ne_true, e5, if_pos rfl], by rw [List.append_nil]; exact e6⟩
  rw [Nat.zero_add, List.nil_append] at h5
  exact ⟨_, _, by rw [evE, h1, bind_ok, h2, bind_ok, h3, of_some, bind_ok, ho, Bool.not_true, if_neg Bool.false_ne_true, h4, inner_ok], hq ys ρ' h5⟩
/-- [elt for .. in .. if ..], nothing changes -/
theorem we_comp {elt : E} {tg : Tg} {k : ItK} {src cond : List E} {own : List Nat} (p : PyData → Bool) (g : PyData → PyData) (h : WV T Γ src ρ fun vs ρ1 => ∃ xs ρ2 l, (if (nc elt && ncs cond) = true then Res.of (peeks ρ1 vs) ρ1 else frzs vs ρ1) = .ok xs ρ2 ∧ srcOf k xs = some l ∧ ownD ρ2 own = true ∧ unwipe ρ2 (wipe ρ2 own) own = ρ2 ∧
      (∀ x ∈ l, ∃ ρx, setTg [] tg x (wipe ρ2 own) = some ρx ∧ ownD ρx own = true ∧ wipe ρx own = wipe ρ2 own ∧ WA T Γ cond ρx fun t ρ' => t = p x ∧ ρ' = ρx ∧ (p x = true → WE T Γ elt ρx fun v ρ'' => putIn elt ρ'' v = .ok (.d (g x)) ρx)) ∧ Q (.own (fresh ((l.filter p).map g))) ρ2) : WE T Γ (.comp elt tg k src cond own) ρ Q := by
  obtain ⟨vs, ρ1, h1, xs, ρ2, l, h2, h3, ho, hu, hs, hq⟩ := h
  refine we_compI (fun j acc ρ => ρ = wipe ρ2 own ∧ acc = (((l.take j).filter p).map g).map .d) ⟨vs, ρ1, h1, xs, ρ2, l, h2, h3, ho, ⟨rfl, rfl⟩, ?_, ?_⟩
  · rintro j x acc ρ hx ⟨rfl, rfl⟩
    obtain ⟨hj, hxe⟩ := List.getElem?_eq_some_iff.mp hx
    obtain ⟨ρx, e1, e2, e3, t, ρ', e4, rfl, rfl, k1⟩ := hs x (List.mem_of_getElem? hx)
    have ht : l.take (j + 1) = l.take j ++ [x] := by
      rw [List.take_add_one, hx]
      rfl
    refine ⟨_, e1, p x, _, e4, fun hp => ?_, fun hp => ?_⟩
    · obtain ⟨v, ρ'', e5, e6⟩ := k1 hp
      refine ⟨v, ρ'', e5, _, _, e6, e2, e3, ?_⟩
      rw [ht, List.filter_append, List.map_append, List.map_append]
      simp [hp]
    · refine ⟨e2, e3, ?_⟩
      rw [ht, List.filter_append, List.map_append, List.map_append]
      simp [hp]
  · rintro ys ρ' ⟨rfl, rfl⟩
    rw [hu, List.take_length]
    exact hq
/-! a call by its body -/
def callEnd (io : List Nat) (np : Nat) (R : C → List (Option C) → Prop) : Fl → Env → Prop
  | .ret c, ρ => R c (finOf io ρ np)
  | .next, ρ => R (.d .none) (finOf io ρ np)
  | .cont, _ => False
theorem callEnd_r {io : List Nat} {np : Nat} {R : C → List (Option C) → Prop} {c : C} {ρ : Env} (h : R c (finOf io ρ np)) : callEnd io np R (.ret c) ρ := h
theorem callEnd_n {io : List Nat} {np : Nat} {R : C → List (Option C) → Prop} {ρ : Env} (h : R (.d .none) (finOf io ρ np)) : callEnd io np R .next ρ := h
theorem turnEnd_r {P : Env → Prop} {QS : Fl → Env → Prop} {c : C} {ρ : Env} (h : QS (.ret c) ρ) : turnEnd P QS (.ret c) ρ := h
theorem turnEnd_n {P : Env → Prop} {QS : Fl → Env → Prop} {ρ : Env} (h : P ρ) : turnEnd P QS .next ρ := h
theorem turnEnd_c {P : Env → Prop} {QS : Fl → Env → Prop} {ρ : Env} (h : P ρ) : turnEnd P QS .cont ρ := h
theorem andThen_r {T : Tab} {Γ : Nat → List C → FRes} {io : List Nat} {ss : List S} {QS : Fl → Env → Prop} {c : C} {ρ : Env} (h : QS (.ret c) ρ) : andThen T Γ io ss QS (.ret c) ρ := h
theorem andThen_n {T : Tab} {Γ : Nat → List C → FRes} {io : List Nat} {ss : List S} {QS : Fl → Env → Prop} {ρ : Env} (h : WS T Γ io ss ρ QS) : andThen T Γ io ss QS .next ρ := h
theorem andThen_c {T : Tab} {Γ : Nat → List C → FRes} {io : List Nat} {ss : List S} {QS : Fl → Env → Prop} {ρ : Env} (h : QS .cont ρ) : andThen T Γ io ss QS .cont ρ := h
theorem call_of {n f : Nat} {fd : Fd} {args : List C} {R : C → List (Option C) → Prop} (h : T.fns[f]? = some fd) (hl : args.length = fd.np) (hb : WS T (callF T n) fd.io fd.body (args.map some ++ List.replicate (fd.ns - fd.np) none) (callEnd fd.io fd.np R)) : ∃ r fin, callF T (n + 1) f args = .ok r fin ∧ R r fin := by
  obtain ⟨r, ρ', h1, q⟩ := hb
  cases r with
  | ret c => exact ⟨c, _, by rw [callF, h]; simp only [hl, if_true, h1], q⟩
  | next => exact ⟨_, _, by rw [callF, h]; simp only [hl, if_true, h1], q⟩
  | cont => exact q.elim
end
theorem fz_f {ρ : Env} {xs : List PyData} : Z.frz ρ (.own (fresh xs)) = .ok (.list xs) ρ := by
  rw [fz_own, td_f]
  rfl
theorem fz_b {ρ ρ' : Env} {i : Nat} {xs : List PyData} (h : slot ρ i = some (fresh xs)) (hs : SetAt ρ i (some (.d (.list xs))) ρ') : Z.frz ρ (.bor i []) = .ok (.list xs) ρ' := by
  have : (look ρ (.bor i [])).bind C.toD = some (.list xs) := by
    rw [lk_bor h, Option.bind_some, td_f]
  simp only [Z.frz, this]
  unfold putV
  simp only [h, C.putP]
  rw [hs.2]
theorem pk_f {ρ : Env} {xs : List PyData} : peek ρ (.own (fresh xs)) = some (.list xs) := by rw [pk_own, fl_f]
theorem pk_fl {ρ : Env} {cs : List C} {xs : List PyData} (h : flats cs = some xs) : peek ρ (.own (.lst cs)) = some (.list xs) := by rw [pk_own, C.flat, h]; rfl
end Z
set_option linter.all false
set_option Elab.async false
/-! W3: the tactic. -/
namespace Z
open PySem
section
variable {x y : Int} {s t : Str} {xs ys : List PyData}
theorem o_mod (h : y ≠ 0) : sem2 .mod (.int x) (.int y) = some (.d (.int (x.fmod y))) := by rw [s2_mod, if_neg h]
theorem o_fdiv (h : y ≠ 0) (h2 : y.natAbs < 1073741824) : sem2 .fdiv (.int x) (.int y) = some (.d (.int (x.fdiv y))) := by
  rw [s2_fdiv, if_neg (by rintro (h | h) <;> omega)]
theorem o_mulL (h : x.natAbs < 2 ^ 64) : sem2 .mul (.int x) (.int y) = some (.d (.int (x * y))) := by rw [s2_mul, if_pos (.inl h)]
theorem o_mulR (h : y.natAbs < 2 ^ 64) : sem2 .mul (.int x) (.int y) = some (.d (.int (x * y))) := by rw [s2_mul, if_pos (.inr h)]
theorem o_adds (h : s.length + t.length ≤ 16777216) : sem2 .add (.str s) (.str t) = some (.d (.str (s ++ t))) := by rw [s2_adds, if_pos h]
theorem o_addl (h : xs.length + ys.length ≤ 16777216) : sem2 .add (.list xs) (.list ys) = some (fresh (xs ++ ys)) := by rw [s2_addl, if_pos h]
theorem o_addt (h : xs.length + ys.length ≤ 16777216) : sem2 .add (.tuple xs) (.tuple ys) = some (.d (.tuple (xs ++ ys))) := by rw [s2_addt, if_pos h]
theorem o_eqb {a b : Bool} : sem2 .eq (.bool a) (.bool b) = some (.d (.bool (a == b))) := rfl
theorem o_neb {a b : Bool} : sem2 .ne (.bool a) (.bool b) = some (.d (.bool (!(a == b)))) := rfl
theorem b_lens (h : s.length ≤ 16777216) : biS .len [.str s] = some (.d (.int s.length)) := by rw [bi_lens, if_pos h]
theorem sd_tn {k : Nat} {d : PyData} (h : xs[k]? = some d) : subD (.tuple xs) (.int (k : Int)) = some d := by
  have hk := (List.getElem?_eq_some_iff.mp h).1
  rw [sd_t, seq_nat, if_pos hk, Option.bind_some, h]
theorem sd_ln {k : Nat} {d : PyData} (h : xs[k]? = some d) : subD (.list xs) (.int (k : Int)) = some d := by
  have hk := (List.getElem?_eq_some_iff.mp h).1
  rw [sd_l, seq_nat, if_pos hk, Option.bind_some, h]
end
theorem src_list {xs : List PyData} : srcOf .pl [.list xs] = some xs := rfl
theorem src_tup {xs : List PyData} : srcOf .pl [.tuple xs] = some xs := rfl
theorem src_enl {xs : List PyData} : srcOf .enum [.list xs] = some (enumD 0 xs) := rfl
theorem src_ent {xs : List PyData} : srcOf .enum [.tuple xs] = some (enumD 0 xs) := rfl
theorem fr_s1 {ρ ρ1 : Env} {v : Val} {x : PyData} (h : Z.frz ρ v = .ok x ρ1) : frzs [v] ρ = .ok [x] ρ1 := by rw [frzs, h, bind_ok, frzs, bind_ok]
theorem fr_s0 {ρ : Env} : frzs [] ρ = .ok [] ρ := rfl
theorem fr_sc {ρ ρ1 ρ2 : Env} {v : Val} {x : PyData} {vs : List Val} {xs : List PyData} (h : Z.frz ρ v = .ok x ρ1) (h2 : frzs vs ρ1 = .ok xs ρ2) : frzs (v :: vs) ρ = .ok (x :: xs) ρ2 := by rw [frzs, h, bind_ok, h2, bind_ok]
theorem pk_0 {ρ : Env} : peeks ρ [] = some [] := rfl
theorem pk_c {ρ : Env} {v : Val} {x : PyData} {vs : List Val} {xs : List PyData} (h : peek ρ v = some x) (h2 : peeks ρ vs = some xs) : peeks ρ (v :: vs) = some (x :: xs) := by rw [peeks, h, Option.bind_some, h2]; rfl
theorem pk_if {ρ : Env} {pu : Bool} {vs : List Val} {xs : List PyData} (h : peeks ρ vs = some xs) (h2 : pu = true) : (if pu = true then Res.of (peeks ρ vs) ρ else frzs vs ρ) = .ok xs ρ := by rw [if_pos h2, h]; rfl
theorem fr_if {ρ ρ2 : Env} {pu : Bool} {vs : List Val} {xs : List PyData} (h : frzs vs ρ = .ok xs ρ2) (h2 : pu = false) : (if pu = true then Res.of (peeks ρ vs) ρ else frzs vs ρ) = .ok xs ρ2 := by rw [if_neg (by rw [h2]; exact Bool.false_ne_true), h]
theorem flat_fr {xs : List PyData} : (fresh xs).flat = some (.list xs) := fl_f
theorem lk_b {ρ : Env} {i : Nat} {C0 : C} (h : slot ρ i = some C0) : look ρ (.bor i []) = some C0 := lk_bor h

section
variable {T : Tab} {Γ : Nat → List C → FRes} {ρ : Env} {b : E} {Q : Val → Env → Prop} {i : Nat}
/-- a part of an own list of data -/
theorem we_subV {cs : List C} (h : slot ρ i = some (.lst cs)) (k : WE T Γ b ρ fun u ρ2 => ∃ v xs y, u = .own (.d (.int v)) ∧ slot ρ2 i = some (fresh xs) ∧ subD (.list xs) (.int v) = some y ∧ Q (.own (.d y)) ρ2) : WE T Γ (.sub (.var i) b) ρ Q := by
  obtain ⟨u, ρ2, e, v, xs, y, rfl, h2, h3, q⟩ := k
  rw [sd_l] at h3
  obtain ⟨j, e1, e2⟩ := Option.bind_eq_some_iff.mp h3
  refine we_subB ⟨.bor i [], ρ, by rw [evE, h], _, ρ2, e, rfl, i, [], .int v, fresh xs, .idx j, y, rfl, rfl, lk_bor h2, ?_, ?_, q⟩
  · show (seqI (xs.map C.d).length v).map Sel.idx = _
    rw [List.length_map, e1]
    rfl
  · show (xs.map C.d)[j]? = _
    rw [List.getElem?_map, e2]
    rfl
/-- a part of an own dict -/
theorem we_subK {kvs : List (Ky × C)} (h : slot ρ i = some (.dct kvs)) (k : WE T Γ b ρ fun u ρ2 => ∃ k j kvs' y, u = .own (.d k) ∧ dKy k = some j ∧ slot ρ2 i = some (.dct kvs') ∧ getA kvs' j = some (.d y) ∧ Q (.own (.d y)) ρ2) : WE T Γ (.sub (.var i) b) ρ Q := by
  obtain ⟨u, ρ2, e, k, j, kvs', y, rfl, hk, h2, h3, q⟩ := k
  refine we_subB ⟨.bor i [], ρ, by rw [evE, h], _, ρ2, e, rfl, i, [], k, .dct kvs', .key j, y, rfl, rfl, lk_bor h2, ?_, h3, q⟩
  cases k <;> simp only [dKy, Option.some.injEq] at hk <;> first | (cases hk; done) | (subst hk; rfl)
end
section
variable {T : Tab} {Γ : Nat → List C → FRes} {io : List Nat} {ρ ρ' : Env} {a b c e : E} {es : List E} {QS : Fl → Env → Prop} {ss sa sb : List S} {i : Nat} {d x y : PyData}
theorem ws_assignP (h : Ev T Γ ρ e d) (h2 : SetAt ρ i (some (.d d)) ρ') (h3 : io.contains i = false) (k : WS T Γ io ss ρ' QS) : WS T Γ io (.assign i e :: ss) ρ QS := ws_assign ⟨_, _, h, _, _, _, rfl, h2, h3, k⟩
theorem ws_retP (h : Ev T Γ ρ e d) (q : QS (.ret (.d d)) ρ) : WS T Γ io (.ret e :: ss) ρ QS := ws_ret ⟨_, _, h, _, _, rfl, q⟩
theorem ws_iffP {t : Bool} (h : Ev T Γ ρ c (.bool t)) (k1 : t = true → WS T Γ io sa ρ (andThen T Γ io ss QS)) (k2 : t = false → WS T Γ io sb ρ (andThen T Γ io ss QS)) : WS T Γ io (.iff c sa sb :: ss) ρ QS := ws_iff ⟨_, _, h, _, rfl, k1, k2⟩
theorem ws_appendP {xs : List PyData} (h0 : slot ρ i = some (fresh xs)) (h : Ev T Γ ρ e d) (hk : ∀ ρ v, putIn e ρ v = (Z.frz ρ v).bind fun x ρ => .ok (.d x) ρ) (hl : xs.length < 16777216) (h2 : SetAt ρ i (some (fresh (xs ++ [d]))) ρ') (k : WS T Γ io ss ρ' QS) : WS T Γ io (.ex (.meth .append (.var i) [e]) :: ss) ρ QS := by
  refine ws_append (cs := xs.map .d) h0 (wpc ⟨_, _, h, _, _, by rw [hk]; exact rfl, wp0 ⟨_, _, _, rfl, h0, by rw [List.length_map]; exact hl, ?_, k⟩⟩)
  have : xs.map C.d ++ [C.d d] = (xs ++ [d]).map .d := by rw [List.map_append]; rfl
  rw [this]
  exact h2
theorem p_subV {xs : List PyData} {v : Int} (h : slot ρ i = some (fresh xs)) (hb : Ev T Γ ρ b (.int v)) (hs : subD (.list xs) (.int v) = some y) : Ev T Γ ρ (.sub (.var i) b) y := by
  obtain ⟨_, _, e, h1, h2⟩ := we_subV (Q := fun v ρ' => v = .own (.d y) ∧ ρ' = ρ) (cs := xs.map .d) h ⟨_, _, hb, v, xs, y, rfl, h, hs, rfl, rfl⟩
  subst h1 h2
  exact e
theorem p_biV {f : BI} {xs : List PyData} {z : PyData} (h : slot ρ i = some (fresh xs)) (hb : biS f [.list xs] = some (.d z)) : Ev T Γ ρ (.bi f [.var i]) z := by
  obtain ⟨_, _, e, h1, h2⟩ := we_bi (Q := fun v ρ' => v = .own (.d z) ∧ ρ' = ρ) (f := f) (es := [.var i]) (T := T) (Γ := Γ) (ρ := ρ) (wvc (we_vl (cs := xs.map .d) h ⟨rfl, wv0 ⟨_, _, pk_c (pk_fresh h) pk_0, hb, rfl, rfl⟩⟩))
  subst h1 h2
  exact e
def EvL (T : Tab) (Γ : Nat → List C → FRes) (ρ : Env) (es : List E) (xs : List PyData) : Prop := evVs T Γ es ρ = .ok (xs.map fun x => .own (.d x)) ρ
theorem el0 : EvL T Γ ρ [] [] := by unfold EvL; rw [evVs]; rfl
theorem elc {xs : List PyData} (h : Ev T Γ ρ e x) (h2 : EvL T Γ ρ es xs) : EvL T Γ ρ (e :: es) (x :: xs) := by
  unfold EvL Ev at *
  rw [evVs, h, bind_ok, hp_own, Bool.false_and, if_neg Bool.false_ne_true, h2, bind_ok]
  rfl
end
theorem call_eq {T : Tab} {n f : Nat} {args : List C} {r : C} {fin : List (Option C)} (k : ∃ r' fin', callF T n f args = .ok r' fin' ∧ Fin (r' = r ∧ fin' = fin)) : callF T n f args = .ok r fin := by
  obtain ⟨_, _, h, ⟨rfl, rfl⟩⟩ := k
  exact h
end Z
section ZW_
local macro_rules | `(tactic| sizeOf_list_dec) => `(tactic| first | (with_reducible first | refine And.intro ?_ ?_ | apply Exists.intro | exact Z.p_lit | exact Z.p_glob | apply Z.p_o2 | apply Z.p_not | apply Z.p_and | apply Z.p_or | apply Z.p_ac | apply Z.p_a1 | apply Z.p_rc | apply Z.p_r1 | apply Z.p_chain | apply Z.p_bi2 | apply Z.p_tup | exact Z.p_f0 | apply Z.p_fc | apply Z.p_isB | apply Z.p_notB | apply Z.p_isi | apply Z.p_neg | refine Z.callEnd_r ?_ | refine Z.callEnd_n ?_ | refine Z.turnEnd_r ?_ | refine Z.turnEnd_n ?_ | refine Z.turnEnd_c ?_ | refine Z.andThen_r ?_ | refine Z.andThen_n ?_ | refine Z.andThen_c ?_ | exact Z.el0 | apply Z.elc | exact rfl | assumption) | ((with_reducible show (_ : Nat) ≤ _); omega) | ((with_reducible show (_ : Nat) < _); omega) | ((with_reducible show (_ : Int) ≠ _); omega) | ((with_reducible apply Z.p_var); exact rfl) | ((with_reducible apply Z.p_lenf); exact rfl) | ((with_reducible apply Z.p_biV); (· exact rfl)) | (with_reducible apply Z.p_bi1) | ((with_reducible apply Z.p_subV); exact rfl) | (with_reducible apply Z.p_sub) | ((with_reducible apply Z.we_ev); (· ((repeat sizeOf_list_dec); done))) | ((with_reducible apply Z.ws_assignP); (· ((repeat sizeOf_list_dec); done)); (· ((repeat (first | exact Z.setZ | apply Z.setS)); done)); (· exact rfl)) | ((with_reducible apply Z.ws_retP); (· ((repeat sizeOf_list_dec); done))) | ((with_reducible apply Z.ws_iffP); (· ((repeat sizeOf_list_dec); done))) | ((with_reducible apply Z.ws_appendP); (· exact rfl); (· ((repeat sizeOf_list_dec); done)); (· exact fun _ _ => rfl); (· ((try simp only [List.length_append, List.length_cons, List.length_nil, List.length_map] at *); omega)); (· ((repeat (first | exact Z.setZ | apply Z.setS)); done))) | ((with_reducible apply Z.we_vd); (· exact rfl)) | ((with_reducible apply Z.we_vl); (· exact rfl)) | ((with_reducible apply Z.we_vk); (· exact rfl)) | ((with_reducible apply Z.we_vx); (· exact rfl)) | ((with_reducible apply Z.we_subV); (· exact rfl)) | ((with_reducible apply Z.we_subK); (· exact rfl)) | (with_reducible first | refine Z.we_lit ?_ | refine Z.we_glob ?_ | refine Z.we_o2 ?_ | refine Z.we_tup ?_ | refine Z.we_lst ?_ | refine Z.we_dict ?_ | refine Z.we_keep ?_ | refine Z.we_fz ?_ | refine Z.wf0 ?_ | refine Z.wfc ?_ | refine Z.wp0 ?_ | refine Z.wpc ?_ | refine Z.wv0 ?_ | refine Z.wvc ?_ | refine Z.wi0 ?_ | refine Z.wi1 ?_ | refine Z.wa1 ?_ | refine Z.wac ?_ | refine Z.wa0 ?_ | refine Z.we_and ?_ | refine Z.wo1 ?_ | refine Z.woc ?_ | refine Z.we_or ?_ | refine Z.we_not ?_ | refine Z.we_isB ?_ | refine Z.we_notB ?_ | refine Z.we_ite ?_ | refine Z.we_isN ?_ | refine Z.we_notN ?_ | refine Z.we_neg ?_ | refine Z.we_chain ?_ | refine Z.we_bi ?_ | refine Z.we_slc ?_ | refine Z.we_isi ?_ | refine Z.we_join ?_ | refine Z.we_sub ?_ | refine Z.ws_assign ?_ | refine Z.ws_iff ?_ | refine Z.ws_ret ?_ | refine Z.ws_nil ?_ | refine Z.ws_cont ?_ | refine Z.ws_pass ?_ | refine Z.ws_unpack ?_ | refine Z.ws_par2 ?_ | refine Z.ws_ret0 ?_ | refine Z.ws_setIx ?_) | ((with_reducible apply Z.ws_append); (· exact rfl)) | ((with_reducible apply Z.ws_extend); (· exact rfl)) | (with_reducible refine Z.ws_ex ?_) | ((with_reducible first | exact Z.s2_add | exact Z.s2_sub | exact Z.s2_lt | exact Z.s2_le | exact Z.s2_gt | exact Z.s2_ge | exact Z.s2_eqi | exact Z.s2_nei | exact Z.s2_eqs | exact Z.s2_nes | exact Z.o_eqb | exact Z.o_neb | exact Z.s2_nel0 | exact Z.s2_eql0 | exact Z.s2_ins | refine Z.o_mod ?_ | refine Z.o_fdiv ?_ ?_ | refine Z.o_addl ?_ | refine Z.o_addt ?_)) | ((with_reducible first | exact Z.bi_lenl | exact Z.bi_lent | refine Z.b_lens ?_ | exact Z.bi_abs | exact Z.bi_min | exact Z.bi_tl | exact Z.bi_ll | exact Z.bi_lt)) | ((with_reducible refine Z.o_mulL ?_); omega) | ((with_reducible refine Z.o_mulR ?_); omega) | (first | exact rfl | exact Z.fz_f | (refine Z.fz_b rfl ?_; (repeat (first | exact Z.setZ | apply Z.setS)); done)) | (first | exact rfl | exact Z.pk_f | exact Z.pk_fresh rfl | exact Z.pk_fl Z.flats_d) | (with_reducible first | exact Z.pk_0 | apply Z.pk_c | exact Z.fr_s0 | apply Z.fr_sc) | ((with_reducible show Z.SetAt _ _ _ _); (repeat (first | exact Z.setZ | apply Z.setS)); done) | ((with_reducible show Z.setTg _ _ _ _ = _); ((repeat (first | exact Z.tgs0 | exact Z.setZ | (with_reducible apply Z.tgsC) | (with_reducible apply Z.tgT) | ((with_reducible apply Z.tgN); (· ((repeat (first | exact Z.setZ | apply Z.setS)); done)); (· exact rfl)) | (with_reducible apply Z.setS)))); done) | exact Z.src_list | exact Z.src_tup | exact Z.src_enl | exact Z.src_ent | exact Z.flat_fr | exact Z.lk_b rfl | exact rfl | (intro hzz; (first | exact absurd hzz (by decide) | (simp only [decide_eq_true_eq, decide_eq_false_iff_not, Bool.not_eq_true', Bool.not_eq_false', beq_iff_eq, beq_eq_false_iff_ne, ne_eq, Int.not_le, Int.not_lt, not_true, not_false_iff] at hzz; first | (exfalso; omega) | skip) | skip)))

set_option linter.all false
set_option Elab.async false
/-! W4: loops over ranges, enumerate; calls. -/
namespace Z
open PySem
section
variable {T : Tab} {Γ : Nat → List C → FRes} {io : List Nat} {ρ ρ' : Env} {a b c e : E} {es : List E} {Q : Val → Env → Prop} {QS : Fl → Env → Prop} {ss body : List S} {i k : Nat} {d x y : PyData}
theorem ws_forR {m : Nat} (P : Nat → Env → Prop) (he : Ev T Γ ρ e (.int m)) (hm : m ≤ 16777216) (hio : io.contains i = false) (h0 : P 0 ρ) (hs : ∀ j, j < m → ∀ ρ, P j ρ → ∃ ρ', SetAt ρ i (some (.d (.int (j : Nat)))) ρ' ∧ WS T Γ io body ρ' (turnEnd (P (j + 1)) QS)) (hk : ∀ ρ, P m ρ → WS T Γ io ss ρ QS) :
    WS T Γ io (.for (.nm i) .range [e] body :: ss) ρ QS := by
  refine ws_for P (wvc ⟨_, _, he, rfl, wv0 ⟨[.int m], ρ, rangeD 0 m, rfl, src_rng hm, h0, fun j x ρ hx hp => ?_, fun ρ hp => hk ρ (by rwa [rng_len] at hp)⟩⟩)
  obtain ⟨hj, rfl⟩ := rng_at hx
  obtain ⟨ρ', h1, h2⟩ := hs j hj ρ hp
  exact ⟨ρ', tgN h1 hio, h2⟩
theorem ws_forT {tg : Tg} {l : List PyData} (P : Nat → Env → Prop) (he : Ev T Γ ρ e d) (hl : srcOf .pl [d] = some l) (h0 : P 0 ρ) (hs : ∀ j x, l[j]? = some x → ∀ ρ, P j ρ → ∃ ρ', setTg io tg x ρ = some ρ' ∧ WS T Γ io body ρ' (turnEnd (P (j + 1)) QS)) (hk : ∀ ρ, P l.length ρ → WS T Γ io ss ρ QS) :
    WS T Γ io (.for tg .pl [e] body :: ss) ρ QS :=
  ws_for P (wvc ⟨_, _, he, rfl, wv0 ⟨[d], ρ, l, rfl, hl, h0, fun j x ρ hx hp => hs j x hx ρ hp, hk⟩⟩)
/-- over an own list of the frame: frozen first -/
theorem ws_forV {tg : Tg} {l : List PyData} (P : Nat → Env → Prop) (he : slot ρ k = some (fresh l)) (hf : SetAt ρ k (some (.d (.list l))) ρ') (h0 : P 0 ρ') (hs : ∀ j x, l[j]? = some x → ∀ ρ, P j ρ → ∃ ρ', setTg io tg x ρ = some ρ' ∧ WS T Γ io body ρ' (turnEnd (P (j + 1)) QS)) (hk : ∀ ρ, P l.length ρ → WS T Γ io ss ρ QS) :
    WS T Γ io (.for tg .pl [.var k] body :: ss) ρ QS :=
  ws_for P (wvc (we_vl (cs := l.map .d) he ⟨rfl, wv0 ⟨[.list l], ρ', l, fr_s1 (fz_b he hf), rfl, h0, fun j x ρ hx hp => hs j x hx ρ hp, hk⟩⟩))
/-- over an own list that e tells -/
theorem ws_forF {tg : Tg} {l : List PyData} (P : Nat → Env → Prop) (he : evE T Γ e ρ = .ok (.own (fresh l)) ρ') (h0 : P 0 ρ') (hs : ∀ j x, l[j]? = some x → ∀ ρ, P j ρ → ∃ ρ', setTg io tg x ρ = some ρ' ∧ WS T Γ io body ρ' (turnEnd (P (j + 1)) QS)) (hk : ∀ ρ, P l.length ρ → WS T Γ io ss ρ QS) :
    WS T Γ io (.for tg .pl [e] body :: ss) ρ QS :=
  ws_for P (wvc ⟨_, _, he, rfl, wv0 ⟨[.list l], ρ', l, fr_s1 fz_f, rfl, h0, fun j x ρ hx hp => hs j x hx ρ hp, hk⟩⟩)
theorem enum_at {l : List PyData} {k j : Nat} {x : PyData} (h : (enumD k l)[j]? = some x) : ∃ y, l[j]? = some y ∧ x = .tuple [.int ((k + j : Nat) : Int), y] := by
  induction l generalizing k j with
  | nil => simp [enumD] at h
  | cons z l ih =>
    rw [enumD] at h
    cases j with
    | zero => simp at h; exact ⟨z, rfl, by rw [← h]; rfl⟩
    | succ j =>
      rw [List.getElem?_cons_succ] at h
      obtain ⟨y, h1, h2⟩ := ih h
      refine ⟨y, by simpa using h1, ?_⟩
      rw [h2]
      have : k + 1 + j = k + (j + 1) := by omega
      rw [this]
theorem enumD_len {l : List PyData} : ∀ {k : Nat}, (enumD k l).length = l.length := by
  induction l with
  | nil => intro k; rfl
  | cons y ys ih => intro k; rw [enumD, List.length_cons, List.length_cons, ih]
theorem ws_forE {i2 : Nat} {xs : List PyData} (P : Nat → Env → Prop) (he : Ev T Γ ρ e (.tuple xs)) (hio : io.contains i = false) (hio2 : io.contains i2 = false) (h0 : P 0 ρ) (hs : ∀ j x, xs[j]? = some x → ∀ ρ, P j ρ → ∃ ρ1 ρ', SetAt ρ i (some (.d (.int (j : Nat)))) ρ1 ∧ SetAt ρ1 i2 (some (.d x)) ρ' ∧ WS T Γ io body ρ' (turnEnd (P (j + 1)) QS)) (hk : ∀ ρ, P xs.length ρ → WS T Γ io ss ρ QS) :
    WS T Γ io (.for (.tup [.nm i, .nm i2]) .enum [e] body :: ss) ρ QS := by
  refine ws_for P (wvc ⟨_, _, he, rfl, wv0 ⟨[.tuple xs], ρ, enumD 0 xs, rfl, rfl, h0, fun j x ρ hx hp => ?_, fun ρ hp => hk ρ (by rwa [enumD_len] at hp)⟩⟩)
  obtain ⟨y, h1, rfl⟩ := enum_at hx
  obtain ⟨ρ1, ρ', h2, h3, h4⟩ := hs j y h1 ρ hp
  rw [Nat.zero_add]
  exact ⟨ρ', tgT (tgsC (tgN h2 hio) (tgsC (tgN h3 hio2) tgs0)), h4⟩
/-! calls -/
theorem frzs_own {xs : List PyData} : frzs (xs.map fun x => .own (.d x)) ρ = .ok xs ρ := by
  induction xs with
  | nil => rfl
  | cons x xs ih => rw [List.map_cons, frzs, fz_own, td_d, of_some, bind_ok, ih, bind_ok]
theorem e_call {f : Nat} {fd : Fd} {xs : List PyData} {r : C} {fin : List (Option C)} (h1 : T.fns[f]? = some fd) (h2 : fd.io = []) (h3 : EvL T Γ ρ es xs) (h4 : Γ f (xs.map .d) = .ok r fin) (h5 : fin.length = xs.length) : evE T Γ (.call f es) ρ = .ok (.own r) ρ := by
  obtain ⟨v, ρ1, h6, h7, h8⟩ := we_call (Q := fun v ρ' => v = .own r ∧ ρ' = ρ) h1 h2 ⟨_, _, h3, xs, ρ, r, fin, frzs_own, h4, h5, rfl, rfl⟩
  subst h7 h8
  exact h6
theorem p_call {f : Nat} {fd : Fd} {xs : List PyData} {fin : List (Option C)} (h1 : T.fns[f]? = some fd) (h2 : fd.io = []) (h3 : EvL T Γ ρ es xs) (h4 : Γ f (xs.map .d) = .ok (.d d) fin) (h5 : fin.length = xs.length) : Ev T Γ ρ (.call f es) d := e_call h1 h2 h3 h4 h5
/-- [elt for .. in e if ..], nothing changes, as an own list -/
theorem e_comp {elt : E} {tg : Tg} {kk : ItK} {src cond : List E} {own : List Nat} (p : PyData → Bool) (g : PyData → PyData) {l : List PyData} (h : WV T Γ src ρ fun vs ρ1 => ∃ xs, (if (nc elt && ncs cond) = true then Res.of (peeks ρ1 vs) ρ1 else frzs vs ρ1) = .ok xs ρ ∧ srcOf kk xs = some l) (ho : ownD ρ own = true) (hu : unwipe ρ (wipe ρ own) own = ρ)
    (hs : ∀ x ∈ l, ∃ ρx, setTg [] tg x (wipe ρ own) = some ρx ∧ ownD ρx own = true ∧ wipe ρx own = wipe ρ own ∧ WA T Γ cond ρx fun t ρ' => t = p x ∧ ρ' = ρx ∧ (p x = true → WE T Γ elt ρx fun v ρ'' => putIn elt ρ'' v = .ok (.d (g x)) ρx)) : evE T Γ (.comp elt tg kk src cond own) ρ = .ok (.own (fresh ((l.filter p).map g))) ρ := by
  obtain ⟨vs, ρ1, h1, xs, h2, h3⟩ := h
  obtain ⟨v, ρ', h6, h7, h8⟩ := we_comp (Q := fun v ρ' => v = .own (fresh ((l.filter p).map g)) ∧ ρ' = ρ) p g ⟨vs, ρ1, h1, xs, ρ, l, h2, h3, ho, hu, hs, rfl, rfl⟩
  subst h7 h8
  exact h6
theorem wa_a {t : Bool} {Q : Bool → Env → Prop} (h : EvA T Γ ρ es t) (q : Q t ρ) : WA T Γ es ρ Q := ⟨t, ρ, h, q⟩
theorem ev_we (h : Ev T Γ ρ e d) : WE T Γ e ρ fun v ρ' => v = .own (.d d) ∧ ρ' = ρ := ⟨_, _, h, rfl, rfl⟩
/-- the element is told -/
theorem we_put (h : Ev T Γ ρ e d) (hk : ∀ ρ v, putIn e ρ v = (Z.frz ρ v).bind fun x ρ => .ok (.d x) ρ) : WE T Γ e ρ fun v ρ'' => putIn e ρ'' v = .ok (.d d) ρ := ⟨_, _, h, by show putIn e ρ _ = _; rw [hk]; rfl⟩
/-- y = e, e an own list or dict -/
theorem ws_assignO {c0 : C} {ρ1 : Env} (h : evE T Γ e ρ = .ok (.own c0) ρ1) (h2 : SetAt ρ1 i (some c0) ρ') (h3 : io.contains i = false) (k : WS T Γ io ss ρ' QS) : WS T Γ io (.assign i e :: ss) ρ QS := ws_assign ⟨_, _, h, _, _, _, rfl, h2, h3, k⟩
theorem ws_retO {c0 : C} {ρ1 : Env} (h : evE T Γ e ρ = .ok (.own c0) ρ1) (k : QS (.ret c0) ρ1) : WS T Γ io (.ret e :: ss) ρ QS := ws_ret ⟨_, _, h, _, _, rfl, k⟩
/-- return of an own list by its name -/
theorem ws_retV {xs : List PyData} (h : slot ρ i = some (fresh xs)) (hio : io.contains i = false) (k : ∀ ρ', QS (.ret (fresh xs)) ρ') : WS T Γ io (.ret (.var i) :: ss) ρ QS := by
  refine ws_ret (we_vl (cs := xs.map .d) h ⟨fresh xs, ρ.set i none, ?_, k _⟩)
  have hl : (look ρ (.bor i [])).bind C.toD = some (.list xs) := by rw [lk_bor h, Option.bind_some, td_f]
  simp only [take, hl, List.isEmpty_nil, hio, Bool.not_false, Bool.and_true, if_true, h, Option.map_some]
  rfl
theorem fm_succ {β : Type} (f : Nat → List β) (j : Nat) : ((List.range (j + 1)).flatMap f) = (List.range j).flatMap f ++ f j := by
  rw [List.range_succ, List.flatMap_append, List.flatMap_singleton]
end
end Z
set_option linter.all false
set_option Elab.async false
set_option maxRecDepth 4000
namespace T_k05
open PySem Z
/-- a grid: its rows, h high, w wide; lt: which cells are light -/
structure Gr (R : List PyData) (h w : Nat) (lt : Nat → Nat → Bool) : Prop where
  len : R.length = h
  h1 : 1 ≤ h
  h8 : h ≤ 8
  w1 : 1 ≤ w
  w8 : w ≤ 8
  row : ∀ r, r < h → ∃ s : Str, R[r]? = some (.str s) ∧ s.length = w ∧ ∀ c, c < w → ∃ d : Str, strAt s c = some d ∧ (d == ("X" : Str)) = !lt r c
variable {R : List PyData} {h w : Nat} {lt : Nat → Nat → Bool}
def litI (h w : Nat) (lt : Nat → Nat → Bool) (r c : Int) : Bool := (decide (0 ≤ r) && decide (r < h)) && ((decide (0 ≤ c) && decide (c < w)) && lt r.toNat c.toNat)
theorem sd_row (G : Gr R h w lt) {r : Int} (h0 : 0 ≤ r) (h1 : r < h) : ∃ s : Str, subD (.tuple R) (.int r) = some (.str s) ∧ s.length = w ∧ ∀ c : Int, 0 ≤ c → c < w → ∃ d : Str, subD (.str s) (.int c) = some (.str d) ∧ (d == ("X" : Str)) = !lt r.toNat c.toNat := by
  obtain ⟨k, rfl⟩ := Int.eq_ofNat_of_zero_le h0
  obtain ⟨s, e1, e2, e3⟩ := G.row k (by omega)
  refine ⟨s, sd_tn e1, e2, fun c hc0 hc1 => ?_⟩
  obtain ⟨j, rfl⟩ := Int.eq_ofNat_of_zero_le hc0
  obtain ⟨d, e4, e5⟩ := e3 j (by omega)
  have := G.w8
  exact ⟨d, by rw [sd_s, if_pos (by omega), seq_nat, if_pos (by omega), Option.bind_some, e4]; rfl, by simpa using e5⟩
theorem and_t {a b : Bool} (h : (a && b) = true) : a = true ∧ b = true := by cases a <;> cases b <;> simp_all
theorem light_ok (G : Gr R h w lt) (n : Nat) (r c : Int) : callF tab (n + 1) 12 [.d (.tuple R), .d (.int r), .d (.int c)] = .ok (.d (.bool (litI h w lt r c))) [none, none, none] := by
  refine call_eq ?_
  (refine call_of (fd := fd__law_light) rfl rfl ?_; simp only [fd__law_light, List.map_cons, List.map_nil, List.replicate_succ, List.replicate_zero, List.cons_append, List.nil_append, Nat.reduceSub, Nat.sub_self])
  have hl := G.len
  have hh := G.h1
  have hw := G.w8
  obtain ⟨s0, t1, t2, t3⟩ := sd_row G (r := 0) (by omega) (by omega)
  have lenR : Ev tab (callF tab n) [some (.d (.tuple R)), some (.d (.int r)), some (.d (.int c))] (.bi .len [(.var 0)]) (.int h) := by rw [← hl]; (repeat sizeOf_list_dec)
  have lenS : Ev tab (callF tab n) [some (.d (.tuple R)), some (.d (.int r)), some (.d (.int c))] (.bi .len [(.sub (.var 0) (.lit (.int 0)))]) (.int w) := by rw [← t2]; (repeat sizeOf_list_dec)
  refine ws_retP (d := .bool (litI h w lt r c)) (p_and (p_ac (p_chain p_lit (p_var rfl) s2_le (fun _ => lenR) (fun _ => s2_lt)) fun a1 => p_ac (s := decide (0 ≤ c) && decide (c < w)) (t := lt r.toNat c.toNat) (p_chain p_lit (p_var rfl) s2_le (fun _ => lenS) (fun _ => s2_lt)) fun a2 => p_a1 ?_)) ?_
  · obtain ⟨b1, b2⟩ := and_t a1
    obtain ⟨b3, b4⟩ := and_t a2
    simp only [decide_eq_true_eq] at b1 b2 b3 b4
    obtain ⟨s1, u1, u2, u3⟩ := sd_row G b1 b2
    obtain ⟨d, u4, u5⟩ := u3 c b3 b4
    have : lt r.toNat c.toNat = !(d == ("X" : Str)) := by rw [u5, Bool.not_not]
    rw [this]
    (repeat sizeOf_list_dec)
  · (repeat sizeOf_list_dec)
    exact ⟨rfl, rfl⟩
end T_k05
set_option linter.all false
set_option Elab.async false
namespace T_k05
open PySem Z
variable {R : List PyData} {h w : Nat} {lt : Nat → Nat → Bool} {T : Tab} {Γ : Nat → List C → FRes} {ρ : Z.Env} {A B Cc X : E}
theorem cell_ne (G : Gr R h w lt) {r c : Int} (hA : Ev T Γ ρ A (.tuple R)) (hB : Ev T Γ ρ B (.int r)) (hC : Ev T Γ ρ Cc (.int c)) (hX : Ev T Γ ρ X (.str "X")) (a : 0 ≤ r) (b : r < h) (a' : 0 ≤ c) (b' : c < w) : Ev T Γ ρ (.o2 .ne (.sub (.sub A B) Cc) X) (.bool (lt r.toNat c.toNat)) := by
  obtain ⟨s1, u1, u2, u3⟩ := sd_row G a b
  obtain ⟨d, u4, u5⟩ := u3 c a' b'
  have : lt r.toNat c.toNat = !(d == ("X" : Str)) := by rw [u5, Bool.not_not]
  rw [this]
  exact p_o2 (p_sub (p_sub hA hB u1) hC u4) hX s2_nes
theorem cell_eq (G : Gr R h w lt) {r c : Int} (hA : Ev T Γ ρ A (.tuple R)) (hB : Ev T Γ ρ B (.int r)) (hC : Ev T Γ ρ Cc (.int c)) (hX : Ev T Γ ρ X (.str "X")) (a : 0 ≤ r) (b : r < h) (a' : 0 ≤ c) (b' : c < w) : Ev T Γ ρ (.o2 .eq (.sub (.sub A B) Cc) X) (.bool (!lt r.toNat c.toNat)) := by
  obtain ⟨s1, u1, u2, u3⟩ := sd_row G a b
  obtain ⟨d, u4, u5⟩ := u3 c a' b'
  rw [← u5]
  exact p_o2 (p_sub (p_sub hA hB u1) hC u4) hX s2_eqs
/-- a row's text -/
structure Row (w : Nat) (lt : Nat → Bool) (s : Str) : Prop where
  len : s.length = w
  at' : ∀ c : Int, 0 ≤ c → c < w → ∃ d : Str, subD (.str s) (.int c) = some (.str d) ∧ (d == ("X" : Str)) = !lt c.toNat
theorem Gr.rowOf (G : Gr R h w lt) {r : Nat} (hr : r < h) : ∃ s, R[r]? = some (.str s) ∧ Row w (lt r) s := by
  obtain ⟨s, e1, e2, e3⟩ := G.row r hr
  obtain ⟨s', u1, u2, u3⟩ := sd_row G (r := (r : Int)) (by omega) (by omega)
  rw [sd_tn e1] at u1
  cases u1
  exact ⟨s, e1, u2, fun c a b => by simpa using u3 c a b⟩
theorem rcell_eq {l : Nat → Bool} {s : Str} (G : Row w l s) {c : Int} (hA : Ev T Γ ρ A (.str s)) (hC : Ev T Γ ρ Cc (.int c)) (hX : Ev T Γ ρ X (.str "X")) (a' : 0 ≤ c) (b' : c < w) : Ev T Γ ρ (.o2 .eq (.sub A Cc) X) (.bool (!l c.toNat)) := by
  obtain ⟨d, u4, u5⟩ := G.at' c a' b'
  rw [← u5]
  exact p_o2 (p_sub hA hC u4) hX s2_eqs
theorem wide_ev (G : Gr R h w lt) (hA : Ev T Γ ρ A (.tuple R)) : Ev T Γ ρ (.bi .len [(.sub A (.lit (.int 0)))]) (.int w) := by
  have := G.h1
  have := G.w8
  obtain ⟨s0, t1, t2, t3⟩ := sd_row G (r := 0) (by omega) (by omega)
  have := p_bi1 (p_sub hA p_lit t1) (b_lens (s := s0) (by omega))
  rwa [t2] at this
theorem high_ev (G : Gr R h w lt) (hA : Ev T Γ ρ A (.tuple R)) : Ev T Γ ρ (.bi .len [A]) (.int h) := by
  have := p_bi1 hA (bi_lent (xs := R))
  rwa [G.len] at this
def inL (h w : Nat) (lt : Nat → Nat → Bool) (r c : Nat) : Bool := decide (r < h) && (decide (c < w) && lt r c)
def ray (h w : Nat) (lt : Nat → Nat → Bool) (dr dc : Nat) : Nat → Nat → Nat → List Nat
  | 0, _, _ => []
  | f + 1, r, c => if inL h w lt r c then (r * w + c) :: ray h w lt dr dc f (r + dr) (c + dc) else []
def intD (c : Nat) : PyData := .int (c : Int)
def rayD (h w : Nat) (lt : Nat → Nat → Bool) (dr dc r c : Nat) : PyData := .tuple ((ray h w lt dr dc 9 r c).map intD)
/-- so many steps are enough -/
def enough (h w dr dc m r c : Nat) : Prop := (dr = 1 ∧ dc = 0 ∧ h ≤ r + m) ∨ (dr = 0 ∧ dc = 1 ∧ w ≤ c + m)
theorem ray_len (h w : Nat) (lt : Nat → Nat → Bool) (dr dc : Nat) : ∀ f r c, (ray h w lt dr dc f r c).length ≤ f
  | 0, _, _ => Nat.le_refl _
  | f + 1, r, c => by
    rw [ray]
    split
    · rw [List.length_cons]
      have := ray_len h w lt dr dc f (r + dr) (c + dc)
      omega
    · exact Nat.zero_le _
theorem run_ok (G : Gr R h w lt) (n : Nat) {dr dc r c : Nat} (he : enough h w dr dc 9 r c) : callF tab (n + 1) 1 [.d (.tuple R), .d (.int r), .d (.int c), .d (.int dr), .d (.int dc)] = .ok (.d (rayD h w lt dr dc r c)) [none, none, none, none, none] := by
  refine call_eq ?_
  (refine call_of (fd := fd_run_from) rfl rfl ?_; simp only [fd_run_from, List.map_cons, List.map_nil, List.replicate_succ, List.replicate_zero, List.cons_append, List.nil_append, Nat.reduceSub, Nat.sub_self])
  have hw := G.w8
  have hh := G.h8
  refine ws_assignP (wide_ev G (p_var rfl)) (by (repeat (first | exact setZ | apply setS))) rfl ?_
  refine ws_assign ⟨_, _, c_lst (xs := []) c_p0, _, _, _, rfl, (by (repeat (first | exact setZ | apply setS))), rfl, ?_⟩
  refine ws_while (fun m ρ => ∃ acc r c, ρ = [some (.d (.tuple R)), some (.d (.int (r : Nat))), some (.d (.int (c : Nat))), some (.d (.int dr)), some (.d (.int dc)), some (.d (.int w)), some (fresh acc)] ∧ enough h w dr dc m r c ∧ acc ++ (ray h w lt dr dc m r c).map intD = (ray h w lt dr dc 9 _ _).map intD ∧ acc.length + m ≤ 9) 9 (by decide) ⟨[], r, c, rfl, he, rfl, by simp⟩ ?_
  rintro m ρ ⟨acc, r', c', rfl, he', ha, hm⟩
  have hc : Ev tab (callF tab n) [some (.d (.tuple R)), some (.d (.int (r' : Nat))), some (.d (.int (c' : Nat))), some (.d (.int dr)), some (.d (.int dc)), some (.d (.int w)), some (fresh acc)] (.and [(.o2 .lt (.var 1) (.bi .len [(.var 0)])), (.o2 .lt (.var 2) (.var 5)), (.o2 .ne (.sub (.sub (.var 0) (.var 1)) (.var 2)) (.glob "DARK" (.str "X")))]) (.bool (inL h w lt r' c')) := by
    have e1 : decide ((r' : Int) < h) = decide (r' < h) := by simp
    have e2 : decide ((c' : Int) < w) = decide (c' < w) := by simp
    refine p_and (p_ac (p_o2 (p_var rfl) (high_ev G (p_var rfl)) (s2_lt.trans (by rw [e1]))) fun a1 => p_ac (p_o2 (p_var rfl) (p_var rfl) (s2_lt.trans (by rw [e2]))) fun a2 => p_a1 ?_)
    rw [decide_eq_true_eq] at a1 a2
    exact cell_ne G (r := r') (c := c') (p_var rfl) (p_var rfl) (p_var rfl) p_glob (by omega) (by omega) (by omega) (by omega)
  refine ⟨_, _, hc, _, rfl, fun ht => ?_, fun hf => ?_⟩
  · have hb := ht
    unfold inL at hb
    obtain ⟨b1, hb⟩ := and_t hb
    obtain ⟨b2, b3⟩ := and_t hb
    rw [decide_eq_true_eq] at b1 b2
    cases m with
    | zero => rcases he' with ⟨_, _, h3⟩ | ⟨_, _, h3⟩ <;> omega
    | succ m =>
      rw [ray, if_pos ht] at ha
      (repeat sizeOf_list_dec)
      refine ⟨m, by omega, acc ++ [intD (r' * w + c')], r' + dr, c' + dc, ?_, ?_, ?_, ?_⟩
      · have e3 : ((r' : Int) * w + c') = ((r' * w + c' : Nat) : Int) := by simp
        have e4 : ((r' : Int) + dr) = ((r' + dr : Nat) : Int) := by simp
        have e5 : ((c' : Int) + dc) = ((c' + dc : Nat) : Int) := by simp
        rw [← e4, ← e5, intD, ← e3]
      · rcases he' with ⟨h1, h2, h3⟩ | ⟨h1, h2, h3⟩
        · exact .inl ⟨h1, h2, by omega⟩
        · exact .inr ⟨h1, h2, by omega⟩
      · rw [← ha]; simp
      · rw [List.length_append, List.length_singleton]; omega
  · have : (ray h w lt dr dc m r' c') = [] := by
      cases m with
      | zero => rfl
      | succ m => rw [ray, if_neg (by rw [hf]; exact Bool.false_ne_true)]
    rw [this, List.map_nil, List.append_nil] at ha
    (repeat sizeOf_list_dec)
    refine ⟨?_, rfl⟩
    rw [ha]
    rfl
end T_k05
set_option linter.all false
set_option Elab.async false
namespace T_k05
open PySem Z
variable {R : List PyData} {h w : Nat} {lt : Nat → Nat → Bool} {T : Tab} {Γ : Nat → List C → FRes} {ρ : Z.Env}
theorem tn1 (c : Nat) : ((c : Int) - 1).toNat = c - 1 := by omega
def s0 (lt : Nat → Nat → Bool) (r c : Nat) : Bool := ((c : Int) == 0) || !lt r (c - 1)
def s1 (lt : Nat → Nat → Bool) (r c : Nat) : Bool := ((r : Int) == 0) || !lt (r - 1) c
def pAt (h w : Nat) (lt : Nat → Nat → Bool) (r c : Nat) : List PyData :=
  if lt r c then (if s0 lt r c then [rayD h w lt 0 1 r c] else []) ++ (if s1 lt r c then [rayD h w lt 1 0 r c] else []) else []
def pRow (h w : Nat) (lt : Nat → Nat → Bool) (m r : Nat) : List PyData := (List.range m).flatMap (pAt h w lt r)
def pAll (h w : Nat) (lt : Nat → Nat → Bool) (m : Nat) : List PyData := (List.range m).flatMap (pRow h w lt w)
theorem pAt_len (r c : Nat) : (pAt h w lt r c).length ≤ 2 := by
  unfold pAt
  split
  · split <;> split <;> simp
  · simp
theorem fm_len {α β : Type} {f : α → List β} {k : Nat} (hf : ∀ x, (f x).length ≤ k) : ∀ l : List α, (l.flatMap f).length ≤ l.length * k
  | [] => Nat.zero_le _
  | x :: xs => by
    rw [List.flatMap_cons, List.length_append, List.length_cons, Nat.add_mul, Nat.one_mul]
    have := hf x
    have := fm_len hf xs
    omega
theorem pRow_len (m r : Nat) : (pRow h w lt m r).length ≤ m * 2 := by
  have := fm_len (f := pAt h w lt r) (k := 2) (pAt_len r) (List.range m)
  rwa [List.length_range] at this
theorem pAll_len (m : Nat) : (pAll h w lt m).length ≤ m * (w * 2) := by
  have := fm_len (f := pRow h w lt w) (k := w * 2) (pRow_len w) (List.range m)
  rwa [List.length_range] at this
def lenD : PyData → Nat
  | .tuple xs => xs.length
  | _ => 0
def long (x : PyData) : Bool := decide ((1 : Int) < (lenD x : Int))
def runsS (h w : Nat) (lt : Nat → Nat → Bool) : List PyData := (pAll h w lt h).filter long
theorem runs_ok (G : Gr R h w lt) (n : Nat) : callF tab (n + 2) 0 [.d (.tuple R)] = .ok (fresh (runsS h w lt)) [none] := by
  have hh := G.h8
  have hw := G.w8
  refine call_eq ?_
  (refine call_of (fd := fd_runs_of) rfl rfl ?_; simp only [fd_runs_of, List.map_cons, List.map_nil, List.replicate_succ, List.replicate_zero, List.cons_append, List.nil_append, Nat.reduceSub, Nat.sub_self])
  refine ws_assignP (wide_ev G (p_var rfl)) (by (repeat (first | exact setZ | apply setS))) rfl ?_
  refine ws_assignO (c_lst (xs := []) c_p0) (by (repeat (first | exact setZ | apply setS))) rfl ?_
  refine ws_forE (fun j ρ => Fin (∃ s3 s4 s5, ρ = [some (.d (.tuple R)), some (.d (.int w)), some (fresh (pAll h w lt j)), s3, s4, s5, none])) (p_var rfl) rfl rfl ⟨none, none, none, rfl⟩ ?_ ?_
  · rintro r x hx ρ ⟨s3, s4, s5, rfl⟩
    have hr : r < h := by
      have := (List.getElem?_eq_some_iff.mp hx).1
      rwa [G.len] at this
    obtain ⟨s, e1, row⟩ := G.rowOf hr
    rw [hx] at e1
    cases e1
    refine ⟨_, _, (by (repeat (first | exact setZ | apply setS))), (by (repeat (first | exact setZ | apply setS))), ?_⟩
    refine ws_forR (fun c ρ => Fin (∃ s5, ρ = [some (.d (.tuple R)), some (.d (.int w)), some (fresh (pAll h w lt r ++ pRow h w lt c r)), some (.d (.int (r : Nat))), some (.d (.str s)), s5, none])) (p_var rfl) (by omega) rfl ⟨s5, by simp [pRow]⟩ ?_ ?_
    · rintro c hc ρ ⟨s5, rfl⟩
      refine ⟨_, (by (repeat (first | exact setZ | apply setS))), ?_⟩
      have hl : (pAll h w lt r ++ pRow h w lt c r).length ≤ 400 := by
        have := pAll_len (h := h) (w := w) (lt := lt) r
        have := pRow_len (h := h) (w := w) (lt := lt) c r
        have : r * (w * 2) ≤ 8 * 16 := Nat.mul_le_mul (by omega) (by omega)
        rw [List.length_append]
        omega
      have fin : pRow h w lt (c + 1) r = pRow h w lt c r ++ pAt h w lt r c := fm_succ _ _
      have tail : ∀ {acc : List PyData} {QS : Fl → Z.Env → Prop}, acc.length ≤ 402 → QS .next [some (.d (.tuple R)), some (.d (.int w)), some (fresh (acc ++ (if s1 lt r c then [rayD h w lt 1 0 r c] else []))), some (.d (.int (r : Nat))), some (.d (.str s)), some (.d (.int (c : Nat))), none] →
          WS tab (callF tab (n + 1)) [] [(.iff (.or [(.o2 .eq (.var 3) (.lit (.int 0))), (.o2 .eq (.sub (.sub (.var 0) (.o2 .sub (.var 3) (.lit (.int 1)))) (.var 5)) (.glob "DARK" (.str "X")))]) [(.ex (.meth .append (.var 2) [(.call 1 [(.var 0), (.var 3), (.var 5), (.lit (.int 1)), (.lit (.int 0))])]))] [])]
            [some (.d (.tuple R)), some (.d (.int w)), some (fresh acc), some (.d (.int (r : Nat))), some (.d (.str s)), some (.d (.int (c : Nat))), none] QS := fun {acc QS} ha q => by
        refine ws_iffP (t := s1 lt r c) (p_or (p_rc (p_o2 (p_var rfl) p_lit s2_eqi) fun hz => p_r1 ?_)) (fun ht => ?_) (fun hf => ?_)
        · have := cell_eq G (r := (r : Int) - 1) (c := (c : Int)) (T := tab) (Γ := callF tab (n + 1)) (ρ := [some (.d (.tuple R)), some (.d (.int w)), some (fresh acc), some (.d (.int (r : Nat))), some (.d (.str s)), some (.d (.int (c : Nat))), none]) (A := .var 0) (B := (.o2 .sub (.var 3) (.lit (.int 1)))) (Cc := .var 5) (X := .glob "DARK" (.str "X")) (p_var rfl) (p_o2 (p_var rfl) p_lit s2_sub) (p_var rfl) p_glob (by simp at hz; omega) (by omega) (by omega) (by omega)
          rw [tn1] at this
          exact this
        · refine ws_appendP rfl (p_call tt1 rfl (xs := [.tuple R, .int r, .int c, .int (1 : Nat), .int (0 : Nat)]) (by (repeat sizeOf_list_dec)) (run_ok G n (.inl ⟨rfl, rfl, by omega⟩)) rfl) (fun _ _ => rfl) (by omega) (by (repeat (first | exact setZ | apply setS))) ?_
          rw [if_pos ht] at q
          exact ws_nil (ws_nil q)
        · rw [if_neg (by rw [hf]; exact Bool.false_ne_true), List.append_nil] at q
          exact ws_nil (ws_nil q)
      refine ws_iffP (rcell_eq row (c := c) (p_var rfl) (p_var rfl) p_glob (by omega) (by omega)) (fun ht => ?_) (fun hf => ?_)
      · (repeat sizeOf_list_dec)
        have hp : pAt h w lt r c = [] := by
          have : lt r c = false := by simpa using ht
          rw [pAt, this]
          rfl
        exact ⟨some (.d (.int (c : Nat))), by rw [fin, hp, List.append_nil]⟩
      · have hlt : lt r c = true := by simpa using hf
        refine ws_nil ?_
        refine ws_iffP (t := s0 lt r c) (p_or (p_rc (p_o2 (p_var rfl) p_lit s2_eqi) fun hz => p_r1 ?_)) (fun ht => ?_) (fun hf => ?_)
        · have := rcell_eq row (c := (c : Int) - 1) (T := tab) (Γ := callF tab (n + 1)) (ρ := [some (.d (.tuple R)), some (.d (.int w)), some (fresh (pAll h w lt r ++ pRow h w lt c r)), some (.d (.int (r : Nat))), some (.d (.str s)), some (.d (.int (c : Nat))), none]) (A := .var 4) (Cc := (.o2 .sub (.var 5) (.lit (.int 1)))) (X := .glob "DARK" (.str "X")) (p_var rfl) (p_o2 (p_var rfl) p_lit s2_sub) p_glob (by simp at hz; omega) (by omega)
          rw [tn1] at this
          exact this
        · refine ws_appendP rfl (p_call tt1 rfl (xs := [.tuple R, .int r, .int c, .int (0 : Nat), .int (1 : Nat)]) (by (repeat sizeOf_list_dec)) (run_ok G n (.inr ⟨rfl, rfl, by omega⟩)) rfl) (fun _ _ => rfl) (by omega) (by (repeat (first | exact setZ | apply setS))) ?_
          refine ws_nil (tail (by rw [List.length_append, List.length_singleton]; omega) ⟨some (.d (.int (c : Nat))), ?_⟩)
          rw [fin, pAt, if_pos hlt, if_pos ht]
          simp only [List.append_assoc]
        · refine ws_nil (tail (by omega) ⟨some (.d (.int (c : Nat))), ?_⟩)
          rw [fin, pAt, if_pos hlt, hf]
          simp only [Bool.false_eq_true, if_false, List.append_assoc, List.nil_append]
    · rintro ρ ⟨s5, rfl⟩
      refine ws_nil ⟨some (.d (.int (r : Nat))), some (.d (.str s)), s5, by rw [show pAll h w lt (r + 1) = pAll h w lt r ++ pRow h w lt w r from fm_succ _ _]⟩
  · rintro ρ ⟨s3, s4, s5, rfl⟩
    rw [G.len]
    have e : evE tab (callF tab (n + 1)) (.comp (.var 6) (.nm 6) .pl [(.var 2)] [(.o2 .gt (.bi .len [(.var 6)]) (.lit (.int 1)))] [6]) [some (.d (.tuple R)), some (.d (.int w)), some (fresh (pAll h w lt h)), s3, s4, s5, none] = .ok (.own (fresh (((pAll h w lt h).filter long).map id))) [some (.d (.tuple R)), some (.d (.int w)), some (fresh (pAll h w lt h)), s3, s4, s5, none] := by
      refine e_comp long id (l := pAll h w lt h) (wvc (we_vl (cs := (pAll h w lt h).map .d) rfl ⟨rfl, wv0 ⟨_, pk_if (pk_c (pk_fresh rfl) pk_0) rfl, src_list⟩⟩)) rfl rfl fun x hx => ?_
      refine ⟨_, rfl, rfl, rfl, wa_a (t := long x) (p_a1 ?_) ⟨rfl, rfl, fun _ => we_put (p_var rfl) fun _ _ => rfl⟩⟩
      have hd : ∃ xs, x = .tuple xs := by
        unfold pAll pRow pAt at hx
        simp only [List.mem_flatMap] at hx
        obtain ⟨r, _, c, _, hx⟩ := hx
        split at hx
        · rcases List.mem_append.mp hx with hx | hx <;> (split at hx <;> first | (rw [List.mem_singleton] at hx; exact ⟨_, hx⟩) | cases hx)
        · cases hx
      obtain ⟨xs, rfl⟩ := hd
      exact p_o2 (p_bi1 (p_var rfl) bi_lent) p_lit s2_gt
    rw [List.map_id] at e
    exact ws_retO e ⟨rfl, rfl⟩
end T_k05
set_option linter.all false
set_option Elab.async false
namespace T_k05
open PySem Z
variable {R : List PyData} {h w : Nat} {lt : Nat → Nat → Bool} {T : Tab} {Γ : Nat → List C → FRes} {ρ : Z.Env}
theorem lit_nat (r c : Nat) : litI h w lt (r : Int) (c : Int) = inL h w lt r c := by
  unfold litI inL
  have e1 : decide ((0 : Int) ≤ (r : Int)) = true := decide_eq_true (by omega)
  have e2 : decide ((0 : Int) ≤ (c : Int)) = true := decide_eq_true (by omega)
  have e3 : decide ((r : Int) < (h : Int)) = decide (r < h) := by simp
  have e4 : decide ((c : Int) < (w : Int)) = decide (c < w) := by simp
  rw [e1, e2, e3, e4]
  simp
theorem ray_in (dr dc : Nat) : ∀ f r c k, k < (ray h w lt dr dc f r c).length → inL h w lt (r + k * dr) (c + k * dc) = true
  | 0, r, c, k, hk => by simp [ray] at hk
  | f + 1, r, c, k, hk => by
    rw [ray] at hk
    by_cases hi : inL h w lt r c = true
    · rw [if_pos hi, List.length_cons] at hk
      cases k with
      | zero => simpa using hi
      | succ k =>
        have := ray_in dr dc f (r + dr) (c + dc) k (by omega)
        have e1 : r + dr + k * dr = r + (k + 1) * dr := by rw [Nat.add_mul]; omega
        have e2 : c + dc + k * dc = c + (k + 1) * dc := by rw [Nat.add_mul]; omega
        rwa [e1, e2] at this
    · rw [if_neg hi] at hk
      simp at hk
theorem ray_end (dr dc : Nat) : ∀ f r c, enough h w dr dc f r c → inL h w lt (r + (ray h w lt dr dc f r c).length * dr) (c + (ray h w lt dr dc f r c).length * dc) = false
  | 0, r, c, he => by
    simp only [ray, List.length_nil, Nat.zero_mul, Nat.add_zero]
    unfold inL
    rcases he with ⟨_, _, h3⟩ | ⟨_, _, h3⟩
    · have : ¬ r < h := by omega
      simp [this]
    · have : ¬ c < w := by omega
      simp [this]
  | f + 1, r, c, he => by
    rw [ray]
    by_cases hi : inL h w lt r c = true
    · rw [if_pos hi, List.length_cons]
      have he' : enough h w dr dc f (r + dr) (c + dc) := by
        rcases he with ⟨h1, h2, h3⟩ | ⟨h1, h2, h3⟩
        · exact .inl ⟨h1, h2, by omega⟩
        · exact .inr ⟨h1, h2, by omega⟩
      have := ray_end dr dc f (r + dr) (c + dc) he'
      rw [Nat.add_mul, Nat.add_mul, Nat.one_mul, Nat.one_mul]
      rw [Nat.add_assoc, Nat.add_comm dr, Nat.add_assoc, Nat.add_comm dc] at this
      exact this
    · rw [if_neg hi]
      simpa using hi
theorem ray_map (dr dc : Nat) : ∀ f r c, ray h w lt dr dc f r c = (List.range (ray h w lt dr dc f r c).length).map fun k => (r + k * dr) * w + (c + k * dc)
  | 0, r, c => rfl
  | f + 1, r, c => by
    rw [ray]
    by_cases hi : inL h w lt r c = true
    · rw [if_pos hi, List.length_cons, List.range_succ_eq_map, List.map_cons, List.map_map]
      have := ray_map dr dc f (r + dr) (c + dc)
      congr 1
      · simp
      · refine this.trans (List.map_congr_left fun k _ => ?_)
        show (r + dr + k * dr) * w + (c + dc + k * dc) = (r + (k + 1) * dr) * w + (c + (k + 1) * dc)
        have e1 : r + dr + k * dr = r + (k + 1) * dr := by rw [Nat.add_mul]; omega
        have e2 : c + dc + k * dc = c + (k + 1) * dc := by rw [Nat.add_mul]; omega
        rw [e1, e2]
    · rw [if_neg hi]
      rfl
def lOne (h w : Nat) (lt : Nat → Nat → Bool) (way : Str) (dr dc : Nat) (st : Bool) (r c : Nat) : List PyData :=
  if st then (if 1 < (ray h w lt dr dc 9 r c).length then [.tuple [.str way, rayD h w lt dr dc r c]] else []) else []
def lAt (h w : Nat) (lt : Nat → Nat → Bool) (r c : Nat) : List PyData := lOne h w lt "across" 0 1 (lt r c && s0 lt r c) r c ++ lOne h w lt "down" 1 0 (lt r c && s1 lt r c) r c
def lRow (h w : Nat) (lt : Nat → Nat → Bool) (m r : Nat) : List PyData := (List.range m).flatMap (lAt h w lt r)
def lAll (h w : Nat) (lt : Nat → Nat → Bool) (m : Nat) : List PyData := (List.range m).flatMap (lRow h w lt w)
theorem lOne_len (way : Str) (dr dc : Nat) (st : Bool) (r c : Nat) : (lOne h w lt way dr dc st r c).length ≤ 1 := by
  unfold lOne
  split
  · split <;> simp
  · simp
theorem lAt_len (r c : Nat) : (lAt h w lt r c).length ≤ 2 := by
  unfold lAt
  rw [List.length_append]
  have := lOne_len (h := h) (w := w) (lt := lt) "across" 0 1 (lt r c && s0 lt r c) r c
  have := lOne_len (h := h) (w := w) (lt := lt) "down" 1 0 (lt r c && s1 lt r c) r c
  omega
theorem lRow_len (m r : Nat) : (lRow h w lt m r).length ≤ m * 2 := by
  have := fm_len (f := lAt h w lt r) (k := 2) (lAt_len r) (List.range m)
  rwa [List.length_range] at this
theorem lAll_len (m : Nat) : (lAll h w lt m).length ≤ m * (w * 2) := by
  have := fm_len (f := lRow h w lt w) (k := w * 2) (lRow_len w) (List.range m)
  rwa [List.length_range] at this
def lB : List S := [(.iff (.or [(.not (.call 12 [(.var 0), (.var 2), (.var 3)])), (.call 12 [(.var 0), (.o2 .sub (.var 2) (.var 5)), (.o2 .sub (.var 3) (.var 6))])]) [.cont] []), (.assign 7 (.lit (.int 1))), (.while (.call 12 [(.var 0), (.o2 .add (.var 2) (.o2 .mul (.var 7) (.var 5))), (.o2 .add (.var 3) (.o2 .mul (.var 7) (.var 6)))]) [(.assign 7 (.o2 .add (.var 7) (.lit (.int 1))))]), (.assign 8 (.comp (.o2 .add (.o2 .add (.o2 .mul (.o2 .add (.var 2) (.o2 .mul (.var 9) (.var 5))) (.bi .len [(.sub (.var 0) (.lit (.int 0)))])) (.var 3)) (.o2 .mul (.var 9) (.var 6))) (.nm 9) .range [(.var 7)] [] [9])), (.iff (.o2 .gt (.var 7) (.lit (.int 1))) [(.ex (.meth .append (.var 1) [(.tup [(.var 4), (.bi .tuple [(.var 8)])])]))] [])]
theorem lbody (G : Gr R h w lt) (n : Nat) {way : Str} {dr dc r c : Nat} {st : Bool} (hr : r < h) (hc : c < w) (he : enough h w dr dc 9 r c) (hst : (!lt r c || litI h w lt ((r : Int) - dr) ((c : Int) - dc)) = !st) {acc : List PyData} {s7 s8 : Option C} {P : Z.Env → Prop} {QS : Fl → Z.Env → Prop} (ha : acc.length ≤ 400)
    (q : ∀ s7 s8, P [some (.d (.tuple R)), some (fresh (acc ++ lOne h w lt way dr dc st r c)), some (.d (.int (r : Nat))), some (.d (.int (c : Nat))), some (.d (.str way)), some (.d (.int (dr : Nat))), some (.d (.int (dc : Nat))), s7, s8, none]) :
    WS tab (callF tab (n + 1)) [] lB [some (.d (.tuple R)), some (fresh acc), some (.d (.int (r : Nat))), some (.d (.int (c : Nat))), some (.d (.str way)), some (.d (.int (dr : Nat))), some (.d (.int (dc : Nat))), s7, s8, none] (turnEnd P QS) := by
  have hh := G.h8
  have hw := G.w8
  have hd : dr ≤ 1 ∧ dc ≤ 1 := by rcases he with ⟨_, _, _⟩ | ⟨_, _, _⟩ <;> omega
  have hin : litI h w lt (r : Int) (c : Int) = lt r c := by
    rw [lit_nat]
    unfold inL
    simp [hr, hc]
  refine ws_iffP (t := !st) (hst ▸ p_or (p_rc (p_not (p_call tt12 rfl (xs := [.tuple R, .int (r : Nat), .int (c : Nat)]) (by (repeat sizeOf_list_dec)) (hin ▸ light_ok G n r c) rfl)) fun _ => p_r1 (p_call tt12 rfl (xs := [.tuple R, .int ((r : Int) - dr), .int ((c : Int) - dc)]) (by (repeat sizeOf_list_dec)) (light_ok G n _ _) rfl))) (fun ht => ?_) (fun hf => ?_)
  · have hs : st = false := by simpa using ht
    refine ws_cont ?_
    have := q s7 s8
    rw [lOne, hs] at this
    simp only [Bool.false_eq_true, if_false, List.append_nil] at this
    exact this
  · have hs : st = true := by simpa using hf
    have hlt : lt r c = true := by
      rw [hs] at hst
      cases hq : lt r c with
      | true => rfl
      | false => rw [hq] at hst; simp at hst
    have hL : 1 ≤ (ray h w lt dr dc 9 r c).length := by
      rw [ray, if_pos (by unfold inL; simp [hr, hc, hlt]), List.length_cons]
      omega
    have hL9 := ray_len h w lt dr dc 9 r c
    have hin' := ray_in (h := h) (w := w) (lt := lt) dr dc 9 r c
    have hend := ray_end (h := h) (w := w) (lt := lt) dr dc 9 r c he
    have hmap := ray_map (h := h) (w := w) (lt := lt) dr dc 9 r c
    have hq : lOne h w lt way dr dc st r c = if 1 < (ray h w lt dr dc 9 r c).length then [.tuple [.str way, rayD h w lt dr dc r c]] else [] := by rw [lOne, hs]; rfl
    rw [hq] at q
    have hD : rayD h w lt dr dc r c = .tuple ((ray h w lt dr dc 9 r c).map intD) := rfl
    rw [hD] at q
    generalize ray h w lt dr dc 9 r c = L at *
    refine ws_nil ?_
    (repeat sizeOf_list_dec)
    refine ws_while (fun m ρ => Fin (∃ s : Nat, s ≤ L.length ∧ m = L.length - s ∧ ρ = [some (.d (.tuple R)), some (fresh acc), some (.d (.int (r : Nat))), some (.d (.int (c : Nat))), some (.d (.str way)), some (.d (.int (dr : Nat))), some (.d (.int (dc : Nat))), some (.d (.int (s : Nat))), s8, none])) (L.length - 1) (by omega) ⟨1, hL, rfl, rfl⟩ ?_
    rintro m ρ ⟨s, hs1, rfl, rfl⟩
    have m1 : s * dr ≤ 9 := by
      have : s * dr ≤ s * 1 := Nat.mul_le_mul_left _ hd.1
      omega
    have m2 : s * dc ≤ 9 := by
      have : s * dc ≤ s * 1 := Nat.mul_le_mul_left _ hd.2
      omega
    have e1 : (r : Int) + (s : Int) * (dr : Int) = ((r + s * dr : Nat) : Int) := by simp
    have e2 : (c : Int) + (s : Int) * (dc : Int) = ((c + s * dc : Nat) : Int) := by simp
    have hv : Ev tab (callF tab (n + 1)) [some (.d (.tuple R)), some (fresh acc), some (.d (.int (r : Nat))), some (.d (.int (c : Nat))), some (.d (.str way)), some (.d (.int (dr : Nat))), some (.d (.int (dc : Nat))), some (.d (.int (s : Nat))), s8, none] (.call 12 [(.var 0), (.o2 .add (.var 2) (.o2 .mul (.var 7) (.var 5))), (.o2 .add (.var 3) (.o2 .mul (.var 7) (.var 6)))]) (.bool (inL h w lt (r + s * dr) (c + s * dc))) := by
      refine p_call tt12 rfl (xs := [.tuple R, .int ((r : Int) + (s : Int) * (dr : Int)), .int ((c : Int) + (s : Int) * (dc : Int))]) (fin := [none, none, none]) (by (repeat sizeOf_list_dec)) ?_ rfl
      rw [e1, e2, ← lit_nat]
      exact light_ok G n _ _
    refine ⟨_, _, hv, _, rfl, fun ht => ?_, fun hf => ?_⟩
    · have hs2 : s ≠ L.length := fun e => by rw [e, hend] at ht; cases ht
      (repeat sizeOf_list_dec)
      exact ⟨L.length - (s + 1), by omega, s + 1, by omega, rfl, rfl⟩
    · have hs2 : s = L.length := by
        rcases Nat.lt_or_ge s L.length with hlt | hge
        · rw [hin' s hlt] at hf; cases hf
        · omega
      subst hs2
      have ec := c_rng (T := tab) (Γ := callF tab (n + 1)) (ρ := [some (.d (.tuple R)), some (fresh acc), some (.d (.int (r : Nat))), some (.d (.int (c : Nat))), some (.d (.str way)), some (.d (.int (dr : Nat))), some (.d (.int (dc : Nat))), some (.d (.int (L.length : Nat))), s8, none]) (i := 9) (cond := []) (m := L.length) (p := fun _ => true) (g := fun x => match x with | .int j => .int ((((r : Int) + j * dr) * w + c) + j * dc) | _ => .none) (elt := (.o2 .add (.o2 .add (.o2 .mul (.o2 .add (.var 2) (.o2 .mul (.var 9) (.var 5))) (.bi .len [(.sub (.var 0) (.lit (.int 0)))])) (.var 3)) (.o2 .mul (.var 9) (.var 6)))) (src := .var 7) (p_var rfl) (by omega) (show 9 < 10 by decide) rfl (fun _ _ => rfl) (fun _ _ => by unfold EvA; rw [evAnd]) (fun j hj _ => by
        have k1 : (j : Int) * dr ≤ 9 := by
          have : j * dr ≤ j * 1 := Nat.mul_le_mul_left _ hd.1
          have : ((j * dr : Nat) : Int) ≤ 9 := by omega
          simpa using this
        have k0 : 0 ≤ (j : Int) * dr := by
          have : (0 : Int) ≤ ((j * dr : Nat) : Int) := by omega
          simpa using this
        refine p_o2 (p_o2 (p_o2 (p_o2 (p_var rfl) (p_o2 (p_var rfl) (p_var rfl) (o_mulL (by omega))) s2_add) (wide_ev G (p_var rfl)) (o_mulL (by omega))) (p_var rfl) s2_add) (p_o2 (p_var rfl) (p_var rfl) (o_mulL (by omega))) s2_add)
      have hl : (((rangeD 0 (L.length : Nat)).filter fun _ => true).map fun x => match x with | .int j => .int ((((r : Int) + j * dr) * w + c) + j * dc) | _ => PyData.none) = L.map intD := by
        have : (rangeD 0 (L.length : Nat)).filter (fun _ => true) = rangeD 0 (L.length : Nat) := List.filter_eq_self.mpr fun _ _ => rfl
        rw [this, rng_eq, List.map_map]
        conv => rhs; rw [hmap, List.map_map]
        refine List.map_congr_left fun k _ => ?_
        show PyData.int ((((r : Int) + (k : Int) * dr) * w + c) + (k : Int) * dc) = .int (((r + k * dr) * w + (c + k * dc) : Nat) : Int)
        have e : ((((r : Int) + (k : Int) * dr) * w + c) + (k : Int) * dc) = (((r + k * dr) * w + (c + k * dc) : Nat) : Int) := by
          simp only [Int.natCast_add, Int.natCast_mul, Int.add_assoc]
        rw [e]
      rw [hl] at ec
      refine ws_assignO ec (by (repeat (first | exact setZ | apply setS))) rfl ?_
      refine ws_iffP (p_o2 (p_var rfl) p_lit s2_gt) (fun ht => ?_) (fun hf => ?_)
      · rw [decide_eq_true_eq] at ht
        refine ws_appendP (xs := acc) rfl (p_tup (p_fc (p_var rfl) (p_fc (p_biV rfl bi_tl) p_f0))) (fun _ _ => rfl) (by omega) (by (repeat (first | exact setZ | apply setS))) ?_
        have := q (some (.d (.int (L.length : Nat)))) (some (fresh (L.map intD)))
        rw [if_pos (by omega)] at this
        exact ws_nil (ws_nil this)
      · rw [decide_eq_false_iff_not] at hf
        have := q (some (.d (.int (L.length : Nat)))) (some (fresh (L.map intD)))
        rw [if_neg (by omega), List.append_nil] at this
        exact ws_nil (ws_nil this)
end T_k05
set_option linter.all false
set_option Elab.async false
namespace T_k05
open PySem Z
variable {R : List PyData} {h w : Nat} {lt : Nat → Nat → Bool} {T : Tab} {Γ : Nat → List C → FRes} {ρ : Z.Env}
theorem lit_a {r c : Nat} (hr : r < h) (hc : c < w) : (!lt r c || litI h w lt ((r : Int) - ((0 : Nat) : Int)) ((c : Int) - ((1 : Nat) : Int))) = !(lt r c && s0 lt r c) := by
  have e : ((r : Int) - ((0 : Nat) : Int)) = (r : Int) := by simp
  rw [e]
  cases hq : lt r c with
  | false => simp
  | true =>
    simp only [Bool.not_true, Bool.false_or, Bool.true_and]
    unfold s0
    by_cases h0 : c = 0
    · subst h0
      simp [litI]
    · have e2 : ((c : Int) - ((1 : Nat) : Int)) = ((c - 1 : Nat) : Int) := by omega
      rw [e2, lit_nat]
      have : ((c : Int) == 0) = false := by rw [beq_eq_false_iff_ne]; omega
      rw [this]
      unfold inL
      have h3 : c - 1 < w := by omega
      simp [hr, h3]
theorem lit_d {r c : Nat} (hr : r < h) (hc : c < w) : (!lt r c || litI h w lt ((r : Int) - ((1 : Nat) : Int)) ((c : Int) - ((0 : Nat) : Int))) = !(lt r c && s1 lt r c) := by
  have e : ((c : Int) - ((0 : Nat) : Int)) = (c : Int) := by simp
  rw [e]
  cases hq : lt r c with
  | false => simp
  | true =>
    simp only [Bool.not_true, Bool.false_or, Bool.true_and]
    unfold s1
    by_cases h0 : r = 0
    · subst h0
      simp [litI]
    · have e2 : ((r : Int) - ((1 : Nat) : Int)) = ((r - 1 : Nat) : Int) := by omega
      rw [e2, lit_nat]
      have : ((r : Int) == 0) = false := by rw [beq_eq_false_iff_ne]; omega
      rw [this]
      unfold inL
      have h3 : r - 1 < h := by omega
      simp [hc, h3]
def wayAcc (h w : Nat) (lt : Nat → Nat → Bool) (r c : Nat) : Nat → List PyData
  | 0 => []
  | 1 => lOne h w lt "across" 0 1 (lt r c && s0 lt r c) r c
  | _ => lAt h w lt r c
theorem lruns_ok (G : Gr R h w lt) (n : Nat) : callF tab (n + 2) 13 [.d (.tuple R)] = .ok (fresh (lAll h w lt h)) [none] := by
  have hh := G.h8
  have hw := G.w8
  refine call_eq ?_
  (refine call_of (fd := fd__law_runs) rfl rfl ?_; simp only [fd__law_runs, List.map_cons, List.map_nil, List.replicate_succ, List.replicate_zero, List.cons_append, List.nil_append, Nat.reduceSub, Nat.sub_self])
  refine ws_assignO (c_lst (xs := []) c_p0) (by (repeat (first | exact setZ | apply setS))) rfl ?_
  refine ws_forR (fun j ρ => Fin (∃ s2 s3 s4 s5 s6 s7 s8, ρ = [some (.d (.tuple R)), some (fresh (lAll h w lt j)), s2, s3, s4, s5, s6, s7, s8, none])) (high_ev G (p_var rfl)) (by omega) rfl ⟨none, none, none, none, none, none, none, rfl⟩ ?_ ?_
  · rintro r hr ρ ⟨s2, s3, s4, s5, s6, s7, s8, rfl⟩
    refine ⟨_, (by (repeat (first | exact setZ | apply setS))), ?_⟩
    refine ws_forR (fun c ρ => Fin (∃ s3 s4 s5 s6 s7 s8, ρ = [some (.d (.tuple R)), some (fresh (lAll h w lt r ++ lRow h w lt c r)), some (.d (.int (r : Nat))), s3, s4, s5, s6, s7, s8, none])) (wide_ev G (p_var rfl)) (by omega) rfl ⟨s3, s4, s5, s6, s7, s8, by simp [lRow]⟩ ?_ ?_
    · rintro c hc ρ ⟨s3, s4, s5, s6, s7, s8, rfl⟩
      refine ⟨_, (by (repeat (first | exact setZ | apply setS))), ?_⟩
      have hl : (lAll h w lt r ++ lRow h w lt c r).length ≤ 300 := by
        have := lAll_len (h := h) (w := w) (lt := lt) r
        have := lRow_len (h := h) (w := w) (lt := lt) c r
        have : r * (w * 2) ≤ 8 * 16 := Nat.mul_le_mul (by omega) (by omega)
        rw [List.length_append]
        omega
      have fin : lRow h w lt (c + 1) r = lRow h w lt c r ++ lAt h w lt r c := fm_succ _ _
      refine ws_forT (d := .tuple [.tuple [.str "across", .int ((0 : Nat) : Int), .int ((1 : Nat) : Int)], .tuple [.str "down", .int ((1 : Nat) : Int), .int ((0 : Nat) : Int)]]) (l := [.tuple [.str "across", .int ((0 : Nat) : Int), .int ((1 : Nat) : Int)], .tuple [.str "down", .int ((1 : Nat) : Int), .int ((0 : Nat) : Int)]])
        (fun j ρ => Fin (∃ s4 s5 s6 s7 s8, ρ = [some (.d (.tuple R)), some (fresh (lAll h w lt r ++ lRow h w lt c r ++ wayAcc h w lt r c j)), some (.d (.int (r : Nat))), some (.d (.int (c : Nat))), s4, s5, s6, s7, s8, none])) (by (repeat sizeOf_list_dec)) rfl ⟨s4, s5, s6, s7, s8, by rw [wayAcc, List.append_nil]⟩ ?_ ?_
      · rintro j x hx ρ ⟨s4, s5, s6, s7, s8, rfl⟩
        have ho := lOne_len (h := h) (w := w) (lt := lt) "across" 0 1 (lt r c && s0 lt r c) r c
        match j, hx with
        | 0, hx =>
          cases hx
          refine ⟨_, (by ((repeat (first | exact tgs0 | exact setZ | (with_reducible apply tgsC) | (with_reducible apply tgT) | ((with_reducible apply tgN); (· ((repeat (first | exact setZ | apply setS)); done)); (· exact rfl)) | (with_reducible apply setS))))), ?_⟩
          exact lbody G n hr hc (.inr ⟨rfl, rfl, by omega⟩) (lit_a hr hc) (by rw [wayAcc, List.append_nil]; omega) fun s7 s8 => ⟨some (.d (.str "across")), some (.d (.int ((0 : Nat) : Int))), some (.d (.int ((1 : Nat) : Int))), s7, s8, by rw [wayAcc, wayAcc, List.append_nil]⟩
        | 1, hx =>
          cases hx
          refine ⟨_, (by ((repeat (first | exact tgs0 | exact setZ | (with_reducible apply tgsC) | (with_reducible apply tgT) | ((with_reducible apply tgN); (· ((repeat (first | exact setZ | apply setS)); done)); (· exact rfl)) | (with_reducible apply setS))))), ?_⟩
          exact lbody G n hr hc (.inl ⟨rfl, rfl, by omega⟩) (lit_d hr hc) (by rw [wayAcc, List.length_append]; omega) fun s7 s8 => ⟨some (.d (.str "down")), some (.d (.int ((1 : Nat) : Int))), some (.d (.int ((0 : Nat) : Int))), s7, s8, by rw [show wayAcc h w lt r c (1 + 1) = lAt h w lt r c from rfl, wayAcc, lAt, List.append_assoc]⟩
        | j + 2, hx => simp at hx
      · rintro ρ ⟨s4, s5, s6, s7, s8, rfl⟩
        refine ws_nil ⟨some (.d (.int (c : Nat))), s4, s5, s6, s7, s8, ?_⟩
        rw [fin]
        simp only [List.append_assoc]
        rfl
    · rintro ρ ⟨s3, s4, s5, s6, s7, s8, rfl⟩
      refine ws_nil ⟨some (.d (.int (r : Nat))), s3, s4, s5, s6, s7, s8, by rw [show lAll h w lt (r + 1) = lAll h w lt r ++ lRow h w lt w r from fm_succ _ _]⟩
  · rintro ρ ⟨s2, s3, s4, s5, s6, s7, s8, rfl⟩
    exact ws_retV rfl rfl fun ρ' => ⟨rfl, rfl⟩
def sndD : PyData → PyData
  | .tuple [_, x] => x
  | _ => .none
theorem lAt_pAt (r c : Nat) : (lAt h w lt r c).map sndD = (pAt h w lt r c).filter long := by
  have e : ∀ (way : Str) (dr dc : Nat) (st : Bool), (lOne h w lt way dr dc st r c).map sndD = (if st then [rayD h w lt dr dc r c] else []).filter long := fun way dr dc st => by
    unfold lOne
    cases st with
    | false => rfl
    | true =>
      simp only [if_true]
      have : long (rayD h w lt dr dc r c) = decide (1 < (ray h w lt dr dc 9 r c).length) := by
        unfold long rayD lenD
        simp only [List.length_map]
        exact decide_eq_decide.mpr (by omega)
      by_cases hq : 1 < (ray h w lt dr dc 9 r c).length
      · rw [if_pos hq]
        simp [List.filter, this, hq, sndD]
      · rw [if_neg hq]
        simp [List.filter, this, hq]
  unfold lAt pAt
  rw [List.map_append, e, e]
  cases lt r c with
  | false => rfl
  | true => simp only [Bool.true_and, if_true, List.filter_append]
theorem lAll_runs : (lAll h w lt h).map sndD = runsS h w lt := by
  unfold runsS lAll pAll lRow pRow
  simp only [List.map_flatMap, List.filter_flatMap, lAt_pAt]
end T_k05
set_option linter.all false
set_option Elab.async false
namespace T_k05
open PySem Z
variable {R : List PyData} {h w : Nat} {lt : Nat → Nat → Bool} {T : Tab} {Γ : Nat → List C → FRes} {ρ : Z.Env}
def tAt (h w : Nat) (lt : Nat → Nat → Bool) (r c : Nat) : List PyData := if lt r c == lt (h - 1 - r) (w - 1 - c) then [] else [.tuple [.str "turned", .int (r : Int), .int (c : Int)]]
def tRow (h w : Nat) (lt : Nat → Nat → Bool) (m r : Nat) : List PyData := (List.range m).flatMap (tAt h w lt r)
def tAll (h w : Nat) (lt : Nat → Nat → Bool) (m : Nat) : List PyData := (List.range m).flatMap (tRow h w lt w)
theorem tAt_len (r c : Nat) : (tAt h w lt r c).length ≤ 1 := by
  unfold tAt
  split <;> simp
theorem tRow_len (m r : Nat) : (tRow h w lt m r).length ≤ m * 1 := by
  have := fm_len (f := tAt h w lt r) (k := 1) (tAt_len r) (List.range m)
  rwa [List.length_range] at this
theorem tAll_len (m : Nat) : (tAll h w lt m).length ≤ m * (w * 1) := by
  have := fm_len (f := tRow h w lt w) (k := w * 1) (tRow_len w) (List.range m)
  rwa [List.length_range] at this
theorem bool_nn (a b : Bool) : (!((!a) == (!b))) = !(a == b) := by cases a <;> cases b <;> rfl
theorem turned_ok (G : Gr R h w lt) (n : Nat) : callF tab (n + 1) 2 [.d (.tuple R)] = .ok (fresh (tAll h w lt h)) [none] := by
  have hh := G.h8
  have hw := G.w8
  refine call_eq ?_
  (refine call_of (fd := fd_turned_faults) rfl rfl ?_; simp only [fd_turned_faults, List.map_cons, List.map_nil, List.replicate_succ, List.replicate_zero, List.cons_append, List.nil_append, Nat.reduceSub, Nat.sub_self])
  refine ws_assignP (wide_ev G (p_var rfl)) (by (repeat (first | exact setZ | apply setS))) rfl ?_
  refine ws_assignO (c_lst (xs := []) c_p0) (by (repeat (first | exact setZ | apply setS))) rfl ?_
  refine ws_forE (fun j ρ => Fin (∃ s3 s4 s5 s6, ρ = [some (.d (.tuple R)), some (.d (.int w)), some (fresh (tAll h w lt j)), s3, s4, s5, s6])) (p_var rfl) rfl rfl ⟨none, none, none, none, rfl⟩ ?_ ?_
  · rintro r x hx ρ ⟨s3, s4, s5, s6, rfl⟩
    have hr : r < h := by
      have := (List.getElem?_eq_some_iff.mp hx).1
      rwa [G.len] at this
    obtain ⟨s, e1, row⟩ := G.rowOf hr
    rw [hx] at e1
    cases e1
    refine ⟨_, _, (by (repeat (first | exact setZ | apply setS))), (by (repeat (first | exact setZ | apply setS))), ?_⟩
    refine ws_forR (fun c ρ => Fin (∃ s5 s6, ρ = [some (.d (.tuple R)), some (.d (.int w)), some (fresh (tAll h w lt r ++ tRow h w lt c r)), some (.d (.int (r : Nat))), some (.d (.str s)), s5, s6])) (p_var rfl) (by omega) rfl ⟨s5, s6, by simp [tRow]⟩ ?_ ?_
    · rintro c hc ρ ⟨s5, s6, rfl⟩
      refine ⟨_, (by (repeat (first | exact setZ | apply setS))), ?_⟩
      have hl : (tAll h w lt r ++ tRow h w lt c r).length ≤ 300 := by
        have := tAll_len (h := h) (w := w) (lt := lt) r
        have := tRow_len (h := h) (w := w) (lt := lt) c r
        have : r * (w * 1) ≤ 8 * 8 := Nat.mul_le_mul (by omega) (by omega)
        rw [List.length_append]
        omega
      have fin : tRow h w lt (c + 1) r = tRow h w lt c r ++ tAt h w lt r c := fm_succ _ _
      have r1 : ((h : Int) - 1 - r).toNat = h - 1 - r := by omega
      have c1 : ((w : Int) - 1 - c).toNat = w - 1 - c := by omega
      obtain ⟨s', u1, u2, u3⟩ := sd_row G (r := (h : Int) - 1 - r) (by omega) (by omega)
      obtain ⟨d, u4, u5⟩ := u3 ((w : Int) - 1 - c) (by omega) (by omega)
      rw [r1, c1] at u5
      refine ws_assignP (p_sub (p_sub (p_var rfl) (p_o2 (p_o2 (high_ev G (p_var rfl)) p_lit s2_sub) (p_var rfl) s2_sub) u1) (p_o2 (p_o2 (p_var rfl) p_lit s2_sub) (p_var rfl) s2_sub) u4) (by (repeat (first | exact setZ | apply setS))) rfl ?_
      have hb := p_o2 (rcell_eq row (c := (c : Int)) (T := tab) (Γ := callF tab n) (ρ := [some (.d (.tuple R)), some (.d (.int w)), some (fresh (tAll h w lt r ++ tRow h w lt c r)), some (.d (.int (r : Nat))), some (.d (.str s)), some (.d (.int (c : Nat))), some (.d (.str d))]) (A := .var 4) (Cc := .var 5) (X := .glob "DARK" (.str "X")) (p_var rfl) (p_var rfl) p_glob (by omega) (by omega)) (p_o2 (a := .var 6) (b := .glob "DARK" (.str "X")) (p_var rfl) p_glob s2_eqs) o_neb
      rw [u5, Int.toNat_natCast, bool_nn] at hb
      refine ws_iffP hb (fun ht => ?_) (fun hf => ?_)
      · have hq : (lt r c == lt (h - 1 - r) (w - 1 - c)) = false := by simpa using ht
        (repeat sizeOf_list_dec)
        exact ⟨some (.d (.int (c : Nat))), some (.d (.str d)), by rw [fin, tAt, hq]; simp⟩
      · have hq : (lt r c == lt (h - 1 - r) (w - 1 - c)) = true := by simpa using hf
        (repeat sizeOf_list_dec)
        exact ⟨some (.d (.int (c : Nat))), some (.d (.str d)), by rw [fin, tAt, hq]; simp⟩
    · rintro ρ ⟨s5, s6, rfl⟩
      refine ws_nil ⟨some (.d (.int (r : Nat))), some (.d (.str s)), s5, s6, by rw [show tAll h w lt (r + 1) = tAll h w lt r ++ tRow h w lt w r from fm_succ _ _]⟩
  · rintro ρ ⟨s3, s4, s5, s6, rfl⟩
    rw [G.len]
    exact ws_retV rfl rfl fun ρ' => ⟨rfl, rfl⟩
end T_k05
set_option linter.all false
set_option Elab.async false
namespace Z
open PySem
theorem p_ite {T : Tab} {Γ : Nat → List C → FRes} {ρ : Env} {a b c : E} {t : Bool} {d : PyData} (h : Ev T Γ ρ c (.bool t)) (k1 : t = true → Ev T Γ ρ a d) (k2 : t = false → Ev T Γ ρ b d) : Ev T Γ ρ (.ite c a b) d := by
  unfold Ev at *
  rw [evE, h, bind_ok, ab_own, bind_ok]
  cases t with
  | true => exact k1 rfl
  | false => exact k2 rfl
theorem fdiv_nat (a b : Nat) : (a : Int).fdiv (b : Int) = ((a / b : Nat) : Int) := by
  rw [Int.fdiv_eq_ediv_of_nonneg _ (by omega)]
  rfl
theorem fmod_nat (a b : Nat) : (a : Int).fmod (b : Int) = ((a % b : Nat) : Int) := by
  rw [Int.fmod_eq_emod_of_nonneg _ (by omega)]
  rfl
end Z
namespace T_k05
open PySem Z
variable {R : List PyData} {h w : Nat} {lt : Nat → Nat → Bool} {T : Tab} {Γ : Nat → List C → FRes} {ρ : Z.Env}
theorem lAll_mem {y : PyData} (hy : y ∈ lAll h w lt h) : ∃ (way : Str) (dr dc r c : Nat), y = .tuple [.str way, rayD h w lt dr dc r c] ∧ 1 < (ray h w lt dr dc 9 r c).length ∧ ((way = "across" ∧ dr = 0 ∧ dc = 1) ∨ (way = "down" ∧ dr = 1 ∧ dc = 0)) := by
  have e : ∀ {way : Str} {dr dc : Nat} {st : Bool} {r c : Nat}, y ∈ lOne h w lt way dr dc st r c → y = .tuple [.str way, rayD h w lt dr dc r c] ∧ 1 < (ray h w lt dr dc 9 r c).length := fun {way dr dc st r c} hy => by
    unfold lOne at hy
    split at hy
    · split at hy
      · rw [List.mem_singleton] at hy
        exact ⟨hy, by assumption⟩
      · cases hy
    · cases hy
  unfold lAll lRow lAt at hy
  simp only [List.mem_flatMap, List.mem_append] at hy
  obtain ⟨r, _, c, _, hy | hy⟩ := hy
  · obtain ⟨h1, h2⟩ := e hy
    exact ⟨_, _, _, r, c, h1, h2, .inl ⟨rfl, rfl, rfl⟩⟩
  · obtain ⟨h1, h2⟩ := e hy
    exact ⟨_, _, _, r, c, h1, h2, .inr ⟨rfl, rfl, rfl⟩⟩
theorem ray_two {dr dc r c : Nat} (hl : 1 < (ray h w lt dr dc 9 r c).length) : ∃ rest, ray h w lt dr dc 9 r c = (r * w + c) :: ((r + dr) * w + (c + dc)) :: rest ∧ inL h w lt r c = true ∧ inL h w lt (r + dr) (c + dc) = true := by
  rw [ray] at hl ⊢
  by_cases h1 : inL h w lt r c = true
  · rw [if_pos h1] at hl ⊢
    rw [ray] at hl ⊢
    by_cases h2 : inL h w lt (r + dr) (c + dc) = true
    · rw [if_pos h2]
      exact ⟨_, rfl, h1, h2⟩
    · rw [if_neg h2] at hl
      simp at hl
  · rw [if_neg h1] at hl
    simp at hl
def sItem (sh : Int) (w : Nat) : PyData → List PyData
  | .tuple [.str way, .tuple (.int a :: rest)] => if ((rest.length + 1 : Nat) : Int) < sh then [.tuple [.str "short", .str way, .int (a.fdiv w), .int (a.fmod w)]] else []
  | _ => []
def sAll (h w : Nat) (lt : Nat → Nat → Bool) (sh : Int) (j : Nat) : List PyData := ((lAll h w lt h).take j).flatMap (sItem sh w)
theorem sItem_len (sh : Int) (x : PyData) : (sItem sh w x).length ≤ 1 := by
  unfold sItem
  split
  · split <;> simp
  · simp
theorem sAll_len (sh : Int) (j : Nat) (hh : h ≤ 8) (hw : w ≤ 8) : (sAll h w lt sh j).length ≤ 128 := by
  have h1 := fm_len (f := sItem sh w) (k := 1) (sItem_len sh) ((lAll h w lt h).take j)
  have h2 := lAll_len (h := h) (w := w) (lt := lt) h
  have h3 : h * (w * 2) ≤ 8 * 16 := Nat.mul_le_mul hh (by omega)
  have h4 : ((lAll h w lt h).take j).length ≤ (lAll h w lt h).length := by rw [List.length_take]; omega
  unfold sAll
  omega
theorem sAll_succ {sh : Int} {j : Nat} {y : PyData} (hy : (lAll h w lt h)[j]? = some y) : sAll h w lt sh (j + 1) = sAll h w lt sh j ++ sItem sh w y := by
  unfold sAll
  rw [List.take_add_one, hy, List.flatMap_append]
  simp
theorem inL_lt {r c : Nat} (hi : inL h w lt r c = true) : r < h ∧ c < w := by
  unfold inL at hi
  obtain ⟨b1, hb⟩ := and_t hi
  obtain ⟨b2, b3⟩ := and_t hb
  rw [decide_eq_true_eq] at b1 b2
  exact ⟨b1, b2⟩
theorem short_ok (G : Gr R h w lt) (n : Nat) (sh : Int) : callF tab (n + 3) 5 [.d (.tuple R), .d (.int sh)] = .ok (fresh (sAll h w lt sh (lAll h w lt h).length)) [none, none] := by
  have hh := G.h8
  have hw := G.w8
  have hw1 := G.w1
  refine call_eq ?_
  (refine call_of (fd := fd_short_faults) rfl rfl ?_; simp only [fd_short_faults, List.map_cons, List.map_nil, List.replicate_succ, List.replicate_zero, List.cons_append, List.nil_append, Nat.reduceSub, Nat.sub_self])
  refine ws_assignP (wide_ev G (p_var rfl)) (by (repeat (first | exact setZ | apply setS))) rfl ?_
  refine ws_assignO (c_lst (xs := []) c_p0) (by (repeat (first | exact setZ | apply setS))) rfl ?_
  refine ws_forF (l := runsS h w lt) (fun j ρ => Fin (∃ s4 s5, ρ = [some (.d (.tuple R)), some (.d (.int sh)), some (.d (.int w)), some (fresh (sAll h w lt sh j)), s4, s5])) (e_call tt0 rfl (xs := [.tuple R]) (by (repeat sizeOf_list_dec)) (runs_ok G n) rfl) ⟨none, none, by simp [sAll]⟩ ?_ ?_
  · rintro j x hx ρ ⟨s4, s5, rfl⟩
    rw [← lAll_runs, List.getElem?_map, Option.map_eq_some_iff] at hx
    obtain ⟨y, hy, rfl⟩ := hx
    obtain ⟨way, dr, dc, r, c, rfl, hl, hw3⟩ := lAll_mem (List.mem_of_getElem? hy)
    have hs := sAll_succ (sh := sh) hy
    have hlen := sAll_len (h := h) (w := w) (lt := lt) sh j hh hw
    obtain ⟨rest, hr, i1, i2⟩ := ray_two hl
    have b1 := inL_lt i1
    have b2 := inL_lt i2
    have hD : rayD h w lt dr dc r c = .tuple (intD (r * w + c) :: intD ((r + dr) * w + (c + dc)) :: rest.map intD) := by rw [rayD, hr]; rfl
    rw [hD] at hs
    show ∃ ρ', setTg [] (.nm 4) (rayD h w lt dr dc r c) _ = some ρ' ∧ _
    rw [hD]
    refine ⟨_, (by ((repeat (first | exact tgs0 | exact setZ | (with_reducible apply tgsC) | (with_reducible apply tgT) | ((with_reducible apply tgN); (· ((repeat (first | exact setZ | apply setS)); done)); (· exact rfl)) | (with_reducible apply setS))))), ?_⟩
    have e0 : ∀ {s5 : Option C}, Ev tab (callF tab (n + 2)) [some (.d (.tuple R)), some (.d (.int sh)), some (.d (.int w)), some (fresh (sAll h w lt sh j)), some (.d (.tuple (intD (r * w + c) :: intD ((r + dr) * w + (c + dc)) :: rest.map intD))), s5] (.sub (.var 4) (.lit (.int 0))) (.int ((r * w + c : Nat) : Int)) := p_sub (p_var rfl) p_lit (sd_tn (k := 0) rfl)
    have e1 : ∀ {s5 : Option C}, Ev tab (callF tab (n + 2)) [some (.d (.tuple R)), some (.d (.int sh)), some (.d (.int w)), some (fresh (sAll h w lt sh j)), some (.d (.tuple (intD (r * w + c) :: intD ((r + dr) * w + (c + dc)) :: rest.map intD))), s5] (.sub (.var 4) (.lit (.int 1))) (.int (((r + dr) * w + (c + dc) : Nat) : Int)) := p_sub (p_var rfl) p_lit (sd_tn (k := 1) rfl)
    have hlt : sItem sh w (.tuple [.str way, .tuple (intD (r * w + c) :: intD ((r + dr) * w + (c + dc)) :: rest.map intD)]) = if (((intD (r * w + c) :: intD ((r + dr) * w + (c + dc)) :: rest.map intD).length : Nat) : Int) < sh then [.tuple [.str "short", .str way, .int (((r * w + c : Nat) : Int).fdiv w), .int (((r * w + c : Nat) : Int).fmod w)]] else [] := rfl
    refine ws_iffP (p_o2 (p_bi1 (p_var rfl) bi_lent) (p_var rfl) s2_lt) (fun ht => ?_) (fun hf => ?_)
    · rw [decide_eq_true_eq] at ht
      rw [hlt, if_pos ht] at hs
      have hdiv : ∀ {a b : Nat}, b < w → (a * w + b) / w = a := fun {a b} hb => by
        rw [Nat.mul_comm, Nat.mul_add_div (by omega), Nat.div_eq_of_lt hb]
        rfl
      refine ws_assignP (d := .str way) (p_ite (t := (((((r + dr) * w + (c + dc) : Nat) : Int)) == (((r * w + c : Nat) : Int) + 1)) && ((((r * w + c : Nat) : Int).fdiv w) == ((((r + dr) * w + (c + dc) : Nat) : Int).fdiv w))) (p_and (p_ac (p_o2 e1 (p_o2 e0 p_lit s2_add) s2_eqi) fun _ => p_a1 (p_o2 (p_o2 e0 (p_var rfl) (o_fdiv (by omega) (by omega))) (p_o2 e1 (p_var rfl) (o_fdiv (by omega) (by omega))) s2_eqi))) (fun hb => ?_) (fun hb => ?_)) (by (repeat (first | exact setZ | apply setS))) rfl ?_
      · rcases hw3 with ⟨rfl, rfl, rfl⟩ | ⟨rfl, rfl, rfl⟩
        · exact p_lit
        · exfalso
          obtain ⟨q1, q2⟩ := and_t hb
          rw [beq_iff_eq] at q1 q2
          rw [fdiv_nat, fdiv_nat, hdiv b1.2, hdiv b2.2] at q2
          omega
      · rcases hw3 with ⟨rfl, rfl, rfl⟩ | ⟨rfl, rfl, rfl⟩
        · exfalso
          have q1 : ((((r + 0) * w + (c + 1) : Nat) : Int) == (((r * w + c : Nat) : Int) + 1)) = true := by
            rw [beq_iff_eq, Nat.add_zero]
            omega
          have q2 : ((((r * w + c : Nat) : Int).fdiv w) == ((((r + 0) * w + (c + 1) : Nat) : Int).fdiv w)) = true := by
            rw [fdiv_nat, fdiv_nat, hdiv b1.2, hdiv b2.2, Nat.add_zero]
            simp
          rw [q1, q2] at hb
          cases hb
        · exact p_lit
      · refine ws_appendP rfl (p_tup (p_fc p_lit (p_fc (p_var rfl) (p_fc (p_o2 e0 (p_var rfl) (o_fdiv (by omega) (by omega))) (p_fc (p_o2 e0 (p_var rfl) (o_mod (by omega))) p_f0))))) (fun _ _ => rfl) (by omega) (by (repeat (first | exact setZ | apply setS))) ?_
        exact ws_nil (ws_nil ⟨_, _, by rw [hs]⟩)
    · rw [decide_eq_false_iff_not] at hf
      rw [hlt, if_neg hf, List.append_nil] at hs
      exact ws_nil (ws_nil ⟨_, _, by rw [hs]⟩)
  · rintro ρ ⟨s4, s5, rfl⟩
    have : (runsS h w lt).length = (lAll h w lt h).length := by rw [← lAll_runs, List.length_map]
    rw [this]
    exact ws_retV rfl rfl fun ρ' => ⟨rfl, rfl⟩
end T_k05
set_option linter.all false
set_option Elab.async false
namespace T_k05
open PySem Z
section
variable (h w : Nat) (lt : Nat → Nat → Bool)
def LL : List Nat := (List.range (h * w)).filter fun n => lt (n / w) (n % w)
def adj (m n : Nat) : Prop := (m / w = n / w ∧ (m % w + 1 = n % w ∨ n % w + 1 = m % w)) ∨ (m % w = n % w ∧ (m / w + 1 = n / w ∨ n / w + 1 = m / w))
instance (m n : Nat) : Decidable (adj w m n) := by unfold adj; exact inferInstance
inductive Reach (f : Nat) : Nat → Prop
  | base : Reach f f
  | step {x y : Nat} : Reach f x → y ∈ LL h w lt → adj w x y → Reach f y
def bes (R : List Nat) (n : Nat) : Bool := R.any fun m => decide (adj w m n)
def stp (R : List Nat) (n : Nat) : List Nat := if (!R.contains n) && bes w R n then R ++ [n] else R
def swp (l R : List Nat) : List Nat := l.foldl (stp w) R
def itS : Nat → List Nat
  | 0 => (LL h w lt).take 1
  | t + 1 => swp w (LL h w lt) (itS t)
end
variable {h w : Nat} {lt : Nat → Nat → Bool}
theorem LL_nd : (LL h w lt).Nodup := List.Pairwise.filter _ List.nodup_range
theorem stp_sub {R : List Nat} {n x : Nat} (hx : x ∈ R) : x ∈ stp w R n := by
  unfold stp
  split
  · exact List.mem_append_left _ hx
  · exact hx
theorem stp_len {R : List Nat} {n : Nat} : R.length ≤ (stp w R n).length := by
  unfold stp
  split
  · simp
  · exact Nat.le_refl _
theorem swp_sub : ∀ {l R : List Nat} {x : Nat}, x ∈ R → x ∈ swp w l R
  | [], R, x, hx => hx
  | n :: l, R, x, hx => swp_sub (l := l) (stp_sub hx)
theorem swp_len : ∀ {l R : List Nat}, R.length ≤ (swp w l R).length
  | [], R => Nat.le_refl _
  | n :: l, R => Nat.le_trans stp_len (swp_len (l := l))
theorem stp_same {R : List Nat} {n : Nat} (e : (stp w R n).length = R.length) : stp w R n = R ∧ (n ∈ R ∨ bes w R n = false) := by
  unfold stp at e ⊢
  split at e
  · simp at e
  · rename_i hc
    rw [if_neg hc]
    refine ⟨rfl, ?_⟩
    by_cases hn : n ∈ R
    · exact .inl hn
    · right
      have : R.contains n = false := by simpa using hn
      rw [this] at hc
      simpa using hc
theorem swp_same : ∀ {l R : List Nat}, (swp w l R).length = R.length → swp w l R = R ∧ ∀ n ∈ l, n ∈ R ∨ bes w R n = false
  | [], R, _ => ⟨rfl, fun n hn => by cases hn⟩
  | n :: l, R, e => by
    have h1 := stp_len (w := w) (R := R) (n := n)
    have h2 := swp_len (w := w) (l := l) (R := stp w R n)
    have e' : (swp w l (stp w R n)).length = R.length := e
    obtain ⟨h3, h4⟩ := stp_same (w := w) (R := R) (n := n) (by omega)
    rw [h3] at e'
    obtain ⟨h5, h6⟩ := swp_same (l := l) (R := R) e'
    refine ⟨?_, fun m hm => ?_⟩
    · show swp w l (stp w R n) = R
      rw [h3, h5]
    · rcases List.mem_cons.mp hm with rfl | hm
      · exact h4
      · exact h6 m hm
theorem swp_fix : ∀ {l R : List Nat}, (∀ n ∈ l, n ∈ R ∨ bes w R n = false) → swp w l R = R
  | [], R, _ => rfl
  | n :: l, R, e => by
    have : stp w R n = R := by
      unfold stp
      rw [if_neg]
      rcases e n List.mem_cons_self with q | q
      · simp [q]
      · simp [q]
    show swp w l (stp w R n) = R
    rw [this]
    exact swp_fix fun m hm => e m (List.mem_cons_of_mem _ hm)
/-- what is reached: each once, light, hanging together with the first -/
structure Ok (h w : Nat) (lt : Nat → Nat → Bool) (f : Nat) (R : List Nat) : Prop where
  nd : R.Nodup
  sub : ∀ x ∈ R, x ∈ LL h w lt
  re : ∀ x ∈ R, Reach h w lt f x
theorem Ok.stp {f : Nat} {R : List Nat} {n : Nat} (o : Ok h w lt f R) (hn : n ∈ LL h w lt) : Ok h w lt f (stp w R n) := by
  unfold T_k05.stp
  split
  · rename_i hc
    rw [Bool.and_eq_true, Bool.not_eq_true'] at hc
    have hni : n ∉ R := by simpa using hc.1
    obtain ⟨m, hm, ha⟩ := List.any_eq_true.mp hc.2
    rw [decide_eq_true_eq] at ha
    refine ⟨List.nodup_append.mpr ⟨o.nd, by simp, fun a ha b hb e => ?_⟩, fun x hx => ?_, fun x hx => ?_⟩
    · rw [List.mem_singleton.mp hb] at e
      exact hni (e ▸ ha)
    · rcases List.mem_append.mp hx with hx | hx
      · exact o.sub x hx
      · rw [List.mem_singleton.mp hx]; exact hn
    · rcases List.mem_append.mp hx with hx | hx
      · exact o.re x hx
      · rw [List.mem_singleton.mp hx]; exact .step (o.re m hm) hn ha
  · exact o
theorem Ok.swp {f : Nat} : ∀ {l R : List Nat}, Ok h w lt f R → (∀ n ∈ l, n ∈ LL h w lt) → Ok h w lt f (swp w l R)
  | [], R, o, _ => o
  | n :: l, R, o, hl => Ok.swp (l := l) (o.stp (hl n List.mem_cons_self)) fun m hm => hl m (List.mem_cons_of_mem _ hm)
theorem it_ok {f : Nat} {r : List Nat} (hf : LL h w lt = f :: r) : ∀ t, Ok h w lt f (itS h w lt t)
  | 0 => by
    have e : itS h w lt 0 = [f] := by rw [itS, hf]; rfl
    rw [e]
    refine ⟨by simp, fun x hx => ?_, fun x hx => ?_⟩
    · rw [List.mem_singleton.mp hx, hf]; exact List.mem_cons_self
    · rw [List.mem_singleton.mp hx]; exact .base
  | t + 1 => (it_ok hf t).swp fun n hn => hn
theorem it_grow {f : Nat} {r : List Nat} (hf : LL h w lt = f :: r) : ∀ t, (∀ n ∈ LL h w lt, n ∈ itS h w lt t ∨ bes w (itS h w lt t) n = false) ∨ t + 1 ≤ (itS h w lt t).length
  | 0 => .inr (by
    have e : itS h w lt 0 = [f] := by rw [itS, hf]; rfl
    rw [e]
    exact Nat.le_refl _)
  | t + 1 => by
    rcases it_grow hf t with g | g
    · have : itS h w lt (t + 1) = itS h w lt t := swp_fix g
      rw [this]
      exact .inl g
    · by_cases e : (itS h w lt (t + 1)).length = (itS h w lt t).length
      · obtain ⟨h1, h2⟩ := swp_same (l := LL h w lt) (R := itS h w lt t) e
        have : itS h w lt (t + 1) = itS h w lt t := h1
        rw [this]
        exact .inl h2
      · have := swp_len (w := w) (l := LL h w lt) (R := itS h w lt t)
        have e2 : (itS h w lt (t + 1)).length = (swp w (LL h w lt) (itS h w lt t)).length := rfl
        exact .inr (by omega)
theorem it_first {f : Nat} {r : List Nat} (hf : LL h w lt = f :: r) : ∀ t, f ∈ itS h w lt t
  | 0 => by
    have e : itS h w lt 0 = [f] := by rw [itS, hf]; rfl
    rw [e]
    exact List.mem_cons_self
  | t + 1 => swp_sub (it_first hf t)
theorem it_all {f : Nat} {r : List Nat} (hf : LL h w lt = f :: r) (n : Nat) : n ∈ itS h w lt (LL h w lt).length ↔ Reach h w lt f n := by
  refine ⟨(it_ok hf _).re n, fun hr => ?_⟩
  have cl : ∀ m ∈ LL h w lt, m ∈ itS h w lt (LL h w lt).length ∨ bes w (itS h w lt (LL h w lt).length) m = false := by
    rcases it_grow hf (LL h w lt).length with g | g
    · exact g
    · have o := it_ok hf (LL h w lt).length
      have := o.nd.length_le_of_subset (fun x hx => o.sub x hx)
      omega
  induction hr with
  | base => exact it_first hf _
  | @step x y hx hy ha ih =>
    rcases cl y hy with g | g
    · exact g
    · exfalso
      have : bes w (itS h w lt (LL h w lt).length) y = true := List.any_eq_true.mpr ⟨x, ih, decide_eq_true ha⟩
      rw [this] at g
      cases g
/-- what is closed and has the first has all that hangs together with it -/
theorem closed_all {f : Nat} {S : List Nat} (h1 : f ∈ S) (h2 : ∀ x ∈ S, ∀ y ∈ LL h w lt, adj w x y → y ∈ S) {n : Nat} (hr : Reach h w lt f n) : n ∈ S := by
  induction hr with
  | base => exact h1
  | step _ hy ha ih => exact h2 _ ih _ hy ha
end T_k05
set_option linter.all false
set_option Elab.async false
namespace Z
open PySem
section
variable {T : Tab} {Γ : Nat → List C → FRes} {io : List Nat} {ρ ρ' ρ1 : Env} {a b e : E} {QS : Fl → Env → Prop} {ss : List S} {i j : Nat} {d x y : PyData}
theorem ws_par2P (ha : Ev T Γ ρ a x) (hb : Ev T Γ ρ b y) (h1 : SetAt ρ i (some (.d x)) ρ1) (h2 : SetAt ρ1 j (some (.d y)) ρ') (hi : io.contains i = false) (hj : io.contains j = false) (k : WS T Γ io ss ρ' QS) : WS T Γ io (.par [i, j] [a, b] :: ss) ρ QS :=
  ws_par2 ⟨_, _, ha, _, _, rfl, _, _, hb, _, _, _, _, rfl, h1, h2, hi, hj, k⟩
theorem p_ne0V {xs : List PyData} (h : slot ρ i = some (fresh xs)) : Ev T Γ ρ (.o2 .ne (.var i) (.lst [])) (.bool (!xs.isEmpty)) := by
  unfold Ev
  have h0 := p_own (T := T) (Γ := Γ) (cs := xs.map .d) (C0 := fresh xs) h
  have e0 : evE T Γ (.lst []) ρ = .ok (.own (fresh [])) ρ := c_lst (xs := []) c_p0
  rw [evE, h0, bind_ok, e0, bind_ok, hp_bor, Bool.false_and, if_neg Bool.false_ne_true, pk_fresh h, pk_own, fl_f, Option.bind_some, Option.bind_some, s2_nel0, Option.map_some, of_some]
/-- the dict of keys that are numbers, each with True -/
def setC (S : List Nat) : List (Ky × C) := S.map fun (n : Nat) => ((.inl (n : Int), .d (.bool true)) : Ky × C)
def setD (S : List Nat) : List (PyData × PyData) := S.map fun (n : Nat) => (.int (n : Int), .bool true)
theorem setC_flat {S : List Nat} : flatKv (setC S) = some (setD S) := by
  induction S with
  | nil => rfl
  | cons n S ih =>
    show flatKv ((.inl (n : Int), .d (.bool true)) :: setC S) = _
    rw [flatKv, ih]
    rfl
theorem setD_has {S : List Nat} {n : Nat} : hasK (.inl (n : Int)) (setD S) = S.contains n := by
  induction S with
  | nil => rfl
  | cons m S ih =>
    show (decide ((Sum.inl (m : Int) : Ky) = .inl (n : Int)) || hasK (.inl (n : Int)) (setD S)) = _
    rw [ih, List.contains_cons]
    congr 1
    by_cases hq : m = n
    · subst hq; simp
    · have h1 : ¬ ((Sum.inl (m : Int) : Ky) = .inl (n : Int)) := fun z => hq (by injection z with z; omega)
      have h2 : (n == m) = false := by rw [beq_eq_false_iff_ne]; exact fun z => hq z.symm
      rw [decide_eq_false h1, h2]
theorem setC_get {S : List Nat} {n : Nat} (hn : n ∉ S) : getA (setC S) (.inl (n : Int) : Ky) = none := by
  induction S with
  | nil => rfl
  | cons m S ih =>
    rw [List.mem_cons, not_or] at hn
    show (if (Sum.inl (m : Int) : Ky) = .inl (n : Int) then _ else getA (setC S) (.inl (n : Int))) = _
    rw [if_neg (fun z => hn.1 (by injection z with z; omega)), ih hn.2]
theorem setC_set {S : List Nat} {n : Nat} (hn : n ∉ S) : setA (setC S) (.inl (n : Int) : Ky) (.d (.bool true)) = setC (S ++ [n]) := by
  induction S with
  | nil => rfl
  | cons m S ih =>
    rw [List.mem_cons, not_or] at hn
    show (if (Sum.inl (m : Int) : Ky) = .inl (n : Int) then _ else _ :: setA (setC S) (.inl (n : Int)) (.d (.bool true))) = _
    rw [if_neg (fun z => hn.1 (by injection z with z; omega)), ih hn.2]
    rfl
theorem p_notinK {S : List Nat} {n : Nat} (ha : Ev T Γ ρ a (.int (n : Int))) (h : slot ρ i = some (.dct (setC S))) : Ev T Γ ρ (.o2 .notin a (.var i)) (.bool (!S.contains n)) := by
  have pk : peek ρ (.bor i []) = some (.dict (setD S)) := by
    unfold peek
    rw [lk_bor h, Option.bind_some, C.flat, setC_flat]
    rfl
  have hs : sem2 .notin (.int (n : Int)) (.dict (setD S)) = some (.d (.bool (!S.contains n))) := by
    show some (C.d (.bool (!hasK (.inl (n : Int)) (setD S)))) = _
    rw [setD_has]
  obtain ⟨_, _, e, h1, h2⟩ := we_o2 (T := T) (Γ := Γ) (ρ := ρ) (o := .notin) (a := a) (b := .var i) (Q := fun v ρ' => v = .own (.d (.bool (!S.contains n))) ∧ ρ' = ρ) ⟨_, _, ha, we_vk (cs := setC S) h ⟨rfl, _, _, _, rfl, pk, hs, rfl, rfl⟩⟩
  subst h1 h2
  exact e
/-- d[k] = True -/
theorem ws_setK {S : List Nat} {n : Nat} (hb : Ev T Γ ρ b (.int (n : Int))) (hs : slot ρ i = some (.dct (setC S))) (hl : S.length < 16777216) (hn : n ∉ S) (h2 : SetAt ρ i (some (.dct (setC (S ++ [n])))) ρ') (k : WS T Γ io ss ρ' QS) : WS T Γ io (.setIx (.var i) b (.lit (.bool true)) :: ss) ρ QS := by
  refine ws_setIx (we_lit ⟨_, _, rfl, we_vk (cs := setC S) hs ⟨_, _, hb, rfl, i, [], .int (n : Int), .dct (setC S), .key (.inl (n : Int)), ρ', rfl, rfl, lk_bor hs, rfl, ?_, ?_, k⟩⟩)
  · show (decide ((setC S).length < 16777216) && _) = true
    rw [setC_get hn]
    have : (setC S).length = S.length := List.length_map ..
    rw [this, decide_eq_true hl]
    rfl
  · unfold putV
    simp only [hs, C.putP]
    rw [← h2.2]
    show ρ.set i (some (.dct (setA (setC S) _ _))) = _
    rw [setC_set hn]
end
end Z
namespace T_k05
open PySem Z
variable {R : List PyData} {h w : Nat} {lt : Nat → Nat → Bool} {T : Tab} {Γ : Nat → List C → FRes} {ρ : Z.Env}
def nbI (w n : Nat) : List (Int × Int) := [((n / w : Nat) - 1, (n % w : Nat)), ((n / w : Nat), (n % w : Nat) - 1), ((n / w : Nat), (n % w : Nat) + 1), ((n / w : Nat) + 1, (n % w : Nat))]
def tPr (p : Int × Int) : PyData := .tuple [.int p.1, .int p.2]
def ixP (w : Nat) (p : Int × Int) : Nat := p.1.toNat * w + p.2.toNat
def nearL (h w : Nat) (lt : Nat → Nat → Bool) (n : Nat) : List Nat := ((nbI w n).filter fun p => litI h w lt p.1 p.2).map (ixP w)
theorem litI_t {a b : Int} (hl : litI h w lt a b = true) : 0 ≤ a ∧ a < h ∧ 0 ≤ b ∧ b < w ∧ lt a.toNat b.toNat = true := by
  unfold litI at hl
  obtain ⟨h1, h2⟩ := and_t hl
  obtain ⟨h3, h4⟩ := and_t h1
  obtain ⟨h5, h6⟩ := and_t h2
  obtain ⟨h7, h8⟩ := and_t h5
  simp only [decide_eq_true_eq] at h3 h4 h7 h8
  exact ⟨h3, h4, h7, h8, h6⟩
theorem ix_div {a b : Nat} (hb : b < w) : (a * w + b) / w = a ∧ (a * w + b) % w = b := by
  constructor
  · rw [Nat.mul_comm, Nat.mul_add_div (by omega), Nat.div_eq_of_lt hb]
    rfl
  · rw [Nat.mul_comm, Nat.mul_add_mod, Nat.mod_eq_of_lt hb]
theorem mem_LL {n : Nat} : n ∈ LL h w lt ↔ n < h * w ∧ lt (n / w) (n % w) = true := by
  unfold LL
  rw [List.mem_filter, List.mem_range]
theorem near_mem (hw : 1 ≤ w) {x y : Nat} : y ∈ nearL h w lt x ↔ y ∈ LL h w lt ∧ adj w x y := by
  unfold nearL
  rw [List.mem_map]
  constructor
  · rintro ⟨p, hp, rfl⟩
    rw [List.mem_filter] at hp
    obtain ⟨h1, h2⟩ := hp
    obtain ⟨a0, a1, b0, b1, hl⟩ := litI_t h2
    have hb : p.2.toNat < w := by omega
    obtain ⟨d1, d2⟩ := ix_div (w := w) (a := p.1.toNat) hb
    have hlt : ixP w p < h * w := by
      have : p.1.toNat + 1 ≤ h := by omega
      have h3 : (p.1.toNat + 1) * w ≤ h * w := Nat.mul_le_mul_right _ this
      rw [Nat.add_mul, Nat.one_mul] at h3
      unfold ixP
      omega
    refine ⟨mem_LL.mpr ⟨hlt, by unfold ixP; rw [d1, d2]; exact hl⟩, ?_⟩
    unfold adj ixP
    rw [d1, d2]
    simp only [nbI, List.mem_cons, List.not_mem_nil, or_false] at h1
    rcases h1 with rfl | rfl | rfl | rfl <;> simp only at a0 a1 b0 b1 ⊢
    · exact .inr ⟨by omega, .inr (by omega)⟩
    · exact .inl ⟨by omega, .inr (by omega)⟩
    · exact .inl ⟨by omega, .inl (by omega)⟩
    · exact .inr ⟨by omega, .inl (by omega)⟩
  · rintro ⟨hy, ha⟩
    obtain ⟨hy1, hy2⟩ := mem_LL.mp hy
    have hm : y % w < w := Nat.mod_lt _ (by omega)
    have hd : y / w < h := by rw [Nat.div_lt_iff_lt_mul (by omega)]; exact hy1
    refine ⟨((y / w : Nat), (y % w : Nat)), ?_, ?_⟩
    · rw [List.mem_filter]
      refine ⟨?_, ?_⟩
      · simp only [nbI, List.mem_cons, List.not_mem_nil, or_false, Prod.mk.injEq]
        unfold adj at ha
        omega
      · show litI h w lt ((y / w : Nat) : Int) ((y % w : Nat) : Int) = true
        rw [lit_nat]
        unfold inL
        rw [decide_eq_true hd, decide_eq_true hm, hy2]
        rfl
    · show ((y / w : Nat) : Int).toNat * w + ((y % w : Nat) : Int).toNat = y
      rw [Int.toNat_natCast, Int.toNat_natCast, Nat.mul_comm]
      exact Nat.div_add_mod y w
theorem near_len (n : Nat) : (nearL h w lt n).length ≤ 4 := by
  unfold nearL
  rw [List.length_map]
  exact Nat.le_trans (List.length_filter_le ..) (Nat.le_refl 4)
theorem near_ok (G : Gr R h w lt) (n : Nat) (cell : Nat) : callF tab (n + 1) 3 [.d (.tuple R), .d (.int (cell : Nat))] = .ok (fresh ((nearL h w lt cell).map intD)) [none, none] := by
  have hh := G.h8
  have hw := G.w8
  have hw1 := G.w1
  refine call_eq ?_
  (refine call_of (fd := fd_near_cells) rfl rfl ?_; simp only [fd_near_cells, List.map_cons, List.map_nil, List.replicate_succ, List.replicate_zero, List.cons_append, List.nil_append, Nat.reduceSub, Nat.sub_self])
  refine ws_assignP (wide_ev G (p_var rfl)) (by (repeat (first | exact setZ | apply setS))) rfl ?_
  refine ws_par2P (x := .int ((cell / w : Nat) : Int)) (y := .int ((cell % w : Nat) : Int)) (p_o2 (p_var rfl) (p_var rfl) (fdiv_nat cell w ▸ o_fdiv (by omega) (by omega))) (p_o2 (p_var rfl) (p_var rfl) (fmod_nat cell w ▸ o_mod (by omega))) (by (repeat (first | exact setZ | apply setS))) (by (repeat (first | exact setZ | apply setS))) rfl rfl ?_
  refine ws_assignO (c_lst (xs := []) c_p0) (by (repeat (first | exact setZ | apply setS))) rfl ?_
  refine ws_forT (d := .tuple ((nbI w cell).map tPr)) (l := (nbI w cell).map tPr) (fun j ρ => Fin (∃ s6 s7, ρ = [some (.d (.tuple R)), some (.d (.int (cell : Nat))), some (.d (.int w)), some (.d (.int ((cell / w : Nat) : Int))), some (.d (.int ((cell % w : Nat) : Int))), some (fresh (((((nbI w cell).take j).filter fun p => litI h w lt p.1 p.2).map (ixP w)).map intD)), s6, s7])) (by (repeat sizeOf_list_dec)) rfl ⟨none, none, rfl⟩ ?_ ?_
  · rintro j x hx ρ ⟨s6, s7, rfl⟩
    rw [List.getElem?_map, Option.map_eq_some_iff] at hx
    obtain ⟨p, hp, rfl⟩ := hx
    show ∃ ρ', setTg [] _ (.tuple [.int p.1, .int p.2]) _ = some ρ' ∧ _
    refine ⟨_, (by ((repeat (first | exact tgs0 | exact setZ | (with_reducible apply tgsC) | (with_reducible apply tgT) | ((with_reducible apply tgN); (· ((repeat (first | exact setZ | apply setS)); done)); (· exact rfl)) | (with_reducible apply setS))))), ?_⟩
    have ht : (nbI w cell).take (j + 1) = (nbI w cell).take j ++ [p] := by
      rw [List.take_add_one, hp]
      rfl
    have hl : (((((nbI w cell).take j).filter fun p => litI h w lt p.1 p.2).map (ixP w)).map intD).length ≤ 4 := by
      rw [List.length_map, List.length_map]
      refine Nat.le_trans (List.length_filter_le ..) ?_
      rw [List.length_take]
      exact Nat.min_le_right _ _
    refine ws_iffP (t := litI h w lt p.1 p.2) (p_and (p_ac (p_chain p_lit (p_var rfl) s2_le (fun _ => high_ev G (p_var rfl)) (fun _ => s2_lt)) fun a1 => p_ac (s := decide (0 ≤ p.2) && decide (p.2 < w)) (t := lt p.1.toNat p.2.toNat) (p_chain p_lit (p_var rfl) s2_le (fun _ => p_var rfl) (fun _ => s2_lt)) fun a2 => p_a1 ?_)) (fun hi => ?_) (fun hi => ?_)
    · obtain ⟨b1, b2⟩ := and_t a1
      obtain ⟨b3, b4⟩ := and_t a2
      simp only [decide_eq_true_eq] at b1 b2 b3 b4
      exact cell_ne G (p_var rfl) (p_var rfl) (p_var rfl) p_glob b1 b2 b3 b4
    · obtain ⟨a0, a1, b0, b1, _⟩ := litI_t hi
      refine ws_appendP (d := intD (ixP w p)) rfl ?_ (fun _ _ => rfl) (by omega) (by (repeat (first | exact setZ | apply setS))) (ws_nil (ws_nil ⟨some (.d (.int p.1)), some (.d (.int p.2)), by rw [ht]; simp [hi]⟩))
      have e : (p.1 * (w : Int) + p.2) = ((ixP w p : Nat) : Int) := by
        unfold ixP
        have h1 : (p.1.toNat : Int) = p.1 := by omega
        have h2 : (p.2.toNat : Int) = p.2 := by omega
        rw [Int.natCast_add, Int.natCast_mul, h1, h2]
      show Ev _ _ _ _ (.int ((ixP w p : Nat) : Int))
      rw [← e]
      exact p_o2 (p_o2 (p_var rfl) (p_var rfl) (o_mulL (by omega))) (p_var rfl) s2_add
    · exact ws_nil (ws_nil ⟨some (.d (.int p.1)), some (.d (.int p.2)), by rw [ht]; simp [hi]⟩)
  · rintro ρ ⟨s6, s7, rfl⟩
    have : (nbI w cell).take ((nbI w cell).map tPr).length = nbI w cell := rfl
    rw [this]
    exact ws_retV rfl rfl fun ρ' => ⟨rfl, rfl⟩
end T_k05
set_option linter.all false
set_option Elab.async false
namespace T_k05
open PySem Z
variable {R : List PyData} {h w : Nat} {lt : Nat → Nat → Bool} {T : Tab} {Γ : Nat → List C → FRes} {ρ : Z.Env}
def apD (w n : Nat) : PyData := .tuple [.str "apart", .int ((n / w : Nat) : Int), .int ((n % w : Nat) : Int)]
def apS (h w : Nat) (lt : Nat → Nat → Bool) (S : List Nat) : List PyData := ((LL h w lt).filter fun n => !S.contains n).map (apD w)
/-- so many of l aren't in S -/
def un : List Nat → List Nat → Nat
  | [], _ => 0
  | m :: l, S => (if S.contains m = true then 0 else 1) + un l S
theorem un_len {S : List Nat} : ∀ {l : List Nat}, un l S ≤ l.length
  | [] => Nat.le_refl _
  | m :: l => by
    have := un_len (S := S) (l := l)
    rw [un, List.length_cons]
    split <;> omega
theorem cont_app {S : List Nat} {n m : Nat} : (S ++ [n]).contains m = (S.contains m || m == n) := by
  rw [List.contains_eq_any_beq, List.any_append, ← List.contains_eq_any_beq]
  simp
theorem un_le {S : List Nat} {n : Nat} : ∀ {l : List Nat}, un l (S ++ [n]) ≤ un l S
  | [] => Nat.le_refl _
  | m :: l => by
    have := un_le (S := S) (n := n) (l := l)
    rw [un, un, cont_app]
    cases S.contains m <;> cases (m == n) <;> simp only [Bool.or_true, Bool.or_false, Bool.false_eq_true, if_true, if_false] <;> omega
theorem un_lt {S : List Nat} {n : Nat} (hs : n ∉ S) : ∀ {l : List Nat}, n ∈ l → un l (S ++ [n]) < un l S
  | m :: l, hn => by
    have hle := un_le (S := S) (n := n) (l := l)
    rw [un, un, cont_app]
    by_cases hq : m = n
    · subst hq
      have h1 : S.contains m = false := by simpa using hs
      have h2 : (m == m) = true := by simp
      rw [h1, h2]
      simp only [Bool.or_true, Bool.false_eq_true, if_true, if_false]
      omega
    · have h2 : (m == n) = false := beq_eq_false_iff_ne.mpr hq
      rcases List.mem_cons.mp hn with rfl | hn
      · exact absurd rfl hq
      · have := un_lt hs hn
        rw [h2]
        cases S.contains m <;> simp only [Bool.or_false, Bool.false_eq_true, if_true, if_false] <;> omega
theorem LL_len : (LL h w lt).length ≤ h * w := by
  unfold LL
  refine Nat.le_trans (List.length_filter_le ..) ?_
  rw [List.length_range]
  exact Nat.le_refl _
theorem apart_ok (G : Gr R h w lt) (n : Nat) : ∃ S fin, callF tab (n + 2) 4 [.d (.tuple R)] = .ok (fresh (apS h w lt S)) fin ∧ fin = [none] ∧ ∀ f r, LL h w lt = f :: r → ∀ n, n ∈ S ↔ Reach h w lt f n := by
  have hh := G.h8
  have hw := G.w8
  have hw1 := G.w1
  have hhw : h * w ≤ 8 * 8 := Nat.mul_le_mul hh hw
  suffices hz : ∃ r fin, callF tab (n + 2) 4 [.d (.tuple R)] = .ok r fin ∧ Fin (∃ S, r = fresh (apS h w lt S) ∧ fin = [none] ∧ ∀ f r, LL h w lt = f :: r → ∀ n, n ∈ S ↔ Reach h w lt f n) by
    obtain ⟨r, fin, h1, ⟨S, rfl, rfl, h3⟩⟩ := hz
    exact ⟨S, _, h1, rfl, h3⟩
  (refine call_of (fd := fd_apart_faults) rfl rfl ?_; simp only [fd_apart_faults, List.map_cons, List.map_nil, List.replicate_succ, List.replicate_zero, List.cons_append, List.nil_append, Nat.reduceSub, Nat.sub_self])
  refine ws_assignP (wide_ev G (p_var rfl)) (by (repeat (first | exact setZ | apply setS))) rfl ?_
  -- the light cells
  have el : evE tab (callF tab (n + 1)) (.comp (.var 5) (.nm 5) .range [(.o2 .mul (.bi .len [(.var 0)]) (.var 1))] [(.o2 .ne (.sub (.sub (.var 0) (.o2 .fdiv (.var 5) (.var 1))) (.o2 .mod (.var 5) (.var 1))) (.glob "DARK" (.str "X")))] [5]) [some (.d (.tuple R)), some (.d (.int w)), none, none, none, none] = .ok (.own (fresh ((LL h w lt).map intD))) [some (.d (.tuple R)), some (.d (.int w)), none, none, none, none] := by
    have e0 : ((h : Int) * (w : Int)) = ((h * w : Nat) : Int) := by simp
    have ec := c_rng (T := tab) (Γ := callF tab (n + 1)) (ρ := [some (.d (.tuple R)), some (.d (.int w)), none, none, none, none]) (ρ1 := [some (.d (.tuple R)), some (.d (.int w)), none, none, none, none]) (i := 5) (m := h * w) (elt := .var 5) (src := (.o2 .mul (.bi .len [(.var 0)]) (.var 1))) (cond := [(.o2 .ne (.sub (.sub (.var 0) (.o2 .fdiv (.var 5) (.var 1))) (.o2 .mod (.var 5) (.var 1))) (.glob "DARK" (.str "X")))])
      (p := fun x => match x with | .int j => lt (j.toNat / w) (j.toNat % w) | _ => false) (g := id) (e0 ▸ p_o2 (high_ev G (p_var rfl)) (p_var rfl) (o_mulL (by omega))) (by omega) (show 5 < 6 by decide) rfl (fun _ _ => rfl) (fun j hj => p_a1 (by
        have hd : j / w < h := by rw [Nat.div_lt_iff_lt_mul (by omega)]; exact hj
        have hm : j % w < w := Nat.mod_lt _ (by omega)
        exact cell_ne G (r := ((j / w : Nat) : Int)) (c := ((j % w : Nat) : Int)) (p_var rfl) (p_o2 (p_var rfl) (p_var rfl) (fdiv_nat j w ▸ o_fdiv (by omega) (by omega))) (p_o2 (p_var rfl) (p_var rfl) (fmod_nat j w ▸ o_mod (by omega))) p_glob (Int.natCast_nonneg _) (Int.ofNat_lt.mpr hd) (Int.natCast_nonneg _) (Int.ofNat_lt.mpr hm))) (fun j hj _ => p_var rfl)
    rw [ec]
    congr 2
    rw [List.map_id, rng_eq, List.filter_map]
    rfl
  refine ws_assignO el (by (repeat (first | exact setZ | apply setS))) rfl ?_
  refine ws_assignO (c0 := .dct (setC [])) (by rw [evE, evP, bind_ok]; rfl) (by (repeat (first | exact setZ | apply setS))) rfl ?_
  have es : evE tab (callF tab (n + 1)) (.slc (.var 2) none (some (.lit (.int 1)))) [some (.d (.tuple R)), some (.d (.int w)), some (fresh ((LL h w lt).map intD)), some (.dct (setC [])), none, none] = .ok (.own (fresh (((LL h w lt).take 1).map intD))) [some (.d (.tuple R)), some (.d (.int w)), some (fresh ((LL h w lt).map intD)), some (.dct (setC [])), none, none] := by
    obtain ⟨_, _, e1, e2, e3⟩ := we_slc (T := tab) (Γ := callF tab (n + 1)) (a := .var 2) (lo := none) (hi := some (.lit (.int 1))) (ρ := [some (.d (.tuple R)), some (.d (.int w)), some (fresh ((LL h w lt).map intD)), some (.dct (setC [])), none, none]) (Q := fun v ρ' => v = .own (fresh (((LL h w lt).take 1).map intD)) ∧ ρ' = [some (.d (.tuple R)), some (.d (.int w)), some (fresh ((LL h w lt).map intD)), some (.dct (setC [])), none, none])
      (we_vl (cs := ((LL h w lt).map intD).map .d) rfl (wi0 (wi1 (we_lit ⟨_, rfl, rfl, _, _, pk_fresh rfl, cd_l, by rw [show (1 : Int) = ((1 : Nat) : Int) from rfl, cut_to, List.map_take], rfl⟩))))
    subst e2 e3
    exact e1
  refine ws_assignO es (by (repeat (first | exact setZ | apply setS))) rfl ?_
  refine ws_while (fun m ρ => Fin (∃ S P : List Nat, ∃ s5 : Option PyData, ρ = [some (.d (.tuple R)), some (.d (.int w)), some (fresh ((LL h w lt).map intD)), some (.dct (setC S)), some (fresh (P.map intD)), s5.map .d] ∧ m = un (LL h w lt) S * 5 + P.length ∧ m ≤ 400 ∧ S.length + un (LL h w lt) S ≤ 64 ∧ (∀ x ∈ S, x ∈ LL h w lt) ∧ (∀ x ∈ P, x ∈ LL h w lt) ∧
      ∀ f r, LL h w lt = f :: r → (∀ x ∈ S, Reach h w lt f x) ∧ (∀ x ∈ P, Reach h w lt f x) ∧ (f ∈ S ∨ f ∈ P) ∧ ∀ x ∈ S, ∀ y ∈ LL h w lt, adj w x y → y ∈ S ∨ y ∈ P)) (un (LL h w lt) [] * 5 + ((LL h w lt).take 1).length) ?_ ⟨[], (LL h w lt).take 1, none, rfl, rfl, ?_, ?_, (fun x hx => by cases hx), (fun x hx => List.mem_of_mem_take hx), fun f r hf => ⟨(fun x hx => by cases hx), (fun x hx => ?_), .inr ?_, fun x hx => by cases hx⟩⟩ ?_
  · have : un (LL h w lt) [] ≤ (LL h w lt).length := un_len
    have := LL_len (h := h) (w := w) (lt := lt)
    rw [List.length_take]
    omega
  · have : un (LL h w lt) [] ≤ (LL h w lt).length := un_len
    have := LL_len (h := h) (w := w) (lt := lt)
    rw [List.length_take]
    omega
  · have : un (LL h w lt) [] ≤ (LL h w lt).length := un_len
    have := LL_len (h := h) (w := w) (lt := lt)
    rw [List.length_nil]
    omega
  · rw [hf] at hx
    rw [show x = f by simpa using hx]
    exact .base
  · rw [hf]; simp
  rintro m ρ ⟨S, P, s5, rfl, hm, hm4, hS, hSL, hPL, hR⟩
  refine ⟨_, _, p_ne0V rfl, _, rfl, fun ht => ?_, fun hf => ?_⟩
  · have hne : P ≠ [] := fun e => by rw [e] at ht; cases ht
    obtain ⟨Q, x, rfl⟩ : ∃ Q x, P = Q ++ [x] := ⟨P.dropLast, P.getLast hne, (List.dropLast_concat_getLast hne).symm⟩
    have hx : x ∈ LL h w lt := hPL x (by simp)
    have eP : (Q ++ [x]).map intD = Q.map intD ++ [intD x] := by simp
    rw [eP]
    refine ws_assign (we_pop (xs := Q.map intD) (x := intD x) rfl (by (repeat (first | exact setZ | apply setS))) ⟨_, _, _, rfl, (by (repeat (first | exact setZ | apply setS))), rfl, ?_⟩)
    refine ws_iffP (p_notinK (S := S) (n := x) (p_var rfl) rfl) (fun hn => ?_) (fun hn => ?_)
    · have hn' : x ∉ S := by simpa using hn
      refine ws_setK (S := S) (n := x) (p_var rfl) rfl (by omega) hn' (by (repeat (first | exact setZ | apply setS))) ?_
      have hnl := near_len (h := h) (w := w) (lt := lt) x
      rw [List.length_append, List.length_singleton] at hm
      refine ws_extend rfl (wpc ⟨_, _, e_call tt3 rfl (xs := [.tuple R, intD x]) (elc (p_var rfl) (elc (p_var rfl) el0)) (near_ok G n x) rfl, .d (.list ((nearL h w lt x).map intD)), _, (show (Z.frz _ (.own (fresh ((nearL h w lt x).map intD)))).bind _ = _ by rw [fz_f]; rfl), wp0 ⟨_, _, _, rfl, rfl, ?_, (by (repeat (first | exact setZ | apply setS))), ws_nil (ws_nil ?_)⟩⟩)
      · rw [List.length_map, List.length_map, List.length_map]; omega
      · have hu := un_lt hn' hx
        refine ⟨un (LL h w lt) (S ++ [x]) * 5 + (Q ++ nearL h w lt x).length, ?_, S ++ [x], Q ++ nearL h w lt x, some (intD x), ?_, rfl, ?_, ?_, ?_, ?_, ?_⟩
        · rw [List.length_append]; omega
        · show _ = [_, _, _, _, some (C.lst (((Q ++ nearL h w lt x).map intD).map .d)), _]
          rw [List.map_append, List.map_append]
          rfl
        · rw [List.length_append]; omega
        · rw [List.length_append, List.length_singleton]; omega
        · intro y hy
          rcases List.mem_append.mp hy with hy | hy
          · exact hSL y hy
          · rw [List.mem_singleton.mp hy]; exact hx
        · intro y hy
          rcases List.mem_append.mp hy with hy | hy
          · exact hPL y (List.mem_append_left _ hy)
          · exact ((near_mem hw1).mp hy).1
        · intro f r hf
          obtain ⟨r1, r2, r3, r4⟩ := hR f r hf
          have rx : Reach h w lt f x := r2 x (by simp)
          refine ⟨fun y hy => ?_, fun y hy => ?_, ?_, fun y hy z hz ha => ?_⟩
          · rcases List.mem_append.mp hy with hy | hy
            · exact r1 y hy
            · rw [List.mem_singleton.mp hy]; exact rx
          · rcases List.mem_append.mp hy with hy | hy
            · exact r2 y (List.mem_append_left _ hy)
            · obtain ⟨q1, q2⟩ := (near_mem hw1).mp hy
              exact .step rx q1 q2
          · rcases r3 with r3 | r3
            · exact .inl (List.mem_append_left _ r3)
            · rcases List.mem_append.mp r3 with r3 | r3
              · exact .inr (List.mem_append_left _ r3)
              · exact .inl (List.mem_append_right _ r3)
          · rcases List.mem_append.mp hy with hy | hy
            · rcases r4 y hy z hz ha with q | q
              · exact .inl (List.mem_append_left _ q)
              · rcases List.mem_append.mp q with q | q
                · exact .inr (List.mem_append_left _ q)
                · exact .inl (List.mem_append_right _ q)
            · rw [List.mem_singleton.mp hy] at ha
              exact .inr (List.mem_append_right _ ((near_mem hw1).mpr ⟨hz, ha⟩))
    · have hn' : x ∈ S := by simpa using hn
      rw [List.length_append, List.length_singleton] at hm
      refine ws_nil (ws_nil ⟨un (LL h w lt) S * 5 + Q.length, by omega, S, Q, some (intD x), rfl, rfl, by omega, hS, hSL, fun y hy => hPL y (List.mem_append_left _ hy), fun f r hf => ?_⟩)
      obtain ⟨r1, r2, r3, r4⟩ := hR f r hf
      refine ⟨r1, fun y hy => r2 y (List.mem_append_left _ hy), ?_, fun y hy z hz ha => ?_⟩
      · rcases r3 with r3 | r3
        · exact .inl r3
        · rcases List.mem_append.mp r3 with r3 | r3
          · exact .inr r3
          · rw [List.mem_singleton.mp r3]; exact .inl hn'
      · rcases r4 y hy z hz ha with q | q
        · exact .inl q
        · rcases List.mem_append.mp q with q | q
          · exact .inr q
          · rw [List.mem_singleton.mp q]; exact .inl hn'
  · have hP : P = [] := by
      cases P with
      | nil => rfl
      | cons _ _ => cases hf
    subst hP
    have er : evE tab (callF tab (n + 1)) (.comp (.tup [(.lit (.str "apart")), (.o2 .fdiv (.var 5) (.var 1)), (.o2 .mod (.var 5) (.var 1))]) (.nm 5) .pl [(.var 2)] [(.o2 .notin (.var 5) (.var 3))] [5]) [some (.d (.tuple R)), some (.d (.int w)), some (fresh ((LL h w lt).map intD)), some (.dct (setC S)), some (fresh (([] : List Nat).map intD)), s5.map .d] = .ok (.own (fresh (apS h w lt S))) [some (.d (.tuple R)), some (.d (.int w)), some (fresh ((LL h w lt).map intD)), some (.dct (setC S)), some (fresh (([] : List Nat).map intD)), s5.map .d] := by
      have := e_comp (T := tab) (Γ := callF tab (n + 1)) (ρ := [some (.d (.tuple R)), some (.d (.int w)), some (fresh ((LL h w lt).map intD)), some (.dct (setC S)), some (fresh (([] : List Nat).map intD)), s5.map .d]) (elt := (.tup [(.lit (.str "apart")), (.o2 .fdiv (.var 5) (.var 1)), (.o2 .mod (.var 5) (.var 1))])) (tg := .nm 5) (kk := .pl) (src := [.var 2]) (cond := [(.o2 .notin (.var 5) (.var 3))]) (own := [5])
        (fun x => match x with | .int j => !S.contains j.toNat | _ => false) (fun x => match x with | .int j => apD w j.toNat | _ => .none) (l := (LL h w lt).map intD) (wvc (we_vl (cs := ((LL h w lt).map intD).map .d) rfl ⟨rfl, wv0 ⟨_, pk_if (pk_c (pk_fresh rfl) pk_0) rfl, src_list⟩⟩)) (by cases s5 <;> rfl) (by cases s5 <;> rfl) fun x hx => ?_
      · rw [this]
        congr 2
        rw [List.filter_map, List.map_map]
        rfl
      · obtain ⟨k, hk, rfl⟩ := List.mem_map.mp hx
        refine ⟨_, rfl, rfl, rfl, wa_a (p_a1 (p_notinK (S := S) (n := k) (p_var rfl) rfl)) ⟨rfl, rfl, fun _ => we_put (d := apD w k) (p_tup (p_fc p_lit (p_fc (p_o2 (p_var rfl) (p_var rfl) (fdiv_nat k w ▸ o_fdiv (by omega) (by omega))) (p_fc (p_o2 (p_var rfl) (p_var rfl) (fmod_nat k w ▸ o_mod (by omega))) p_f0)))) fun _ _ => rfl⟩⟩
    refine ws_retO er ⟨S, rfl, rfl, fun f r hf n => ⟨fun hn => (hR f r hf).1 n hn, fun hr => ?_⟩⟩
    obtain ⟨r1, r2, r3, r4⟩ := hR f r hf
    refine closed_all (r3.resolve_right fun q => by cases q) (fun x hx y hy ha => (r4 x hx y hy ha).resolve_right fun q => by cases q) hr
end T_k05
set_option linter.all false
set_option Elab.async false
namespace T_k05
open PySem Z
variable {R : List PyData} {h w : Nat} {lt : Nat → Nat → Bool} {T : Tab} {Γ : Nat → List C → FRes} {ρ : Z.Env}
def pD (w n : Nat) : PyData := .tuple [.int ((n / w : Nat) : Int), .int ((n % w : Nat) : Int)]
def LLrow (w : Nat) (lt : Nat → Nat → Bool) (r : Nat) : List Nat := ((List.range w).filter (lt r)).map fun c => r * w + c
theorem LL_fm (hw : 1 ≤ w) : ∀ h, LL h w lt = (List.range h).flatMap (LLrow w lt)
  | 0 => by simp [LL]
  | h + 1 => by
    rw [fm_succ, ← LL_fm hw h]
    unfold LL LLrow
    rw [Nat.add_mul, Nat.one_mul, List.range_add, List.filter_append, List.filter_map]
    congr 2
    refine List.filter_congr fun c hc => ?_
    obtain ⟨d1, d2⟩ := ix_div (w := w) (a := h) (List.mem_range.mp hc)
    show lt ((h * w + c) / w) ((h * w + c) % w) = lt h c
    rw [d1, d2]
theorem eqv_pair {a b x y : Int} : PyData.eqv (.tuple [.int a, .int b]) (.tuple [.int x, .int y]) = (decide (a = x) && decide (b = y)) := by
  have : PyData.eqv (.tuple [.int a, .int b]) (.tuple [.int x, .int y]) = ((a == x) && ((b == y) && true)) := rfl
  rw [this, Bool.and_true]
  rfl
theorem lay_pD : ∀ {l : List Nat}, PyData.canLayAll0 (l.map (pD w)) = true
  | [] => rfl
  | n :: l => by
    rw [List.map_cons]
    show (PyData.canLay0 (pD w n) && PyData.canLayAll0 (l.map (pD w))) = true
    rw [lay_pD]
    rfl
theorem memOk_pD {a b : Int} {l : List Nat} : memOk (tPr (a, b)) (l.map (pD w)) = true := by
  unfold memOk
  rw [lay_pD]
  rfl
theorem mem_pD {a b : Int} {l : List Nat} : mem (tPr (a, b)) (l.map (pD w)) = l.any fun m => decide (((m / w : Nat) : Int) = a ∧ ((m % w : Nat) : Int) = b) := by
  unfold mem
  rw [List.any_map]
  congr 1
  funext m
  show PyData.eqv (pD w m) (tPr (a, b)) = _
  unfold pD tPr
  rw [eqv_pair, Bool.decide_and]
theorem mem_self {n : Nat} {l : List Nat} : mem (pD w n) (l.map (pD w)) = l.contains n := by
  have := mem_pD (w := w) (a := ((n / w : Nat) : Int)) (b := ((n % w : Nat) : Int)) (l := l)
  have e : tPr (((n / w : Nat) : Int), ((n % w : Nat) : Int)) = pD w n := rfl
  rw [e] at this
  rw [this, List.contains_eq_any_beq]
  congr 1
  funext m
  rw [Bool.eq_iff_iff]
  simp only [decide_eq_true_eq, beq_iff_eq]
  constructor
  · rintro ⟨h1, h2⟩
    have e1 : m / w = n / w := by omega
    have e2 : m % w = n % w := by omega
    have := Nat.div_add_mod m w
    have := Nat.div_add_mod n w
    rw [e1, e2] at *
    omega
  · rintro rfl
    exact ⟨rfl, rfl⟩
def bsI (w n : Nat) : List (Int × Int) := [((n / w : Nat) - 1, (n % w : Nat)), ((n / w : Nat) + 1, (n % w : Nat)), ((n / w : Nat), (n % w : Nat) - 1), ((n / w : Nat), (n % w : Nat) + 1)]
theorem bes_pD {n : Nat} {l : List Nat} : ((bsI w n).any fun p => mem (tPr p) (l.map (pD w))) = bes w l n := by
  rw [Bool.eq_iff_iff]
  unfold bes
  simp only [List.any_eq_true, decide_eq_true_eq]
  constructor
  · rintro ⟨⟨a, b⟩, hp, hm⟩
    rw [mem_pD, List.any_eq_true] at hm
    obtain ⟨m, hm, hd⟩ := hm
    rw [decide_eq_true_eq] at hd
    refine ⟨m, hm, ?_⟩
    unfold adj
    simp only [bsI, List.mem_cons, List.not_mem_nil, or_false, Prod.mk.injEq] at hp
    omega
  · rintro ⟨m, hm, ha⟩
    refine ⟨(((m / w : Nat) : Int), ((m % w : Nat) : Int)), ?_, ?_⟩
    · simp only [bsI, List.mem_cons, List.not_mem_nil, or_false, Prod.mk.injEq]
      unfold adj at ha
      omega
    · rw [mem_pD, List.any_eq_true]
      exact ⟨m, hm, by simp⟩
theorem stp_len2 {l : List Nat} {n : Nat} : (stp w l n).length ≤ l.length + 1 := by
  unfold stp
  split
  · rw [List.length_append, List.length_singleton]; exact Nat.le_refl _
  · omega
theorem swp_len2 : ∀ {l R : List Nat}, (swp w l R).length ≤ R.length + l.length
  | [], R => Nat.le_refl _
  | n :: l, R => by
    have h1 := swp_len2 (l := l) (R := stp w R n)
    have h2 := stp_len2 (w := w) (l := R) (n := n)
    rw [List.length_cons]
    have : swp w (n :: l) R = swp w l (stp w R n) := rfl
    rw [this]
    omega
theorem it_len (hh : h ≤ 8) (hw : w ≤ 8) (t : Nat) : (itS h w lt t).length ≤ 64 := by
  have hhw : h * w ≤ 8 * 8 := Nat.mul_le_mul hh hw
  have hl := LL_len (h := h) (w := w) (lt := lt)
  cases hf : LL h w lt with
  | nil =>
    have : ∀ t, itS h w lt t = [] := fun t => by
      induction t with
      | zero => rw [itS, hf]; rfl
      | succ t ih => rw [itS, ih, hf]; rfl
    rw [this]
    exact Nat.zero_le _
  | cons f r =>
    have o := it_ok hf t
    have := o.nd.length_le_of_subset (fun x hx => o.sub x hx)
    omega
end T_k05
set_option linter.all false
set_option Elab.async false
namespace T_k05
open PySem Z
variable {R : List PyData} {h w : Nat} {lt : Nat → Nat → Bool} {T : Tab} {Γ : Nat → List C → FRes} {ρ : Z.Env}
def oD (o : Option PyData) : Option C := o.map .d
def bT (w n : Nat) : List PyData := (bsI w n).map tPr
/-- the list of light cells as the frame holds it -/
def lightC (b : Bool) (l : List PyData) : C := if b then .d (.list l) else fresh l
theorem notin_pD {a b : Int} {S : List Nat} {es : List E} {i : Nat} (ha : Ev T Γ ρ (.tup es) (.tuple [.int a, .int b])) (hs : slot ρ i = some (fresh (S.map (pD w)))) : Ev T Γ ρ (.o2 .notin (.tup es) (.var i)) (.bool (!mem (.tuple [.int a, .int b]) (S.map (pD w)))) := by
  obtain ⟨_, _, e, h1, h2⟩ := we_o2 (T := T) (Γ := Γ) (ρ := ρ) (o := .notin) (a := .tup es) (b := .var i) (Q := fun v ρ' => v = .own (.d (.bool (!mem (.tuple [.int a, .int b]) (S.map (pD w))))) ∧ ρ' = ρ)
    ⟨_, _, ha, we_vl (cs := (S.map (pD w)).map .d) hs ⟨rfl, _, _, _, rfl, pk_fresh hs, (show (if memOk (tPr (a, b)) (S.map (pD w)) then some (C.d (.bool (!mem (tPr (a, b)) (S.map (pD w))))) else none) = _ by rw [if_pos memOk_pD]; rfl), rfl, rfl⟩⟩
  subst h1 h2
  exact e
theorem lbody2 (G : Gr R h w lt) (n : Nat) {c1 : C} {x : Nat} {S : List Nat} {s4 s6 : Option C} {P : Z.Env → Prop} {QS : Fl → Z.Env → Prop} (hS : S.length ≤ 200)
    (q : ∀ s6, P [some (.d (.tuple R)), some c1, some (.d (.int ((x / w : Nat) : Int))), some (fresh ((stp w S x).map (pD w))), s4, some (.d (.int ((x % w : Nat) : Int))), s6, none]) :
    WS tab (callF tab n) [] [(.assign 6 (.lst [(.tup [(.o2 .sub (.var 2) (.lit (.int 1))), (.var 5)]), (.tup [(.o2 .add (.var 2) (.lit (.int 1))), (.var 5)]), (.tup [(.var 2), (.o2 .sub (.var 5) (.lit (.int 1)))]), (.tup [(.var 2), (.o2 .add (.var 5) (.lit (.int 1)))])])), (.iff (.and [(.o2 .notin (.tup [(.var 2), (.var 5)]) (.var 3)), (.o2 .ne (.comp (.var 7) (.nm 7) .pl [(.var 6)] [(.o2 .isin (.var 7) (.var 3))] [7]) (.lst []))]) [(.ex (.meth .append (.var 3) [(.tup [(.var 2), (.var 5)])]))] [])]
      [some (.d (.tuple R)), some c1, some (.d (.int ((x / w : Nat) : Int))), some (fresh (S.map (pD w))), s4, some (.d (.int ((x % w : Nat) : Int))), s6, none] (turnEnd P QS) := by
  have eB : ∀ {s6 : Option C}, evE tab (callF tab n) (.lst [(.tup [(.o2 .sub (.var 2) (.lit (.int 1))), (.var 5)]), (.tup [(.o2 .add (.var 2) (.lit (.int 1))), (.var 5)]), (.tup [(.var 2), (.o2 .sub (.var 5) (.lit (.int 1)))]), (.tup [(.var 2), (.o2 .add (.var 5) (.lit (.int 1)))])]) [some (.d (.tuple R)), some c1, some (.d (.int ((x / w : Nat) : Int))), some (fresh (S.map (pD w))), s4, some (.d (.int ((x % w : Nat) : Int))), s6, none] = .ok (.own (fresh (bT w x))) [some (.d (.tuple R)), some c1, some (.d (.int ((x / w : Nat) : Int))), some (fresh (S.map (pD w))), s4, some (.d (.int ((x % w : Nat) : Int))), s6, none] := fun {s6} =>
    c_lst (xs := bT w x) (c_pc (fun _ _ => rfl) (EvC.of (p_tup (p_fc (p_o2 (p_var rfl) p_lit s2_sub) (p_fc (p_var rfl) p_f0)))) (c_pc (fun _ _ => rfl) (EvC.of (p_tup (p_fc (p_o2 (p_var rfl) p_lit s2_add) (p_fc (p_var rfl) p_f0)))) (c_pc (fun _ _ => rfl) (EvC.of (p_tup (p_fc (p_var rfl) (p_fc (p_o2 (p_var rfl) p_lit s2_sub) p_f0)))) (c_pc (fun _ _ => rfl) (EvC.of (p_tup (p_fc (p_var rfl) (p_fc (p_o2 (p_var rfl) p_lit s2_add) p_f0)))) c_p0))))
  refine ws_assignO eB (by (repeat (first | exact setZ | apply setS))) rfl ?_
  have pk : ∀ {s7 : Option C}, peek [some (.d (.tuple R)), some c1, some (.d (.int ((x / w : Nat) : Int))), some (fresh (S.map (pD w))), s4, some (.d (.int ((x % w : Nat) : Int))), some (fresh (bT w x)), s7] (.bor 3 []) = some (.list (S.map (pD w))) := pk_fresh rfl
  have e1 : Ev tab (callF tab n) [some (.d (.tuple R)), some c1, some (.d (.int ((x / w : Nat) : Int))), some (fresh (S.map (pD w))), s4, some (.d (.int ((x % w : Nat) : Int))), some (fresh (bT w x)), none] (.o2 .notin (.tup [(.var 2), (.var 5)]) (.var 3)) (.bool (!S.contains x)) := by
    have := notin_pD (w := w) (T := tab) (Γ := callF tab n) (ρ := [some (.d (.tuple R)), some c1, some (.d (.int ((x / w : Nat) : Int))), some (fresh (S.map (pD w))), s4, some (.d (.int ((x % w : Nat) : Int))), some (fresh (bT w x)), none]) (a := ((x / w : Nat) : Int)) (b := ((x % w : Nat) : Int)) (S := S) (es := [(.var 2), (.var 5)]) (i := 3) (p_tup (p_fc (p_var rfl) (p_fc (p_var rfl) p_f0))) rfl
    have e : mem (.tuple [.int ((x / w : Nat) : Int), .int ((x % w : Nat) : Int)]) (S.map (pD w)) = S.contains x := mem_self (w := w) (n := x) (l := S)
    rw [e] at this
    exact this
  have e2 : Ev tab (callF tab n) [some (.d (.tuple R)), some c1, some (.d (.int ((x / w : Nat) : Int))), some (fresh (S.map (pD w))), s4, some (.d (.int ((x % w : Nat) : Int))), some (fresh (bT w x)), none] (.o2 .ne (.comp (.var 7) (.nm 7) .pl [(.var 6)] [(.o2 .isin (.var 7) (.var 3))] [7]) (.lst [])) (.bool (bes w S x)) := by
    have ec := e_comp (T := tab) (Γ := callF tab n) (ρ := [some (.d (.tuple R)), some c1, some (.d (.int ((x / w : Nat) : Int))), some (fresh (S.map (pD w))), s4, some (.d (.int ((x % w : Nat) : Int))), some (fresh (bT w x)), none]) (elt := .var 7) (tg := .nm 7) (kk := .pl) (src := [.var 6]) (cond := [(.o2 .isin (.var 7) (.var 3))]) (own := [7]) (fun y => mem y (S.map (pD w))) id (l := bT w x) (wvc (we_vl (cs := (bT w x).map .d) rfl ⟨rfl, wv0 ⟨_, pk_if (pk_c (pk_fresh rfl) pk_0) rfl, src_list⟩⟩)) rfl rfl fun y hy => by
      obtain ⟨⟨a, b⟩, hp, rfl⟩ := List.mem_map.mp hy
      refine ⟨_, rfl, rfl, rfl, wa_a (p_a1 ?_) ⟨rfl, rfl, fun _ => we_put (d := tPr (a, b)) (p_var rfl) fun _ _ => rfl⟩⟩
      obtain ⟨_, _, e, h1, h2⟩ := we_o2 (T := tab) (Γ := callF tab n) (ρ := [some (.d (.tuple R)), some c1, some (.d (.int ((x / w : Nat) : Int))), some (fresh (S.map (pD w))), s4, some (.d (.int ((x % w : Nat) : Int))), some (fresh (bT w x)), some (.d (tPr (a, b)))]) (o := .isin) (a := .var 7) (b := .var 3) (Q := fun v ρ' => v = .own (.d (.bool (mem (tPr (a, b)) (S.map (pD w))))) ∧ ρ' = [some (.d (.tuple R)), some c1, some (.d (.int ((x / w : Nat) : Int))), some (fresh (S.map (pD w))), s4, some (.d (.int ((x % w : Nat) : Int))), some (fresh (bT w x)), some (.d (tPr (a, b)))])
        ⟨_, _, (p_var rfl : Ev _ _ _ _ (tPr (a, b))), we_vl (cs := (S.map (pD w)).map .d) rfl ⟨rfl, _, _, _, rfl, pk, (show (if memOk (tPr (a, b)) (S.map (pD w)) then some (C.d (.bool (mem (tPr (a, b)) (S.map (pD w))))) else none) = _ by rw [if_pos memOk_pD]), rfl, rfl⟩⟩
      subst h1 h2
      exact e
    have e0 : ∀ {ρ : Z.Env}, evE tab (callF tab n) (.lst []) ρ = .ok (.own (fresh [])) ρ := c_lst (xs := []) c_p0
    have hb : (!((bT w x).filter fun y => mem y (S.map (pD w))).isEmpty) = bes w S x := by
      rw [← bes_pD (w := w) (n := x) (l := S)]
      show (!(((bsI w x).map tPr).filter fun y => mem y (S.map (pD w))).isEmpty) = _
      rw [List.filter_map, List.isEmpty_map]
      generalize bsI w x = B
      induction B with
      | nil => rfl
      | cons p B ih =>
        rw [List.filter_cons, List.any_cons]
        cases hq : mem (tPr p) (S.map (pD w)) with
        | true => simp [hq]
        | false => simpa [hq] using ih
    unfold Ev
    rw [evE, ec, bind_ok, e0, bind_ok, hp_own, Bool.false_and, if_neg Bool.false_ne_true, pk_own, pk_own, fl_f, fl_f, Option.bind_some, Option.bind_some, List.map_id, s2_nel0, Option.map_some, of_some, hb]
  have hq : stp w S x = if (!S.contains x) && bes w S x then S ++ [x] else S := rfl
  refine ws_iffP (p_and (p_ac e1 fun _ => p_a1 e2)) (fun ht => ?_) (fun hf => ?_)
  · have := q (some (fresh (bT w x)))
    rw [hq, if_pos ht, List.map_append] at this
    refine ws_appendP (d := pD w x) rfl (p_tup (p_fc (p_var rfl) (p_fc (p_var rfl) p_f0))) (fun _ _ => rfl) (by rw [List.length_map]; omega) (by (repeat (first | exact setZ | apply setS))) (ws_nil (ws_nil this))
  · have := q (some (fresh (bT w x)))
    rw [hq, if_neg (by rw [hf]; exact Bool.false_ne_true)] at this
    exact ws_nil (ws_nil this)
theorem lapart_ok (G : Gr R h w lt) (n : Nat) : callF tab (n + 1) 14 [.d (.tuple R)] = .ok (fresh (apS h w lt (itS h w lt (LL h w lt).length))) [none] := by
  have hh := G.h8
  have hw := G.w8
  have hw1 := G.w1
  have hhw : h * w ≤ 8 * 8 := Nat.mul_le_mul hh hw
  have hLL := LL_len (h := h) (w := w) (lt := lt)
  refine call_eq ?_
  (refine call_of (fd := fd__law_apart) rfl rfl ?_; simp only [fd__law_apart, List.map_cons, List.map_nil, List.replicate_succ, List.replicate_zero, List.cons_append, List.nil_append, Nat.reduceSub, Nat.sub_self])
  refine ws_assignO (c_lst (xs := []) c_p0) (by (repeat (first | exact setZ | apply setS))) rfl ?_
  refine ws_forR (fun j ρ => Fin (∃ s2 : Option PyData, ρ = [some (.d (.tuple R)), some (fresh (((List.range j).flatMap (LLrow w lt)).map (pD w))), oD s2, none, none, none, none, none])) (high_ev G (p_var rfl)) (by omega) rfl ⟨none, rfl⟩ ?_ ?_
  · rintro r hr ρ ⟨s2, rfl⟩
    refine ⟨_, (by (repeat (first | exact setZ | apply setS))), ?_⟩
    have ec := c_rng (T := tab) (Γ := callF tab n) (ρ := [some (.d (.tuple R)), some (fresh (((List.range r).flatMap (LLrow w lt)).map (pD w))), some (.d (.int (r : Nat))), none, none, none, none, none]) (i := 5) (m := w) (elt := (.tup [(.var 2), (.var 5)])) (src := (.bi .len [(.sub (.var 0) (.lit (.int 0)))])) (cond := [(.o2 .ne (.sub (.sub (.var 0) (.var 2)) (.var 5)) (.lit (.str "X")))])
      (p := fun x => match x with | .int j => lt r j.toNat | _ => false) (g := fun x => .tuple [.int (r : Nat), x]) (wide_ev G (p_var rfl)) (by omega) (show 5 < 8 by decide) rfl (fun _ _ => rfl) (fun j hj => p_a1 (cell_ne G (r := (r : Nat)) (c := (j : Nat)) (p_var rfl) (p_var rfl) (p_var rfl) p_lit (by omega) (by omega) (by omega) (by omega))) (fun j hj _ => p_tup (p_fc (p_var rfl) (p_fc (p_var rfl) p_f0)))
    have hl : ((rangeD 0 (w : Nat)).filter fun x => match x with | .int j => lt r j.toNat | _ => false).map (fun x => PyData.tuple [.int (r : Nat), x]) = (LLrow w lt r).map (pD w) := by
      unfold LLrow
      rw [rng_eq, List.filter_map, List.map_map, List.map_map]
      refine List.map_congr_left fun c hc => ?_
      have hc' : c < w := List.mem_range.mp (List.mem_filter.mp hc).1
      obtain ⟨d1, d2⟩ := ix_div (w := w) (a := r) hc'
      show PyData.tuple [.int (r : Nat), .int (c : Nat)] = pD w (r * w + c)
      unfold pD
      rw [d1, d2]
    rw [hl] at ec
    refine ws_assignO (c_addl (xs := ((List.range r).flatMap (LLrow w lt)).map (pD w)) rfl ec rfl ?_) (by (repeat (first | exact setZ | apply setS))) rfl (ws_nil ⟨some (.int (r : Nat)), ?_⟩)
    · rw [List.length_map, List.length_map]
      have h1 := fm_len (f := LLrow w lt) (k := w) (fun r => by unfold LLrow; rw [List.length_map]; exact Nat.le_trans (List.length_filter_le ..) (by rw [List.length_range]; exact Nat.le_refl _)) (List.range r)
      rw [List.length_range] at h1
      have h2 : r * w ≤ 8 * 8 := Nat.mul_le_mul (by omega) hw
      have h3 : (LLrow w lt r).length ≤ w := by unfold LLrow; rw [List.length_map]; exact Nat.le_trans (List.length_filter_le ..) (by rw [List.length_range]; exact Nat.le_refl _)
      omega
    · rw [fm_succ, List.map_append]
      rfl
  · rintro ρ ⟨s2, rfl⟩
    rw [← LL_fm hw1]
    have es : evE tab (callF tab n) (.slc (.var 1) none (some (.lit (.int 1)))) [some (.d (.tuple R)), some (fresh ((LL h w lt).map (pD w))), oD s2, none, none, none, none, none] = .ok (.own (fresh (((LL h w lt).take 1).map (pD w)))) [some (.d (.tuple R)), some (fresh ((LL h w lt).map (pD w))), oD s2, none, none, none, none, none] := by
      obtain ⟨_, _, e1, e2, e3⟩ := we_slc (T := tab) (Γ := callF tab n) (a := .var 1) (lo := none) (hi := some (.lit (.int 1))) (ρ := [some (.d (.tuple R)), some (fresh ((LL h w lt).map (pD w))), oD s2, none, none, none, none, none]) (Q := fun v ρ' => v = .own (fresh (((LL h w lt).take 1).map (pD w))) ∧ ρ' = [some (.d (.tuple R)), some (fresh ((LL h w lt).map (pD w))), oD s2, none, none, none, none, none])
        (we_vl (cs := ((LL h w lt).map (pD w)).map .d) rfl (wi0 (wi1 (we_lit ⟨_, rfl, rfl, _, _, pk_fresh rfl, cd_l, by rw [show (1 : Int) = ((1 : Nat) : Int) from rfl, cut_to, List.map_take], rfl⟩))))
      subst e2 e3
      exact e1
    refine ws_assignO es (by (repeat (first | exact setZ | apply setS))) rfl ?_
    refine ws_forR (m := (LL h w lt).length) (fun t ρ => Fin (∃ (b : Bool) (s2 s4 s5 : Option PyData) (s6 : Option C), ρ = [some (.d (.tuple R)), some (lightC b ((LL h w lt).map (pD w))), oD s2, some (fresh ((itS h w lt t).map (pD w))), oD s4, oD s5, s6, none])) ?_ (by omega) rfl ⟨false, s2, none, none, none, rfl⟩ ?_ ?_
    · have := p_lenf (T := tab) (Γ := callF tab n) (ρ := [some (.d (.tuple R)), some (fresh ((LL h w lt).map (pD w))), oD s2, some (fresh (((LL h w lt).take 1).map (pD w))), none, none, none, none]) (i := 1) (xs := (LL h w lt).map (pD w)) rfl
      rwa [List.length_map] at this
    · rintro t ht ρ ⟨b, s2, s4, s5, s6, rfl⟩
      refine ⟨_, (by (repeat (first | exact setZ | apply setS))), ?_⟩
      have hil := it_len (lt := lt) hh hw t
      refine ws_for (fun j ρ => Fin (∃ (s2 s5 : Option PyData) (s6 : Option C), ρ = [some (.d (.tuple R)), some (.d (.list ((LL h w lt).map (pD w)))), oD s2, some (fresh ((swp w ((LL h w lt).take j) (itS h w lt t)).map (pD w))), some (.d (.int (t : Nat))), oD s5, s6, none])) ?_
      have hrest : Fin (∃ (s2' s5' : Option PyData) (s6' : Option C), [some (.d (.tuple R)), some (.d (.list ((LL h w lt).map (pD w)))), oD s2, some (fresh ((itS h w lt t).map (pD w))), some (.d (.int (t : Nat))), oD s5, s6, none] = [some (.d (.tuple R)), some (.d (.list ((LL h w lt).map (pD w)))), oD s2', some (fresh ((swp w ((LL h w lt).take 0) (itS h w lt t)).map (pD w))), some (.d (.int (t : Nat))), oD s5', s6', none]) := ⟨s2, s5, s6, rfl⟩
      have hstep : ∀ (j : Nat) (x : PyData) (ρ : Z.Env), ((LL h w lt).map (pD w))[j]? = some x → Fin (∃ (s2 s5 : Option PyData) (s6 : Option C), ρ = [some (.d (.tuple R)), some (.d (.list ((LL h w lt).map (pD w)))), oD s2, some (fresh ((swp w ((LL h w lt).take j) (itS h w lt t)).map (pD w))), some (.d (.int (t : Nat))), oD s5, s6, none]) → ∃ ρ', setTg [] (.tup [.nm 2, .nm 5]) x ρ = some ρ' ∧ WS tab (callF tab n) [] [(.assign 6 (.lst [(.tup [(.o2 .sub (.var 2) (.lit (.int 1))), (.var 5)]), (.tup [(.o2 .add (.var 2) (.lit (.int 1))), (.var 5)]), (.tup [(.var 2), (.o2 .sub (.var 5) (.lit (.int 1)))]), (.tup [(.var 2), (.o2 .add (.var 5) (.lit (.int 1)))])])), (.iff (.and [(.o2 .notin (.tup [(.var 2), (.var 5)]) (.var 3)), (.o2 .ne (.comp (.var 7) (.nm 7) .pl [(.var 6)] [(.o2 .isin (.var 7) (.var 3))] [7]) (.lst []))]) [(.ex (.meth .append (.var 3) [(.tup [(.var 2), (.var 5)])]))] [])] ρ' (turnEnd (fun ρ => Fin (∃ (s2 s5 : Option PyData) (s6 : Option C), ρ = [some (.d (.tuple R)), some (.d (.list ((LL h w lt).map (pD w)))), oD s2, some (fresh ((swp w ((LL h w lt).take (j + 1)) (itS h w lt t)).map (pD w))), some (.d (.int (t : Nat))), oD s5, s6, none])) (turnEnd (fun ρ => Fin (∃ (b : Bool) (s2 s4 s5 : Option PyData) (s6 : Option C), ρ = [some (.d (.tuple R)), some (lightC b ((LL h w lt).map (pD w))), oD s2, some (fresh ((itS h w lt (t + 1)).map (pD w))), oD s4, oD s5, s6, none])) (callEnd [] 1 fun r' fin' => Fin (r' = fresh (apS h w lt (itS h w lt (LL h w lt).length)) ∧ fin' = [none])))) := by
        rintro j x ρ hx ⟨s2, s5, s6, rfl⟩
        rw [List.getElem?_map, Option.map_eq_some_iff] at hx
        obtain ⟨k, hk, rfl⟩ := hx
        show ∃ ρ', setTg [] _ (.tuple [.int ((k / w : Nat) : Int), .int ((k % w : Nat) : Int)]) _ = some ρ' ∧ _
        refine ⟨_, (by ((repeat (first | exact tgs0 | exact setZ | (with_reducible apply tgsC) | (with_reducible apply tgT) | ((with_reducible apply tgN); (· ((repeat (first | exact setZ | apply setS)); done)); (· exact rfl)) | (with_reducible apply setS))))), ?_⟩
        have hsl := swp_len2 (w := w) (l := (LL h w lt).take j) (R := itS h w lt t)
        have htl : ((LL h w lt).take j).length ≤ (LL h w lt).length := by rw [List.length_take]; omega
        refine lbody2 G n (by omega) fun s6 => ⟨some (.int ((k / w : Nat) : Int)), some (.int ((k % w : Nat) : Int)), s6, ?_⟩
        have : swp w ((LL h w lt).take (j + 1)) (itS h w lt t) = stp w (swp w ((LL h w lt).take j) (itS h w lt t)) k := by
          rw [List.take_add_one, hk]
          show List.foldl _ _ _ = _
          rw [List.foldl_append]
          rfl
        rw [this]
        rfl
      have hend : ∀ (ρ : Z.Env), Fin (∃ (s2 s5 : Option PyData) (s6 : Option C), ρ = [some (.d (.tuple R)), some (.d (.list ((LL h w lt).map (pD w)))), oD s2, some (fresh ((swp w ((LL h w lt).take ((LL h w lt).map (pD w)).length) (itS h w lt t)).map (pD w))), some (.d (.int (t : Nat))), oD s5, s6, none]) → WS tab (callF tab n) [] [] ρ (turnEnd (fun ρ => Fin (∃ (b : Bool) (s2 s4 s5 : Option PyData) (s6 : Option C), ρ = [some (.d (.tuple R)), some (lightC b ((LL h w lt).map (pD w))), oD s2, some (fresh ((itS h w lt (t + 1)).map (pD w))), oD s4, oD s5, s6, none])) (callEnd [] 1 fun r' fin' => Fin (r' = fresh (apS h w lt (itS h w lt (LL h w lt).length)) ∧ fin' = [none]))) := by
        rintro ρ ⟨s2, s5, s6, rfl⟩
        rw [List.length_map, List.take_length]
        exact ws_nil ⟨true, s2, some (.int (t : Nat)), s5, s6, rfl⟩
      cases b with
      | false => exact wvc (we_vl (cs := ((LL h w lt).map (pD w)).map .d) rfl ⟨rfl, wv0 ⟨_, _, _, fr_s1 (fz_b rfl (by (repeat (first | exact setZ | apply setS)))), rfl, hrest, hstep, hend⟩⟩)
      | true => exact wvc (we_vd rfl ⟨rfl, wv0 ⟨_, _, _, rfl, rfl, hrest, hstep, hend⟩⟩)
    · rintro ρ ⟨b, s2, s4, s5, s6, rfl⟩
      have hsrc : WV tab (callF tab n) [.var 1] [some (.d (.tuple R)), some (lightC b ((LL h w lt).map (pD w))), oD s2, some (fresh ((itS h w lt (LL h w lt).length).map (pD w))), oD s4, oD s5, s6, none] fun vs ρ1 => ∃ xs, (if (nc (.tup [(.lit (.str "apart")), (.var 2), (.var 5)]) && ncs [(.o2 .notin (.tup [(.var 2), (.var 5)]) (.var 3))]) = true then Res.of (peeks ρ1 vs) ρ1 else frzs vs ρ1) = .ok xs [some (.d (.tuple R)), some (lightC b ((LL h w lt).map (pD w))), oD s2, some (fresh ((itS h w lt (LL h w lt).length).map (pD w))), oD s4, oD s5, s6, none] ∧ srcOf .pl xs = some ((LL h w lt).map (pD w)) := by
        cases b with
        | false => exact wvc (we_vl (cs := ((LL h w lt).map (pD w)).map .d) rfl ⟨rfl, wv0 ⟨_, pk_if (pk_c (pk_fresh rfl) pk_0) rfl, src_list⟩⟩)
        | true => exact wvc (we_vd rfl ⟨rfl, wv0 ⟨_, rfl, src_list⟩⟩)
      have er := e_comp (T := tab) (Γ := callF tab n) (ρ := [some (.d (.tuple R)), some (lightC b ((LL h w lt).map (pD w))), oD s2, some (fresh ((itS h w lt (LL h w lt).length).map (pD w))), oD s4, oD s5, s6, none]) (elt := (.tup [(.lit (.str "apart")), (.var 2), (.var 5)])) (tg := (.tup [.nm 2, .nm 5])) (kk := .pl) (src := [.var 1]) (cond := [(.o2 .notin (.tup [(.var 2), (.var 5)]) (.var 3))]) (own := [2, 5])
        (fun x => !mem x ((itS h w lt (LL h w lt).length).map (pD w))) (fun x => match x with | .tuple xs => .tuple (.str "apart" :: xs) | _ => .none) (l := (LL h w lt).map (pD w)) hsrc (by cases s2 <;> cases s5 <;> rfl) (by cases s2 <;> cases s5 <;> rfl) fun x hx => by
        obtain ⟨k, hk, rfl⟩ := List.mem_map.mp hx
        refine ⟨_, rfl, rfl, rfl, wa_a (p_a1 ?_) ⟨rfl, rfl, fun _ => we_put (d := .tuple [.str "apart", .int ((k / w : Nat) : Int), .int ((k % w : Nat) : Int)]) (p_tup (p_fc p_lit (p_fc (p_var rfl) (p_fc (p_var rfl) p_f0)))) fun _ _ => rfl⟩⟩
        exact notin_pD (p_tup (p_fc (p_var rfl) (p_fc (p_var rfl) p_f0))) rfl
      refine ws_retO er ⟨?_, rfl⟩
      unfold apS
      rw [List.filter_map, List.map_map]
      congr 1
      congr 1
      refine List.filter_congr fun k _ => ?_
      show (!mem (pD w k) _) = _
      rw [mem_self]
end T_k05
set_option linter.all false
set_option Elab.async false
namespace T_k05
open PySem Z
variable {R : List PyData} {h w : Nat} {lt : Nat → Nat → Bool} {T : Tab} {Γ : Nat → List C → FRes} {ρ : Z.Env}
def fltS (h w : Nat) (lt : Nat → Nat → Bool) (sh : Int) : List PyData := tAll h w lt h ++ apS h w lt (itS h w lt (LL h w lt).length) ++ sAll h w lt sh (lAll h w lt h).length
theorem apS_len (S : List Nat) : (apS h w lt S).length ≤ h * w := by
  unfold apS
  rw [List.length_map]
  exact Nat.le_trans (List.length_filter_le ..) LL_len
theorem apS_eq {S : List Nat} (hS : ∀ f r, LL h w lt = f :: r → ∀ n, n ∈ S ↔ Reach h w lt f n) : apS h w lt S = apS h w lt (itS h w lt (LL h w lt).length) := by
  unfold apS
  congr 1
  refine List.filter_congr fun n hn => ?_
  cases hf : LL h w lt with
  | nil => rw [hf] at hn; cases hn
  | cons f r =>
    have h1 := hS f r hf n
    have h2 := it_all hf n
    rw [hf] at h2
    congr 1
    rw [Bool.eq_iff_iff, List.contains_iff_mem, List.contains_iff_mem, h1, ← h2]
theorem faults_ok (G : Gr R h w lt) (n : Nat) (sh : Int) (W : PyData) : callF tab (n + 4) 6 [.d (.tuple [.tuple R, .int sh, W])] = .ok (.d (.tuple (fltS h w lt sh))) [none] := by
  have hh := G.h8
  have hw := G.w8
  have hhw : h * w ≤ 8 * 8 := Nat.mul_le_mul hh hw
  obtain ⟨S, fin, ha, rfl, hS⟩ := apart_ok G (n + 1)
  rw [apS_eq hS] at ha
  refine call_eq ?_
  (refine call_of (fd := fd_faults_of) rfl rfl ?_; simp only [fd_faults_of, List.map_cons, List.map_nil, List.replicate_succ, List.replicate_zero, List.cons_append, List.nil_append, Nat.reduceSub, Nat.sub_self])
  refine ws_unpack (we_vd rfl ⟨_, _, _, rfl, (by ((repeat (first | exact tgs0 | exact setZ | (with_reducible apply tgsC) | (with_reducible apply tgT) | ((with_reducible apply tgN); (· ((repeat (first | exact setZ | apply setS)); done)); (· exact rfl)) | (with_reducible apply setS))))), ?_⟩)
  have l1 := tAll_len (h := h) (w := w) (lt := lt) h
  rw [Nat.mul_one] at l1
  have l2 := apS_len (h := h) (w := w) (lt := lt) (itS h w lt (LL h w lt).length)
  have l3 := sAll_len (h := h) (w := w) (lt := lt) sh (lAll h w lt h).length hh hw
  have e1 := e_call (T := tab) (Γ := callF tab (n + 3)) (ρ := [some (.d (.tuple [.tuple R, .int sh, W])), some (.d (.tuple R)), some (.d (.int sh)), some (.d W)]) (es := [.var 1]) tt2 rfl (xs := [.tuple R]) (elc (p_var rfl) el0) (turned_ok G (n + 2)) rfl
  have e2 := e_call (T := tab) (Γ := callF tab (n + 3)) (ρ := [some (.d (.tuple [.tuple R, .int sh, W])), some (.d (.tuple R)), some (.d (.int sh)), some (.d W)]) (es := [.var 1]) tt4 rfl (xs := [.tuple R]) (elc (p_var rfl) el0) ha rfl
  have e3 := e_call (T := tab) (Γ := callF tab (n + 3)) (ρ := [some (.d (.tuple [.tuple R, .int sh, W])), some (.d (.tuple R)), some (.d (.int sh)), some (.d W)]) (es := [.var 1, .var 2]) tt5 rfl (xs := [.tuple R, .int sh]) (elc (p_var rfl) (elc (p_var rfl) el0)) (short_ok G n sh) rfl
  refine ws_ret (we_bi (wvc (we_o2 (we_o2 ⟨_, _, e1, _, _, e2, rfl, _, _, _, pk_f, pk_f, o_addl (by omega), _, _, e3, rfl, _, _, _, pk_f, pk_f, o_addl (by rw [List.length_append]; omega), rfl, wv0 ⟨_, _, pk_c pk_f pk_0, bi_tl, _, _, rfl, callEnd_r ⟨rfl, rfl⟩⟩⟩))))
theorem lfaults_ok (G : Gr R h w lt) (n : Nat) (sh : Int) : callF tab (n + 3) 15 [.d (.tuple R), .d (.int sh)] = .ok (.d (.tuple (fltS h w lt sh))) [none, none] := by
  have hh := G.h8
  have hw := G.w8
  have hw1 := G.w1
  have hhw : h * w ≤ 8 * 8 := Nat.mul_le_mul hh hw
  refine call_eq ?_
  (refine call_of (fd := fd__law_faults) rfl rfl ?_; simp only [fd__law_faults, List.map_cons, List.map_nil, List.replicate_succ, List.replicate_zero, List.cons_append, List.nil_append, Nat.reduceSub, Nat.sub_self])
  refine ws_assignO (c_lst (xs := []) c_p0) (by (repeat (first | exact setZ | apply setS))) rfl ?_
  refine ws_par2P (high_ev G (p_var rfl)) (wide_ev G (p_var rfl)) (by (repeat (first | exact setZ | apply setS))) (by (repeat (first | exact setZ | apply setS))) rfl rfl ?_
  refine ws_forR (fun j ρ => Fin (∃ s5 s6, ρ = [some (.d (.tuple R)), some (.d (.int sh)), some (fresh (tAll h w lt j)), some (.d (.int h)), some (.d (.int w)), s5, s6, none, none])) (p_var rfl) (by omega) rfl ⟨none, none, rfl⟩ ?_ ?_
  · rintro r hr ρ ⟨s5, s6, rfl⟩
    refine ⟨_, (by (repeat (first | exact setZ | apply setS))), ?_⟩
    refine ws_forR (fun c ρ => Fin (∃ s6, ρ = [some (.d (.tuple R)), some (.d (.int sh)), some (fresh (tAll h w lt r ++ tRow h w lt c r)), some (.d (.int h)), some (.d (.int w)), some (.d (.int (r : Nat))), s6, none, none])) (p_var rfl) (by omega) rfl ⟨s6, by simp [tRow]⟩ ?_ ?_
    · rintro c hc ρ ⟨s6, rfl⟩
      refine ⟨_, (by (repeat (first | exact setZ | apply setS))), ?_⟩
      have hl : (tAll h w lt r ++ tRow h w lt c r).length ≤ 300 := by
        have := tAll_len (h := h) (w := w) (lt := lt) r
        have := tRow_len (h := h) (w := w) (lt := lt) c r
        have : r * (w * 1) ≤ 8 * 8 := Nat.mul_le_mul (by omega) (by omega)
        rw [List.length_append]
        omega
      have fin : tRow h w lt (c + 1) r = tRow h w lt c r ++ tAt h w lt r c := fm_succ _ _
      have i1 : litI h w lt (r : Int) (c : Int) = lt r c := by
        rw [lit_nat]
        unfold inL
        simp [hr, hc]
      have i2 : litI h w lt ((h : Int) - 1 - r) ((w : Int) - 1 - c) = lt (h - 1 - r) (w - 1 - c) := by
        have e1 : ((h : Int) - 1 - r) = ((h - 1 - r : Nat) : Int) := by omega
        have e2 : ((w : Int) - 1 - c) = ((w - 1 - c : Nat) : Int) := by omega
        rw [e1, e2, lit_nat]
        unfold inL
        have h1 : h - 1 - r < h := by omega
        have h2 : w - 1 - c < w := by omega
        simp [h1, h2]
      have hb := p_o2 (T := tab) (Γ := callF tab (n + 2)) (ρ := [some (.d (.tuple R)), some (.d (.int sh)), some (fresh (tAll h w lt r ++ tRow h w lt c r)), some (.d (.int h)), some (.d (.int w)), some (.d (.int (r : Nat))), some (.d (.int (c : Nat))), none, none]) (p_call (es := [(.var 0), (.var 5), (.var 6)]) tt12 rfl (xs := [.tuple R, .int (r : Nat), .int (c : Nat)]) (by (repeat sizeOf_list_dec)) (light_ok G (n + 1) r c) rfl)
        (p_call (es := [(.var 0), (.o2 .sub (.o2 .sub (.var 3) (.lit (.int 1))) (.var 5)), (.o2 .sub (.o2 .sub (.var 4) (.lit (.int 1))) (.var 6))]) tt12 rfl (xs := [.tuple R, .int ((h : Int) - 1 - r), .int ((w : Int) - 1 - c)]) (by (repeat sizeOf_list_dec)) (light_ok G (n + 1) _ _) rfl) o_neb
      rw [i1, i2] at hb
      refine ws_iffP hb (fun ht => ?_) (fun hf => ?_)
      · have hq : (lt r c == lt (h - 1 - r) (w - 1 - c)) = false := by simpa using ht
        (repeat sizeOf_list_dec)
        exact ⟨some (.d (.int (c : Nat))), by rw [fin, tAt, hq]; simp⟩
      · have hq : (lt r c == lt (h - 1 - r) (w - 1 - c)) = true := by simpa using hf
        (repeat sizeOf_list_dec)
        exact ⟨some (.d (.int (c : Nat))), by rw [fin, tAt, hq]; simp⟩
    · rintro ρ ⟨s6, rfl⟩
      refine ws_nil ⟨some (.d (.int (r : Nat))), s6, by rw [show tAll h w lt (r + 1) = tAll h w lt r ++ tRow h w lt w r from fm_succ _ _]⟩
  · rintro ρ ⟨s5, s6, rfl⟩
    have l1 := tAll_len (h := h) (w := w) (lt := lt) h
    rw [Nat.mul_one] at l1
    have l2 := apS_len (h := h) (w := w) (lt := lt) (itS h w lt (LL h w lt).length)
    have ea := c_addl (T := tab) (Γ := callF tab (n + 2)) (ρ := [some (.d (.tuple R)), some (.d (.int sh)), some (fresh (tAll h w lt h)), some (.d (.int h)), some (.d (.int w)), s5, s6, none, none]) (i := 2) (b := .call 14 [(.var 0)]) rfl (e_call tt14 rfl (xs := [.tuple R]) (elc (p_var rfl) el0) (lapart_ok G (n + 1)) rfl) rfl (by omega)
    refine ws_assignO ea (by (repeat (first | exact setZ | apply setS))) rfl ?_
    generalize hB : tAll h w lt h ++ apS h w lt (itS h w lt (LL h w lt).length) = B
    have hBl : B.length ≤ 200 := by rw [← hB, List.length_append]; omega
    refine ws_forF (l := lAll h w lt h) (fun j ρ => Fin (∃ s7 s8, ρ = [some (.d (.tuple R)), some (.d (.int sh)), some (fresh (B ++ sAll h w lt sh j)), some (.d (.int h)), some (.d (.int w)), s5, s6, s7, s8])) (e_call tt13 rfl (xs := [.tuple R]) (elc (p_var rfl) el0) (lruns_ok G n) rfl) ⟨none, none, by simp [sAll]⟩ ?_ ?_
    · rintro j x hx ρ ⟨s7, s8, rfl⟩
      obtain ⟨way, dr, dc, r, c, rfl, hl, hw3⟩ := lAll_mem (List.mem_of_getElem? hx)
      have hs := sAll_succ (sh := sh) hx
      have hlen := sAll_len (h := h) (w := w) (lt := lt) sh j hh hw
      obtain ⟨rest, hr, i1, i2⟩ := ray_two hl
      have hD : rayD h w lt dr dc r c = .tuple (intD (r * w + c) :: (((r + dr) * w + (c + dc)) :: rest).map intD) := by rw [rayD, hr]; rfl
      rw [hD] at hs ⊢
      refine ⟨_, (by ((repeat (first | exact tgs0 | exact setZ | (with_reducible apply tgsC) | (with_reducible apply tgT) | ((with_reducible apply tgN); (· ((repeat (first | exact setZ | apply setS)); done)); (· exact rfl)) | (with_reducible apply setS))))), ?_⟩
      have e0 : Ev tab (callF tab (n + 2)) [some (.d (.tuple R)), some (.d (.int sh)), some (fresh (B ++ sAll h w lt sh j)), some (.d (.int h)), some (.d (.int w)), s5, s6, some (.d (.str way)), some (.d (.tuple (intD (r * w + c) :: (((r + dr) * w + (c + dc)) :: rest).map intD)))] (.sub (.var 8) (.lit (.int 0))) (.int ((r * w + c : Nat) : Int)) := p_sub (p_var rfl) p_lit (sd_tn (k := 0) rfl)
      have hlt : sItem sh w (.tuple [.str way, .tuple (intD (r * w + c) :: (((r + dr) * w + (c + dc)) :: rest).map intD)]) = if (((intD (r * w + c) :: (((r + dr) * w + (c + dc)) :: rest).map intD).length : Nat) : Int) < sh then [.tuple [.str "short", .str way, .int (((r * w + c : Nat) : Int).fdiv w), .int (((r * w + c : Nat) : Int).fmod w)]] else [] := rfl
      refine ws_iffP (p_o2 (p_bi1 (p_var rfl) bi_lent) (p_var rfl) s2_lt) (fun ht => ?_) (fun hf => ?_)
      · rw [decide_eq_true_eq] at ht
        rw [hlt, if_pos ht] at hs
        refine ws_appendP rfl (p_tup (p_fc p_lit (p_fc (p_var rfl) (p_fc (p_o2 e0 (p_var rfl) (o_fdiv (by omega) (by omega))) (p_fc (p_o2 e0 (p_var rfl) (o_mod (by omega))) p_f0))))) (fun _ _ => rfl) (by rw [List.length_append]; omega) (by (repeat (first | exact setZ | apply setS))) ?_
        exact ws_nil (ws_nil ⟨_, _, by rw [hs, List.append_assoc]⟩)
      · rw [decide_eq_false_iff_not] at hf
        rw [hlt, if_neg hf, List.append_nil] at hs
        exact ws_nil (ws_nil ⟨_, _, by rw [hs]⟩)
    · rintro ρ ⟨s7, s8, rfl⟩
      refine ws_retP (p_biV rfl bi_tl) (callEnd_r ⟨?_, rfl⟩)
      rw [← hB]
      rfl
end T_k05
set_option linter.all false
set_option maxRecDepth 100000
set_option Elab.async false
namespace T_k05
open PySem Z
def Dr (ns : List Int) (i a b : Int) : C := .lst [.d (.list (ns.map .int)), .d (.int i), .d (.int a), .d (.int b)]
def St (D : C) (k : Nat) : Prop := ∃ (ns : List Int) (i a b : Int), D = Dr ns i a b ∧ 0 ≤ i ∧ i ≤ k
def drA : E := .and [(.o2 .ne (.var 2) (.lst [])), (.o2 .eq (.o2 .mod (.sub (.var 2) (.lit (.int 0))) (.lit (.int 2))) (.lit (.int 1)))]
theorem m_mod {x y : Int} (h : 1 ≤ y) : sem2 .mod (.int x) (.int y) = some (.d (.int (x.fmod y))) := by
  rw [s2_mod, if_neg (by omega)]
theorem m_fdiv {x y : Int} (h : 1 ≤ y) (h2 : y < 1073741824) : sem2 .fdiv (.int x) (.int y) = some (.d (.int (x.fdiv y))) := by
  rw [s2_fdiv, if_neg (by omega)]
theorem m_mul {x y : Int} (h : x.natAbs < 2 ^ 64 ∨ y.natAbs < 2 ^ 64) : sem2 .mul (.int x) (.int y) = some (.d (.int (x * y))) := by
  rw [s2_mul, if_pos h]
theorem sd0 {x : PyData} {xs : List PyData} : subD (.list (x :: xs)) (.int 0) = some x := by
  rw [sd_l, List.length_cons, seq0]
  rfl
def oddB (ns : List Int) : Bool := !(ns.map PyData.int).isEmpty && (match ns with | [] => false | n :: _ => n.fmod 2 == 1)
theorem dr_c {Γ : Nat → List C → FRes} {ρ : Z.Env} {ns : List Int} (h : slot ρ 2 = some (.d (.list (ns.map .int)))) : Ev tab Γ ρ drA (.bool (oddB ns)) := by
  refine p_and (p_ac (p_ne0 (p_var h)) fun hn => p_a1 ?_)
  cases ns with
  | nil => cases hn
  | cons n ns => exact p_o2 (x := .int (n.fmod 2)) (p_o2 (x := .int n) (p_sub (x := .list ((n :: ns).map .int)) (k := .int 0) (p_var h) p_lit sd0) p_lit (m_mod (by decide))) p_lit rfl
section
variable {Γ : Nat → List C → FRes} {ns : List Int} {i a b x : Int} {l : Option C} {r : Z.Env} {e : E} {ss : List S}
theorem ds0 : Ev tab Γ (some (Dr ns i a b) :: l :: r) (.sub (.var 0) (.lit (.int 0))) (.list (ns.map .int)) := p_subl (m := 0) rfl p_lit rfl rfl
theorem ds1 : Ev tab Γ (some (Dr ns i a b) :: l :: r) (.sub (.var 0) (.lit (.int 1))) (.int i) := p_subl (m := 1) rfl p_lit rfl rfl
theorem ds2 : Ev tab Γ (some (Dr ns i a b) :: l :: r) (.sub (.var 0) (.lit (.int 2))) (.int a) := p_subl (m := 2) rfl p_lit rfl rfl
theorem ds3 : Ev tab Γ (some (Dr ns i a b) :: l :: r) (.sub (.var 0) (.lit (.int 3))) (.int b) := p_subl (m := 3) rfl p_lit rfl rfl
theorem dw1 (h : Ev tab Γ (some (Dr ns i a b) :: l :: r) e (.int x)) (hk : ∀ ρ v, putIn e ρ v = (frz ρ v).bind fun x ρ => .ok (.d x) ρ) : exSs tab Γ [0] (.setIx (.var 0) (.lit (.int 1)) e :: ss) (some (Dr ns i a b) :: l :: r) = exSs tab Γ [0] ss (some (Dr ns x a b) :: l :: r) :=
  q_setl (cs := [.d (.list (ns.map .int)), .d (.int i), .d (.int a), .d (.int b)]) (m := 1) h hk rfl p_lit rfl
theorem dw2 (h : Ev tab Γ (some (Dr ns i a b) :: l :: r) e (.int x)) (hk : ∀ ρ v, putIn e ρ v = (frz ρ v).bind fun x ρ => .ok (.d x) ρ) : exSs tab Γ [0] (.setIx (.var 0) (.lit (.int 2)) e :: ss) (some (Dr ns i a b) :: l :: r) = exSs tab Γ [0] ss (some (Dr ns i x b) :: l :: r) :=
  q_setl (cs := [.d (.list (ns.map .int)), .d (.int i), .d (.int a), .d (.int b)]) (m := 2) h hk rfl p_lit rfl
theorem dw3 (h : Ev tab Γ (some (Dr ns i a b) :: l :: r) e (.int x)) (hk : ∀ ρ v, putIn e ρ v = (frz ρ v).bind fun x ρ => .ok (.d x) ρ) : exSs tab Γ [0] (.setIx (.var 0) (.lit (.int 3)) e :: ss) (some (Dr ns i a b) :: l :: r) = exSs tab Γ [0] ss (some (Dr ns i a x) :: l :: r) :=
  q_setl (cs := [.d (.list (ns.map .int)), .d (.int i), .d (.int a), .d (.int b)]) (m := 3) h hk rfl p_lit rfl
end
theorem nat_at {n : Nat} {i : Int} (h0 : 0 ≤ i) (h1 : i < n) : seqI n i = some i.toNat := seq_pos h0 h1
theorem ints_at {ns : List Int} {i : Int} (h0 : 0 ≤ i) (h1 : i < (ns.length : Int)) : ∃ v, subD (.list (ns.map .int)) (.int i) = some (.int v) := by
  have h2 : i.toNat < ns.length := by omega
  refine ⟨ns[i.toNat], ?_⟩
  rw [sd_l, List.length_map, seq_pos h0 h1, Option.bind_some, List.getElem?_map, List.getElem?_eq_getElem h2]
  rfl
theorem take_ok (n : Nat) {D : C} {k : Nat} (hD : St D k) (hk : k < 2 ^ 40) {m : Int} (h1 : 1 ≤ m) (h2 : m < 1073741824) : ∃ v D', 0 ≤ v ∧ v < m ∧ St D' (k + 1) ∧ callF tab (n + 1) 7 [D, .d (.int m)] = .ok (.d (.int v)) [some D', none] := by
  obtain ⟨ns, i, a, b, rfl, hi0, hik⟩ := hD
  let Γ := callF tab n
  let L : PyData := .list (ns.map .int)
  have st0 : ∀ {ss : List S}, exSs tab Γ [0] (.assign 2 (.sub (.var 0) (.lit (.int 0))) :: ss) [some (Dr ns i a b), some (.d (.int m)), none, none, none, none, none] = exSs tab Γ [0] ss [some (Dr ns i a b), some (.d (.int m)), some (.d L), none, none, none, none] := q_assign (d := L) ds0 (show 2 < 7 by decide) rfl
  have fin : ∀ {v : Int} {ρ' : Z.Env} {D' : C}, exSs tab Γ [0] fd__law_take.body [some (Dr ns i a b), some (.d (.int m)), none, none, none, none, none] = .ok (.ret (.d (.int v))) ρ' → slot ρ' 0 = some D' → callF tab (n + 1) 7 [Dr ns i a b, .d (.int m)] = .ok (.d (.int v)) [some D', none] := fun {v ρ' D'} h hs => by
    have := callF_ret (fd := fd__law_take) (args := [Dr ns i a b, .d (.int m)]) (T := tab) (n := n) (r := .d (.int v)) (ρ' := ρ') tt7 rfl h
    rw [this]
    show FRes.ok _ [slot ρ' 0, none] = _
    rw [hs]
  cases ho : oddB ns with
  | true =>
    -- by the digits
    have tail : ∀ {i a b : Int}, i ≤ k + 1 → 0 ≤ i → ∃ v D' ρ', 0 ≤ v ∧ v < m ∧ St D' (k + 1) ∧ slot ρ' 0 = some D' ∧ exSs tab Γ [0] [(.assign 3 (.o2 .mod (.sub (.var 0) (.lit (.int 2))) (.var 1))), (.setIx (.var 0) (.lit (.int 2)) (.o2 .fdiv (.sub (.var 0) (.lit (.int 2))) (.var 1))), (.setIx (.var 0) (.lit (.int 3)) (.o2 .sub (.sub (.var 0) (.lit (.int 3))) (.lit (.int 1)))), (.ret (.var 3))] [some (Dr ns i a b), some (.d (.int m)), some (.d L), none, none, none, none] = .ok (.ret (.d (.int v))) ρ' := fun {i a b} h0 h00 => by
      refine ⟨a.fmod m, Dr ns i (a.fdiv m) (b - 1), [some (Dr ns i (a.fdiv m) (b - 1)), some (.d (.int m)), some (.d L), some (.d (.int (a.fmod m))), none, none, none], Int.fmod_nonneg_of_pos _ (by omega), Int.fmod_lt_of_pos _ (by omega), ⟨ns, i, _, _, rfl, h00, by omega⟩, rfl, ?_⟩
      refine (q_assign (d := .int (a.fmod m)) (p_o2 ds2 (p_var rfl) (m_mod h1)) (show 3 < 7 by decide) rfl).trans ?_
      refine (dw2 (x := a.fdiv m) (p_o2 ds2 (p_var rfl) (m_fdiv h1 h2)) fun _ _ => rfl).trans ?_
      exact (dw3 (x := b - 1) (p_o2 ds3 p_lit s2_sub) fun _ _ => rfl).trans (q_ret (p_var rfl))
    have cT : Ev tab Γ [some (Dr ns i a b), some (.d (.int m)), some (.d L), none, none, none, none] drA (.bool true) := ho ▸ dr_c rfl
    have mid : ∃ i' a' b', i' ≤ (k : Int) + 1 ∧ 0 ≤ i' ∧ ∀ ss, exSs tab Γ [0] ((.iff (.o2 .eq (.sub (.var 0) (.lit (.int 3))) (.lit (.int 0))) [(.setIx (.var 0) (.lit (.int 1)) (.o2 .add (.sub (.var 0) (.lit (.int 1))) (.lit (.int 1)))), (.setIx (.var 0) (.lit (.int 2)) (.lit (.int 0))), (.iff (.o2 .lt (.sub (.var 0) (.lit (.int 1))) (.bi .len [(.var 2)])) [(.setIx (.var 0) (.lit (.int 2)) (.bi .abs [(.sub (.var 2) (.sub (.var 0) (.lit (.int 1))))]))] []), (.setIx (.var 0) (.lit (.int 3)) (.lit (.int 60)))] []) :: ss) [some (Dr ns i a b), some (.d (.int m)), some (.d L), none, none, none, none] = exSs tab Γ [0] ss [some (Dr ns i' a' b'), some (.d (.int m)), some (.d L), none, none, none, none] := by
      have c1 : Ev tab Γ [some (Dr ns i a b), some (.d (.int m)), some (.d L), none, none, none, none] (.o2 .eq (.sub (.var 0) (.lit (.int 3))) (.lit (.int 0))) (.bool (b == 0)) := p_o2 ds3 p_lit s2_eqi
      cases hb : b == 0 with
      | false => exact ⟨i, a, b, by omega, hi0, fun ss => q_iffF (hb ▸ c1)⟩
      | true =>
        have c2 : ∀ {a b : Int}, Ev tab Γ [some (Dr ns (i + 1) a b), some (.d (.int m)), some (.d L), none, none, none, none] (.o2 .lt (.sub (.var 0) (.lit (.int 1))) (.bi .len [(.var 2)])) (.bool (decide (i + 1 < ((ns.map PyData.int).length : Int)))) := p_o2 ds1 (p_bi1 (x := L) (p_var rfl) bi_lenl) s2_lt
        by_cases hl : i + 1 < ((ns.map PyData.int).length : Int)
        · obtain ⟨v, hv⟩ := ints_at (ns := ns) (i := i + 1) (by omega) (by simpa using hl)
          refine ⟨i + 1, v.natAbs, 60, by omega, by omega, fun ss => q_iffT' (hb ▸ c1) ?_⟩
          refine (dw1 (x := i + 1) (p_o2 ds1 p_lit s2_add) fun _ _ => rfl).trans ?_
          refine (dw2 (x := 0) p_lit fun _ _ => rfl).trans ?_
          refine (q_iffT' (ρ' := [some (Dr ns (i + 1) v.natAbs b), some (.d (.int m)), some (.d L), none, none, none, none]) (decide_eq_true hl ▸ c2) ?_).trans ?_
          · exact (dw2 (x := v.natAbs) (p_bi1 (x := .int v) (p_sub (x := L) (k := .int (i + 1)) (p_var rfl) ds1 hv) bi_abs) fun _ _ => rfl).trans q_nil
          · exact (dw3 (x := 60) p_lit fun _ _ => rfl).trans q_nil
        · refine ⟨i + 1, 0, 60, by omega, by omega, fun ss => q_iffT' (hb ▸ c1) ?_⟩
          refine (dw1 (x := i + 1) (p_o2 ds1 p_lit s2_add) fun _ _ => rfl).trans ?_
          refine (dw2 (x := 0) p_lit fun _ _ => rfl).trans ?_
          refine (q_iffF (decide_eq_false hl ▸ c2)).trans ?_
          exact (dw3 (x := 60) p_lit fun _ _ => rfl).trans q_nil
    obtain ⟨i', a', b', g1, g2, hm⟩ := mid
    obtain ⟨v, D', ρ', v0, v1, hS, hs, ht⟩ := tail (i := i') (a := a') (b := b') g1 g2
    exact ⟨v, D', v0, v1, hS, fin (st0.trans (q_iffT cT ((hm _).trans ht))) hs⟩
  | false =>
    have cF : Ev tab Γ [some (Dr ns i a b), some (.d (.int m)), some (.d L), none, none, none, none] drA (.bool false) := ho ▸ dr_c rfl
    let K : Int := i + 1
    have cell : ∃ z : Int, ∀ ss, exSs tab Γ [0] ((.iff (.o2 .ne (.var 2) (.lst [])) [(.assign 5 (.o2 .mod (.sub (.var 2) (.o2 .mod (.var 4) (.bi .len [(.var 2)]))) (.lit (.int 2147483647))))] []) :: ss) [some (Dr ns K a b), some (.d (.int m)), some (.d L), none, some (.d (.int K)), some (.d (.int 17)), none] = exSs tab Γ [0] ss [some (Dr ns K a b), some (.d (.int m)), some (.d L), none, some (.d (.int K)), some (.d (.int z)), none] := by
      have c1 : Ev tab Γ [some (Dr ns K a b), some (.d (.int m)), some (.d L), none, some (.d (.int K)), some (.d (.int 17)), none] (.o2 .ne (.var 2) (.lst [])) (.bool (!(ns.map PyData.int).isEmpty)) := p_ne0 (p_var rfl)
      cases hn : (ns.map PyData.int).isEmpty with
      | true => exact ⟨17, fun ss => q_iffF (by rw [hn] at c1; exact c1)⟩
      | false =>
        have hl : 1 ≤ ns.length := by
          cases ns with
          | nil => cases hn
          | cons _ _ => exact Nat.succ_pos _
        obtain ⟨v, hv⟩ := ints_at (ns := ns) (i := K.fmod ns.length) (Int.fmod_nonneg_of_pos _ (by omega)) (Int.fmod_lt_of_pos _ (by omega))
        refine ⟨v.fmod 2147483647, fun ss => q_iffT' (by rw [hn] at c1; exact c1) ?_⟩
        refine (q_assign (d := .int (v.fmod 2147483647)) (p_o2 (x := .int v) (p_sub (x := L) (k := .int (K.fmod ns.length)) (p_var rfl) (p_o2 (x := .int K) (y := .int ns.length) (p_var rfl) (p_bi1 (x := L) (p_var rfl) ?_) (m_mod (by omega))) hv) p_lit (m_mod (by decide))) (show 5 < 7 by decide) rfl).trans q_nil
        rw [bi_lenl, List.length_map]
    obtain ⟨z, hz⟩ := cell
    have hK : K ≤ k + 1 := by show i + 1 ≤ _; omega
    have hK0 : 0 ≤ K := by show 0 ≤ i + 1; omega
    let N1 : Int := ((z + 7919 * K * K + 31 * K) * 48271).fmod 2147483647
    let N2 : Int := (((N1 * 69621).fmod 2147483629).fdiv 64 * 16807).fmod 2147483629
    have hv : exSs tab Γ [0] fd__law_take.body [some (Dr ns i a b), some (.d (.int m)), none, none, none, none, none] = .ok (.ret (.d (.int (Int.fmod (N2.fdiv 32) m)))) [some (Dr ns K a b), some (.d (.int m)), some (.d L), none, some (.d (.int K)), some (.d (.int z)), some (.d (.int N2))] := by
      refine st0.trans ((q_iffF cF).trans ?_)
      refine (dw1 (x := K) (p_o2 ds1 p_lit s2_add) fun _ _ => rfl).trans ?_
      refine (q_assign (d := .int K) ds1 (show 4 < 7 by decide) rfl).trans ?_
      refine (q_assign (d := .int 17) p_lit (show 5 < 7 by decide) rfl).trans ?_
      refine (hz _).trans ?_
      have e1 : ∀ {g : Option C}, Ev tab Γ [some (Dr ns K a b), some (.d (.int m)), some (.d L), none, some (.d (.int K)), some (.d (.int z)), g] (.o2 .mod (.o2 .mul (.o2 .add (.o2 .add (.var 5) (.o2 .mul (.o2 .mul (.lit (.int 7919)) (.var 4)) (.var 4))) (.o2 .mul (.lit (.int 31)) (.var 4))) (.lit (.int 48271))) (.lit (.int 2147483647))) (.int N1) :=
        p_o2 (x := .int ((z + 7919 * K * K + 31 * K) * 48271)) (p_o2 (x := .int (z + 7919 * K * K + 31 * K)) (p_o2 (x := .int (z + 7919 * K * K)) (y := .int (31 * K)) (p_o2 (x := .int z) (y := .int (7919 * K * K)) (p_var rfl) (p_o2 (x := .int (7919 * K)) (y := .int K) (p_o2 (x := .int 7919) (y := .int K) p_lit (p_var rfl) (m_mul (.inl (by decide)))) (p_var rfl) (m_mul (.inr (by omega)))) s2_add) (p_o2 (x := .int 31) (y := .int K) p_lit (p_var rfl) (m_mul (.inl (by decide)))) s2_add) p_lit (m_mul (.inr (by decide)))) p_lit (m_mod (by decide))
      refine (q_assign (e1 (g := none)) (show 6 < 7 by decide) rfl).trans ?_
      have e2 : Ev tab Γ [some (Dr ns K a b), some (.d (.int m)), some (.d L), none, some (.d (.int K)), some (.d (.int z)), some (.d (.int N1))] (.o2 .mod (.o2 .mul (.o2 .fdiv (.o2 .mod (.o2 .mul (.var 6) (.lit (.int 69621))) (.lit (.int 2147483629))) (.lit (.int 64))) (.lit (.int 16807))) (.lit (.int 2147483629))) (.int N2) :=
        p_o2 (x := .int (((N1 * 69621).fmod 2147483629).fdiv 64 * 16807)) (p_o2 (x := .int (((N1 * 69621).fmod 2147483629).fdiv 64)) (p_o2 (x := .int ((N1 * 69621).fmod 2147483629)) (p_o2 (x := .int (N1 * 69621)) (p_o2 (x := .int N1) (p_var rfl) p_lit (m_mul (.inr (by decide)))) p_lit (m_mod (by decide))) p_lit (m_fdiv (by decide) (by decide))) p_lit (m_mul (.inr (by decide)))) p_lit (m_mod (by decide))
      refine (q_assign e2 (show 6 < 7 by decide) rfl).trans ?_
      exact q_ret (p_o2 (x := .int (N2.fdiv 32)) (y := .int m) (p_o2 (x := .int N2) (p_var rfl) p_lit (m_fdiv (by decide) (by decide))) (p_var rfl) (m_mod h1))
    exact ⟨Int.fmod (N2.fdiv 32) m, Dr ns K a b, Int.fmod_nonneg_of_pos _ (by omega), Int.fmod_lt_of_pos _ (by omega), ⟨ns, K, a, b, rfl, hK0, by omega⟩, fin hv rfl⟩
end T_k05
set_option linter.all false
set_option Elab.async false
namespace Z
open PySem
section
variable {T : Tab} {Γ : Nat → List C → FRes} {ρ : Env} {a b e : E} {Q : Val → Env → Prop} {x y : PyData}
theorem p_subL {xs : List PyData} {k : PyData} (ha : evE T Γ a ρ = .ok (.own (fresh xs)) ρ) (hb : Ev T Γ ρ b k) (h : subD (.list xs) k = some y) : Ev T Γ ρ (.sub a b) y := by
  obtain ⟨_, _, e, h1, h2⟩ := we_sub (T := T) (Γ := Γ) (ρ := ρ) (a := a) (b := b) (Q := fun v ρ' => v = .own (.d y) ∧ ρ' = ρ) ⟨_, _, ha, _, _, hb, _, _, _, _, rfl, fl_f, rfl, h, rfl, rfl⟩
  subst h1 h2
  exact e
end
end Z
namespace T_k05
open PySem Z
variable {T : Tab} {Γ : Nat → List C → FRes} {ρ : Z.Env}
theorem take_w (n : Nat) {ds : List C} {k : Nat} (hD : St (.lst ds) k) (hk : k < 2 ^ 40) {m : Int} (h1 : 1 ≤ m) (h2 : m < 1073741824) : ∃ v ds', 0 ≤ v ∧ v < m ∧ St (.lst ds') (k + 1) ∧ callF tab (n + 1) 7 [.lst ds, .d (.int m)] = .ok (.d (.int v)) [some (.lst ds'), none] := by
  obtain ⟨v, D', a, b, ⟨ns, i, x, y, rfl, h5⟩, e⟩ := take_ok n hD hk h1 h2
  exact ⟨v, _, a, b, ⟨ns, i, x, y, rfl, h5⟩, e⟩
theorem we_take (n : Nat) {ds : List C} {k i : Nat} {em : E} {m : Int} {Q : Val → Z.Env → Prop} {ρf : List C → Z.Env} (h0 : slot ρ i = some (.lst ds)) (hD : St (.lst ds) k) (hk : k < 2 ^ 40) (he : Ev tab (callF tab (n + 1)) ρ em (.int m)) (h1 : 1 ≤ m) (h2 : m < 1073741824) (hs : ∀ ds', SetAt ρ i (some (.lst ds')) (ρf ds'))
    (q : ∀ v ds', 0 ≤ v → v < m → St (.lst ds') (k + 1) → Q (.own (.d (.int v))) (ρf ds')) : WE tab (callF tab (n + 1)) (.call 7 [(.var i), em]) ρ Q := by
  obtain ⟨v, ds', v0, v1, hS, hc⟩ := take_w n hD hk h1 h2
  exact we_calld tt7 io7 h0 (wvc ⟨_, _, he, rfl, wv0 ⟨[.int m], _, ds, _, ds', [none], _, rfl, h0, hc, rfl, hs ds', q v ds' v0 v1 hS⟩⟩)
theorem abc_at : ∀ c < 26, strAt "abcdefghijklmnopqrstuvwxyz" c = some ⟨#[97 + c]⟩ := by decide
theorem sub_abc {j : Int} (h0 : 0 ≤ j) (h1 : j < 26) : subD (.str "abcdefghijklmnopqrstuvwxyz") (.int j) = some (.str ⟨#[97 + j.toNat]⟩) := by
  rw [sd_s, show ("abcdefghijklmnopqrstuvwxyz" : Str).length = 26 from by decide, if_pos (by decide), seq_pos h0 h1, Option.bind_some, abc_at j.toNat (by omega)]
  rfl
end T_k05
set_option linter.all false
set_option Elab.async false
set_option maxRecDepth 4000
namespace T_k05
open PySem Z
theorem St.mono {D : C} {k k' : Nat} (h : St D k) (hk : k ≤ k') : St D k' := by
  obtain ⟨ns, i, a, b, e, h1, h2⟩ := h
  exact ⟨ns, i, a, b, e, h1, by omega⟩
def isAbc (w : List Nat) : Prop := ∀ c ∈ w, 97 ≤ c ∧ c < 123
theorem join_one_each : ∀ tl : List Nat, Str.join ⟨#[]⟩ (tl.map fun c => ⟨#[c]⟩) = ⟨tl.toArray⟩
  | [] => rfl
  | [_] => rfl
  | a :: b :: r => by
    have ih := join_one_each (b :: r)
    rw [List.map_cons] at ih
    show (⟨#[a]⟩ : Str) ++ ⟨#[]⟩ ++ Str.join ⟨#[]⟩ (⟨#[b]⟩ :: r.map fun c => ⟨#[c]⟩) = _
    rw [ih]
    show (⟨(#[a] ++ #[]) ++ (b :: r).toArray⟩ : Str) = _
    simp
theorem joinD_each (tl : List Nat) : joinD "" (tl.map fun c => ⟨#[c]⟩) = ⟨tl.toArray⟩ := by
  unfold joinD Txt.join
  rw [StrLaws.glued_eq_join]
  exact join_one_each tl
theorem joinOk_each {tl : List Nat} (h : tl.length ≤ 1000) : joinOk "" (tl.map fun c => ⟨#[c]⟩) = true := by
  unfold joinOk
  have e0 : ("" : Str).length = 0 := rfl
  have e1 : ((tl.map fun c => (⟨#[c]⟩ : Str)).map (·.length)).sum = tl.length := by
    clear h
    induction tl with
    | nil => rfl
    | cons a r ih =>
      rw [List.map_cons, List.map_cons, List.sum_cons, ih]
      show 1 + r.length = r.length + 1
      omega
  rw [e0, e1, decide_eq_true_eq]
  omega
/-- one-sign texts -/
abbrev cs1 (tl : List Nat) : List PyData := (tl.map fun c => (⟨#[c]⟩ : Str)).map PyData.str
theorem cs1_snoc {tl : List Nat} {c : Nat} : (cs1 tl).map C.d ++ [C.d (.str ⟨#[c]⟩)] = (cs1 (tl ++ [c])).map C.d := by simp [cs1]
/-- "".join of one-sign texts -/
theorem we_join1 {T : Tab} {Γ : Nat → List C → FRes} {ρ : Z.Env} {e : E} {Q : Val → Z.Env → Prop} (hk : ∀ ρ v, putIn e ρ v = (Z.frz ρ v).bind fun x ρ => .ok (.d x) ρ) (h : WE T Γ e ρ fun v ρ1 => ∃ tl ρ2, Z.frz ρ1 v = .ok (.list (cs1 tl)) ρ2 ∧ tl.length ≤ 1000 ∧ Q (.own (.d (.str ⟨tl.toArray⟩))) ρ2) : WE T Γ (.meth .join (.lit (.str "")) [e]) ρ Q := by
  obtain ⟨v, ρ1, h1, tl, ρ2, h2, h3, q⟩ := h
  exact we_join (wpc ⟨v, ρ1, h1, .d (.list (cs1 tl)), ρ2, by rw [hk, h2]; rfl, wp0 ⟨_, by rfl, joinOk_each h3, by rw [joinD_each]; exact q⟩⟩)
theorem lst3 {v : Int} (h0 : 0 ≤ v) (h1 : v < 3) : ∃ z : Int, subD (.list [.int 26, .int 3, .int 2]) (.int v) = some (.int z) ∧ 1 ≤ z ∧ z ≤ 26 := by
  have h2 : v = 0 ∨ v = 1 ∨ v = 2 := by omega
  rcases h2 with rfl | rfl | rfl
  · exact ⟨26, rfl, by decide, by decide⟩
  · exact ⟨3, rfl, by decide, by decide⟩
  · exact ⟨2, rfl, by decide, by decide⟩
theorem letters_ok (n : Nat) {ds : List C} {k m : Nat} (hD : St (.lst ds) k) (hm : m ≤ 1000) (hk : k + 2000 < 2 ^ 40) : ∃ tl ds', tl.length = m ∧ isAbc tl ∧ St (.lst ds') (k + 1 + m) ∧ callF tab (n + 2) 8 [.lst ds, .d (.int m)] = .ok (.d (.str ⟨tl.toArray⟩)) [some (.lst ds'), none] := by
  suffices h : ∃ r fin, callF tab (n + 2) 8 [.lst ds, .d (.int m)] = .ok r fin ∧ Fin (∃ tl ds', tl.length = m ∧ isAbc tl ∧ St (.lst ds') (k + 1 + m) ∧ r = .d (.str ⟨tl.toArray⟩) ∧ fin = [some (.lst ds'), none]) by
    obtain ⟨r, fin, h1, ⟨tl, ds', a, b, c, rfl, rfl⟩⟩ := h
    exact ⟨tl, ds', a, b, c, h1⟩
  (refine call_of (fd := fd__law_letters) rfl rfl ?_; simp only [fd__law_letters, List.map_cons, List.map_nil, List.replicate_succ, List.replicate_zero, List.cons_append, List.nil_append, Nat.reduceSub, Nat.sub_self])
  refine ws_assignP (d := .str "abcdefghijklmnopqrstuvwxyz") p_lit (by (repeat (first | exact setZ | apply setS))) rfl ?_
  refine ws_assign (we_take n (ρf := fun ds' => [some (.lst ds'), some (.d (.int (m : Nat))), some (.d (.str "abcdefghijklmnopqrstuvwxyz")), none, none]) rfl hD (by omega) p_lit (by decide) (by decide) (fun ds' => by (repeat (first | exact setZ | apply setS))) fun v ds' v0 v1 hS => ⟨_, _, _, rfl, (by (repeat (first | exact setZ | apply setS))), rfl, ?_⟩)
  obtain ⟨z, hz, z1, z2⟩ := lst3 v0 v1
  refine ws_ret (we_join1 (fun _ _ => rfl) (we_compI (fun j acc ρ => Fin (∃ ds tl, acc = (cs1 tl).map .d ∧ tl.length = j ∧ isAbc tl ∧ St (.lst ds) (k + 1 + j) ∧ ρ = [some (.lst ds), some (.d (.int (m : Nat))), some (.d (.str "abcdefghijklmnopqrstuvwxyz")), some (.d (.int v)), none])) (wvc ⟨_, _, p_var rfl, rfl, wv0 ⟨[.int (m : Nat)], [some (.lst ds'), some (.d (.int (m : Nat))), some (.d (.str "abcdefghijklmnopqrstuvwxyz")), some (.d (.int v)), none], rangeD 0 m, ?_, src_rng (by omega), rfl, ⟨ds', [], rfl, rfl, (by intro c hc; cases hc), hS, rfl⟩, ?_, ?_⟩⟩)))
  · rfl
  · rintro j x acc ρ hx ⟨ds, tl, rfl, hl, ha, hS, rfl⟩
    obtain ⟨hj, rfl⟩ := rng_at hx
    refine ⟨_, tgN (by (repeat (first | exact setZ | apply setS))) rfl, wa0 ⟨fun _ => ?_, fun h => by cases h⟩⟩
    refine we_sub ⟨_, _, p_var rfl, we_take n (m := z) (k := k + 1 + j) (ρf := fun ds' => [some (.lst ds'), some (.d (.int (m : Nat))), some (.d (.str "abcdefghijklmnopqrstuvwxyz")), some (.d (.int v)), some (.d (.int (j : Nat)))]) rfl hS (by omega) (p_subL (xs := [.int 26, .int 3, .int 2]) (c_lst (c_pc (fun _ _ => rfl) (EvC.of p_lit) (c_pc (fun _ _ => rfl) (EvC.of p_lit) (c_pc (fun _ _ => rfl) (EvC.of p_lit) c_p0)))) (p_var rfl) hz) z1 (by omega) (fun ds' => by (repeat (first | exact setZ | apply setS))) fun u ds' u0 u1 hS => ⟨_, _, _, _, rfl, rfl, rfl, sub_abc u0 (by omega), _, _, rfl, rfl, ⟨ds', tl ++ [97 + u.toNat], cs1_snoc, by rw [List.length_append, hl]; rfl, ?_, hS, rfl⟩⟩⟩
    intro c hc
    rcases List.mem_append.mp hc with hc | hc
    · exact ha c hc
    · rw [List.mem_singleton.mp hc]
      omega
  · rintro ys ρ' ⟨ds, tl, rfl, hl, ha, hS, rfl⟩
    rw [rng_len] at hl hS
    refine ⟨tl, _, fz_f, by omega, _, _, rfl, callEnd_r ⟨tl, ds, hl, ha, hS, rfl, rfl⟩⟩
end T_k05
set_option linter.all false
set_option Elab.async false
set_option maxRecDepth 4000
namespace T_k05
open PySem Z
/-! rows of one-sign texts, owned -/
def Mx (M : List (List Nat)) : C := .lst (M.map fun row => fresh (cs1 row))
theorem mx_get {M : List (List Nat)} {r : Nat} {row : List Nat} (h : M[r]? = some row) : (Mx M).get (.idx r) = some (fresh (cs1 row)) := by
  show (M.map fun row => fresh (cs1 row))[r]? = _
  rw [List.getElem?_map, h]
  rfl
theorem mx_sel {M : List (List Nat)} {r : Nat} {row : List Nat} (h : M[r]? = some row) : selOf (Mx M) (.int (r : Nat)) = some (.idx r) := by
  have hr := (List.getElem?_eq_some_iff.mp h).1
  show (seqI (M.map fun row => fresh (cs1 row)).length _).map Sel.idx = _
  rw [List.length_map, seq_nat, if_pos hr]
  rfl
theorem row_get {row : List Nat} {j x : Nat} (h : row[j]? = some x) : (fresh (cs1 row)).get (.idx j) = some (.d (.str ⟨#[x]⟩)) := by
  show ((cs1 row).map C.d)[j]? = _
  rw [List.getElem?_map, List.getElem?_map, List.getElem?_map, h]
  rfl
theorem row_sel {row : List Nat} {j x : Nat} (h : row[j]? = some x) : selOf (fresh (cs1 row)) (.int (j : Nat)) = some (.idx j) := by
  have hr := (List.getElem?_eq_some_iff.mp h).1
  show (seqI ((cs1 row).map C.d).length _).map Sel.idx = _
  rw [List.length_map, List.length_map, List.length_map, seq_nat, if_pos hr]
  rfl
theorem row_put {row : List Nat} {j x : Nat} : (fresh (cs1 row)).put (.idx j) (.d (.str ⟨#[x]⟩)) = fresh (cs1 (row.set j x)) := by
  show C.lst _ = C.lst _
  rw [cs1, cs1, List.map_set, List.map_set, List.map_set]
theorem mx_put {M : List (List Nat)} {r : Nat} {row : List Nat} : (Mx M).put (.idx r) (fresh (cs1 row)) = Mx (M.set r row) := by
  show C.lst _ = C.lst _
  rw [List.map_set]
theorem mx_look {ρ : Z.Env} {i : Nat} {M : List (List Nat)} {r : Nat} {row : List Nat} (h0 : slot ρ i = some (Mx M)) (h : M[r]? = some row) : look ρ (.bor i [.idx r]) = some (fresh (cs1 row)) := by
  show (slot ρ i).bind _ = _
  rw [h0, Option.bind_some, C.getP, mx_get h, Option.bind_some, C.getP]
section
variable {T : Tab} {Γ : Nat → List C → FRes} {io : List Nat} {ρ ρ' : Z.Env} {b c e : E} {ss : List S} {Q : Val → Z.Env → Prop} {QS : Fl → Z.Env → Prop} {i : Nat} {M : List (List Nat)} {r j x : Nat} {row : List Nat}
theorem we_mxr (h0 : slot ρ i = some (Mx M)) (hb : Ev T Γ ρ b (.int (r : Nat))) (hn : nc b = true) (h : M[r]? = some row) (q : Q (.bor i [.idx r]) ρ) : WE T Γ (.sub (.var i) b) ρ Q :=
  we_subO (we_vl (cs := M.map fun row => fresh (cs1 row)) h0 ⟨_, _, hb, (by rw [hn, Bool.not_true, Bool.and_false]), i, [], _, _, _, _, rfl, rfl, lk_bor h0, mx_sel h, mx_get h, q⟩)
theorem p_mx (h0 : slot ρ i = some (Mx M)) (hb : Ev T Γ ρ b (.int (r : Nat))) (hn : nc b = true) (hc : Ev T Γ ρ c (.int (j : Nat))) (hn2 : nc c = true) (h : M[r]? = some row) (h2 : row[j]? = some x) : Ev T Γ ρ (.sub (.sub (.var i) b) c) (.str ⟨#[x]⟩) := by
  obtain ⟨_, _, e, h1, h2⟩ := we_subB (T := T) (Γ := Γ) (ρ := ρ) (a := .sub (.var i) b) (b := c) (Q := fun v ρ' => v = .own (.d (.str ⟨#[x]⟩)) ∧ ρ' = ρ) (we_mxr h0 hb hn h ⟨_, _, hc, (by rw [hn2, Bool.not_true, Bool.and_false]), i, _, _, _, _, _, rfl, rfl, mx_look h0 h, row_sel h2, row_get h2, rfl, rfl⟩)
  subst h1 h2
  exact e
theorem ws_setMx (h0 : WE T Γ e ρ fun v ρ1 => ∃ z, v = .own (.d (.str ⟨#[z]⟩)) ∧ slot ρ1 i = some (Mx M) ∧ Ev T Γ ρ1 b (.int (r : Nat)) ∧ Ev T Γ ρ1 c (.int (j : Nat)) ∧ ∃ ρ', SetAt ρ1 i (some (Mx (M.set r (row.set j z)))) ρ' ∧ WS T Γ io ss ρ' QS) (hk : ∀ ρ v, putIn e ρ v = (Z.frz ρ v).bind fun x ρ => .ok (.d x) ρ) (hn : nc b = true) (hn2 : nc c = true) (h : M[r]? = some row) (h2 : row[j]? = some x) : WS T Γ io (.setIx (.sub (.var i) b) c e :: ss) ρ QS := by
  refine ws_setIx (h0.mono ?_)
  rintro v ρ1 ⟨z, rfl, hs, hb, hc, ρ', hst, k⟩
  refine ⟨_, ρ1, by rw [hk]; rfl, we_mxr hs hb hn h ⟨_, _, hc, (by rw [hn2, Bool.not_true, Bool.and_false]), i, _, _, _, _, ρ', rfl, rfl, mx_look hs h, row_sel h2, rfl, ?_, k⟩⟩
  show putV ρ1 i [.idx r] _ = _
  unfold putV
  simp only [hs, C.putP, mx_get h]
  rw [row_put, mx_put]
  exact hst.2
theorem mx_td : (Mx M).toD = some (.list (M.map fun row => .list (cs1 row))) := by
  show (C.toDs (M.map fun row => fresh (cs1 row))).map PyData.list = _
  suffices h : C.toDs (M.map fun row => fresh (cs1 row)) = some (M.map fun row => .list (cs1 row)) by rw [h]; rfl
  induction M with
  | nil => rfl
  | cons row M ih => rw [List.map_cons, C.toDs, td_f, Option.bind_some, ih]; rfl
theorem fz_mx {ρ' : Z.Env} (h0 : slot ρ i = some (Mx M)) (hs : SetAt ρ i (some (.d (.list (M.map fun row => .list (cs1 row))))) ρ') : Z.frz ρ (.bor i []) = .ok (.list (M.map fun row => .list (cs1 row))) ρ' := by
  have : (look ρ (.bor i [])).bind C.toD = some (.list (M.map fun row => .list (cs1 row))) := by
    rw [lk_bor h0, Option.bind_some, mx_td]
  simp only [Z.frz, this]
  unfold putV
  simp only [h0, C.putP]
  rw [hs.2]
/-- h rows of w signs -/
def Sh (h w : Nat) (M : List (List Nat)) : Prop := M.length = h ∧ ∀ (r : Nat) (row : List Nat), M[r]? = some row → row.length = w
theorem Sh.at {h w : Nat} (H : Sh h w M) {r j : Nat} (hr : r < h) (hj : j < w) : ∃ row x, M[r]? = some row ∧ row[j]? = some x := by
  have e := List.getElem?_eq_getElem (show r < M.length by rw [H.1]; exact hr)
  have l := H.2 _ _ e
  exact ⟨_, _, e, List.getElem?_eq_getElem (by rw [l]; exact hj)⟩
theorem Sh.set {h w : Nat} (H : Sh h w M) {r j z : Nat} {row : List Nat} (e : M[r]? = some row) : Sh h w (M.set r (row.set j z)) := by
  refine ⟨by rw [List.length_set, H.1], fun r' row' e' => ?_⟩
  by_cases hr : r = r'
  · subst hr
    rw [List.getElem?_set_self (List.getElem?_eq_some_iff.mp e).1] at e'
    cases e'
    rw [List.length_set, H.2 _ _ e]
  · rw [List.getElem?_set_ne hr] at e'
    exact H.2 _ _ e'
theorem Sh.new {h w : Nat} : Sh h w (List.replicate h (List.replicate w 46)) := by
  refine ⟨List.length_replicate, fun r row e => ?_⟩
  rw [List.getElem?_replicate] at e
  split at e
  · cases e; exact List.length_replicate
  · cases e
theorem we_letters (n : Nat) {ds : List C} {k m : Nat} {em : E} {ρf : List C → Z.Env} (h0 : slot ρ i = some (.lst ds)) (hD : St (.lst ds) k) (hk : k + 2000 < 2 ^ 40) (he : Ev tab (callF tab (n + 2)) ρ em (.int (m : Nat))) (h2 : m ≤ 1000) (hs : ∀ ds', SetAt ρ i (some (.lst ds')) (ρf ds'))
    (q : ∀ tl ds', tl.length = m → isAbc tl → St (.lst ds') (k + 1 + m) → Q (.own (.d (.str ⟨tl.toArray⟩))) (ρf ds')) : WE tab (callF tab (n + 2)) (.call 8 [(.var i), em]) ρ Q := by
  obtain ⟨tl, ds', a, b, c, hc⟩ := letters_ok n hD h2 hk
  exact we_calld tt8 io8 h0 (wvc ⟨_, _, he, rfl, wv0 ⟨[.int (m : Nat)], _, ds, _, ds', [none], _, rfl, h0, hc, rfl, hs ds', q tl ds' a b c⟩⟩)
end
theorem lst4 {v : Int} (h0 : 0 ≤ v) (h1 : v < 4) : ∃ z : Int, subD (.list [.int 1, .int 4, .int 9, .int 30]) (.int v) = some (.int z) ∧ 1 ≤ z ∧ z ≤ 30 := by
  have h2 : v = 0 ∨ v = 1 ∨ v = 2 ∨ v = 3 := by omega
  rcases h2 with rfl | rfl | rfl | rfl
  · exact ⟨1, rfl, by decide, by decide⟩
  · exact ⟨4, rfl, by decide, by decide⟩
  · exact ⟨9, rfl, by decide, by decide⟩
  · exact ⟨30, rfl, by decide, by decide⟩
theorem rep_dot {w : Nat} : rep [PyData.str "."] (w : Int) = cs1 (List.replicate w 46) := by
  unfold rep cs1
  rw [List.map_replicate, List.map_replicate, Int.toNat_natCast]
  induction w with
  | zero => rfl
  | succ w ih => rw [List.replicate_succ, List.flatten_cons, ih]; rfl
end T_k05
set_option linter.all false
set_option Elab.async false
set_option maxRecDepth 4000
namespace T_k05
open PySem Z
def cellB : List S := [(.iff (.and [(.o2 .eq (.call 7 [(.var 0), (.o2 .add (.var 3) (.lit (.int 3)))]) (.o2 .add (.var 3) (.lit (.int 2)))), (.o2 .eq (.sub (.sub (.var 4) (.var 6)) (.var 7)) (.lit (.str ".")))]) [(.setIx (.sub (.var 4) (.var 6)) (.var 7) (.lit (.str "X"))), (.iff (.o2 .gt (.var 5) (.lit (.int 0))) [(.setIx (.sub (.var 4) (.o2 .sub (.o2 .sub (.var 1) (.lit (.int 1))) (.var 6))) (.o2 .sub (.o2 .sub (.var 2) (.lit (.int 1))) (.var 7)) (.lit (.str "X")))] [])] [(.iff (.and [(.o2 .eq (.sub (.sub (.var 4) (.var 6)) (.var 7)) (.lit (.str "."))), (.o2 .eq (.call 7 [(.var 0), (.lit (.int 12))]) (.lit (.int 11)))]) [(.setIx (.sub (.var 4) (.var 6)) (.var 7) (.call 8 [(.var 0), (.lit (.int 1))]))] [])])]
abbrev fC (ds : List C) (h w : Nat) (z : Int) (M : List (List Nat)) (tu x6 x7 : Option C) : Z.Env := [some (.lst ds), some (.d (.int (h : Nat))), some (.d (.int (w : Nat))), some (.d (.int z)), some (Mx M), tu, x6, x7, none]
theorem sub1 {T : Tab} {Γ : Nat → List C → FRes} {ρ : Z.Env} {a b : Nat} {h r : Nat} (h1 : slot ρ a = some (.d (.int (h : Nat)))) (h2 : slot ρ b = some (.d (.int (r : Nat)))) (hr : r < h) : Ev T Γ ρ (.o2 .sub (.o2 .sub (.var a) (.lit (.int 1))) (.var b)) (.int ((h - 1 - r : Nat) : Int)) := by
  have e : (h : Int) - 1 - r = ((h - 1 - r : Nat) : Int) := by omega
  rw [← e]
  exact p_o2 (p_o2 (p_var h1) p_lit s2_sub) (p_var h2) s2_sub
theorem cell_body (n : Nat) {ds : List C} {h w r j k : Nat} {z tu : Int} {M : List (List Nat)} {R : Fl → Z.Env → Prop} (hD : St (.lst ds) k) (hk : k + 3000 < 2 ^ 40) (H : Sh h w M) (hr : r < h) (hj : j < w) (z1 : 1 ≤ z) (z2 : z ≤ 30)
    (q : ∀ ds' M', St (.lst ds') (k + 4) → Sh h w M' → R .next (fC ds' h w z M' (some (.d (.int tu))) (some (.d (.int (r : Nat)))) (some (.d (.int (j : Nat)))))) : WS tab (callF tab (n + 2)) [0] cellB (fC ds h w z M (some (.d (.int tu))) (some (.d (.int (r : Nat)))) (some (.d (.int (j : Nat))))) R := by
  obtain ⟨row, x, e1, e2⟩ := H.at hr hj
  have rd : ∀ ds, Ev tab (callF tab (n + 2)) (fC ds h w z M (some (.d (.int tu))) (some (.d (.int (r : Nat)))) (some (.d (.int (j : Nat))))) (.o2 .eq (.sub (.sub (.var 4) (.var 6)) (.var 7)) (.lit (.str "."))) (.bool ((⟨#[x]⟩ : Str) == ("." : Str))) := fun ds => p_o2 (p_mx rfl (p_var rfl) rfl (p_var rfl) rfl e1 e2) p_lit s2_eqs
  have inX : ∀ ds, St (.lst ds) (k + 1) → WS tab (callF tab (n + 2)) [0] [(.setIx (.sub (.var 4) (.var 6)) (.var 7) (.lit (.str "X"))), (.iff (.o2 .gt (.var 5) (.lit (.int 0))) [(.setIx (.sub (.var 4) (.o2 .sub (.o2 .sub (.var 1) (.lit (.int 1))) (.var 6))) (.o2 .sub (.o2 .sub (.var 2) (.lit (.int 1))) (.var 7)) (.lit (.str "X")))] [])] (fC ds h w z M (some (.d (.int tu))) (some (.d (.int (r : Nat)))) (some (.d (.int (j : Nat))))) (andThen tab (callF tab (n + 2)) [0] [] R) := fun ds hS => by
    have H1 := H.set (z := 88) (j := j) e1
    refine ws_setMx ⟨_, _, p_lit, 88, rfl, rfl, p_var rfl, p_var rfl, fC ds h w z (M.set r (row.set j 88)) (some (.d (.int tu))) (some (.d (.int (r : Nat)))) (some (.d (.int (j : Nat)))), (by (repeat (first | exact setZ | apply setS))), ?_⟩ (fun _ _ => rfl) rfl rfl e1 e2
    refine ws_iffP (p_o2 (p_var rfl) p_lit s2_gt) (fun _ => ?_) (fun _ => ws_nil (andThen_n (ws_nil (andThen_n (ws_nil (q _ _ (hS.mono (by omega)) H1))))))
    obtain ⟨row2, x2, e3, e4⟩ := H1.at (r := h - 1 - r) (j := w - 1 - j) (by omega) (by omega)
    have H2 := H1.set (z := 88) (j := w - 1 - j) e3
    exact ws_setMx ⟨_, _, p_lit, 88, rfl, rfl, sub1 rfl rfl hr, sub1 rfl rfl hj, fC ds h w z ((M.set r (row.set j 88)).set (h - 1 - r) (row2.set (w - 1 - j) 88)) (some (.d (.int tu))) (some (.d (.int (r : Nat)))) (some (.d (.int (j : Nat)))), (by (repeat (first | exact setZ | apply setS))), ws_nil (andThen_n (ws_nil (andThen_n (ws_nil (q _ _ (hS.mono (by omega)) H2)))))⟩ (fun _ _ => rfl) rfl rfl e3 e4
  have inA : ∀ ds, St (.lst ds) (k + 1) → WS tab (callF tab (n + 2)) [0] [(.iff (.and [(.o2 .eq (.sub (.sub (.var 4) (.var 6)) (.var 7)) (.lit (.str "."))), (.o2 .eq (.call 7 [(.var 0), (.lit (.int 12))]) (.lit (.int 11)))]) [(.setIx (.sub (.var 4) (.var 6)) (.var 7) (.call 8 [(.var 0), (.lit (.int 1))]))] [])] (fC ds h w z M (some (.d (.int tu))) (some (.d (.int (r : Nat)))) (some (.d (.int (j : Nat))))) (andThen tab (callF tab (n + 2)) [0] [] R) := fun ds hS => by
    refine ws_iff (we_and (wac ⟨_, _, rd ds, _, rfl, fun _ => ?_, fun _ => ?_⟩))
    · refine wa1 (we_o2 (we_take (n + 1) (m := 12) (ρf := fun ds' => fC ds' h w z M (some (.d (.int tu))) (some (.d (.int (r : Nat)))) (some (.d (.int (j : Nat))))) rfl hS (by omega) p_lit (by decide) (by decide) (fun ds' => by (repeat (first | exact setZ | apply setS))) fun v ds' v0 v1 hS' => ⟨_, _, p_lit, rfl, _, _, _, rfl, rfl, s2_eqi, _, rfl, _, rfl, fun _ => ?_, fun _ => ws_nil (andThen_n (ws_nil (andThen_n (ws_nil (q _ _ (hS'.mono (by omega)) H)))))⟩))
      refine ws_setMx (we_letters n (m := 1) (ρf := fun ds' => fC ds' h w z M (some (.d (.int tu))) (some (.d (.int (r : Nat)))) (some (.d (.int (j : Nat))))) rfl hS' (by omega) p_lit (by decide) (fun ds' => by (repeat (first | exact setZ | apply setS))) fun tl ds'' hl ha hS'' => ?_) (fun _ _ => rfl) rfl rfl e1 e2
      obtain ⟨c, rfl⟩ : ∃ c, tl = [c] := by
        cases tl with
        | nil => cases hl
        | cons c t => cases t with
          | nil => exact ⟨c, rfl⟩
          | cons d t => simp at hl
      exact ⟨c, rfl, rfl, p_var rfl, p_var rfl, fC ds'' h w z (M.set r (row.set j c)) (some (.d (.int tu))) (some (.d (.int (r : Nat)))) (some (.d (.int (j : Nat)))), (by (repeat (first | exact setZ | apply setS))), ws_nil (andThen_n (ws_nil (andThen_n (ws_nil (q _ _ (hS''.mono (by omega)) (H.set e1))))))⟩
    · exact ⟨_, rfl, (fun h => by cases h), fun _ => ws_nil (andThen_n (ws_nil (andThen_n (ws_nil (q _ _ (hS.mono (by omega)) H)))))⟩
  refine ws_iff (we_and (wac (we_o2 (we_take (n + 1) (m := z + 3) (ρf := fun ds' => fC ds' h w z M (some (.d (.int tu))) (some (.d (.int (r : Nat)))) (some (.d (.int (j : Nat))))) rfl hD (by omega) (p_o2 (p_var rfl) p_lit s2_add) (by omega) (by omega) (fun ds' => by (repeat (first | exact setZ | apply setS))) fun v ds' v0 v1 hS => ⟨_, _, p_o2 (p_var rfl) p_lit s2_add, rfl, _, _, _, rfl, rfl, s2_eqi, _, rfl, fun _ => ?_, fun _ => ⟨_, rfl, (fun h => by cases h), fun _ => inA _ hS⟩⟩))))
  exact wa1 ⟨_, _, rd ds', _, rfl, _, rfl, fun _ => inX _ hS, fun _ => inA _ hS⟩
def Rws (M : List (List Nat)) : List PyData := M.map fun row => .str ⟨row.toArray⟩
theorem cells_ok (n : Nat) {ds : List C} {h w k : Nat} (hD : St (.lst ds) k) (hk : k + 9000 < 2 ^ 40) (h8 : h ≤ 8) (w8 : w ≤ 8) : ∃ M ds', Sh h w M ∧ St (.lst ds') (k + 300) ∧ callF tab (n + 3) 9 [.lst ds, .d (.int (h : Nat)), .d (.int (w : Nat))] = .ok (.d (.tuple (Rws M))) [some (.lst ds'), none, none] := by
  suffices h : ∃ r fin, callF tab (n + 3) 9 [.lst ds, .d (.int (h : Nat)), .d (.int (w : Nat))] = .ok r fin ∧ Fin (∃ M ds', Sh h w M ∧ St (.lst ds') (k + 300) ∧ r = .d (.tuple (Rws M)) ∧ fin = [some (.lst ds'), none, none]) by
    obtain ⟨r, fin, h1, ⟨M, ds', a, b, rfl, rfl⟩⟩ := h
    exact ⟨M, ds', a, b, h1⟩
  (refine call_of (fd := fd__law_cells) rfl rfl ?_; simp only [fd__law_cells, List.map_cons, List.map_nil, List.replicate_succ, List.replicate_zero, List.cons_append, List.nil_append, Nat.reduceSub, Nat.sub_self])
  refine ws_assign (we_sub ⟨_, _, c_lst (xs := [.int 1, .int 4, .int 9, .int 30]) (c_pc (fun _ _ => rfl) (EvC.of p_lit) (c_pc (fun _ _ => rfl) (EvC.of p_lit) (c_pc (fun _ _ => rfl) (EvC.of p_lit) (c_pc (fun _ _ => rfl) (EvC.of p_lit) c_p0)))), we_take (n + 1) (m := 4) (ρf := fun ds' => [some (.lst ds'), some (.d (.int (h : Nat))), some (.d (.int (w : Nat))), none, none, none, none, none, none]) rfl hD (by omega) p_lit (by decide) (by decide) (fun ds' => by (repeat (first | exact setZ | apply setS))) fun v ds' v0 v1 hS => ?_⟩)
  obtain ⟨z, hz, z1, z2⟩ := lst4 v0 v1
  refine ⟨_, _, _, _, rfl, fl_f, rfl, hz, _, _, _, rfl, (by (repeat (first | exact setZ | apply setS))), rfl, ?_⟩
  refine ws_assign (we_compI (fun j acc ρ => Fin (acc = (List.replicate j (List.replicate w 46)).map (fun row => fresh (cs1 row)) ∧ ρ = [some (.lst ds'), some (.d (.int (h : Nat))), some (.d (.int (w : Nat))), some (.d (.int z)), none, none, none, none, none])) (wvc ⟨_, _, p_var rfl, rfl, wv0 ⟨[.int (h : Nat)], [some (.lst ds'), some (.d (.int (h : Nat))), some (.d (.int (w : Nat))), some (.d (.int z)), none, none, none, none, none], rangeD 0 h, ?_, src_rng (by omega), rfl, ⟨rfl, rfl⟩, ?_, ?_⟩⟩))
  · rfl
  · rintro j x acc ρ hx ⟨rfl, rfl⟩
    obtain ⟨hj, rfl⟩ := rng_at hx
    refine ⟨_, tgN (by (repeat (first | exact setZ | apply setS))) rfl, wa0 ⟨fun _ => ?_, fun h => by cases h⟩⟩
    refine we_keep (we_o2 ⟨_, _, c_lst (xs := [.str "."]) (c_pc (fun _ _ => rfl) (EvC.of p_lit) c_p0), _, _, p_var rfl, rfl, _, _, fresh (cs1 (List.replicate w 46)), pk_f, rfl, ?_, _, _, rfl, rfl, ⟨?_, rfl⟩⟩)
    · rw [← rep_dot]
      show (if _ then _ else _) = _
      rw [if_pos (by simp only [List.length_singleton]; omega)]
    · rw [List.replicate_succ', List.map_append]
      rfl
  · rintro ys ρ' ⟨rfl, rfl⟩
    rw [rng_len]
    refine ⟨Mx (List.replicate h (List.replicate w 46)), [some (.lst ds'), some (.d (.int (h : Nat))), some (.d (.int (w : Nat))), some (.d (.int z)), none, none, none, none, none], fC ds' h w z (List.replicate h (List.replicate w 46)) none none none, rfl, (by (repeat (first | exact setZ | apply setS))), rfl, ?_⟩
    refine ws_assign (we_take (n + 1) (m := 4) (ρf := fun ds' => fC ds' h w z (List.replicate h (List.replicate w 46)) none none none) rfl hS (by omega) p_lit (by decide) (by decide) (fun ds' => by (repeat (first | exact setZ | apply setS))) fun tu ds2 _ _ hS2 => ⟨_, _, fC ds2 h w z (List.replicate h (List.replicate w 46)) (some (.d (.int tu))) none none, rfl, (by (repeat (first | exact setZ | apply setS))), rfl, ?_⟩)
    refine ws_forR (fun r ρ => Fin (∃ ds M x6 x7, St (.lst ds) (k + 2 + 32 * r) ∧ Sh h w M ∧ ρ = fC ds h w z M (some (.d (.int tu))) x6 x7)) (p_var rfl) (by omega) rfl ⟨_, _, _, _, hS2, Sh.new, rfl⟩ ?_ ?_
    · rintro r hr ρ ⟨ds3, M3, x6, x7, hS3, H3, rfl⟩
      refine ⟨fC ds3 h w z M3 (some (.d (.int tu))) (some (.d (.int (r : Nat)))) x7, (by (repeat (first | exact setZ | apply setS))), ?_⟩
      refine ws_forR (fun j ρ => Fin (∃ ds M x7, St (.lst ds) (k + 2 + 32 * r + 4 * j) ∧ Sh h w M ∧ ρ = fC ds h w z M (some (.d (.int tu))) (some (.d (.int (r : Nat)))) x7)) (p_var rfl) (by omega) rfl ⟨_, _, _, hS3, H3, rfl⟩ ?_ ?_
      · rintro j hj ρ ⟨ds4, M4, x7, hS4, H4, rfl⟩
        refine ⟨fC ds4 h w z M4 (some (.d (.int tu))) (some (.d (.int (r : Nat)))) (some (.d (.int (j : Nat)))), (by (repeat (first | exact setZ | apply setS))), ?_⟩
        exact cell_body n hS4 (by omega) H4 hr hj z1 z2 fun ds' M' hS' H' => turnEnd_n ⟨ds', M', _, hS'.mono (by omega), H', rfl⟩
      · rintro ρ ⟨ds4, M4, x7, hS4, H4, rfl⟩
        exact ws_nil (turnEnd_n ⟨ds4, M4, _, _, hS4.mono (by omega), H4, rfl⟩)
    · rintro ρ ⟨ds3, M3, x6, x7, hS3, H3, rfl⟩
      have hl3 := H3.1
      let fr : Z.Env := [some (.lst ds3), some (.d (.int (h : Nat))), some (.d (.int (w : Nat))), some (.d (.int z)), some (.d (.list (M3.map fun row => .list (cs1 row)))), some (.d (.int tu)), x6, x7, none]
      refine ws_ret (we_bi (wvc (we_compI (fun j acc ρ => Fin (acc = (Rws (M3.take j)).map C.d ∧ ρ = fr)) (wvc (we_fz (we_vl (cs := M3.map fun row => fresh (cs1 row)) rfl ⟨.list (M3.map fun row => .list (cs1 row)), fr, fz_mx rfl (by (repeat (first | exact setZ | apply setS))), rfl, wv0 ⟨[.list (M3.map fun row => .list (cs1 row))], fr, _, ?_, rfl, rfl, ⟨rfl, rfl⟩, ?_, ?_⟩⟩))))))
      · rfl
      · rintro j x acc ρ hx ⟨rfl, rfl⟩
        rw [List.getElem?_map] at hx
        obtain ⟨row, e1, rfl⟩ := Option.map_eq_some_iff.mp hx
        refine ⟨_, tgN (by (repeat (first | exact setZ | apply setS))) rfl, wa0 ⟨fun _ => ?_, fun h => by cases h⟩⟩
        have hw := H3.2 _ _ e1
        refine we_join1 (fun _ _ => rfl) ⟨_, _, p_var rfl, row, _, rfl, by omega, _, _, rfl, rfl, ⟨?_, rfl⟩⟩
        rw [List.take_add_one, e1]
        simp [Rws]
      · rintro ys ρ' ⟨rfl, rfl⟩
        rw [List.length_map, List.take_length]
        refine ⟨rfl, wv0 ⟨_, _, pk_c pk_f pk_0, bi_tl, _, _, rfl, callEnd_r ⟨M3, ds3, H3, hS3.mono (by omega), rfl, rfl⟩⟩⟩
end T_k05
set_option linter.all false
set_option Elab.async false
set_option maxRecDepth 4000
namespace T_k05
open PySem Z
def wD (p : Str × Int) : PyData := .tuple [.str p.1, .int p.2]
theorem lstw {a b v : Int} (h0 : 0 ≤ v) (h1 : v < 4) : ∃ z : Int, subD (.list [.int 0, .int a, .int 1000, .int b]) (.int v) = some (.int z) := by
  have h2 : v = 0 ∨ v = 1 ∨ v = 2 ∨ v = 3 := by omega
  rcases h2 with rfl | rfl | rfl | rfl
  · exact ⟨_, rfl⟩
  · exact ⟨_, rfl⟩
  · exact ⟨_, rfl⟩
  · exact ⟨_, rfl⟩
theorem words_ok (n : Nat) {ds : List C} {k m : Nat} (hD : St (.lst ds) k) (hk : k + 9000 < 2 ^ 40) (hm : m ≤ 10) : ∃ W ds', St (.lst ds') (k + 300) ∧ callF tab (n + 3) 10 [.lst ds, .d (.int (m : Nat))] = .ok (.d W) [some (.lst ds'), none] := by
  suffices h : ∃ r fin, callF tab (n + 3) 10 [.lst ds, .d (.int (m : Nat))] = .ok r fin ∧ Fin (∃ W ds', St (.lst ds') (k + 300) ∧ r = .d W ∧ fin = [some (.lst ds'), none]) by
    obtain ⟨r, fin, h1, ⟨W, ds', b, rfl, rfl⟩⟩ := h
    exact ⟨W, ds', b, h1⟩
  (refine call_of (fd := fd__law_words) rfl rfl ?_; simp only [fd__law_words, List.map_cons, List.map_nil, List.replicate_succ, List.replicate_zero, List.cons_append, List.nil_append, Nat.reduceSub, Nat.sub_self])
  refine ws_assignO (c_lst (xs := []) c_p0) (by (repeat (first | exact setZ | apply setS))) rfl ?_
  refine ws_forR (fun j ρ => Fin (∃ ds l x3 x4 x5, St (.lst ds) (k + 20 * j) ∧ l.length = l.length ∧ l.length ≤ j ∧ ρ = [some (.lst ds), some (.d (.int (m : Nat))), some (fresh (l.map wD)), x3, x4, x5, none])) (p_var rfl) (by omega) rfl ⟨ds, [], none, none, none, hD, rfl, Nat.le_refl _, rfl⟩ ?_ ?_
  · rintro j hj ρ ⟨ds1, l, x3, x4, x5, hS, -, hl, rfl⟩
    refine ⟨_, (by (repeat (first | exact setZ | apply setS))), ?_⟩
    let fr := fun (ds : List C) (x4 x5 : Option C) => ([some (.lst ds), some (.d (.int (m : Nat))), some (fresh (l.map wD)), some (.d (.int (j : Nat))), x4, x5, none] : Z.Env)
    refine ws_assign (we_calld tt8 io8 (cs := ds1) rfl (wvc (we_o2 ⟨_, _, p_lit, we_take (n + 1) (m := 7) (ρf := fun ds => fr ds x4 x5) rfl hS (by omega) p_lit (by decide) (by decide) (fun ds' => by (repeat (first | exact setZ | apply setS))) fun v ds2 v0 v1 hS2 => ⟨rfl, _, _, _, rfl, rfl, s2_add, rfl, wv0 ?_⟩⟩)))
    obtain ⟨q, hq, hq2⟩ : ∃ q : Nat, 2 + v = (q : Int) ∧ q ≤ 8 := ⟨(2 + v).toNat, by omega, by omega⟩
    rw [hq]
    obtain ⟨tl, ds3, ht, ha, hS3, hc⟩ := letters_ok n (m := q) hS2 (by omega) (by omega)
    refine ⟨[.int (q : Nat)], fr ds2 x4 x5, ds2, _, ds3, [none], fr ds3 x4 x5, rfl, rfl, hc, rfl, (by (repeat (first | exact setZ | apply setS))), _, _, fr ds3 (some (.d (.str ⟨tl.toArray⟩))) x5, rfl, (by (repeat (first | exact setZ | apply setS))), rfl, ?_⟩
    let w : Str := ⟨tl.toArray⟩
    refine ws_assign (we_sub (we_lst (wpc ⟨_, _, p_lit, _, _, rfl, wpc (we_take (n + 1) (m := 9) (ρf := fun ds => fr ds (some (.d (.str w))) x5) rfl hS3 (by omega) p_lit (by decide) (by decide) (fun ds' => by (repeat (first | exact setZ | apply setS))) fun a ds4 a0 a1 hS4 => ⟨_, _, rfl, wpc ⟨_, _, p_lit, _, _, rfl, wpc (we_take (n + 1) (m := 1001) (ρf := fun ds => fr ds (some (.d (.str w))) x5) rfl hS4 (by omega) p_lit (by decide) (by decide) (fun ds' => by (repeat (first | exact setZ | apply setS))) fun b ds5 b0 b1 hS5 => ⟨_, _, rfl, wp0 ?_⟩)⟩⟩)⟩)))
    refine we_take (n + 1) (m := 4) (ρf := fun ds => fr ds (some (.d (.str w))) x5) rfl hS5 (by omega) p_lit (by decide) (by decide) (fun ds' => by (repeat (first | exact setZ | apply setS))) fun u ds6 u0 u1 hS6 => ?_
    obtain ⟨z, hz⟩ := lstw (a := a) (b := b) u0 u1
    refine ⟨_, _, _, _, rfl, fl_f (xs := [.int 0, .int a, .int 1000, .int b]), rfl, hz, _, _, fr ds6 (some (.d (.str w))) (some (.d (.int z))), rfl, (by (repeat (first | exact setZ | apply setS))), rfl, ?_⟩
    have ec := e_comp (T := tab) (Γ := callF tab (n + 2)) (ρ := fr ds6 (some (.d (.str w))) (some (.d (.int z)))) (elt := .sub (.var 6) (.lit (.int 0))) (tg := .nm 6) (kk := .pl) (src := [.var 2]) (cond := []) (own := [6]) (fun _ => true) (fun x => match x with | .tuple (y :: _) => y | _ => .none) (l := l.map wD) (wvc (we_vl (cs := (l.map wD).map .d) rfl ⟨rfl, wv0 ⟨_, pk_if (pk_c (pk_fresh rfl) pk_0) rfl, src_list⟩⟩)) rfl rfl fun x hx => by
      obtain ⟨p, hp, rfl⟩ := List.mem_map.mp hx
      exact ⟨_, rfl, rfl, rfl, wa0 ⟨rfl, rfl, fun _ => we_put (p_sub (x := wD p) (k := .int 0) (p_var rfl) p_lit rfl) fun _ _ => rfl⟩⟩
    have es : (((l.map wD).filter fun _ => true).map fun x => match x with | .tuple (y :: _) => y | _ => .none) = l.map fun p => PyData.str p.1 := by
      rw [List.filter_eq_self.mpr fun _ _ => rfl, List.map_map]
      rfl
    rw [es] at ec
    have hm : memOk (.str w) (l.map fun p => PyData.str p.1) = true := by
      unfold memOk
      have : (l.map fun p => PyData.str p.1).all scalar = true := by
        rw [List.all_map]
        exact List.all_eq_true.mpr fun x _ => rfl
      rw [this]
      rfl
    refine ws_iff (we_o2 ⟨_, _, p_var rfl, _, _, ec, rfl, _, _, .d (.bool (!mem (.str w) (l.map fun p => PyData.str p.1))), rfl, pk_f, (show (if memOk (.str w) (l.map fun p => PyData.str p.1) then some (C.d (.bool (!mem (.str w) (l.map fun p => PyData.str p.1)))) else none) = _ by rw [if_pos hm]), _, rfl, fun _ => ?_, fun _ => ?_⟩)
    · refine ws_appendP (xs := l.map wD) (d := wD (w, z)) rfl (p_tup (p_fc (p_var rfl) (p_fc (p_var rfl) p_f0))) (fun _ _ => rfl) (by rw [List.length_map]; omega) (ρ' := [some (.lst ds6), some (.d (.int (m : Nat))), some (fresh ((l ++ [(w, z)]).map wD)), some (.d (.int (j : Nat))), some (.d (.str w)), some (.d (.int z)), none]) (by rw [List.map_append]; (repeat (first | exact setZ | apply setS))) (ws_nil (andThen_n (ws_nil (turnEnd_n ⟨ds6, l ++ [(w, z)], _, _, _, hS6.mono (by omega), rfl, by rw [List.length_append, List.length_singleton]; omega, rfl⟩))))
    · exact ws_nil (andThen_n (ws_nil (turnEnd_n ⟨ds6, l, _, _, _, hS6.mono (by omega), rfl, by omega, rfl⟩)))
  · rintro ρ ⟨ds1, l, x3, x4, x5, hS, -, hl, rfl⟩
    exact ws_retP (p_biV (xs := l.map wD) rfl bi_tl) (callEnd_r ⟨_, ds1, hS.mono (by omega), rfl, rfl⟩)
theorem square_ok (n : Nat) {ds : List C} {k m : Nat} (hD : St (.lst ds) k) (hk : k + 99000 < 2 ^ 40) (hm : m ≤ 9) : ∃ h w M sh W ds', 1 ≤ h ∧ h ≤ 8 ∧ 1 ≤ w ∧ w ≤ 8 ∧ Sh h w M ∧ (2 ≤ sh ∧ sh ≤ 5) ∧ St (.lst ds') (k + 1000) ∧ callF tab (n + 4) 11 [.lst ds, .d (.int (m : Nat))] = .ok (.d (.tuple [.tuple (Rws M), .int sh, W])) [some (.lst ds'), none] := by
  suffices h : ∃ r fin, callF tab (n + 4) 11 [.lst ds, .d (.int (m : Nat))] = .ok r fin ∧ Fin (∃ (h w : Nat) (M : List (List Nat)) (sh : Int) (W : PyData) (ds' : List C), 1 ≤ h ∧ h ≤ 8 ∧ 1 ≤ w ∧ w ≤ 8 ∧ Sh h w M ∧ (2 ≤ sh ∧ sh ≤ 5) ∧ St (.lst ds') (k + 1000) ∧ r = .d (.tuple [.tuple (Rws M), .int sh, W]) ∧ fin = [some (.lst ds'), none]) by
    obtain ⟨r, fin, e, ⟨h, w, M, sh, W, ds', h1, h2, h3, h4, h5, h6, h7, rfl, rfl⟩⟩ := h
    exact ⟨h, w, M, sh, W, ds', h1, h2, h3, h4, h5, h6, h7, e⟩
  (refine call_of (fd := fd__law_square) rfl rfl ?_; simp only [fd__law_square, List.map_cons, List.map_nil, List.replicate_succ, List.replicate_zero, List.cons_append, List.nil_append, Nat.reduceSub, Nat.sub_self])
  let fr := fun (ds : List C) (x2 x3 x4 x5 : Option C) => ([some (.lst ds), some (.d (.int (m : Nat))), x2, x3, x4, x5] : Z.Env)
  refine ws_par2 (we_o2 ⟨_, _, p_lit, we_take (n + 2) (m := 8) (ρf := fun ds => fr ds none none none none) rfl hD (by omega) p_lit (by decide) (by decide) (fun ds' => by (repeat (first | exact setZ | apply setS))) fun v ds2 v0 v1 hS2 => ⟨rfl, _, _, _, rfl, rfl, s2_add, _, _, rfl, we_o2 ⟨_, _, p_lit, we_take (n + 2) (m := 8) (ρf := fun ds => fr ds none none none none) rfl hS2 (by omega) p_lit (by decide) (by decide) (fun ds' => by (repeat (first | exact setZ | apply setS))) fun u ds3 u0 u1 hS3 => ⟨rfl, _, _, _, rfl, rfl, s2_add, ?_⟩⟩⟩⟩)
  obtain ⟨h, eh, h1, h8⟩ : ∃ q : Nat, 1 + v = (q : Int) ∧ 1 ≤ q ∧ q ≤ 8 := ⟨(1 + v).toNat, by omega, by omega, by omega⟩
  obtain ⟨w, ew, w1, w8⟩ : ∃ q : Nat, 1 + u = (q : Int) ∧ 1 ≤ q ∧ q ≤ 8 := ⟨(1 + u).toNat, by omega, by omega, by omega⟩
  rw [eh, ew]
  refine ⟨_, fr ds3 none none none none, fr ds3 (some (.d (.int (h : Nat)))) none none none, fr ds3 (some (.d (.int (h : Nat)))) (some (.d (.int (w : Nat)))) none none, rfl, (by (repeat (first | exact setZ | apply setS))), (by (repeat (first | exact setZ | apply setS))), rfl, rfl, ?_⟩
  refine ws_assign (we_o2 ⟨_, _, p_lit, we_take (n + 2) (m := 4) (ρf := fun ds => fr ds (some (.d (.int (h : Nat)))) (some (.d (.int (w : Nat)))) none none) rfl hS3 (by omega) p_lit (by decide) (by decide) (fun ds' => by (repeat (first | exact setZ | apply setS))) fun sh ds4 sh0 sh1 hS4 => ⟨rfl, _, _, _, rfl, rfl, s2_add, _, fr ds4 (some (.d (.int (h : Nat)))) (some (.d (.int (w : Nat)))) none none, fr ds4 (some (.d (.int (h : Nat)))) (some (.d (.int (w : Nat)))) (some (.d (.int (2 + sh)))) none, rfl, (by (repeat (first | exact setZ | apply setS))), rfl, ?_⟩⟩)
  obtain ⟨M, ds5, hM, hS5, hc⟩ := cells_ok n hS4 (by omega) h8 w8
  refine ws_assign (we_calld tt9 io9 (cs := ds4) rfl (wvc ⟨_, _, p_var rfl, rfl, wvc ⟨_, _, p_var rfl, rfl, wv0 ⟨[.int (h : Nat), .int (w : Nat)], fr ds4 (some (.d (.int (h : Nat)))) (some (.d (.int (w : Nat)))) (some (.d (.int (2 + sh)))) none, ds4, _, ds5, [none, none], fr ds5 (some (.d (.int (h : Nat)))) (some (.d (.int (w : Nat)))) (some (.d (.int (2 + sh)))) none, rfl, rfl, hc, rfl, (by (repeat (first | exact setZ | apply setS))), _, _, fr ds5 (some (.d (.int (h : Nat)))) (some (.d (.int (w : Nat)))) (some (.d (.int (2 + sh)))) (some (.d (.tuple (Rws M)))), rfl, (by (repeat (first | exact setZ | apply setS))), rfl, ?_⟩⟩⟩))
  refine ws_ret (we_tup (wfc ⟨_, _, p_var rfl, _, _, rfl, wfc ⟨_, _, p_var rfl, _, _, rfl, wfc (we_calld tt10 io10 (cs := ds5) rfl (wvc (we_take (n + 2) (m := (m : Int) + 1) (ρf := fun ds => fr ds (some (.d (.int (h : Nat)))) (some (.d (.int (w : Nat)))) (some (.d (.int (2 + sh)))) (some (.d (.tuple (Rws M))))) rfl hS5 (by omega) (p_o2 (p_var rfl) p_lit s2_add) (by omega) (by omega) (fun ds' => by (repeat (first | exact setZ | apply setS))) fun t ds6 t0 t1 hS6 => ⟨rfl, wv0 ?_⟩))) ⟩⟩))
  obtain ⟨t, rfl⟩ : ∃ q : Nat, t = (q : Int) := ⟨t.toNat, by omega⟩
  obtain ⟨W, ds7, hS7, hc2⟩ := words_ok n (m := t) hS6 (by omega) (by omega)
  exact ⟨[.int (t : Nat)], fr ds6 (some (.d (.int (h : Nat)))) (some (.d (.int (w : Nat)))) (some (.d (.int (2 + sh)))) (some (.d (.tuple (Rws M)))), ds6, _, ds7, [none], fr ds7 (some (.d (.int (h : Nat)))) (some (.d (.int (w : Nat)))) (some (.d (.int (2 + sh)))) (some (.d (.tuple (Rws M)))), rfl, rfl, hc2, rfl, (by (repeat (first | exact setZ | apply setS))), _, _, rfl, wf0 ⟨_, _, rfl, callEnd_r ⟨h, w, M, 2 + sh, W, ds7, h1, h8, w1, w8, hM, ⟨by omega, by omega⟩, hS7.mono (by omega), rfl, rfl⟩⟩⟩
end T_k05
set_option linter.all false
set_option Elab.async false
set_option maxRecDepth 4000
namespace T_k05
open PySem Z
/-! grids of drawn signs -/
def ltM (M : List (List Nat)) (r c : Nat) : Bool := match M[r]? with
  | some row => match row[c]? with
    | some x => !((⟨#[x]⟩ : Str) == ("X" : Str))
    | none => false
  | none => false
theorem gr_of {h w : Nat} {M : List (List Nat)} (H : Sh h w M) (h1 : 1 ≤ h) (h8 : h ≤ 8) (w1 : 1 ≤ w) (w8 : w ≤ 8) : Gr (Rws M) h w (ltM M) := by
  refine ⟨by rw [Rws, List.length_map, H.1], h1, h8, w1, w8, fun r hr => ?_⟩
  have e := List.getElem?_eq_getElem (show r < M.length by rw [H.1]; exact hr)
  have l := H.2 _ _ e
  refine ⟨⟨(M[r]'(by rw [H.1]; exact hr)).toArray⟩, by rw [Rws, List.getElem?_map, e]; rfl, ?_, fun c hc => ?_⟩
  · show (M[r]'_).toArray.size = w
    rw [List.size_toArray, l]
  · have e2 := List.getElem?_eq_getElem (show c < (M[r]'(by rw [H.1]; exact hr)).length by rw [l]; exact hc)
    refine ⟨⟨#[(M[r]'(by rw [H.1]; exact hr))[c]'(by rw [l]; exact hc)]⟩, ?_, ?_⟩
    · show ((M[r]'_)[c]?).map _ = _
      rw [e2]
      rfl
    · unfold ltM
      rw [e]
      simp only [e2, Bool.not_not]
/-! what may be shown -/
structure Nc (k w : Nat) (d : PyData) : Prop where
  dep : d.depth ≤ k
  bulk : d.bulk ≤ w
  shw : d.showable = true
  lv : d.leavesShort 13 = true
  nd : d.hasDict = false
theorem Nc.mono {k w k' w' : Nat} {d : PyData} (h : Nc k w d) (hk : k ≤ k') (hw : w ≤ w') : Nc k' w' d := ⟨Nat.le_trans h.dep hk, Nat.le_trans h.bulk hw, h.shw, h.lv, h.nd⟩
theorem Nc.seq {k w : Nat} {xs : List PyData} (h : ∀ x ∈ xs, Nc k w x) : PyData.depthAll xs ≤ k ∧ PyData.bulkAll xs ≤ xs.length * (w + 1) ∧ PyData.showableAll xs = true ∧ PyData.leavesShortAll 13 xs = true ∧ PyData.hasDictAll xs = false := by
  induction xs with
  | nil => exact ⟨Nat.zero_le _, Nat.zero_le _, rfl, rfl, rfl⟩
  | cons x xs ih =>
    obtain ⟨a, b, c, d, e⟩ := ih fun y hy => h y (List.mem_cons_of_mem _ hy)
    have hx := h x List.mem_cons_self
    refine ⟨?_, ?_, ?_, ?_, ?_⟩
    · rw [PyData.depthAll]
      exact Nat.max_le.mpr ⟨hx.dep, a⟩
    · rw [PyData.bulkAll, List.length_cons, Nat.add_mul]
      have := hx.bulk
      omega
    · rw [PyData.showableAll, hx.shw, c]
      rfl
    · rw [PyData.leavesShortAll, hx.lv, d]
      rfl
    · rw [PyData.hasDictAll, hx.nd, e]
      rfl
theorem Nc.tup {k w : Nat} {xs : List PyData} (h : ∀ x ∈ xs, Nc k w x) : Nc (k + 1) (xs.length * (w + 1)) (.tuple xs) := by
  obtain ⟨a, b, c, d, e⟩ := Nc.seq h
  refine ⟨?_, ?_, ?_, ?_, ?_⟩
  · rw [PyData.depth]; omega
  · rw [PyData.bulk]; exact b
  · rw [PyData.showable]; exact c
  · rw [PyData.leavesShort]; exact d
  · rw [PyData.hasDict]; exact e
theorem Nc.lst {k w : Nat} {xs : List PyData} (h : ∀ x ∈ xs, Nc k w x) : Nc (k + 1) (xs.length * (w + 1)) (.list xs) := by
  obtain ⟨a, b, c, d, e⟩ := Nc.seq h
  refine ⟨?_, ?_, ?_, ?_, ?_⟩
  · rw [PyData.depth]; omega
  · rw [PyData.bulk]; exact b
  · rw [PyData.showable]; exact c
  · rw [PyData.leavesShort]; exact d
  · rw [PyData.hasDict]; exact e
theorem Nc.int {i : Int} (h1 : -999999999999 ≤ i) (h2 : i ≤ 999999999999) : Nc 0 20 (.int i) := by
  refine ⟨Nat.le_refl _, Nat.zero_le _, ?_, ?_, rfl⟩
  · rw [PyData.showable, decide_eq_true_eq]
    by_cases h : i.natAbs = 0
    · rw [h]; decide
    · have : i.natAbs.log2 < 64 := (Nat.log2_lt h).mpr (by have : (2:Nat) ^ 64 = 18446744073709551616 := by decide
                                                           omega)
      omega
  · rw [PyData.leavesShort, decide_eq_true_eq]
    exact PyData.shown_int_le2 h1 h2
theorem Nc.nat {n : Nat} (h : n ≤ 999999) : Nc 0 20 (.int (n : Int)) := Nc.int (by omega) (by omega)
theorem nc_turned : Nc 0 20 (.str "turned") := ⟨Nat.zero_le _, by decide, rfl, by decide, rfl⟩
theorem nc_apart : Nc 0 20 (.str "apart") := ⟨Nat.zero_le _, by decide, rfl, by decide, rfl⟩
theorem nc_short : Nc 0 20 (.str "short") := ⟨Nat.zero_le _, by decide, rfl, by decide, rfl⟩
theorem nc_across : Nc 0 20 (.str "across") := ⟨Nat.zero_le _, by decide, rfl, by decide, rfl⟩
theorem nc_down : Nc 0 20 (.str "down") := ⟨Nat.zero_le _, by decide, rfl, by decide, rfl⟩
def Wb (x : PyData) : Prop := Nc 5 1048576 x
theorem rep_ok {x : PyData} (h : Wb x) : biS .repr [x] = some (.d (.str x.shown)) := by
  have h1 : biSup .repr [x] = true := by
    show (!x.hasDict || _) = true
    rw [h.nd]
    rfl
  have h2 : x.shown.length ≤ 16777216 := by
    have := PyData.shown_fits_bulk (B := 13) (by decide) (by decide) h.lv (by have := h.bulk; omega)
    rwa [sizeLine_eq] at this
  rw [bi_rep, h1, if_pos rfl, h.shw, decide_eq_true h2, decide_eq_true (Nat.le_trans h.dep (by decide))]
  rfl
section
variable {h w : Nat} {lt : Nat → Nat → Bool}
theorem ray_bd (hh : h ≤ 8) (hw : w ≤ 8) {dr dc x : Nat} : ∀ {f r c : Nat}, x ∈ ray h w lt dr dc f r c → x < 64
  | 0, _, _, hx => by cases hx
  | f + 1, r, c, hx => by
    rw [ray] at hx
    split at hx
    · rename_i hi
      rcases List.mem_cons.mp hx with rfl | hx
      · obtain ⟨a, b⟩ := inL_lt hi
        have : r * w ≤ 7 * 8 := Nat.mul_le_mul (by omega) hw
        omega
      · exact ray_bd hh hw hx
    · cases hx
theorem ray_nc (hh : h ≤ 8) (hw : w ≤ 8) (dr dc r c : Nat) : Nc 1 1000 (rayD h w lt dr dc r c) := by
  refine (Nc.tup (k := 0) (w := 20) fun x hx => ?_).mono (Nat.le_refl _) ?_
  · obtain ⟨n, hn, rfl⟩ := List.mem_map.mp hx
    have := ray_bd hh hw hn
    exact Nc.int (by omega) (by omega)
  · have := ray_len h w lt dr dc 9 r c
    rw [List.length_map]
    omega
theorem runs_nc (hh : h ≤ 8) (hw : w ≤ 8) : Wb (.list (runsS h w lt)) := by
  refine (Nc.lst (k := 1) (w := 1000) fun x hx => ?_).mono (by decide) ?_
  · rw [← lAll_runs] at hx
    obtain ⟨y, hy, rfl⟩ := List.mem_map.mp hx
    obtain ⟨way, dr, dc, r, c, rfl, -, -⟩ := lAll_mem hy
    exact ray_nc hh hw dr dc r c
  · rw [← lAll_runs, List.length_map]
    have h2 := lAll_len (h := h) (w := w) (lt := lt) h
    have h3 : h * (w * 2) ≤ 8 * 16 := Nat.mul_le_mul hh (by omega)
    have : (lAll h w lt h).length * (1000 + 1) ≤ 128 * 1001 := Nat.mul_le_mul (by omega) (Nat.le_refl _)
    omega
theorem nc_tup4 {xs : List PyData} (h : ∀ x ∈ xs, Nc 0 20 x) (hl : xs.length ≤ 4) : Nc 1 84 (.tuple xs) := (Nc.tup h).mono (Nat.le_refl _) (by omega)
theorem faults_nc (hh : h ≤ 8) (hw : w ≤ 8) (sh : Int) : Wb (.tuple (fltS h w lt sh)) := by
  have hhw : h * w ≤ 8 * 8 := Nat.mul_le_mul hh hw
  refine (Nc.tup (k := 1) (w := 84) fun x hx => ?_).mono (by decide) ?_
  · unfold fltS at hx
    rcases List.mem_append.mp hx with hx | hx
    · rcases List.mem_append.mp hx with hx | hx
      · unfold tAll at hx
        obtain ⟨r, hr, hx⟩ := List.mem_flatMap.mp hx
        unfold tRow at hx
        obtain ⟨c, hc, hx⟩ := List.mem_flatMap.mp hx
        have hr := List.mem_range.mp hr
        have hc := List.mem_range.mp hc
        unfold tAt at hx
        split at hx
        · cases hx
        · rw [List.mem_singleton.mp hx]
          refine nc_tup4 ?_ (by simp)
          intro y hy
          simp only [List.mem_cons, List.not_mem_nil, or_false] at hy
          rcases hy with rfl | rfl | rfl
          · exact nc_turned
          · exact Nc.nat (by omega)
          · exact Nc.nat (by omega)
      · unfold apS at hx
        obtain ⟨n, hn, rfl⟩ := List.mem_map.mp hx
        have hn := (List.mem_filter.mp hn).1
        unfold LL at hn
        have hn := List.mem_range.mp (List.mem_filter.mp hn).1
        have := Nat.div_le_self n w
        have := Nat.mod_le n w
        refine nc_tup4 ?_ (by simp)
        intro y hy
        simp only [List.mem_cons, List.not_mem_nil, or_false] at hy
        rcases hy with rfl | rfl | rfl
        · exact nc_apart
        · exact Nc.nat (by omega)
        · exact Nc.nat (by omega)
    · unfold sAll at hx
      obtain ⟨y, hy, hx⟩ := List.mem_flatMap.mp hx
      have hy := List.mem_of_mem_take hy
      obtain ⟨way, dr, dc, r, c, rfl, hl, hway⟩ := lAll_mem hy
      have hn : Nc 0 20 (.str way) := by
        rcases hway with ⟨rfl, -⟩ | ⟨rfl, -⟩
        · exact nc_across
        · exact nc_down
      unfold rayD at hx
      cases hray : ray h w lt dr dc 9 r c with
      | nil => rw [hray] at hl; cases hl
      | cons a rest =>
        have ha : a < 64 := ray_bd hh hw (by rw [hray]; exact List.mem_cons_self)
        rw [hray, List.map_cons] at hx
        simp only [intD, sItem] at hx
        split at hx
        · rw [List.mem_singleton.mp hx, fdiv_nat, fmod_nat]
          have := Nat.div_le_self a w
          have := Nat.mod_le a w
          refine nc_tup4 ?_ (by simp)
          intro y hy
          simp only [List.mem_cons, List.not_mem_nil, or_false] at hy
          rcases hy with rfl | rfl | rfl | rfl
          · exact nc_short
          · exact hn
          · exact Nc.nat (by omega)
          · exact Nc.nat (by omega)
        · cases hx
  · have l1 := tAll_len (h := h) (w := w) (lt := lt) h
    rw [Nat.mul_one] at l1
    have l2 := apS_len (h := h) (w := w) (lt := lt) (itS h w lt (LL h w lt).length)
    have l3 := sAll_len (h := h) (w := w) (lt := lt) sh (lAll h w lt h).length hh hw
    have : (fltS h w lt sh).length ≤ 256 := by
      unfold fltS
      rw [List.length_append, List.length_append]
      omega
    have : (fltS h w lt sh).length * (84 + 1) ≤ 256 * 85 := Nat.mul_le_mul this (Nat.le_refl _)
    omega
end
end T_k05
set_option linter.all false
set_option Elab.async false
set_option maxRecDepth 4000
namespace Z
open PySem
theorem p_biL {T : Tab} {Γ : Nat → List C → FRes} {ρ : Env} {e : E} {f : BI} {xs : List PyData} {z : PyData} (h : evE T Γ e ρ = .ok (.own (fresh xs)) ρ) (hb : biS f [.list xs] = some (.d z)) : Ev T Γ ρ (.bi f [e]) z := by
  obtain ⟨_, _, e, h1, h2⟩ := we_bi (Q := fun v ρ' => v = .own (.d z) ∧ ρ' = ρ) (f := f) (es := [e]) (T := T) (Γ := Γ) (ρ := ρ) (wvc ⟨_, _, h, rfl, wv0 ⟨_, _, pk_c pk_f pk_0, hb, rfl, rfl⟩⟩)
  subst h1 h2
  exact e
theorem p_nesame {T : Tab} {Γ : Nat → List C → FRes} {ρ : Env} {a b : E} {s : Str} (ha : Ev T Γ ρ a (.str s)) (hb : Ev T Γ ρ b (.str s)) : Ev T Γ ρ (.o2 .ne a b) (.bool false) := by
  have h := p_o2 ha hb s2_nes
  rw [beq_self_eq_true] at h
  exact h
end Z
namespace T_k05
open PySem Z
variable {R : List PyData} {h w : Nat} {lt : Nat → Nat → Bool}
theorem due_ok (G : Gr R h w lt) (n : Nat) {a0 a1 a2 a3 a4 a5 a6 a7 a10 : Option C} {e : E} (he : Ev tab (callF tab (n + 5)) [a0, a1, a2, a3, a4, a5, a6, a7, none, none, a10] e (.tuple R)) :
    evE tab (callF tab (n + 5)) (.comp (.var 9) (.tup [(.nm 8), (.nm 9)]) .pl [(.call 13 [e])] [] [8, 9]) [a0, a1, a2, a3, a4, a5, a6, a7, none, none, a10] = .ok (.own (fresh (runsS h w lt))) [a0, a1, a2, a3, a4, a5, a6, a7, none, none, a10] := by
  have ec := e_comp (T := tab) (Γ := callF tab (n + 5)) (ρ := [a0, a1, a2, a3, a4, a5, a6, a7, none, none, a10]) (elt := .var 9) (tg := .tup [(.nm 8), (.nm 9)]) (kk := .pl) (src := [(.call 13 [e])]) (cond := []) (own := [8, 9]) (fun _ => true) sndD (l := lAll h w lt h) (wvc ⟨_, _, e_call tt13 rfl (xs := [.tuple R]) (elc he el0) (lruns_ok G (n + 3)) rfl, rfl, wv0 ⟨_, pk_if (pk_c pk_f pk_0) rfl, src_list⟩⟩) rfl rfl fun x hx => by
    obtain ⟨way, dr, dc, r, c, rfl, -, -⟩ := lAll_mem hx
    exact ⟨[a0, a1, a2, a3, a4, a5, a6, a7, some (.d (.str way)), some (.d (rayD h w lt dr dc r c)), a10], by ((repeat (first | exact tgs0 | exact setZ | (with_reducible apply tgsC) | (with_reducible apply tgT) | ((with_reducible apply tgN); (· ((repeat (first | exact setZ | apply setS)); done)); (· exact rfl)) | (with_reducible apply setS)))), rfl, rfl, wa0 ⟨rfl, rfl, fun _ => we_put (d := rayD h w lt dr dc r c) (p_var rfl) fun _ _ => rfl⟩⟩
  rw [List.filter_eq_self.mpr fun _ _ => rfl, lAll_runs] at ec
  exact ec
theorem runs_ev (G : Gr R h w lt) (n : Nat) {ρ : Z.Env} {e : E} (he : Ev tab (callF tab (n + 5)) ρ e (.tuple R)) : evE tab (callF tab (n + 5)) (.call 0 [e]) ρ = .ok (.own (fresh (runsS h w lt))) ρ := e_call tt0 rfl (xs := [.tuple R]) (elc he el0) (runs_ok G (n + 3)) rfl
theorem rep_runs (G : Gr R h w lt) : biS .repr [.list (runsS h w lt)] = some (.d (.str (PyData.list (runsS h w lt)).shown)) := rep_ok (runs_nc G.h8 G.w8)
theorem ne_faults (G : Gr R h w lt) (n : Nat) {ρ : Z.Env} {e a b : E} {sh : Int} {W : PyData} (he : Ev tab (callF tab (n + 5)) ρ e (.tuple [.tuple R, .int sh, W])) (ha : Ev tab (callF tab (n + 5)) ρ a (.tuple R)) (hb : Ev tab (callF tab (n + 5)) ρ b (.int sh)) : Ev tab (callF tab (n + 5)) ρ (.o2 .ne (.bi .repr [(.call 6 [e])]) (.bi .repr [(.call 15 [a, b])])) (.bool false) :=
  p_nesame (p_bi1 (p_call tt6 rfl (xs := [.tuple [.tuple R, .int sh, W]]) (elc he el0) (faults_ok G (n + 1) sh W) rfl) (rep_ok (faults_nc G.h8 G.w8 sh))) (p_bi1 (p_call tt15 rfl (xs := [.tuple R, .int sh]) (elc ha (elc hb el0)) (lfaults_ok G (n + 2) sh) rfl) (rep_ok (faults_nc G.h8 G.w8 sh)))
theorem dotx {v : Int} (h0 : 0 ≤ v) (h1 : v < 2) : ∃ c : Nat, subD (.str ".X") (.int v) = some (.str ⟨#[c]⟩) := by
  have h2 : v = 0 ∨ v = 1 := by omega
  rcases h2 with rfl | rfl
  · exact ⟨46, rfl⟩
  · exact ⟨88, rfl⟩
theorem law_ok (n : Nat) (ns : List Int) : ∃ fin, callF tab (n + 6) 16 [.d (.list (ns.map .int))] = .ok (.d (.bool true)) fin := by
  suffices h : ∃ r fin, callF tab (n + 6) 16 [.d (.list (ns.map .int))] = .ok r fin ∧ Fin (r = .d (.bool true)) by
    obtain ⟨r, fin, e, ⟨rfl⟩⟩ := h
    exact ⟨fin, e⟩
  (refine call_of (fd := fd_law) rfl rfl ?_; simp only [fd_law, List.map_cons, List.map_nil, List.replicate_succ, List.replicate_zero, List.cons_append, List.nil_append, Nat.reduceSub, Nat.sub_self])
  let L : PyData := .list (ns.map .int)
  refine ws_assignO (c_lst (xs := [L, .int 0, .int 0, .int 0]) (c_pc (fun _ _ => rfl) (EvC.of (p_var rfl)) (c_pc (fun _ _ => rfl) (EvC.of p_lit) (c_pc (fun _ _ => rfl) (EvC.of p_lit) (c_pc (fun _ _ => rfl) (EvC.of p_lit) c_p0))))) (ρ' := [some (.d L), some (.lst [.d L, .d (.int 0), .d (.int 0), .d (.int 0)]), none, none, none, none, none, none, none, none, none]) (by (repeat (first | exact setZ | apply setS))) rfl ?_
  have hD : St (.lst [.d L, .d (.int 0), .d (.int 0), .d (.int 0)]) 0 := ⟨ns, 0, 0, 0, rfl, Int.le_refl _, Int.le_refl _⟩
  obtain ⟨h, w, M, sh, W, ds, h1, h8, w1, w8, hM, ⟨sh1, sh2⟩, hS, hc⟩ := square_ok (n + 1) (m := 3) hD (by decide) (by decide)
  have G := gr_of hM h1 h8 w1 w8
  let SQ : PyData := .tuple [.tuple (Rws M), .int sh, W]
  refine ws_assign (we_calld tt11 io11 (cs := [.d L, .d (.int 0), .d (.int 0), .d (.int 0)]) rfl (wvc ⟨_, _, p_lit, rfl, wv0 ⟨[.int 3], _, _, _, ds, [none], [some (.d L), some (.lst ds), none, none, none, none, none, none, none, none, none], rfl, rfl, hc, rfl, (by (repeat (first | exact setZ | apply setS))), _, _, [some (.d L), some (.lst ds), some (.d SQ), none, none, none, none, none, none, none, none], rfl, (by (repeat (first | exact setZ | apply setS))), rfl, ?_⟩⟩))
  have sq0 : ∀ {a3 a4 a5 a6 a7 a8 a9 a10 : Option C}, Ev tab (callF tab (n + 5)) [some (.d L), some (.lst ds), some (.d SQ), a3, a4, a5, a6, a7, a8, a9, a10] (.sub (.var 2) (.lit (.int 0))) (.tuple (Rws M)) := p_sub (x := SQ) (k := .int 0) (p_var rfl) p_lit rfl
  have sq1 : ∀ {a3 a4 a5 a6 a7 a8 a9 a10 : Option C}, Ev tab (callF tab (n + 5)) [some (.d L), some (.lst ds), some (.d SQ), a3, a4, a5, a6, a7, a8, a9, a10] (.sub (.var 2) (.lit (.int 1))) (.int sh) := p_sub (x := SQ) (k := .int 1) (p_var rfl) p_lit rfl
  have hrl : (runsS h w (ltM M)).length ≤ 128 := by
    rw [← lAll_runs, List.length_map]
    have h2 := lAll_len (h := h) (w := w) (lt := ltM M) h
    have h3 : h * (w * 2) ≤ 8 * 16 := Nat.mul_le_mul h8 (by omega)
    omega
  refine ws_assignO (due_ok G n sq0) (ρ' := [some (.d L), some (.lst ds), some (.d SQ), some (fresh (runsS h w (ltM M))), none, none, none, none, none, none, none]) (by (repeat (first | exact setZ | apply setS))) rfl ?_
  refine ws_forR (fun j ρ => Fin (∃ a4 a5, ρ = [some (.d L), some (.lst ds), some (.d SQ), some (fresh (runsS h w (ltM M))), a4, a5, none, none, none, none, none])) (m := 2) p_lit (by decide) rfl ⟨none, none, rfl⟩ ?_ ?_
  · rintro j hj ρ ⟨a4, a5, rfl⟩
    refine ⟨_, (by (repeat (first | exact setZ | apply setS))), ?_⟩
    refine ws_assignO (runs_ev G n sq0) (ρ' := [some (.d L), some (.lst ds), some (.d SQ), some (fresh (runsS h w (ltM M))), some (.d (.int (j : Nat))), some (fresh (runsS h w (ltM M))), none, none, none, none, none]) (by (repeat (first | exact setZ | apply setS))) rfl ?_
    refine ws_iff (we_or (woc (we_not (we_isi (we_vl (cs := (runsS h w (ltM M)).map .d) rfl ⟨_, true, lk_b rfl, rfl, _, rfl, _, rfl, fun _ => wo1 ⟨_, _, p_nesame (p_biV (xs := runsS h w (ltM M)) rfl (rep_runs G)) (p_biV (xs := runsS h w (ltM M)) rfl (rep_runs G)), _, rfl, _, rfl, (fun h => by cases h), fun _ => ?_⟩, fun h => by cases h⟩)))))
    refine ws_nil (andThen_n ?_)
    refine ws_appendP (xs := runsS h w (ltM M)) (d := .tuple []) rfl (p_tup p_f0) (fun _ _ => rfl) (by omega) (ρ' := [some (.d L), some (.lst ds), some (.d SQ), some (fresh (runsS h w (ltM M))), some (.d (.int (j : Nat))), some (fresh (runsS h w (ltM M) ++ [.tuple []])), none, none, none, none, none]) (by (repeat (first | exact setZ | apply setS))) ?_
    exact ws_iffP (ne_faults G n (p_var rfl) sq0 sq1) (fun h => by cases h) fun _ => ws_nil (andThen_n (ws_nil (turnEnd_n ⟨_, _, rfl⟩)))
  · rintro ρ ⟨a4, a5, rfl⟩
    let fr := fun (ds : List C) (a6 a10 : Option C) => ([some (.d L), some (.lst ds), some (.d SQ), some (fresh (runsS h w (ltM M))), a4, a5, a6, none, none, none, a10] : Z.Env)
    refine ws_assign (we_join1 (fun _ _ => rfl) (we_compI (fun j acc ρ => Fin (∃ ds tl, acc = (cs1 tl).map .d ∧ tl.length = j ∧ St (.lst ds) (2000 + j) ∧ ρ = fr ds none none)) (wvc ⟨_, _, p_lit, rfl, wv0 ⟨[.int (8 : Nat)], fr ds none none, rangeD 0 (8 : Nat), ?_, src_rng (by omega), rfl, ⟨ds, [], rfl, rfl, hS.mono (by omega), rfl⟩, ?_, ?_⟩⟩)))
    · rfl
    · rintro j x acc ρ hx ⟨ds, tl, rfl, hl, hS, rfl⟩
      obtain ⟨hj, rfl⟩ := rng_at hx
      refine ⟨fr ds none (some (.d (.int (j : Nat)))), tgN (by (repeat (first | exact setZ | apply setS))) rfl, wa0 ⟨fun _ => ?_, fun h => by cases h⟩⟩
      refine we_sub ⟨_, _, p_lit, we_take (n + 4) (m := 2) (ρf := fun ds => fr ds none (some (.d (.int (j : Nat))))) rfl hS (by omega) p_lit (by decide) (by decide) (fun ds' => by (repeat (first | exact setZ | apply setS))) fun u ds' u0 u1 hS => ?_⟩
      obtain ⟨c, hc⟩ := dotx u0 u1
      exact ⟨_, _, _, _, rfl, rfl, rfl, hc, _, _, rfl, rfl, ⟨ds', tl ++ [c], cs1_snoc, by rw [List.length_append, hl]; rfl, hS, rfl⟩⟩
    · rintro ys ρ' ⟨ds, tl, rfl, hl, hS, rfl⟩
      rw [rng_len] at hl hS
      refine ⟨tl, _, fz_f, by omega, _, _, fr ds (some (.d (.str ⟨tl.toArray⟩))) none, rfl, (by (repeat (first | exact setZ | apply setS))), rfl, ?_⟩
      have S1 : Sh 1 8 [tl] := ⟨rfl, fun r row e => by
        cases r with
        | zero => cases e; exact hl
        | succ r => cases e⟩
      have S2 : Sh 8 1 (tl.map fun c => [c]) := ⟨by rw [List.length_map]; exact hl, fun r row e => by
        rw [List.getElem?_map] at e
        obtain ⟨c, -, rfl⟩ := Option.map_eq_some_iff.mp e
        rfl⟩
      have G1 := gr_of S1 (by decide) (by decide) (by decide) (by decide)
      have G2 := gr_of S2 (by decide) (by decide) (by decide) (by decide)
      have tt : biS .tuple [.str ⟨tl.toArray⟩] = some (.d (.tuple (Rws (tl.map fun c => [c])))) := by
        have e1 : biSup .tuple [.str ⟨tl.toArray⟩] = true := by
          show decide (tl.toArray.size ≤ _) = true
          rw [List.size_toArray, hl]
          rfl
        show (if biSup .tuple [.str ⟨tl.toArray⟩] = true then _ else _) = _
        rw [if_pos e1]
        simp only [biSem, items, Option.map_some, chars, Rws, List.map_map]
        rfl
      have it : Ev tab (callF tab (n + 5)) (fr ds (some (.d (.str ⟨tl.toArray⟩))) none) (.tup [(.tup [(.var 6)]), (.bi .tuple [(.var 6)])]) (.tuple [.tuple (Rws [tl]), .tuple (Rws (tl.map fun c => [c]))]) := p_tup (p_fc (p_tup (p_fc (p_var rfl) p_f0)) (p_fc (p_bi1 (p_var rfl) tt) p_f0))
      refine ws_forT (fun j ρ => Fin (∃ a3 a7, ρ = [some (.d L), some (.lst ds), some (.d SQ), a3, a4, a5, some (.d (.str ⟨tl.toArray⟩)), a7, none, none, none])) it src_tup ⟨_, _, rfl⟩ ?_ ?_
      · have body : ∀ {R : List PyData} {h w : Nat} {lt : Nat → Nat → Bool} (G : Gr R h w lt) (j : Nat) (a3 a7 : Option C), ∃ ρ', setTg [] (.nm 7) (.tuple R) [some (.d L), some (.lst ds), some (.d SQ), a3, a4, a5, some (.d (.str ⟨tl.toArray⟩)), a7, none, none, none] = some ρ' ∧ WS tab (callF tab (n + 5)) [] [(.assign 3 (.comp (.var 9) (.tup [(.nm 8), (.nm 9)]) .pl [(.call 13 [(.var 7)])] [] [8, 9])), (.iff (.or [(.o2 .ne (.bi .repr [(.call 0 [(.var 7)])]) (.bi .repr [(.var 3)])), (.o2 .ne (.bi .repr [(.call 6 [(.tup [(.var 7), (.lit (.int 2)), (.tup [])])])]) (.bi .repr [(.call 15 [(.var 7), (.lit (.int 2))])]))]) [(.ret (.lit (.bool false)))] [])] ρ' (turnEnd (fun ρ => Fin (∃ a3 a7, ρ = [some (.d L), some (.lst ds), some (.d SQ), a3, a4, a5, some (.d (.str ⟨tl.toArray⟩)), a7, none, none, none])) (callEnd fd_law.io 1 fun r fin => Fin (r = .d (.bool true)))) := fun {R h w lt} G j a3 a7 => by
          refine ⟨[some (.d L), some (.lst ds), some (.d SQ), a3, a4, a5, some (.d (.str ⟨tl.toArray⟩)), some (.d (.tuple R)), none, none, none], tgN (by (repeat (first | exact setZ | apply setS))) rfl, ?_⟩
          refine ws_assignO (due_ok G n (p_var rfl)) (ρ' := [some (.d L), some (.lst ds), some (.d SQ), some (fresh (runsS h w lt)), a4, a5, some (.d (.str ⟨tl.toArray⟩)), some (.d (.tuple R)), none, none, none]) (by (repeat (first | exact setZ | apply setS))) rfl ?_
          exact ws_iffP (p_or (p_rc (p_nesame (p_biL (runs_ev G n (p_var rfl)) (rep_runs G)) (p_biV (xs := runsS h w lt) rfl (rep_runs G))) fun _ => p_r1 (ne_faults G n (W := .tuple []) (p_tup (p_fc (p_var rfl) (p_fc p_lit (p_fc (p_tup p_f0) p_f0)))) (p_var rfl) p_lit))) (fun h => by cases h) fun _ => ws_nil (andThen_n (ws_nil (turnEnd_n ⟨_, _, rfl⟩)))
        rintro j x hx ρ ⟨a3, a7, rfl⟩
        match j, hx with
        | 0, hx => cases hx; exact body G1 0 a3 a7
        | 1, hx => cases hx; exact body G2 1 a3 a7
        | j + 2, hx => simp at hx
      · rintro ρ ⟨a3, a7, rfl⟩
        exact ws_retP p_lit (callEnd_r ⟨rfl⟩)
theorem law_run (ns : List Int) : ∃ fin, callF tab 100 16 [.d (.list (ns.map .int))] = .ok (.d (.bool true)) fin := law_ok 94 ns
end T_k05
end ZW_
set_option linter.all false
set_option Elab.async false
set_option maxRecDepth 100000
set_option maxHeartbeats 0
namespace T_k05
open Z PySem
def top (i : Nat) : Stmt := PySem.Challenge.pw_crossfill_k05_whole_grids_looked_at.main.body.getD i (.Pass ⟨0, 0, 0, 0⟩)
def S : Ws := ⟨tab, ["runs_of", "run_from", "turned_faults", "near_cells", "apart_faults", "short_faults", "faults_of", "_law_take", "_law_letters", "_law_cells", "_law_words", "_law_square", "_law_light", "_law_runs", "_law_apart", "_law_faults", "law"], [], [("DARK", (.str "X"))]⟩
def d_runs_of : Df := ⟨"runs_of", top 2, ["rows", "wide", "found", "r", "row", "c", "run"], ["rows"]⟩
def d_run_from : Df := ⟨"run_from", top 3, ["rows", "r", "c", "down", "across", "wide", "found"], ["rows", "r", "c", "down", "across"]⟩
def d_turned_faults : Df := ⟨"turned_faults", top 4, ["rows", "wide", "found", "r", "row", "c", "other"], ["rows"]⟩
def d_near_cells : Df := ⟨"near_cells", top 5, ["rows", "cell", "wide", "r", "c", "found", "one", "other"], ["rows", "cell"]⟩
def d_apart_faults : Df := ⟨"apart_faults", top 6, ["rows", "wide", "light", "seen", "pile", "cell"], ["rows"]⟩
def d_short_faults : Df := ⟨"short_faults", top 7, ["rows", "shortest", "wide", "found", "run", "way"], ["rows", "shortest"]⟩
def d_faults_of : Df := ⟨"faults_of", top 8, ["square", "rows", "shortest", "words"], ["square"]⟩
def d__law_take : Df := ⟨"_law_take", top 10, ["_law_draw", "_law_many", "_law_script", "_law_found", "_law_k", "_law_cell", "_law_number"], ["_law_draw", "_law_many"]⟩
def d__law_letters : Df := ⟨"_law_letters", top 11, ["_law_draw", "_law_many", "_law_letters_here", "_law_few", "_law_k"], ["_law_draw", "_law_many"]⟩
def d__law_cells : Df := ⟨"_law_cells", top 12, ["_law_draw", "_law_high", "_law_wide", "_law_often", "_law_rows", "_law_turned", "_law_r", "_law_c", "_law_row"], ["_law_draw", "_law_high", "_law_wide"]⟩
def d__law_words : Df := ⟨"_law_words", top 13, ["_law_draw", "_law_many", "_law_found", "_law_k", "_law_word", "_law_worth", "_law_one"], ["_law_draw", "_law_many"]⟩
def d__law_square : Df := ⟨"_law_square", top 14, ["_law_draw", "_law_most", "_law_high", "_law_wide", "_law_shortest", "_law_cells_here"], ["_law_draw", "_law_most"]⟩
def d__law_light : Df := ⟨"_law_light", top 15, ["_law_rows", "_law_r", "_law_c"], ["_law_rows", "_law_r", "_law_c"]⟩
def d__law_runs : Df := ⟨"_law_runs", top 16, ["_law_rows", "_law_found", "_law_r", "_law_c", "_law_way", "_law_down", "_law_across", "_law_size", "_law_cells_here", "_law_k"], ["_law_rows"]⟩
def d__law_apart : Df := ⟨"_law_apart", top 17, ["_law_rows", "_law_light_here", "_law_r", "_law_reached", "_law_turn", "_law_c", "_law_beside", "_law_one"], ["_law_rows"]⟩
def d__law_faults : Df := ⟨"_law_faults", top 18, ["_law_rows", "_law_shortest", "_law_found", "_law_high", "_law_wide", "_law_r", "_law_c", "_law_way", "_law_cells_here"], ["_law_rows", "_law_shortest"]⟩
def d_law : Df := ⟨"law", top 19, ["_law_script", "_law_draw", "_law_square_here", "_law_due", "_law_turn", "_law_found", "_law_line", "_law_rows", "_law_way", "_law_cells_here", "_law_k"], ["_law_script"]⟩
def D : Dat := ⟨S, [some d_runs_of, some d_run_from, some d_turned_faults, some d_near_cells, some d_apart_faults, some d_short_faults, some d_faults_of, some d__law_take, some d__law_letters, some d__law_cells, some d__law_words, some d__law_square, some d__law_light, some d__law_runs, some d__law_apart, some d__law_faults, some d_law]⟩
theorem ok_runs_of : DfOk S 0 d_runs_of fd_runs_of := ⟨rfl, ⟨rfl, rfl, rfl, by decide +kernel, rfl, by decide +kernel, by decide +kernel⟩, by decide +kernel, rfl, rfl, fun _ _ _ _ _ _ us hl => match us, hl with | [_], _ => rfl⟩
theorem ok_run_from : DfOk S 1 d_run_from fd_run_from := ⟨rfl, ⟨rfl, rfl, rfl, by decide +kernel, rfl, by decide +kernel, by decide +kernel⟩, by decide +kernel, rfl, rfl, fun _ _ _ _ _ _ us hl => match us, hl with | [_, _, _, _, _], _ => rfl⟩
theorem ok_turned_faults : DfOk S 2 d_turned_faults fd_turned_faults := ⟨rfl, ⟨rfl, rfl, rfl, by decide +kernel, rfl, by decide +kernel, by decide +kernel⟩, by decide +kernel, rfl, rfl, fun _ _ _ _ _ _ us hl => match us, hl with | [_], _ => rfl⟩
theorem ok_near_cells : DfOk S 3 d_near_cells fd_near_cells := ⟨rfl, ⟨rfl, rfl, rfl, by decide +kernel, rfl, by decide +kernel, by decide +kernel⟩, by decide +kernel, rfl, rfl, fun _ _ _ _ _ _ us hl => match us, hl with | [_, _], _ => rfl⟩
theorem ok_apart_faults : DfOk S 4 d_apart_faults fd_apart_faults := ⟨rfl, ⟨rfl, rfl, rfl, by decide +kernel, rfl, by decide +kernel, by decide +kernel⟩, by decide +kernel, rfl, rfl, fun _ _ _ _ _ _ us hl => match us, hl with | [_], _ => rfl⟩
theorem ok_short_faults : DfOk S 5 d_short_faults fd_short_faults := ⟨rfl, ⟨rfl, rfl, rfl, by decide +kernel, rfl, by decide +kernel, by decide +kernel⟩, by decide +kernel, rfl, rfl, fun _ _ _ _ _ _ us hl => match us, hl with | [_, _], _ => rfl⟩
theorem ok_faults_of : DfOk S 6 d_faults_of fd_faults_of := ⟨rfl, ⟨rfl, rfl, rfl, by decide +kernel, rfl, by decide +kernel, by decide +kernel⟩, by decide +kernel, rfl, rfl, fun _ _ _ _ _ _ us hl => match us, hl with | [_], _ => rfl⟩
theorem ok__law_take : DfOk S 7 d__law_take fd__law_take := ⟨rfl, ⟨rfl, rfl, rfl, by decide +kernel, rfl, by decide +kernel, by decide +kernel⟩, by decide +kernel, rfl, rfl, fun _ _ _ _ _ _ us hl => match us, hl with | [_, _], _ => rfl⟩
theorem ok__law_letters : DfOk S 8 d__law_letters fd__law_letters := ⟨rfl, ⟨rfl, rfl, rfl, by decide +kernel, rfl, by decide +kernel, by decide +kernel⟩, by decide +kernel, rfl, rfl, fun _ _ _ _ _ _ us hl => match us, hl with | [_, _], _ => rfl⟩
theorem ok__law_cells : DfOk S 9 d__law_cells fd__law_cells := ⟨rfl, ⟨rfl, rfl, rfl, by decide +kernel, rfl, by decide +kernel, by decide +kernel⟩, by decide +kernel, rfl, rfl, fun _ _ _ _ _ _ us hl => match us, hl with | [_, _, _], _ => rfl⟩
theorem ok__law_words : DfOk S 10 d__law_words fd__law_words := ⟨rfl, ⟨rfl, rfl, rfl, by decide +kernel, rfl, by decide +kernel, by decide +kernel⟩, by decide +kernel, rfl, rfl, fun _ _ _ _ _ _ us hl => match us, hl with | [_, _], _ => rfl⟩
theorem ok__law_square : DfOk S 11 d__law_square fd__law_square := ⟨rfl, ⟨rfl, rfl, rfl, by decide +kernel, rfl, by decide +kernel, by decide +kernel⟩, by decide +kernel, rfl, rfl, fun _ _ _ _ _ _ us hl => match us, hl with | [_, _], _ => rfl⟩
theorem ok__law_light : DfOk S 12 d__law_light fd__law_light := ⟨rfl, ⟨rfl, rfl, rfl, by decide +kernel, rfl, by decide +kernel, by decide +kernel⟩, by decide +kernel, rfl, rfl, fun _ _ _ _ _ _ us hl => match us, hl with | [_, _, _], _ => rfl⟩
theorem ok__law_runs : DfOk S 13 d__law_runs fd__law_runs := ⟨rfl, ⟨rfl, rfl, rfl, by decide +kernel, rfl, by decide +kernel, by decide +kernel⟩, by decide +kernel, rfl, rfl, fun _ _ _ _ _ _ us hl => match us, hl with | [_], _ => rfl⟩
theorem ok__law_apart : DfOk S 14 d__law_apart fd__law_apart := ⟨rfl, ⟨rfl, rfl, rfl, by decide +kernel, rfl, by decide +kernel, by decide +kernel⟩, by decide +kernel, rfl, rfl, fun _ _ _ _ _ _ us hl => match us, hl with | [_], _ => rfl⟩
theorem ok__law_faults : DfOk S 15 d__law_faults fd__law_faults := ⟨rfl, ⟨rfl, rfl, rfl, by decide +kernel, rfl, by decide +kernel, by decide +kernel⟩, by decide +kernel, rfl, rfl, fun _ _ _ _ _ _ us hl => match us, hl with | [_, _], _ => rfl⟩
theorem ok_law : DfOk S 16 d_law fd_law := ⟨rfl, ⟨rfl, rfl, rfl, by decide +kernel, rfl, by decide +kernel, by decide +kernel⟩, by decide +kernel, rfl, rfl, fun _ _ _ _ _ _ us hl => match us, hl with | [_], _ => rfl⟩
theorem datOk : DatOk D where
  fn := rfl
  df := fun f d e => by
    match f, e with
    | 0, e => cases e; exact ⟨_, ok_runs_of⟩
    | 1, e => cases e; exact ⟨_, ok_run_from⟩
    | 2, e => cases e; exact ⟨_, ok_turned_faults⟩
    | 3, e => cases e; exact ⟨_, ok_near_cells⟩
    | 4, e => cases e; exact ⟨_, ok_apart_faults⟩
    | 5, e => cases e; exact ⟨_, ok_short_faults⟩
    | 6, e => cases e; exact ⟨_, ok_faults_of⟩
    | 7, e => cases e; exact ⟨_, ok__law_take⟩
    | 8, e => cases e; exact ⟨_, ok__law_letters⟩
    | 9, e => cases e; exact ⟨_, ok__law_cells⟩
    | 10, e => cases e; exact ⟨_, ok__law_words⟩
    | 11, e => cases e; exact ⟨_, ok__law_square⟩
    | 12, e => cases e; exact ⟨_, ok__law_light⟩
    | 13, e => cases e; exact ⟨_, ok__law_runs⟩
    | 14, e => cases e; exact ⟨_, ok__law_apart⟩
    | 15, e => cases e; exact ⟨_, ok__law_faults⟩
    | 16, e => cases e; exact ⟨_, ok_law⟩
    | n + 17, e => cases e
  self := by decide +kernel
  up := by decide +kernel
def names0 : List PySem.Str := ["DARK", "runs_of", "run_from", "turned_faults", "near_cells", "apart_faults", "short_faults", "faults_of", "_law_take", "_law_letters", "_law_cells", "_law_words", "_law_square", "_law_light", "_law_runs", "_law_apart", "_law_faults"]
def names : List PySem.Str := names0
abbrev R : PySem.W.OpenRow := PySem.W.OpenLaw.row PySem.Challenge.rw_crossfill_k05_whole_grids_looked_at
abbrev hk : PySem.W.Hook := He.hookX 5 [] D.defs [] [] (worldB S)
def ob (s : PySem.W.SharedT) : He.AlX := He.obsX 5 [] D.defs [] [] (worldB S) (HandSHeadRun.getT s)
theorem ob_eq (s : PySem.W.SharedT) : ob s = hk.obs s.abs := He.obsX_eq (HandSHeadRun.getT_eq s)
theorem run (w : World) : HandSHeadRun.RunEq R (PySem.W.view R.prog [19]) hk ob 8000 names w := by
  intro os
  kernel_rfl
end T_k05

open PySem PySem.W PySem.Calls PyProof.Rows
theorem T_k05.final (pure : ∀ ns : List Int, ns.length ≤ 63 → ∃ fin, Z.callF T_k05.tab 100 16 [.d (.list (ns.map .int))] = .ok (.d (.bool true)) fin) : PySem.Challenge.rw_crossfill_k05_whole_grids_looked_at.Holds := by
  w_on; o_law
  refine HandSHeadRun.head_any (r := OpenLaw.row PySem.Challenge.rw_crossfill_k05_whole_grids_looked_at) (q := view (OpenLaw.row PySem.Challenge.rw_crossfill_k05_whole_grids_looked_at).prog [19]) (H := T_k05.hk) (ob := T_k05.ob) (M := 8000) (loose := T_k05.names) (d := HandSHeadRun.topDef (OpenLaw.row PySem.Challenge.rw_crossfill_k05_whole_grids_looked_at).prog 19) (kwd := []) T_k05.ob_eq
    (by kernel_rfl) (fun s => by kernel_rfl) T_k05.run (by kernel_rfl) (by kernel_rfl) (by kernel_rfl) (by rfl) (by first | assumption | decide +kernel) (by decide +kernel) ⟨rfl, rfl, rfl, rfl, rfl, by decide +kernel⟩ ?hw ?hc
  case hw => w_witness2
  case hc => exact Z.law_walk (l := PySem.Challenge.rw_crossfill_k05_whole_grids_looked_at) (k := 100) (f := 16) (x := "_law_script") (df := T_k05.d_law) T_k05.datOk rfl (by kernel_rfl) ⟨rfl, by decide, by decide⟩ (by kernel_rfl) rfl rfl rfl pure
theorem PySem.Challenge.cw_crossfill_k05_whole_grids_looked_at_holds : PySem.Challenge.rw_crossfill_k05_whole_grids_looked_at.Holds := by
  exact T_k05.final fun ns _ => T_k05.law_run ns
