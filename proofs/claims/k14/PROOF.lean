import PyProof.Rows.All
import HandS.ForMost
import HandS.Wide
import KE.LtData
import HandS.ForExc
import HandS.TupAny
import HandS.Deep
import HandS.IsInst
import HandS.Steps
import KE.GoesMore
import HandS.Rev
import HandS.ExcOwn
import HandS.Conv
import HandS.Strs
import HandS.Zip
import KE.SortData
import HandS.SortInts
import HandS.Style
import HandS.List
import HandS.Defaults
import HandS.Codes
import HandS.HeadHook4
import HandS.HeadWalk
import HandS.Head0
import HandS.Head1
import HandS.Head2
import HandS.HeadEnd
import PyProof.ExcBaseAll.ValueError
import HandS.RevRange
import HandS.DictComp
import HandS.SetFor
import HandS.Lambda
import HandS.HotCalls
import HandS.ExcIs
import HandS.ExcCtx
import HandS.TupMul
import HandS.RaiseMore
import HandS.Dict
import HandS.Text
import PySem.Challenge.RW_tablediffs_k14_whole_support_judge

set_option linter.all false
set_option autoImplicit false
/-! Z1: the small language, its values, its runs. -/
namespace Z
open PySem

abbrev D := PyData
/-- a value: data that never changes, or a cell -/
inductive Vl where
  | d (x : D)
  | r (n : Nat)
/-- what stands in a cell: a list, a list that is read only from now on, the script, a dict, an instance -/
inductive Ob where
  | lst (xs : List D)
  | fz (xs : List D)
  | ro (xs : List D)
  | dct (kvs : List (List Int × D))
  | dci (kvs : List (Int × D))
  | ins (c : Nat) (fs : List (Str × D))
  | gone
abbrev Hep := List Ob
abbrev Env := List (Option Vl)
inductive R (α : Type) where
  | ok (a : α) (h : Hep)
  | ex (c : Nat) (h : Hep)
  | no
def bnd {α β : Type} (x : R α) (f : α → Hep → R β) : R β := match x with
  | .ok a h => f a h
  | .ex c h => .ex c h
  | .no => .no

inductive Bop where
  | add | sub | mul | fdiv | mod | pow
inductive Cop where
  | eq | ne | lt | le | gt | ge | inn | nin
inductive Ty where
  | int | bool | str | tup | lst
/-- built-in functions on data -/
inductive B where
  | sum | all | any | max | min | max2 | min2 | tup | lst | abs | int | str | sorted | lens
/-- methods of built-in types on data -/
inductive Mt where
  | index | count | split | join
inductive Tg where
  | nm (i : Nat)
  | tp (is : List Nat)

inductive E where
  | var (i : Nat)
  | con (d : D)
  | bin (o : Bop) (a b : E)
  | neg (a : E)
  | not (a : E)
  | and (a b : E)
  | or (a b : E)
  | cmp (o : Cop) (a b : E)
  | chn (o p : Cop) (a b c : E)
  | isN (a : E)
  | isnN (a : E)
  | ite (c a b : E)
  | nil
  | cons (a as : E)
  | tup (as : E)
  | lst (as : E)
  | idx (a i : E)
  | slc (a lo hi : E)
  | rev (a : E)
  | call (f : Nat) (as : E)
  | blt (b : B) (as : E)
  | mth (m : Mt) (a as : E)
  | isi (t : Ty) (a : E)
  | len (a : E)
  | lc (tg : Tg) (it c e : E) (ow : List Nat)
  | lw (tg : Tg) (i : Nat) (c e : E) (ow : List Nat)
  | lsr (a : E)
  | lrv (a : E)
  | rng (a : E)
  | enu (a : E)
  | zip (a b : E)
  | rvs (a : E)
  | itr (a : E)
  | cel (a : E)
  | rvg (a : E)
  | dnw
  | dcm (tg : Tg) (it c k e : E) (ow : List Nat)
  | told (a : E) (nm : List Str)

inductive S where
  | skip
  | seq (s t : S)
  | exp (e : E)
  | asg (i : Nat) (e : E)
  | unp (is : List Nat) (e : E)
  | par (is : List Nat) (as : E)
  | app (i : Nat) (e : E)
  | put (i : Nat) (j e : E)
  | ite (c : E) (s t : S)
  | for_ (tg : Tg) (it : E) (b : S)
  | whl (c : E) (b : S)
  | ret (e : E)
  | rse (c : Nat)
  | forR (i f : Nat) (as : E) (b : S)
  | forD (tg : Tg) (i : Nat) (b : S)

/-! ### operations on data -/
def szOk (n : Nat) : Bool := decide (n ≤ sizeLine)
def intL : List D → Option (List Int)
  | [] => some []
  | .int i :: r => (intL r).map (i :: ·)
  | _ :: _ => none
def boolL : List D → Option (List Bool)
  | [] => some []
  | .bool i :: r => (boolL r).map (i :: ·)
  | _ :: _ => none
def strL : List D → Option (List Str)
  | [] => some []
  | .str i :: r => (strL r).map (i :: ·)
  | _ :: _ => none
def bits (i : Int) : Nat := i.natAbs.log2
def addD : D → D → Option D
  | .int i, .int j => some (.int (i + j))
  | .str x, .str y => if szOk (x.length + y.length) then some (.str (x ++ y)) else none
  | .tuple xs, .tuple ys => if szOk (xs.length + ys.length) then some (.tuple (xs ++ ys)) else none
  | .list xs, .list ys => if szOk (xs.length + ys.length) then some (.list (xs ++ ys)) else none
  | _, _ => none
def subD : D → D → Option D
  | .int i, .int j => some (.int (i - j))
  | _, _ => none
def mulD : D → D → Option D
  | .int i, .int j => if decide (bits i + bits j < 1000000) || decide (i.natAbs < 18446744073709551616) || decide (j.natAbs < 18446744073709551616) then some (.int (i * j)) else none
  | .str x, .int j => if decide (0 ≤ j) && decide (j ≤ 1000) && decide (x.length ≤ 1000) then some (.str (Txt.mul x j)) else none
  | _, _ => none
def fdivD : D → D → Option D
  | .int i, .int j => if decide (0 < j) && decide (bits j < 9000) then some (.int (i / j)) else none
  | _, _ => none
def modD : D → D → Option D
  | .int i, .int j => if decide (0 < j) then some (.int (i % j)) else none
  | _, _ => none
def powD : D → D → Option D
  | .int i, .int j => if decide (0 ≤ j) && decide (j ≤ 1000000) && decide (i.natAbs < 18446744073709551616) then some (.int (i ^ j.toNat)) else none
  | _, _ => none
def binD : Bop → D → D → Option D
  | .add => addD
  | .sub => subD
  | .mul => mulD
  | .fdiv => fdivD
  | .mod => modD
  | .pow => powD
def flat : D → Bool
  | .none => true
  | .bool _ => true
  | .int _ => true
  | .str _ => true
  | _ => false
def shp (d : D) : Bool := SeqAt.shaped d
def eqD (x y : D) : Option Bool := if shp x && shp y then some (PyData.eqv x y) else none
def hasD (x : D) (ys : List D) : Option Bool := if shp x && shp (.list ys) then some (ys.any fun z => PyData.eqv z x) else none
/-- a text of one sign in a text -/
def inS (x y : Str) : Option Bool := match x.cps.toList with
  | [c] => some (decide (c ∈ y.cps.toList))
  | _ => none
def ltI : D → D → Option Bool
  | .int i, .int j => some (decide (i < j))
  | _, _ => none
def leI : D → D → Option Bool
  | .int i, .int j => some (decide (i ≤ j))
  | _, _ => none
def innD : D → D → Option Bool
  | .str x, .str y => inS x y
  | x, .list ys => hasD x ys
  | x, .tuple ys => hasD x ys
  | _, _ => none
def cmpD : Cop → D → D → Option Bool
  | .eq, x, y => eqD x y
  | .ne, x, y => (eqD x y).map not
  | .lt, x, y => ltI x y
  | .le, x, y => leI x y
  | .gt, x, y => ltI y x
  | .ge, x, y => leI y x
  | .inn, x, y => innD x y
  | .nin, x, y => (innD x y).map not
def tyD : Ty → D → Bool
  | .int, .int _ => true
  | .int, .bool _ => true
  | .bool, .bool _ => true
  | .str, .str _ => true
  | .tup, .tuple _ => true
  | .lst, .list _ => true
  | _, _ => false
def cut {α : Type} (xs : List α) (lo hi : Option Int) : List α := (xs.drop (HT.sIx xs.length 0 lo)).take (HT.sIx xs.length xs.length hi - HT.sIx xs.length 0 lo)
def idxD : D → Int → Option D
  | .list xs, i => L2.atI xs i
  | .tuple xs, i => L2.atI xs i
  | .str x, i => if szOk x.length then (L2.atI x.cps.toList i).map fun c => .str ⟨#[c]⟩ else none
  | _, _ => none
def slcD : D → Option Int → Option Int → Option D
  | .list xs, lo, hi => some (.list (cut xs lo hi))
  | .tuple xs, lo, hi => some (.tuple (cut xs lo hi))
  | .str x, lo, hi => if szOk x.length then some (.str ⟨(cut x.cps.toList lo hi).toArray⟩) else none
  | _, _, _ => none
def revD : D → Option D
  | .list xs => some (.list xs.reverse)
  | .tuple xs => some (.tuple xs.reverse)
  | _ => none
def maxI : Int → List Int → Int
  | m, [] => m
  | m, x :: r => maxI (if x > m then x else m) r
def minI : Int → List Int → Int
  | m, [] => m
  | m, x :: r => minI (if x < m then x else m) r
def noneB : D → Bool
  | .none => true
  | _ => false
/-- what is sorted here: data that are alike, place by place -/
def srtOk (xs : List D) : Bool := xs.all fun x => xs.all (fun y => PySem.W.alike x y) && decide (x.depth ≤ 50) && !noneB x
def sortD (xs : List D) : List D := xs.mergeSort fun a b => !PySem.W.dataLt b a
/-- each item once, in the order of the first -/
def ded {α : Type} [BEq α] (xs : List α) : List α := xs.foldl (fun a x => if a.any (· == x) then a else a ++ [x]) []
def lenD : D → Option D
  | .list xs => some (.int xs.length)
  | .tuple xs => some (.int xs.length)
  | .str x => if szOk x.length then some (.int x.length) else none
  | _ => none
def bSum : List D → Option D
  | [.list xs] => (intL xs).map fun ns => .int ns.sum
  | _ => none
def bAll : List D → Option D
  | [.list xs] => (boolL xs).map fun bs => .bool (bs.all id)
  | _ => none
def bAny : List D → Option D
  | [.list xs] => (boolL xs).map fun bs => .bool (bs.any id)
  | _ => none
def bMax : List D → Option D
  | [.list xs] => match intL xs with
    | some (n :: r) => some (.int (maxI n r))
    | _ => none
  | [.tuple xs] => match intL xs with
    | some (n :: r) => some (.int (maxI n r))
    | _ => none
  | _ => none
def bMin : List D → Option D
  | [.list xs] => match intL xs with
    | some (n :: r) => some (.int (minI n r))
    | _ => none
  | [.tuple xs] => match intL xs with
    | some (n :: r) => some (.int (minI n r))
    | _ => none
  | _ => none
def bMax2 : List D → Option D
  | [.int i, .int j] => some (.int (if j > i then j else i))
  | _ => none
def bMin2 : List D → Option D
  | [.int i, .int j] => some (.int (if j < i then j else i))
  | _ => none
def bTup : List D → Option D
  | [.list xs] => some (.tuple xs)
  | [.tuple xs] => some (.tuple xs)
  | _ => none
def bLst : List D → Option D
  | [.list xs] => some (.list xs)
  | [.tuple xs] => some (.list xs)
  | _ => none
def bAbs : List D → Option D
  | [.int i] => some (.int (if i < 0 then -i else i))
  | _ => none
def bInt : List D → Option D
  | [.int i] => some (.int i)
  | [.bool b] => some (.int (if b then 1 else 0))
  | _ => none
def bSorted : List D → Option D
  | [.list xs] => if srtOk xs then some (.list (sortD xs)) else none
  | _ => none
def bLens : List D → Option D
  | [.list xs] => match intL xs with
    | some ns => if decide (ns.length ≤ 4000) then some (.int (ded ns).length) else none
    | none => none
  | [.tuple xs] => match strL xs with
    | some ws => if decide (ws.length ≤ 4000) then some (.int (ded ws).length) else none
    | none => none
  | _ => none
def bltD : B → List D → Option D
  | .sum => bSum
  | .all => bAll
  | .any => bAny
  | .max => bMax
  | .min => bMin
  | .max2 => bMax2
  | .min2 => bMin2
  | .tup => bTup
  | .lst => bLst
  | .abs => bAbs
  | .int => bInt
  | .str => fun _ => none
  | .sorted => bSorted
  | .lens => bLens
def mIndex : D → List D → Option D
  | .list xs, [x] => if shp x && shp (.list xs) then (xs.findIdx? fun y => PyData.eqv y x).map fun n => .int (n : Nat) else none
  | _, _ => none
def mCount : D → List D → Option D
  | .list xs, [.str z] => match strL xs with
    | some ys => some (.int ((ys.filter fun y => decide (y = z)).length : Nat))
    | none => none
  | .str a, [.str b] => some (.int (Txt.count a b))
  | _, _ => none
def mSplit : D → List D → Option D
  | .str a, [.str b] => if !(b.length == 0) && decide (a.length + 2 ≤ sizeLine) then some (.list ((Txt.split a b).map .str)) else none
  | _, _ => none
def joinS (a : Str) (xs : List D) : Option D := match strL xs with
  | some ys => if decide ((ys.map (·.length)).sum + ys.length * a.length ≤ 16777216) then some (.str (Txt.join a ys)) else none
  | none => none
def mJoin : D → List D → Option D
  | .str a, [.list xs] => joinS a xs
  | .str a, [.tuple xs] => joinS a xs
  | _, _ => none
/-- what a method is for -/
def mTy : Mt → D → Bool
  | .index, .list _ => true
  | .count, .list _ => true
  | .count, .str _ => true
  | .split, .str _ => true
  | .join, .str _ => true
  | _, _ => false
def mthD : Mt → D → List D → Option D
  | .index => mIndex
  | .count => mCount
  | .split => mSplit
  | .join => mJoin
/-! ### dicts -/
def putL {κ : Type} [DecidableEq κ] (kvs : List (κ × D)) (k : κ) (v : D) : List (κ × D) :=
  if (kvs.any fun kv => decide (kv.1 = k)) = true then kvs.map (fun kv => if kv.1 = k then (kv.1, v) else kv) else kvs ++ [(k, v)]
def valL {κ : Type} [DecidableEq κ] (kvs : List (κ × D)) (k : κ) : Option D := (kvs.find? fun kv => decide (kv.1 = k)).map (·.2)
def keyD (ks : List Int) : D := .tuple (ks.map .int)
/-- pairs of a number and a value, put one after the other -/
def putAll : List D → List (Int × D) → Option (List (Int × D))
  | [], kvs => some kvs
  | .tuple [.int i, y] :: r, kvs => putAll r (putL kvs i y)
  | _ :: _, _ => none

/-! ### values and cells -/
/-- the data behind a value, read only: d, or the list in a cell -/
def peek (h : Hep) : Vl → Option D
  | .d x => some x
  | .r n => match h[n]? with
    | some (.lst xs) => some (.list xs)
    | some (.fz xs) => some (.list xs)
    | _ => none
/-- .. the script, too -/
def peekR (h : Hep) : Vl → Option D
  | .d x => some x
  | .r n => match h[n]? with
    | some (.lst xs) => some (.list xs)
    | some (.fz xs) => some (.list xs)
    | some (.ro xs) => some (.list xs)
    | _ => none
/-- .. to be kept: a list in a cell changes no more -/
def keep (h : Hep) : Vl → Option (D × Hep)
  | .d x => some (x, h)
  | .r n => match h[n]? with
    | some (.lst xs) => some (.list xs, h.set n (.fz xs))
    | some (.fz xs) => some (.list xs, h)
    | _ => none
def kept {α : Type} (v : Vl) (h : Hep) (f : D → Hep → R α) : R α := match keep h v with
  | some (x, h') => f x h'
  | none => .no
def keepAll (h : Hep) : List Vl → Option (List D × Hep)
  | [] => some ([], h)
  | v :: r => match keep h v with
    | some (x, h1) => match keepAll h1 r with
      | some (xs, h2) => some (x :: xs, h2)
      | none => none
    | none => none
def peekAll (h : Hep) : List Vl → Option (List D)
  | [] => some []
  | v :: r => match peek h v, peekAll h r with
    | some x, some xs => some (x :: xs)
    | _, _ => none
def opt {α : Type} (h : Hep) : Option α → R α
  | some a => .ok a h
  | none => .no
def op1 (f : D → Option D) (v : Vl) (h : Hep) : R Vl := match peek h v with
  | some x => opt h ((f x).map .d)
  | none => .no
def op2 (f : D → D → Option D) (v u : Vl) (h : Hep) : R Vl := match peek h v, peek h u with
  | some x, some y => opt h ((f x y).map .d)
  | _, _ => .no
def op1R (f : D → Option D) (v : Vl) (h : Hep) : R Vl := match peekR h v with
  | some x => opt h ((f x).map .d)
  | none => .no
def op2R (f : D → D → Option D) (v u : Vl) (h : Hep) : R Vl := match peekR h v, peekR h u with
  | some x, some y => opt h ((f x y).map .d)
  | _, _ => .no
def wipe (s : Env) : List Nat → Env
  | [] => s
  | v :: vs => (wipe s vs).set v none
def setAll (s : Env) : List Nat → List D → Option Env
  | [], [] => some s
  | i :: is, x :: xs => setAll (s.set i (some (.d x))) is xs
  | _, _ => none
def setTg (s : Env) (x : D) : Tg → Option Env
  | .nm i => some (s.set i (some (.d x)))
  | .tp is => match x with
    | .tuple xs => setAll s is xs
    | _ => none
/-- the items that a loop walks -/
def items : D → Option (List D)
  | .list xs => some xs
  | .tuple xs => some xs
  | .str x => some (x.cps.toList.map fun c => .str ⟨#[c]⟩)
  | _ => none
/-- .. lists and tuples alone -/
def items' : D → Option (List D)
  | .list xs => some xs
  | .tuple xs => some xs
  | _ => none
def rangeD (n : Int) : List D := (List.range n.toNat).map fun i => .int (i : Nat)
def enumD (xs : List D) : List D := xs.zipIdx.map fun p => .tuple [.int (p.2 : Nat), p.1]
def zipD (xs ys : List D) : List D := (xs.zip ys).map fun p => .tuple [p.1, p.2]
def lsrV (v : Vl) (h : Hep) : R Vl := match v with
  | .d (.int n) => if decide (0 ≤ n) && decide (n ≤ 16777216) then .ok (.d (.list (rangeD n))) h else .no
  | _ => .no
/-- list(reversed(t)) -/
def lrvV (v : Vl) (h : Hep) : R Vl := match v with
  | .d (.tuple xs) => .ok (.d (.list xs.reverse)) h
  | _ => .no
def isNoneV : Vl → Bool
  | .d .none => true
  | _ => false
def tupV (vs : List Vl) (h : Hep) : R Vl := match keepAll h vs with
  | some (xs, h2) => if szOk vs.length then .ok (.d (.tuple xs)) h2 else .no
  | none => .no
def lstV (vs : List Vl) (h : Hep) : R Vl := match keepAll h vs with
  | some (xs, h2) => if szOk vs.length then .ok (.d (.list xs)) h2 else .no
  | none => .no
/-- a comprehension's turns -/
def compL (f : D → Hep → R (Option D)) : List D → Hep → R (List D)
  | [], h => .ok [] h
  | x :: r, h => bnd (f x h) fun o h1 => bnd (compL f r h1) fun ys h2 => .ok (match o with
    | some y => y :: ys
    | none => ys) h2

/-- .. over a list that may change: its item at the turn's place, as it stands then -/
def compW (n : Nat) (f : D → Hep → R (Option D)) : Nat → Nat → Hep → R (List D)
  | 0, _, _ => .no
  | k + 1, i, h => match h[n]? with
    | some (.lst xs) => match xs[i]? with
      | some x => bnd (f x h) fun o h1 => bnd (compW n f k (i + 1) h1) fun ys h2 => .ok (match o with
        | some y => y :: ys
        | none => ys) h2
      | none => .ok [] h
    | _ => .no
/-- a comprehension's turn: nothing may be raised in it -/
def lcStep (rc re : Env → Hep → R Vl) (tg : Tg) (s : Env) (x : D) (h : Hep) : R (Option D) := match setTg s x tg with
  | some s' => match rc s' h with
    | .ok (.d (.bool true)) h2 => match re s' h2 with
      | .ok y h3 => kept y h3 fun y h4 => .ok (some y) h4
      | _ => .no
    | .ok (.d (.bool false)) h2 => .ok none h2
    | _ => .no
  | none => .no
/-- what a dict's cell has at a key -/
def dctGet (h : Hep) (k : D) : Vl → Option (Option D)
  | .r n => match h[n]? with
    | some (.dct kvs) => (match k with
      | .tuple ks => (intL ks).map fun ks => valL kvs ks
      | _ => none)
    | some (.dci kvs) => (match k with
      | .int i => some (valL kvs i)
      | _ => none)
    | _ => none
  | .d _ => none
def getV (h : Hep) (j : Int) (x : Vl) : R Vl := match dctGet h (.int j) x with
  | some (some v) => .ok (.d v) h
  | _ => .no
def idxV (x y : Vl) (h : Hep) : R Vl := match y with
  | .d (.int j) => match peekR h x with
    | some x => opt h ((idxD x j).map .d)
    | none => getV h j x
  | _ => .no
def isB (h : Hep) (k : Vl) (y : Vl) : R Vl := match k with
  | .d k => match dctGet h k y with
    | some r => .ok (.d (.bool r.isSome)) h
    | none => .no
  | _ => .no
/-- a comparison; `in` a dict -/
def cmpV (o : Cop) (x y : Vl) (h : Hep) : R Vl := match o with
  | .inn => (match peekR h y with
    | some _ => op2R (fun x y => (cmpD .inn x y).map .bool) x y h
    | none => isB h x y)
  | .eq => op2R (fun x y => (cmpD .eq x y).map .bool) x y h
  | .ne => op2R (fun x y => (cmpD .ne x y).map .bool) x y h
  | .lt => op2R (fun x y => (cmpD .lt x y).map .bool) x y h
  | .le => op2R (fun x y => (cmpD .le x y).map .bool) x y h
  | .gt => op2R (fun x y => (cmpD .gt x y).map .bool) x y h
  | .ge => op2R (fun x y => (cmpD .ge x y).map .bool) x y h
  | .nin => op2R (fun x y => (cmpD .nin x y).map .bool) x y h
/-- list(d) -/
def keysV (h : Hep) (b : B) (vs : List Vl) : R Vl := match b, vs with
  | .lst, [.r n] => (match h[n]? with
    | some (.dct kvs) => .ok (.d (.list (kvs.map fun p => keyD p.1))) h
    | _ => .no)
  | _, _ => .no
def bltV (b : B) (vs : List Vl) (h : Hep) : R Vl := match peekAll h vs with
  | some xs => opt h ((bltD b xs).map .d)
  | none => keysV h b vs
def mthV (m : Mt) (x : D) (vs : List Vl) (h : Hep) : R Vl := match peekAll h vs with
  | some xs => opt h ((mthD m x xs).map .d)
  | none => .no
/-- a dict comprehension's turn -/
def dcStep (rc rk re : Env → Hep → R Vl) (tg : Tg) (s : Env) (x : D) (h : Hep) : R (Option D) := match setTg s x tg with
  | some s' => match rc s' h with
    | .ok (.d (.bool true)) h2 => match rk s' h2 with
      | .ok (.d (.int i)) h3 => match re s' h3 with
        | .ok y h4 => kept y h4 fun y h5 => .ok (some (.tuple [.int i, y])) h5
        | _ => .no
      | _ => .no
    | .ok (.d (.bool false)) h2 => .ok none h2
    | _ => .no
  | none => .no
def asInt (r : R Vl) : R (Option Int) := bnd r fun v h => match v with
  | .d (.int i) => .ok (some i) h
  | _ => .no
def isNil : E → Bool
  | .nil => true
  | _ => false
/-- a new list's cell -/
def celV (v : Vl) (h : Hep) : R Vl := match v with
  | .d (.list xs) => .ok (.r h.length) (h ++ [.lst xs])
  | _ => .no
structure Cfg where
  call : Nat → List Vl → Hep → R Vl
  wf : Nat

mutual
def ev (C : Cfg) : E → Env → Hep → R Vl
  | .var i, s, h => match s[i]? with
    | some (some v) => .ok v h
    | _ => .no
  | .con d, _, h => .ok (.d d) h
  | .bin o a b, s, h => bnd (ev C a s h) fun x h1 => bnd (ev C b s h1) fun y h2 => op2 (binD o) x y h2
  | .neg a, s, h => bnd (ev C a s h) fun x h1 => match x with
    | .d (.int i) => .ok (.d (.int (-i))) h1
    | _ => .no
  | .not a, s, h => bnd (ev C a s h) fun x h1 => match x with
    | .d (.bool b) => .ok (.d (.bool (!b))) h1
    | _ => .no
  | .and a b, s, h => bnd (ev C a s h) fun x h1 => match x with
    | .d (.bool true) => ev C b s h1
    | .d (.bool false) => .ok (.d (.bool false)) h1
    | _ => .no
  | .or a b, s, h => bnd (ev C a s h) fun x h1 => match x with
    | .d (.bool true) => .ok (.d (.bool true)) h1
    | .d (.bool false) => ev C b s h1
    | _ => .no
  | .cmp o a b, s, h => bnd (ev C a s h) fun x h1 => bnd (ev C b s h1) fun y h2 => cmpV o x y h2
  | .chn o p a b c, s, h => bnd (ev C a s h) fun x h1 => bnd (ev C b s h1) fun y h2 => bnd (op2R (fun x y => (cmpD o x y).map .bool) x y h2) fun z h3 => match z with
    | .d (.bool true) => bnd (ev C c s h3) fun w h4 => op2R (fun x y => (cmpD p x y).map .bool) y w h4
    | .d (.bool false) => .ok (.d (.bool false)) h3
    | _ => .no
  | .isN a, s, h => bnd (ev C a s h) fun x h1 => .ok (.d (.bool (isNoneV x))) h1
  | .isnN a, s, h => bnd (ev C a s h) fun x h1 => .ok (.d (.bool (!isNoneV x))) h1
  | .ite c a b, s, h => bnd (ev C c s h) fun x h1 => match x with
    | .d (.bool true) => ev C a s h1
    | .d (.bool false) => ev C b s h1
    | _ => .no
  | .tup as, s, h => bnd (evs C as s h) fun vs h1 => tupV vs h1
  | .lst as, s, h => bnd (evs C as s h) fun vs h1 => lstV vs h1
  | .idx a i, s, h => bnd (ev C a s h) fun x h1 => bnd (ev C i s h1) fun y h2 => idxV x y h2
  | .slc a lo hi, s, h => bnd (ev C a s h) fun x h1 => bnd (if isNil lo then .ok none h1 else asInt (ev C lo s h1)) fun l h2 => bnd (if isNil hi then .ok none h2 else asInt (ev C hi s h2)) fun u h3 => op1 (fun x => slcD x l u) x h3
  | .rev a, s, h => bnd (ev C a s h) fun x h1 => op1 revD x h1
  | .call f as, s, h => bnd (evs C as s h) fun vs h1 => C.call f vs h1
  | .blt b as, s, h => bnd (evs C as s h) fun vs h1 => bltV b vs h1
  | .mth m a as, s, h => bnd (ev C a s h) fun x h1 => match x with
    | .d x => if mTy m x then bnd (evs C as s h1) fun vs h2 => mthV m x vs h2 else .no
    | _ => .no
  | .len a, s, h => bnd (ev C a s h) fun x h1 => op1R lenD x h1
  | .isi t a, s, h => bnd (ev C a s h) fun x h1 => op1 (fun x => some (.bool (tyD t x))) x h1
  | .lc tg it c e ow, s, h => bnd (evi C it s h) fun xs h1 => if szOk xs.length then bnd (compL (lcStep (ev C c) (ev C e) tg (wipe s ow)) xs h1) fun ys h2 => .ok (.d (.list ys)) h2 else .no
  | .lw tg i c e ow, s, h => match s[i]? with
    | some (some (.r n)) => match h[n]? with
      | some (.lst xs) => if decide (xs.length < sizeLine) then bnd (compW n (lcStep (ev C c) (ev C e) tg (wipe s ow)) (xs.length + 1) 0 h) fun ys h2 => .ok (.d (.list ys)) h2 else .no
      | _ => .no
    | _ => .no
  | .lsr a, s, h => bnd (ev C a s h) fun v h1 => lsrV v h1
  | .lrv a, s, h => bnd (ev C a s h) fun v h1 => lrvV v h1
  | .cel a, s, h => bnd (ev C a s h) fun v h1 => celV v h1
  | .dnw, _, h => .ok (.r h.length) (h ++ [.dct []])
  | .dcm tg it c k e ow, s, h => bnd (evi C it s h) fun xs h1 => if szOk xs.length then bnd (compL (dcStep (ev C c) (ev C k) (ev C e) tg (wipe s ow)) xs h1) fun ys h2 => match putAll ys [] with
      | some kvs => .ok (.r h2.length) (h2 ++ [.dci kvs])
      | none => .no
    else .no
  | .told a nm, s, h => match ev C a s h with
    | .ok v h1 => .ok v h1
    | .ex c h1 => match nm[c]? with
      | some x => .ok (.d (.tuple [.str "error", .str x])) h1
      | none => .no
    | .no => .no
  | _, _, _ => .no
def evs (C : Cfg) : E → Env → Hep → R (List Vl)
  | .nil, _, h => .ok [] h
  | .cons a as, s, h => bnd (ev C a s h) fun v h1 => bnd (evs C as s h1) fun vs h2 => .ok (v :: vs) h2
  | _, _, _ => .no
def evi (C : Cfg) : E → Env → Hep → R (List D)
  | .rng a, s, h => bnd (ev C a s h) fun v h1 => match v with
    | .d (.int n) => if decide (-4611686018427387904 ≤ n) && decide (n < 4611686018427387904) then .ok (rangeD n) h1 else .no
    | _ => .no
  | .enu a, s, h => bnd (ev C a s h) fun v h1 => kept v h1 fun x h2 => opt h2 ((items' x).map enumD)
  | .zip a b, s, h => bnd (ev C a s h) fun v h1 => bnd (ev C b s h1) fun u h2 => kept v h2 fun x h3 => kept u h3 fun y h4 => match items x, items y with
    | some xs, some ys => .ok (zipD xs ys) h4
    | _, _ => .no
  | .rvs a, s, h => bnd (ev C a s h) fun v h1 => kept v h1 fun x h2 => opt h2 ((items' x).map List.reverse)
  | .rvg a, s, h => bnd (ev C a s h) fun v h1 => match v with
    | .d (.int n) => if decide (-4611686018427387904 ≤ n) && decide (n < 4611686018427387904) then .ok (rangeD n).reverse h1 else .no
    | _ => .no
  | .itr a, s, h => bnd (ev C a s h) fun v h1 => kept v h1 fun x h2 => opt h2 (items x)
  | _, _, _ => .no
end

/-! ### statements -/
inductive RS where
  | nx (s : Env) (h : Hep)
  | rt (v : Vl) (h : Hep)
  | ex (c : Nat) (h : Hep)
  | no
def rb {α : Type} (x : R α) (f : α → Hep → RS) : RS := match x with
  | .ok a h => f a h
  | .ex c h => .ex c h
  | .no => .no
def sb (x : RS) (f : Env → Hep → RS) : RS := match x with
  | .nx s h => f s h
  | .rt v h => .rt v h
  | .ex c h => .ex c h
  | .no => .no
def forL (tg : Tg) (body : Env → Hep → RS) : List D → Env → Hep → RS
  | [], s, h => .nx s h
  | x :: r, s, h => match setTg s x tg with
    | some s' => sb (body s' h) fun s1 h1 => forL tg body r s1 h1
    | none => .no
def forC (i : Nat) (body : Env → Hep → RS) (n : Nat) : Nat → Env → Hep → RS
  | 0, s, h => .nx s h
  | k + 1, s, h => sb (body (s.set i (some (.r n))) h) fun s1 h1 => forC i body (n + 1) k s1 h1
def whlL (c : Env → Hep → R Vl) (body : Env → Hep → RS) : Nat → Env → Hep → RS
  | 0, _, _ => .no
  | n + 1, s, h => rb (c s h) fun v h1 => match v with
    | .d (.bool true) => sb (body s h1) fun s2 h2 => whlL c body n s2 h2
    | .d (.bool false) => .nx s h1
    | _ => .no
/-- names given values at once -/
def parS : List Nat → List Vl → Env → Hep → RS
  | [], [], s, h => .nx s h
  | i :: is, v :: vs, s, h => parS is vs (s.set i (some v)) h
  | _, _, _, _ => .no
def rowsL : List D → Option (List (List D))
  | [] => some []
  | .list xs :: r => (rowsL r).map (xs :: ·)
  | _ :: _ => none
def exec (C : Cfg) : S → Env → Hep → RS
  | .skip, s, h => .nx s h
  | .seq a b, s, h => sb (exec C a s h) fun s1 h1 => exec C b s1 h1
  | .exp e, s, h => rb (ev C e s h) fun _ h1 => .nx s h1
  | .asg i e, s, h => rb (ev C e s h) fun v h1 => .nx (s.set i (some v)) h1
  | .unp is e, s, h => rb (ev C e s h) fun v h1 => match v with
    | .d (.tuple xs) => match setAll s is xs with
      | some s' => .nx s' h1
      | none => .no
    | _ => .no
  | .par is as, s, h => rb (evs C as s h) fun vs h1 => parS is vs s h1
  | .app i e, s, h => match s[i]? with
    | some (some (.r n)) => match h[n]? with
      | some (.lst _) => rb (ev C e s h) fun v h1 => match keep h1 v with
        | some (x, h2) => match h2[n]? with
          | some (.lst xs) => if decide (xs.length < sizeLine) then .nx s (h2.set n (.lst (xs ++ [x]))) else .no
          | _ => .no
        | none => .no
      | _ => .no
    | _ => .no
  | .put i j e, s, h => rb (ev C e s h) fun v h1 => match keep h1 v, s[i]? with
    | some (x, h2), some (some (.r n)) => rb (ev C j s h2) fun k h3 => match k with
      | .d (.int k) => match h3[n]? with
        | some (.lst xs) => match L2.ixN xs.length k with
          | some m => .nx s (h3.set n (.lst (xs.set m x)))
          | none => .no
        | _ => .no
      | .d (.tuple ks) => match h3[n]? with
        | some (.dct kvs) => match intL ks with
          | some ks => if decide (kvs.length < sizeLine) then .nx s (h3.set n (.dct (putL kvs ks x))) else .no
          | none => .no
        | _ => .no
      | _ => .no
    | _, _ => .no
  | .ite c a b, s, h => rb (ev C c s h) fun v h1 => match v with
    | .d (.bool true) => exec C a s h1
    | .d (.bool false) => exec C b s h1
    | _ => .no
  | .for_ tg it b, s, h => rb (evi C it s h) fun xs h1 => forL tg (exec C b) xs s h1
  | .whl c b, s, h => whlL (ev C c) (exec C b) C.wf s h
  | .ret e, s, h => rb (ev C e s h) fun v h1 => .rt v h1
  | .rse c, _, h => .ex c h
  | .forD tg i b, s, h => match s[i]? with
    | some (some (.r n)) => match h[n]? with
      | some (.dct kvs) => match forL tg (exec C b) (kvs.map fun p => keyD p.1) s (h.set n .gone) with
        | .nx s' h' => (match h'[n]? with
          | some .gone => .nx s' (h'.set n (.dct kvs))
          | _ => .no)
        | _ => .no
      | _ => .no
    | _ => .no
  | .forR i f as b, s, h => rb (bnd (evs C as s h) fun vs h1 => C.call f vs h1) fun v h1 => match v with
    | .d (.list rows) => match rowsL rows with
      | some ls => forC i (exec C b) h1.length ls.length s (h1 ++ ls.map .lst)
      | none => .no
    | _ => .no

/-! ### defs -/
structure Dfn where
  ps : Nat
  ns : Nat
  body : S
/-- behind a def: the cells that it made are gone; a list that it hands back is data from now on; a dict or an instance that it hands back stays -/
def fin (z : Nat) (v : Vl) (h : Hep) : R Vl := match v with
  | .d x => .ok (.d x) (h.take z)
  | .r n => if n < z then .ok (.r n) (h.take z) else match h[n]? with
    | some (.lst xs) => .ok (.d (.list xs)) (h.take z)
    | some (.fz xs) => .ok (.d (.list xs)) (h.take z)
    | some (.ro _) => .no
    | some .gone => .no
    | some (.dct kvs) => .ok (.r (h.take z).length) (h.take z ++ [.dct kvs])
    | some (.dci kvs) => .ok (.r (h.take z).length) (h.take z ++ [.dci kvs])
    | some (.ins c fs) => .ok (.r (h.take z).length) (h.take z ++ [.ins c fs])
    | none => .no
def run (C : Cfg) (d : Dfn) (vs : List Vl) (h : Hep) : R Vl := if vs.length = d.ps then match exec C d.body (vs.map some ++ List.replicate (d.ns - d.ps) none) h with
    | .nx _ h' => fin h.length (.d .none) h'
    | .rt v h' => fin h.length v h'
    | .ex c h' => .ex c (h'.take h.length)
    | .no => .no
  else .no
def call (T : List Dfn) (wf : Nat) : Nat → Nat → List Vl → Hep → R Vl
  | 0, _, _, _ => .no
  | k + 1, f, vs, h => match T[f]? with
    | some d => run ⟨call T wf k, wf⟩ d vs h
    | none => .no
end Z

set_option linter.all false
set_option autoImplicit false
/-! Z2: from the program's own text to the small language. -/
namespace Z
open PySem
structure Tab where
  fre : List Str
  fns : List Str
  excs : List Str
  glb : List (Str × D)
  mt : List Nat := []
def slot (N : List Str) (x : Str) : Option Nat := N.findIdx? fun y => decide (y = x)
def visB (sc : Scope) (x : Str) : Bool := match sc.names.lookup x with
  | some .local => true
  | some .cell => true
  | some .free => true
  | _ => false
def globB (sc : Scope) (x : Str) : Bool := match sc.names.lookup x with
  | some .globalImplicit => true
  | _ => false
/-- f() -/
def call0 : Expr → Bool
  | .Call (.Name _ _) [] [] _ => true
  | _ => false
/-- a built-in's name that nobody has taken -/
def bltB (T : Tab) (sc : Scope) (x : Str) : Bool := globB sc x && T.fre.contains x
def okName (x : Str) : Bool := !(x == ("__debug__" : Str)) && !(x == ("__classdict__" : Str))
def starB : Expr → Bool
  | .Starred _ _ => true
  | _ => false
def locB (sc : Scope) (x : Str) : Bool := match sc.names.lookup x with
  | some .local => true
  | some .cell => true
  | _ => false
def onlyLoc (sc : Scope) (x : Str) : Bool := match sc.names.lookup x with
  | some .local => true
  | _ => false
def trBop : Operator → Option Bop
  | .Add => some .add
  | .Sub => some .sub
  | .Mult => some .mul
  | .FloorDiv => some .fdiv
  | .Mod => some .mod
  | .Pow => some .pow
  | _ => none
def trCop : CmpOp → Option Cop
  | .Eq => some .eq
  | .NotEq => some .ne
  | .Lt => some .lt
  | .LtE => some .le
  | .Gt => some .gt
  | .GtE => some .ge
  | .In => some .inn
  | .NotIn => some .nin
  | _ => none
def trTy (x : Str) : Option Ty :=
  if x = "int" then some .int else if x = "bool" then some .bool else if x = "str" then some .str else if x = "tuple" then some .tup else if x = "list" then some .lst else none
/-- a built-in of so many arguments -/
def trB (x : Str) (n : Nat) : Option B :=
 if x = "sum" then some .sum else if x = "all" then some .all else if x = "any" then some .any
  else if x = "max" then (if n = 1 then some .max else some .max2) else if x = "min" then (if n = 1 then some .min else some .min2)
  else if x = "tuple" then some .tup else if x = "abs" then some .abs else if x = "int" then some .int else if x = "str" then some .str else if x = "sorted" then some .sorted else none
def trM (x : Str) : Option Mt :=
  if x = "index" then some .index else if x = "count" then some .count else if x = "split" then some .split else if x = "join" then some .join else none
/-- are there tuples among the module's constants? -/
def tupC (T : Tab) : Bool := T.glb.any fun p => match p.2 with
  | .tuple _ => true
  | _ => false
def isSet (T : Tab) (sc : Scope) : Expr → Option Expr
  | .Call (.Name x _) [a] [] _ => if x = "set" && bltB T sc x && !starB a then some a else none
  | _ => none
def isRange (T : Tab) (sc : Scope) : Expr → Option Expr
  | .Call (.Name x _) [a] [] _ => if x = "range" && bltB T sc x && !starB a then some a else none
  | _ => none
def isRevd (T : Tab) (sc : Scope) : Expr → Option Expr
  | .Call (.Name x _) [a] [] _ => if x = "reversed" && bltB T sc x && !starB a then some a else none
  | _ => none
/-- the law's rounds: each has dice of its own -/
def isRounds (T : Tab) (sc : Scope) : Expr → Option (Nat × List Expr)
  | .Call (.Name x _) [a, b] [] _ => if x = "_law_rounds" && globB sc x then (T.fns.findIdx? fun y => decide (y = x)).map fun f => (f, [a, b]) else none
  | _ => none
def mkOp : BoolOp → E → E → E
  | .And => .and
  | .Or => .or
def isCnst : Const → Option D
  | .int i => some (.int i)
  | .bool b => some (.bool b)
  | .none => some .none
  | .str x => some (.str x)
  | _ => none
/-- the slots of a tuple of names -/
def trNames (N : List Str) (sc : Scope) (fn : Str → Bool) : List Expr → Option (List Nat)
  | [] => some []
  | .Name x _ :: r => match slot N x, trNames N sc fn r with
    | some i, some is => if locB sc x && fn x && !is.contains i then some (i :: is) else none
    | _, _ => none
  | _ :: _ => none
def trTg (N : List Str) (sc : Scope) (fn : Str → Bool) : Expr → Option Tg
  | .Name x _ => match slot N x with
    | some i => if locB sc x && fn x then some (.nm i) else none
    | none => none
  | .Tuple es _ _ => (trNames N sc fn es).map .tp
  | _ => none
def isIf : Expr → Bool
  | .IfExp _ _ _ _ => true
  | _ => false
def tgIn (ow : List Nat) : Tg → Bool
  | .nm i => ow.contains i
  | .tp is => is.all ow.contains
def isTp : Tg → Bool
  | .tp _ => true
  | _ => false
/-- a walk that makes pairs wants a tuple of names -/
def okIt : E → Tg → Bool
  | .enu _, tg => isTp tg
  | .zip _ _, tg => isTp tg
  | _, _ => true
/-- a comprehension's own names, with their slots -/
def ownOf (N : List Str) (scope : Scope) : List (Str × Nat) := scope.names.filterMap fun y => match y.2 with
  | .local => (slot N y.1).map fun i => (y.1, i)
  | .cell => (slot N y.1).map fun i => (y.1, i)
  | _ => none
/-- where a name may be stored in a block -/
def fnB (scope sc : Scope) (x : Str) : Bool := (scope.names.lookup x == some .cell) || onlyLoc sc x
/-- a name whose list is changed in the def -/
def isMut (T : Tab) (N : List Str) (sc : Scope) : Expr → Option Nat
  | .Name x _ => if visB sc x && okName x then (match slot N x with
    | some i => if T.mt.contains (2000 + i) then some i else none
    | none => none) else none
  | _ => none
variable (T : Tab) (N : List Str)
mutual
def trE : Nat → Scope → Expr → Option E
  | 0, _, _ => none
  | n + 1, sc, e => match e with
    | .Name x _ => if visB sc x then (if okName x then (slot N x).map .var else none) else if globB sc x then (T.glb.lookup x).map .con else none
    | .Constant c _ _ => (isCnst c).map .con
    | .BinOp a op b _ => match trBop op, trE n sc a, trE n sc b with
      | some o, some a, some b => some (.bin o a b)
      | _, _, _ => none
    | .UnaryOp .USub a _ => (trE n sc a).map .neg
    | .UnaryOp .Not a _ => if isIf a then none else (trE n sc a).map .not
    | .BoolOp op vs _ => trL n sc op vs
    | .Compare a [.Is] [.Constant .none _ _] _ => (trE n sc a).map .isN
    | .Compare a [.IsNot] [.Constant .none _ _] _ => (trE n sc a).map .isnN
    | .Compare a [op] [b] _ => match trCop op, trE n sc a, trE n sc b with
      | some o, some a, some b' => if behindInMarks op b then none else some (.cmp o a b')
      | _, _, _ => none
    | .Compare a [op, op'] [b, c] _ => match trCop op, trCop op', trE n sc a, trE n sc b, trE n sc c with
      | some o, some o', some a, some b', some c' => if behindInMarks op b || behindInMarks op' c then none else some (.chn o o' a b' c')
      | _, _, _, _, _ => none
    | .IfExp c a b _ => if isIf c then none else match trE n sc c, trE n sc a, trE n sc b with
      | some c, some a, some b => some (.ite c a b)
      | _, _, _ => none
    | .Tuple es _ _ => (trA n sc es).map .tup
    | .List es _ => (trA n sc es).map .lst
    | .Subscript a (.Slice lo hi none _) _ => match trE n sc a, trO n sc lo, trO n sc hi with
      | some a, some lo, some hi => some (.slc a lo hi)
      | _, _, _ => none
    | .Subscript _ (.Slice _ _ _ _) _ => none
    | .Subscript a i _ => match trE n sc a, trE n sc i with
      | some a, some i => some (.idx a i)
      | _, _ => none
    | .Call (.Name x _) as [] _ => if globB sc x then (match T.fns.findIdx? fun y => decide (y = x) with
      | some f => if as.isEmpty || decide (x = "list") || decide (x = "sorted") then none else (trA n sc as).map (.call f)
      | none => if bltB T sc x && okName x then trC n sc x as else none) else none
    | .ListComp elt [⟨tg, iter, ifs, 0⟩] scope _ =>
      let own := ownOf N scope
      let sb := L2.relS scope sc
      match isMut T N sc iter with
      | some i => (match trTg N sb (fnB scope sb) tg, trIf n sb ifs, trE n sb elt with
        | some tg, some c, some e => if L2.blkC N sc scope own && tgIn (own.map (·.2)) tg then some (.lw tg i c e (own.map (·.2))) else none
        | _, _, _ => none)
      | none => (match trI n sc iter, trTg N sb (fnB scope sb) tg, trIf n sb ifs, trE n sb elt with
        | some it, some tg, some c, some e => if L2.blkC N sc scope own && tgIn (own.map (·.2)) tg && okIt it tg then some (.lc tg it c e (own.map (·.2))) else none
        | _, _, _, _ => none)
    | .Dict [] [] _ => if tupC T then none else some .dnw
    | .Call (.Attribute a m ap) [b] [] cp => match trM m, trE n sc a, trE n sc b with
      | some m, some a', some b' => if starB b || !(ap.endLine == cp.line) || call0 a then none else some (.mth m a' (.cons b' .nil))
      | _, _, _ => none
    | .DictComp kx vx [⟨tg, iter, ifs, 0⟩] scope _ =>
      let own := ownOf N scope
      let sb := L2.relS scope sc
      match trI n sc iter, trTg N sb (fnB scope sb) tg, trIf n sb ifs, trE n sb kx, trE n sb vx with
      | some it, some tg, some c, some k, some e => if L2.blkC N sc scope own && tgIn (own.map (·.2)) tg && okIt it tg then some (.dcm tg it c k e (own.map (·.2))) else none
      | _, _, _, _, _ => none
    | _ => none
def trL : Nat → Scope → BoolOp → List Expr → Option E
  | 0, _, _, _ => none
  | n + 1, sc, op, vs => match vs with
    | [a] => if isIf a then none else trE n sc a
    | a :: b :: r => if isIf a then none else match trE n sc a, trL n sc op (b :: r) with
      | some a, some b => some (mkOp op a b)
      | _, _ => none
    | [] => none
def trO : Nat → Scope → Option Expr → Option E
  | 0, _, _ => none
  | n + 1, sc, o => match o with
    | none => some .nil
    | some e => match trE n sc e with
      | some e => if isNil e then none else some e
      | none => none
def trIf : Nat → Scope → List Expr → Option E
  | 0, _, _ => none
  | n + 1, sc, l => match l with
    | [] => some (.con (.bool true))
    | [c] => if isIf c then none else trE n sc c
    | _ => none
def trA : Nat → Scope → List Expr → Option E
  | 0, _, _ => none
  | n + 1, sc, es => match es with
    | [] => some .nil
    | e :: r => if starB e then none else match trE n sc e, trA n sc r with
      | some a, some as => some (.cons a as)
      | _, _ => none
def trC : Nat → Scope → Str → List Expr → Option E
  | 0, _, _, _ => none
  | n + 1, sc, x, as => if x = "isinstance" then (match as with
      | [a, .Name t _] => if starB a || !bltB T sc t then none else match trTy t, trE n sc a with
        | some t, some a => some (.isi t a)
        | _, _ => none
      | _ => none)
    else if x = "list" then (match as with
      | [a] => (match isRange T sc a with
        | some a' => (trE n sc a').map .lsr
        | none => (match isRevd T sc a with
          | some a' => (trE n sc a').map .lrv
          | none => if starB a then none else (trE n sc a).map fun a => .blt .lst (.cons a .nil)))
      | _ => none)
    else if x = "len" then (match as with
      | [a] => (match isSet T sc a with
        | some a' => (trE n sc a').map fun a => .blt .lens (.cons a .nil)
        | none => if starB a then none else (trE n sc a).map .len)
      | _ => none)
    else match trB x as.length with
      | some b => (trA n sc as).map (.blt b)
      | none => none
def trI : Nat → Scope → Expr → Option E
  | 0, _, _ => none
  | n + 1, sc, e => match e with
    | .Call (.Name x _) [a] [] _ =>
      if bltB T sc x && !starB a && decide (x = "range") then (trE n sc a).map .rng
      else if bltB T sc x && !starB a && decide (x = "enumerate") then (trE n sc a).map .enu
      else if bltB T sc x && !starB a && decide (x = "reversed") then (match isRange T sc a with
        | some a' => (trE n sc a').map .rvg
        | none => (trE n sc a).map .rvs)
      else (trE n sc e).map .itr
    | _ => (trE n sc e).map .itr
end
def fresh : Expr → Bool
  | .List _ _ => true
  | .ListComp _ _ _ _ => true
  | .BinOp _ .Add _ _ => true
  | .Call (.Name x _) _ _ _ => decide (x = "list") || decide (x = "sorted")
  | _ => false
end Z

set_option linter.all false
set_option autoImplicit false
/-! Z2S: statements of the text. -/
namespace Z
open PySem
variable (T : Tab) (N : List Str)
/-- values for names: a new list's cell where the name's list is changed -/
def trP (M : List Nat) (sc : Scope) (n : Nat) : List Nat → List Expr → Option E
  | [], [] => some .nil
  | i :: is, e :: es => if starB e then none else match trE T N n sc e, trP M sc n is es with
    | some a, some as => some (.cons (if M.contains i && fresh e then .cel a else a) as)
    | _, _ => none
  | _, _ => none
def isFn (sc : Scope) : Bool := match sc.kind with
  | .function => true
  | _ => false
def isComp : Expr → Bool
  | .ListComp _ _ _ _ => true
  | .SetComp _ _ _ _ => true
  | .DictComp _ _ _ _ _ => true
  | _ => false
def isCall : Expr → Bool
  | .Call _ _ _ _ => true
  | _ => false
def isTuple : Expr → Bool
  | .Tuple _ _ _ => true
  | _ => false
/-- name = [..] goes straight into the name -/
def swB (sc : Scope) (y : Str) (py : Pos) : Expr → Bool
  | .ListComp _ _ scope pos => sc.names.lookup y == some .local && py.line == pos.line && !(scope.names.any fun (n, k) => n == y && (k == .local || k == .cell))
  | .DictComp _ _ _ scope pos => sc.names.lookup y == some .local && py.line == pos.line && !(scope.names.any fun (n, k) => n == y && (k == .local || k == .cell))
  | _ => false
def lcOk (sc : Scope) : Expr → Bool
  | .ListComp _ _ _ _ => isFn sc
  | .SetComp _ _ _ _ => false
  | .DictComp _ _ _ _ _ => isFn sc
  | _ => true
def isDc : Expr → Bool
  | .DictComp _ _ _ _ _ => true
  | _ => false
/-- the names that a pair of values goes to from the right, if so -/
def swF1 (sc : Scope) (l : Nat) : Expr → Option Str
  | .Name id pos => if sc.names.lookup id == some .local && pos.line == l then some id else none
  | _ => none
def swN (sc : Scope) (ts : List Expr) : List Str := ts.filterMap (swF1 sc ((ts.head?.map (·.pos.line)).getD 0))
def swpO (sc : Scope) (ts vs : List Expr) : Option (Option (List Str)) :=
  if !isFn sc then none
  else if !(ts.length == 2 || ts.length == 3) || vs.length != ts.length then some none
  else if vs.any starB then some none
  else if (swN sc ts).length != ts.length || (swN sc ts).eraseDups.length != (swN sc ts).length then some none
  else if vs.all (foldedForSure 8) then some none
  else if vs.all (constantsAlone 8) then none
  else some (some (swN sc ts))
def parB (sc : Scope) (ts vs : List Expr) : Bool := decide (swpO sc ts vs = some none) || match ts, vs with
  | [.Name x _, .Name y _], [_, _] => decide (swpO sc ts vs = some (some [x, y])) && onlyLoc sc x && onlyLoc sc y
  | [.Name x _, .Name y _, .Name z _], [_, _, _] => decide (swpO sc ts vs = some (some [x, y, z])) && onlyLoc sc x && onlyLoc sc y && onlyLoc sc z
  | _, _ => false
def all1 (_ : Str) : Bool := true
/-- a name that holds a dict -/
def isDct (N : List Str) (M : List Nat) (sc : Scope) : Expr → Option Nat
  | .Name x _ => if visB sc x && okName x then (match slot N x with
    | some i => if M.contains (1000 + i) then some i else none
    | none => none) else none
  | _ => none
mutual
def trS (M : List Nat) (sc : Scope) : Nat → Stmt → Option S
  | 0, _ => none
  | n + 1, st => match st with
    | .Pass _ => some .skip
    | .Return (some e) _ => (trE T N n sc e).map .ret
    | .Expr (.Constant (.str _) _ _) _ => some .skip
    | .Expr (.Call (.Attribute (.Name x _) m ap) [e] [] cp) _ => if visB sc x && okName x && decide (m = "append") && !starB e && (ap.endLine == cp.line) then (match slot N x, trE T N n sc e with
      | some i, some e => some (.app i e)
      | _, _ => none) else none
    | .Expr e _ => if isCall e then (trE T N n sc e).map .exp else none
    | .Assign [.Name x p] e _ => if locB sc x && lcOk sc e then (match slot N x, trE T N n sc e with
      | some i, some e' => some (.asg i (if M.contains i && fresh e then .cel e' else e'))
      | _, _ => none) else none
    | .Assign [.Tuple ts _ _] (.Tuple vs _ _) _ => if parB sc ts vs then (match trNames N sc all1 ts with
      | some is => if is.length ≤ 100 then (trP T N M sc n is vs).map (.par is) else none
      | none => none) else none
    | .Assign [.Tuple ts _ _] e _ => match trNames N sc all1 ts, trE T N n sc e with
      | some is, some e' => if isTuple e then none else some (.unp is e')
      | _, _ => none
    | .Assign [.Subscript (.Name x _) j _] e _ => if visB sc x && okName x then (match slot N x, trE T N n sc j, trE T N n sc e with
      | some i, some j, some e => some (.put i j e)
      | _, _, _ => none) else none
    | .If c a b _ => if isIf c then none else match trE T N n sc c, trSs M sc n a, trSs M sc n b with
      | some c, some a, some b => some (.ite c a b)
      | _, _, _ => none
    | .For tg it b [] _ => match isRounds T sc it with
      | some (f, as) => (match trTg N sc all1 tg, trA T N n sc as, trSs M sc n b with
        | some (.nm i), some as, some b => some (.forR i f as b)
        | _, _, _ => none)
      | none => (match isDct N M sc it with
        | some i => (match trTg N sc all1 tg, trSs M sc n b with
          | some tg, some b => some (.forD tg i b)
          | _, _ => none)
        | none => (match trTg N sc all1 tg, trI T N n sc it, trSs M sc n b with
          | some tg, some it, some b => if okIt it tg then some (.for_ tg it b) else none
          | _, _, _ => none))
    | .While c b [] _ => if isIf c then none else match trE T N n sc c, trSs M sc n b with
      | some c, some b => some (.whl c b)
      | _, _ => none
    | .Raise (some (.Call (.Name x _) [.Constant (.str _) _ _] [] _)) none _ => if globB sc x then (T.excs.findIdx? fun y => decide (y = x)).map .rse else none
    | _ => none
def trSs (M : List Nat) (sc : Scope) : Nat → List Stmt → Option S
  | 0, _ => none
  | n + 1, l => match l with
    | [] => some .skip
    | s :: r => match trS M sc n s, trSs M sc n r with
      | some a, some b => some (.seq a b)
      | _, _ => none
end
/-- a def: its text, its names by slot (parameters first), its parameters, the slots of lists that it changes -/
structure Src where
  st : Stmt
  N : List Str
  ps : List Str
  M : List Nat
def trD (s : Src) : Option Dfn := (trSs { T with mt := s.M } s.N s.M (L2.defScope s.st) 60 (L2.defBody s.st)).map fun b => ⟨s.ps.length, s.N.length, b⟩
end Z

set_option linter.all false
set_option autoImplicit false
set_option maxRecDepth 100000
set_option maxHeartbeats 1000000
/-! Z3: the runs of the small language and the abstract heaps. -/
namespace Z
open PySem L2
section
variable {K : PySem.W.Frag}
/-! ### data and heaps -/
theorem sqT_mono {F G : Hp} {a : Addr} {xs : List V} (m : Same F G) (h : SqT K F a xs) : SqT K G a xs := by
  rcases h with (h | ⟨o, h⟩) | h
  · exact .inl (.inl (m _ _ h))
  · exact .inl (.inr ⟨o, m _ _ h⟩)
  · exact .inr h
/-- the tables of the defs that make lambdas; whether tuples of the written part are met -/
class TabsC where
  T : List (Addr × Str)
  wr : Bool
variable [TC : TabsC]
/-- a tuple that is tracked, or a written one -/
def TupF (K : PySem.W.Frag) (F : Hp) (a : Addr) (xs : List V) : Prop := F a = some (.tup xs) ∨ (TC.wr = true ∧ SqT K F a xs)
theorem TupF.sq {F : Hp} {a : Addr} {xs : List V} (h : TupF K F a xs) : SqT K F a xs := by
  rcases h with h | h
  · exact .inl (.inl h)
  · exact h.2
theorem TupF.mono {F G : Hp} {a : Addr} {xs : List V} (m : Same F G) (h : TupF K F a xs) : TupF K G a xs := by
  rcases h with h | h
  · exact .inl (m _ _ h)
  · exact .inr ⟨h.1, sqT_mono m h.2⟩
mutual
/-- v stands for the data d, by the frozen part F -/
inductive Rp (K : PySem.W.Frag) (F : Hp) : V → D → Prop
  | non : Rp K F .non .none
  | bl (b : Bool) : Rp K F (.bl b) (.bool b)
  | int (i : Int) : Rp K F (.int i) (.int i)
  | str (x : Str) : Rp K F (.str x) (.str x)
  | lst {a : Addr} {xs : List V} {ds : List D} : F a = some (.lst xs) → RpA K F xs ds → Rp K F (.ref a) (.list ds)
  | tup {a : Addr} {xs : List V} {ds : List D} : TupF K F a xs → RpA K F xs ds → Rp K F (.ref a) (.tuple ds)
inductive RpA (K : PySem.W.Frag) (F : Hp) : List V → List D → Prop
  | nil : RpA K F [] []
  | cons {v : V} {vs : List V} {d : D} {ds : List D} : Rp K F v d → RpA K F vs ds → RpA K F (v :: vs) (d :: ds)
end
mutual
theorem dp_mono {F G : Hp} (m : Same F G) : ∀ (d : D) (v : V), Rp K F v d → Rp K G v d
  | .none, _, .non => .non
  | .bool _, _, .bl b => .bl b
  | .int _, _, .int i => .int i
  | .str _, _, .str x => .str x
  | .list ds, _, .lst h a => .lst (m _ _ h) (dpA_mono m ds _ a)
  | .tuple ds, _, .tup h a => .tup (h.mono m) (dpA_mono m ds _ a)
theorem dpA_mono {F G : Hp} (m : Same F G) : ∀ (ds : List D) (vs : List V), RpA K F vs ds → RpA K G vs ds
  | [], _, .nil => .nil
  | d :: ds, _, .cons h t => .cons (dp_mono m d _ h) (dpA_mono m ds _ t)
end
mutual
theorem rp_dp {F G : Hp} (m : Same F G) : ∀ (d : D) (v : V), Rp K F v d → Dp K G v d
  | .none, _, .non => .non
  | .bool _, _, .bl b => .bl b
  | .int _, _, .int i => .int i
  | .str _, _, .str x => .str x
  | .list ds, _, .lst h a => .lst (.inl (.inl (m _ _ h))) (rpA_dp m ds _ a)
  | .tuple ds, _, .tup h a => .tup (sqT_mono m h.sq) (rpA_dp m ds _ a)
theorem rpA_dp {F G : Hp} (m : Same F G) : ∀ (ds : List D) (vs : List V), RpA K F vs ds → DpAll K G vs ds
  | [], _, .nil => .nil
  | d :: ds, _, .cons h t => .cons (rp_dp m d _ h) (rpA_dp m ds _ t)
end
theorem dpA_len {F : Hp} : ∀ {ds : List D} {vs : List V}, RpA K F vs ds → vs.length = ds.length
  | [], _, .nil => rfl
  | _ :: ds, _, .cons _ t => congrArg (· + 1) (dpA_len t)
theorem dpA_get {F : Hp} : ∀ {ds : List D} {vs : List V} {i : Nat} {d : D}, RpA K F vs ds → ds[i]? = some d → ∃ v, vs[i]? = some v ∧ Rp K F v d
  | [], _, i, d, .nil, e => by simp at e
  | d0 :: ds, _, 0, d, .cons h t, e => by
    have e' : d0 = d := by simpa using e
    subst e'
    exact ⟨_, rfl, h⟩
  | d0 :: ds, _, i + 1, d, .cons h t, e => by
    obtain ⟨v, h1, h2⟩ := dpA_get (i := i) (d := d) t (by simpa using e)
    exact ⟨v, by simpa using h1, h2⟩
theorem dpA_get' {F : Hp} : ∀ {ds : List D} {vs : List V} {i : Nat} {v : V}, RpA K F vs ds → vs[i]? = some v → ∃ d, ds[i]? = some d ∧ Rp K F v d
  | [], _, i, v, .nil, e => by simp at e
  | d0 :: ds, _, 0, v, .cons (v := v0) h t, e => by
    have e' : v0 = v := by simpa using e
    subst e'
    exact ⟨_, rfl, h⟩
  | d0 :: ds, _, i + 1, v, .cons h t, e => by
    obtain ⟨d, h1, h2⟩ := dpA_get' (i := i) (v := v) t (by simpa using e)
    exact ⟨d, by simpa using h1, h2⟩
theorem dpA_app {F : Hp} : ∀ {ds es : List D} {vs us : List V}, RpA K F vs ds → RpA K F us es → RpA K F (vs ++ us) (ds ++ es)
  | [], _, _, _, .nil, s => s
  | _ :: _, _, _, _, .cons h t, s => .cons h (dpA_app t s)
theorem dpA_drop {F : Hp} : ∀ {ds : List D} {vs : List V} (n : Nat), RpA K F vs ds → RpA K F (vs.drop n) (ds.drop n)
  | _, _, 0, h => h
  | [], _, _ + 1, .nil => .nil
  | _ :: _, _, n + 1, .cons _ t => dpA_drop n t
theorem dpA_take {F : Hp} : ∀ {ds : List D} {vs : List V} (n : Nat), RpA K F vs ds → RpA K F (vs.take n) (ds.take n)
  | _, _, 0, _ => .nil
  | [], _, _ + 1, .nil => .nil
  | _ :: _, _, n + 1, .cons h t => .cons h (dpA_take n t)
theorem dpA_set {F : Hp} {v : V} {d : D} (h0 : Rp K F v d) : ∀ {ds : List D} {vs : List V} (n : Nat), RpA K F vs ds → RpA K F (vs.set n v) (ds.set n d)
  | [], _, _, .nil => .nil
  | _ :: _, _, 0, .cons _ t => .cons h0 t
  | _ :: _, _, n + 1, .cons h t => .cons h (dpA_set h0 n t)
theorem dpA_rev {F : Hp} : ∀ {ds : List D} {vs : List V}, RpA K F vs ds → RpA K F vs.reverse ds.reverse
  | [], _, .nil => .nil
  | d :: ds, v :: vs, .cons h t => by
    rw [List.reverse_cons, List.reverse_cons]
    exact dpA_app (dpA_rev t) (.cons h .nil)
theorem dpA_ints {F : Hp} : ∀ {ds : List D} {vs : List V} {ns : List Int}, RpA K F vs ds → intL ds = some ns → vs = ns.map V.int ∧ ds = ns.map PyData.int
  | [], _, ns, .nil, e => by
    have e' : [] = ns := Option.some.inj e
    subst e'
    exact ⟨rfl, rfl⟩
  | .int i :: ds, _, ns, .cons h t, e => by
    cases h
    cases q : intL ds with
    | none =>
      rw [intL, q] at e
      cases e
    | some ms =>
      rw [intL, q] at e
      have e' : i :: ms = ns := Option.some.inj e
      subst e'
      obtain ⟨h1, h2⟩ := dpA_ints t q
      exact ⟨by rw [h1]; rfl, by rw [h2]; rfl⟩
  | .none :: ds, _, ns, _, e => by cases e
  | .bool _ :: ds, _, ns, _, e => by cases e
  | .str _ :: ds, _, ns, _, e => by cases e
  | .list _ :: ds, _, ns, _, e => by cases e
  | .tuple _ :: ds, _, ns, _, e => by cases e
  | .dict _ :: ds, _, ns, _, e => by cases e
theorem dpA_bools {F : Hp} : ∀ {ds : List D} {vs : List V} {ns : List Bool}, RpA K F vs ds → boolL ds = some ns → vs = ns.map V.bl
  | [], _, ns, .nil, e => by
    have e' : [] = ns := Option.some.inj e
    subst e'
    rfl
  | .bool i :: ds, _, ns, .cons h t, e => by
    cases h
    cases q : boolL ds with
    | none =>
      rw [boolL, q] at e
      cases e
    | some ms =>
      rw [boolL, q] at e
      have e' : i :: ms = ns := Option.some.inj e
      subst e'
      rw [dpA_bools t q]
      rfl
  | .none :: ds, _, ns, _, e => by cases e
  | .int _ :: ds, _, ns, _, e => by cases e
  | .str _ :: ds, _, ns, _, e => by cases e
  | .list _ :: ds, _, ns, _, e => by cases e
  | .tuple _ :: ds, _, ns, _, e => by cases e
  | .dict _ :: ds, _, ns, _, e => by cases e

/-! ### tables of code objects -/
theorem tabs_upd {T : List (Addr × Str)} {H : Hp} {a : Addr} {xs : List V} {o' : HO} (t : LamX.Tabs T H) (ha : H a = some (.lst xs)) : LamX.Tabs T (upd H a o') := fun p hp => by
  obtain ⟨ps, e1, e2, e3⟩ := t p hp
  refine ⟨ps, ?_, e2, fun pos cv hc => ?_⟩
  · rw [upd_ne (ne_of e1 ha (by intro z; cases z))]
    exact e1
  · obtain ⟨c, ec, hc'⟩ := e3 pos cv hc
    exact ⟨c, ec, by rw [upd_ne (ne_of hc' ha (by intro z; cases z))]; exact hc'⟩
theorem tabs_updD {T : List (Addr × Str)} {H : Hp} {a : Addr} {ks : List (List Key × V)} {o' : HO} (t : LamX.Tabs T H) (ha : H a = some (.dT ks)) : LamX.Tabs T (upd H a o') := fun p hp => by
  obtain ⟨ps, e1, e2, e3⟩ := t p hp
  refine ⟨ps, ?_, e2, fun pos cv hc => ?_⟩
  · rw [upd_ne (ne_of e1 ha (by intro z; cases z))]
    exact e1
  · obtain ⟨c, ec, hc'⟩ := e3 pos cv hc
    exact ⟨c, ec, by rw [upd_ne (ne_of hc' ha (by intro z; cases z))]; exact hc'⟩
theorem tabs_new {T : List (Addr × Str)} {H : Hp} {a : Addr} {o' : HO} (t : LamX.Tabs T H) (ha : H a = none) : LamX.Tabs T (upd H a o') := t.ext fun b o e => by
  rw [upd_ne (ne_of_none e ha)]
  exact e
/-! ### cells -/
def Live : Ob → Prop
  | .fz _ => False
  | .ro _ => False
  | .gone => False
  | _ => True
/-- a dict's pairs -/
def KvR (K : PySem.W.Frag) (F : Hp) (ks : List (List Key × V)) (kvs : List (List Int × D)) : Prop := Paired (fun p e => p.1 = e.1.map Sum.inl ∧ Rp K F p.2 e.2) ks kvs
theorem KvR.mono {F G : Hp} {ks : List (List Key × V)} {kvs : List (List Int × D)} (m : Same F G) (r : KvR K F ks kvs) : KvR K G ks kvs := Paired.mapP r fun _ _ h => ⟨h.1, dp_mono m _ _ h.2⟩
/-- .. with whole numbers as keys -/
def KiR (K : PySem.W.Frag) (F : Hp) (ks : List (Key × V)) (kvs : List (Int × D)) : Prop := Paired (fun p e => p.1 = Sum.inl e.1 ∧ Rp K F p.2 e.2) ks kvs
theorem KiR.mono {F G : Hp} {ks : List (Key × V)} {kvs : List (Int × D)} (m : Same F G) (r : KiR K F ks kvs) : KiR K G ks kvs := Paired.mapP r fun _ _ h => ⟨h.1, dp_mono m _ _ h.2⟩
def ObR (K : PySem.W.Frag) (F H : Hp) (a : Addr) : Ob → Prop
  | .lst xs => F a = none ∧ ∃ vs, H a = some (.lst vs) ∧ RpA K F vs xs
  | .fz xs => ∃ vs, F a = some (.lst vs) ∧ RpA K F vs xs
  | .ro xs => ∃ vs, SqL K F a vs ∧ RpA K F vs xs
  | .dct kvs => F a = none ∧ (∃ ks, H a = some (.dT ks) ∧ KvR K F ks kvs) ∧ TC.wr = false
  | .dci kvs => F a = none ∧ ∃ ks, H a = some (.dK ks) ∧ KiR K F ks kvs
  | .ins _ _ => False
  | .gone => True
structure Sim (K : PySem.W.Frag) (Y F : Hp) (ρ : Nat → Addr) (h : Hep) (H : Hp) : Prop where
  sub : Same F H
  ob : ∀ n o, h[n]? = some o → ObR K F H (ρ n) o
  inj : ∀ n m o o', h[n]? = some o → h[m]? = some o' → Live o → Live o' → ρ n = ρ m → n = m
  fr : ∀ a o, Y a = some o → H a = some o ∧ F a = none ∧ ∀ n o', h[n]? = some o' → Live o' → ρ n ≠ a
  yl : ∀ a o, Y a = some o → (∃ xs, o = .lst xs) ∨ (∃ ks, o = .dK ks) ∨ ∃ ob ks, o = .frz ob (.dT ks)
  tb : LamX.Tabs TC.T H
structure Ext (F : Hp) (ρ : Nat → Addr) (n : Nat) (F' : Hp) (ρ' : Nat → Addr) (n' : Nat) : Prop where
  sub : Same F F'
  le : n ≤ n'
  eq : ∀ i, i < n → ρ' i = ρ i
def RV (K : PySem.W.Frag) (F : Hp) (ρ : Nat → Addr) (n : Nat) : Vl → V → Prop
  | .d x, v => Rp K F v x
  | .r i, v => i < n ∧ v = .ref (ρ i)
def RVs (K : PySem.W.Frag) (F : Hp) (ρ : Nat → Addr) (n : Nat) (vs : List Vl) (us : List V) : Prop := Paired (RV K F ρ n) vs us
def EnvR (K : PySem.W.Frag) (F : Hp) (ρ : Nat → Addr) (n : Nat) (s : Env) (σ : L2.St) : Prop := s.length = σ.length ∧ ∀ (i : Nat) (v : Vl), s[i]? = some (some v) → ∃ u, σ[i]? = some (some u) ∧ RV K F ρ n v u
variable {Y F F1 F2 G : Hp} {ρ ρ1 ρ2 : Nat → Addr} {n n1 n2 : Nat} {h h1 h2 : Hep} {H H1 : Hp}
theorem Ext.refl : Ext F ρ n F ρ n := ⟨Same.refl _, Nat.le_refl _, fun _ _ => rfl⟩
theorem Ext.trans (a : Ext F ρ n F1 ρ1 n1) (b : Ext F1 ρ1 n1 F2 ρ2 n2) : Ext F ρ n F2 ρ2 n2 :=
  ⟨a.sub.trans b.sub, Nat.le_trans a.le b.le, fun i hi => (b.eq i (Nat.lt_of_lt_of_le hi a.le)).trans (a.eq i hi)⟩
theorem RV.mono {v : Vl} {u : V} (e : Ext F ρ n F1 ρ1 n1) (r : RV K F ρ n v u) : RV K F1 ρ1 n1 v u := by
  cases v with
  | d x => exact dp_mono e.sub x u r
  | r i => exact ⟨Nat.lt_of_lt_of_le r.1 e.le, by rw [e.eq i r.1]; exact r.2⟩
theorem RVs.mono {vs : List Vl} {us : List V} (e : Ext F ρ n F1 ρ1 n1) (r : RVs K F ρ n vs us) : RVs K F1 ρ1 n1 vs us := Paired.mapP r fun _ _ z => RV.mono e z
theorem EnvR.mono {s : Env} {σ : L2.St} (e : Ext F ρ n F1 ρ1 n1) (r : EnvR K F ρ n s σ) : EnvR K F1 ρ1 n1 s σ :=
  ⟨r.1, fun i v hi => let ⟨u, h1, h2⟩ := r.2 i v hi; ⟨u, h1, RV.mono e h2⟩⟩
theorem EnvR.set {s : Env} {σ : L2.St} {v : Vl} {u : V} (r : EnvR K F ρ n s σ) (hv : RV K F ρ n v u) (i : Nat) : EnvR K F ρ n (s.set i (some v)) (σ.set i (some u)) := by
  refine ⟨by rw [List.length_set, List.length_set]; exact r.1, fun j w hj => ?_⟩
  by_cases e : i = j
  · subst e
    have hl : i < s.length := by
      have := (List.getElem?_eq_some_iff.mp hj).1
      rw [List.length_set] at this
      exact this
    rw [List.getElem?_set_self hl] at hj
    cases hj
    exact ⟨u, List.getElem?_set_self (by rw [← r.1]; exact hl), hv⟩
  · rw [List.getElem?_set_ne e] at hj
    obtain ⟨u', h1, h2⟩ := r.2 j w hj
    exact ⟨u', by rw [List.getElem?_set_ne e]; exact h1, h2⟩
theorem EnvR.clear {s : Env} {σ : L2.St} (r : EnvR K F ρ n s σ) (i : Nat) : EnvR K F ρ n (s.set i none) (σ.set i none) := by
  refine ⟨by rw [List.length_set, List.length_set]; exact r.1, fun j w hj => ?_⟩
  by_cases e : i = j
  · subst e
    have hl : i < s.length := by
      have := (List.getElem?_eq_some_iff.mp hj).1
      rw [List.length_set] at this
      exact this
    rw [List.getElem?_set_self hl] at hj
    cases hj
  · rw [List.getElem?_set_ne e] at hj
    obtain ⟨u', h1, h2⟩ := r.2 j w hj
    exact ⟨u', by rw [List.getElem?_set_ne e]; exact h1, h2⟩
theorem EnvR.wipe {s : Env} {σ : L2.St} (r : EnvR K F ρ n s σ) : ∀ ow : List Nat, EnvR K F ρ n (Z.wipe s ow) (L2.wipe σ ow)
  | [] => r
  | i :: ow => (EnvR.wipe r ow).clear i
/-! ### how the two heaps move -/
theorem ObR.mono {a : Addr} {o : Ob} (m : Same F G) (r : ObR K F H a o) (hH : Live o → H1 a = H a) (hG : Live o → G a = F a) : ObR K G H1 a o := by
  cases o with
  | lst xs =>
    obtain ⟨e, vs, e1, e2⟩ := r
    exact ⟨by rw [hG trivial]; exact e, vs, by rw [hH trivial]; exact e1, dpA_mono m _ _ e2⟩
  | fz xs =>
    obtain ⟨vs, e1, e2⟩ := r
    exact ⟨vs, m _ _ e1, dpA_mono m _ _ e2⟩
  | ro xs =>
    obtain ⟨vs, e1, e2⟩ := r
    exact ⟨vs, m.seq e1, dpA_mono m _ _ e2⟩
  | dct kvs =>
    obtain ⟨e, ⟨ks, e1, e2⟩, e3⟩ := r
    exact ⟨by rw [hG trivial]; exact e, ⟨ks, by rw [hH trivial]; exact e1, e2.mono m⟩, e3⟩
  | dci kvs =>
    obtain ⟨e, ks, e1, e2⟩ := r
    exact ⟨by rw [hG trivial]; exact e, ks, by rw [hH trivial]; exact e1, e2.mono m⟩
  | ins _ _ => exact r.elim
  | gone => exact trivial
theorem ObR.there {a : Addr} {o : Ob} (r : ObR K F H a o) (l : Live o) : F a = none ∧ ∃ u, H a = some u := by
  cases o with
  | lst xs => exact ⟨r.1, let ⟨vs, e, _⟩ := r.2; ⟨_, e⟩⟩
  | fz xs => exact l.elim
  | ro xs => exact l.elim
  | dct kvs => exact ⟨r.1, let ⟨ks, e, _⟩ := r.2.1; ⟨_, e⟩⟩
  | dci kvs => exact ⟨r.1, let ⟨ks, e, _⟩ := r.2; ⟨_, e⟩⟩
  | ins _ _ => exact r.elim
  | gone => exact l.elim
/-- a new object that is of no matter -/
theorem Sim.new (S : Sim K Y F ρ h H) {p : Addr} {o : HO} (hp : H p = none) : Sim K Y F ρ h (upd H p o) :=
  ⟨fun a u e => by
    have e1 := S.sub a u e
    rw [upd_ne (ne_of_none e1 hp)]
    exact e1, fun n o' e => (S.ob n o' e).mono (Same.refl _) (fun l => by
      obtain ⟨u, hu⟩ := ((S.ob n o' e).there l).2
      rw [upd_ne (ne_of_none hu hp)]) (fun _ => rfl), S.inj, fun a u e => by
    obtain ⟨e1, e2, e3⟩ := S.fr a u e
    exact ⟨by rw [upd_ne (ne_of_none e1 hp)]; exact e1, e2, e3⟩, S.yl, tabs_new S.tb hp⟩
/-- p stands in H, it is no cell and not frozen -/
structure Loose (Y F : Hp) (ρ : Nat → Addr) (h : Hep) (p : Addr) : Prop where
  ny : Y p = none
  nf : F p = none
  nc : ∀ n o, h[n]? = some o → Live o → ρ n ≠ p
theorem Sim.loose (S : Sim K Y F ρ h H) {p : Addr} (hp : H p = none) : Loose Y F ρ h p :=
  ⟨Same.free (fun a o e => (S.fr a o e).1) hp, S.sub.free hp, fun n o e l z => by
    obtain ⟨u, hu⟩ := ((S.ob n o e).there l).2
    rw [z, hp] at hu
    cases hu⟩
/-- what stands loose is frozen -/
theorem Sim.frz (S : Sim K Y F ρ h H) {p : Addr} {o : HO} (l : Loose Y F ρ h p) (hp : H p = some o) : Sim K Y (upd F p o) ρ h H ∧ Same F (upd F p o) := by
  have m : Same F (upd F p o) := fun a u e => by
    rw [upd_ne (ne_of_none e l.nf)]
    exact e
  refine ⟨⟨fun a u e => ?_, fun n o' e => (S.ob n o' e).mono m (fun _ => rfl) fun lv => upd_ne (l.nc n o' e lv), S.inj, fun a u e => ?_, S.yl, S.tb⟩, m⟩
  by_cases ha : a = p
  · subst ha
    rw [upd_same] at e
    rw [hp]
    exact e
  · rw [upd_ne ha] at e
    exact S.sub a u e
  · obtain ⟨e1, e2, e3⟩ := S.fr a u e
    exact ⟨e1, by rw [upd_ne (ne_of_none e l.ny)]; exact e2, e3⟩
theorem Ext.frz {p : Addr} {o : HO} (hp : F p = none) : Ext F ρ n (upd F p o) ρ n := ⟨fun a u e => by
    rw [upd_ne (ne_of_none e hp)]
    exact e, Nat.le_refl _, fun _ _ => rfl⟩
/-- a cell's list is changed -/
theorem Sim.put (S : Sim K Y F ρ h H) {i : Nat} {xs ys : List D} {us : List V} (e : h[i]? = some (.lst xs)) (r : RpA K F us ys) : Sim K Y F ρ (h.set i (.lst ys)) (upd H (ρ i) (.lst us)) := by
  obtain ⟨e0, vs, e1, e2⟩ := S.ob i _ e
  have il : i < h.length := (List.getElem?_eq_some_iff.mp e).1
  refine ⟨fun a u q => ?_, fun n o q => ?_, fun n m o o' q q' l l' z => ?_, fun a u q => ?_, S.yl, tabs_upd S.tb e1⟩
  · rw [upd_ne (ne_of_none q e0)]
    exact S.sub a u q
  · by_cases hn : i = n
    · subst hn
      rw [List.getElem?_set_self il] at q
      cases q
      exact ⟨e0, us, upd_same, r⟩
    · rw [List.getElem?_set_ne hn] at q
      refine (S.ob n o q).mono (Same.refl _) (fun l => upd_ne fun z => hn ?_) fun _ => rfl
      exact (S.inj n i o _ q e l trivial z).symm
  · have f : ∀ j o, (h.set i (.lst ys))[j]? = some o → Live o → ∃ o2, h[j]? = some o2 ∧ Live o2 := fun j o q l => by
      by_cases hj : i = j
      · subst hj
        exact ⟨_, e, trivial⟩
      · rw [List.getElem?_set_ne hj] at q
        exact ⟨o, q, l⟩
    obtain ⟨o1, q1, l1⟩ := f n o q l
    obtain ⟨o2, q2, l2⟩ := f m o' q' l'
    exact S.inj n m o1 o2 q1 q2 l1 l2 z
  · obtain ⟨k1, k2, k3⟩ := S.fr a u q
    refine ⟨by rw [upd_ne (Ne.symm (k3 i _ e trivial))]; exact k1, k2, fun n o' q' l => ?_⟩
    by_cases hn : i = n
    · subst hn
      exact k3 i _ e trivial
    · rw [List.getElem?_set_ne hn] at q'
      exact k3 n o' q' l
/-- a live cell is changed -/
theorem Sim.putG (S : Sim K Y F ρ h H) {i : Nat} {o o' : Ob} {u' : HO} (e : h[i]? = some o) (lo : Live o) (lo' : Live o') (ok : ObR K F (upd H (ρ i) u') (ρ i) o') (tb : LamX.Tabs TC.T (upd H (ρ i) u')) : Sim K Y F ρ (h.set i o') (upd H (ρ i) u') := by
  obtain ⟨e0, u0, e1⟩ := (S.ob i _ e).there lo
  have il : i < h.length := (List.getElem?_eq_some_iff.mp e).1
  refine ⟨fun a u q => ?_, fun n o2 q => ?_, fun n m o1 o2 q q' l l' z => ?_, fun a u q => ?_, S.yl, tb⟩
  · rw [upd_ne (ne_of_none q e0)]
    exact S.sub a u q
  · by_cases hn : i = n
    · subst hn
      rw [List.getElem?_set_self il] at q
      cases q
      exact ok
    · rw [List.getElem?_set_ne hn] at q
      refine (S.ob n o2 q).mono (Same.refl _) (fun l => upd_ne fun z => hn ?_) fun _ => rfl
      exact (S.inj n i o2 _ q e l lo z).symm
  · have f : ∀ j ob, (h.set i o')[j]? = some ob → Live ob → ∃ o2, h[j]? = some o2 ∧ Live o2 := fun j ob q l => by
      by_cases hj : i = j
      · subst hj
        exact ⟨_, e, lo⟩
      · rw [List.getElem?_set_ne hj] at q
        exact ⟨ob, q, l⟩
    obtain ⟨p1, q1, l1⟩ := f n o1 q l
    obtain ⟨p2, q2, l2⟩ := f m o2 q' l'
    exact S.inj n m p1 p2 q1 q2 l1 l2 z
  · obtain ⟨k1, k2, k3⟩ := S.fr a u q
    refine ⟨by rw [upd_ne (Ne.symm (k3 i _ e lo))]; exact k1, k2, fun n o2 q' l => ?_⟩
    by_cases hn : i = n
    · subst hn
      exact k3 i _ e lo
    · rw [List.getElem?_set_ne hn] at q'
      exact k3 n o2 q' l
/-- what stands loose is made a cell, of any kind -/
theorem Sim.cellG (S : Sim K Y F ρ h H) {p : Addr} {ob : Ob} (l : Loose Y F ρ h p) (ok : ObR K F H p ob) :
    ∃ ρ', Sim K Y F ρ' (h ++ [ob]) H ∧ Ext F ρ h.length F ρ' (h ++ [ob]).length ∧ ρ' h.length = p := by
  have eq : ∀ i, i < h.length → (if i = h.length then p else ρ i) = ρ i := fun i hi => if_neg (Nat.ne_of_lt hi)
  have key : ∀ n o, (h ++ [ob])[n]? = some o → (n < h.length ∧ h[n]? = some o) ∨ (n = h.length ∧ o = ob) := fun n o q => by
    by_cases hn : n < h.length
    · rw [List.getElem?_append_left hn] at q
      exact .inl ⟨hn, q⟩
    · have hl := (List.getElem?_eq_some_iff.mp q).1
      rw [List.length_append, List.length_singleton] at hl
      have e : n = h.length := by omega
      subst e
      rw [List.getElem?_append_right (Nat.le_refl _), Nat.sub_self] at q
      exact .inr ⟨rfl, (Option.some.inj q).symm⟩
  refine ⟨fun i => if i = h.length then p else ρ i, ⟨S.sub, fun n o q => ?_, fun n m o o' q q' lv lv' z => ?_, fun a u q => ?_, S.yl, S.tb⟩, ⟨Same.refl _, by rw [List.length_append]; omega, eq⟩, if_pos rfl⟩
  · rcases key n o q with ⟨hn, q⟩ | ⟨rfl, rfl⟩
    · show ObR K F H (if n = h.length then p else ρ n) o
      rw [eq n hn]
      exact S.ob n o q
    · show ObR K F H (if h.length = h.length then p else ρ h.length) _
      rw [if_pos rfl]
      exact ok
  · have z : (if n = h.length then p else ρ n) = (if m = h.length then p else ρ m) := z
    rcases key n o q with ⟨hn, r1⟩ | ⟨en, eo⟩
    · rcases key m o' q' with ⟨hm, r2⟩ | ⟨em, eo'⟩
      · rw [eq n hn, eq m hm] at z
        exact S.inj n m o o' r1 r2 lv lv' z
      · rw [eq n hn, if_pos em] at z
        exact absurd z (l.nc n o r1 lv)
    · rcases key m o' q' with ⟨hm, r2⟩ | ⟨em, eo'⟩
      · rw [eq m hm, if_pos en] at z
        exact absurd z.symm (l.nc m o' r2 lv')
      · rw [en, em]
  · obtain ⟨k1, k2, k3⟩ := S.fr a u q
    refine ⟨k1, k2, fun n o' q' lv => ?_⟩
    show (if n = h.length then p else ρ n) ≠ a
    rcases key n o' q' with ⟨hn, q'⟩ | ⟨rfl, rfl⟩
    · rw [eq n hn]
      exact k3 n o' q' lv
    · rw [if_pos rfl]
      intro z
      have ny := l.ny
      rw [z, q] at ny
      cases ny
/-- a dict in a cell is changed -/
theorem Sim.putD (S : Sim K Y F ρ h H) {i : Nat} {kvs kvs' : List (List Int × D)} {ks' : List (List Key × V)} (e : h[i]? = some (.dct kvs)) (r : KvR K F ks' kvs') : Sim K Y F ρ (h.set i (.dct kvs')) (upd H (ρ i) (.dT ks')) := by
  obtain ⟨e0, ⟨ks, e1, e2⟩, e3⟩ := S.ob i _ e
  exact S.putG e trivial trivial ⟨e0, ⟨ks', upd_same, r⟩, e3⟩ (tabs_updD S.tb e1)
/-- a cell's list is frozen -/
theorem Sim.stay (S : Sim K Y F ρ h H) {i : Nat} {xs : List D} (e : h[i]? = some (.lst xs)) :
    ∃ vs, Sim K Y (upd F (ρ i) (.lst vs)) ρ (h.set i (.fz xs)) H ∧ Same F (upd F (ρ i) (.lst vs)) ∧ Rp K (upd F (ρ i) (.lst vs)) (.ref (ρ i)) (.list xs) := by
  obtain ⟨e0, vs, e1, e2⟩ := S.ob i _ e
  have il : i < h.length := (List.getElem?_eq_some_iff.mp e).1
  have m : Same F (upd F (ρ i) (.lst vs)) := fun a u q => by
    rw [upd_ne (ne_of_none q e0)]
    exact q
  have sq : (upd F (ρ i) (.lst vs)) (ρ i) = some (.lst vs) := upd_same
  refine ⟨vs, ⟨fun a u q => ?_, fun n o q => ?_, fun n m o o' q q' l l' z => ?_, fun a u q => ?_, S.yl, S.tb⟩, m, .lst sq (dpA_mono m _ _ e2)⟩
  · by_cases ha : a = ρ i
    · subst ha
      rw [upd_same] at q
      rw [e1]
      exact q
    · rw [upd_ne ha] at q
      exact S.sub a u q
  · by_cases hn : i = n
    · subst hn
      rw [List.getElem?_set_self il] at q
      cases q
      exact ⟨vs, sq, dpA_mono m _ _ e2⟩
    · rw [List.getElem?_set_ne hn] at q
      refine (S.ob n o q).mono m (fun _ => rfl) fun l => upd_ne fun z => hn ?_
      exact (S.inj n i o _ q e l trivial z).symm
  · have f : ∀ j o, (h.set i (.fz xs))[j]? = some o → Live o → h[j]? = some o := fun j o q l => by
      by_cases hj : i = j
      · subst hj
        rw [List.getElem?_set_self il] at q
        cases q
        exact l.elim
      · rw [List.getElem?_set_ne hj] at q
        exact q
    exact S.inj n m o o' (f n o q l) (f m o' q' l') l l' z
  · obtain ⟨k1, k2, k3⟩ := S.fr a u q
    refine ⟨k1, by rw [upd_ne (Ne.symm (k3 i _ e trivial))]; exact k2, fun n o' q' l => ?_⟩
    by_cases hn : i = n
    · subst hn
      exact k3 i _ e trivial
    · rw [List.getElem?_set_ne hn] at q'
      exact k3 n o' q' l
/-- what stands loose is made a cell -/
theorem Sim.cell (S : Sim K Y F ρ h H) {p : Addr} {xs : List D} {vs : List V} (l : Loose Y F ρ h p) (hp : H p = some (.lst vs)) (r : RpA K F vs xs) :
    ∃ ρ', Sim K Y F ρ' (h ++ [.lst xs]) H ∧ Ext F ρ h.length F ρ' (h ++ [Ob.lst xs]).length ∧ ρ' h.length = p := by
  have eq : ∀ i, i < h.length → (if i = h.length then p else ρ i) = ρ i := fun i hi => if_neg (Nat.ne_of_lt hi)
  have key : ∀ n o, (h ++ [Ob.lst xs])[n]? = some o → (n < h.length ∧ h[n]? = some o) ∨ (n = h.length ∧ o = .lst xs) := fun n o q => by
    by_cases hn : n < h.length
    · rw [List.getElem?_append_left hn] at q
      exact .inl ⟨hn, q⟩
    · have hl := (List.getElem?_eq_some_iff.mp q).1
      rw [List.length_append, List.length_singleton] at hl
      have e : n = h.length := by omega
      subst e
      rw [List.getElem?_append_right (Nat.le_refl _), Nat.sub_self] at q
      exact .inr ⟨rfl, (Option.some.inj q).symm⟩
  refine ⟨fun i => if i = h.length then p else ρ i, ⟨S.sub, fun n o q => ?_, fun n m o o' q q' lv lv' z => ?_, fun a u q => ?_, S.yl, S.tb⟩, ⟨Same.refl _, by rw [List.length_append]; omega, eq⟩, if_pos rfl⟩
  · rcases key n o q with ⟨hn, q⟩ | ⟨rfl, rfl⟩
    · show ObR K F H (if n = h.length then p else ρ n) o
      rw [eq n hn]
      exact S.ob n o q
    · show ObR K F H (if h.length = h.length then p else ρ h.length) _
      rw [if_pos rfl]
      exact ⟨l.nf, vs, hp, r⟩
  · have z : (if n = h.length then p else ρ n) = (if m = h.length then p else ρ m) := z
    rcases key n o q with ⟨hn, q⟩ | ⟨rfl, rfl⟩
    · rcases key m o' q' with ⟨hm, q'⟩ | ⟨rfl, rfl⟩
      · rw [eq n hn, eq m hm] at z
        exact S.inj n m o o' q q' lv lv' z
      · rw [eq n hn, if_pos rfl] at z
        exact absurd z (l.nc n o q lv)
    · rcases key m o' q' with ⟨hm, q'⟩ | ⟨rfl, rfl⟩
      · rw [eq m hm, if_pos rfl] at z
        exact absurd z.symm (l.nc m o' q' lv')
      · rfl
  · obtain ⟨k1, k2, k3⟩ := S.fr a u q
    refine ⟨k1, k2, fun n o' q' lv => ?_⟩
    show (if n = h.length then p else ρ n) ≠ a
    rcases key n o' q' with ⟨hn, q'⟩ | ⟨rfl, rfl⟩
    · rw [eq n hn]
      exact k3 n o' q' lv
    · rw [if_pos rfl]
      intro z
      have ny := l.ny
      rw [z, q] at ny
      cases ny
theorem take_get {k m : Nat} {o : Ob} (q : (h.take k)[m]? = some o) : h[m]? = some o := by
  have hl := (List.getElem?_eq_some_iff.mp q).1
  rw [List.length_take] at hl
  rw [List.getElem?_take] at q
  rw [if_pos (by omega)] at q
  exact q
/-- the last cells are dropped -/
theorem Sim.drop (S : Sim K Y F ρ h H) (k : Nat) : Sim K Y F ρ (h.take k) H :=
  ⟨S.sub, fun n o q => S.ob n o (take_get q), fun n m o o' q q' l l' z => S.inj n m o o' (take_get q) (take_get q') l l' z,
    fun a u q => let ⟨k1, k2, k3⟩ := S.fr a u q; ⟨k1, k2, fun n o' q' l => k3 n o' (take_get q') l⟩, S.yl, S.tb⟩
/-- what is read behind a value -/
theorem peekR_list (S : Sim K Y F ρ h H) {v : Vl} {u : V} {xs : List D} (r : RV K F ρ h.length v u) (e : peekR h v = some (.list xs)) : ∃ a vs, u = .ref a ∧ SqL K H a vs ∧ RpA K F vs xs := by
  cases v with
  | d y =>
    have e' : y = .list xs := Option.some.inj e
    subst e'
    cases r with
    | lst s a => exact ⟨_, _, rfl, .inl (.inl (S.sub _ _ s)), a⟩
  | r i =>
    obtain ⟨hi, rfl⟩ := r
    unfold peekR at e
    dsimp only at e
    split at e
    · rename_i ys q
      have e' : PyData.list ys = .list xs := Option.some.inj e
      cases e'
      obtain ⟨e0, vs, e1, e2⟩ := S.ob i _ q
      exact ⟨_, vs, rfl, .inl (.inl e1), e2⟩
    · rename_i ys q
      have e' : PyData.list ys = .list xs := Option.some.inj e
      cases e'
      obtain ⟨vs, e1, e2⟩ := S.ob i _ q
      exact ⟨_, vs, rfl, .inl (.inl (S.sub _ _ e1)), e2⟩
    · rename_i ys q
      have e' : PyData.list ys = .list xs := Option.some.inj e
      cases e'
      obtain ⟨vs, e1, e2⟩ := S.ob i _ q
      exact ⟨_, vs, rfl, S.sub.seq e1, e2⟩
    · cases e
theorem peek_list (S : Sim K Y F ρ h H) {v : Vl} {u : V} {xs : List D} (r : RV K F ρ h.length v u) (e : peek h v = some (.list xs)) : ∃ a vs, u = .ref a ∧ H a = some (.lst vs) ∧ RpA K F vs xs := by
  cases v with
  | d y =>
    have e' : y = .list xs := Option.some.inj e
    subst e'
    cases r with
    | lst s a => exact ⟨_, _, rfl, S.sub _ _ s, a⟩
  | r i =>
    obtain ⟨hi, rfl⟩ := r
    unfold peek at e
    dsimp only at e
    split at e
    · rename_i ys q
      have e' : PyData.list ys = .list xs := Option.some.inj e
      cases e'
      obtain ⟨e0, vs, e1, e2⟩ := S.ob i _ q
      exact ⟨_, vs, rfl, e1, e2⟩
    · rename_i ys q
      have e' : PyData.list ys = .list xs := Option.some.inj e
      cases e'
      obtain ⟨vs, e1, e2⟩ := S.ob i _ q
      exact ⟨_, vs, rfl, S.sub _ _ e1, e2⟩
    · cases e
theorem peekR_nl {v : Vl} {x : D} (e : peekR h v = some x) (hx : ∀ xs, x ≠ .list xs) : v = .d x := by
  cases v with
  | d y =>
    have e' : y = x := Option.some.inj e
    rw [e']
  | r i =>
    unfold peekR at e
    dsimp only at e
    split at e
    · exact absurd (Option.some.inj e).symm (hx _)
    · exact absurd (Option.some.inj e).symm (hx _)
    · exact absurd (Option.some.inj e).symm (hx _)
    · cases e
theorem isList (x : D) : (∃ xs, x = .list xs) ∨ ∀ xs, x ≠ .list xs := by
  cases x with
  | list xs => exact .inl ⟨xs, rfl⟩
  | _ => exact .inr fun _ e => by cases e
theorem peekR_ok (S : Sim K Y F ρ h H) {v : Vl} {u : V} {x : D} (r : RV K F ρ h.length v u) (e : peekR h v = some x) : Dp K H u x := by
  rcases isList x with ⟨xs, rfl⟩ | hx
  · obtain ⟨a, vs, rfl, e1, e2⟩ := peekR_list S r e
    exact .lst e1 (rpA_dp S.sub _ _ e2)
  · have e2 := peekR_nl e hx
    subst e2
    exact rp_dp S.sub _ _ r
theorem peekR_of {v : Vl} {x : D} (e : peek h v = some x) : peekR h v = some x := by
  cases v with
  | d y => exact e
  | r i =>
    unfold peek at e
    dsimp only at e
    unfold peekR
    dsimp only
    split at e
    · rename_i q
      rw [q]
      exact e
    · rename_i q
      rw [q]
      exact e
    · cases e
theorem peek_ok (S : Sim K Y F ρ h H) {v : Vl} {u : V} {x : D} (r : RV K F ρ h.length v u) (e : peek h v = some x) : Dp K H u x := peekR_ok S r (peekR_of e)
theorem peek_nl {v : Vl} {x : D} (e : peek h v = some x) (hx : ∀ xs, x ≠ .list xs) : v = .d x := peekR_nl (peekR_of e) hx
theorem keep_ok (S : Sim K Y F ρ h H) {v : Vl} {u : V} {x : D} (r : RV K F ρ h.length v u) (e : keep h v = some (x, h1)) :
    ∃ F', Ext F ρ h.length F' ρ h1.length ∧ Sim K Y F' ρ h1 H ∧ Rp K F' u x := by
  cases v with
  | d y =>
    have e' : (y, h) = (x, h1) := Option.some.inj e
    cases e'
    exact ⟨F, Ext.refl, S, r⟩
  | r i =>
    obtain ⟨hi, rfl⟩ := r
    unfold keep at e
    dsimp only at e
    split at e
    · rename_i xs q
      have e' : (PyData.list xs, h.set i (.fz xs)) = (x, h1) := Option.some.inj e
      cases e'
      obtain ⟨vs, S1, m, dp⟩ := S.stay q
      exact ⟨_, ⟨m, by rw [List.length_set]; exact Nat.le_refl _, fun _ _ => rfl⟩, S1, dp⟩
    · rename_i xs q
      have e' : (PyData.list xs, h) = (x, h1) := Option.some.inj e
      cases e'
      obtain ⟨vs, e1, e2⟩ := S.ob i _ q
      exact ⟨F, Ext.refl, S, .lst e1 e2⟩
    · cases e
theorem keepAll_ok : ∀ {vs : List Vl} {us : List V} {xs : List D} {F : Hp} {h h1 : Hep}, Sim K Y F ρ h H → RVs K F ρ h.length vs us → keepAll h vs = some (xs, h1) →
    ∃ F', Ext F ρ h.length F' ρ h1.length ∧ Sim K Y F' ρ h1 H ∧ RpA K F' us xs
  | [], us, xs, F, h, h1, S, r, e => by
    cases r
    have e' : (([] : List D), h) = (xs, h1) := Option.some.inj e
    cases e'
    exact ⟨F, Ext.refl, S, .nil⟩
  | v :: vs, us, xs, F, h, h1, S, r, e => by
    cases r with
    | cons r0 rt =>
      unfold keepAll at e
      cases q : keep h v with
      | none =>
        rw [q] at e
        cases e
      | some p =>
        obtain ⟨x, h2⟩ := p
        rw [q] at e
        dsimp only at e
        cases q2 : keepAll h2 vs with
        | none =>
          rw [q2] at e
          cases e
        | some p2 =>
          obtain ⟨ys, h3⟩ := p2
          rw [q2] at e
          have e' : (x :: ys, h3) = (xs, h1) := Option.some.inj e
          cases e'
          obtain ⟨F1, x1, S1, d1⟩ := keep_ok S r0 q
          obtain ⟨F2, x2, S2, d2⟩ := keepAll_ok S1 (RVs.mono x1 rt) q2
          exact ⟨F2, x1.trans x2, S2, .cons (dp_mono x2.sub _ _ d1) d2⟩
/-- each value's data -/
theorem peekAll_ok : ∀ {vs : List Vl} {xs : List D}, peekAll h vs = some xs → Paired (fun v x => peek h v = some x) vs xs
  | [], xs, e => by
    have e' : [] = xs := Option.some.inj e
    subst e'
    exact .nil
  | v :: vs, xs, e => by
    unfold peekAll at e
    split at e
    · rename_i x ys q1 q2
      have e' : x :: ys = xs := Option.some.inj e
      subst e'
      exact .cons q1 (peekAll_ok q2)
    · cases e
/-! ### a loose object is watched -/
theorem Sim.watch (S : Sim K Y F ρ h H) {p : Addr} {xs : List V} (l : Loose Y F ρ h p) (hp : H p = some (.lst xs)) : Sim K (upd Y p (.lst xs)) F ρ h H :=
  ⟨S.sub, S.ob, S.inj, fun a u e => by
    by_cases ha : a = p
    · subst ha
      rw [upd_same] at e
      cases e
      exact ⟨hp, l.nf, l.nc⟩
    · rw [upd_ne ha] at e
      exact S.fr a u e, fun a u e => by
    by_cases ha : a = p
    · subst ha
      rw [upd_same] at e
      cases e
      exact .inl ⟨xs, rfl⟩
    · rw [upd_ne ha] at e
      exact S.yl a u e, S.tb⟩
theorem Sim.unwatch {p : Addr} {o : HO} (S : Sim K (upd Y p o) F ρ h H) (ny : Y p = none) : Sim K Y F ρ h H ∧ Loose Y F ρ h p ∧ H p = some o := by
  obtain ⟨k1, k2, k3⟩ := S.fr p o upd_same
  have key : ∀ a u, Y a = some u → upd Y p o a = some u := fun a u e => by
    rw [upd_ne (ne_of_none e ny)]
    exact e
  exact ⟨⟨S.sub, S.ob, S.inj, fun a u e => S.fr a u (key a u e), fun a u e => S.yl a u (key a u e), S.tb⟩, ⟨ny, k2, k3⟩, k1⟩
theorem Sim.watchK (S : Sim K Y F ρ h H) {p : Addr} {ks : List (Key × V)} (l : Loose Y F ρ h p) (hp : H p = some (.dK ks)) : Sim K (upd Y p (.dK ks)) F ρ h H :=
  ⟨S.sub, S.ob, S.inj, fun a u e => by
    by_cases ha : a = p
    · subst ha
      rw [upd_same] at e
      cases e
      exact ⟨hp, l.nf, l.nc⟩
    · rw [upd_ne ha] at e
      exact S.fr a u e, fun a u e => by
    by_cases ha : a = p
    · subst ha
      rw [upd_same] at e
      cases e
      exact .inr (.inl ⟨ks, rfl⟩)
    · rw [upd_ne ha] at e
      exact S.yl a u e, S.tb⟩
theorem Sim.rewatchK {p : Addr} {xs xs' : List (Key × V)} (S : Sim K (upd Y p (.dK xs)) F ρ h H) (ny : Y p = none) : Sim K (upd Y p (.dK xs')) F ρ h (upd H p (.dK xs')) := by
  obtain ⟨S1, l, hp⟩ := S.unwatch ny
  have tb : LamX.Tabs TC.T (upd H p (.dK xs')) := fun p' hp' => by
    obtain ⟨ps, e1, e2, e3⟩ := S1.tb p' hp'
    refine ⟨ps, ?_, e2, fun pos cv hc => ?_⟩
    · rw [upd_ne (ne_of e1 hp (by intro z; cases z))]
      exact e1
    · obtain ⟨c, ec, hc'⟩ := e3 pos cv hc
      exact ⟨c, ec, by rw [upd_ne (ne_of hc' hp (by intro z; cases z))]; exact hc'⟩
  have S2 : Sim K Y F ρ h (upd H p (.dK xs')) := ⟨fun a u e => by
      rw [upd_ne (ne_of_none e l.nf)]
      exact S1.sub a u e, fun n o2 q => (S1.ob n o2 q).mono (Same.refl _) (fun lv => upd_ne (l.nc n o2 q lv)) fun _ => rfl, S1.inj, fun a u e => by
      obtain ⟨k1, k2, k3⟩ := S1.fr a u e
      exact ⟨by rw [upd_ne (ne_of_none e ny)]; exact k1, k2, k3⟩, S1.yl, tb⟩
  exact S2.watchK l upd_same
/-- what is no list and no dict stands loose, if it is not frozen -/
theorem Sim.looseT (S : Sim K Y F ρ h H) {p : Addr} {xs : List V} (hp : H p = some (.tup xs)) (nf : F p = none) : Loose Y F ρ h p := by
  refine ⟨?_, nf, fun n o e lv z => ?_⟩
  · cases e : Y p with
    | none => rfl
    | some o =>
      have e1 := (S.fr p o e).1
      rw [hp] at e1
      cases e1
      rcases S.yl p _ e with ⟨_, z⟩ | ⟨_, z⟩ | ⟨_, _, z⟩ <;> cases z
  · subst z
    have r := S.ob n o e
    cases o with
    | lst ys =>
      obtain ⟨_, vs, e1, _⟩ := r
      rw [hp] at e1
      cases e1
    | fz _ => exact lv
    | ro _ => exact lv
    | dct _ =>
      obtain ⟨_, ⟨ks, e1, _⟩, _⟩ := r
      rw [hp] at e1
      cases e1
    | dci _ =>
      obtain ⟨_, ks, e1, _⟩ := r
      rw [hp] at e1
      cases e1
    | ins _ _ => exact r
    | gone => exact lv
/-- tuples of a dict's keys, frozen -/
theorem Sim.frzT : ∀ {ks : List (List Key × V)} {bs : List Addr} {zs : List (List Int)} {F : Hp}, Sim K Y F ρ h H → IsKeys H ks bs → Paired (fun p z => p.1 = z.map Sum.inl) ks zs →
    ∃ F', Same F F' ∧ Sim K Y F' ρ h H ∧ RpA K F' (bs.map V.ref) (zs.map keyD)
  | [], [], [], F, S, _, _ => ⟨F, Same.refl _, S, .nil⟩
  | p :: ks, b :: bs, z :: zs, F, S, .cons hb tb, .cons hz tz => by
    have key : ∀ l : List Int, RpA K F ((l.map Sum.inl).map kV) (l.map PyData.int) := fun l => by
      induction l with
      | nil => exact .nil
      | cons i l ih => exact .cons (.int i) ih
    have hb' : H b = some (.tup ((z.map Sum.inl).map kV)) := by
      rw [← hz]
      exact hb
    have fin : ∀ F1, Same F F1 → Sim K Y F1 ρ h H → F1 b = some (.tup ((z.map Sum.inl).map kV)) → ∃ F', Same F F' ∧ Sim K Y F' ρ h H ∧ RpA K F' ((b :: bs).map V.ref) ((z :: zs).map keyD) := fun F1 m1 S1 e1 => by
      obtain ⟨F2, m2, S2, r2⟩ := Sim.frzT S1 tb tz
      exact ⟨F2, m1.trans m2, S2, .cons (.tup (.inl (m2 _ _ e1)) (dpA_mono (m1.trans m2) _ _ (key z))) r2⟩
    cases e : F b with
    | some o =>
      have e1 := S.sub b o e
      rw [hb'] at e1
      cases e1
      exact fin F (Same.refl _) S e
    | none =>
      obtain ⟨S1, m⟩ := S.frz (S.looseT hb' e) hb'
      exact fin _ m S1 upd_same
/-! ### a dict that is walked is watched, its cell is empty meanwhile -/
theorem tabs_updZ {T : List (Addr × Str)} {H : Hp} {a : Addr} {ob : Obj} {ks : List (List Key × V)} {o' : HO} (t : LamX.Tabs T H) (ha : H a = some (.frz ob (.dT ks))) : LamX.Tabs T (upd H a o') := fun p hp => by
  obtain ⟨ps, e1, e2, e3⟩ := t p hp
  refine ⟨ps, ?_, e2, fun pos cv hc => ?_⟩
  · rw [upd_ne (ne_of e1 ha (by intro z; cases z))]
    exact e1
  · obtain ⟨c, ec, hc'⟩ := e3 pos cv hc
    exact ⟨c, ec, by rw [upd_ne (ne_of hc' ha (by intro z; cases z))]; exact hc'⟩
theorem Sim.lock (S : Sim K Y F ρ h H) {n : Nat} {kvs : List (List Int × D)} {ks : List (List Key × V)} (e : h[n]? = some (.dct kvs)) (hp : H (ρ n) = some (.dT ks)) (ob : Obj) :
    Y (ρ n) = none ∧ Sim K (upd Y (ρ n) (.frz ob (.dT ks))) F ρ (h.set n .gone) (upd H (ρ n) (.frz ob (.dT ks))) := by
  have ny : Y (ρ n) = none := by
    cases q : Y (ρ n) with
    | none => rfl
    | some o => exact absurd rfl ((S.fr _ _ q).2.2 n _ e trivial)
  obtain ⟨f0, _⟩ := S.ob n _ e
  have il : n < h.length := (List.getElem?_eq_some_iff.mp e).1
  have back : ∀ j o, (h.set n .gone)[j]? = some o → Live o → n ≠ j ∧ h[j]? = some o := fun j o q l => by
    by_cases hj : n = j
    · subst hj
      rw [List.getElem?_set_self il] at q
      cases q
      exact l.elim
    · rw [List.getElem?_set_ne hj] at q
      exact ⟨hj, q⟩
  have ne : ∀ j o, h[j]? = some o → Live o → n ≠ j → ρ j ≠ ρ n := fun j o q l hj z => hj (S.inj j n o _ q e l trivial z).symm
  refine ⟨ny, ⟨fun a u q => ?_, fun j o q => ?_, fun j m o o' q q' l l' z => ?_, fun a u q => ?_, fun a u q => ?_, tabs_updD S.tb hp⟩⟩
  · rw [upd_ne (ne_of_none q f0)]
    exact S.sub a u q
  · by_cases hj : n = j
    · subst hj
      rw [List.getElem?_set_self il] at q
      cases q
      exact trivial
    · rw [List.getElem?_set_ne hj] at q
      exact (S.ob j o q).mono (Same.refl _) (fun l => upd_ne (ne j o q l hj)) fun _ => rfl
  · exact S.inj j m o o' (back j o q l).2 (back m o' q' l').2 l l' z
  · by_cases ha : a = ρ n
    · subst ha
      rw [upd_same] at q
      cases q
      exact ⟨upd_same, f0, fun j o' q' l => ne j o' (back j o' q' l).2 l (back j o' q' l).1⟩
    · rw [upd_ne ha] at q
      obtain ⟨k1, k2, k3⟩ := S.fr a u q
      exact ⟨by rw [upd_ne ha]; exact k1, k2, fun j o' q' l => k3 j o' (back j o' q' l).2 l⟩
  · by_cases ha : a = ρ n
    · subst ha
      rw [upd_same] at q
      cases q
      exact .inr (.inr ⟨_, _, rfl⟩)
    · rw [upd_ne ha] at q
      exact S.yl a u q
theorem Sim.unlock {n : Nat} {kvs : List (List Int × D)} {ks : List (List Key × V)} {ob : Obj} (S : Sim K (upd Y (ρ n) (.frz ob (.dT ks))) F ρ h H) (ny : Y (ρ n) = none) (e : h[n]? = some .gone) (r : KvR K F ks kvs) (wr : TC.wr = false) :
    Sim K Y F ρ (h.set n (.dct kvs)) (upd H (ρ n) (.dT ks)) ∧ H (ρ n) = some (.frz ob (.dT ks)) := by
  obtain ⟨S1, l, hp⟩ := S.unwatch ny
  have il : n < h.length := (List.getElem?_eq_some_iff.mp e).1
  have cs : ∀ j o, (h.set n (.dct kvs))[j]? = some o → (n = j ∧ o = .dct kvs) ∨ (n ≠ j ∧ h[j]? = some o) := fun j o q => by
    by_cases hj : n = j
    · subst hj
      rw [List.getElem?_set_self il] at q
      exact .inl ⟨rfl, (Option.some.inj q).symm⟩
    · rw [List.getElem?_set_ne hj] at q
      exact .inr ⟨hj, q⟩
  refine ⟨⟨fun a u q => ?_, fun j o q => ?_, fun j m o o' q q' l1 l2 z => ?_, fun a u q => ?_, S1.yl, tabs_updZ S1.tb hp⟩, hp⟩
  · rw [upd_ne (ne_of_none q l.nf)]
    exact S1.sub a u q
  · rcases cs j o q with ⟨rfl, rfl⟩ | ⟨hj, q⟩
    · exact ⟨l.nf, ⟨ks, upd_same, r⟩, wr⟩
    · exact (S1.ob j o q).mono (Same.refl _) (fun lv => upd_ne (l.nc j o q lv)) fun _ => rfl
  · rcases cs j o q with ⟨rfl, rfl⟩ | ⟨hj, q⟩
    · rcases cs m o' q' with ⟨rfl, rfl⟩ | ⟨hm, q'⟩
      · rfl
      · exact absurd z.symm (l.nc m o' q' l2)
    · rcases cs m o' q' with ⟨rfl, rfl⟩ | ⟨hm, q'⟩
      · exact absurd z (l.nc j o q l1)
      · exact S1.inj j m o o' q q' l1 l2 z
  · obtain ⟨k1, k2, k3⟩ := S1.fr a u q
    have ha : a ≠ ρ n := ne_of_none q ny
    refine ⟨by rw [upd_ne ha]; exact k1, k2, fun j o' q' lv => ?_⟩
    rcases cs j o' q' with ⟨rfl, rfl⟩ | ⟨hj, q'⟩
    · exact fun z => ha z.symm
    · exact k3 j o' q' lv
/-- .. and changed -/
theorem Sim.rewatch {p : Addr} {xs xs' : List V} (S : Sim K (upd Y p (.lst xs)) F ρ h H) (ny : Y p = none) : Sim K (upd Y p (.lst xs')) F ρ h (upd H p (.lst xs')) := by
  obtain ⟨S1, l, hp⟩ := S.unwatch ny
  have S2 : Sim K Y F ρ h (upd H p (.lst xs')) := ⟨fun a u e => by
      rw [upd_ne (ne_of_none e l.nf)]
      exact S1.sub a u e, fun n o2 q => (S1.ob n o2 q).mono (Same.refl _) (fun lv => upd_ne (l.nc n o2 q lv)) fun _ => rfl, S1.inj, fun a u e => by
      obtain ⟨k1, k2, k3⟩ := S1.fr a u e
      exact ⟨by rw [upd_ne (ne_of_none e ny)]; exact k1, k2, k3⟩, S1.yl, tabs_upd S1.tb hp⟩
  exact S2.watch l upd_same
end
end Z

set_option linter.all false
set_option autoImplicit false
set_option maxRecDepth 100000
set_option maxHeartbeats 1000000
/-! Z4: readings by the runs. -/
namespace Z
open PySem L2 PySem.Spec PyProof.Rows
variable [TC : TabsC]
section
variable (K : PySem.W.Frag) (ca : Nat → Addr) (W : WX)
/-- what is wanted behind a run -/
def Aft (Y F : Hp) (ρ : Nat → Addr) (n : Nat) (σ : L2.St) (Q : VK) : R Vl → Prop
  | .ok v h => ∀ u F' ρ' H', Ext F ρ n F' ρ' h.length → Sim K Y F' ρ' h H' → RV K F' ρ' h.length v u → Q u H'
  | .ex c h => ∀ F' ρ' H', Ext F ρ n F' ρ' h.length → Sim K Y F' ρ' h H' → W (.ref (ca c)) none σ H'
  | .no => False
def AftA (Y F : Hp) (ρ : Nat → Addr) (n : Nat) (σ : L2.St) (Q : List V → Hp → Prop) : R (List Vl) → Prop
  | .ok v h => ∀ u F' ρ' H', Ext F ρ n F' ρ' h.length → Sim K Y F' ρ' h H' → RVs K F' ρ' h.length v u → Q u H'
  | .ex c h => ∀ F' ρ' H', Ext F ρ n F' ρ' h.length → Sim K Y F' ρ' h H' → W (.ref (ca c)) none σ H'
  | .no => False
def AftT (Y F : Hp) (ρ : Nat → Addr) (n : Nat) (σ : L2.St) (Q : Bool → Hp → Prop) : R Vl → Prop
  | .ok v h => ∃ b, v = .d (.bool b) ∧ ∀ F' ρ' H', Ext F ρ n F' ρ' h.length → Sim K Y F' ρ' h H' → Q b H'
  | .ex c h => ∀ F' ρ' H', Ext F ρ n F' ρ' h.length → Sim K Y F' ρ' h H' → W (.ref (ca c)) none σ H'
  | .no => False
/-- .. a list that stands loose -/
def AftF (Y F : Hp) (ρ : Nat → Addr) (n : Nat) (σ : L2.St) (Q : VK) : R Vl → Prop
  | .ok v h => ∃ xs, v = .d (.list xs) ∧ ∀ p vs F' ρ' H', Ext F ρ n F' ρ' h.length → Sim K Y F' ρ' h H' → Loose Y F' ρ' h p → H' p = some (.lst vs) → RpA K F' vs xs → Q (.ref p) H'
  | .ex c h => ∀ F' ρ' H', Ext F ρ n F' ρ' h.length → Sim K Y F' ρ' h H' → W (.ref (ca c)) none σ H'
  | .no => False
def tE (r : Env → Hep → R Vl) : TE := fun σ H Q => ∃ Y F ρ h s, Sim K Y F ρ h H ∧ EnvR K F ρ h.length s σ ∧ Aft K ca W Y F ρ h.length σ Q (r s h)
def tF (r : Env → Hep → R Vl) : TE := fun σ H Q => ∃ Y F ρ h s, Sim K Y F ρ h H ∧ EnvR K F ρ h.length s σ ∧ AftF K ca W Y F ρ h.length σ Q (r s h)
def tT (r : Env → Hep → R Vl) : TT := fun σ H Q => ∃ Y F ρ h s, Sim K Y F ρ h H ∧ EnvR K F ρ h.length s σ ∧ AftT K ca W Y F ρ h.length σ Q (r s h)
def tA (r : Env → Hep → R (List Vl)) : TA := fun σ H Q => ∃ Y F ρ h s, Sim K Y F ρ h H ∧ EnvR K F ρ h.length s σ ∧ AftA K ca W Y F ρ h.length σ Q (r s h)
/-- in the midst of a run: some values are held -/
def Md (g : List Vl → Env → Hep → R Vl) (us : List V) (σ : L2.St) (H : Hp) (Q : VK) : Prop := ∃ Y F ρ h s vs, Sim K Y F ρ h H ∧ EnvR K F ρ h.length s σ ∧ RVs K F ρ h.length vs us ∧ Aft K ca W Y F ρ h.length σ Q (g vs s h)
def MdF (g : List Vl → Env → Hep → R Vl) (us : List V) (σ : L2.St) (H : Hp) (Q : VK) : Prop := ∃ Y F ρ h s vs, Sim K Y F ρ h H ∧ EnvR K F ρ h.length s σ ∧ RVs K F ρ h.length vs us ∧ AftF K ca W Y F ρ h.length σ Q (g vs s h)
def MdT (g : List Vl → Env → Hep → R Vl) (us : List V) (σ : L2.St) (H : Hp) (Q : Bool → Hp → Prop) : Prop := ∃ Y F ρ h s vs, Sim K Y F ρ h H ∧ EnvR K F ρ h.length s σ ∧ RVs K F ρ h.length vs us ∧ AftT K ca W Y F ρ h.length σ Q (g vs s h)
end
section
variable {K : PySem.W.Frag} {ca : Nat → Addr} {W : WX} {Y F F1 : Hp} {ρ ρ1 : Nat → Addr} {n n1 : Nat} {σ : L2.St} {H : Hp} {Q : VK} {h : Hep}
theorem Aft.mono {r : R Vl} (e : Ext F ρ n F1 ρ1 n1) (a : Aft K ca W Y F ρ n σ Q r) : Aft K ca W Y F1 ρ1 n1 σ Q r := by
  cases r with
  | ok v h => exact fun u F' ρ' H' x S r => a u F' ρ' H' (e.trans x) S r
  | ex c h => exact fun F' ρ' H' x S => a F' ρ' H' (e.trans x) S
  | no => exact a
theorem AftF.mono {r : R Vl} (e : Ext F ρ n F1 ρ1 n1) (a : AftF K ca W Y F ρ n σ Q r) : AftF K ca W Y F1 ρ1 n1 σ Q r := by
  cases r with
  | ok v h =>
    obtain ⟨xs, ev, k⟩ := a
    exact ⟨xs, ev, fun p vs F' ρ' H' x => k p vs F' ρ' H' (e.trans x)⟩
  | ex c h => exact fun F' ρ' H' x S => a F' ρ' H' (e.trans x) S
  | no => exact a
theorem AftT.mono {r : R Vl} {Q : Bool → Hp → Prop} (e : Ext F ρ n F1 ρ1 n1) (a : AftT K ca W Y F ρ n σ Q r) : AftT K ca W Y F1 ρ1 n1 σ Q r := by
  cases r with
  | ok v h =>
    obtain ⟨b, ev, k⟩ := a
    exact ⟨b, ev, fun F' ρ' H' x => k F' ρ' H' (e.trans x)⟩
  | ex c h => exact fun F' ρ' H' x S => a F' ρ' H' (e.trans x) S
  | no => exact a
theorem AftA.mono {r : R (List Vl)} {Q : List V → Hp → Prop} (e : Ext F ρ n F1 ρ1 n1) (a : AftA K ca W Y F ρ n σ Q r) : AftA K ca W Y F1 ρ1 n1 σ Q r := by
  cases r with
  | ok v h => exact fun u F' ρ' H' x S r => a u F' ρ' H' (e.trans x) S r
  | ex c h => exact fun F' ρ' H' x S => a F' ρ' H' (e.trans x) S
  | no => exact a
theorem paired_snoc {α β : Type} {R : α → β → Prop} : ∀ {xs : List α} {ys : List β} {x : α} {y : β}, Paired R xs ys → R x y → Paired R (xs ++ [x]) (ys ++ [y])
  | _, _, _, _, .nil, r => .cons r .nil
  | _, _, _, _, .cons q t, r => .cons q (paired_snoc t r)
theorem paired_app {α β : Type} {R : α → β → Prop} : ∀ {xs xs' : List α} {ys ys' : List β}, Paired R xs ys → Paired R xs' ys' → Paired R (xs ++ xs') (ys ++ ys')
  | _, _, _, _, .nil, r => r
  | _, _, _, _, .cons q t, r => .cons q (paired_app t r)
theorem md_of {r : Env → Hep → R Vl} (t : tE K ca W r σ H Q) : Md K ca W (fun _ => r) [] σ H Q := by
  obtain ⟨Y, F, ρ, h, s, S, E, a⟩ := t
  exact ⟨Y, F, ρ, h, s, [], S, E, .nil, a⟩
theorem mdF_of {r : Env → Hep → R Vl} (t : tF K ca W r σ H Q) : MdF K ca W (fun _ => r) [] σ H Q := by
  obtain ⟨Y, F, ρ, h, s, S, E, a⟩ := t
  exact ⟨Y, F, ρ, h, s, [], S, E, .nil, a⟩
theorem mdT_of {r : Env → Hep → R Vl} {Q : Bool → Hp → Prop} (t : tT K ca W r σ H Q) : MdT K ca W (fun _ => r) [] σ H Q := by
  obtain ⟨Y, F, ρ, h, s, S, E, a⟩ := t
  exact ⟨Y, F, ρ, h, s, [], S, E, .nil, a⟩
theorem md_step {ra : Env → Hep → R Vl} {g : List Vl → Env → Hep → R Vl} {us : List V} (t : Md K ca W (fun vs s h => bnd (ra s h) fun v h1 => g (vs ++ [v]) s h1) us σ H Q) : tE K ca W ra σ H fun x H1 => Md K ca W g (us ++ [x]) σ H1 Q := by
  obtain ⟨Y, F, ρ, h, s, vs, S, E, r, a⟩ := t
  dsimp only at a
  refine ⟨Y, F, ρ, h, s, S, E, ?_⟩
  cases e : ra s h with
  | ok v h1 =>
    rw [e] at a
    exact fun u F' ρ' H' x S' rv => ⟨Y, F', ρ', h1, s, vs ++ [v], S', E.mono x, paired_snoc (RVs.mono x r) rv, Aft.mono x a⟩
  | ex c h1 =>
    rw [e] at a
    exact a
  | no =>
    rw [e] at a
    exact a
theorem mdF_step {ra : Env → Hep → R Vl} {g : List Vl → Env → Hep → R Vl} {us : List V} (t : MdF K ca W (fun vs s h => bnd (ra s h) fun v h1 => g (vs ++ [v]) s h1) us σ H Q) : tE K ca W ra σ H fun x H1 => MdF K ca W g (us ++ [x]) σ H1 Q := by
  obtain ⟨Y, F, ρ, h, s, vs, S, E, r, a⟩ := t
  dsimp only at a
  refine ⟨Y, F, ρ, h, s, S, E, ?_⟩
  cases e : ra s h with
  | ok v h1 =>
    rw [e] at a
    exact fun u F' ρ' H' x S' rv => ⟨Y, F', ρ', h1, s, vs ++ [v], S', E.mono x, paired_snoc (RVs.mono x r) rv, AftF.mono x a⟩
  | ex c h1 =>
    rw [e] at a
    exact a
  | no =>
    rw [e] at a
    exact a
theorem mdT_step {ra : Env → Hep → R Vl} {g : List Vl → Env → Hep → R Vl} {us : List V} {Q : Bool → Hp → Prop} (t : MdT K ca W (fun vs s h => bnd (ra s h) fun v h1 => g (vs ++ [v]) s h1) us σ H Q) : tE K ca W ra σ H fun x H1 => MdT K ca W g (us ++ [x]) σ H1 Q := by
  obtain ⟨Y, F, ρ, h, s, vs, S, E, r, a⟩ := t
  dsimp only at a
  refine ⟨Y, F, ρ, h, s, S, E, ?_⟩
  cases e : ra s h with
  | ok v h1 =>
    rw [e] at a
    exact fun u F' ρ' H' x S' rv => ⟨Y, F', ρ', h1, s, vs ++ [v], S', E.mono x, paired_snoc (RVs.mono x r) rv, AftT.mono x a⟩
  | ex c h1 =>
    rw [e] at a
    exact a
  | no =>
    rw [e] at a
    exact a
/-- a test first -/
theorem mdC_step {ra : Env → Hep → R Vl} {g : Bool → Env → Hep → R Vl} (t : tE K ca W (fun s h => bnd (ra s h) fun v h1 => match v with
    | .d (.bool b) => g b s h1
    | _ => .no) σ H Q) : tT K ca W ra σ H fun b H1 => tE K ca W (g b) σ H1 Q := by
  obtain ⟨Y, F, ρ, h, s, S, E, a⟩ := t
  dsimp only at a
  refine ⟨Y, F, ρ, h, s, S, E, ?_⟩
  cases e : ra s h with
  | ok v h1 =>
    rw [e] at a
    unfold bnd at a
    dsimp only at a
    split at a
    · exact ⟨_, rfl, fun F' ρ' H' x S' => ⟨Y, F', ρ', h1, s, S', E.mono x, Aft.mono x a⟩⟩
    · exact a.elim
  | ex c h1 =>
    rw [e] at a
    exact a
  | no =>
    rw [e] at a
    exact a
theorem mdCT_step {ra : Env → Hep → R Vl} {g : Bool → Env → Hep → R Vl} {Q : Bool → Hp → Prop} (t : tT K ca W (fun s h => bnd (ra s h) fun v h1 => match v with
    | .d (.bool b) => g b s h1
    | _ => .no) σ H Q) : tT K ca W ra σ H fun b H1 => tT K ca W (g b) σ H1 Q := by
  obtain ⟨Y, F, ρ, h, s, S, E, a⟩ := t
  dsimp only at a
  refine ⟨Y, F, ρ, h, s, S, E, ?_⟩
  cases e : ra s h with
  | ok v h1 =>
    rw [e] at a
    unfold bnd at a
    dsimp only at a
    split at a
    · exact ⟨_, rfl, fun F' ρ' H' x S' => ⟨Y, F', ρ', h1, s, S', E.mono x, AftT.mono x a⟩⟩
    · exact a.elim
  | ex c h1 =>
    rw [e] at a
    exact a
  | no =>
    rw [e] at a
    exact a
theorem mdA_step {ra : Env → Hep → R (List Vl)} {g : List Vl → Env → Hep → R Vl} {us : List V} (t : Md K ca W (fun vs s h => bnd (ra s h) fun ws h1 => g (vs ++ ws) s h1) us σ H Q) : tA K ca W ra σ H fun ys H1 => Md K ca W g (us ++ ys) σ H1 Q := by
  obtain ⟨Y, F, ρ, h, s, vs, S, E, r, a⟩ := t
  dsimp only at a
  refine ⟨Y, F, ρ, h, s, S, E, ?_⟩
  cases e : ra s h with
  | ok v h1 =>
    rw [e] at a
    exact fun u F' ρ' H' x S' rv => ⟨Y, F', ρ', h1, s, vs ++ v, S', E.mono x, paired_app (RVs.mono x r) rv, Aft.mono x a⟩
  | ex c h1 =>
    rw [e] at a
    exact a
  | no =>
    rw [e] at a
    exact a
theorem mdAF_step {ra : Env → Hep → R (List Vl)} {g : List Vl → Env → Hep → R Vl} {us : List V} (t : MdF K ca W (fun vs s h => bnd (ra s h) fun ws h1 => g (vs ++ ws) s h1) us σ H Q) : tA K ca W ra σ H fun ys H1 => MdF K ca W g (us ++ ys) σ H1 Q := by
  obtain ⟨Y, F, ρ, h, s, vs, S, E, r, a⟩ := t
  dsimp only at a
  refine ⟨Y, F, ρ, h, s, S, E, ?_⟩
  cases e : ra s h with
  | ok v h1 =>
    rw [e] at a
    exact fun u F' ρ' H' x S' rv => ⟨Y, F', ρ', h1, s, vs ++ v, S', E.mono x, paired_app (RVs.mono x r) rv, AftF.mono x a⟩
  | ex c h1 =>
    rw [e] at a
    exact a
  | no =>
    rw [e] at a
    exact a
/-! ### ends -/
theorem fin_d {x : D} {u : V} (S : Sim K Y F ρ h H) (a : Aft K ca W Y F ρ h.length σ Q (.ok (.d x) h)) (d : Rp K F u x) : Q u H := a u F ρ H Ext.refl S d
theorem fin_tup {p : Addr} {vs : List V} {xs : List D} (S : Sim K Y F ρ h H) (a : Aft K ca W Y F ρ h.length σ Q (.ok (.d (.tuple xs)) h)) (hp : H p = none) (d : RpA K F vs xs) : Q (.ref p) (upd H p (.tup vs)) := by
  have l := S.loose hp
  obtain ⟨S2, m⟩ := (S.new (o := .tup vs) hp).frz l upd_same
  exact a _ _ ρ _ (Ext.frz l.nf) S2 (Rp.tup (.inl upd_same) (dpA_mono m _ _ d))
theorem fin_lst {p : Addr} {vs : List V} {xs : List D} (S : Sim K Y F ρ h H) (a : Aft K ca W Y F ρ h.length σ Q (.ok (.d (.list xs)) h)) (hp : H p = none) (d : RpA K F vs xs) : Q (.ref p) (upd H p (.lst vs)) := by
  have l := S.loose hp
  obtain ⟨S2, m⟩ := (S.new (o := .lst vs) hp).frz l upd_same
  exact a _ _ ρ _ (Ext.frz l.nf) S2 (Rp.lst upd_same (dpA_mono m _ _ d))
theorem fin_loose {p : Addr} {vs : List V} {xs : List D} (S : Sim K Y F ρ h H) (a : AftF K ca W Y F ρ h.length σ Q (.ok (.d (.list xs)) h)) (hp : H p = none) (d : RpA K F vs xs) : Q (.ref p) (upd H p (.lst vs)) := by
  obtain ⟨ys, e, k⟩ := a
  cases e
  exact k p vs F ρ _ Ext.refl (S.new hp) (S.loose hp) upd_same d
/-- a loose list is as good as data -/
theorem AftF.of {r : R Vl} (l : ∀ v h, r = .ok v h → ∃ xs, v = .d (.list xs)) (a : Aft K ca W Y F ρ n σ Q r) : AftF K ca W Y F ρ n σ Q r := by
  cases r with
  | ok v h =>
    obtain ⟨xs, rfl⟩ := l v h rfl
    refine ⟨xs, rfl, fun p vs F' ρ' H' x S lo hp d => ?_⟩
    obtain ⟨S2, m⟩ := S.frz lo hp
    exact a _ _ ρ' H' (x.trans (Ext.frz lo.nf)) S2 (Rp.lst upd_same (dpA_mono m _ _ d))
  | ex c h => exact a
  | no => exact a
theorem PE.imp {X : Cx} {e : Expr} {t t' : TE} (p : PE X e t) (i : ∀ σ H Q, t' σ H Q → t σ H Q) : PE X e t' := ⟨fun pins s σ H Q I q => p.run pins s σ H Q I (i σ H Q q)⟩
theorem PT.imp {X : Cx} {e : Expr} {t t' : TT} (p : PT X e t) (i : ∀ σ H Q, t' σ H Q → t σ H Q) : PT X e t' := ⟨fun pins s σ H Q I q => p.run pins s σ H Q I (i σ H Q q)⟩
theorem PW.imp {X : Cx} {e : Expr} {t t' : TT} (p : PW X e t) (i : ∀ σ H Q, t' σ H Q → t σ H Q) : PW X e t' := ⟨fun wh pins s σ H Q I q => p.run wh pins s σ H Q I (i σ H Q q)⟩
theorem PA.imp {X : Cx} {es : List Expr} {t t' : TA} (p : PA X es t) (i : ∀ σ H Q, t' σ H Q → t σ H Q) : PA X es t' := ⟨fun pos pins s σ H Q I q => p.run pos pins s σ H Q I (i σ H Q q)⟩
theorem tE_of_tF {X : Cx} {e : Expr} {r : Env → Hep → R Vl} (l : ∀ s h v h', r s h = .ok v h' → ∃ xs, v = .d (.list xs)) (p : PE X e (tF K ca W r)) : PE X e (tE K ca W r) := PE.imp p fun σ H Q ⟨Y, F, ρ, h, s, S, E, a⟩ => ⟨Y, F, ρ, h, s, S, E, AftF.of (l s h) a⟩
/-- a test by the value -/
theorem tT_val {r : Env → Hep → R Vl} {Q : Bool → Hp → Prop} (t : tT K ca W r σ H Q) : tE K ca W r σ H fun x H1 => ∃ c, x = .bl c ∧ Q c H1 := by
  obtain ⟨Y, F, ρ, h, s, S, E, a⟩ := t
  refine ⟨Y, F, ρ, h, s, S, E, ?_⟩
  cases e : r s h with
  | ok v h1 =>
    rw [e] at a
    obtain ⟨b, rfl, k⟩ := a
    intro u F' ρ' H' x S' rv
    cases rv
    exact ⟨b, rfl, k F' ρ' H' x S'⟩
  | ex c h1 =>
    rw [e] at a
    exact a
  | no =>
    rw [e] at a
    exact a
end
end Z

set_option linter.all false
set_option autoImplicit false
set_option maxRecDepth 100000
set_option maxHeartbeats 1000000
/-! Z5: operations by values. -/
namespace Z
open PySem L2 PySem.Spec PyProof.Rows
variable [TC : TabsC]
theorem OpR.imp {X : Cx} {f : Value → Value → Sem Value} {r r' : R2} (o : OpR X f r) (i : ∀ x y H Q, r' x y H Q → r x y H Q) : OpR X f r' := fun pins s σ H x y v u Q I rx ry q => o pins s σ H x y v u Q I rx ry (i _ _ _ _ q)
theorem CallR.imp {X : Cx} {f : Value} {r r' : List V → Hp → VK → Prop} (o : CallR X f r) (i : ∀ xs H Q, r' xs H Q → r xs H Q) : CallR X f r' := fun pins s σ H xs us Q I rx q => o pins s σ H xs us Q I rx (i _ _ _ q)
section
variable (K : PySem.W.Frag) (ca : Nat → Addr) (W : WX)
/-- two held values and an operation on them -/
def rOp2 (f : Vl → Vl → Hep → R Vl) : R2 := fun x y H Q => ∃ Y F ρ h σ v u, Sim K Y F ρ h H ∧ RV K F ρ h.length v x ∧ RV K F ρ h.length u y ∧ Aft K ca W Y F ρ h.length σ Q (f v u h)
def rOp2F (f : Vl → Vl → Hep → R Vl) : R2 := fun x y H Q => ∃ Y F ρ h σ v u, Sim K Y F ρ h H ∧ RV K F ρ h.length v x ∧ RV K F ρ h.length u y ∧ AftF K ca W Y F ρ h.length σ Q (f v u h)
def rOp1 (f : Vl → Hep → R Vl) : V → Hp → VK → Prop := fun x H Q => ∃ Y F ρ h σ v, Sim K Y F ρ h H ∧ RV K F ρ h.length v x ∧ Aft K ca W Y F ρ h.length σ Q (f v h)
end
section
variable {X : Cx} {ca : Nat → Addr} {W : WX}
/-- what a two-place operation on data asks -/
theorem op2_cases {K : PySem.W.Frag} {Y F : Hp} {ρ : Nat → Addr} {h : Hep} {σ : L2.St} {Q : VK} {f : D → D → Option D} {v u : Vl} (a : Aft K ca W Y F ρ h.length σ Q (op2 f v u h)) :
    ∃ x y z, peek h v = some x ∧ peek h u = some y ∧ f x y = some z ∧ Aft K ca W Y F ρ h.length σ Q (.ok (.d z) h) := by
  unfold op2 at a
  split at a
  · rename_i x y q1 q2
    cases e : f x y with
    | none =>
      rw [e] at a
      exact a.elim
    | some z =>
      rw [e] at a
      exact ⟨x, y, z, q1, q2, e, a⟩
  · exact a.elim
theorem op2R_cases {K : PySem.W.Frag} {Y F : Hp} {ρ : Nat → Addr} {h : Hep} {σ : L2.St} {Q : VK} {f : D → D → Option D} {v u : Vl} (a : Aft K ca W Y F ρ h.length σ Q (op2R f v u h)) :
    ∃ x y z, peekR h v = some x ∧ peekR h u = some y ∧ f x y = some z ∧ Aft K ca W Y F ρ h.length σ Q (.ok (.d z) h) := by
  unfold op2R at a
  split at a
  · rename_i x y q1 q2
    cases e : f x y with
    | none =>
      rw [e] at a
      exact a.elim
    | some z =>
      rw [e] at a
      exact ⟨x, y, z, q1, q2, e, a⟩
  · exact a.elim
theorem op2F_cases {K : PySem.W.Frag} {Y F : Hp} {ρ : Nat → Addr} {h : Hep} {σ : L2.St} {Q : VK} {f : D → D → Option D} {v u : Vl} (a : AftF K ca W Y F ρ h.length σ Q (op2 f v u h)) :
    ∃ x y z, peek h v = some x ∧ peek h u = some y ∧ f x y = some (.list z) ∧ AftF K ca W Y F ρ h.length σ Q (.ok (.d (.list z)) h) := by
  unfold op2 at a
  split at a
  · rename_i x y q1 q2
    cases e : f x y with
    | none =>
      rw [e] at a
      exact a.elim
    | some z =>
      rw [e] at a
      obtain ⟨xs, e2, _⟩ := id a
      have e3 : z = .list xs := by injection e2
      subst e3
      exact ⟨x, y, xs, q1, q2, e, a⟩
  · exact a.elim
theorem op1_cases {K : PySem.W.Frag} {Y F : Hp} {ρ : Nat → Addr} {h : Hep} {σ : L2.St} {Q : VK} {f : D → Option D} {v : Vl} (a : Aft K ca W Y F ρ h.length σ Q (op1 f v h)) :
    ∃ x z, peek h v = some x ∧ f x = some z ∧ Aft K ca W Y F ρ h.length σ Q (.ok (.d z) h) := by
  unfold op1 at a
  split at a
  · rename_i x q1
    cases e : f x with
    | none =>
      rw [e] at a
      exact a.elim
    | some z =>
      rw [e] at a
      exact ⟨x, z, q1, e, a⟩
  · exact a.elim
theorem op1R_cases {K : PySem.W.Frag} {Y F : Hp} {ρ : Nat → Addr} {h : Hep} {σ : L2.St} {Q : VK} {f : D → Option D} {v : Vl} (a : Aft K ca W Y F ρ h.length σ Q (op1R f v h)) :
    ∃ x z, peekR h v = some x ∧ f x = some z ∧ Aft K ca W Y F ρ h.length σ Q (.ok (.d z) h) := by
  unfold op1R at a
  split at a
  · rename_i x q1
    cases e : f x with
    | none =>
      rw [e] at a
      exact a.elim
    | some z =>
      rw [e] at a
      exact ⟨x, z, q1, e, a⟩
  · exact a.elim
theorem dp_int {K : PySem.W.Frag} {H : Hp} {u : V} {i : Int} (d : Dp K H u (.int i)) : u = .int i := by
  cases d
  rfl
theorem dp_str {K : PySem.W.Frag} {H : Hp} {u : V} {i : Str} (d : Dp K H u (.str i)) : u = .str i := by
  cases d
  rfl
theorem dp_bl {K : PySem.W.Frag} {H : Hp} {u : V} {i : Bool} (d : Dp K H u (.bool i)) : u = .bl i := by
  cases d
  rfl
theorem rp_tup {K : PySem.W.Frag} {Y F H : Hp} {ρ : Nat → Addr} {h : Hep} {v : Vl} {u : V} {xs : List D} (S : Sim K Y F ρ h H) (r : RV K F ρ h.length v u) (e : peekR h v = some (.tuple xs)) : ∃ a vs, u = .ref a ∧ TupF K F a vs ∧ RpA K F vs xs := by
  have e2 := peekR_nl e fun _ z => by cases z
  subst e2
  cases r with
  | tup s a => exact ⟨_, _, rfl, s, a⟩
/-! ### + - * // % ** -/
theorem op_addZ : OpR X (binaryOp .Add) (rOp2 X.K ca W (op2 (binD .add))) := by
  refine OpR.imp (((op_add (X := X)).or (op_add_str (X := X))).or ((op_catA (X := X)).or (op_cat (X := X)))) fun x y H Q ⟨Y, F, ρ, h, σ, v, u, S, r1, r2, a⟩ => ?_
  obtain ⟨dx, dy, z, q1, q2, e, a⟩ := op2_cases a
  have e : addD dx dy = some _ := e
  unfold addD at e
  split at e
  all_goals first
    | (cases e; done)
    | skip
  · cases e
    have e1 := dp_int (peek_ok S r1 q1)
    have e2 := dp_int (peek_ok S r2 q2)
    exact .inl (.inl ⟨_, _, e1, e2, fin_d S a (.int _)⟩)
  · split at e
    · rename_i hz
      cases e
      have e1 := dp_str (peek_ok S r1 q1)
      have e2 := dp_str (peek_ok S r2 q2)
      exact .inl (.inr ⟨_, _, e1, e2, of_decide_eq_true hz, fin_d S a (.str _)⟩)
    · cases e
  · split at e
    · rename_i hz
      cases e
      obtain ⟨a1, vs, rfl, s1, d1⟩ := rp_tup S r1 (peekR_of q1)
      obtain ⟨a2, us, rfl, s2, d2⟩ := rp_tup S r2 (peekR_of q2)
      have l1 := dpA_len d1
      have l2 := dpA_len d2
      refine .inr (.inl ⟨a1, a2, vs, us, rfl, rfl, sqT_mono S.sub s1.sq, sqT_mono S.sub s2.sq, by rw [l1, l2]; exact of_decide_eq_true hz, fun e0 => ?_, fun _ e0 => ?_, fun _ _ p hp => ?_⟩)
      · subst e0
        cases d1
        exact fin_d S a (.tup s2 d2)
      · subst e0
        cases d2
        rw [List.append_nil] at a
        exact fin_d S a (.tup s1 d1)
      · exact fin_tup S a hp (dpA_app d1 d2)
    · cases e
  · split at e
    · rename_i hz
      cases e
      obtain ⟨a1, vs, rfl, s1, d1⟩ := peek_list S r1 q1
      obtain ⟨a2, us, rfl, s2, d2⟩ := peek_list S r2 q2
      have l1 := dpA_len d1
      have l2 := dpA_len d2
      exact .inr (.inr ⟨a1, a2, vs, us, rfl, rfl, s1, s2, by rw [l1, l2]; exact of_decide_eq_true hz, fun p hp => fin_lst S a hp (dpA_app d1 d2)⟩)
    · cases e
theorem op_addF : OpR X (binaryOp .Add) (rOp2F X.K ca W (op2 (binD .add))) := by
  refine OpR.imp (op_cat (X := X)) fun x y H Q ⟨Y, F, ρ, h, σ, v, u, S, r1, r2, a⟩ => ?_
  obtain ⟨dx, dy, z, q1, q2, e, a⟩ := op2F_cases a
  have e : addD dx dy = some _ := e
  unfold addD at e
  split at e
  all_goals first
    | (cases e; done)
    | skip
  · split at e <;> cases e
  · split at e <;> cases e
  · split at e
    · rename_i hz
      cases e
      obtain ⟨a1, vs, rfl, s1, d1⟩ := peek_list S r1 q1
      obtain ⟨a2, us, rfl, s2, d2⟩ := peek_list S r2 q2
      have l1 := dpA_len d1
      have l2 := dpA_len d2
      exact ⟨a1, a2, vs, us, rfl, rfl, s1, s2, by rw [l1, l2]; exact of_decide_eq_true hz, fun p hp => fin_loose S a hp (dpA_app d1 d2)⟩
    · cases e
theorem op_subZ : OpR X (binaryOp .Sub) (rOp2 X.K ca W (op2 (binD .sub))) := by
  refine OpR.imp (op_sub (X := X)) fun x y H Q ⟨Y, F, ρ, h, σ, v, u, S, r1, r2, a⟩ => ?_
  obtain ⟨dx, dy, z, q1, q2, e, a⟩ := op2_cases a
  have e : subD dx dy = some _ := e
  unfold subD at e
  split at e
  all_goals first
    | (cases e; done)
    | skip
  cases e
  have e1 := dp_int (peek_ok S r1 q1)
  have e2 := dp_int (peek_ok S r2 q2)
  exact ⟨_, _, e1, e2, fin_d S a (.int _)⟩
theorem op_mulS : OpR X (binaryOp .Mult) (fun x y H Q => ∃ (i : Str) (j : Int), x = .str i ∧ y = .int j ∧ MulOk i j ∧ Q (.str (Txt.mul i j)) H) := by
  intro pins s σ H x y v u Q I rx ry q
  obtain ⟨i, j, rfl, rfl, ok, q⟩ := q
  obtain ⟨t, rfl⟩ := rx
  obtain ⟨t', rfl⟩ := ry
  exact SB.mul ok fun t' k => ⟨.str _, H, I.kept (t' := k) fun _ _ z => z, ⟨_, rfl⟩, q⟩
theorem op_mulZ : OpR X (binaryOp .Mult) (rOp2 X.K ca W (op2 (binD .mul))) := by
  refine OpR.imp (((op_mulW (X := X)).or (op_mul (X := X))).or (op_mulS (X := X))) fun x y H Q ⟨Y, F, ρ, h, σ, v, u, S, r1, r2, a⟩ => ?_
  obtain ⟨dx, dy, z, q1, q2, e, a⟩ := op2_cases a
  have e : mulD dx dy = some _ := e
  unfold mulD at e
  split at e
  all_goals first
    | (cases e; done)
    | skip
  · split at e
    · rename_i hz
      cases e
      have e1 := dp_int (peek_ok S r1 q1)
      have e2 := dp_int (peek_ok S r2 q2)
      simp only [Bool.or_eq_true, decide_eq_true_eq] at hz
      rcases hz with (hz | hz) | hz
      · have hz2 : bits _ + bits _ < 1000000 := hz
        exact .inl (.inl ⟨_, _, e1, e2, hz2, fin_d S a (.int _)⟩)
      · exact .inl (.inr ⟨_, _, e1, e2, .inl (by omega), fin_d S a (.int _)⟩)
      · exact .inl (.inr ⟨_, _, e1, e2, .inr (by omega), fin_d S a (.int _)⟩)
    · cases e
  · split at e
    · rename_i hz
      cases e
      simp only [Bool.and_eq_true, decide_eq_true_eq] at hz
      have e1 := dp_str (peek_ok S r1 q1)
      have e2 := dp_int (peek_ok S r2 q2)
      exact .inr ⟨_, _, e1, e2, mulOk_of 1000 1000 hz.2 (by omega) (by omega) (by decide) (by decide), fin_d S a (.str _)⟩
    · cases e
theorem op_fdivZ : OpR X (binaryOp .FloorDiv) (rOp2 X.K ca W (op2 (binD .fdiv))) := by
  refine OpR.imp (op_fdivW (X := X)) fun x y H Q ⟨Y, F, ρ, h, σ, v, u, S, r1, r2, a⟩ => ?_
  obtain ⟨dx, dy, z, q1, q2, e, a⟩ := op2_cases a
  have e : fdivD dx dy = some _ := e
  unfold fdivD at e
  split at e
  all_goals first
    | (cases e; done)
    | skip
  split at e
  · rename_i hz
    cases e
    simp only [Bool.and_eq_true, decide_eq_true_eq] at hz
    have e1 := dp_int (peek_ok S r1 q1)
    have e2 := dp_int (peek_ok S r2 q2)
    exact ⟨_, _, e1, e2, hz, fin_d S a (.int _)⟩
  · cases e
theorem op_modZ : OpR X (binaryOp .Mod) (rOp2 X.K ca W (op2 (binD .mod))) := by
  refine OpR.imp (op_mod (X := X)) fun x y H Q ⟨Y, F, ρ, h, σ, v, u, S, r1, r2, a⟩ => ?_
  obtain ⟨dx, dy, z, q1, q2, e, a⟩ := op2_cases a
  have e : modD dx dy = some _ := e
  unfold modD at e
  split at e
  all_goals first
    | (cases e; done)
    | skip
  split at e
  · rename_i hz
    cases e
    have e1 := dp_int (peek_ok S r1 q1)
    have e2 := dp_int (peek_ok S r2 q2)
    exact ⟨_, _, e1, e2, of_decide_eq_true hz, fin_d S a (.int _)⟩
  · cases e
theorem op_powZ : OpR X (binaryOp .Pow) (rOp2 X.K ca W (op2 (binD .pow))) := by
  refine OpR.imp (op_pow (X := X)) fun x y H Q ⟨Y, F, ρ, h, σ, v, u, S, r1, r2, a⟩ => ?_
  obtain ⟨dx, dy, z, q1, q2, e, a⟩ := op2_cases a
  have e : powD dx dy = some _ := e
  unfold powD at e
  split at e
  all_goals first
    | (cases e; done)
    | skip
  split at e
  · rename_i hz
    cases e
    simp only [Bool.and_eq_true, decide_eq_true_eq] at hz
    have e1 := dp_int (peek_ok S r1 q1)
    have e2 := dp_int (peek_ok S r2 q2)
    exact ⟨_, _, e1, e2, ⟨hz.1.1, hz.1.2, hz.2⟩, fin_d S a (.int _)⟩
  · cases e
theorem op_binZ {op : Operator} {o : Bop} (e : trBop op = some o) : OpR X (binaryOp op) (rOp2 X.K ca W (op2 (binD o))) := by
  cases op <;> first
    | (cases e; done)
    | (cases e; first | exact op_addZ | exact op_subZ | exact op_mulZ | exact op_fdivZ | exact op_modZ | exact op_powZ)

/-! ### comparisons -/
theorem sq_dp {K : PySem.W.Frag} {F H : Hp} (m : Same F H) {vs : List V} {xs : List D} (d : RpA K F vs xs) : DpAll K H vs xs := rpA_dp m _ _ d
theorem op_inT (hu : X.A.units + 65 < cLine) : OpR X (compareOp .In) (fun x y H Q => ∃ d ds, Dp X.K H x d ∧ Dp X.K H y (.tuple ds) ∧ SeqAt.shaped d = true ∧ SeqAt.shaped (.list ds) = true ∧ Q (.bl (ds.any fun z => PyData.eqv z d)) H) := by
  intro pins s σ H x y v u Q I rx ry q
  obtain ⟨d, ds, hd, he, sd, se, q⟩ := q
  obtain ⟨as, r1⟩ := Dp.reads I d x v hd rx
  obtain ⟨bs, r2⟩ := Dp.reads I (.tuple ds) y u he ry
  have room : X.A.units + 1 + min (PyData.depthAll ds) d.depth < cLine := by
    have := SeqAt.depth_of_shaped sd
    omega
  exact SeqAt.in_tuple_reads r2 r1 (SeqAt.canLay_of_shaped se) (SeqAt.canLay_of_shaped sd) room ⟨.bl _, H, I, rfl, q⟩
theorem op_ninT (hu : X.A.units + 65 < cLine) : OpR X (compareOp .NotIn) (fun x y H Q => ∃ d ds, Dp X.K H x d ∧ Dp X.K H y (.tuple ds) ∧ SeqAt.shaped d = true ∧ SeqAt.shaped (.list ds) = true ∧ Q (.bl (!ds.any fun z => PyData.eqv z d)) H) := by
  intro pins s σ H x y v u Q I rx ry q
  obtain ⟨d, ds, hd, he, sd, se, q⟩ := q
  obtain ⟨as, r1⟩ := Dp.reads I d x v hd rx
  obtain ⟨bs, r2⟩ := Dp.reads I (.tuple ds) y u he ry
  have room : X.A.units + 1 + min (PyData.depthAll ds) d.depth < cLine := by
    have := SeqAt.depth_of_shaped sd
    omega
  exact SeqAt.notIn_tuple_reads r2 r1 (SeqAt.canLay_of_shaped se) (SeqAt.canLay_of_shaped sd) room ⟨.bl _, H, I, rfl, q⟩
theorem one_sign {x : Str} {c : Nat} (e : x.cps.toList = [c]) : x = ⟨#[c]⟩ := by
  obtain ⟨⟨l⟩⟩ := x
  have e' : l = [c] := e
  subst e'
  rfl
theorem inS_cases {x y : Str} {b : Bool} (e : inS x y = some b) : ∃ c, x = ⟨#[c]⟩ ∧ b = decide (c ∈ y.cps.toList) := by
  unfold inS at e
  split at e
  · rename_i c q
    exact ⟨c, one_sign q, (Option.some.inj e).symm⟩
  · cases e
theorem hasD_cases {x : D} {ys : List D} {b : Bool} (e : hasD x ys = some b) : SeqAt.shaped x = true ∧ SeqAt.shaped (.list ys) = true ∧ b = ys.any fun z => PyData.eqv z x := by
  unfold hasD at e
  split at e
  · rename_i q
    obtain ⟨q1, q2⟩ := Bool.and_eq_true_iff.mp q
    exact ⟨q1, q2, (Option.some.inj e).symm⟩
  · cases e
theorem eqD_cases {x y : D} {b : Bool} (e : eqD x y = some b) : SeqAt.shaped x = true ∧ SeqAt.shaped y = true ∧ b = PyData.eqv x y := by
  unfold eqD at e
  split at e
  · rename_i q
    obtain ⟨q1, q2⟩ := Bool.and_eq_true_iff.mp q
    exact ⟨q1, q2, (Option.some.inj e).symm⟩
  · cases e
/-- a comparison's run -/
abbrev cmpW (o : Cop) (v u : Vl) (h : Hep) : R Vl := op2R (fun x y => (cmpD o x y).map .bool) v u h
theorem cmp_cases {K : PySem.W.Frag} {Y F : Hp} {ρ : Nat → Addr} {h : Hep} {σ : L2.St} {Q : VK} {o : Cop} {v u : Vl} (a : Aft K ca W Y F ρ h.length σ Q (cmpW o v u h)) :
    ∃ x y b, peekR h v = some x ∧ peekR h u = some y ∧ cmpD o x y = some b ∧ Aft K ca W Y F ρ h.length σ Q (.ok (.d (.bool b)) h) := by
  obtain ⟨x, y, z, q1, q2, e, a⟩ := op2R_cases a
  cases q : cmpD o x y with
  | none =>
    rw [q] at e
    cases e
  | some b =>
    rw [q] at e
    have e' : PyData.bool b = z := Option.some.inj e
    subst e'
    exact ⟨x, y, b, q1, q2, q, a⟩
theorem op_cmpZ {op : CmpOp} {o : Cop} (e : trCop op = some o) (hu : X.A.units + 65 < cLine) : OpR X (compareOp op) (rOp2 X.K ca W (cmpW o)) := by
  cases op <;> first
    | (cases e; done)
    | skip
  · cases e
    refine OpR.imp (op_eqD (X := X) (by omega)) fun x y H Q ⟨Y, F, ρ, h, σ, v, u, S, r1, r2, a⟩ => ?_
    obtain ⟨dx, dy, b, q1, q2, e, a⟩ := cmp_cases a
    obtain ⟨e1, e2, rfl⟩ := eqD_cases e
    exact ⟨dx, dy, peekR_ok S r1 q1, peekR_ok S r2 q2, e1, e2, fin_d S a (.bl _)⟩
  · cases e
    refine OpR.imp (op_neD (X := X) (by omega)) fun x y H Q ⟨Y, F, ρ, h, σ, v, u, S, r1, r2, a⟩ => ?_
    obtain ⟨dx, dy, b, q1, q2, e, a⟩ := cmp_cases a
    have e : (eqD dx dy).map not = some b := e
    cases q : eqD dx dy with
    | none =>
      rw [q] at e
      cases e
    | some c =>
      rw [q] at e
      have e' : (!c) = b := Option.some.inj e
      subst e'
      obtain ⟨e1, e2, rfl⟩ := eqD_cases q
      exact ⟨dx, dy, peekR_ok S r1 q1, peekR_ok S r2 q2, e1, e2, fin_d S a (.bl _)⟩
  · cases e
    refine OpR.imp (op_lt (X := X)) fun x y H Q ⟨Y, F, ρ, h, σ, v, u, S, r1, r2, a⟩ => ?_
    obtain ⟨dx, dy, b, q1, q2, e, a⟩ := cmp_cases a
    have e : ltI dx dy = some b := e
    unfold ltI at e
    split at e
    · have e1 := dp_int (peekR_ok S r1 q1)
      have e2 := dp_int (peekR_ok S r2 q2)
      cases e
      exact ⟨_, _, e1, e2, fin_d S a (.bl _)⟩
    · cases e
  · cases e
    refine OpR.imp (op_le (X := X)) fun x y H Q ⟨Y, F, ρ, h, σ, v, u, S, r1, r2, a⟩ => ?_
    obtain ⟨dx, dy, b, q1, q2, e, a⟩ := cmp_cases a
    have e : leI dx dy = some b := e
    unfold leI at e
    split at e
    · have e1 := dp_int (peekR_ok S r1 q1)
      have e2 := dp_int (peekR_ok S r2 q2)
      cases e
      exact ⟨_, _, e1, e2, fin_d S a (.bl _)⟩
    · cases e
  · cases e
    refine OpR.imp (op_gt (X := X)) fun x y H Q ⟨Y, F, ρ, h, σ, v, u, S, r1, r2, a⟩ => ?_
    obtain ⟨dx, dy, b, q1, q2, e, a⟩ := cmp_cases a
    have e : ltI dy dx = some b := e
    unfold ltI at e
    split at e
    · have e1 := dp_int (peekR_ok S r1 q1)
      have e2 := dp_int (peekR_ok S r2 q2)
      cases e
      exact ⟨_, _, e1, e2, fin_d S a (.bl _)⟩
    · cases e
  · cases e
    refine OpR.imp (op_ge (X := X)) fun x y H Q ⟨Y, F, ρ, h, σ, v, u, S, r1, r2, a⟩ => ?_
    obtain ⟨dx, dy, b, q1, q2, e, a⟩ := cmp_cases a
    have e : leI dy dx = some b := e
    unfold leI at e
    split at e
    · have e1 := dp_int (peekR_ok S r1 q1)
      have e2 := dp_int (peekR_ok S r2 q2)
      cases e
      exact ⟨_, _, e1, e2, fin_d S a (.bl _)⟩
    · cases e
  · cases e
    refine OpR.imp ((op_inS (X := X)).or ((op_inD (X := X) hu).or (op_inT (X := X) hu))) fun x y H Q ⟨Y, F, ρ, h, σ, v, u, S, r1, r2, a⟩ => ?_
    obtain ⟨dx, dy, b, q1, q2, e, a⟩ := cmp_cases a
    have e : innD dx dy = some b := e
    unfold innD at e
    split at e
    · obtain ⟨c, rfl, rfl⟩ := inS_cases e
      exact .inl ⟨c, _, dp_str (peekR_ok S r1 q1), dp_str (peekR_ok S r2 q2), fin_d S a (.bl _)⟩
    · obtain ⟨e1, e2, rfl⟩ := hasD_cases e
      exact .inr (.inl ⟨_, _, peekR_ok S r1 q1, peekR_ok S r2 q2, e1, e2, fin_d S a (.bl _)⟩)
    · obtain ⟨e1, e2, rfl⟩ := hasD_cases e
      exact .inr (.inr ⟨_, _, peekR_ok S r1 q1, peekR_ok S r2 q2, e1, e2, fin_d S a (.bl _)⟩)
    · cases e
  · cases e
    refine OpR.imp ((op_notInS (X := X)).or ((op_notInD (X := X) hu).or (op_ninT (X := X) hu))) fun x y H Q ⟨Y, F, ρ, h, σ, v, u, S, r1, r2, a⟩ => ?_
    obtain ⟨dx, dy, b, q1, q2, e, a⟩ := cmp_cases a
    have e : (innD dx dy).map not = some b := e
    cases q : innD dx dy with
    | none =>
      rw [q] at e
      cases e
    | some c =>
      rw [q] at e
      have e' : (!c) = b := Option.some.inj e
      subst e'
      unfold innD at q
      split at q
      · obtain ⟨c, rfl, rfl⟩ := inS_cases q
        exact .inl ⟨c, _, dp_str (peekR_ok S r1 q1), dp_str (peekR_ok S r2 q2), fin_d S a (.bl _)⟩
      · obtain ⟨e1, e2, rfl⟩ := hasD_cases q
        exact .inr (.inl ⟨_, _, peekR_ok S r1 q1, peekR_ok S r2 q2, e1, e2, fin_d S a (.bl _)⟩)
      · obtain ⟨e1, e2, rfl⟩ := hasD_cases q
        exact .inr (.inr ⟨_, _, peekR_ok S r1 q1, peekR_ok S r2 q2, e1, e2, fin_d S a (.bl _)⟩)
      · cases q
end
end Z

set_option linter.all false
set_option autoImplicit false
set_option maxRecDepth 100000
set_option maxHeartbeats 1000000
/-! ZD: dicts by values. -/
namespace Z
open PySem L2 PySem.Spec PyProof.Rows
variable [TC : TabsC]
section
variable {K : PySem.W.Frag} {F : Hp}
theorem PE.or {X : Cx} {e : Expr} {t t' : TE} (p : PE X e t) (p' : PE X e t') : PE X e (fun σ H Q => t σ H Q ∨ t' σ H Q) := ⟨fun pins s σ H Q I q => by
  rcases q with q | q
  · exact p.run pins s σ H Q I q
  · exact p'.run pins s σ H Q I q⟩
theorem PT.or {X : Cx} {e : Expr} {t t' : TT} (p : PT X e t) (p' : PT X e t') : PT X e (fun σ H Q => t σ H Q ∨ t' σ H Q) := ⟨fun pins s σ H Q I q => by
  rcases q with q | q
  · exact p.run pins s σ H Q I q
  · exact p'.run pins s σ H Q I q⟩
theorem PS.or {X : Cx} {e : Stmt} {t t' : TS} (p : PS X e t) (p' : PS X e t') : PS X e (fun B σ H => t B σ H ∨ t' B σ H) := ⟨fun pins s σ H B I q => by
  rcases q with q | q
  · exact p.run pins s σ H B I q
  · exact p'.run pins s σ H B I q⟩
/-! ### what a dict holds -/
section
variable {κ κ' : Type} [DecidableEq κ] [DecidableEq κ'] {g : κ' → κ}
/-- a dict's pairs, its keys by g -/
abbrev KgR (K : PySem.W.Frag) (F : Hp) (g : κ' → κ) (ks : List (κ × V)) (kvs : List (κ' × D)) : Prop := Paired (fun p e => p.1 = g e.1 ∧ Rp K F p.2 e.2) ks kvs
theorem kg_val (hg : ∀ a b, g a = g b → a = b) {j : κ'} : ∀ {ks : List (κ × V)} {kvs : List (κ' × D)}, KgR K F g ks kvs → (valL kvs j = none ∧ valV ks (g j) = none) ∨ ∃ d v, valL kvs j = some d ∧ valV ks (g j) = some v ∧ Rp K F v d
  | [], [], .nil => .inl ⟨rfl, rfl⟩
  | p :: ks, e :: kvs, .cons h t => by
    by_cases c : e.1 = j
    · refine .inr ⟨e.2, p.2, ?_, valV_pos (by rw [h.1, c]), h.2⟩
      simp [valL, List.find?_cons, c]
    · have c2 : ¬ p.1 = g j := fun z => c (hg _ _ (by rw [← h.1, z]))
      have e1 : valL (e :: kvs) j = valL kvs j := by simp [valL, List.find?_cons, c]
      rw [e1, valV_neg c2]
      exact kg_val hg t
theorem kg_any (hg : ∀ a b, g a = g b → a = b) {j : κ'} : ∀ {ks : List (κ × V)} {kvs : List (κ' × D)}, KgR K F g ks kvs → (ks.any fun kv => decide (kv.1 = g j)) = kvs.any fun kv => decide (kv.1 = j)
  | [], [], .nil => rfl
  | p :: ks, e :: kvs, .cons h t => by
    rw [List.any_cons, List.any_cons, kg_any hg t, h.1]
    congr 1
    by_cases c : e.1 = j
    · simp [c]
    · have c2 : ¬ g e.1 = g j := fun z => c (hg _ _ z)
      simp [c, c2]
theorem kg_put (hg : ∀ a b, g a = g b → a = b) {j : κ'} {v : V} {d : D} (r : Rp K F v d) {ks : List (κ × V)} {kvs : List (κ' × D)} (h : KgR K F g ks kvs) : KgR K F g (putK ks (g j) v) (putL kvs j d) := by
  unfold putK putL
  rw [kg_any hg h]
  split
  · have key : ∀ {ks : List (κ × V)} {kvs : List (κ' × D)}, KgR K F g ks kvs → KgR K F g (ks.map fun kv => if kv.1 = g j then (kv.1, v) else kv) (kvs.map fun kv => if kv.1 = j then (kv.1, d) else kv) := by
      intro ks kvs h
      induction h with
      | nil => exact .nil
      | cons q t ih =>
        refine .cons ?_ ih
        rename_i p e _ _
        dsimp only
        by_cases c : e.1 = j
        · have c2 : p.1 = g j := by rw [q.1, c]
          rw [if_pos c, if_pos c2]
          exact ⟨q.1, r⟩
        · have c2 : ¬ p.1 = g j := fun z => c (hg _ _ (by rw [← q.1, z]))
          rw [if_neg c, if_neg c2]
          exact q
    exact key h
  · exact paired_app h (.cons ⟨rfl, r⟩ .nil)
end
theorem inl_inj (a b : Int) (h : (Sum.inl a : Key) = Sum.inl b) : a = b := Sum.inl.inj h
theorem mapInl_inj : ∀ (a b : List Int), a.map (Sum.inl : Int → Key) = b.map Sum.inl → a = b
  | [], [], _ => rfl
  | x :: a, y :: b, h => by
    simp only [List.map_cons, List.cons.injEq, Sum.inl.injEq] at h
    rw [h.1, mapInl_inj a b h.2]
  | [], _ :: _, h => by cases h
  | _ :: _, [], h => by cases h
theorem ints_kV : ∀ (l : List Int), ((l.map Sum.inl : List Key)).map kV = l.map V.int
  | [] => rfl
  | i :: l => by
    rw [List.map_cons, List.map_cons, List.map_cons, ints_kV l]
    rfl
/-- a key's tuple stands tracked -/
theorem key_tup {Y H : Hp} {ρ : Nat → Addr} {h : Hep} {u : V} {ks : List D} {zs : List Int} (S : Sim K Y F ρ h H) (wr : TC.wr = false) (r : Rp K F u (.tuple ks)) (e : intL ks = some zs) : ∃ b, u = .ref b ∧ H b = some (.tup ((zs.map Sum.inl : List Key).map kV)) := by
  cases r with
  | tup s a =>
    obtain ⟨e1, e2⟩ := dpA_ints a e
    rw [ints_kV, ← e1]
    rcases s with s | s
    · exact ⟨_, rfl, S.sub _ _ s⟩
    · rw [wr] at s
      cases s.1
end
section
variable {X : Cx} {ca : Nat → Addr} {W : WX}
/-- what a dict's cell has at a key -/
theorem dctGet_ok {K : PySem.W.Frag} {Y F H : Hp} {ρ : Nat → Addr} {h : Hep} {y : Vl} {u x : V} {k : D} {o : Option D} (S : Sim K Y F ρ h H) (rk : Rp K F u k) (rx : RV K F ρ h.length y x) (e : dctGet h k y = some o) :
    ∃ a ov, x = .ref a ∧ DGet H a u ov ∧ ((o = none ∧ ov = none) ∨ ∃ d v, o = some d ∧ ov = some v ∧ Rp K F v d) := by
  cases y with
  | d _ => cases e
  | r n =>
    obtain ⟨hn, rfl⟩ := rx
    unfold dctGet at e
    dsimp only at e
    split at e
    · rename_i kvs q
      obtain ⟨f0, ⟨ks, e1, e2⟩, wr⟩ := S.ob n _ q
      split at e
      · rename_i zs
        cases q2 : intL zs with
        | none =>
          rw [q2] at e
          cases e
        | some js =>
          rw [q2] at e
          have e' : valL kvs js = o := Option.some.inj e
          obtain ⟨b, rfl, eb⟩ := key_tup S wr rk q2
          refine ⟨_, valV ks (js.map Sum.inl), rfl, DGet.t e1 eb, ?_⟩
          rcases kg_val (g := fun l : List Int => (l.map Sum.inl : List Key)) mapInl_inj (j := js) e2 with ⟨a1, a2⟩ | ⟨d, v, a1, a2, a3⟩
          · exact .inl ⟨by rw [← e', a1], a2⟩
          · exact .inr ⟨d, v, by rw [← e', a1], a2, a3⟩
      · cases e
    · rename_i kvs q
      obtain ⟨f0, ks, e1, e2⟩ := S.ob n _ q
      split at e
      · rename_i j
        have e' : valL kvs j = o := Option.some.inj e
        cases rk
        refine ⟨_, valV ks (Sum.inl j), rfl, DGet.k (k := Sum.inl j) e1, ?_⟩
        rcases kg_val (g := Sum.inl) inl_inj (j := j) e2 with ⟨a1, a2⟩ | ⟨d, v, a1, a2, a3⟩
        · exact .inl ⟨by rw [← e', a1], a2⟩
        · exact .inr ⟨d, v, by rw [← e', a1], a2, a3⟩
      · cases e
    · cases e
/-- two ways of an operation, chosen by the values -/
theorem two_or {g g1 g2 : Vl → Vl → Hep → R Vl} {ra rb : Env → Hep → R Vl} {K : PySem.W.Frag} {σ : L2.St} {H : Hp} {Q : VK} (hg : ∀ x y h, g x y h = g1 x y h ∨ g x y h = g2 x y h)
    (t : tE K ca W (fun s h => bnd (ra s h) fun x h1 => bnd (rb s h1) fun y h2 => g x y h2) σ H Q) :
    tE K ca W (fun s h => bnd (ra s h) fun x h1 => bnd (rb s h1) fun y h2 => g1 x y h2) σ H Q ∨ tE K ca W (fun s h => bnd (ra s h) fun x h1 => bnd (rb s h1) fun y h2 => g2 x y h2) σ H Q := by
  obtain ⟨Y, F, ρ, h, s, S, E, a⟩ := t
  dsimp only at a
  cases e : ra s h with
  | ex c h1 =>
    rw [e] at a
    refine .inl ⟨Y, F, ρ, h, s, S, E, ?_⟩
    dsimp only
    rw [e]
    exact a
  | no =>
    rw [e] at a
    exact a.elim
  | ok v h1 =>
    rw [e] at a
    replace a : Aft K ca W Y F ρ h.length σ Q (bnd (rb s h1) fun y h2 => g v y h2) := a
    cases e2 : rb s h1 with
    | ex c h2 =>
      rw [e2] at a
      refine .inl ⟨Y, F, ρ, h, s, S, E, ?_⟩
      dsimp only
      rw [e]
      show Aft K ca W Y F ρ h.length σ Q (bnd (rb s h1) fun y h2 => g1 v y h2)
      rw [e2]
      exact a
    | no =>
      rw [e2] at a
      exact a.elim
    | ok u h2 =>
      rw [e2] at a
      replace a : Aft K ca W Y F ρ h.length σ Q (g v u h2) := a
      rcases hg v u h2 with z | z
      · refine .inl ⟨Y, F, ρ, h, s, S, E, ?_⟩
        dsimp only
        rw [e]
        show Aft K ca W Y F ρ h.length σ Q (bnd (rb s h1) fun y h2 => g1 v y h2)
        rw [e2]
        show Aft K ca W Y F ρ h.length σ Q (g1 v u h2)
        rw [← z]
        exact a
      · refine .inr ⟨Y, F, ρ, h, s, S, E, ?_⟩
        dsimp only
        rw [e]
        show Aft K ca W Y F ρ h.length σ Q (bnd (rb s h1) fun y h2 => g2 v y h2)
        rw [e2]
        show Aft K ca W Y F ρ h.length σ Q (g2 v u h2)
        rw [← z]
        exact a
/-- a place of a sequence -/
def idxS (x y : Vl) (h : Hep) : R Vl := match y with
  | .d (.int j) => op1R (fun x => idxD x j) x h
  | _ => .no
/-- a key of a dict -/
def idxK (x y : Vl) (h : Hep) : R Vl := match y with
  | .d (.int j) => getV h j x
  | _ => .no
theorem idx_or (x y : Vl) (h : Hep) : idxV x y h = idxS x y h ∨ idxV x y h = idxK x y h := by
  cases y with
  | r n => exact .inl rfl
  | d y =>
    cases y with
    | int j =>
      have e : idxV x (.d (.int j)) h = (match peekR h x with
        | some x => opt h ((idxD x j).map .d)
        | none => getV h j x) := rfl
      show idxV x (.d (.int j)) h = op1R (fun x => idxD x j) x h ∨ idxV x (.d (.int j)) h = getV h j x
      rw [e]
      unfold op1R
      cases peekR h x with
      | some _ => exact .inl rfl
      | none => exact .inr rfl
    | _ => exact .inl rfl
theorem inn_or (x y : Vl) (h : Hep) : Z.cmpV .inn x y h = cmpW .inn x y h ∨ Z.cmpV .inn x y h = isB h x y := by
  unfold Z.cmpV
  dsimp only
  cases peekR h y with
  | some _ => exact .inl rfl
  | none => exact .inr rfl
theorem cmp_eq {o : Cop} (ho : o ≠ .inn) (x y : Vl) (h : Hep) : Z.cmpV o x y h = cmpW o x y h := by
  cases o <;> first
    | rfl
    | exact absurd rfl ho
theorem rK_ok {x y : V} {H : Hp} {Q : VK} (r : rOp2 X.K ca W idxK x y H Q) : ∃ a v, x = .ref a ∧ DGet H a y (some v) ∧ Q v H := by
  obtain ⟨Y, F, ρ, h, σ, v, u, S, r1, r2, a⟩ := r
  unfold idxK at a
  split at a
  · rename_i j
    cases r2
    unfold getV at a
    split at a
    · rename_i d q
      obtain ⟨ad, ov, rfl, g, z⟩ := dctGet_ok S (.int j) r1 q
      rcases z with ⟨z, _⟩ | ⟨d', v', z1, z2, z3⟩
      · cases z
      · cases z1
        subst z2
        exact ⟨ad, v', rfl, g, fin_d S a z3⟩
    · exact a.elim
  · exact a.elim
theorem rB_ok {x y : V} {H : Hp} {Q : VK} (r : rOp2 X.K ca W (fun x y h => isB h x y) x y H Q) : ∃ a o, y = .ref a ∧ DGet H a x o ∧ Q (.bl o.isSome) H := by
  obtain ⟨Y, F, ρ, h, σ, v, u, S, r1, r2, a⟩ := r
  dsimp only at a
  unfold isB at a
  split at a
  · rename_i k
    split at a
    · rename_i o q
      obtain ⟨ad, ov, rfl, g, z⟩ := dctGet_ok S r1 r2 q
      have e : ov.isSome = o.isSome := by
        rcases z with ⟨rfl, rfl⟩ | ⟨d', v', rfl, rfl, _⟩ <;> rfl
      exact ⟨ad, ov, rfl, g, by rw [e]; exact fin_d S a (.bl _)⟩
    · exact a.elim
  · exact a.elim
end
end Z

set_option linter.all false
set_option autoImplicit false
set_option maxRecDepth 100000
set_option maxHeartbeats 1000000
/-! Z6: places, slices, lengths, types, built-ins. -/
namespace Z
open PySem L2 PySem.Spec PyProof.Rows
variable [TC : TabsC]
section
variable {X : Cx} {ca : Nat → Addr} {W : WX}
theorem IxR.imp {r r' : R2} (o : IxR X r) (i : ∀ x y H Q, r' x y H Q → r x y H Q) : IxR X r' := fun va sl pins s σ H x y v u Q I rx ry q => o va sl pins s σ H x y v u Q I rx ry (i _ _ _ _ q)
theorem SlR.imp {r r' : V → Option Int → Option Int → Hp → VK → Prop} (o : SlR X r) (i : ∀ x l u H Q, r' x l u H Q → r x l u H Q) : SlR X r' := fun pins s σ H x v vl vu lo hi sl Q I rx hs pl pu q => o pins s σ H x v vl vu lo hi sl Q I rx hs pl pu (i _ _ _ _ _ q)
theorem dpA_at {K : PySem.W.Frag} {F : Hp} {vs : List V} {xs : List D} {j : Int} {z : D} (d : RpA K F vs xs) (e : atI xs j = some z) : ∃ v, atI vs j = some v ∧ Rp K F v z := by
  unfold atI at e ⊢
  rw [dpA_len d]
  cases q : ixN xs.length j with
  | none =>
    rw [q] at e
    cases e
  | some m =>
    rw [q] at e
    exact dpA_get d e
theorem ix_Z : IxR X (rOp2 X.K ca W idxS) := by
  refine IxR.imp (ix_seq (X := X)) fun x y H Q ⟨Y, F, ρ, h, σ, v, u, S, r1, r2, a⟩ => ?_
  unfold idxS at a
  split at a
  · rename_i j
    have e2 : y = .int j := by
      cases r2
      rfl
    obtain ⟨dx, z, q1, e, a⟩ := op1R_cases a
    unfold idxD at e
    split at e
    · obtain ⟨b, vs, rfl, s1, d1⟩ := peekR_list S r1 q1
      obtain ⟨w, e3, d2⟩ := dpA_at d1 e
      exact .inl ⟨b, vs, j, w, rfl, e2, s1, e3, fin_d S a d2⟩
    · obtain ⟨b, vs, rfl, s1, d1⟩ := rp_tup S r1 q1
      obtain ⟨w, e3, d2⟩ := dpA_at d1 e
      exact .inr (.inl ⟨b, vs, j, w, rfl, e2, sqT_mono S.sub s1.sq, e3, fin_d S a d2⟩)
    · rename_i z0
      split at e
      · rename_i hz
        cases q : atI z0.cps.toList j with
        | none =>
          rw [q] at e
          cases e
        | some c =>
          rw [q] at e
          have e' : PyData.str ⟨#[c]⟩ = z := Option.some.inj e
          subst e'
          exact .inr (.inr ⟨_, j, c, dp_str (peekR_ok S r1 q1), e2, of_decide_eq_true hz, q, fin_d S a (.str _)⟩)
      · cases e
    · cases e
  · exact a.elim
/-! ### slices -/
theorem cut_dpA {K : PySem.W.Frag} {F : Hp} {vs : List V} {xs : List D} (d : RpA K F vs xs) (lo hi : Option Int) : RpA K F (cutV vs lo hi) (cut xs lo hi) := by
  unfold cutV cut
  rw [dpA_len d]
  exact dpA_take _ (dpA_drop _ d)
theorem sl_Z {l0 u0 : Option Int} : SlR X (fun x l u H Q => l = l0 ∧ u = u0 ∧ ∃ Y F ρ h σ v, Sim X.K Y F ρ h H ∧ RV X.K F ρ h.length v x ∧ Aft X.K ca W Y F ρ h.length σ Q (op1 (fun x => slcD x l0 u0) v h)) := by
  refine SlR.imp ((sl_list (X := X)).or ((sl_tupA (X := X)).or (sl_str (X := X)))) fun x l u H Q ⟨el, eu, Y, F, ρ, h, σ, v, S, r1, a⟩ => ?_
  subst el eu
  obtain ⟨dx, z, q1, e, a⟩ := op1_cases a
  unfold slcD at e
  split at e
  · cases e
    obtain ⟨b, vs, rfl, s1, d1⟩ := peek_list S r1 q1
    exact .inl ⟨b, vs, rfl, .inl (.inl s1), fun p hp => fin_lst S a hp (cut_dpA d1 l u)⟩
  · rename_i xs
    cases e
    obtain ⟨b, vs, rfl, s1, d1⟩ := rp_tup S r1 (peekR_of q1)
    refine .inr (.inl ⟨b, vs, rfl, sqT_mono S.sub s1.sq, fun ⟨c1, c2⟩ => ?_, fun _ p hp => fin_tup S a hp (cut_dpA d1 l u)⟩)
    have hl := dpA_len d1
    rw [hl] at c1 c2
    have e3 : cut xs l u = xs := by
      unfold cut
      rw [c1, c2]
      simp
    rw [e3] at a
    exact fin_d S a (.tup s1 d1)
  · split at e
    · rename_i hz
      cases e
      exact .inr (.inr ⟨_, dp_str (peek_ok S r1 q1), of_decide_eq_true hz, fin_d S a (.str _)⟩)
    · cases e
  · cases e
/-! ### len -/
theorem CallR1 {f : Value} {k : V → Hp → VK → Prop} {r : List V → Hp → VK → Prop} (o : CallR X f r) (i : ∀ x H Q, k x H Q → r [x] H Q) : CallR X f (fun xs H Q => ∃ x, xs = [x] ∧ k x H Q) := CallR.imp o fun xs H Q ⟨x, e, q⟩ => by
  subst e
  exact i x H Q q
theorem len_Z : CallR X (.builtin "len") (fun xs H Q => ∃ x, xs = [x] ∧ rOp1 X.K ca W (op1R lenD) x H Q) := by
  refine CallR1 ((call_len_seq (X := X)).or (call_len_str (X := X))) fun x H Q ⟨Y, F, ρ, h, σ, v, S, r1, a⟩ => ?_
  obtain ⟨dx, z, q1, e, a⟩ := op1R_cases a
  unfold lenD at e
  split at e
  · cases e
    obtain ⟨b, vs, rfl, s1, d1⟩ := peekR_list S r1 q1
    rw [← dpA_len d1] at a
    exact .inl ⟨b, vs, rfl, .inl s1, fin_d S a (.int _)⟩
  · cases e
    obtain ⟨b, vs, rfl, s1, d1⟩ := rp_tup S r1 q1
    rw [← dpA_len d1] at a
    exact .inl ⟨b, vs, rfl, .inr (sqT_mono S.sub s1.sq), fin_d S a (.int _)⟩
  · split at e
    · rename_i hz
      cases e
      have e1 := dp_str (peekR_ok S r1 q1)
      subst e1
      exact .inr ⟨_, rfl, of_decide_eq_true hz, fin_d S a (.int _)⟩
    · cases e
  · cases e
/-! ### isinstance -/
def tyN : Ty → String
  | .int => "int"
  | .bool => "bool"
  | .str => "str"
  | .tup => "tuple"
  | .lst => "list"
inductive Kd where
  | non | bool | int | str | lst | tup | dict
def kdN : Kd → String
  | .non => "NoneType"
  | .bool => "bool"
  | .int => "int"
  | .str => "str"
  | .lst => "list"
  | .tup => "tuple"
  | .dict => "dict"
def kdD : D → Kd
  | .none => .non
  | .bool _ => .bool
  | .int _ => .int
  | .str _ => .str
  | .list _ => .lst
  | .tuple _ => .tup
  | .dict _ => .dict
def tyK : Ty → Kd → Bool
  | .int, .int => true
  | .int, .bool => true
  | .bool, .bool => true
  | .str, .str => true
  | .tup, .tup => true
  | .lst, .lst => true
  | _, _ => false
theorem tyD_K (t : Ty) (d : D) : tyD t d = tyK t (kdD d) := by
  cases d <;> cases t <;> rfl
theorem kit_K (t : Ty) (k : Kd) : kitB (kdN k) (tyN t) = some (tyK t k) := by
  cases k <;> cases t <;> decide +kernel
theorem tyX_of {K : PySem.W.Frag} {F H : Hp} (m : Same F H) : ∀ {u : V} {d : D}, Rp K F u d → TyX K H u (.type (kdN (kdD d)))
  | _, _, .non => .base .non
  | _, _, .bl b => .base (.bl b)
  | _, _, .int i => .base (.int i)
  | _, _, .str x => .base (.str x)
  | _, _, .lst h _ => .base (.lst (m _ _ h))
  | _, _, .tup h _ => by
    rcases h.sq with (h | ⟨o, h⟩) | ⟨o, its, n, h, c, _⟩
    · exact .base (.tup (m _ _ h))
    · exact .fTuple (m _ _ h)
    · exact .kTuple h c
theorem isi_Z {t : Ty} : CallR X (.builtin "isinstance") (fun xs H Q => ∃ x, xs = [x, .ty (tyN t)] ∧ rOp1 X.K ca W (op1 fun x => some (.bool (tyD t x))) x H Q) := by
  refine CallR.imp (call_isi (X := X)) fun xs H Q ⟨x, e, Y, F, ρ, h, σ, v, S, r1, a⟩ => ?_
  subst e
  obtain ⟨dx, z, q1, e, a⟩ := op1_cases a
  cases e
  have key : TyX X.K H x (.type (kdN (kdD dx))) := by
    rcases isList dx with ⟨xs, rfl⟩ | hx
    · obtain ⟨b, vs, rfl, s1, d1⟩ := peek_list S r1 q1
      exact .base (.lst s1)
    · have e2 := peek_nl q1 hx
      subst e2
      exact tyX_of S.sub r1
  rw [tyD_K] at a
  exact ⟨x, .ty (tyN t), _, .type (tyN t), _, rfl, .ty _, key, kit_ty (kit_K t _), fin_d S a (.bl _)⟩
end
end Z

set_option linter.all false
set_option autoImplicit false
set_option maxRecDepth 100000
set_option maxHeartbeats 1000000
/-! ZMx: max and min of a tuple of whole numbers. -/
namespace ZMx
open PySem L2 PySem.Spec PyProof.Rows
section
variable {prog : Program} {w : World} {A : Around} {E : Value → Shared → Prop} {s : Shared} {l : Addr} {xs : Array (Int × Tok)}
theorem iter_tup {items : Array Value} {Q : Value → Shared → Prop} (hl : s.heap.IsTuple l items)
    (h : ∀ s₂ : Shared, s₂ = { s with heap := s.heap.push { cls := .type "tuple_iterator", data := .fields #[.ref l, .int 0 0] } } →
      (s₂.heap.IsTupleIter s.heap.objs.size l 0 ∧ s₂.heap.IsTuple l items) → (∀ b ∈ [s.heap.objs.size, l], b < s₂.heap.objs.size) → l ≠ s.heap.objs.size → Q (.ref s.heap.objs.size) s₂) :
    wpAny (model prog w) A (pyIter (.ref l)) Q E s := by
  have hlt : l < s.heap.objs.size := by
    obtain ⟨_, e, _⟩ := hl
    exact Heap.lt_size e
  have hl2 : (s.heap.push { cls := .type "tuple_iterator", data := .fields #[.ref l, .int 0 0] }).IsTuple l items := by
    obtain ⟨o, e, r⟩ := hl
    exact ⟨o, Heap.get?_push_of_some _ e, r⟩
  refine wpAny_pyIter_tuple hl (h _ rfl ⟨⟨_, Heap.get?_push_size _ rfl, rfl, rfl⟩, hl2⟩ (fun b hb => ?_) (Nat.ne_of_lt hlt))
  show b < (s.heap.push _).objs.size
  rw [Heap.size_push]
  rcases List.mem_cons.mp hb with rfl | hb
  · exact Nat.lt_succ_self _
  · rcases List.mem_cons.mp hb with rfl | hb
    · exact Nat.lt_succ_of_lt hlt
    · cases hb
theorem old_kept {h' : Heap} (hk : ∀ b o, b ∉ [s.heap.objs.size] → (s.heap.push { cls := .type "tuple_iterator", data := .fields #[.ref l, .int 0 0] }).get? b = some o → h'.get? b = some o) :
    ∀ b o, s.heap.get? b = some o → h'.get? b = some o := fun b o e => by
  refine hk b o (fun hm => ?_) (Heap.get?_push_of_some _ e)
  rcases List.mem_cons.mp hm with e1 | hm
  · exact absurd (e1 ▸ Heap.lt_size e) (Nat.lt_irrefl _)
  · cases hm
theorem max_raw {its : List Value} {ns : List Int} {Q : Value → Shared → Prop} (hh : A.handled = none) (hl : s.heap.IsTuple l its.toArray) (hi : IntsAre its ns) (hne : 0 < ns.length)
    (h : ∀ h' tk M t', (∀ b o, s.heap.get? b = some o → h'.get? b = some o) → M ∈ ns → (∀ a, a ∈ ns → a ≤ M) → Q (.int M t') { s with heap := h', toks := tk }) : wpAny (model prog w) A (call (.builtin "max") [.ref l]) Q E s := by
  obtain ⟨xs, e⟩ := hi.allInts.items
  have hn : numsOf (intItems xs).toList = ns := by rw [← e]; exact hi.numsOf
  rw [nums_intItems] at hn
  subst hn
  rw [e] at hl
  have hsz : 0 < xs.size := by simpa using hne
  refine call_max_walk (iter_tup hl fun s₂ e st hfp hlI => ?_)
  subst e
  refine ⟨_, _, _, _, _, _, _, rfl, Walks.tuple (A := A.in1) hh _ l hlI (intItems xs), st, hfp, by simpa [intItems] using hsz, CmpOf.ints_gt (numAt xs) (fun _ _ => intItems_at), fun v h' tk hP hk => ?_⟩
  have hv : (intItems xs)[argBest (fun i j => decide (numAt xs i > numAt xs j)) (xs.size - 1)]? = some v := by simpa [intItems] using hP
  obtain ⟨t, rfl⟩ := intItems_at hv
  obtain ⟨h1, h2⟩ := argBest_gt (numAt xs) (xs.size - 1)
  refine h h' tk _ t (old_kept hk) ?_ fun a ha => ?_
  · rw [numAt_eq]
    exact PySem.getD_mem (by rw [List.length_map, Array.length_toList]; omega)
  · obtain ⟨j, hj, rfl⟩ := mem_getD ha
    rw [List.length_map, Array.length_toList] at hj
    rw [← numAt_eq]
    exact h2 j (by omega)
theorem min_raw {its : List Value} {ns : List Int} {Q : Value → Shared → Prop} (hh : A.handled = none) (hl : s.heap.IsTuple l its.toArray) (hi : IntsAre its ns) (hne : 0 < ns.length)
    (h : ∀ h' tk M t', (∀ b o, s.heap.get? b = some o → h'.get? b = some o) → M ∈ ns → (∀ a, a ∈ ns → M ≤ a) → Q (.int M t') { s with heap := h', toks := tk }) : wpAny (model prog w) A (call (.builtin "min") [.ref l]) Q E s := by
  obtain ⟨xs, e⟩ := hi.allInts.items
  have hn : numsOf (intItems xs).toList = ns := by rw [← e]; exact hi.numsOf
  rw [nums_intItems] at hn
  subst hn
  rw [e] at hl
  have hsz : 0 < xs.size := by simpa using hne
  refine call_min_walk (iter_tup hl fun s₂ e st hfp hlI => ?_)
  subst e
  refine ⟨_, _, _, _, _, _, _, rfl, Walks.tuple (A := A.in1) hh _ l hlI (intItems xs), st, hfp, by simpa [intItems] using hsz, CmpOf.ints_lt (numAt xs) (fun _ _ => intItems_at), fun v h' tk hP hk => ?_⟩
  have hv : (intItems xs)[argBest (fun i j => decide (numAt xs i < numAt xs j)) (xs.size - 1)]? = some v := by simpa [intItems] using hP
  obtain ⟨t, rfl⟩ := intItems_at hv
  obtain ⟨h1, h2⟩ := argBest_lt (numAt xs) (xs.size - 1)
  refine h h' tk _ t (old_kept hk) ?_ fun a ha => ?_
  · rw [numAt_eq]
    exact PySem.getD_mem (by rw [List.length_map, Array.length_toList]; omega)
  · obtain ⟨j, hj, rfl⟩ := mem_getD ha
    rw [List.length_map, Array.length_toList] at hj
    rw [← numAt_eq]
    exact h2 j (by omega)
end
variable {X : Cx}
theorem cr_maxT (hc : X.calm = true) : CallR X (.builtin "max") (fun vs H Q => ∃ (a : Addr) (ns : List Int), vs = [V.ref a] ∧ SqT X.K H a (ns.map V.int) ∧ 0 < ns.length ∧ ∀ m, m ∈ ns → (∀ y, y ∈ ns → y ≤ m) → Q (.int m) H) := by
  intro pins s σ H vs us Q I r h
  obtain ⟨a, ns, rfl, hs, hne, q⟩ := h
  obtain ⟨its, rv, hl, _⟩ := I.tuple hs
  rw [Vals.ref1 r]
  exact max_raw (I.ok.hd hc) (show s.heap.IsTuple a its.toArray from hl) rv.ints hne fun h' tk m t' hk h1 h2 => ⟨.int _, H, I.kept hk, ⟨_, rfl⟩, q m h1 h2⟩
theorem cr_minT (hc : X.calm = true) : CallR X (.builtin "min") (fun vs H Q => ∃ (a : Addr) (ns : List Int), vs = [V.ref a] ∧ SqT X.K H a (ns.map V.int) ∧ 0 < ns.length ∧ ∀ m, m ∈ ns → (∀ y, y ∈ ns → m ≤ y) → Q (.int m) H) := by
  intro pins s σ H vs us Q I r h
  obtain ⟨a, ns, rfl, hs, hne, q⟩ := h
  obtain ⟨its, rv, hl, _⟩ := I.tuple hs
  rw [Vals.ref1 r]
  exact min_raw (I.ok.hd hc) (show s.heap.IsTuple a its.toArray from hl) rv.ints hne fun h' tk m t' hk h1 h2 => ⟨.int _, H, I.kept hk, ⟨_, rfl⟩, q m h1 h2⟩
end ZMx

set_option linter.all false
set_option autoImplicit false
set_option maxRecDepth 100000
set_option maxHeartbeats 1000000
/-! Z7: built-in functions. -/
namespace Z
open PySem L2 PySem.Spec PyProof.Rows
variable [TC : TabsC]
section
variable (K : PySem.W.Frag) (ca : Nat → Addr) (W : WX)
def rCl (f : List Vl → Hep → R Vl) : List V → Hp → VK → Prop := fun us H Q => ∃ Y F ρ h σ vs, Sim K Y F ρ h H ∧ RVs K F ρ h.length vs us ∧ Aft K ca W Y F ρ h.length σ Q (f vs h)
def rClF (f : List Vl → Hep → R Vl) : List V → Hp → VK → Prop := fun us H Q => ∃ Y F ρ h σ vs, Sim K Y F ρ h H ∧ RVs K F ρ h.length vs us ∧ AftF K ca W Y F ρ h.length σ Q (f vs h)
end
section
variable {X : Cx} {ca : Nat → Addr} {W : WX}
def bltS (b : B) (vs : List Vl) (h : Hep) : R Vl := match peekAll h vs with
  | some xs => opt h ((bltD b xs).map .d)
  | none => .no
theorem blt_eq {b : B} (hb : b ≠ .lst) (vs : List Vl) (h : Hep) : bltV b vs h = bltS b vs h := by
  unfold bltV bltS
  cases peekAll h vs with
  | some _ => rfl
  | none =>
    cases b <;> first
      | rfl
      | exact absurd rfl hb
theorem blt_cases {K : PySem.W.Frag} {Y F : Hp} {ρ : Nat → Addr} {h : Hep} {σ : L2.St} {Q : VK} {b : B} {vs : List Vl} (a : Aft K ca W Y F ρ h.length σ Q (bltS b vs h)) :
    ∃ xs z, Paired (fun v x => peek h v = some x) vs xs ∧ bltD b xs = some z ∧ Aft K ca W Y F ρ h.length σ Q (.ok (.d z) h) := by
  unfold bltS at a
  split at a
  · rename_i xs q
    cases e : bltD b xs with
    | none =>
      rw [e] at a
      exact a.elim
    | some z =>
      rw [e] at a
      exact ⟨xs, z, peekAll_ok q, e, a⟩
  · exact a.elim
theorem bltF_cases {K : PySem.W.Frag} {Y F : Hp} {ρ : Nat → Addr} {h : Hep} {σ : L2.St} {Q : VK} {b : B} {vs : List Vl} (a : AftF K ca W Y F ρ h.length σ Q (bltS b vs h)) :
    ∃ xs z, Paired (fun v x => peek h v = some x) vs xs ∧ bltD b xs = some (.list z) ∧ AftF K ca W Y F ρ h.length σ Q (.ok (.d (.list z)) h) := by
  unfold bltS at a
  split at a
  · rename_i xs q
    cases e : bltD b xs with
    | none =>
      rw [e] at a
      exact a.elim
    | some z =>
      rw [e] at a
      obtain ⟨ys, e2, _⟩ := id a
      have e3 : z = .list ys := by injection e2
      subst e3
      exact ⟨xs, ys, peekAll_ok q, e, a⟩
  · exact a.elim
theorem one_val {K : PySem.W.Frag} {F : Hp} {ρ : Nat → Addr} {n : Nat} {h : Hep} {vs : List Vl} {us : List V} {x : D} (p : Paired (fun v x => peek h v = some x) vs [x]) (r : RVs K F ρ n vs us) : ∃ v u, us = [u] ∧ RV K F ρ n v u ∧ peek h v = some x := by
  cases p with
  | cons q t =>
    cases t
    cases r with
    | cons r0 rt =>
      cases rt
      exact ⟨_, _, rfl, r0, q⟩
theorem two_val {K : PySem.W.Frag} {F : Hp} {ρ : Nat → Addr} {n : Nat} {h : Hep} {vs : List Vl} {us : List V} {x y : D} (p : Paired (fun v x => peek h v = some x) vs [x, y]) (r : RVs K F ρ n vs us) :
    ∃ v w u1 u2, us = [u1, u2] ∧ RV K F ρ n v u1 ∧ RV K F ρ n w u2 ∧ peek h v = some x ∧ peek h w = some y := by
  cases p with
  | cons q t =>
    cases t with
    | cons q2 t =>
      cases t
      cases r with
      | cons r0 rt =>
        cases rt with
        | cons r1 rt =>
          cases rt
          exact ⟨_, _, _, _, rfl, r0, r1, q, q2⟩
theorem list1 {K : PySem.W.Frag} {Y F H : Hp} {ρ : Nat → Addr} {h : Hep} {vs : List Vl} {us : List V} {xs : List D} (S : Sim K Y F ρ h H) (p : Paired (fun v x => peek h v = some x) vs [.list xs]) (r : RVs K F ρ h.length vs us) : ∃ a ws, us = [.ref a] ∧ H a = some (.lst ws) ∧ RpA K F ws xs := by
  obtain ⟨v, u, rfl, r0, q⟩ := one_val p r
  obtain ⟨a, ws, rfl, e1, e2⟩ := peek_list S r0 q
  exact ⟨a, ws, rfl, e1, e2⟩
theorem maxI_spec : ∀ (r : List Int) (n : Int), (maxI n r = n ∨ maxI n r ∈ r) ∧ n ≤ maxI n r ∧ ∀ y ∈ r, y ≤ maxI n r
  | [], n => ⟨.inl rfl, Int.le_refl _, fun _ h => nomatch h⟩
  | x :: r, n => by
    obtain ⟨h1, h2, h3⟩ := maxI_spec r (if x > n then x else n)
    have e : maxI n (x :: r) = maxI (if x > n then x else n) r := rfl
    rw [e]
    generalize maxI (if x > n then x else n) r = m at h1 h2 h3
    refine ⟨?_, ?_, fun y hy => ?_⟩
    · rcases h1 with h1 | h1
      · rw [h1]
        split
        · exact .inr List.mem_cons_self
        · exact .inl rfl
      · exact .inr (List.mem_cons_of_mem _ h1)
    · split at h2 <;> omega
    · rcases List.mem_cons.mp hy with e | hy
      · rw [e]
        split at h2 <;> omega
      · exact h3 y hy
theorem minI_spec : ∀ (r : List Int) (n : Int), (minI n r = n ∨ minI n r ∈ r) ∧ minI n r ≤ n ∧ ∀ y ∈ r, minI n r ≤ y
  | [], n => ⟨.inl rfl, Int.le_refl _, fun _ h => nomatch h⟩
  | x :: r, n => by
    obtain ⟨h1, h2, h3⟩ := minI_spec r (if x < n then x else n)
    have e : minI n (x :: r) = minI (if x < n then x else n) r := rfl
    rw [e]
    generalize minI (if x < n then x else n) r = m at h1 h2 h3
    refine ⟨?_, ?_, fun y hy => ?_⟩
    · rcases h1 with h1 | h1
      · rw [h1]
        split
        · exact .inr List.mem_cons_self
        · exact .inl rfl
      · exact .inr (List.mem_cons_of_mem _ h1)
    · split at h2 <;> omega
    · rcases List.mem_cons.mp hy with e | hy
      · rw [e]
        split at h2 <;> omega
      · exact h3 y hy
theorem b_sum (hc : X.calm = true) : CallR X (.builtin "sum") (rCl X.K ca W (bltS .sum)) := by
  refine CallR.imp (cr_sum (X := X) hc) fun us H Q ⟨Y, F, ρ, h, σ, vs, S, r, a⟩ => ?_
  obtain ⟨xs, z, p, e, a⟩ := blt_cases a
  replace e : bSum xs = some z := e
  unfold bSum at e
  split at e
  · rename_i ys
    cases q : intL ys with
    | none =>
      rw [q] at e
      cases e
    | some ns =>
      rw [q] at e
      cases e
      obtain ⟨b, ws, rfl, e1, e2⟩ := list1 S p r
      obtain ⟨rfl, _⟩ := dpA_ints e2 q
      exact ⟨b, ns, rfl, .inl (.inl e1), fin_d S a (.int _)⟩
  · cases e
theorem b_all (hc : X.calm = true) : CallR X (.builtin "all") (rCl X.K ca W (bltS .all)) := by
  refine CallR.imp (cr_all (X := X) hc) fun us H Q ⟨Y, F, ρ, h, σ, vs, S, r, a⟩ => ?_
  obtain ⟨xs, z, p, e, a⟩ := blt_cases a
  replace e : bAll xs = some z := e
  unfold bAll at e
  split at e
  · rename_i ys
    cases q : boolL ys with
    | none =>
      rw [q] at e
      cases e
    | some ns =>
      rw [q] at e
      cases e
      obtain ⟨b, ws, rfl, e1, e2⟩ := list1 S p r
      have e3 := dpA_bools e2 q
      subst e3
      exact ⟨b, ns, rfl, .inl (.inl e1), fin_d S a (.bl _)⟩
  · cases e
theorem b_any (hc : X.calm = true) : CallR X (.builtin "any") (rCl X.K ca W (bltS .any)) := by
  refine CallR.imp (cr_any (X := X) hc) fun us H Q ⟨Y, F, ρ, h, σ, vs, S, r, a⟩ => ?_
  obtain ⟨xs, z, p, e, a⟩ := blt_cases a
  replace e : bAny xs = some z := e
  unfold bAny at e
  split at e
  · rename_i ys
    cases q : boolL ys with
    | none =>
      rw [q] at e
      cases e
    | some ns =>
      rw [q] at e
      cases e
      obtain ⟨b, ws, rfl, e1, e2⟩ := list1 S p r
      have e3 := dpA_bools e2 q
      subst e3
      exact ⟨b, ns, rfl, .inl (.inl e1), fin_d S a (.bl _)⟩
  · cases e
theorem max_is {n m : Int} {t : List Int} (hm : m ∈ n :: t) (hy : ∀ y ∈ n :: t, y ≤ m) : m = maxI n t := by
  obtain ⟨s1, s2, s3⟩ := maxI_spec t n
  have k1 : maxI n t ≤ m := by
    rcases s1 with k | k
    · rw [k]
      exact hy n List.mem_cons_self
    · exact hy _ (List.mem_cons_of_mem _ k)
  have k2 : m ≤ maxI n t := by
    rcases List.mem_cons.mp hm with k | k
    · rw [k]
      exact s2
    · exact s3 m k
  omega
theorem b_max (hc : X.calm = true) : CallR X (.builtin "max") (rCl X.K ca W (bltS .max)) := by
  refine CallR.imp ((cr_max (X := X) hc).or (ZMx.cr_maxT (X := X) hc)) fun us H Q ⟨Y, F, ρ, h, σ, vs, S, r, a⟩ => ?_
  obtain ⟨xs, z, p, e, a⟩ := blt_cases a
  replace e : bMax xs = some z := e
  unfold bMax at e
  split at e
  · rename_i ys
    split at e
    · rename_i n t q
      cases e
      obtain ⟨b, ws, rfl, e1, e2⟩ := list1 S p r
      obtain ⟨rfl, _⟩ := dpA_ints e2 q
      refine .inl ⟨b, n :: t, rfl, .inl (.inl e1), Nat.succ_pos _, fun m hm hy => ?_⟩
      rw [max_is hm hy]
      exact fin_d S a (.int _)
    · cases e
  · rename_i ys
    split at e
    · rename_i n t q
      cases e
      obtain ⟨v, u, rfl, r0, qv⟩ := one_val p r
      obtain ⟨b, ws, rfl, s1, d1⟩ := rp_tup S r0 (peekR_of qv)
      obtain ⟨rfl, _⟩ := dpA_ints d1 q
      refine .inr ⟨b, n :: t, rfl, sqT_mono S.sub s1.sq, Nat.succ_pos _, fun m hm hy => ?_⟩
      rw [max_is hm hy]
      exact fin_d S a (.int _)
    · cases e
  · cases e
theorem min_is {n m : Int} {t : List Int} (hm : m ∈ n :: t) (hy : ∀ y ∈ n :: t, m ≤ y) : m = minI n t := by
  obtain ⟨s1, s2, s3⟩ := minI_spec t n
  have k1 : m ≤ minI n t := by
    rcases s1 with k | k
    · rw [k]
      exact hy n List.mem_cons_self
    · exact hy _ (List.mem_cons_of_mem _ k)
  have k2 : minI n t ≤ m := by
    rcases List.mem_cons.mp hm with k | k
    · rw [k]
      exact s2
    · exact s3 m k
  omega
theorem b_min (hc : X.calm = true) : CallR X (.builtin "min") (rCl X.K ca W (bltS .min)) := by
  refine CallR.imp ((cr_min (X := X) hc).or (ZMx.cr_minT (X := X) hc)) fun us H Q ⟨Y, F, ρ, h, σ, vs, S, r, a⟩ => ?_
  obtain ⟨xs, z, p, e, a⟩ := blt_cases a
  replace e : bMin xs = some z := e
  unfold bMin at e
  split at e
  · rename_i ys
    split at e
    · rename_i n t q
      cases e
      obtain ⟨b, ws, rfl, e1, e2⟩ := list1 S p r
      obtain ⟨rfl, _⟩ := dpA_ints e2 q
      refine .inl ⟨b, n :: t, rfl, .inl (.inl e1), Nat.succ_pos _, fun m hm hy => ?_⟩
      rw [min_is hm hy]
      exact fin_d S a (.int _)
    · cases e
  · rename_i ys
    split at e
    · rename_i n t q
      cases e
      obtain ⟨v, u, rfl, r0, qv⟩ := one_val p r
      obtain ⟨b, ws, rfl, s1, d1⟩ := rp_tup S r0 (peekR_of qv)
      obtain ⟨rfl, _⟩ := dpA_ints d1 q
      refine .inr ⟨b, n :: t, rfl, sqT_mono S.sub s1.sq, Nat.succ_pos _, fun m hm hy => ?_⟩
      rw [min_is hm hy]
      exact fin_d S a (.int _)
    · cases e
  · cases e
theorem b_max2 (hc : X.calm = true) : CallR X (.builtin "max") (rCl X.K ca W (bltS .max2)) := by
  refine CallR.imp (call_max2 (X := X) hc) fun us H Q ⟨Y, F, ρ, h, σ, vs, S, r, a⟩ => ?_
  obtain ⟨xs, z, p, e, a⟩ := blt_cases a
  replace e : bMax2 xs = some z := e
  unfold bMax2 at e
  split at e
  · cases e
    obtain ⟨v, w, u1, u2, rfl, r1, r2, q1, q2⟩ := two_val p r
    rw [dp_int (peek_ok S r1 q1), dp_int (peek_ok S r2 q2)]
    exact ⟨_, _, rfl, fin_d S a (.int _)⟩
  · cases e
theorem b_min2 (hc : X.calm = true) : CallR X (.builtin "min") (rCl X.K ca W (bltS .min2)) := by
  refine CallR.imp (call_min2 (X := X) hc) fun us H Q ⟨Y, F, ρ, h, σ, vs, S, r, a⟩ => ?_
  obtain ⟨xs, z, p, e, a⟩ := blt_cases a
  replace e : bMin2 xs = some z := e
  unfold bMin2 at e
  split at e
  · cases e
    obtain ⟨v, w, u1, u2, rfl, r1, r2, q1, q2⟩ := two_val p r
    rw [dp_int (peek_ok S r1 q1), dp_int (peek_ok S r2 q2)]
    exact ⟨_, _, rfl, fin_d S a (.int _)⟩
  · cases e
theorem b_tup : CallR X (.type "tuple") (rCl X.K ca W (bltS .tup)) := by
  refine CallR.imp (call_tuple_of (X := X)) fun us H Q ⟨Y, F, ρ, h, σ, vs, S, r, a⟩ => ?_
  obtain ⟨xs, z, p, e, a⟩ := blt_cases a
  replace e : bTup xs = some z := e
  unfold bTup at e
  split at e
  · cases e
    obtain ⟨b, ws, rfl, e1, e2⟩ := list1 S p r
    exact ⟨b, ws, rfl, .inl ⟨.inl (.inl e1), fun l hl => fin_tup S a hl e2⟩⟩
  · cases e
    obtain ⟨v, u, rfl, r0, q⟩ := one_val p r
    obtain ⟨b, ws, rfl, s1, d1⟩ := rp_tup S r0 (peekR_of q)
    exact ⟨b, ws, rfl, .inr ⟨sqT_mono S.sub s1.sq, fin_d S a (.tup s1 d1)⟩⟩
  · cases e
theorem b_abs : CallR X (.builtin "abs") (rCl X.K ca W (bltS .abs)) := by
  refine CallR.imp (call_abs (X := X)) fun us H Q ⟨Y, F, ρ, h, σ, vs, S, r, a⟩ => ?_
  obtain ⟨xs, z, p, e, a⟩ := blt_cases a
  replace e : bAbs xs = some z := e
  unfold bAbs at e
  split at e
  · cases e
    obtain ⟨v, u, rfl, r0, q⟩ := one_val p r
    rw [dp_int (peek_ok S r0 q)]
    exact ⟨_, rfl, fin_d S a (.int _)⟩
  · cases e
theorem b_int : CallR X (.type "int") (rCl X.K ca W (bltS .int)) := by
  refine CallR.imp (call_int1 (X := X)) fun us H Q ⟨Y, F, ρ, h, σ, vs, S, r, a⟩ => ?_
  obtain ⟨xs, z, p, e, a⟩ := blt_cases a
  replace e : bInt xs = some z := e
  unfold bInt at e
  split at e
  · cases e
    obtain ⟨v, u, rfl, r0, q⟩ := one_val p r
    rw [dp_int (peek_ok S r0 q)]
    exact .inl ⟨_, rfl, fin_d S a (.int _)⟩
  · cases e
    obtain ⟨v, u, rfl, r0, q⟩ := one_val p r
    rw [dp_bl (peek_ok S r0 q)]
    exact .inr ⟨_, rfl, fin_d S a (.int _)⟩
  · cases e
theorem b_lst : CallR X (.type "list") (rCl X.K ca W (bltS .lst)) := by
  refine CallR.imp (call_list_of (X := X)) fun us H Q ⟨Y, F, ρ, h, σ, vs, S, r, a⟩ => ?_
  obtain ⟨xs, z, p, e, a⟩ := blt_cases a
  replace e : bLst xs = some z := e
  unfold bLst at e
  split at e
  · cases e
    obtain ⟨b, ws, rfl, e1, e2⟩ := list1 S p r
    exact ⟨b, ws, rfl, .inl (.inl (.inl e1)), fun l hl => fin_lst S a hl e2⟩
  · cases e
    obtain ⟨v, u, rfl, r0, q⟩ := one_val p r
    obtain ⟨b, ws, rfl, s1, d1⟩ := rp_tup S r0 (peekR_of q)
    exact ⟨b, ws, rfl, .inr (sqT_mono S.sub s1.sq), fun l hl => fin_lst S a hl d1⟩
  · cases e
theorem b_lstF : CallR X (.type "list") (rClF X.K ca W (bltS .lst)) := by
  refine CallR.imp (call_list_of (X := X)) fun us H Q ⟨Y, F, ρ, h, σ, vs, S, r, a⟩ => ?_
  obtain ⟨xs, z, p, e, a⟩ := bltF_cases a
  replace e : bLst xs = some (.list z) := e
  unfold bLst at e
  split at e
  · cases e
    obtain ⟨b, ws, rfl, e1, e2⟩ := list1 S p r
    exact ⟨b, ws, rfl, .inl (.inl (.inl e1)), fun l hl => fin_loose S a hl e2⟩
  · cases e
    obtain ⟨v, u, rfl, r0, q⟩ := one_val p r
    obtain ⟨b, ws, rfl, s1, d1⟩ := rp_tup S r0 (peekR_of q)
    exact ⟨b, ws, rfl, .inr (sqT_mono S.sub s1.sq), fun l hl => fin_loose S a hl d1⟩
  · cases e
/-- list(d) -/
theorem keys_go {K : PySem.W.Frag} {Y F H : Hp} {ρ : Nat → Addr} {h : Hep} {n : Nat} {kvs : List (List Int × D)} {p : Addr} {bs : List Addr} {ks : List (List Key × V)} (S : Sim K Y F ρ h H) (q : KvR K F ks kvs) (hp : H p = none) (hb : IsKeys H ks bs) :
    ∃ F', Same F F' ∧ Sim K Y F' ρ h (upd H p (.lst (bs.map V.ref))) ∧ Loose Y F' ρ h p ∧ RpA K F' (bs.map V.ref) (kvs.map fun p => keyD p.1) := by
  have pz : Paired (fun p z => p.1 = z.map Sum.inl) ks (kvs.map (·.1)) := by
    clear hb
    induction q with
    | nil => exact .nil
    | cons a t ih => exact .cons a.1 ih
  obtain ⟨F', m, S1, r⟩ := Sim.frzT S hb pz
  rw [List.map_map] at r
  exact ⟨F', m, S1.new hp, S1.loose hp, r⟩
theorem blt_lst_or (vs : List Vl) (h : Hep) : bltV .lst vs h = bltS .lst vs h ∨ ∃ n kvs, vs = [.r n] ∧ h[n]? = some (.dct kvs) ∧ bltV .lst vs h = .ok (.d (.list (kvs.map fun p => keyD p.1))) h := by
  unfold bltV bltS
  cases peekAll h vs with
  | some _ => exact .inl rfl
  | none =>
    dsimp only
    unfold keysV
    split
    · rename_i n _
      split
      · rename_i kvs q
        exact .inr ⟨n, kvs, rfl, q, rfl⟩
      · exact .inl rfl
    · exact .inl rfl
theorem one_r {K : PySem.W.Frag} {F : Hp} {ρ : Nat → Addr} {m n : Nat} {us : List V} (r : RVs K F ρ m [.r n] us) : us = [.ref (ρ n)] := by
  cases r with
  | cons r0 rt =>
    cases rt
    rw [r0.2]
theorem b_lst2 (hc : X.calm = true) : CallR X (.type "list") (rCl X.K ca W (bltV .lst)) := by
  refine CallR.imp ((b_lst (X := X) (ca := ca) (W := W)).or (call_list_dT (X := X) hc)) fun us H Q ⟨Y, F, ρ, h, σ, vs, S, r, a⟩ => ?_
  rcases blt_lst_or vs h with e | ⟨n, kvs, rfl, q, e⟩
  · rw [e] at a
    exact .inl ⟨Y, F, ρ, h, σ, vs, S, r, a⟩
  · rw [e] at a
    obtain ⟨f0, ⟨ks, e1, e2⟩, wr⟩ := S.ob n _ q
    refine .inr ⟨_, ks, one_r r, .inl e1, fun p bs hp hb => ?_⟩
    obtain ⟨F', m, S1, lo, rr⟩ := keys_go (n := n) S e2 hp hb
    obtain ⟨S2, m2⟩ := S1.frz lo upd_same
    exact a _ _ ρ _ ⟨m.trans m2, Nat.le_refl _, fun _ _ => rfl⟩ S2 (Rp.lst upd_same (dpA_mono m2 _ _ rr))
theorem b_lst2F (hc : X.calm = true) : CallR X (.type "list") (rClF X.K ca W (bltV .lst)) := by
  refine CallR.imp ((b_lstF (X := X) (ca := ca) (W := W)).or (call_list_dT (X := X) hc)) fun us H Q ⟨Y, F, ρ, h, σ, vs, S, r, a⟩ => ?_
  rcases blt_lst_or vs h with e | ⟨n, kvs, rfl, q, e⟩
  · rw [e] at a
    exact .inl ⟨Y, F, ρ, h, σ, vs, S, r, a⟩
  · rw [e] at a
    obtain ⟨f0, ⟨ks, e1, e2⟩, wr⟩ := S.ob n _ q
    refine .inr ⟨_, ks, one_r r, .inl e1, fun p bs hp hb => ?_⟩
    obtain ⟨F', m, S1, lo, rr⟩ := keys_go (n := n) S e2 hp hb
    obtain ⟨ys, ey, kk⟩ := a
    cases ey
    exact kk p _ F' ρ _ ⟨m, Nat.le_refl _, fun _ _ => rfl⟩ S1 lo upd_same rr
theorem rCl_V {b : B} (hb : b ≠ .lst) {f : Value} (o : CallR X f (rCl X.K ca W (bltS b))) : CallR X f (rCl X.K ca W (bltV b)) := CallR.imp o fun us H Q ⟨Y, F, ρ, h, σ, vs, S, r, a⟩ => ⟨Y, F, ρ, h, σ, vs, S, r, by rw [blt_eq hb] at a; exact a⟩
theorem rClF_V {b : B} (hb : b ≠ .lst) {f : Value} (o : CallR X f (rClF X.K ca W (bltS b))) : CallR X f (rClF X.K ca W (bltV b)) := CallR.imp o fun us H Q ⟨Y, F, ρ, h, σ, vs, S, r, a⟩ => ⟨Y, F, ρ, h, σ, vs, S, r, by rw [blt_eq hb] at a; exact a⟩
end
end Z

set_option linter.all false
set_option autoImplicit false
set_option maxRecDepth 100000
set_option maxHeartbeats 2000000
/-! enumerate over a tuple. -/
namespace Z
open PySem L2 PySem.Spec PyProof.Rows
open AutoSeq1 (wpAny_loadPart')
/-- the two objects that enumerate(t) lays: the tuple's iterator, then its own -/
abbrev oTi (l : Addr) : Obj := { cls := .type "tuple_iterator", data := .fields #[.ref l, .int 0 0] }
abbrev oEn (i : Addr) : Obj := { cls := .type "enumerate", data := .fields #[.none, .bool false, .ref i, rawInt 0, .none, .none] }
theorem enumT_new (l : Addr) (xs : Array Value) (n : Nat) (dd : Option Addr) (sls : Array (Option Value)) :
    Meets (Builtin.«enumerate.__new__» ⟨[.type "enumerate", .ref l], []⟩) fun _ R s =>
      s.heap.get? l = some { cls := .type "tuple", dict := dd, data := .seq xs n, slots := sls } ∧
      R (.ok (.ret (.ref (s.heap.push (oTi l)).objs.size))) { s with heap := (s.heap.push (oTi l)).push (oEn s.heap.objs.size) } :=
  .of_wp fun prog w A R s q => by
    obtain ⟨hp, gs, dr, tk, os⟩ := s
    obtain ⟨ho, q⟩ := q
    have hsub := sub_enumerate
    have hT : Heap.IsTuple (Shared.heap ⟨hp, gs, dr, tk, os⟩) l xs := ⟨_, ho, rfl, n, rfl⟩
    wp_walk using wpAny_loadPart' ho
    refine wpAny_stack_any fun st => wpAny_pure ?_
    split
    · rename_i c _ _ _ _ _
      cases (c == Value.type "enumerate")
      · wp_walk using wpAny_loadPart' ho, wpAny_pyIter_tuple hT
        exact ⟨_, rfl, q⟩
      · wp_walk using wpAny_loadPart' ho, wpAny_pyIter_tuple hT
        exact ⟨_, rfl, q⟩
    · wp_walk using wpAny_loadPart' ho, wpAny_pyIter_tuple hT
      exact ⟨_, rfl, q⟩

section
variable {prog : Program} {w : World} {A : Around} {E : Value → Shared → Prop} {s : Shared}
theorem enumT_call {l : Addr} {xs : Array Value} {Q : Value → Shared → Prop} (hT : s.heap.IsTuple l xs)
    (k : ∀ h', IsEnum h' (s.heap.objs.size + 1) s.heap.objs.size 0 .none → h'.IsTupleIter s.heap.objs.size l 0 →
      (∀ b o, s.heap.get? b = some o → h'.get? b = some o) → Q (.ref (s.heap.objs.size + 1)) { s with heap := h' }) :
    wpAny (model prog w) A (PySem.call (.type "enumerate") [.ref l]) Q E s := by
  obtain ⟨⟨c, dd, dt, sls⟩, ho, hc, n, hd⟩ := hT
  replace hc : c = .type "tuple" := hc
  replace hd : dt = .seq xs n := hd
  subst hc hd
  refine callType_new F.called_enumerate (by decide) (F.typeCall_enumerate_1 _) (F.newCall_enumerate_1 _)
    (fun obj => F.args_object_init_2 obj _) F.entry_enumerate_new (enumT_new l xs n dd sls) ⟨ho, ?_⟩
  have z1 : (s.heap.push (oTi l)).objs.size = s.heap.objs.size + 1 := Heap.size_push ..
  show _ ∧ _
  rw [z1]
  have g1 : IsEnum ((s.heap.push (oTi l)).push (oEn s.heap.objs.size)) (s.heap.objs.size + 1) s.heap.objs.size 0 .none := by
    have g := Heap.get?_push_size (s.heap.push (oTi l)) (o := oEn s.heap.objs.size) rfl
    rw [z1] at g
    exact g
  refine ⟨⟨_, g1, rfl⟩, k _ g1 ⟨_, Heap.get?_push_of_some _ (Heap.get?_push_size _ rfl), rfl, rfl⟩ fun b o x => ?_⟩
  exact Heap.get?_push_of_some _ (Heap.get?_push_of_some _ x)
end
/-- the tuple at a, each item in a new pair -/
def ItE (K : PySem.W.Frag) (a : Addr) : It where
  go := fun i H => ∃ (xs : List V) (x : V), SqT K H a xs ∧ xs[i]? = some x
  yld := fun i H v H' => ∃ T x, v = .ref T ∧ H T = none ∧ H' = upd H T (.tup [.int (i : Nat), x]) ∧ ∀ xs, SqT K H a xs → xs[i]? = some x
  stop := fun i H => ∃ xs : List V, SqT K H a xs ∧ xs.length = i
theorem turn_enumT {P : Program} {w : World} {K : PySem.W.Frag} {els : List Expr} {kk : Nat} {tp : Pos} (a e it : Addr) :
    Turn P w K (.Tuple els kk tp) (ItE K a) [e, it] e fun i h => (∃ old, IsEnum h e it ((i : Nat) : Int) old) ∧ h.IsTupleIter it a i ∧ e ≠ it ∧ a ≠ it ∧ e ≠ a where
  mem := by simp
  obj := fun i h st b hb => by
    obtain ⟨⟨old, ge⟩, ⟨o, go, _, gd⟩, _⟩ := st
    rcases (show b = e ∨ b = it by simpa using hb) with z | z
    · rw [z]
      exact ⟨_, ge, fun v q => nomatch q⟩
    · rw [z]
      refine ⟨o, go, fun v q => ?_⟩
      rw [gd] at q
      cases q
  keep := fun i h h' st k => by
    obtain ⟨⟨old, ge⟩, gi, ne⟩ := st
    exact ⟨⟨old, k e (by simp) _ ge⟩, gi.at fun o q => k it (by simp) o q, ne⟩
  item := by
    intro X eP ew eK hc i pins s σ H E I hf st hg
    subst eP ew eK
    obtain ⟨⟨old, ge⟩, gi, ne, nai, nea⟩ := st
    obtain ⟨xs, x, hq, hx⟩ := hg
    obtain ⟨its, rv, pl, hz⟩ := I.tuple hq
    obtain ⟨u, hu, ru⟩ := rv.get hx
    have le : e < s.heap.objs.size := Heap.lt_size ge
    have li : it < s.heap.objs.size := by
      obtain ⟨_, q, _⟩ := gi
      exact Heap.lt_size q
    have hT : s.heap.IsTuple a its.toArray := pl
    have hlt : i < its.toArray.size := by
      have := (List.getElem?_eq_some_iff.mp hu).1
      simpa using this
    have hh : X.A.in1.handled = none := I.ok.hd hc
    refine wpAny_pyNext_enum_itemD (Draws.tuple hh it a nai its.toArray) ge ⟨gi, hT⟩ hlt ne (by simp [ne, nea]) fun x2 h2 tk hx2 ho hi2 hT2 hsz hk => ?_
    have ex : x2 = u := by
      rw [List.getElem?_toArray] at hx2
      exact Option.some.inj (hx2.symm.trans hu)
    subst ex
    refine ⟨_, rfl, wpAny_letOwnedTupleGo_enum (s := { s with heap := h2, toks := tk + 1 }) ho fun h3 ge' sb => ?_⟩
    have hT3 := (sb.2 _ (Nat.ne_of_gt le)).trans hT2
    have new : ObjOk X.prog X.w (upd H s.heap.objs.size (.tup [.int (i : Nat), x])) h3 s.heap.objs.size (.tup [.int (i : Nat), x]) := by
      refine ⟨by show 2 ≤ sizeLine; decide, [.int i tk, x2], ?_, ⟨_, hT3, rfl, _, rfl⟩⟩
      exact .cons ⟨_, rfl⟩ (.cons ru .nil)
    have kp : ∀ b ob, b ∉ [e, it] → s.heap.get? b = some ob → h3.get? b = some ob := fun b ob hb q => by
      have n1 : b ≠ e := fun z => hb (by simp [z])
      have n2 : b ≠ it := fun z => hb (by simp [z])
      exact (sb.2 b n1).trans (hk b ob n1 n2 q)
    have I1 := I.turnedNew (t' := tk + 1) (ch := [e, it]) kp hf (Nat.le_refl _) new
    have nx : ∀ ys, SqT X.K H a ys → ys[i]? = some x := fun ys hy => by
      rw [I.tuple_inj hy hq]
      exact hx
    refine ⟨.ref s.heap.objs.size, _, I1, rfl, ⟨_, x, rfl, I.hok.fresh (Nat.le_refl _), rfl, nx⟩, ⟨⟨x2, ?_⟩, ?_, ne, nai, nea⟩, fun b hb => ?_⟩
    · have e1 : ((i + 1 : Nat) : Int) = (i : Int) + 1 := by omega
      rw [e1]
      exact ge'
    · exact hi2.1.at fun o q => (sb.2 it (Ne.symm ne)).trans q
    · have lb : b < s.heap.objs.size := by
        rcases (show b = e ∨ b = it by simpa using hb) with z | z
        · rw [z]
          exact le
        · rw [z]
          exact li
      rw [upd_ne (Nat.ne_of_lt lb)]
      exact (hf b hb).1
  done := by
    intro X eP ew eK hc i pins s σ H E I hf st hg
    subst eP ew eK
    obtain ⟨⟨old, ge⟩, gi, ne, nai, nea⟩ := st
    obtain ⟨xs, hq, hx⟩ := hg
    obtain ⟨its, rv, pl, hz⟩ := I.tuple hq
    obtain ⟨f0, f1, f2, f3, f4, f5⟩ := hf it (by simp)
    have en : its.toArray.size = i := by
      rw [List.size_toArray, ← rv.length]
      exact hx
    have hh : X.A.in1.handled = none := I.ok.hd hc
    refine wpAny_pyNext_enum_endD (Draws.tuple hh it a nai its.toArray) ge ⟨by rw [en]; exact gi, pl⟩ fun h2 eb => ⟨rfl, ?_⟩
    exact I.turned (t' := s.toks) (fun b o hb q => eb b o hb q) f0 f1 f3 f4 f5
  self := fun A i s Q E st q => by
    obtain ⟨⟨_, ge⟩, _⟩ := st
    exact wpAny_pyIter_enum ge q

def iEnT (K : PySem.W.Frag) (ta : TA) : TI := fun σ H R => ta σ H fun vs H1 => ∃ a xs, vs = [.ref a] ∧ SqT K H1 a xs ∧ R (ItE K a) H1
theorem pi_enumT {X : Cx} {e : Expr} {ta : TA} {p pos tp : Pos} {els : List Expr} {kk : Nat} (hg : Gl X "enumerate") (hm : X.mg "enumerate" = none) (ha : PA X [e] ta)
    (hs : starEach [e] X.env = [(false, eval e X.env)]) : PI X (.Tuple els kk tp) (.Call (.Name "enumerate" p) [e] [] pos) (iEnT X.K ta) := by
  refine ⟨fun pins s σ H R I q => Call_ (ld_blt I hg hm boot_enumerate (PyProof.Rows.callWith_type1 ?_ hs rfl))⟩
  refine thn (ha.run pos pins s σ H _ I q) fun us s1 ⟨vs, H1, I1, r1, a, xs, ex, hq, q1⟩ => ?_
  subst ex
  cases r1 with
  | cons r rr =>
    cases rr
    cases r
    obtain ⟨its, rv, pl, hz⟩ := I1.tuple hq
    refine enumT_call (xs := its.toArray) pl fun h2 ge gi hk => wpAny_pyIter_enum ge ?_
    have I2 : Inv X pins σ H1 { s1 with heap := h2 } := I1.kept (t' := s1.toks) hk
    have la : a < s1.heap.objs.size := by
      obtain ⟨o, ho, _⟩ := pl
      exact Heap.lt_size ho
    refine ⟨s1.heap.objs.size + 1, [s1.heap.objs.size + 1, s1.heap.objs.size], _, _, H1, rfl, I2, turn_enumT a _ _, ⟨⟨.none, ge⟩, gi, ?_, ?_, ?_⟩, fun b hb => ?_, q1⟩
    · exact Nat.succ_ne_self _
    · exact Nat.ne_of_lt la
    · exact Nat.ne_of_gt (Nat.lt_succ_of_lt la)
    · have hle : s1.heap.objs.size ≤ b := by
        rcases (show b = s1.heap.objs.size + 1 ∨ b = s1.heap.objs.size by simpa using hb) with z | z
        · rw [z]
          exact Nat.le_add_right _ _
        · rw [z]
          exact Nat.le_refl _
      exact I1.fpOk hle (I1.hok.fresh hle)
end Z

set_option linter.all false
set_option autoImplicit false
set_option maxRecDepth 100000
set_option maxHeartbeats 1000000
/-! Z8: what is walked; comprehensions. -/
namespace Z
open PySem L2 PySem.Spec PyProof.Rows
variable [TC : TabsC]
/-- the walk J yields these data, whatever else goes on -/
structure ItOk (K : PySem.W.Frag) (J : It) (F : Hp) (xs : List D) : Prop where
  go : ∀ i Y F1 ρ1 h1 H1, Same F F1 → Sim K Y F1 ρ1 h1 H1 → i < xs.length → J.go i H1
  yld : ∀ i Y F1 ρ1 h1 H1 x H', Same F F1 → Sim K Y F1 ρ1 h1 H1 → i < xs.length → J.yld i H1 x H' → ∃ F2 d, Same F1 F2 ∧ Sim K Y F2 ρ1 h1 H' ∧ xs[i]? = some d ∧ Rp K F2 x d
  stop : ∀ Y F1 ρ1 h1 H1, Same F F1 → Sim K Y F1 ρ1 h1 H1 → J.stop xs.length H1
section
variable (K : PySem.W.Frag) (ca : Nat → Addr) (W : WX)
def AftI (Y F : Hp) (ρ : Nat → Addr) (n : Nat) (σ : L2.St) (Rr : It → Hp → Prop) : R (List D) → Prop
  | .ok xs h => ∀ J F' ρ' H', Ext F ρ n F' ρ' h.length → Sim K Y F' ρ' h H' → ItOk K J F' xs → Rr J H'
  | .ex c h => ∀ F' ρ' H', Ext F ρ n F' ρ' h.length → Sim K Y F' ρ' h H' → W (.ref (ca c)) none σ H'
  | .no => False
def tI (r : Env → Hep → R (List D)) : TI := fun σ H Rr => ∃ Y F ρ h s, Sim K Y F ρ h H ∧ EnvR K F ρ h.length s σ ∧ AftI K ca W Y F ρ h.length σ Rr (r s h)
end
section
variable {K : PySem.W.Frag} {F : Hp}
theorem it_list {a : Addr} {vs : List V} {xs : List D} (e : F a = some (.lst vs)) (d : RpA K F vs xs) : ItOk K (Itl K a) F xs := by
  have hl := dpA_len d
  refine ⟨fun i Y F1 ρ1 h1 H1 m S hi => ?_, fun i Y F1 ρ1 h1 H1 x H' m S hi y => ?_, fun Y F1 ρ1 h1 H1 m S => ?_⟩
  · have hi' : i < vs.length := by omega
    exact ⟨vs, vs[i], .inl (.inl (S.sub _ _ (m _ _ e))), List.getElem?_eq_getElem hi'⟩
  · obtain ⟨rfl, y⟩ := y
    obtain ⟨z, q1, q2⟩ := dpA_get' d (y vs (.inl (.inl (S.sub _ _ (m _ _ e)))))
    exact ⟨F1, z, Same.refl _, S, q1, dp_mono m _ _ q2⟩
  · exact ⟨vs, .inl (.inl (S.sub _ _ (m _ _ e))), by omega⟩
theorem it_tup {a : Addr} {vs : List V} {xs : List D} (e : SqT K F a vs) (d : RpA K F vs xs) : ItOk K (Itt K a) F xs := by
  have hl := dpA_len d
  refine ⟨fun i Y F1 ρ1 h1 H1 m S hi => ?_, fun i Y F1 ρ1 h1 H1 x H' m S hi y => ?_, fun Y F1 ρ1 h1 H1 m S => ?_⟩
  · have hi' : i < vs.length := by omega
    exact ⟨vs, vs[i], sqT_mono S.sub (sqT_mono m e), List.getElem?_eq_getElem hi'⟩
  · obtain ⟨rfl, y⟩ := y
    obtain ⟨z, q1, q2⟩ := dpA_get' d (y vs (sqT_mono S.sub (sqT_mono m e)))
    exact ⟨F1, z, Same.refl _, S, q1, dp_mono m _ _ q2⟩
  · exact ⟨vs, sqT_mono S.sub (sqT_mono m e), by omega⟩
theorem it_str (x : Str) : ItOk K (Its x) F (x.cps.toList.map fun c => .str ⟨#[c]⟩) := by
  have hl : (x.cps.toList.map fun c => (PyData.str ⟨#[c]⟩)).length = x.cps.size := by simp
  refine ⟨fun i Y F1 ρ1 h1 H1 m S hi => ?_, fun i Y F1 ρ1 h1 H1 v H' m S hi y => ?_, fun Y F1 ρ1 h1 H1 m S => ?_⟩
  · show i < x.cps.size
    omega
  · obtain ⟨rfl, c, e1, rfl⟩ := y
    refine ⟨F1, .str ⟨#[c]⟩, Same.refl _, S, ?_, .str _⟩
    rw [List.getElem?_map, Array.getElem?_toList, e1]
    rfl
  · show x.cps.size ≤ _
    omega
theorem it_rng (n : Int) : ItOk K (Itr 0 n.toNat) F (rangeD n) := by
  have hl : (rangeD n).length = n.toNat := by simp [rangeD]
  refine ⟨fun i Y F1 ρ1 h1 H1 m S hi => ?_, fun i Y F1 ρ1 h1 H1 v H' m S hi y => ?_, fun Y F1 ρ1 h1 H1 m S => ?_⟩
  · show i < n.toNat
    omega
  · obtain ⟨rfl, rfl⟩ := y
    refine ⟨F1, .int (i : Nat), Same.refl _, S, ?_, ?_⟩
    · unfold rangeD
      rw [List.getElem?_map, List.getElem?_range (by omega)]
      rfl
    · rw [Int.zero_add]
      exact .int _
  · show n.toNat ≤ _
    omega
theorem it_enum {a : Addr} {vs : List V} {xs : List D} (e : F a = some (.lst vs)) (d : RpA K F vs xs) : ItOk K (Ite K a) F (enumD xs) := by
  have hl := dpA_len d
  have hl2 : (enumD xs).length = xs.length := by simp [enumD]
  refine ⟨fun i Y F1 ρ1 h1 H1 m S hi => ?_, fun i Y F1 ρ1 h1 H1 v H' m S hi y => ?_, fun Y F1 ρ1 h1 H1 m S => ?_⟩
  · have hi' : i < vs.length := by omega
    exact ⟨vs, vs[i], .inl (.inl (S.sub _ _ (m _ _ e))), List.getElem?_eq_getElem hi'⟩
  · obtain ⟨T, x, rfl, nT, rfl, y⟩ := y
    obtain ⟨z, q1, q2⟩ := dpA_get' d (y vs (.inl (.inl (S.sub _ _ (m _ _ e)))))
    have l := S.loose nT
    obtain ⟨S2, m2⟩ := (S.new (o := .tup [.int (i : Nat), x]) nT).frz l upd_same
    refine ⟨_, .tuple [.int (i : Nat), z], m2, S2, ?_, .tup (.inl upd_same) (.cons (.int _) (.cons (dp_mono m2 _ _ (dp_mono m _ _ q2)) .nil))⟩
    unfold enumD
    rw [List.getElem?_map, List.getElem?_zipIdx, q1]
    simp
  · exact ⟨vs, .inl (.inl (S.sub _ _ (m _ _ e))), by omega⟩
theorem it_enumT {a : Addr} {vs : List V} {xs : List D} (e : SqT K F a vs) (d : RpA K F vs xs) : ItOk K (ItE K a) F (enumD xs) := by
  have hl := dpA_len d
  have hl2 : (enumD xs).length = xs.length := by simp [enumD]
  refine ⟨fun i Y F1 ρ1 h1 H1 m S hi => ?_, fun i Y F1 ρ1 h1 H1 v H' m S hi y => ?_, fun Y F1 ρ1 h1 H1 m S => ?_⟩
  · have hi' : i < vs.length := by omega
    exact ⟨vs, vs[i], sqT_mono S.sub (sqT_mono m e), List.getElem?_eq_getElem hi'⟩
  · obtain ⟨T, x, rfl, nT, rfl, y⟩ := y
    obtain ⟨z, q1, q2⟩ := dpA_get' d (y vs (sqT_mono S.sub (sqT_mono m e)))
    have l := S.loose nT
    obtain ⟨S2, m2⟩ := (S.new (o := .tup [.int (i : Nat), x]) nT).frz l upd_same
    refine ⟨_, .tuple [.int (i : Nat), z], m2, S2, ?_, .tup (.inl upd_same) (.cons (.int _) (.cons (dp_mono m2 _ _ (dp_mono m _ _ q2)) .nil))⟩
    unfold enumD
    rw [List.getElem?_map, List.getElem?_zipIdx, q1]
    simp
  · exact ⟨vs, sqT_mono S.sub (sqT_mono m e), by omega⟩
theorem rev_get {α : Type} {xs : List α} {i : Nat} (hi : i < xs.length) : xs.reverse[i]? = xs[xs.length - 1 - i]? := by
  rw [List.getElem?_reverse hi]
theorem it_rev {a : Addr} {vs : List V} {xs : List D} (e : F a = some (.lst vs)) (d : RpA K F vs xs) : ItOk K (Itv K a vs.length) F xs.reverse := by
  have hl := dpA_len d
  have hl2 : xs.reverse.length = xs.length := List.length_reverse
  refine ⟨fun i Y F1 ρ1 h1 H1 m S hi => ?_, fun i Y F1 ρ1 h1 H1 x H' m S hi y => ?_, fun Y F1 ρ1 h1 H1 m S => ?_⟩
  · have hi' : vs.length - 1 - i < vs.length := by omega
    exact ⟨by omega, vs, vs[vs.length - 1 - i], .inl (.inl (S.sub _ _ (m _ _ e))), List.getElem?_eq_getElem hi'⟩
  · obtain ⟨rfl, y⟩ := y
    obtain ⟨z, q1, q2⟩ := dpA_get' d (y vs (.inl (.inl (S.sub _ _ (m _ _ e)))))
    refine ⟨F1, z, Same.refl _, S, ?_, dp_mono m _ _ q2⟩
    rw [rev_get (by omega), ← hl]
    exact q1
  · show vs.length ≤ _
    omega
theorem it_revT {a : Addr} {vs : List V} {xs : List D} (e : SqT K F a vs) (d : RpA K F vs xs) : ItOk K (RT.ItvT K a vs.length) F xs.reverse := by
  have hl := dpA_len d
  have hl2 : xs.reverse.length = xs.length := List.length_reverse
  refine ⟨fun i Y F1 ρ1 h1 H1 m S hi => ?_, fun i Y F1 ρ1 h1 H1 x H' m S hi y => ?_, fun Y F1 ρ1 h1 H1 m S => ?_⟩
  · have hi' : vs.length - 1 - i < vs.length := by omega
    exact ⟨by omega, vs, vs[vs.length - 1 - i], sqT_mono S.sub (sqT_mono m e), List.getElem?_eq_getElem hi'⟩
  · obtain ⟨rfl, y⟩ := y
    obtain ⟨z, q1, q2⟩ := dpA_get' d (y vs (sqT_mono S.sub (sqT_mono m e)))
    refine ⟨F1, z, Same.refl _, S, ?_, dp_mono m _ _ q2⟩
    rw [rev_get (by omega), ← hl]
    exact q1
  · show vs.length ≤ _
    omega
end
section
variable {X : Cx} {ca : Nat → Addr} {W : WX}
theorem PI.imp {tg e : Expr} {t t' : TI} (p : PI X tg e t) (i : ∀ σ H Rr, t' σ H Rr → t σ H Rr) : PI X tg e t' := ⟨fun pins s σ H Rr I q => p.run pins s σ H Rr I (i σ H Rr q)⟩
theorem PI.or {tg e : Expr} {t t' : TI} (p : PI X tg e t) (p' : PI X tg e t') : PI X tg e (fun σ H Rr => t σ H Rr ∨ t' σ H Rr) := ⟨fun pins s σ H Rr I q => q.elim (p.run pins s σ H Rr I) (p'.run pins s σ H Rr I)⟩
theorem AftI.mono {K : PySem.W.Frag} {Y F F1 : Hp} {ρ ρ1 : Nat → Addr} {n n1 : Nat} {σ : L2.St} {Rr : It → Hp → Prop} {r : R (List D)} (e : Ext F ρ n F1 ρ1 n1) (a : AftI K ca W Y F ρ n σ Rr r) : AftI K ca W Y F1 ρ1 n1 σ Rr r := by
  cases r with
  | ok v h => exact fun u F' ρ' H' x S r => a u F' ρ' H' (e.trans x) S r
  | ex c h => exact fun F' ρ' H' x S => a F' ρ' H' (e.trans x) S
  | no => exact a
/-- a list, a tuple, a text is walked: what is known of it -/
def GL (K : PySem.W.Frag) (f : List D → List D) (Rr : It → Hp → Prop) (u : V) (H1 : Hp) : Prop := ∃ a vs xs F, u = .ref a ∧ H1 a = some (.lst vs) ∧ F a = some (.lst vs) ∧ RpA K F vs xs ∧ ∀ J, ItOk K J F (f xs) → Rr J H1
def GT (K : PySem.W.Frag) (f : List D → List D) (Rr : It → Hp → Prop) (u : V) (H1 : Hp) : Prop := ∃ a vs xs F, u = .ref a ∧ SqT K H1 a vs ∧ SqT K F a vs ∧ RpA K F vs xs ∧ ∀ J, ItOk K J F (f xs) → Rr J H1
def GS (K : PySem.W.Frag) (f : List D → List D) (Rr : It → Hp → Prop) (u : V) (H1 : Hp) : Prop := ∃ x F, u = .str x ∧ ∀ J, ItOk K J F (f (x.cps.toList.map fun c => .str ⟨#[c]⟩)) → Rr J H1
theorem tI_cases {K : PySem.W.Frag} {σ : L2.St} {H : Hp} {Rr : It → Hp → Prop} {ra : Env → Hep → R Vl} {f : List D → List D}
    (t : tI K ca W (fun s h => bnd (ra s h) fun v h1 => kept v h1 fun x h2 => opt h2 ((items x).map f)) σ H Rr) :
    tE K ca W ra σ H (GL K f Rr) ∨ tE K ca W ra σ H (GT K f Rr) ∨ tE K ca W ra σ H (GS K f Rr) := by
  obtain ⟨Y, F, ρ, h, s, S, E, a⟩ := t
  dsimp only at a
  cases e : ra s h with
  | ok v h1 =>
    rw [e] at a
    replace a : AftI K ca W Y F ρ h.length σ Rr (kept v h1 fun x h2 => opt h2 ((items x).map f)) := a
    unfold kept at a
    cases q : keep h1 v with
    | none =>
      rw [q] at a
      exact a.elim
    | some p =>
      obtain ⟨d, h2⟩ := p
      rw [q] at a
      dsimp only at a
      cases d with
      | list xs =>
        refine .inl ⟨Y, F, ρ, h, s, S, E, ?_⟩
        rw [e]
        intro u F' ρ' H' x S' rv
        obtain ⟨F2, x2, S2, dp⟩ := keep_ok S' rv q
        cases dp with
        | lst k1 k2 => exact ⟨_, _, xs, F2, rfl, S2.sub _ _ k1, k1, k2, fun J j => a J F2 ρ' H' (x.trans x2) S2 j⟩
      | tuple xs =>
        refine .inr (.inl ⟨Y, F, ρ, h, s, S, E, ?_⟩)
        rw [e]
        intro u F' ρ' H' x S' rv
        obtain ⟨F2, x2, S2, dp⟩ := keep_ok S' rv q
        cases dp with
        | tup k1 k2 => exact ⟨_, _, xs, F2, rfl, sqT_mono S2.sub k1.sq, k1.sq, k2, fun J j => a J F2 ρ' H' (x.trans x2) S2 j⟩
      | str z =>
        refine .inr (.inr ⟨Y, F, ρ, h, s, S, E, ?_⟩)
        rw [e]
        intro u F' ρ' H' x S' rv
        obtain ⟨F2, x2, S2, dp⟩ := keep_ok S' rv q
        cases dp with
        | str _ => exact ⟨z, F2, rfl, fun J j => a J F2 ρ' H' (x.trans x2) S2 j⟩
      | _ => exact a.elim
  | ex c h1 =>
    rw [e] at a
    refine .inl ⟨Y, F, ρ, h, s, S, E, ?_⟩
    rw [e]
    exact a
  | no =>
    rw [e] at a
    exact a.elim
theorem tI_casesL {K : PySem.W.Frag} {σ : L2.St} {H : Hp} {Rr : It → Hp → Prop} {ra : Env → Hep → R Vl} {f : List D → List D}
    (t : tI K ca W (fun s h => bnd (ra s h) fun v h1 => kept v h1 fun x h2 => opt h2 ((items' x).map f)) σ H Rr) :
    tE K ca W ra σ H (GL K f Rr) ∨ tE K ca W ra σ H (GT K f Rr) := by
  obtain ⟨Y, F, ρ, h, s, S, E, a⟩ := t
  dsimp only at a
  cases e : ra s h with
  | ok v h1 =>
    rw [e] at a
    replace a : AftI K ca W Y F ρ h.length σ Rr (kept v h1 fun x h2 => opt h2 ((items' x).map f)) := a
    unfold kept at a
    cases q : keep h1 v with
    | none =>
      rw [q] at a
      exact a.elim
    | some p =>
      obtain ⟨d, h2⟩ := p
      rw [q] at a
      dsimp only at a
      cases d with
      | list xs =>
        refine .inl ⟨Y, F, ρ, h, s, S, E, ?_⟩
        rw [e]
        intro u F' ρ' H' x S' rv
        obtain ⟨F2, x2, S2, dp⟩ := keep_ok S' rv q
        cases dp with
        | lst k1 k2 => exact ⟨_, _, xs, F2, rfl, S2.sub _ _ k1, k1, k2, fun J j => a J F2 ρ' H' (x.trans x2) S2 j⟩
      | tuple xs =>
        refine .inr ⟨Y, F, ρ, h, s, S, E, ?_⟩
        rw [e]
        intro u F' ρ' H' x S' rv
        obtain ⟨F2, x2, S2, dp⟩ := keep_ok S' rv q
        cases dp with
        | tup k1 k2 => exact ⟨_, _, xs, F2, rfl, sqT_mono S2.sub k1.sq, k1.sq, k2, fun J j => a J F2 ρ' H' (x.trans x2) S2 j⟩
      | _ => exact a.elim
  | ex c h1 =>
    rw [e] at a
    refine .inl ⟨Y, F, ρ, h, s, S, E, ?_⟩
    rw [e]
    exact a
  | no =>
    rw [e] at a
    exact a.elim
theorem pi_Z {tg e : Expr} {ra : Env → Hep → R Vl} (p : PE X e (tE X.K ca W ra)) : PI X tg e (tI X.K ca W fun s h => bnd (ra s h) fun v h1 => kept v h1 fun x h2 => opt h2 (items x)) := by
  refine PI.imp (PI.or (pi_list (tg := tg) p) (PI.or (pi_tup (tg := tg) p) (pi_str (tg := tg) p))) fun σ H Rr t => ?_
  have t' : tI X.K ca W (fun s h => bnd (ra s h) fun v h1 => kept v h1 fun x h2 => opt h2 ((items x).map id)) σ H Rr := by
    have e : (fun x : D => (items x).map id) = items := funext fun x => by cases items x <;> rfl
    obtain ⟨Y, F, ρ, h, s, S, E, a⟩ := t
    refine ⟨Y, F, ρ, h, s, S, E, ?_⟩
    have e2 : ∀ x : D, (items x).map id = items x := fun x => by cases items x <;> rfl
    simp only [e2]
    exact a
  have mo : ∀ (G G' : VK), (∀ u H1, G u H1 → G' u H1) → tE X.K ca W ra σ H G → tE X.K ca W ra σ H G' := fun G G' i ⟨Y, F, ρ, h, s, S, E, a⟩ => by
    refine ⟨Y, F, ρ, h, s, S, E, ?_⟩
    cases e : ra s h with
    | ok v h1 =>
      rw [e] at a
      exact fun u F' ρ' H' x S' rv => i u H' (a u F' ρ' H' x S' rv)
    | ex c h1 =>
      rw [e] at a
      exact a
    | no =>
      rw [e] at a
      exact a
  rcases tI_cases t' with t | t | t
  · exact .inl (mo _ _ (fun u H1 ⟨a, vs, xs, F, e1, e2, e3, e4, k⟩ => ⟨a, e1, ⟨vs, .inl (.inl e2)⟩, k _ (it_list e3 e4)⟩) t)
  · exact .inr (.inl (mo _ _ (fun u H1 ⟨a, vs, xs, F, e1, e2, e3, e4, k⟩ => ⟨a, e1, ⟨vs, e2⟩, k _ (it_tup e3 e4)⟩) t))
  · exact .inr (.inr (mo _ _ (fun u H1 ⟨x, F, e1, k⟩ => ⟨x, e1, k _ (it_str x)⟩) t))
end
end Z

set_option linter.all false
set_option autoImplicit false
set_option maxRecDepth 100000
set_option maxHeartbeats 1000000
/-! Z9: targets, ranges, comprehensions. -/
namespace Z
open PySem L2 PySem.Spec PyProof.Rows
variable [TC : TabsC]
/-! ### targets -/
def gNs : List Nat → TGs
  | [] => gNil
  | i :: is => gCons (gName i) (gNs is)
def gT (K : PySem.W.Frag) : Tg → TG
  | .nm i => gName i
  | .tp is => gTup K is.length (gNs is)
theorem slot_ok {N : List Str} {x : Str} {i : Nat} (e : slot N x = some i) : N[i]? = some x := by
  unfold slot at e
  obtain ⟨h1, h2, _⟩ := List.findIdx?_eq_some_iff_getElem.mp e
  have h3 : N[i] = x := of_decide_eq_true h2
  rw [List.getElem?_eq_getElem h1, h3]
theorem loc_ok {sc : Scope} {x : Str} (e : locB sc x = true) : Loc sc x := by
  unfold locB at e
  split at e
  · exact .inl (by assumption)
  · exact .inr (by assumption)
  · cases e
theorem vis_ok {sc : Scope} {x : Str} (e : visB sc x = true) : Vis sc x := by
  unfold visB at e
  split at e
  · exact .inl (by assumption)
  · exact .inr (.inl (by assumption))
  · exact .inr (.inr (by assumption))
  · cases e
theorem only_ok {sc : Scope} {x : Str} (e : onlyLoc sc x = true) : sc.names.lookup x = some .local := by
  unfold onlyLoc at e
  split at e
  · assumption
  · cases e
theorem names_ok {X : Cx} {N : List Str} {sc : Scope} {fn : Str → Bool} (eN : X.N = N) (nd : N.Nodup) (es : X.env.scope = sc) (hf : ∀ x, fn x = true → X.fn x = true ∨ sc.names.lookup x = some .local) :
    ∀ {ts : List Expr} {is : List Nat}, trNames N sc fn ts = some is → PGs X ts (gNs is) ∧ (assignEach ts X.env).length = is.length ∧ (assignEach ts X.env).findIdx? (·.1) = none
  | [], is, e => by
    have e' : [] = is := Option.some.inj e
    subst e'
    exact ⟨pgs_nil, rfl, rfl⟩
  | t :: ts, is, e => by
    cases t with
    | Name x p =>
      unfold trNames at e
      split at e
      · rename_i i js q1 q2
        split at e
        · rename_i c
          have e' : i :: js = is := Option.some.inj e
          subst e'
          simp only [Bool.and_eq_true] at c
          obtain ⟨⟨c1, c2⟩, c3⟩ := c
          obtain ⟨h1, h2, h3⟩ := names_ok eN nd es hf q2
          have g : PG X (.Name x p) (gName i) := pg_name (by rw [eN]; exact nd) (by rw [eN]; exact slot_ok q1) (by rw [es]; exact loc_ok c1) (by rw [es]; exact hf x c2)
          refine ⟨pgs_cons g h1 rfl, by show _ + 1 = _ + 1; rw [h2], ?_⟩
          have ec : assignEach (.Name x p :: ts) X.env = (false, assign (.Name x p) X.env) :: assignEach ts X.env := rfl
          rw [ec, List.findIdx?_cons, h3]
          rfl
        · cases e
      · cases e
    | _ => cases e
theorem tg_ok {X : Cx} {N : List Str} {sc : Scope} {fn : Str → Bool} (eN : X.N = N) (nd : N.Nodup) (es : X.env.scope = sc) (hc : X.calm = true) (hf : ∀ x, fn x = true → X.fn x = true ∨ sc.names.lookup x = some .local)
    {t : Expr} {tg : Tg} (e : trTg N sc fn t = some tg) : PG X t (gT X.K tg) := by
  cases t with
  | Name x p =>
    unfold trTg at e
    dsimp only at e
    split at e
    · rename_i i q
      split at e
      · rename_i c
        have e' : Tg.nm i = tg := Option.some.inj e
        subst e'
        simp only [Bool.and_eq_true] at c
        exact pg_name (by rw [eN]; exact nd) (by rw [eN]; exact slot_ok q) (by rw [es]; exact loc_ok c.1) (by rw [es]; exact hf x c.2)
      · cases e
    · cases e
  | Tuple ts k p =>
    unfold trTg at e
    dsimp only at e
    cases q : trNames N sc fn ts with
    | none =>
      rw [q] at e
      cases e
    | some is =>
      rw [q] at e
      have e' : Tg.tp is = tg := Option.some.inj e
      subst e'
      obtain ⟨h1, h2, h3⟩ := names_ok eN nd es hf q
      exact pg_tup hc h1 h2 h3
  | _ => cases e
section
variable {K : PySem.W.Frag} {F H : Hp} {ρ : Nat → Addr} {n : Nat}
theorem wipe_set (σ : L2.St) (o : Option V) (i : Nat) : ∀ vs : List Nat, i ∈ vs → L2.wipe (σ.set i o) vs = L2.wipe σ vs
  | v :: vs, hi => by
    show (L2.wipe (σ.set i o) vs).set v none = (L2.wipe σ vs).set v none
    by_cases e : i ∈ vs
    · rw [wipe_set σ o i vs e]
    · have e2 : i = v := by
        rcases List.mem_cons.mp hi with z | z
        · exact z
        · exact absurd z e
      subst e2
      have key : ∀ ws : List Nat, i ∉ ws → L2.wipe (σ.set i o) ws = (L2.wipe σ ws).set i o := by
        intro ws
        induction ws with
        | nil => exact fun _ => rfl
        | cons w ws ih =>
          intro hn
          have hne : w ≠ i := fun z => hn (by simp [z])
          show (L2.wipe (σ.set i o) ws).set w none = ((L2.wipe σ ws).set w none).set i o
          rw [ih fun z => hn (List.mem_cons_of_mem _ z), List.set_comm _ _ hne]
      rw [key vs e, List.set_set]
theorem wipe_wipe (σ : L2.St) (vs : List Nat) : L2.wipe (L2.wipe σ vs) vs = L2.wipe σ vs := by
  have key : ∀ (τ : L2.St) (ws : List Nat), (∀ w ∈ ws, w ∈ vs) → L2.wipe (L2.wipe τ ws) vs = L2.wipe τ vs := by
    intro τ ws
    induction ws with
    | nil => exact fun _ => rfl
    | cons w ws ih =>
      intro hw
      show L2.wipe ((L2.wipe τ ws).set w none) vs = _
      rw [wipe_set _ _ _ vs (hw w List.mem_cons_self)]
      exact ih fun z hz => hw z (List.mem_cons_of_mem _ hz)
  exact key σ vs fun _ h => h
theorem setAll_ok : ∀ {is : List Nat} {xs : List D} {vs : List V} {s s' : Env} {σ : L2.St} {Q : L2.St → Hp → Prop}, EnvR K F ρ n s σ → RpA K F vs xs → setAll s is xs = some s' →
    (∀ σ', EnvR K F ρ n s' σ' → (∀ ow : List Nat, is.all ow.contains = true → L2.wipe σ' ow = L2.wipe σ ow) → Q σ' H) → gNs is vs σ H Q
  | [], [], _, s, s', σ, Q, E, .nil, e, k => by
    have e' : s = s' := Option.some.inj e
    subst e'
    exact ⟨rfl, k σ E fun _ _ => rfl⟩
  | i :: is, x :: xs, v :: vs, s, s', σ, Q, E, .cons d t, e, k => ⟨v, vs, rfl, setAll_ok (s := s.set i (some (.d x))) (E.set (show RV K F ρ n (.d x) v from d) i) t e fun σ' E' wp => k σ' E' fun ow hw => by
      simp only [List.all_cons, Bool.and_eq_true] at hw
      rw [wp ow hw.2]
      exact wipe_set _ _ _ _ (by simpa using hw.1)⟩
  | [], _ :: _, _, _, _, _, _, _, _, e, _ => by cases e
  | _ :: _, [], _, _, _, _, _, _, _, e, _ => by cases e
theorem setAll_len : ∀ {is : List Nat} {xs : List D} {s s' : Env}, setAll s is xs = some s' → is.length = xs.length
  | [], [], _, _, _ => rfl
  | _ :: _, _ :: _, _, _, e => congrArg (· + 1) (setAll_len e)
  | [], _ :: _, _, _, e => by cases e
  | _ :: _, [], _, _, e => by cases e
theorem setTg_ok {Y : Hp} {h : Hep} {tg : Tg} {x : D} {v : V} {s s' : Env} {σ : L2.St} {Q : L2.St → Hp → Prop} (S : Sim K Y F ρ h H) (E : EnvR K F ρ n s σ) (d : Rp K F v x) (e : setTg s x tg = some s')
    (k : ∀ σ', EnvR K F ρ n s' σ' → (∀ ow : List Nat, tgIn ow tg = true → L2.wipe σ' ow = L2.wipe σ ow) → Q σ' H) : gT K tg v σ H Q := by
  cases tg with
  | nm i =>
    have e' : s.set i (some (.d x)) = s' := Option.some.inj e
    subst e'
    exact k _ (E.set (show RV K F ρ n (.d x) v from d) i) fun ow hw => wipe_set _ _ _ _ (by simpa [tgIn] using hw)
  | tp is =>
    unfold setTg at e
    cases x with
    | tuple xs =>
      cases d with
      | tup k1 k2 => exact ⟨_, _, rfl, sqT_mono S.sub k1.sq, by rw [dpA_len k2, setAll_len e], setAll_ok E k2 e k⟩
    | _ => cases e
end
/-! ### ranges -/
section
variable {X : Cx} {ca : Nat → Addr} {W : WX}
theorem tE_map {K : PySem.W.Frag} {σ : L2.St} {H : Hp} {ra : Env → Hep → R Vl} {G G' : VK} (i : ∀ u H1, G u H1 → G' u H1) (t : tE K ca W ra σ H G) : tE K ca W ra σ H G' := by
  obtain ⟨Y, F, ρ, h, s, S, E, a⟩ := t
  refine ⟨Y, F, ρ, h, s, S, E, ?_⟩
  cases e : ra s h with
  | ok v h1 =>
    rw [e] at a
    exact fun u F' ρ' H' x S' rv => i u H' (a u F' ρ' H' x S' rv)
  | ex c h1 =>
    rw [e] at a
    exact a
  | no =>
    rw [e] at a
    exact a
theorem star_one {e : Expr} (h : starB e = false) (env : PySem.Env) (es : List Expr) : starEach (e :: es) env = (false, eval e env) :: starEach es env := by
  cases e <;> first
    | rfl
    | cases h
def rngR (ra : Env → Hep → R Vl) (s : Env) (h : Hep) : R (List D) := bnd (ra s h) fun v h1 => match v with
  | .d (.int n) => if decide (-4611686018427387904 ≤ n) && decide (n < 4611686018427387904) then .ok (rangeD n) h1 else .no
  | _ => .no
theorem pi_rngZ {tg e : Expr} {ra : Env → Hep → R Vl} {p pos : Pos} (pe : PE X e (tE X.K ca W ra)) (hg : Gl X "range") (hm : X.mg "range" = none) (hs : starB e = false) :
    PI X tg (.Call (.Name "range" p) [e] [] pos) (tI X.K ca W (rngR ra)) := by
  have st := star_one hs X.env []
  refine PI.imp (pi_range1 (tg := tg) hg hm (pa_cons pe pa_nil st) st) fun σ H Rr t => ?_
  show tE X.K ca W ra σ H fun x H1 => ∃ j : Int, [x] = [.int j] ∧ _
  obtain ⟨Y, F, ρ, h, s, S, E, a⟩ := t
  refine ⟨Y, F, ρ, h, s, S, E, ?_⟩
  unfold rngR at a
  cases e : ra s h with
  | ok v h1 =>
    rw [e] at a
    unfold bnd at a
    dsimp only at a
    split at a
    · rename_i n
      split at a
      · rename_i c
        simp only [Bool.and_eq_true, decide_eq_true_eq] at c
        intro u F' ρ' H' x S' rv
        cases rv
        exact ⟨n, rfl, by omega, by omega, a _ F' ρ' H' x S' (it_rng n)⟩
      · exact a.elim
    · exact a.elim
  | ex c h1 =>
    rw [e] at a
    exact a
  | no =>
    rw [e] at a
    exact a
theorem it_rvg {K : PySem.W.Frag} {F : Hp} (n : Int) : ItOk K (Itc (0 + (((n - 0).toNat : Nat) : Int) - 1) (-1) (n - 0).toNat) F (rangeD n).reverse := by
  rw [Int.sub_zero]
  have hl : (rangeD n).reverse.length = n.toNat := by simp [rangeD]
  refine ⟨fun i Y F1 ρ1 h1 H1 m S hi => ?_, fun i Y F1 ρ1 h1 H1 v H' m S hi y => ?_, fun Y F1 ρ1 h1 H1 m S => ?_⟩
  · show i < n.toNat
    omega
  · obtain ⟨rfl, rfl⟩ := y
    refine ⟨F1, .int ((n.toNat - 1 - i : Nat) : Int), Same.refl _, S, ?_, ?_⟩
    · rw [rev_get (by simpa using hi)]
      unfold rangeD
      rw [List.getElem?_map, List.length_map, List.length_range, List.getElem?_range (by omega)]
      rfl
    · have e : (0 + ((n.toNat : Nat) : Int) - 1 + (i : Int) * -1) = ((n.toNat - 1 - i : Nat) : Int) := by omega
      rw [e]
      exact .int _
  · show n.toNat ≤ _
    omega
def rvgR (ra : Env → Hep → R Vl) (s : Env) (h : Hep) : R (List D) := bnd (ra s h) fun v h1 => match v with
  | .d (.int n) => if decide (-4611686018427387904 ≤ n) && decide (n < 4611686018427387904) then .ok (rangeD n).reverse h1 else .no
  | _ => .no
theorem pi_rvgZ {tg e : Expr} {ra : Env → Hep → R Vl} {p p2 pos pos2 : Pos} (pe : PE X e (tE X.K ca W ra)) (hg : Gl X "reversed") (hm : X.mg "reversed" = none) (hg2 : Gl X "range") (hm2 : X.mg "range" = none) (hs : starB e = false) :
    PI X tg (.Call (.Name "reversed" p) [.Call (.Name "range" p2) [e] [] pos2] [] pos) (tI X.K ca W (rvgR ra)) := by
  refine PI.imp (pi_revR (tg := tg) hg hm (prg_1 hg2 hm2 pe (star_one hs X.env []))) fun σ H Rr t => ?_
  show tE X.K ca W ra σ H fun x H1 => ∃ j : Int, x = .int j ∧ _
  obtain ⟨Y, F, ρ, h, s, S, E, a⟩ := t
  refine ⟨Y, F, ρ, h, s, S, E, ?_⟩
  unfold rvgR at a
  cases e : ra s h with
  | ok v h1 =>
    rw [e] at a
    unfold bnd at a
    dsimp only at a
    split at a
    · rename_i n
      split at a
      · rename_i c
        simp only [Bool.and_eq_true, decide_eq_true_eq] at c
        intro u F' ρ' H' x S' rv
        cases rv
        exact ⟨n, rfl, by omega, by omega, by omega, by omega, a _ F' ρ' H' x S' (it_rvg n)⟩
      · exact a.elim
    · exact a.elim
  | ex c h1 =>
    rw [e] at a
    exact a
  | no =>
    rw [e] at a
    exact a
theorem pi_enuZ {e : Expr} {ra : Env → Hep → R Vl} {p pos tp : Pos} {els : List Expr} {kk : Nat} (pe : PE X e (tE X.K ca W ra)) (hg : Gl X "enumerate") (hm : X.mg "enumerate" = none) (hs : starB e = false) :
    PI X (.Tuple els kk tp) (.Call (.Name "enumerate" p) [e] [] pos) (tI X.K ca W fun s h => bnd (ra s h) fun v h1 => kept v h1 fun x h2 => opt h2 ((items' x).map enumD)) := by
  have st := star_one hs X.env []
  refine PI.imp (PI.or (pi_enum hg hm (pa_cons pe pa_nil st) st) (pi_enumT hg hm (pa_cons pe pa_nil st) st)) fun σ H Rr t => ?_
  rcases tI_casesL t with t | t
  · exact .inl (tE_map (fun u H1 ⟨a, vs, xs, F, e1, e2, e3, e4, k⟩ => ⟨a, vs, by rw [e1], .inl (.inl e2), k _ (it_enum e3 e4)⟩) t)
  · exact .inr (tE_map (fun u H1 ⟨a, vs, xs, F, e1, e2, e3, e4, k⟩ => ⟨a, vs, by rw [e1], e2, k _ (it_enumT e3 e4)⟩) t)
theorem pi_rvsZ {tg e : Expr} {ra : Env → Hep → R Vl} {p pos : Pos} (pe : PE X e (tE X.K ca W ra)) (hg : Gl X "reversed") (hm : X.mg "reversed" = none) (hs : starB e = false) :
    PI X tg (.Call (.Name "reversed" p) [e] [] pos) (tI X.K ca W fun s h => bnd (ra s h) fun v h1 => kept v h1 fun x h2 => opt h2 ((items' x).map List.reverse)) := by
  have st := star_one hs X.env []
  refine PI.imp (RT.pi_revA (tg := tg) hg hm pe st) fun σ H Rr t => ?_
  rcases tI_casesL t with t | t
  · exact tE_map (fun u H1 ⟨a, vs, xs, F, e1, e2, e3, e4, k⟩ => ⟨a, vs, e1, .inl ⟨.inl (.inl e2), k _ (it_rev e3 e4)⟩⟩) t
  · exact tE_map (fun u H1 ⟨a, vs, xs, F, e1, e2, e3, e4, k⟩ => ⟨a, vs, e1, .inr ⟨e2, k _ (it_revT e3 e4)⟩⟩) t

/-! ### comprehensions -/
abbrev WF : WX := fun _ _ _ _ => False
def lcR (ri : Env → Hep → R (List D)) (rc re : Env → Hep → R Vl) (tg : Tg) (ow : List Nat) (s : Env) (h : Hep) : R Vl :=
  bnd (ri s h) fun xs h1 => if szOk xs.length then bnd (compL (lcStep rc re tg (Z.wipe s ow)) xs h1) fun ys h2 => .ok (.d (.list ys)) h2 else .no
theorem tLc_Z {K : PySem.W.Frag} {ri : Env → Hep → R (List D)} {rc re : Env → Hep → R Vl} {tg : Tg} {ow : List Nat} (hin : tgIn ow tg = true) (σ : L2.St) (H : Hp) (Q : VK) (t : tF K ca W (lcR ri rc re tg ow) σ H Q) :
    tLc (tI K ca W ri) (gT K tg) (tT K ca WF rc) (tE K ca WF re) ow σ H Q := by
  obtain ⟨Y, F, ρ, h, s, S, E, a⟩ := t
  refine ⟨Y, F, ρ, h, s, S, E, ?_⟩
  unfold lcR at a
  cases e : ri s h with
  | ex c h1 =>
    rw [e] at a
    exact a
  | no =>
    rw [e] at a
    exact a
  | ok xs h1 =>
    rw [e] at a
    replace a : AftF K ca W Y F ρ h.length σ Q (if szOk xs.length then bnd (compL (lcStep rc re tg (Z.wipe s ow)) xs h1) fun ys h2 => .ok (.d (.list ys)) h2 else .no) := a
    split at a
    · rename_i hz
      have hz : xs.length ≤ sizeLine := of_decide_eq_true hz
      intro J F1 ρ1 H1 x1 S1 jt L hL
      have lo := S1.loose hL
      refine ⟨fun i m Hh => m = xs.length - i ∧ i ≤ xs.length ∧ ∃ F2 ρ2 h2 acc ys0, Ext F1 ρ1 h1.length F2 ρ2 h2.length ∧ Sim K (upd Y L (.lst acc)) F2 ρ2 h2 Hh ∧ RpA K F2 acc ys0 ∧ acc.length ≤ i ∧
        AftF K ca W Y F2 ρ2 h2.length σ Q (bnd (compL (lcStep rc re tg (Z.wipe s ow)) (xs.drop i) h2) fun ys h3 => .ok (.d (.list (ys0 ++ ys))) h3), ⟨xs.length, rfl, Nat.zero_le _, F1, ρ1, h1, [], [], Ext.refl, (S1.new hL).watch lo upd_same, .nil, Nat.le_refl _, AftF.mono x1 a⟩, ?_⟩
      rintro i m Hh ⟨rfl, hi, F2, ρ2, h2, acc, ys0, x2, S2, dacc, la, a2⟩
      by_cases hlt : i < xs.length
      · refine .inr ⟨jt.go i _ F2 ρ2 h2 Hh x2.sub S2 hlt, fun H' => ∃ F2 ρ2 h2 acc ys0, Ext F1 ρ1 h1.length F2 ρ2 h2.length ∧ Sim K (upd Y L (.lst acc)) F2 ρ2 h2 H' ∧ RpA K F2 acc ys0 ∧ acc.length ≤ i + 1 ∧
          AftF K ca W Y F2 ρ2 h2.length σ Q (bnd (compL (lcStep rc re tg (Z.wipe s ow)) (xs.drop (i + 1)) h2) fun ys h3 => .ok (.d (.list (ys0 ++ ys))) h3), fun H' p => ⟨xs.length - (i + 1), by omega, rfl, hlt, p⟩, fun v H' y => ?_⟩
        obtain ⟨F3, d, m3, S3, ed, dp⟩ := jt.yld i _ F2 ρ2 h2 Hh v H' x2.sub S2 hlt y
        have x3 : Ext F2 ρ2 h2.length F3 ρ2 h2.length := ⟨m3, Nat.le_refl _, fun _ _ => rfl⟩
        have ex : xs.drop i = d :: xs.drop (i + 1) := by
          have := List.drop_eq_getElem_cons hlt
          rw [this]
          have e2 : xs[i] = d := by
            rw [List.getElem?_eq_getElem hlt] at ed
            exact Option.some.inj ed
          rw [e2]
        rw [ex] at a2
        replace a2 : AftF K ca W Y F2 ρ2 h2.length σ Q (bnd (bnd (lcStep rc re tg (Z.wipe s ow) d h2) fun o h1 => bnd (compL (lcStep rc re tg (Z.wipe s ow)) (xs.drop (i + 1)) h1) fun ys h3 => .ok (match o with
          | some y => y :: ys
          | none => ys) h3) fun ys h3 => .ok (.d (.list (ys0 ++ ys))) h3) := a2
        have Ew : EnvR K F3 ρ2 h2.length (Z.wipe s ow) (L2.wipe σ ow) := ((E.mono x1).mono (x2.trans x3)).wipe ow
        unfold lcStep at a2
        cases es : setTg (Z.wipe s ow) d tg with
        | none =>
          rw [es] at a2
          exact a2.elim
        | some s' =>
          rw [es] at a2
          dsimp only at a2
          refine setTg_ok S3 Ew dp es fun σ' E' wp => ⟨by rw [wp ow hin, wipe_wipe], ⟨_, F3, ρ2, h2, s', S3, E', ?_⟩⟩
          cases ec : rc s' h2 with
          | ex c h3 =>
            rw [ec] at a2
            exact a2.elim
          | no =>
            rw [ec] at a2
            exact a2.elim
          | ok b h3 =>
            rw [ec] at a2
            split at a2
            · rename_i heq
              cases heq
              refine ⟨true, rfl, fun F4 ρ4 H4 x4 S4 => ?_⟩
              refine iteT ?_
              refine ⟨_, F4, ρ4, _, s', S4, E'.mono x4, ?_⟩
              cases er : re s' h3 with
              | ex c h5 =>
                rw [er] at a2
                exact a2.elim
              | no =>
                rw [er] at a2
                exact a2.elim
              | ok y h5 =>
                rw [er] at a2
                dsimp only at a2
                unfold kept at a2
                cases ek : keep h5 y with
                | none =>
                  rw [ek] at a2
                  exact a2.elim
                | some p =>
                  obtain ⟨z, h6⟩ := p
                  rw [ek] at a2
                  dsimp only at a2
                  intro u F5 ρ5 H5 x5 S5 rv
                  obtain ⟨F6, x6, S6, d6⟩ := keep_ok S5 rv ek
                  have hH := (S6.unwatch lo.ny).2.2
                  have xx : Ext F2 ρ2 h2.length F6 ρ5 h6.length := ((x3.trans x4).trans x5).trans x6
                  refine ⟨acc, hH, by omega, F6, ρ5, h6, acc ++ [u], ys0 ++ [z], x2.trans xx, S6.rewatch lo.ny, dpA_app (dpA_mono xx.sub _ _ dacc) (.cons d6 .nil), by rw [List.length_append, List.length_singleton]; omega, ?_⟩
                  have a3 : AftF K ca W Y F2 ρ2 h2.length σ Q (bnd (bnd (compL (lcStep rc re tg (Z.wipe s ow)) (xs.drop (i + 1)) h6) fun ys h3 => .ok (z :: ys) h3) fun ys h3 => .ok (.d (.list (ys0 ++ ys))) h3) := a2
                  refine AftF.mono xx ?_
                  cases er2 : compL (lcStep rc re tg (Z.wipe s ow)) (xs.drop (i + 1)) h6 with
                  | ex c h7 =>
                    rw [er2] at a3
                    exact a3
                  | no =>
                    rw [er2] at a3
                    exact a3
                  | ok ys h7 =>
                    rw [er2] at a3
                    show AftF K ca W Y F2 ρ2 h2.length σ Q (.ok (.d (.list ((ys0 ++ [z]) ++ ys))) h7)
                    rw [List.append_assoc]
                    exact a3
            · rename_i heq
              cases heq
              refine ⟨false, rfl, fun F4 ρ4 H4 x4 S4 => ?_⟩
              refine iteF ?_
              have xx : Ext F2 ρ2 h2.length F4 ρ4 _ := x3.trans x4
              refine ⟨F4, ρ4, _, acc, ys0, x2.trans xx, S4, dpA_mono xx.sub _ _ dacc, by omega, AftF.mono xx ?_⟩
              have a3 : AftF K ca W Y F2 ρ2 h2.length σ Q (bnd (bnd (compL (lcStep rc re tg (Z.wipe s ow)) (xs.drop (i + 1)) h3) fun ys h3 => .ok ys h3) fun ys h3 => .ok (.d (.list (ys0 ++ ys))) h3) := a2
              cases er2 : compL (lcStep rc re tg (Z.wipe s ow)) (xs.drop (i + 1)) h3 with
              | ex c h7 =>
                rw [er2] at a3
                exact a3
              | no =>
                rw [er2] at a3
                exact a3
              | ok ys h7 =>
                rw [er2] at a3
                exact a3
            · exact a2.elim
      · have ei : i = xs.length := by omega
        subst ei
        rw [List.drop_length] at a2
        replace a2 : AftF K ca W Y F2 ρ2 h2.length σ Q (.ok (.d (.list (ys0 ++ []))) h2) := a2
        rw [List.append_nil] at a2
        obtain ⟨S3, lo3, hH⟩ := S2.unwatch lo.ny
        obtain ⟨ys, e1, k⟩ := a2
        cases e1
        exact .inl ⟨jt.stop _ F2 ρ2 h2 Hh x2.sub S2, k L acc F2 ρ2 Hh Ext.refl S3 lo3 hH dacc⟩
    · exact a.elim
/-! ### .. over a list that may change -/
def varR (i : Nat) (s : Env) (h : Hep) : R Vl := match s[i]? with
  | some (some v) => .ok v h
  | _ => .no
def lwR (i : Nat) (rc re : Env → Hep → R Vl) (tg : Tg) (ow : List Nat) (s : Env) (h : Hep) : R Vl := match s[i]? with
  | some (some (.r n)) => match h[n]? with
    | some (.lst xs) => if decide (xs.length < sizeLine) then bnd (compW n (lcStep rc re tg (Z.wipe s ow)) (xs.length + 1) 0 h) fun ys h2 => .ok (.d (.list ys)) h2 else .no
    | _ => .no
  | _ => .no
theorem tLw_Z {K : PySem.W.Frag} {ix : Nat} {rc re : Env → Hep → R Vl} {tg : Tg} {ow : List Nat} (hin : tgIn ow tg = true) (σ : L2.St) (H : Hp) (Q : VK) (t : tF K ca W (lwR ix rc re tg ow) σ H Q) :
    tLc (iList K (tE K ca W (varR ix))) (gT K tg) (tT K ca WF rc) (tE K ca WF re) ow σ H Q := by
  obtain ⟨Y, F, ρ, h, s, S, E, a⟩ := t
  refine ⟨Y, F, ρ, h, s, S, E, ?_⟩
  unfold lwR at a
  split at a
  · rename_i n qs
    split at a
    · rename_i xs qn
      split at a
      · rename_i hz
        have hz : xs.length < sizeLine := of_decide_eq_true hz
        have ev : varR ix s h = .ok (.r n) h := by
          unfold varR
          rw [qs]
        rw [ev]
        intro u F1 ρ1 H1 x1 S1 r1
        obtain ⟨hn, rfl⟩ := r1
        obtain ⟨f0, vs0, e0, _⟩ := S1.ob n _ qn
        refine ⟨_, rfl, ⟨_, SqL.of e0⟩, fun L hL => ?_⟩
        have lo := S1.loose hL
        refine ⟨fun i m Hh => i + m = xs.length + 1 ∧ ∃ F2 ρ2 h2 acc ys0, Ext F1 ρ1 h.length F2 ρ2 h2.length ∧ Sim K (upd Y L (.lst acc)) F2 ρ2 h2 Hh ∧ RpA K F2 acc ys0 ∧ acc.length ≤ i ∧
          AftF K ca W Y F2 ρ2 h2.length σ Q (bnd (compW n (lcStep rc re tg (Z.wipe s ow)) m i h2) fun ys h3 => .ok (.d (.list (ys0 ++ ys))) h3), ⟨xs.length + 1, Nat.zero_add _, F1, ρ1, h, [], [], Ext.refl, (S1.new hL).watch lo upd_same, .nil, Nat.le_refl _, AftF.mono x1 a⟩, ?_⟩
        rintro i m Hh ⟨im, F2, ρ2, h2, acc, ys0, x2, S2, dacc, la, a2⟩
        cases m with
        | zero => exact a2.elim
        | succ m =>
          have en : ρ1 n = ρ2 n := (x2.eq n hn).symm
          rw [en]
          cases q2 : h2[n]? with
          | none =>
            unfold compW at a2
            rw [q2] at a2
            exact a2.elim
          | some ob =>
            cases ob with
            | lst zs =>
              obtain ⟨g0, vs, e2, d2⟩ := S2.ob n _ q2
              have sq : SqL K Hh (ρ2 n) vs := SqL.of e2
              cases q3 : zs[i]? with
              | none =>
                unfold compW at a2
                rw [q2] at a2
                dsimp only at a2
                rw [q3] at a2
                replace a2 : AftF K ca W Y F2 ρ2 h2.length σ Q (.ok (.d (.list (ys0 ++ []))) h2) := a2
                rw [List.append_nil] at a2
                obtain ⟨S3, lo3, hH⟩ := S2.unwatch lo.ny
                obtain ⟨ys, e1, k⟩ := a2
                cases e1
                have hlen : vs.length ≤ i := by
                  rw [dpA_len d2]
                  exact List.getElem?_eq_none_iff.mp q3
                exact .inl ⟨⟨vs, sq, hlen⟩, k L acc F2 ρ2 Hh Ext.refl S3 lo3 hH dacc⟩
              | some d =>
                obtain ⟨v0, k1, k2⟩ := dpA_get d2 q3
                refine .inr ⟨⟨vs, v0, sq, k1⟩, fun H' => ∃ F2 ρ2 h2 acc ys0, Ext F1 ρ1 h.length F2 ρ2 h2.length ∧ Sim K (upd Y L (.lst acc)) F2 ρ2 h2 H' ∧ RpA K F2 acc ys0 ∧ acc.length ≤ i + 1 ∧
                  AftF K ca W Y F2 ρ2 h2.length σ Q (bnd (compW n (lcStep rc re tg (Z.wipe s ow)) m (i + 1) h2) fun ys h3 => .ok (.d (.list (ys0 ++ ys))) h3), fun H' p => ⟨m, Nat.lt_succ_self _, by omega, p⟩, fun v H' y => ?_⟩
                obtain ⟨rfl, y⟩ := y
                have ev0 : v = v0 := by
                  have y1 := y vs sq
                  rw [k1] at y1
                  exact (Option.some.inj y1).symm
                subst ev0
                unfold compW at a2
                rw [q2] at a2
                dsimp only at a2
                rw [q3] at a2
                replace a2 : AftF K ca W Y F2 ρ2 h2.length σ Q (bnd (bnd (lcStep rc re tg (Z.wipe s ow) d h2) fun o h1 => bnd (compW n (lcStep rc re tg (Z.wipe s ow)) m (i + 1) h1) fun ys h3 => .ok (match o with
                  | some y => y :: ys
                  | none => ys) h3) fun ys h3 => .ok (.d (.list (ys0 ++ ys))) h3) := a2
                have Ew : EnvR K F2 ρ2 h2.length (Z.wipe s ow) (L2.wipe σ ow) := ((E.mono x1).mono x2).wipe ow
                unfold lcStep at a2
                cases es : setTg (Z.wipe s ow) d tg with
                | none =>
                  rw [es] at a2
                  exact a2.elim
                | some s' =>
                  rw [es] at a2
                  dsimp only at a2
                  refine setTg_ok S2 Ew k2 es fun σ' E' wp => ⟨by rw [wp ow hin, wipe_wipe], ⟨_, F2, ρ2, h2, s', S2, E', ?_⟩⟩
                  cases ec : rc s' h2 with
                  | ex c h3 =>
                    rw [ec] at a2
                    exact a2.elim
                  | no =>
                    rw [ec] at a2
                    exact a2.elim
                  | ok b h3 =>
                    rw [ec] at a2
                    split at a2
                    · rename_i heq
                      cases heq
                      refine ⟨true, rfl, fun F4 ρ4 H4 x4 S4 => ?_⟩
                      refine iteT ?_
                      refine ⟨_, F4, ρ4, _, s', S4, E'.mono x4, ?_⟩
                      cases er : re s' h3 with
                      | ex c h5 =>
                        rw [er] at a2
                        exact a2.elim
                      | no =>
                        rw [er] at a2
                        exact a2.elim
                      | ok y h5 =>
                        rw [er] at a2
                        dsimp only at a2
                        unfold kept at a2
                        cases ek : keep h5 y with
                        | none =>
                          rw [ek] at a2
                          exact a2.elim
                        | some p =>
                          obtain ⟨z, h6⟩ := p
                          rw [ek] at a2
                          dsimp only at a2
                          intro u F5 ρ5 H5 x5 S5 rv
                          obtain ⟨F6, x6, S6, d6⟩ := keep_ok S5 rv ek
                          have hH := (S6.unwatch lo.ny).2.2
                          have xx : Ext F2 ρ2 h2.length F6 ρ5 h6.length := (x4.trans x5).trans x6
                          refine ⟨acc, hH, by omega, F6, ρ5, h6, acc ++ [u], ys0 ++ [z], x2.trans xx, S6.rewatch lo.ny, dpA_app (dpA_mono xx.sub _ _ dacc) (.cons d6 .nil), by rw [List.length_append, List.length_singleton]; omega, ?_⟩
                          have a3 : AftF K ca W Y F2 ρ2 h2.length σ Q (bnd (bnd (compW n (lcStep rc re tg (Z.wipe s ow)) m (i + 1) h6) fun ys h3 => .ok (z :: ys) h3) fun ys h3 => .ok (.d (.list (ys0 ++ ys))) h3) := a2
                          refine AftF.mono xx ?_
                          cases er2 : compW n (lcStep rc re tg (Z.wipe s ow)) m (i + 1) h6 with
                          | ex c h7 =>
                            rw [er2] at a3
                            exact a3
                          | no =>
                            rw [er2] at a3
                            exact a3
                          | ok ys h7 =>
                            rw [er2] at a3
                            show AftF K ca W Y F2 ρ2 h2.length σ Q (.ok (.d (.list ((ys0 ++ [z]) ++ ys))) h7)
                            rw [List.append_assoc]
                            exact a3
                    · rename_i heq
                      cases heq
                      refine ⟨false, rfl, fun F4 ρ4 H4 x4 S4 => ?_⟩
                      refine iteF ?_
                      refine ⟨F4, ρ4, _, acc, ys0, x2.trans x4, S4, dpA_mono x4.sub _ _ dacc, by omega, AftF.mono x4 ?_⟩
                      have a3 : AftF K ca W Y F2 ρ2 h2.length σ Q (bnd (bnd (compW n (lcStep rc re tg (Z.wipe s ow)) m (i + 1) h3) fun ys h3 => .ok ys h3) fun ys h3 => .ok (.d (.list (ys0 ++ ys))) h3) := a2
                      cases er2 : compW n (lcStep rc re tg (Z.wipe s ow)) m (i + 1) h3 with
                      | ex c h7 =>
                        rw [er2] at a3
                        exact a3
                      | no =>
                        rw [er2] at a3
                        exact a3
                      | ok ys h7 =>
                        rw [er2] at a3
                        exact a3
                    · exact a2.elim
            | _ =>
              unfold compW at a2
              rw [q2] at a2
              exact a2.elim
      · exact a.elim
    · exact a.elim
  · exact a.elim
end
end Z

set_option linter.all false
set_option autoImplicit false
set_option maxRecDepth 100000
set_option maxHeartbeats 2000000
/-! Z10: each expression keeps its run. -/
namespace Z
open PySem L2 PySem.Spec PyProof.Rows
variable [TC : TabsC]
/-- a def's promise: its run -/
def spC (K : PySem.W.Frag) (ca : Nat → Addr) (cl : List Vl → Hep → R Vl) : Sp := fun us H Q E => ∃ Y F ρ h vs, Sim K Y F ρ h H ∧ RVs K F ρ h.length vs us ∧ Aft K ca (fun c d _ H => E c d H) Y F ρ h.length [] Q (cl vs h)
/-- the law's rounds: new lists, each a cell from now on -/
def AftR (K : PySem.W.Frag) (ca : Nat → Addr) (W : WX) (Y F : Hp) (ρ : Nat → Addr) (n : Nat) (σ : L2.St) (Q : VK) : R Vl → Prop
  | .ok v h => ∃ rows ls, v = .d (.list rows) ∧ rowsL rows = some ls ∧ ∀ p us F' ρ' H', Ext F ρ n F' ρ' (h ++ ls.map Ob.lst).length → Sim K Y F' ρ' (h ++ ls.map Ob.lst) H' → F' p = some (.lst us) → us.length = ls.length → (∀ j, j < ls.length → us[j]? = some (.ref (ρ' (h.length + j)))) → Q (.ref p) H'
  | .ex c h => ∀ F' ρ' H', Ext F ρ n F' ρ' h.length → Sim K Y F' ρ' h H' → W (.ref (ca c)) none σ H'
  | .no => False
def spR (K : PySem.W.Frag) (ca : Nat → Addr) (cl : List Vl → Hep → R Vl) : Sp := fun us H Q E => ∃ Y F ρ h vs, Sim K Y F ρ h H ∧ RVs K F ρ h.length vs us ∧ AftR K ca (fun c d _ H => E c d H) Y F ρ h.length [] Q (cl vs h)
/-- what is known of the module -/
structure Fx (T : Tab) (Ds : List Dfn) (wf k : Nat) (ca : Nat → Addr) (P : Program) (w : World) (K : PySem.W.Frag) (mg : Str → Option Value) (base : Heap) : Prop where
  fn : ∀ f x, T.fns[f]? = some x → ∃ a fd ps, mg x = some (.ref a) ∧ PySem.W.keepIn K (.ref a) = true ∧ Binds K fd ps [] ∧ FnOk P w K mg base (L2.CX P w) k a fd ps (spC K ca (call Ds wf k f)) ∧ (x == ("__debug__" : Str)) = false
  glb : ∀ x d, T.glb.lookup x = some d → ∃ u v, mg x = some u ∧ RelV v u ∧ (∀ F, Rp K F v d) ∧ (x == ("__debug__" : Str)) = false
  rnd : ∀ f, T.fns[f]? = some ("_law_rounds" : Str) → ∃ a fd ps, mg "_law_rounds" = some (.ref a) ∧ PySem.W.keepIn K (.ref a) = true ∧ Binds K fd ps [] ∧ FnOk P w K mg base (L2.CX P w) k a fd ps (spR K ca (call Ds wf k f))
  exc : ∀ c x, T.excs[c]? = some x → mg x = some (.ref (ca c)) ∧ PySem.W.keepIn K (.ref (ca c)) = true ∧ (∃ B newId initId bm, ExcBaseFacts B newId initId bm ∧ PySem.W.excIn K (ca c) bm newId = true) ∧ PySem.W.subIn K (.ref (ca c)) (.type "BaseException") = some true ∧ PySem.W.typeIn K (.ref (ca c)) = some (.type "type") ∧ (x == ("__debug__" : Str)) = false
  fre : ∀ x, T.fre.contains x = true → mg x = none
  wr : tupC T = false → TC.wr = false
/-- where an expression stands -/
structure Gd (T : Tab) (Ds : List Dfn) (wf k : Nat) (ca : Nat → Addr) (N : List Str) (X : Cx) (sc : Scope) (W : WX) : Prop where
  eN : X.N = N
  nd : N.Nodup
  eS : X.env.scope = sc
  calm : X.calm = true
  room : Room k X.A
  tk : Takes X W
  fx : Fx T Ds wf k ca X.prog X.w X.K X.mg X.base
section
variable {T : Tab} {Ds : List Dfn} {wf k : Nat} {ca : Nat → Addr} {N : List Str} {X : Cx} {sc : Scope} {W : WX}
theorem glob_ok {x : Str} (e : globB sc x = true) : sc.names.lookup x = some .globalImplicit := by
  unfold globB at e
  split at e
  · assumption
  · cases e
theorem Gd.gl (G : Gd T Ds wf k ca N X sc W) {x : Str} (e : globB sc x = true) : Gl X x := by
  show X.env.scope.names.lookup x = _
  rw [G.eS]
  exact glob_ok e
theorem Gd.blt (G : Gd T Ds wf k ca N X sc W) {x : Str} (e : bltB T sc x = true) : Gl X x ∧ X.mg x = none := by
  obtain ⟨e1, e2⟩ := Bool.and_eq_true_iff.mp e
  exact ⟨G.gl e1, G.fx.fre x e2⟩
theorem Gd.hu (G : Gd T Ds wf k ca N X sc W) : X.A.units + 65 < cLine := by
  have := G.room.un
  omega
theorem okName_ok {x : Str} (e : okName x = true) : (x == ("__debug__" : Str)) = false ∧ (x == ("__classdict__" : Str)) = false := by
  unfold okName at e
  simp only [Bool.and_eq_true, Bool.not_eq_true'] at e
  exact e
/-! ### the parts -/
theorem s_var {i : Nat} {x : Str} {pos : Pos} {C : Cfg} (G : Gd T Ds wf k ca N X sc W) (e1 : visB sc x = true) (e2 : okName x = true) (e3 : slot N x = some i) : PE X (.Name x pos) (tE X.K ca W (ev C (.var i))) := by
  obtain ⟨h1, h2⟩ := okName_ok e2
  refine PE.imp (pe_var (X := X) (i := i) (by rw [G.eN]; exact slot_ok e3) (by rw [G.eS]; exact vis_ok e1) h1 h2) fun σ H Q t => ?_
  obtain ⟨Y, F, ρ, h, s, S, E, a⟩ := t
  have a : Aft X.K ca W Y F ρ h.length σ Q (match s[i]? with
    | some (some v) => .ok v h
    | _ => .no) := a
  split at a
  · rename_i v q
    obtain ⟨u, h1, h2⟩ := E.2 i v q
    exact ⟨u, h1, a u F ρ H Ext.refl S h2⟩
  · exact a.elim
theorem s_con {e : Expr} {v : V} {d : D} {C : Cfg} (p : PE X e (tC v)) (r : ∀ F, Rp X.K F v d) : PE X e (tE X.K ca W (ev C (.con d))) := by
  refine PE.imp p fun σ H Q t => ?_
  obtain ⟨Y, F, ρ, h, s, S, E, a⟩ := t
  exact a v F ρ H Ext.refl S (r F)
theorem s_cnst {c : Const} {j : Nat} {pos : Pos} {d : D} {C : Cfg} (e : isCnst c = some d) : PE X (.Constant c j pos) (tE X.K ca W (ev C (.con d))) := by
  cases c with
  | int i =>
    cases e
    exact s_con pe_int fun _ => .int i
  | bool i =>
    cases e
    exact s_con pe_bl fun _ => .bl i
  | none =>
    cases e
    exact s_con pe_non fun _ => .non
  | str i =>
    cases e
    exact s_con pe_str fun _ => .str i
  | _ => cases e
theorem s_glob {x : Str} {d : D} {pos : Pos} {C : Cfg} (G : Gd T Ds wf k ca N X sc W) (e1 : globB sc x = true) (e2 : T.glb.lookup x = some d) : PE X (.Name x pos) (tE X.K ca W (ev C (.con d))) := by
  obtain ⟨u, v, h1, h2, h3, h4⟩ := G.fx.glb x d e2
  exact s_con (pe_glob (G.gl e1) h1 h2 h4) h3
/-- two values, an operation -/
theorem md_two {g : Vl → Vl → Hep → R Vl} {ra rb : Env → Hep → R Vl} {K : PySem.W.Frag} {σ : L2.St} {H : Hp} {Q : VK} (t : tE K ca W (fun s h => bnd (ra s h) fun x h1 => bnd (rb s h1) fun y h2 => g x y h2) σ H Q) :
    tOp (rOp2 K ca W g) (tE K ca W ra) (tE K ca W rb) σ H Q := by
  obtain ⟨Y, F, ρ, h, s, S, E, a⟩ := t
  dsimp only at a
  refine ⟨Y, F, ρ, h, s, S, E, ?_⟩
  cases e : ra s h with
  | ex c h1 =>
    rw [e] at a
    exact a
  | no =>
    rw [e] at a
    exact a
  | ok v h1 =>
    rw [e] at a
    intro x F1 ρ1 H1 x1 S1 r1
    refine ⟨Y, F1, ρ1, h1, s, S1, E.mono x1, ?_⟩
    replace a : Aft K ca W Y F ρ h.length σ Q (bnd (rb s h1) fun y h2 => g v y h2) := a
    cases e2 : rb s h1 with
    | ex c h2 =>
      rw [e2] at a
      exact Aft.mono x1 a
    | no =>
      rw [e2] at a
      exact a
    | ok u h2 =>
      rw [e2] at a
      intro y F2 ρ2 H2 x2 S2 r2
      exact ⟨Y, F2, ρ2, h2, σ, v, u, S2, RV.mono x2 r1, r2, Aft.mono (x1.trans x2) a⟩
theorem md_twoF {g : Vl → Vl → Hep → R Vl} {ra rb : Env → Hep → R Vl} {K : PySem.W.Frag} {σ : L2.St} {H : Hp} {Q : VK} (t : tF K ca W (fun s h => bnd (ra s h) fun x h1 => bnd (rb s h1) fun y h2 => g x y h2) σ H Q) :
    tOp (rOp2F K ca W g) (tE K ca W ra) (tE K ca W rb) σ H Q := by
  obtain ⟨Y, F, ρ, h, s, S, E, a⟩ := t
  dsimp only at a
  refine ⟨Y, F, ρ, h, s, S, E, ?_⟩
  cases e : ra s h with
  | ex c h1 =>
    rw [e] at a
    exact a
  | no =>
    rw [e] at a
    exact a
  | ok v h1 =>
    rw [e] at a
    intro x F1 ρ1 H1 x1 S1 r1
    refine ⟨Y, F1, ρ1, h1, s, S1, E.mono x1, ?_⟩
    replace a : AftF K ca W Y F ρ h.length σ Q (bnd (rb s h1) fun y h2 => g v y h2) := a
    cases e2 : rb s h1 with
    | ex c h2 =>
      rw [e2] at a
      exact AftF.mono x1 a
    | no =>
      rw [e2] at a
      exact a
    | ok u h2 =>
      rw [e2] at a
      intro y F2 ρ2 H2 x2 S2 r2
      exact ⟨Y, F2, ρ2, h2, σ, v, u, S2, RV.mono x2 r1, r2, AftF.mono (x1.trans x2) a⟩
theorem md_one {g : Vl → Hep → R Vl} {ra : Env → Hep → R Vl} {K : PySem.W.Frag} {σ : L2.St} {H : Hp} {Q : VK} (t : tE K ca W (fun s h => bnd (ra s h) fun x h1 => g x h1) σ H Q) : tE K ca W ra σ H (rOp1 K ca W g · · Q) := by
  obtain ⟨Y, F, ρ, h, s, S, E, a⟩ := t
  dsimp only at a
  refine ⟨Y, F, ρ, h, s, S, E, ?_⟩
  cases e : ra s h with
  | ok v h1 =>
    rw [e] at a
    exact fun u F' ρ' H' x S' rv => ⟨Y, F', ρ', h1, σ, v, S', rv, Aft.mono x a⟩
  | ex c h1 =>
    rw [e] at a
    exact a
  | no =>
    rw [e] at a
    exact a
theorem s_bin {a b : Expr} {op : Operator} {o : Bop} {pos : Pos} {C : Cfg} {ea eb : E} (e : trBop op = some o) (ha : PE X a (tE X.K ca W (ev C ea))) (hb : PE X b (tE X.K ca W (ev C eb))) : PE X (.BinOp a op b pos) (tE X.K ca W (ev C (.bin o ea eb))) :=
  PE.imp (pe_op (op_binZ (ca := ca) (W := W) e) ha hb) fun σ H Q t => md_two t
theorem s_binF {a b : Expr} {pos : Pos} {C : Cfg} {ea eb : E} (ha : PE X a (tE X.K ca W (ev C ea))) (hb : PE X b (tE X.K ca W (ev C eb))) : PE X (.BinOp a .Add b pos) (tF X.K ca W (ev C (.bin .add ea eb))) :=
  PE.imp (pe_op (op_addF (ca := ca) (W := W)) ha hb) fun σ H Q t => md_twoF t
theorem s_neg {a : Expr} {pos : Pos} {C : Cfg} {ea : E} (ha : PE X a (tE X.K ca W (ev C ea))) : PE X (.UnaryOp .USub a pos) (tE X.K ca W (ev C (.neg ea))) := by
  refine PE.imp (pe_un un_neg ha) fun σ H Q t => tE_map (fun x H1 q => ?_) (md_one t)
  obtain ⟨Y, F, ρ, h, σ', v, S, r, a⟩ := q
  dsimp only at a
  split at a
  · rename_i i
    cases r
    exact ⟨i, rfl, fin_d S a (.int _)⟩
  · exact a.elim
theorem s_not {a : Expr} {pos : Pos} {C : Cfg} {ea : E} (ha : PE X a (tE X.K ca W (ev C ea))) : PE X (.UnaryOp .Not a pos) (tE X.K ca W (ev C (.not ea))) := by
  refine PE.imp (pe_not ha) fun σ H Q t => tE_map (fun x H1 q => ?_) (md_one t)
  obtain ⟨Y, F, ρ, h, σ', v, S, r, a⟩ := q
  dsimp only at a
  split at a
  · rename_i b
    cases r
    exact ⟨b, rfl, fin_d S a (.bl _)⟩
  · exact a.elim
theorem tT_map {K : PySem.W.Frag} {σ : L2.St} {H : Hp} {ra : Env → Hep → R Vl} {G G' : Bool → Hp → Prop} (i : ∀ u H1, G u H1 → G' u H1) (t : tT K ca W ra σ H G) : tT K ca W ra σ H G' := by
  obtain ⟨Y, F, ρ, h, s, S, E, a⟩ := t
  refine ⟨Y, F, ρ, h, s, S, E, ?_⟩
  cases e : ra s h with
  | ok v h1 =>
    rw [e] at a
    obtain ⟨b, eb, k⟩ := a
    exact ⟨b, eb, fun F' ρ' H' x S' => i b H' (k F' ρ' H' x S')⟩
  | ex c h1 =>
    rw [e] at a
    exact a
  | no =>
    rw [e] at a
    exact a
theorem t_not {a : Expr} {pos : Pos} {C : Cfg} {ea : E} (ha : PT X a (tT X.K ca W (ev C ea))) : PT X (.UnaryOp .Not a pos) (tT X.K ca W (ev C (.not ea))) := by
  refine PT.imp (pt_not ha) fun σ H Q t => ?_
  obtain ⟨Y, F, ρ, h, s, S, E, a⟩ := t
  refine ⟨Y, F, ρ, h, s, S, E, ?_⟩
  replace a : AftT X.K ca W Y F ρ h.length σ Q (bnd (ev C ea s h) fun x h1 => match x with
    | .d (.bool b) => .ok (.d (.bool (!b))) h1
    | _ => .no) := a
  cases e : ev C ea s h with
  | ok v h1 =>
    rw [e] at a
    unfold bnd at a
    dsimp only at a
    split at a
    · rename_i b
      obtain ⟨c, ec, k⟩ := a
      have ec' : (!b) = c := by
        injection ec with ec
        injection ec
      subst ec'
      exact ⟨b, rfl, k⟩
    · exact a.elim
  | ex c h1 =>
    rw [e] at a
    exact a
  | no =>
    rw [e] at a
    exact a
theorem s_isN {a : Expr} {j : Nat} {pos pos' : Pos} {C : Cfg} {ea : E} (ha : PE X a (tE X.K ca W (ev C ea))) : PE X (.Compare a [.Is] [.Constant .none j pos'] pos) (tE X.K ca W (ev C (.isN ea))) := by
  refine PE.imp (pe_cmp (pc_isN ha)) fun σ H Q t => tE_map (fun x H1 q => ?_) (md_one t)
  obtain ⟨Y, F, ρ, h, σ', v, S, r, a⟩ := q
  have e : isNoneV v = decide (x = .non) := by
    cases v with
    | d y =>
      cases r <;> rfl
    | r i =>
      obtain ⟨_, rfl⟩ := r
      rfl
  rw [← e]
  exact fin_d S a (.bl _)
theorem s_isnN {a : Expr} {j : Nat} {pos pos' : Pos} {C : Cfg} {ea : E} (ha : PE X a (tE X.K ca W (ev C ea))) : PE X (.Compare a [.IsNot] [.Constant .none j pos'] pos) (tE X.K ca W (ev C (.isnN ea))) := by
  refine PE.imp (pe_cmp (pc_notN ha)) fun σ H Q t => tE_map (fun x H1 q => ?_) (md_one t)
  obtain ⟨Y, F, ρ, h, σ', v, S, r, a⟩ := q
  have e : (!isNoneV v) = !decide (x = .non) := by
    cases v with
    | d y =>
      cases r <;> rfl
    | r i =>
      obtain ⟨_, rfl⟩ := r
      rfl
  rw [← e]
  exact fin_d S a (.bl _)
/-- a test by the value of a comparison -/
theorem t_cmpv {a : Expr} {ops : List CmpOp} {bs : List Expr} {pos : Pos} {r : Env → Hep → R Vl} {t : TE} (p : PT X (.Compare a ops bs pos) (tTest t)) (i : ∀ σ H Q, tE X.K ca W r σ H Q → t σ H Q) : PT X (.Compare a ops bs pos) (tT X.K ca W r) :=
  PT.imp p fun σ H Q q => i σ H _ (tT_val q)
theorem s_cmp {a b : Expr} {op : CmpOp} {o : Cop} {pos : Pos} {C : Cfg} {ea eb : E} (G : Gd T Ds wf k ca N X sc W) (e : trCop op = some o) (ha : PE X a (tE X.K ca W (ev C ea))) (hb : PE X b (tE X.K ca W (ev C eb))) (hm : behindInMarks op b = false) :
    PE X (.Compare a [op] [b] pos) (tE X.K ca W (ev C (.cmp o ea eb))) ∧ PT X (.Compare a [op] [b] pos) (tT X.K ca W (ev C (.cmp o ea eb))) := by
  by_cases ho : o = .inn
  · subst ho
    have eo : op = .In := by
      cases op <;> first
        | rfl
        | (cases e; done)
    subst eo
    have hu : X.A.units + 1 < cLine := by
      have := G.hu
      omega
    have key : ∀ σ H Q, tE X.K ca W (ev C (.cmp .inn ea eb)) σ H Q → tOp (rOp2 X.K ca W (cmpW .inn)) (tE X.K ca W (ev C ea)) (tE X.K ca W (ev C eb)) σ H Q ∨ tDIn (tE X.K ca W (ev C ea)) (tE X.K ca W (ev C eb)) σ H Q := fun σ H Q t => by
      rcases two_or (g := Z.cmpV .inn) (g1 := cmpW .inn) (g2 := fun x y h => isB h x y) inn_or t with t | t
      · exact .inl (md_two t)
      · exact .inr (tE_map (fun x H1 q => tE_map (fun y H2 r => rB_ok r) q) (md_two t))
    exact ⟨PE.imp (PE.or (pe_cmpR (op_cmpZ (ca := ca) (W := W) e G.hu) ha hb hm) (pe_cmp (pc_din hu ha hb) hm)) key,
      PT.imp (PT.or (pt_cmpR (op_cmpZ (ca := ca) (W := W) e G.hu) ha hb hm) (pt_cmp (pc_din hu ha hb) hm)) fun σ H Q t => key σ H _ (tT_val t)⟩
  · have hc : ev C (.cmp o ea eb) = fun s h => bnd (ev C ea s h) fun x h1 => bnd (ev C eb s h1) fun y h2 => cmpW o x y h2 := by
      funext s h
      show (bnd (ev C ea s h) fun x h1 => bnd (ev C eb s h1) fun y h2 => Z.cmpV o x y h2) = _
      congr 1
      funext x h1
      congr 1
      funext y h2
      exact cmp_eq ho x y h2
    rw [hc]
    exact ⟨PE.imp (pe_cmpR (op_cmpZ (ca := ca) (W := W) e G.hu) ha hb hm) fun σ H Q t => md_two t, t_cmpv (pt_cmpR (op_cmpZ (ca := ca) (W := W) e G.hu) ha hb hm) fun σ H Q t => md_two t⟩
theorem md_chn {o p : Cop} {ra rb rc : Env → Hep → R Vl} {K : PySem.W.Frag} {σ : L2.St} {H : Hp} {Q : VK}
    (t : tE K ca W (fun s h => bnd (ra s h) fun x h1 => bnd (rb s h1) fun y h2 => bnd (cmpW o x y h2) fun z h3 => match z with
      | .d (.bool true) => bnd (rc s h3) fun w h4 => cmpW p y w h4
      | .d (.bool false) => .ok (.d (.bool false)) h3
      | _ => .no) σ H Q) : tChain (rOp2 K ca W (cmpW o)) (rOp2 K ca W (cmpW p)) (tE K ca W ra) (tE K ca W rb) (tE K ca W rc) σ H Q := by
  obtain ⟨Y, F, ρ, h, s, S, E, a⟩ := t
  dsimp only at a
  refine ⟨Y, F, ρ, h, s, S, E, ?_⟩
  cases e : ra s h with
  | ex c h1 =>
    rw [e] at a
    exact a
  | no =>
    rw [e] at a
    exact a
  | ok v h1 =>
    rw [e] at a
    intro x F1 ρ1 H1 x1 S1 r1
    refine ⟨Y, F1, ρ1, h1, s, S1, E.mono x1, ?_⟩
    replace a : Aft K ca W Y F ρ h.length σ Q (bnd (rb s h1) fun y h2 => bnd (cmpW o v y h2) fun z h3 => match z with
      | .d (.bool true) => bnd (rc s h3) fun w h4 => cmpW p y w h4
      | .d (.bool false) => .ok (.d (.bool false)) h3
      | _ => .no) := a
    cases e2 : rb s h1 with
    | ex c h2 =>
      rw [e2] at a
      exact Aft.mono x1 a
    | no =>
      rw [e2] at a
      exact a
    | ok u h2 =>
      rw [e2] at a
      intro y F2 ρ2 H2 x2 S2 r2
      replace a : Aft K ca W Y F ρ h.length σ Q (bnd (cmpW o v u h2) fun z h3 => match z with
        | .d (.bool true) => bnd (rc s h3) fun w h4 => cmpW p u w h4
        | .d (.bool false) => .ok (.d (.bool false)) h3
        | _ => .no) := a
      refine ⟨Y, F2, ρ2, h2, σ, v, u, S2, RV.mono x2 r1, r2, ?_⟩
      cases e3 : cmpW o v u h2 with
      | ex c h3 =>
        rw [e3] at a
        exact Aft.mono (x1.trans x2) a
      | no =>
        rw [e3] at a
        exact a
      | ok z h3 =>
        rw [e3] at a
        unfold bnd at a
        dsimp only at a
        intro zz F3 ρ3 H3 x3 S3 r3
        have xx : Ext F ρ h.length F3 ρ3 h3.length := (x1.trans x2).trans x3
        split at a
        · cases r3
          refine ⟨true, rfl, iteT ⟨Y, F3, ρ3, h3, s, S3, E.mono xx, ?_⟩⟩
          cases e4 : rc s h3 with
          | ex c h4 =>
            rw [e4] at a
            exact Aft.mono xx a
          | no =>
            rw [e4] at a
            exact a
          | ok w4 h4 =>
            rw [e4] at a
            intro w' F4 ρ4 H4 x4 S4 r4
            exact ⟨Y, F4, ρ4, h4, σ, u, w4, S4, RV.mono (x3.trans x4) r2, r4, Aft.mono (xx.trans x4) a⟩
        · cases r3
          exact ⟨false, rfl, iteF (a _ F3 ρ3 H3 xx S3 (.bl _))⟩
        · exact a.elim
theorem s_chn {a b c : Expr} {op op' : CmpOp} {o o' : Cop} {pos : Pos} {C : Cfg} {ea eb ec : E} (G : Gd T Ds wf k ca N X sc W) (e : trCop op = some o) (e' : trCop op' = some o') (ha : PE X a (tE X.K ca W (ev C ea))) (hb : PE X b (tE X.K ca W (ev C eb)))
    (hc : PE X c (tE X.K ca W (ev C ec))) (hm : behindInMarks op' c = false) : PE X (.Compare a [op, op'] [b, c] pos) (tE X.K ca W (ev C (.chn o o' ea eb ec))) ∧ PT X (.Compare a [op, op'] [b, c] pos) (tT X.K ca W (ev C (.chn o o' ea eb ec))) :=
  ⟨PE.imp (pe_chain (op_cmpZ (ca := ca) (W := W) e G.hu) (op_cmpZ (ca := ca) (W := W) e' G.hu) ha hb hc hm) fun σ H Q t => md_chn t,
    t_cmpv (pt_chain (op_cmpZ (ca := ca) (W := W) e G.hu) (op_cmpZ (ca := ca) (W := W) e' G.hu) ha hb hc hm) fun σ H Q t => md_chn t⟩
end
end Z

set_option linter.all false
set_option autoImplicit false
set_option maxRecDepth 100000
set_option maxHeartbeats 1000000
/-! ZRev: list(reversed(tuple)). -/
namespace ZRv
open PySem PySem.Spec PyProof.Rows RT
theorem nolen_rt : typeLookup (.type "reversed") "__len__" = pure none := by rw [typeLookup_type, builtinLookup_eq_fast]; kernel_rfl
theorem slot_hint : Slot "reversed" "__length_hint__" "reversed.__length_hint__" :=
  .of (owner := "reversed") (n := "__length_hint__") (by rw [typeLookup_type, builtinLookup_eq_fast]; kernel_rfl) (by decide +kernel) (by decide +kernel) (by decide +kernel)
    (by first | exact .inl (by decide +kernel) | exact .inr (by decide +kernel)) (by rw [isSubtype_type]; kernel_rfl)
theorem entry_hint : entryFor table "reversed.__length_hint__" = some Builtin.«reversed.__length_hint__» := entryFor_of_tree (by kernel_rfl)
theorem args_hint (a : Value) : argsOk "reversed.__length_hint__" ⟨[a], []⟩ := by
  unfold argsOk; rw [signature?_of (id := "reversed.__length_hint__") (n := ['_', '_', 't', 'n', 'i', 'h', '_', 'h', 't', 'g', 'n', 'e', 'l', '_', '_']) (o := ['d', 'e', 's', 'r', 'e', 'v', 'e', 'r']) (by kernel_rfl) owner_rt]; kernel_rfl
theorem tup_at {h h' : Heap} {t : Addr} {items : Array Value} (x : IsTup h t items) (e : ∀ o, h.get? t = some o → h'.get? t = some o) : IsTup h' t items := let ⟨o, ho, r⟩ := x; ⟨o, e _ ho, r⟩
section
variable {prog : Program} {w : World} {A : Around} {E : Value → Shared → Prop} {s : Shared}
theorem walks_rt (hh : A.handled = none) (I t : Addr) (hne : t ≠ I) (items : Array Value) (hz : items.size ≤ sizeLine) :
    Walks prog w A I [I, t] [I] items.size (fun i v => items[items.size - 1 - i]? = some v) (fun i h => i ≤ items.size ∧ IsRt h I t ((items.size : Int) - 1 - (i : Int)) ∧ IsTup h t items) where
  sub := fun b hb => by simp at hb; simp [hb]
  frame := fun _ _ _ x hk => ⟨x.1, x.2.1.at fun o e => hk I (by simp) o e, tup_at x.2.2 fun o e => hk t (by simp) o e⟩
  item := fun i s Q E hi x hQ => by
    have e : (items.size : Int) - 1 - (i : Int) = ((items.size - 1 - i : Nat) : Int) := by omega
    have hit := x.2.1
    rw [e] at hit
    have hx : items[items.size - 1 - i]? = some (items[items.size - 1 - i]'(by omega)) := Array.getElem?_eq_getElem (by omega)
    refine next_rt_item hit x.2.2 hx hz fun h' hit' hs' => ?_
    have e2 : ((items.size - 1 - i : Nat) : Int) - 1 = (items.size : Int) - 1 - ((i + 1 : Nat) : Int) := by omega
    rw [e2] at hit'
    exact hQ _ h' (s.toks + 1) hx ⟨hi, hit', tup_at x.2.2 fun o eo => (hs'.2 t hne).trans eo⟩ fun b o hb eo => hs'.extBut b o (fun h => hb (by simp [h])) eo
  done := fun s Q E x hQ => by
    have e : (items.size : Int) - 1 - (items.size : Int) = -1 := by omega
    have hit := x.2.1
    rw [e] at hit
    exact next_rt_end hh hit fun h' he' => hQ h' s.toks fun b o hb eo => he' b o (fun h => hb (by simp [h])) eo
  self := fun _ _ _ _ x hQ => iter_rt x.2.1 hQ
theorem hint_rt {I t : Addr} {items : Array Value} {Q : Value → Shared → Prop} (hit : IsRt s.heap I t ((items.size : Int) - 1)) (ht : IsTup s.heap t items) (hz : items.size ≤ sizeLine)
    (hQ : ∀ tk tk2, s.toks ≤ tk2 → Q (.int (items.size : Nat) tk) { s with toks := tk2 }) : wpAny (model prog w) A (call (.builtin "reversed.__length_hint__") [.ref I]) Q E s := by
  obtain ⟨o, ho, hc, hd⟩ := id hit
  rw [sizeLine_eq] at hz
  refine wpAny_call_entry slot_hint hit.typeIs entry_hint ?_ (args_hint _)
  unfold Builtin.«reversed.__length_hint__»
  refine wpAny_bind (wpAny_of_eq (a := Value.ref I) rfl ?_)
  refine wpAny_bind (wpAny_field ho hd (x := .ref t) rfl ?_)
  try dsimp only
  rw [if_neg (by intro h; cases h)]
  refine wpAny_bind (len_tuple ht (by omega) ?_)
  refine wpAny_bind (wpAny_of_eq (a := some (items.size : Int)) rfl ?_)
  try dsimp only
  refine wpAny_bind (wpAny_field (s := { s with toks := s.toks + 1 + 1 }) ho hd (x := rawInt ((items.size : Int) - 1)) rfl ?_)
  show wpAny _ _ (if (items.size : Int) < ((items.size : Int) - 1) + 1 then _ else _) _ _ _
  rw [if_neg (by omega)]
  rw [show (items.size : Int) - 1 + 1 = ((items.size : Nat) : Int) by omega]
  unfold retInt
  refine wpAny_bind (wpAny_mkInt ?_)
  exact wpAny_pure ⟨_, rfl, hQ _ _ (by show s.toks ≤ s.toks + 1 + 1 + 1; omega)⟩
theorem extend_rt {R : Result → Shared → Prop} {I t S : Addr} {items : Array Value} {res : Value} {c₀ : Nat} (hh : A.handled = none) (hit : IsRt s.heap I t ((items.size : Int) - 1)) (ht : IsTup s.heap t items) (hz : items.size ≤ sizeLine) (hne : t ≠ I) (hSI : S ≠ I) (hSt : S ≠ t)
    (hS : s.heap.get? S = some { cls := .type "list", data := .seq #[] c₀ })
    (hR : ∀ h' tk acc' c', (∀ b o, b ≠ S → b ≠ I → s.heap.get? b = some o → h'.get? b = some o) → h'.get? S = some { cls := .type "list", dict := none, data := .seq acc' c', slots := #[] } → ItemsOf (fun i v => items[items.size - 1 - i]? = some v) acc' items.size → R (.ok (.ret res)) { s with heap := h', toks := tk }) :
    wpAny (model prog w) A.in1 (Builtin.List.listExtendWith (.ref S) (.ref I) res)
      (fun fin s' => match fin with | .done f => R (.ok f) s' | .again c' => c'.quiet = true ∧ codeAny (model prog w) A c' R s') (fun e s' => R (.error e) s') s := by
  have W := (walks_rt (prog := prog) (w := w) (A := A.in1) hh I t hne items hz).toS
  have hSf : S ∉ [I, t] := by simp only [List.mem_cons, List.not_mem_nil, or_false, not_or]; exact ⟨hSI, hSt⟩
  have hT := hit.typeIs
  have h1 : Builtin.List.listSameRef (.ref S) (.ref I) = false := by simp [Builtin.List.listSameRef, hSI]
  have h2 : (Value.type "reversed" == Value.type "list") = false := by decide
  have h3 : (Value.type "reversed" == Value.type "tuple") = false := by decide
  have e0 : ((items.size : Nat) : Int) - 1 - ((0 : Nat) : Int) = (items.size : Int) - 1 := by omega
  have key : ∀ (s1 : Shared) (c : Nat), (∀ b o, b ≠ S → s.heap.get? b = some o → s1.heap.get? b = some o) → s1.gens = s.gens → s1.drawn = s.drawn → s1.os = s.os → s1.heap.get? S = some { cls := .type "list", data := .seq #[] c } →
      codeAny (model prog w) A (.builtin "list.extend.loop" ⟨[.ref S, .ref I, res], []⟩) R s1 := fun s1 c hk g1 g2 g3 hS1 => by
    refine codeAny_extend_loopS W hz _ hSf _ items.size 0 s1 _ _ rfl (Nat.zero_le _) ⟨Nat.zero_le _, by rw [e0]; exact hit.at fun o e => hk _ _ (Ne.symm hSI) e, tup_at ht fun o e => hk _ _ (Ne.symm hSt) e⟩ hS1 (ItemsOf.nil _) fun s' acc' c' hm hS' hacc => ?_
    rw [Moved.eq_with hm]
    have := hR s'.heap s'.toks acc' c' (fun b o hb hb2 e => hm.heap b o (by simp only [List.mem_cons, List.not_mem_nil, or_false, not_or]; exact ⟨hb, hb2⟩) (hk b o hb e)) hS' hacc
    obtain ⟨a1, a2, a3, a4, a5⟩ := s1
    simp only at g1 g2 g3
    subst g1 g2 g3
    exact this
  unfold Builtin.List.listExtendWith
  refine wpAny_bind (wpAny_typeOf hT ?_)
  simp only [h1, h2, h3, Bool.or_false, Bool.false_eq_true, if_false]
  refine wpAny_bind (iter_rt hit ?_)
  refine wpAny_bind (wpAny_holding ?_)
  unfold Builtin.List.listLengthHint
  refine wpAny_bind (wpAny_specialOf hT nolen_rt ?_)
  show wpAny _ A.in1 (specialOf (Value.ref I) (Str.ofString "__length_hint__") >>= _) _ _ _
  refine wpAny_bind (wpAny_specialOf hT slot_hint.lookup ?_)
  generalize hid : ("reversed.__length_hint__" : String) = id0
  wp_delta
  rw [show splitId id0 = some ("reversed", "__length_hint__") from by subst hid; decide +kernel]
  subst hid
  refine wpAny_bind (wpAny_isInstance (b := true) hT (by rw [isSubtype_type]; kernel_rfl) ?_)
  rw [if_neg (by decide)]
  rw [if_neg (by decide +kernel)]
  refine wpAny_bind (wpAny_rule ?_)
  rw [slot_hint.bind]
  refine wpAny_bind (wpAny_pure ?_)
  try dsimp only
  refine wpAny_bind (wpAny_attempt (hint_rt hit ht hz fun tk tk2 htk => ?_))
  show wpAny _ _ (asInt? (Value.int ((items.size : Nat) : Int) tk) >>= _) _ _ _
  have ai : ∀ (n : Int) (t : Tok), asInt? (Value.int n t) = pure (some n) := fun _ _ => rfl
  have hz' := hz
  rw [sizeLine_eq] at hz'
  have fi : Builtin.List.listFitsIndex ((items.size : Nat) : Int) = true := by
    simp [Builtin.List.listFitsIndex]
    omega
  have tl : Builtin.List.listTooLong (((items.size : Nat) : Int)).toNat = false := by
    simp [Builtin.List.listTooLong]
    exact hz
  have ng : ¬ (((items.size : Nat) : Int) < 0) := by omega
  simp only [ai, pure_bind, fi, tl, Bool.not_true, Bool.false_eq_true, if_false, if_neg ng]
  refine wpAny_pure ?_
  have res : ("reversed" : String) ∉ ["set", "frozenset", "dict", "dict_keys", "dict_values", "dict_items"] := by decide
  by_cases q : items.size = 0
  · rw [show ((((items.size : Nat) : Int)) != 0) = false by simp [q]]
    rw [if_neg (by decide +kernel)]
    refine wpAny_pure ⟨plainId_quiet F.plain_extend_loop _, key _ c₀ (fun b o _ e => e) rfl rfl rfl hS⟩
  · rw [show ((((items.size : Nat) : Int)) != 0) = true by
      have : ((items.size : Nat) : Int) ≠ 0 := by omega
      simpa using this]
    rw [if_pos (by rfl)]
    clear fi tl hz' ng
    refine wpAny_bind (wpAny_rule ?_)
    refine wpAny_bind ?_
    show wpAny _ A.in1 (updateSeq S (·.push .none) >>= fun _ => updateSeq S (·.pop)) _ _ _
    refine wpAny_bind (wpAny_updateSeq hS rfl ?_)
    have hS2 := Heap.get?_update_self (Obj.mapSeq (·.push Value.none)) hS rfl
    refine wpAny_updateSeq (hz := by seq_fits) hS2 rfl ?_
    have hS3 := Heap.get?_update_self (Obj.mapSeq (·.pop)) hS2 rfl
    refine wpAny_pure ⟨plainId_quiet F.plain_extend_loop _, key _ _ (fun b o hb e => ?_) rfl rfl rfl hS3⟩
    exact (Heap.get?_update_other _ _ (Ne.symm hb)).trans ((Heap.get?_update_other _ _ (Ne.symm hb)).trans e)
theorem init_rt {R : Result → Shared → Prop} {I t S : Addr} {items : Array Value} (hh : A.handled = none) (hit : IsRt s.heap I t ((items.size : Int) - 1)) (ht : IsTup s.heap t items) (hz : items.size ≤ sizeLine) (hne : t ≠ I) (hSI : S ≠ I) (hSt : S ≠ t)
    (hS : s.heap.get? S = some { cls := .type "list", data := .seq #[] })
    (hR : ∀ h' tk acc' c', (∀ b o, b ≠ S → b ≠ I → s.heap.get? b = some o → h'.get? b = some o) → h'.get? S = some { cls := .type "list", dict := none, data := .seq acc' c', slots := #[] } → ItemsOf (fun i v => items[items.size - 1 - i]? = some v) acc' items.size → R (.ok (.ret .none)) { s with heap := h', toks := tk }) :
    wpAny (model prog w) A.in1 (Builtin.«list.__init__» ⟨[.ref S, .ref I], []⟩)
      (fun fin s' => match fin with | .done f => R (.ok f) s' | .again c' => c'.quiet = true ∧ codeAny (model prog w) A c' R s') (fun e s' => R (.error e) s') s := by
  show wpAny _ A.in1 (do let old ← Builtin.List.listItems (.ref S); Builtin.List.listUpdate (.ref S) (fun _ => #[]); letGo old.toList.reverse; Builtin.List.listExtendWith (.ref S) (.ref I) .none) _ _ s
  refine wpAny_bind ?_
  unfold Builtin.List.listItems
  refine wpAny_bind (wpAny_seqItems hS rfl (wpAny_pure ?_))
  show wpAny _ A.in1 (updateSeq S (fun _ => #[]) >>= fun _ => letGo (#[] : Array Value).toList.reverse >>= fun _ => Builtin.List.listExtendWith (.ref S) (.ref I) .none) _ _ s
  refine wpAny_bind (wpAny_updateSeq hS rfl ?_)
  have hS2 := Heap.get?_update_self (Obj.mapSeq (fun _ => (#[] : Array Value))) hS rfl
  have oth : ∀ b o, b ≠ S → s.heap.get? b = some o → (s.heap.update S (Obj.mapSeq (fun _ => (#[] : Array Value)))).get? b = some o :=
    fun b o hb e => (Heap.get?_update_other _ _ (Ne.symm hb)).trans e
  refine wpAny_bind (wpAny_letGo ?_)
  refine extend_rt (t := t) hh (hit.at fun o e => oth _ _ (Ne.symm hSI) e) (tup_at ht fun o e => oth _ _ (Ne.symm hSt) e) hz hne hSI hSt hS2 fun h' tk acc' c' hk hS' hacc => ?_
  exact hR h' tk acc' c' (fun b o hb hb2 e => hk b o hb hb2 (oth b o hb e)) hS' hacc
theorem call_rt {Q : Value → Shared → Prop} {I t : Addr} {items : Array Value} (hh : A.handled = none) (hit : IsRt s.heap I t ((items.size : Int) - 1)) (ht : IsTup s.heap t items) (hz : items.size ≤ sizeLine) (hne : t ≠ I)
    (hQ : ∀ h' tk acc' c', (∀ b o, b ≠ I → s.heap.get? b = some o → h'.get? b = some o) → h'.get? s.heap.objs.size = some { cls := .type "list", dict := none, data := .seq acc' c', slots := #[] } → ItemsOf (fun i v => items[items.size - 1 - i]? = some v) acc' items.size → Q (.ref s.heap.objs.size) { s with heap := h', toks := tk }) :
    wpAny (model prog w) A (PySem.call (.type "list") [.ref I]) Q E s := by
  refine callType_codes (Q₁ := fun obj s₁ => obj = .ref s.heap.objs.size ∧ s₁ = { s with heap := s.heap.push { cls := .type "list", data := .seq #[] } }) F.called_list (F.typeCall_list_1 _) F.entry_list_init
    (code_list_new _ ⟨rfl, rfl⟩) fun obj s₁ h₁ => ?_
  obtain ⟨rfl, rfl⟩ := h₁
  have hS : (s.heap.push { cls := .type "list", data := .seq #[] }).get? s.heap.objs.size = some { cls := .type "list", data := .seq #[] } := Heap.get?_push_size _ rfl
  obtain ⟨oi, hoi, _⟩ := id hit
  obtain ⟨ot, hot, _⟩ := id ht
  refine ⟨⟨_, hS, rfl⟩, F.args_list_init_2 _ _, init_rt (A := A.in1) (t := t) hh (hit.at fun o e => Heap.get?_push_of_some _ e) (tup_at ht fun o e => Heap.get?_push_of_some _ e) hz hne (Nat.ne_of_gt (Heap.lt_size hoi)) (Nat.ne_of_gt (Heap.lt_size hot)) hS fun h' tk acc' c' hk hS' hacc => ?_⟩
  exact ⟨rfl, hQ h' tk acc' c' (fun b o hb e => hk b o (Nat.ne_of_lt (Heap.lt_size e)) hb (Heap.get?_push_of_some _ e)) hS' hacc⟩
end
open L2
/-- list(reversed(x)), x a tuple: a new list -/
def tLstRev (K : PySem.W.Frag) (te : TE) : TE := fun σ H Q => te σ H fun v H1 => ∃ (a : Addr) (xs : List V), v = .ref a ∧ SqT K H1 a xs ∧ ∀ q, H1 q = none → Q (.ref q) (upd H1 q (.lst xs.reverse))
section
variable {X : Cx}
theorem pe_lstRev {e : Expr} {te : TE} {p p2 pos pos2 : Pos} (hc : X.calm = true) (hg : Gl X "list") (hm : X.mg "list" = none) (hg2 : Gl X "reversed") (hm2 : X.mg "reversed" = none) (he : PE X e te)
    (hs : starEach [e] X.env = (false, eval e X.env) :: starEach [] X.env := by rfl)
    (hs2 : starEach [.Call (.Name "reversed" p2) [e] [] pos2] X.env = (false, eval (.Call (.Name "reversed" p2) [e] [] pos2) X.env) :: starEach [] X.env := by rfl) :
    PE X (.Call (.Name "list" p) [.Call (.Name "reversed" p2) [e] [] pos2] [] pos) (tLstRev X.K te) := by
  refine ⟨fun pins s σ H Q I h => ?_⟩
  refine Call_ (ld_blt I hg hm boot_list (PyProof.Rows.callWith_type1 (args_cons (Call_ (ld_blt I hg2 hm2 PyProof.Rows.boot_reversed (PyProof.Rows.callWith_type1 (args_cons (thn (he.run pins s σ H _ I h) fun u s1 ⟨v, H1, I1, r1, q1⟩ => args_nil ?_) hs) hs rfl))) hs2) hs2 rfl))
  obtain ⟨a, xs, ev, hq, q⟩ := q1
  subst ev
  obtain rfl : u = Value.ref a := r1
  obtain ⟨its, rv, p', hz⟩ := I1.tuple hq
  have hn : its.toArray.size ≤ sizeLine := by rw [List.size_toArray, ← rv.length]; exact hz
  have l63 := line63
  refine call_reversed_tup p' (fun A E Q k => len_tuple p' (by simp only [List.size_toArray] <;> (have := rv.length; omega)) k) (args_nil ?_)
  have k0 : ∀ b o, s1.heap.get? b = some o → (s1.heap.push (rtObj a ((its.toArray.size : Int) - 1))).get? b = some o := fun b o e => Heap.get?_push_of_some _ e
  have I2 : Inv X pins σ H1 { s1 with heap := s1.heap.push (rtObj a ((its.toArray.size : Int) - 1)), toks := s1.toks + 1 + 1 } := I1.kept (t' := s1.toks + 1 + 1) k0
  have fp := I1.fpOk (H' := H1) (b := s1.heap.objs.size) (Nat.le_refl _) (I1.hok.fresh (Nat.le_refl _))
  obtain ⟨ol, hol, _⟩ := id p'
  have hne : a ≠ s1.heap.objs.size := Nat.ne_of_lt (Heap.lt_size hol)
  refine call_rt (t := a) (items := its.toArray) (s := { s1 with heap := s1.heap.push (rtObj a ((its.toArray.size : Int) - 1)), toks := s1.toks + 1 + 1 }) (I1.ok.hd hc) ⟨_, Heap.get?_push_size _ rfl, rfl, rfl⟩ (tup_at p' fun o e => Heap.get?_push_of_some _ e) hn hne fun h' tk acc c' hk hS hi => ?_
  have hT : H1 (s1.heap.push (rtObj a ((its.toArray.size : Int) - 1))).objs.size = none := I2.hok.fresh (Nat.le_refl _)
  refine ⟨.ref (s1.heap.push (rtObj a ((its.toArray.size : Int) - 1))).objs.size, upd H1 (s1.heap.push (rtObj a ((its.toArray.size : Int) - 1))).objs.size (.lst xs.reverse), I2.turnedNew (t' := tk) (ch := [s1.heap.objs.size]) (fun b o hb e => hk b o (fun z => hb (by simp [z])) e) (fun b hb => by
    have e : b = s1.heap.objs.size := by simpa using hb
    subst e
    exact fp) (Nat.le_refl _) ⟨by rw [List.length_reverse]; exact hz, acc.toList, c', RT.vals_rev rv hi, ?_⟩, rfl, q _ hT⟩
  rw [Array.toArray_toList]
  exact hS
end
end ZRv

set_option linter.all false
set_option autoImplicit false
set_option maxRecDepth 100000
set_option maxHeartbeats 2000000
/-! Z11: the other parts of expressions. -/
namespace Z
open PySem L2 PySem.Spec PyProof.Rows
variable [TC : TabsC]
section
variable {T : Tab} {Ds : List Dfn} {wf k : Nat} {ca : Nat → Addr} {N : List Str} {X : Cx} {sc : Scope} {W : WX} {C : Cfg}
theorem s_and {a b : Expr} {rest : List Expr} {pos : Pos} {ea eb : E} (ha : PE X a (tE X.K ca W (ev C ea))) (hb : PE X (.BoolOp .And (b :: rest) pos) (tE X.K ca W (ev C eb))) : PE X (.BoolOp .And (a :: b :: rest) pos) (tE X.K ca W (ev C (.and ea eb))) := by
  refine PE.imp (pe_and ha hb) fun σ H Q t => ?_
  obtain ⟨Y, F, ρ, h, s, S, E, q⟩ := t
  refine ⟨Y, F, ρ, h, s, S, E, ?_⟩
  replace q : Aft X.K ca W Y F ρ h.length σ Q (bnd (ev C ea s h) fun x h1 => match x with
    | .d (.bool true) => ev C eb s h1
    | .d (.bool false) => .ok (.d (.bool false)) h1
    | _ => .no) := q
  cases e : ev C ea s h with
  | ex c h1 =>
    rw [e] at q
    exact q
  | no =>
    rw [e] at q
    exact q
  | ok v h1 =>
    rw [e] at q
    unfold bnd at q
    dsimp only at q
    intro u F1 ρ1 H1 x1 S1 r1
    split at q
    · cases r1
      exact ⟨true, rfl, iteT ⟨Y, F1, ρ1, h1, s, S1, E.mono x1, Aft.mono x1 q⟩⟩
    · cases r1
      exact ⟨false, rfl, iteF (q _ F1 ρ1 H1 x1 S1 (.bl _))⟩
    · exact q.elim
theorem s_or {a b : Expr} {rest : List Expr} {pos : Pos} {ea eb : E} (ha : PE X a (tE X.K ca W (ev C ea))) (hb : PE X (.BoolOp .Or (b :: rest) pos) (tE X.K ca W (ev C eb))) : PE X (.BoolOp .Or (a :: b :: rest) pos) (tE X.K ca W (ev C (.or ea eb))) := by
  refine PE.imp (pe_or ha hb) fun σ H Q t => ?_
  obtain ⟨Y, F, ρ, h, s, S, E, q⟩ := t
  refine ⟨Y, F, ρ, h, s, S, E, ?_⟩
  replace q : Aft X.K ca W Y F ρ h.length σ Q (bnd (ev C ea s h) fun x h1 => match x with
    | .d (.bool true) => .ok (.d (.bool true)) h1
    | .d (.bool false) => ev C eb s h1
    | _ => .no) := q
  cases e : ev C ea s h with
  | ex c h1 =>
    rw [e] at q
    exact q
  | no =>
    rw [e] at q
    exact q
  | ok v h1 =>
    rw [e] at q
    unfold bnd at q
    dsimp only at q
    intro u F1 ρ1 H1 x1 S1 r1
    split at q
    · cases r1
      exact ⟨true, rfl, iteT (q _ F1 ρ1 H1 x1 S1 (.bl _))⟩
    · cases r1
      exact ⟨false, rfl, iteF ⟨Y, F1, ρ1, h1, s, S1, E.mono x1, Aft.mono x1 q⟩⟩
    · exact q.elim
theorem t_and {a b : Expr} {rest : List Expr} {pos : Pos} {ea eb : E} (ha : PT X a (tT X.K ca W (ev C ea))) (hb : PW X (.BoolOp .And (b :: rest) pos) (tT X.K ca W (ev C eb))) : PW X (.BoolOp .And (a :: b :: rest) pos) (tT X.K ca W (ev C (.and ea eb))) := by
  refine PW.imp (pw_and ha hb) fun σ H Q t => ?_
  obtain ⟨Y, F, ρ, h, s, S, E, q⟩ := t
  refine ⟨Y, F, ρ, h, s, S, E, ?_⟩
  replace q : AftT X.K ca W Y F ρ h.length σ Q (bnd (ev C ea s h) fun x h1 => match x with
    | .d (.bool true) => ev C eb s h1
    | .d (.bool false) => .ok (.d (.bool false)) h1
    | _ => .no) := q
  cases e : ev C ea s h with
  | ex c h1 =>
    rw [e] at q
    exact q
  | no =>
    rw [e] at q
    exact q
  | ok v h1 =>
    rw [e] at q
    unfold bnd at q
    dsimp only at q
    split at q
    · exact ⟨true, rfl, fun F1 ρ1 H1 x1 S1 => iteT ⟨Y, F1, ρ1, h1, s, S1, E.mono x1, AftT.mono x1 q⟩⟩
    · obtain ⟨b, eb, kq⟩ := q
      have eb' : false = b := by
        injection eb with eb
        injection eb
      subst eb'
      exact ⟨false, rfl, fun F1 ρ1 H1 x1 S1 => iteF (kq F1 ρ1 H1 x1 S1)⟩
    · exact q.elim
theorem t_or {a b : Expr} {rest : List Expr} {pos : Pos} {ea eb : E} (ha : PT X a (tT X.K ca W (ev C ea))) (hb : PW X (.BoolOp .Or (b :: rest) pos) (tT X.K ca W (ev C eb))) : PW X (.BoolOp .Or (a :: b :: rest) pos) (tT X.K ca W (ev C (.or ea eb))) := by
  refine PW.imp (pw_or ha hb) fun σ H Q t => ?_
  obtain ⟨Y, F, ρ, h, s, S, E, q⟩ := t
  refine ⟨Y, F, ρ, h, s, S, E, ?_⟩
  replace q : AftT X.K ca W Y F ρ h.length σ Q (bnd (ev C ea s h) fun x h1 => match x with
    | .d (.bool true) => .ok (.d (.bool true)) h1
    | .d (.bool false) => ev C eb s h1
    | _ => .no) := q
  cases e : ev C ea s h with
  | ex c h1 =>
    rw [e] at q
    exact q
  | no =>
    rw [e] at q
    exact q
  | ok v h1 =>
    rw [e] at q
    unfold bnd at q
    dsimp only at q
    split at q
    · obtain ⟨b, eb, kq⟩ := q
      have eb' : true = b := by
        injection eb with eb
        injection eb
      subst eb'
      exact ⟨true, rfl, fun F1 ρ1 H1 x1 S1 => iteT (kq F1 ρ1 H1 x1 S1)⟩
    · exact ⟨false, rfl, fun F1 ρ1 H1 x1 S1 => iteF ⟨Y, F1, ρ1, h1, s, S1, E.mono x1, AftT.mono x1 q⟩⟩
    · exact q.elim
theorem s_ite {c a b : Expr} {pos : Pos} {ec ea eb : E} (hc : PT X c (tT X.K ca W (ev C ec))) (ha : PE X a (tE X.K ca W (ev C ea))) (hb : PE X b (tE X.K ca W (ev C eb))) : PE X (.IfExp c a b pos) (tE X.K ca W (ev C (.ite ec ea eb))) := by
  refine PE.imp (pe_ifExp hc ha hb) fun σ H Q t => ?_
  obtain ⟨Y, F, ρ, h, s, S, E, q⟩ := t
  refine ⟨Y, F, ρ, h, s, S, E, ?_⟩
  replace q : Aft X.K ca W Y F ρ h.length σ Q (bnd (ev C ec s h) fun x h1 => match x with
    | .d (.bool true) => ev C ea s h1
    | .d (.bool false) => ev C eb s h1
    | _ => .no) := q
  cases e : ev C ec s h with
  | ex c h1 =>
    rw [e] at q
    exact q
  | no =>
    rw [e] at q
    exact q
  | ok v h1 =>
    rw [e] at q
    unfold bnd at q
    dsimp only at q
    split at q
    · exact ⟨true, rfl, fun F1 ρ1 H1 x1 S1 => iteT ⟨Y, F1, ρ1, h1, s, S1, E.mono x1, Aft.mono x1 q⟩⟩
    · exact ⟨false, rfl, fun F1 ρ1 H1 x1 S1 => iteF ⟨Y, F1, ρ1, h1, s, S1, E.mono x1, Aft.mono x1 q⟩⟩
    · exact q.elim
/-! ### argument lists -/
theorem s_nil : PA X [] (tA X.K ca W (evs C .nil)) := by
  refine PA.imp pa_nil fun σ H Q t => ?_
  obtain ⟨Y, F, ρ, h, s, S, E, q⟩ := t
  exact q [] F ρ H Ext.refl S .nil
theorem s_cons {e : Expr} {es : List Expr} {ea eas : E} (hs : starB e = false) (ha : PE X e (tE X.K ca W (ev C ea))) (hr : PA X es (tA X.K ca W (evs C eas))) : PA X (e :: es) (tA X.K ca W (evs C (.cons ea eas))) := by
  refine PA.imp (pa_cons ha hr (star_one hs X.env es)) fun σ H Q t => ?_
  obtain ⟨Y, F, ρ, h, s, S, E, q⟩ := t
  refine ⟨Y, F, ρ, h, s, S, E, ?_⟩
  replace q : AftA X.K ca W Y F ρ h.length σ Q (bnd (ev C ea s h) fun v h1 => bnd (evs C eas s h1) fun vs h2 => .ok (v :: vs) h2) := q
  cases e1 : ev C ea s h with
  | ex c h1 =>
    rw [e1] at q
    exact q
  | no =>
    rw [e1] at q
    exact q
  | ok v h1 =>
    rw [e1] at q
    replace q : AftA X.K ca W Y F ρ h.length σ Q (bnd (evs C eas s h1) fun vs h2 => .ok (v :: vs) h2) := q
    intro u F1 ρ1 H1 x1 S1 r1
    refine ⟨Y, F1, ρ1, h1, s, S1, E.mono x1, ?_⟩
    cases e2 : evs C eas s h1 with
    | ex c h2 =>
      rw [e2] at q
      exact AftA.mono x1 q
    | no =>
      rw [e2] at q
      exact q
    | ok vs h2 =>
      rw [e2] at q
      intro us F2 ρ2 H2 x2 S2 r2
      exact q (u :: us) F2 ρ2 H2 (x1.trans x2) S2 (.cons (RV.mono x2 r1) r2)
/-- the arguments are held, then something is done with them -/
theorem md_args {g : List Vl → Hep → R Vl} {ras : Env → Hep → R (List Vl)} {K : PySem.W.Frag} {σ : L2.St} {H : Hp} {Q : VK} (t : tE K ca W (fun s h => bnd (ras s h) fun vs h1 => g vs h1) σ H Q) : tA K ca W ras σ H (fun us H1 => ∃ Y F ρ h vs, Sim K Y F ρ h H1 ∧ RVs K F ρ h.length vs us ∧ Aft K ca W Y F ρ h.length σ Q (g vs h)) := by
  obtain ⟨Y, F, ρ, h, s, S, E, a⟩ := t
  dsimp only at a
  refine ⟨Y, F, ρ, h, s, S, E, ?_⟩
  cases e : ras s h with
  | ok v h1 =>
    rw [e] at a
    exact fun u F' ρ' H' x S' rv => ⟨Y, F', ρ', h1, v, S', rv, Aft.mono x a⟩
  | ex c h1 =>
    rw [e] at a
    exact a
  | no =>
    rw [e] at a
    exact a
theorem md_argsF {g : List Vl → Hep → R Vl} {ras : Env → Hep → R (List Vl)} {K : PySem.W.Frag} {σ : L2.St} {H : Hp} {Q : VK} (t : tF K ca W (fun s h => bnd (ras s h) fun vs h1 => g vs h1) σ H Q) : tA K ca W ras σ H (fun us H1 => ∃ Y F ρ h vs, Sim K Y F ρ h H1 ∧ RVs K F ρ h.length vs us ∧ AftF K ca W Y F ρ h.length σ Q (g vs h)) := by
  obtain ⟨Y, F, ρ, h, s, S, E, a⟩ := t
  dsimp only at a
  refine ⟨Y, F, ρ, h, s, S, E, ?_⟩
  cases e : ras s h with
  | ok v h1 =>
    rw [e] at a
    exact fun u F' ρ' H' x S' rv => ⟨Y, F', ρ', h1, v, S', rv, AftF.mono x a⟩
  | ex c h1 =>
    rw [e] at a
    exact a
  | no =>
    rw [e] at a
    exact a
theorem tA_map {K : PySem.W.Frag} {σ : L2.St} {H : Hp} {ra : Env → Hep → R (List Vl)} {G G' : List V → Hp → Prop} (i : ∀ u H1, G u H1 → G' u H1) (t : tA K ca W ra σ H G) : tA K ca W ra σ H G' := by
  obtain ⟨Y, F, ρ, h, s, S, E, a⟩ := t
  refine ⟨Y, F, ρ, h, s, S, E, ?_⟩
  cases e : ra s h with
  | ok v h1 =>
    rw [e] at a
    exact fun u F' ρ' H' x S' rv => i u H' (a u F' ρ' H' x S' rv)
  | ex c h1 =>
    rw [e] at a
    exact a
  | no =>
    rw [e] at a
    exact a
theorem s_tup {es : List Expr} {j : Nat} {pos : Pos} {eas : E} (ha : PA X es (tA X.K ca W (evs C eas))) : PE X (.Tuple es j pos) (tE X.K ca W (ev C (.tup eas))) := by
  refine PE.imp (pe_tup ha) fun σ H Q t => tA_map (fun us H1 q => ?_) (md_args t)
  obtain ⟨Y, F, ρ, h, vs, S, r, a⟩ := q
  unfold tupV at a
  split at a
  · rename_i xs h2 q
    split at a
    · rename_i hz
      obtain ⟨F2, x2, S2, d2⟩ := keepAll_ok S r q
      refine ⟨?_, fun p hp => fin_tup S2 (Aft.mono x2 a) hp d2⟩
      have hl : vs.length = us.length := Paired.length r
      rw [← hl]
      exact of_decide_eq_true hz
    · exact a.elim
  · exact a.elim
theorem s_lstF {es : List Expr} {pos : Pos} {eas : E} (ha : PA X es (tA X.K ca W (evs C eas))) : PE X (.List es pos) (tF X.K ca W (ev C (.lst eas))) := by
  refine PE.imp (pe_lst ha) fun σ H Q t => tA_map (fun us H1 q => ?_) (md_argsF t)
  obtain ⟨Y, F, ρ, h, vs, S, r, a⟩ := q
  unfold lstV at a
  split at a
  · rename_i xs h2 q
    split at a
    · rename_i hz
      obtain ⟨F2, x2, S2, d2⟩ := keepAll_ok S r q
      refine ⟨?_, fun p hp => fin_loose S2 (AftF.mono x2 a) hp d2⟩
      have hl : vs.length = us.length := Paired.length r
      rw [← hl]
      exact of_decide_eq_true hz
    · exact a.elim
  · exact a.elim
theorem lst_list {eas : E} (s : Env) (h : Hep) (v : Vl) (h' : Hep) (e : ev C (.lst eas) s h = .ok v h') : ∃ xs, v = .d (.list xs) := by
  replace e : (bnd (evs C eas s h) fun vs h1 => lstV vs h1) = .ok v h' := e
  cases q : evs C eas s h with
  | ex c h1 =>
    rw [q] at e
    cases e
  | no =>
    rw [q] at e
    cases e
  | ok vs h1 =>
    rw [q] at e
    replace e : lstV vs h1 = .ok v h' := e
    unfold lstV at e
    split at e
    · split at e
      · cases e
        exact ⟨_, rfl⟩
      · cases e
    · cases e
theorem s_lst {es : List Expr} {pos : Pos} {eas : E} (ha : PA X es (tA X.K ca W (evs C eas))) : PE X (.List es pos) (tE X.K ca W (ev C (.lst eas))) := tE_of_tF (fun s h v h' e => lst_list s h v h' e) (s_lstF ha)
theorem s_idx {a b : Expr} {pos : Pos} {ea eb : E} (G : Gd T Ds wf k ca N X sc W) (hs : ∀ lo hi st p, b ≠ .Slice lo hi st p) (ha : PE X a (tE X.K ca W (ev C ea))) (hb : PE X b (tE X.K ca W (ev C eb))) : PE X (.Subscript a b pos) (tE X.K ca W (ev C (.idx ea eb))) := by
  have pl : PlainIx b := by
    intro o i
    cases b <;> first
      | rfl
      | exact absurd rfl (hs _ _ _ _)
  have hu : X.A.units + 1 < cLine := by
    have := G.hu
    omega
  refine PE.imp (PE.or (pe_ix (ix_Z (ca := ca) (W := W)) ha hb pl) (pe_dget hu ha hb fun o i => ?_)) fun σ H Q t => ?_
  · cases b <;> first
      | rfl
      | exact absurd rfl (hs _ _ _ _)
  · rcases two_or (g := idxV) idx_or t with t | t
    · exact .inl (md_two t)
    · exact .inr (tE_map (fun x H1 q => tE_map (fun y H2 r => rK_ok r) q) (md_two t))
/-! ### slices -/
def AftP (K : PySem.W.Frag) (ca : Nat → Addr) (W : WX) (Y F : Hp) (ρ : Nat → Addr) (n : Nat) (σ : L2.St) (Q : Option Int → Hp → Prop) : R (Option Int) → Prop
  | .ok v h => ∀ F' ρ' H', Ext F ρ n F' ρ' h.length → Sim K Y F' ρ' h H' → Q v H'
  | .ex c h => ∀ F' ρ' H', Ext F ρ n F' ρ' h.length → Sim K Y F' ρ' h H' → W (.ref (ca c)) none σ H'
  | .no => False
def tPo (K : PySem.W.Frag) (ca : Nat → Addr) (W : WX) (r : Env → Hep → R (Option Int)) : TO := fun σ H Q => ∃ Y F ρ h s, Sim K Y F ρ h H ∧ EnvR K F ρ h.length s σ ∧ AftP K ca W Y F ρ h.length σ Q (r s h)
theorem PO.imp {e : Option Expr} {t t' : TO} (p : PO X e t) (i : ∀ σ H Q, t' σ H Q → t σ H Q) : PO X e t' := ⟨fun pins s σ H Q I q => p.run pins s σ H Q I (i σ H Q q)⟩
/-- a part of a slice -/
def partR (C : Cfg) (lo : E) (s : Env) (h : Hep) : R (Option Int) := if isNil lo then .ok none h else asInt (ev C lo s h)
theorem po_no : PO X none (tPo X.K ca W (partR C .nil)) := by
  refine PO.imp po_none fun σ H Q t => ?_
  obtain ⟨Y, F, ρ, h, s, S, E, a⟩ := t
  exact a F ρ H Ext.refl S
theorem po_ye {e : Expr} {ea : E} (hc : isNil ea = false) (ha : PE X e (tE X.K ca W (ev C ea))) : PO X (some e) (tPo X.K ca W (partR C ea)) := by
  refine PO.imp (po_some ha) fun σ H Q t => ?_
  obtain ⟨Y, F, ρ, h, s, S, E, a⟩ := t
  refine ⟨Y, F, ρ, h, s, S, E, ?_⟩
  unfold partR at a
  rw [hc] at a
  replace a : AftP X.K ca W Y F ρ h.length σ Q (asInt (ev C ea s h)) := a
  unfold asInt at a
  cases e1 : ev C ea s h with
  | ex c h1 =>
    rw [e1] at a
    exact a
  | no =>
    rw [e1] at a
    exact a
  | ok v h1 =>
    rw [e1] at a
    unfold bnd at a
    dsimp only at a
    intro u F1 ρ1 H1 x1 S1 r1
    split at a
    · cases r1
      exact ⟨_, rfl, a F1 ρ1 H1 x1 S1⟩
    · exact a.elim
theorem AftP.mono {K : PySem.W.Frag} {Y F F1 : Hp} {ρ ρ1 : Nat → Addr} {n n1 : Nat} {σ : L2.St} {Q : Option Int → Hp → Prop} {r : R (Option Int)} (e : Ext F ρ n F1 ρ1 n1) (a : AftP K ca W Y F ρ n σ Q r) : AftP K ca W Y F1 ρ1 n1 σ Q r := by
  cases r with
  | ok v h => exact fun F' ρ' H' x S => a F' ρ' H' (e.trans x) S
  | ex c h => exact fun F' ρ' H' x S => a F' ρ' H' (e.trans x) S
  | no => exact a
/-- a slice's rule for any parts -/
theorem sl_ZZ : SlR X (fun x l u H Q => ∃ Y F ρ h σ v, Sim X.K Y F ρ h H ∧ RV X.K F ρ h.length v x ∧ Aft X.K ca W Y F ρ h.length σ Q (op1 (fun x => slcD x l u) v h)) := by
  intro pins s σ H x v vl vu lo hi sl Q I rx hs pl pu q
  exact sl_Z (l0 := lo) (u0 := hi) pins s σ H x v vl vu lo hi sl Q I rx hs pl pu ⟨rfl, rfl, q⟩
theorem s_slc {a : Expr} {lo hi : Option Expr} {p2 pos : Pos} {ea el eh : E} (ha : PE X a (tE X.K ca W (ev C ea))) (hl : PO X lo (tPo X.K ca W (partR C el))) (hh : PO X hi (tPo X.K ca W (partR C eh))) : PE X (.Subscript a (.Slice lo hi none p2) pos) (tE X.K ca W (ev C (.slc ea el eh))) := by
  refine PE.imp (pe_slice (sl_ZZ (ca := ca) (W := W)) ha hl hh) fun σ H Q t => ?_
  obtain ⟨Y, F, ρ, h, s, S, E, a⟩ := t
  refine ⟨Y, F, ρ, h, s, S, E, ?_⟩
  replace a : Aft X.K ca W Y F ρ h.length σ Q (bnd (ev C ea s h) fun x h1 => bnd (partR C el s h1) fun l h2 => bnd (partR C eh s h2) fun u h3 => op1 (fun x => slcD x l u) x h3) := a
  cases e1 : ev C ea s h with
  | ex c h1 =>
    rw [e1] at a
    exact a
  | no =>
    rw [e1] at a
    exact a
  | ok v h1 =>
    rw [e1] at a
    replace a : Aft X.K ca W Y F ρ h.length σ Q (bnd (partR C el s h1) fun l h2 => bnd (partR C eh s h2) fun u h3 => op1 (fun x => slcD x l u) v h3) := a
    intro x F1 ρ1 H1 x1 S1 r1
    refine ⟨Y, F1, ρ1, h1, s, S1, E.mono x1, ?_⟩
    cases e2 : partR C el s h1 with
    | ex c h2 =>
      rw [e2] at a
      exact Aft.mono x1 a
    | no =>
      rw [e2] at a
      exact a
    | ok l h2 =>
      rw [e2] at a
      replace a : Aft X.K ca W Y F ρ h.length σ Q (bnd (partR C eh s h2) fun u h3 => op1 (fun x => slcD x l u) v h3) := a
      intro F2 ρ2 H2 x2 S2
      refine ⟨Y, F2, ρ2, h2, s, S2, E.mono (x1.trans x2), ?_⟩
      cases e3 : partR C eh s h2 with
      | ex c h3 =>
        rw [e3] at a
        exact Aft.mono (x1.trans x2) a
      | no =>
        rw [e3] at a
        exact a
      | ok u h3 =>
        rw [e3] at a
        intro F3 ρ3 H3 x3 S3
        exact ⟨Y, F3, ρ3, h3, σ, v, S3, RV.mono (x2.trans x3) r1, Aft.mono ((x1.trans x2).trans x3) a⟩
/-! ### calls -/
theorem nostar : ∀ {es : List Expr} (env : PySem.Env) (pos : Pos), es.all (fun e => !starB e) = true → (backTo pos (starEach es env)).any (·.1) = false
  | [], _, _, _ => rfl
  | e :: es, env, pos, h => by
    simp only [List.all_cons, Bool.and_eq_true, Bool.not_eq_true'] at h
    rw [star_one h.1]
    show (false || (backTo pos (starEach es env)).any (·.1)) = false
    rw [nostar env pos h.2]
    rfl
theorem s_call {f : Nat} {x : Str} {e : Expr} {es : List Expr} {p pos : Pos} {eas : E} (G : Gd T Ds wf k ca N X sc W) (hx : globB sc x = true) (hf : T.fns[f]? = some x) (hst : (e :: es).all (fun e => !starB e) = true)
    (ha : PA X (e :: es) (tA X.K ca W (evs ⟨call Ds wf k, wf⟩ eas))) : PE X (.Call (.Name x p) (e :: es) [] pos) (tE X.K ca W (ev ⟨call Ds wf k, wf⟩ (.call f eas))) := by
  obtain ⟨a, fd, ps, h1, h2, h3, h4, h5⟩ := G.fx.fn f x hf
  simp only [List.all_cons, Bool.and_eq_true, Bool.not_eq_true'] at hst
  refine PE.imp (pe_callS (E := WE W) h4 G.room (G.gl hx) h1 h2 h3 (fun σ => passAt G.tk σ) ha h5 (star_one hst.1 X.env es) (nostar X.env pos hst.2)) fun σ H Q t => tA_map (fun us H1 q => ?_) (md_args t)
  obtain ⟨Y, F, ρ, h, vs, S, r, q⟩ := q
  refine ⟨Y, F, ρ, h, vs, S, r, ?_⟩
  replace q : Aft X.K ca W Y F ρ h.length σ Q (call Ds wf k f vs h) := q
  cases e1 : call Ds wf k f vs h with
  | ok v h1 =>
    rw [e1] at q
    exact q
  | ex c h1 =>
    rw [e1] at q
    exact q
  | no =>
    rw [e1] at q
    exact q
/-! ### built-ins -/
theorem sB {x : Str} {id : String} {b : B} {e : Expr} {es : List Expr} {p pos : Pos} {eas : E} (G : Gd T Ds wf k ca N X sc W) (cr : CallR X (.builtin id) (rCl X.K ca W (bltV b))) (hx : bltB T sc x = true) (hv : bootBuiltins x = some (.builtin id))
    (hst : (e :: es).all (fun e => !starB e) = true) (ha : PA X (e :: es) (tA X.K ca W (evs C eas))) (hn : x ≠ "__name__") (hdb : (x == ("__debug__" : Str)) = false) : PE X (.Call (.Name x p) (e :: es) [] pos) (tE X.K ca W (ev C (.blt b eas))) := by
  simp only [List.all_cons, Bool.and_eq_true, Bool.not_eq_true'] at hst
  obtain ⟨g1, g2⟩ := G.blt hx
  refine PE.imp (pe_callB cr g1 g2 hv ha hn hdb (star_one hst.1 X.env es) (nostar X.env pos hst.2)) fun σ H Q t => tA_map (fun us H1 q => ?_) (md_args t)
  obtain ⟨Y, F, ρ, h, vs, S, r, q⟩ := q
  exact ⟨Y, F, ρ, h, σ, vs, S, r, q⟩
theorem sBF {x : Str} {id : String} {b : B} {e : Expr} {es : List Expr} {p pos : Pos} {eas : E} (G : Gd T Ds wf k ca N X sc W) (cr : CallR X (.builtin id) (rClF X.K ca W (bltV b))) (hx : bltB T sc x = true) (hv : bootBuiltins x = some (.builtin id))
    (hst : (e :: es).all (fun e => !starB e) = true) (ha : PA X (e :: es) (tA X.K ca W (evs C eas))) (hn : x ≠ "__name__") (hdb : (x == ("__debug__" : Str)) = false) : PE X (.Call (.Name x p) (e :: es) [] pos) (tF X.K ca W (ev C (.blt b eas))) := by
  simp only [List.all_cons, Bool.and_eq_true, Bool.not_eq_true'] at hst
  obtain ⟨g1, g2⟩ := G.blt hx
  refine PE.imp (pe_callB cr g1 g2 hv ha hn hdb (star_one hst.1 X.env es) (nostar X.env pos hst.2)) fun σ H Q t => tA_map (fun us H1 q => ?_) (md_argsF t)
  obtain ⟨Y, F, ρ, h, vs, S, r, q⟩ := q
  exact ⟨Y, F, ρ, h, σ, vs, S, r, q⟩
theorem sT {x : Str} {id : String} {b : B} {e : Expr} {es : List Expr} {p pos : Pos} {eas : E} (G : Gd T Ds wf k ca N X sc W) (cr : CallR X (.type id) (rCl X.K ca W (bltV b))) (hx : bltB T sc x = true) (hv : bootBuiltins x = some (.type id))
    (hst : (e :: es).all (fun e => !starB e) = true) (ha : PA X (e :: es) (tA X.K ca W (evs C eas))) (hn : x ≠ "__name__") (hdb : (x == ("__debug__" : Str)) = false) : PE X (.Call (.Name x p) (e :: es) [] pos) (tE X.K ca W (ev C (.blt b eas))) := by
  simp only [List.all_cons, Bool.and_eq_true, Bool.not_eq_true'] at hst
  obtain ⟨g1, g2⟩ := G.blt hx
  refine PE.imp (pe_callTy cr g1 g2 hv ha hn hdb (star_one hst.1 X.env es) (nostar X.env pos hst.2)) fun σ H Q t => tA_map (fun us H1 q => ?_) (md_args t)
  obtain ⟨Y, F, ρ, h, vs, S, r, q⟩ := q
  exact ⟨Y, F, ρ, h, σ, vs, S, r, q⟩
theorem sTF {x : Str} {id : String} {b : B} {e : Expr} {es : List Expr} {p pos : Pos} {eas : E} (G : Gd T Ds wf k ca N X sc W) (cr : CallR X (.type id) (rClF X.K ca W (bltV b))) (hx : bltB T sc x = true) (hv : bootBuiltins x = some (.type id))
    (hst : (e :: es).all (fun e => !starB e) = true) (ha : PA X (e :: es) (tA X.K ca W (evs C eas))) (hn : x ≠ "__name__") (hdb : (x == ("__debug__" : Str)) = false) : PE X (.Call (.Name x p) (e :: es) [] pos) (tF X.K ca W (ev C (.blt b eas))) := by
  simp only [List.all_cons, Bool.and_eq_true, Bool.not_eq_true'] at hst
  obtain ⟨g1, g2⟩ := G.blt hx
  refine PE.imp (pe_callTy cr g1 g2 hv ha hn hdb (star_one hst.1 X.env es) (nostar X.env pos hst.2)) fun σ H Q t => tA_map (fun us H1 q => ?_) (md_argsF t)
  obtain ⟨Y, F, ρ, h, vs, S, r, q⟩ := q
  exact ⟨Y, F, ρ, h, σ, vs, S, r, q⟩
theorem s_len {e : Expr} {p pos : Pos} {ea : E} (G : Gd T Ds wf k ca N X sc W) (hx : bltB T sc "len" = true) (hst : starB e = false) (ha : PE X e (tE X.K ca W (ev C ea))) : PE X (.Call (.Name "len" p) [e] [] pos) (tE X.K ca W (ev C (.len ea))) := by
  obtain ⟨g1, g2⟩ := G.blt hx
  have st := star_one hst X.env []
  refine PE.imp (pe_callB (len_Z (ca := ca) (W := W)) g1 g2 PySem.boot_len (pa_cons ha pa_nil st) (by decide) (by decide) st rfl) fun σ H Q t => ?_
  exact tE_map (fun u H1 q => ⟨u, rfl, q⟩) (md_one t)
theorem s_isi {e : Expr} {t : Ty} {y : Str} {p p2 pos : Pos} {ea : E} (G : Gd T Ds wf k ca N X sc W) (hx : bltB T sc "isinstance" = true) (hy : bltB T sc y = true) (ht : trTy y = some t) (hst : starB e = false) (ha : PE X e (tE X.K ca W (ev C ea))) :
    PE X (.Call (.Name "isinstance" p) [e, .Name y p2] [] pos) (tE X.K ca W (ev C (.isi t ea))) := by
  obtain ⟨g1, g2⟩ := G.blt hx
  obtain ⟨g3, g4⟩ := G.blt hy
  have key : y ≠ "__name__" ∧ (y == ("__debug__" : Str)) = false ∧ bootBuiltins y = some (.type (tyN t)) := by
    unfold trTy at ht
    repeat' split at ht
    all_goals first
      | (cases ht; done)
      | (rename_i q; cases ht; subst q; exact ⟨by decide, by decide, by decide +kernel⟩)
  have pt : PE X (.Name y p2) (tC (.ty (tyN t))) := pe_bltn g3 g4 key.2.2 rfl key.1 key.2.1
  have st := star_one hst X.env [.Name y p2]
  refine PE.imp (pe_callB (isi_Z (ca := ca) (W := W) (t := t)) g1 g2 boot_isinstance (pa_cons ha (pa_cons pt pa_nil rfl) st) (by decide) (by decide) st rfl) fun σ H Q q => ?_
  exact tE_map (fun u H1 q => ⟨u, rfl, q⟩) (md_one q)
theorem rangeD_rp {K : PySem.W.Frag} {F : Hp} (n : Int) : RpA K F (rgV 0 n) (rangeD n) := by
  unfold rgV rangeD
  rw [Int.sub_zero]
  generalize List.range n.toNat = l
  induction l with
  | nil => exact .nil
  | cons i l ih =>
    refine .cons ?_ ih
    show Rp K F (V.int (0 + (i : Int))) (.int (i : Int))
    rw [Int.zero_add]
    exact .int _
theorem s_lsrF {e : Expr} {p p2 pos pos2 : Pos} {ea : E} (G : Gd T Ds wf k ca N X sc W) (hx : bltB T sc "list" = true) (hy : bltB T sc "range" = true) (hst : starB e = false) (ha : PE X e (tE X.K ca W (ev C ea))) :
    PE X (.Call (.Name "list" p) [.Call (.Name "range" p2) [e] [] pos2] [] pos) (tF X.K ca W (ev C (.lsr ea))) := by
  obtain ⟨g1, g2⟩ := G.blt hx
  obtain ⟨g3, g4⟩ := G.blt hy
  refine PE.imp (pe_listRg G.calm g1 g2 (prg_1 g3 g4 ha (star_one hst X.env [])) rfl) fun σ H Q t => ?_
  obtain ⟨Y, F, ρ, h, s, S, E, a⟩ := t
  refine ⟨Y, F, ρ, h, s, S, E, ?_⟩
  replace a : AftF X.K ca W Y F ρ h.length σ Q (bnd (ev C ea s h) fun v h1 => lsrV v h1) := a
  cases e1 : ev C ea s h with
  | ex c h1 =>
    rw [e1] at a
    exact a
  | no =>
    rw [e1] at a
    exact a
  | ok v h1 =>
    rw [e1] at a
    replace a : AftF X.K ca W Y F ρ h.length σ Q (lsrV v h1) := a
    intro u F1 ρ1 H1 x1 S1 r1
    unfold lsrV at a
    split at a
    · rename_i n
      split at a
      · rename_i c
        simp only [Bool.and_eq_true, decide_eq_true_eq] at c
        cases r1
        exact ⟨n, rfl, RgOk.of_le (by omega) c.2 (by omega) c.1, fun q hq => fin_loose S1 (AftF.mono x1 a) hq (rangeD_rp n)⟩
      · exact a.elim
    · exact a.elim
theorem lsr_list {ea : E} (s : Env) (h : Hep) (v : Vl) (h' : Hep) (e : ev C (.lsr ea) s h = .ok v h') : ∃ xs, v = .d (.list xs) := by
  replace e : (bnd (ev C ea s h) fun v h1 => lsrV v h1) = .ok v h' := e
  cases q : ev C ea s h with
  | ex c h1 =>
    rw [q] at e
    cases e
  | no =>
    rw [q] at e
    cases e
  | ok u h1 =>
    rw [q] at e
    replace e : lsrV u h1 = .ok v h' := e
    unfold lsrV at e
    split at e
    · split at e
      · cases e
        exact ⟨_, rfl⟩
      · cases e
    · cases e
theorem s_lrvF {e : Expr} {p p2 pos pos2 : Pos} {ea : E} (G : Gd T Ds wf k ca N X sc W) (hx : bltB T sc "list" = true) (hy : bltB T sc "reversed" = true) (hst : starB e = false) (ha : PE X e (tE X.K ca W (ev C ea))) :
    PE X (.Call (.Name "list" p) [.Call (.Name "reversed" p2) [e] [] pos2] [] pos) (tF X.K ca W (ev C (.lrv ea))) := by
  obtain ⟨g1, g2⟩ := G.blt hx
  obtain ⟨g3, g4⟩ := G.blt hy
  refine PE.imp (ZRv.pe_lstRev G.calm g1 g2 g3 g4 ha (star_one hst X.env []) rfl) fun σ H Q t => ?_
  obtain ⟨Y, F, ρ, h, s, S, E, a⟩ := t
  refine ⟨Y, F, ρ, h, s, S, E, ?_⟩
  replace a : AftF X.K ca W Y F ρ h.length σ Q (bnd (ev C ea s h) fun v h1 => lrvV v h1) := a
  cases e1 : ev C ea s h with
  | ex c h1 =>
    rw [e1] at a
    exact a
  | no =>
    rw [e1] at a
    exact a
  | ok v h1 =>
    rw [e1] at a
    replace a : AftF X.K ca W Y F ρ h.length σ Q (lrvV v h1) := a
    intro u F1 ρ1 H1 x1 S1 r1
    unfold lrvV at a
    split at a
    · rename_i xs
      cases r1 with
      | tup sq rs => exact ⟨_, _, rfl, sqT_mono S1.sub sq.sq, fun q hq => fin_loose S1 (AftF.mono x1 a) hq (dpA_rev rs)⟩
    · exact a.elim
theorem lrv_list {ea : E} (s : Env) (h : Hep) (v : Vl) (h' : Hep) (e : ev C (.lrv ea) s h = .ok v h') : ∃ xs, v = .d (.list xs) := by
  replace e : (bnd (ev C ea s h) fun v h1 => lrvV v h1) = .ok v h' := e
  cases q : ev C ea s h with
  | ex c h1 =>
    rw [q] at e
    cases e
  | no =>
    rw [q] at e
    cases e
  | ok u h1 =>
    rw [q] at e
    replace e : lrvV u h1 = .ok v h' := e
    unfold lrvV at e
    split at e
    · cases e
      exact ⟨_, rfl⟩
    · cases e
theorem lc_list {tg : Tg} {it c e : E} {ow : List Nat} (s : Env) (h : Hep) (v : Vl) (h' : Hep) (q : ev C (.lc tg it c e ow) s h = .ok v h') : ∃ xs, v = .d (.list xs) := by
  replace q : (bnd (evi C it s h) fun xs h1 => if szOk xs.length then bnd (compL (lcStep (ev C c) (ev C e) tg (Z.wipe s ow)) xs h1) fun ys h2 => .ok (.d (.list ys)) h2 else .no) = .ok v h' := q
  cases q1 : evi C it s h with
  | ex c h1 =>
    rw [q1] at q
    cases q
  | no =>
    rw [q1] at q
    cases q
  | ok xs h1 =>
    rw [q1] at q
    replace q : (if szOk xs.length then bnd (compL (lcStep (ev C c) (ev C e) tg (Z.wipe s ow)) xs h1) fun ys h2 => .ok (.d (.list ys)) h2 else .no) = .ok v h' := q
    split at q
    · cases q2 : compL (lcStep (ev C c) (ev C e) tg (Z.wipe s ow)) xs h1 with
      | ex c h2 =>
        rw [q2] at q
        cases q
      | no =>
        rw [q2] at q
        cases q
      | ok ys h2 =>
        rw [q2] at q
        cases q
        exact ⟨_, rfl⟩
    · cases q
theorem lw_list {tg : Tg} {i : Nat} {c e : E} {ow : List Nat} (s : Env) (h : Hep) (v : Vl) (h' : Hep) (q : ev C (.lw tg i c e ow) s h = .ok v h') : ∃ xs, v = .d (.list xs) := by
  replace q : lwR i (ev C c) (ev C e) tg ow s h = .ok v h' := q
  unfold lwR at q
  split at q
  · rename_i n _
    split at q
    · rename_i xs _
      split at q
      · cases q2 : compW n (lcStep (ev C c) (ev C e) tg (Z.wipe s ow)) (xs.length + 1) 0 h with
        | ex c h2 =>
          rw [q2] at q
          cases q
        | no =>
          rw [q2] at q
          cases q
        | ok ys h2 =>
          rw [q2] at q
          cases q
          exact ⟨_, rfl⟩
      · cases q
    · cases q
  · cases q
end
end Z

set_option linter.all false
set_option autoImplicit false
set_option maxRecDepth 100000
/-! ZSet: len(set(..)) of texts in a tuple, of ints in a list. -/
namespace Z
open PySem L2 PySem.Spec PyProof.Rows
/-- each text once -/
def addS (a : List Str) (x : Str) : List Str := if a.any (· == x) then a else a ++ [x]
def metS (ws : List Str) (i : Nat) : List Str := (ws.take i).foldl addS []
theorem addS_any (a : List Str) (x y : Str) : (addS a x).any (· == y) = (a.any (· == y) || decide (y = x)) := by
  unfold addS
  split
  · rename_i c
    by_cases e : y = x
    · subst e
      rw [c]
      rfl
    · simp [e]
  · rw [List.any_append]
    by_cases e : y = x
    · subst e
      simp
    · have z : (x == y) = false := beq_false_of_ne (Ne.symm e)
      simp [z, e]
theorem addS_len (a : List Str) (x : Str) : (addS a x).length = if a.any (· == x) then a.length else a.length + 1 := by
  unfold addS
  split <;> simp
theorem metS_succ {ws : List Str} {i : Nat} (h : i < ws.length) : metS ws (i + 1) = addS (metS ws i) (ws.getD i Str.empty) := by
  have e : ws.getD i Str.empty = ws[i] := by
    rw [List.getD_eq_getElem?_getD, List.getElem?_eq_getElem h]
    rfl
  unfold metS
  rw [List.take_succ_eq_append_getElem h, List.foldl_append, e]
  rfl
theorem metS_le (ws : List Str) : ∀ i, (metS ws i).length ≤ i
  | 0 => by simp [metS]
  | i + 1 => by
    by_cases h : i < ws.length
    · rw [metS_succ h, addS_len]
      have := metS_le ws i
      split <;> omega
    · have e : metS ws (i + 1) = metS ws i := by
        unfold metS
        rw [List.take_of_length_le (by omega), List.take_of_length_le (by omega)]
      rw [e]
      have := metS_le ws i
      omega
section
variable {pg : Program} {wd : World} {Ar : Around} {Rz : Result → Shared → Prop} {It : Addr} {fp wr : List Addr} {Gr : Array GenState → Array GenState → Prop} {cnt : Nat} {Pv : Nat → Value → Prop} {Sv : Nat → Shared → Prop}
theorem loopW (Wk : WalksS pg wd Ar.in1 It fp wr Gr cnt Pv Sv) (za : Addr) (zf : za ∉ fp) (ws : List Str) (wl : ws.length = cnt) (wb : cnt + 1 < scanBound) (wv : ∀ i v, Pv i v → ∃ t, v = .str (ws.getD i Str.empty) t) :
    ∀ (d i : Nat) (sh : Shared), cnt - i = d → i ≤ cnt → Sv i sh → sh.heap.SetOf (PySem.strKind pg wd) za (fun y => (metS ws i).any (· == y)) (metS ws i).length →
      (∀ sh2, Moved (za :: wr) Gr sh sh2 → sh2.heap.SetOf (PySem.strKind pg wd) za (fun y => (metS ws cnt).any (· == y)) (metS ws cnt).length → Rz (.ok (.ret .none)) sh2) →
      codeAny (model pg wd) Ar (.builtin "set.update.loop" ⟨[.ref za, .ref It], []⟩) Rz sh := by
  have zw : za ∉ wr := fun q => zf (Wk.sub _ q)
  have up : ∀ a ∈ wr, a ∈ za :: wr := fun a q => List.mem_cons_of_mem _ q
  intro d
  induction d with
  | zero =>
    intro i sh e1 e2 sv so fin
    obtain rfl : i = cnt := by omega
    refine codeAny_builtin PyProof.Rows.F.entry_set_update_loop ?_
    rw [Around.under_plainId PyProof.Rows.F.plain_set_update_loop _]
    show wpAny _ Ar.in1 (pyNext (.ref It) >>= _) _ _ sh
    refine wpAny_bind (Wk.done sh _ _ sv fun sh2 mv => ?_)
    show wpAny _ Ar.in1 (ret Value.none) _ _ sh2
    refine wpAny_pure (fin sh2 (mv.mono up) ?_)
    obtain ⟨ob, q1, q2, q3, q4, q5⟩ := so
    exact ⟨ob, q1, q2, q3, mv.heap za _ zw q4, q5⟩
  | succ d ih =>
    intro i sh e1 e2 sv so fin
    have lt : i < cnt := by omega
    refine codeAny_builtin PyProof.Rows.F.entry_set_update_loop ?_
    rw [Around.under_plainId PyProof.Rows.F.plain_set_update_loop _]
    show wpAny _ Ar.in1 (pyNext (.ref It) >>= _) _ _ sh
    refine wpAny_bind (Wk.item i sh _ _ lt sv fun v sh2 pv sv2 mv => ?_)
    obtain ⟨tk, rfl⟩ := wv i v pv
    have so2 : sh2.heap.SetOf (PySem.strKind pg wd) za (fun y => (metS ws i).any (· == y)) (metS ws i).length := by
      obtain ⟨ob, q1, q2, q3, q4, q5⟩ := so
      exact ⟨ob, q1, q2, q3, mv.heap za _ zw q4, q5⟩
    show wpAny _ Ar.in1 (holding [Value.str (ws.getD i Str.empty) tk] (setAdd za (.str (ws.getD i Str.empty) tk)) >>= _) _ _ sh2
    refine wpAny_bind (wpAny_holding ?_)
    unfold setAdd
    refine wpAny_holding (wpAny_bind ((PySem.strKind pg wd).pyHash (k := ws.getD i Str.empty) (strKind_is _ _ _ _) ?_))
    have le := metS_le ws i
    refine wpAny_setAddHashed_of (knd := PySem.strKind pg wd) (s := { sh2 with toks := sh2.toks + 1 }) (strKind_is _ _ _ _) rfl so2 (by omega) fun hp2 sbt so3 => ?_
    have so4 : hp2.SetOf (PySem.strKind pg wd) za (fun y => (metS ws (i + 1)).any (· == y)) (metS ws (i + 1)).length :=
      SetOf_congr so3 (fun y => by rw [metS_succ (by omega), addS_any]) (by rw [metS_succ (by omega), addS_len])
    refine wpAny_pure ⟨plainId_quiet PyProof.Rows.F.plain_set_update_loop _, ih (i + 1) _ (by omega) lt (Wk.frame _ sh2 _ _ sv2 (Nat.le_succ _) fun a q o e => ?_) so4 fun sh3 mv3 so5 => ?_⟩
    · rw [sbt.2 a fun z : a = za => zf (z ▸ q)]
      exact e
    · refine fin sh3 (Moved.trans Wk.gtrans ((mv.mono up).then_heap (Nat.le_succ _) fun a o q e => ?_) mv3) so5
      rw [sbt.2 a fun z : a = za => q (z ▸ List.mem_cons_self)]
      exact e
end
/-- a new empty set -/
abbrev mtS (fl : Bool) : Obj := { cls := .type "set", dict := none, data := .set #[] 0 (.fresh 0 0 fl) }
section
variable {pg : Program} {wd : World} {Ar : Around} {Ex : Value → Shared → Prop} {sh : Shared}
set_option maxHeartbeats 3200000 in
theorem set_ofT {tp : Addr} {arr : Array Value} {ws : List Str} {Qz : Value → Shared → Prop} (noh : Ar.handled = none) (ist : sh.heap.IsTuple tp arr) (are : PyProof.Rows.StrsAre arr.toList ws) (few : ws.length + 1 < scanBound)
    (goal : ∀ (hp2 : Heap) (tq : Nat), hp2.SetOf (PySem.strKind pg wd) sh.heap.objs.size (fun y => (metS ws arr.size).any (· == y)) (metS ws arr.size).length →
      (∀ a o, a < sh.heap.objs.size → sh.heap.get? a = some o → hp2.get? a = some o) → Qz (.ref sh.heap.objs.size) { sh with heap := hp2, toks := tq }) :
    wpAny (model pg wd) Ar (PySem.call (.type "set") [.ref tp]) Qz Ex sh := by
  obtain ⟨m1, m2, m3⟩ := PySem.F.called_set.mro
  have m4 := PySem.F.called_set.made
  have m5 := PySem.F.called_set.sub
  refine wpAny_call (codeAny_of_tree ?_); show wpAny _ _ (callAny (.type "set") _) _ _ _
  have qt := Code.quiet_builtin (id := "type.__call__") ⟨[.type "set", .ref tp], []⟩ (by decide +kernel)
  refine wpAny_pure ⟨qt, codeAny_builtin PySem.F.entry_type_call ?_⟩
  rw [Around.under_plain (weight_type_call_type "set" [.ref tp] []) rfl]
  have m6 := PySem.F.called_set.notType
  have m7 := PySem.F.called_set.canCreate
  have m8 := PySem.F.typeCall_set_1 (.ref tp)
  repeat' (first | assumption | wp_step)
  refine codeAny_mono (code_set_new_1 (.ref tp) (E := Ex) (Q₁ := fun ob s1 => ∃ fl : Bool, ob = .ref sh.heap.objs.size ∧ s1 = { sh with heap := sh.heap.push (mtS fl) }) fun fl => ⟨fl, rfl, rfl⟩) fun rr s1 hr => ?_
  cases rr with
  | error e => exact hr
  | ok flw =>
    cases flw with
    | ret ob =>
      obtain ⟨fl, rfl, rfl⟩ := hr
      have at0 : (sh.heap.push (mtS fl)).get? sh.heap.objs.size = some (mtS fl) := Heap.get?_push_size _ rfl
      have ty0 : Shared.TypeIs { sh with heap := sh.heap.push (mtS fl) } (.ref sh.heap.objs.size) "set" := ⟨_, at0, rfl⟩
      have n1 := PySem.F.called_set.init.lookup
      have n2 := PySem.F.called_set.init.bind (.ref sh.heap.objs.size)
      repeat' (first | assumption | wp_step)
      refine codeAny_mono (codeAny_call_builtin (R := wants (fun r s2 => r = .none ∧ ∃ hp2 tq, s2 = { sh with heap := hp2, toks := tq } ∧ hp2.SetOf (PySem.strKind pg wd) sh.heap.objs.size (fun y => (metS ws arr.size).any (· == y)) (metS ws arr.size).length ∧
          (∀ a o, a < sh.heap.objs.size → sh.heap.get? a = some o → hp2.get? a = some o)) Ex) PySem.F.called_set.init.plain PySem.F.entry_set_init (check_set_init_1 ty0 ?_)) fun r2 s2 hr2 => ?_
      · obtain ⟨ot, o1, o2, on, o3⟩ := ist
        obtain ⟨oc, od, oda, os⟩ := ot
        dsimp only at o2 o3
        subst o2
        subst o3
        have o4 : (sh.heap.push (mtS fl)).get? tp = some { cls := .type "tuple", dict := od, data := .seq arr on, slots := os } := Heap.get?_push_of_some _ o1
        have k1 := PySem.F.sub_tuple_set
        have k2 := PySem.F.sub_tuple_frozenset
        have k3 : (Value.type "tuple" == Value.type "dict") = false := by decide
        have o5 : (sh.heap.push (mtS fl)).IsTuple tp arr := ⟨_, o4, rfl, on, rfl⟩
        unfold Builtin.«set.__init__» Builtin.Frozenset.updateFrom noKeywords
        generalize eP : pyIter = PI
        wp_walk
        subst eP
        refine wpAny_pyIter_tuple o5 (wpAny_bind (wpAny_runValue ?_))
        have lt0 : tp < sh.heap.objs.size := Heap.lt_size o1
        have hh : Ar.in1.in1.in1.handled = none := by simp [noh]
        have ne0 : tp ≠ (sh.heap.push (mtS fl)).objs.size := by
          rw [Heap.size_push]
          exact Nat.ne_of_lt (Nat.lt_trans lt0 (Nat.lt_succ_self _))
        have nf0 : sh.heap.objs.size ∉ [(sh.heap.push (mtS fl)).objs.size, tp] := by
          rw [Heap.size_push]
          simp only [List.mem_cons, List.not_mem_nil, or_false, not_or]
          exact ⟨Nat.ne_of_lt (Nat.lt_succ_self _), fun z => absurd (z ▸ lt0) (Nat.lt_irrefl _)⟩
        have wl : ws.length = arr.size := by rw [← StrsAre.len_eq are, Array.length_toList]
        refine loopW ((Walks.tuple hh _ tp ne0 arr).toS) sh.heap.objs.size nf0 ws wl (by omega) (fun i v q => SS.strs_at are i v (by rw [Array.getElem?_toList]; exact q)) (arr.size - 0) 0 _ (by omega) (Nat.zero_le _) ⟨⟨_, Heap.get?_push_size _ rfl, rfl, rfl⟩, (o5.push _)⟩ ?hA ?hB
        case hA =>
          have at1 : ((sh.heap.push (mtS fl)).push { cls := .type "tuple_iterator", data := .fields #[.ref tp, .int 0 0] }).get? sh.heap.objs.size = some (mtS fl) := Heap.get?_push_of_some _ at0
          exact PyProof.Rows.SetOf_congr ((PyProof.Rows.setObjOf_fresh (knd := PySem.strKind pg wd) fl).setOf at1 (by unfold scanBound; omega)) (fun _ => rfl) rfl
        case hB =>
          intro s3 mv so3
          obtain ⟨hp3, g3, d3, t3, p3⟩ := s3
          obtain rfl : g3 = sh.gens := mv.gens
          obtain rfl : d3 = sh.drawn := mv.drawn
          obtain rfl : p3 = sh.os := mv.os
          show wpAny _ _ _ _ _ _
          refine wpAny_pure (?_ : wpAny _ _ (ret Value.none) _ _ _)
          refine wpAny_pure ⟨rfl, hp3, t3, rfl, so3, fun a o q e => ?_⟩
          refine mv.heap a o ?_ (Heap.get?_push_of_some _ (Heap.get?_push_of_some _ e))
          rw [Heap.size_push]
          simp only [List.mem_cons, List.not_mem_nil, or_false, not_or]
          exact ⟨Nat.ne_of_lt q, Nat.ne_of_lt (Nat.lt_trans q (Nat.lt_succ_self _))⟩
      · cases r2 with
        | error e => exact hr2
        | ok fl2 =>
          cases fl2 with
          | ret r =>
            obtain ⟨rfl, hp2, tq, rfl, so2, keep2⟩ := hr2
            repeat' (first | assumption | wp_step)
            exact goal _ _ so2 keep2
          | _ => exact hr2.elim
    | _ => exact hr.elim
end
end Z

set_option linter.all false
set_option autoImplicit false
set_option maxRecDepth 100000
set_option maxHeartbeats 2000000
/-! ZL: len(set(..)). -/
namespace Z
open PySem L2 PySem.Spec PyProof.Rows
variable [TC : TabsC]
theorem metS_all (ws : List Str) : metS ws ws.length = ded ws := by
  unfold metS ded
  rw [List.take_length]
  rfl
theorem met_all (ns : List Int) : firstMet (fun i => ns.getD i 0) ns.length = ded ns := by
  have key : ∀ i, i ≤ ns.length → firstMet (fun i => ns.getD i 0) i = ded (ns.take i) := by
    intro i
    induction i with
    | zero => exact fun _ => rfl
    | succ i ih =>
      intro hi
      have hlt : i < ns.length := hi
      have e : ns.getD i 0 = ns[i] := by
        rw [List.getD_eq_getElem?_getD, List.getElem?_eq_getElem hlt]
        rfl
      rw [firstMet_succ, ih (Nat.le_of_lt hlt), List.take_succ_eq_append_getElem hlt, e]
      unfold ded
      rw [List.foldl_append]
      rfl
  rw [key _ (Nat.le_refl _), List.take_length]
theorem ded_le {α : Type} [BEq α] (xs : List α) : (ded xs).length ≤ xs.length := by
  have key : ∀ (l a : List α), (l.foldl (fun a x => if a.any (· == x) then a else a ++ [x]) a).length ≤ a.length + l.length := by
    intro l
    induction l with
    | nil => exact fun a => Nat.le_refl _
    | cons x l ih =>
      intro a
      have := ih (if a.any (· == x) then a else a ++ [x])
      refine Nat.le_trans this ?_
      split
      · simp
      · simp
        omega
  have := key xs []
  simpa [ded] using this
theorem dpA_strs {K : PySem.W.Frag} {F : Hp} : ∀ {ds : List D} {vs : List V} {ws : List Str}, RpA K F vs ds → strL ds = some ws → vs = ws.map V.str
  | [], _, ws, .nil, e => by
    have e' : [] = ws := Option.some.inj e
    subst e'
    rfl
  | .str x :: ds, _ :: vs, ws, .cons d t, e => by
    obtain ⟨ws', e1, e2⟩ := Option.map_eq_some_iff.mp (show (strL ds).map (x :: ·) = some ws from e)
    subst e2
    cases d
    rw [dpA_strs t e1]
    rfl
  | .none :: ds, _, ns, _, e => by cases e
  | .bool _ :: ds, _, ns, _, e => by cases e
  | .int _ :: ds, _, ns, _, e => by cases e
  | .list _ :: ds, _, ns, _, e => by cases e
  | .tuple _ :: ds, _, ns, _, e => by cases e
  | .dict _ :: ds, _, ns, _, e => by cases e
section
variable {T : Tab} {Ds : List Dfn} {wf k : Nat} {ca : Nat → Addr} {N : List Str} {X : Cx} {sc : Scope} {W : WX} {C : Cfg}
def tLens (K : PySem.W.Frag) (ta : TE) : TE := fun σ H Q => ta σ H fun x H1 => (∃ (l : Addr) (ns : List Int), x = .ref l ∧ SqL K H1 l (ns.map V.int) ∧ ns.length ≤ 4000 ∧ Q (.int (ded ns).length) H1) ∨ ∃ (l : Addr) (ws : List Str), x = .ref l ∧ SqT K H1 l (ws.map V.str) ∧ ws.length ≤ 4000 ∧ Q (.int (ded ws).length) H1
theorem pe_lens {a : Expr} {ta : TE} {p p2 q pos : Pos} (hc : X.calm = true) (gl : Gl X "len") (gm : X.mg "len" = none) (gs : Gl X "set") (gn : X.mg "set" = none) (pa : PE X a ta) (na : starEach [a] X.env = (false, eval a X.env) :: starEach [] X.env) :
    PE X (.Call (.Name "len" p) [.Call (.Name "set" p2) [a] [] q] [] pos) (tLens X.K ta) := by
  refine ⟨fun pins s σ H Q I t => Call_ (ld_blt I gl gm PySem.boot_len (PyProof.Rows.callWith_builtin1 (PyProof.Rows.args_cons (Call_ (ld_blt I gs gn PyProof.Rows.boot_set ?_)) rfl) rfl rfl))⟩
  refine PyProof.Rows.callWith_type1 (PyProof.Rows.args_cons (thn (pa.run pins s σ H _ I t) fun v s1 ⟨x, H1, I1, r1, q1⟩ => PyProof.Rows.args_nil ?_) na) na rfl
  rcases q1 with ⟨l, ns, rfl, hq, hl, q1⟩ | ⟨l, ws, rfl, hq, hl, q1⟩
  · cases r1
    obtain ⟨its, r, pl, hz⟩ := I1.list hq
    have hn : its.toArray.size = ns.length := by rw [List.size_toArray, ← r.length, List.length_map]
    refine call_set_list (I1.ok.hd hc) pl.isList (ns := ns) (by simpa using r.ints) (by rw [hn]; unfold scanBound; omega) fun h2 tk so kp => ?_
    rw [hn, met_all] at so
    refine PyProof.Rows.args_nil ?_
    obtain ⟨o, es, ep, tt, ho, hex, hd, _, _, _, hf, hm⟩ := so
    have le := ded_le ns
    have I2 : Inv X pins σ H1 { s1 with heap := h2, toks := tk } := I1.kept fun b o e => kp b o (Heap.lt_size e) e
    exact call_len_set ho hex hd hf (by rw [hm]; omega) ⟨.int (ded ns).length, H1, I2.tok _, ⟨_, by rw [hm]⟩, q1⟩
  · cases r1
    obtain ⟨its, r, pl, hz⟩ := I1.tuple hq
    have hn : its.toArray.size = ws.length := by rw [List.size_toArray, ← r.length, List.length_map]
    refine set_ofT (I1.ok.hd hc) pl (ws := ws) (by simpa using strsAre_of r) (by unfold scanBound; omega) fun h2 tk so kp => ?_
    rw [hn, metS_all] at so
    refine PyProof.Rows.args_nil ?_
    obtain ⟨o, es, ep, tt, ho, hex, hd, _, _, _, hf, hm⟩ := so
    have le := ded_le ws
    have I2 : Inv X pins σ H1 { s1 with heap := h2, toks := tk } := I1.kept fun b o e => kp b o (Heap.lt_size e) e
    exact call_len_set ho hex hd hf (by rw [hm]; omega) ⟨.int (ded ws).length, H1, I2.tok _, ⟨_, by rw [hm]⟩, q1⟩
theorem s_lens {e : Expr} {p p2 pos pos2 : Pos} {ea : E} (G : Gd T Ds wf k ca N X sc W) (hx : bltB T sc "len" = true) (hy : bltB T sc "set" = true) (hst : starB e = false) (ha : PE X e (tE X.K ca W (ev C ea))) :
    PE X (.Call (.Name "len" p) [.Call (.Name "set" p2) [e] [] pos2] [] pos) (tE X.K ca W (ev C (.blt .lens (.cons ea .nil)))) := by
  obtain ⟨g1, g2⟩ := G.blt hx
  obtain ⟨g3, g4⟩ := G.blt hy
  refine PE.imp (pe_lens G.calm g1 g2 g3 g4 ha (star_one hst X.env [])) fun σ H Q t => ?_
  obtain ⟨Y, F, ρ, h, s, S, E, a⟩ := t
  refine ⟨Y, F, ρ, h, s, S, E, ?_⟩
  replace a : Aft X.K ca W Y F ρ h.length σ Q (bnd (bnd (ev C ea s h) fun v h1 => .ok [v] h1) fun vs h1 => bltV .lens vs h1) := a
  cases e1 : ev C ea s h with
  | ex c h1 =>
    rw [e1] at a
    exact a
  | no =>
    rw [e1] at a
    exact a
  | ok v h1 =>
    rw [e1] at a
    replace a : Aft X.K ca W Y F ρ h.length σ Q (bltV .lens [v] h1) := a
    intro u F1 ρ1 H1 x1 S1 r1
    rw [blt_eq (b := .lens) (by intro z; cases z)] at a
    unfold bltS at a
    cases ep : peek h1 v with
    | none =>
      have ea : peekAll h1 [v] = none := by
        show (match peek h1 v, peekAll h1 [] with
          | some x, some xs => some (x :: xs)
          | _, _ => none) = none
        rw [ep]
      rw [ea] at a
      exact a.elim
    | some d =>
      have ea : peekAll h1 [v] = some [d] := by
        show (match peek h1 v, peekAll h1 [] with
          | some x, some xs => some (x :: xs)
          | _, _ => none) = some [d]
        rw [ep]
        rfl
      rw [ea] at a
      replace a : Aft X.K ca W Y F ρ h.length σ Q (opt h1 ((bLens [d]).map .d)) := a
      cases d with
      | list xs =>
        obtain ⟨l, vs, rfl, e2, d2⟩ := peek_list S1 r1 ep
        cases ei : intL xs with
        | none =>
          rw [show bLens [.list xs] = none by unfold bLens; dsimp only; rw [ei]] at a
          exact a.elim
        | some ns =>
          rw [show bLens [.list xs] = (if decide (ns.length ≤ 4000) then some (.int (ded ns).length) else none) by unfold bLens; dsimp only; rw [ei]] at a
          split at a
          · rename_i hz
            obtain ⟨e3, _⟩ := dpA_ints d2 ei
            exact .inl ⟨l, ns, rfl, by rw [← e3]; exact SqL.of e2, of_decide_eq_true hz, fin_d S1 (Aft.mono x1 a) (.int _)⟩
          · exact a.elim
      | tuple xs =>
        have ev : v = .d (.tuple xs) := peek_nl ep fun ys z => by cases z
        subst ev
        cases r1 with
        | tup k1 k2 =>
          cases ei : strL xs with
          | none =>
            rw [show bLens [.tuple xs] = none by unfold bLens; dsimp only; rw [ei]] at a
            exact a.elim
          | some ws =>
            rw [show bLens [.tuple xs] = (if decide (ws.length ≤ 4000) then some (.int (ded ws).length) else none) by unfold bLens; dsimp only; rw [ei]] at a
            split at a
            · rename_i hz
              have e3 := dpA_strs k2 ei
              exact .inr ⟨_, ws, rfl, by rw [← e3]; exact sqT_mono S1.sub k1.sq, of_decide_eq_true hz, fin_d S1 (Aft.mono x1 a) (.int _)⟩
            · exact a.elim
      | _ => exact a.elim
end
end Z

set_option linter.all false
set_option autoImplicit false
set_option maxRecDepth 100000
set_option maxHeartbeats 2000000
/-! ZM: methods of built-in types. -/
namespace Z
open PySem L2 PySem.Spec PyProof.Rows
variable [TC : TabsC]
section
variable {X : Cx}
/-- a method of a built-in type, its type found out when the value stands there -/
def MthR (X : Cx) (name : Str) (T id : String) (r : V → List V → Hp → VK → Prop) : Prop := PlainAttrs T ∧ Slot T name id ∧ typeOf (.builtin id) = pure (.type "method_descriptor") ∧ MtR X id r
def tMA (X : Cx) (name : Str) (to : TE) (t : TA) : TE := fun σ H Q => to σ H fun x H1 => ∃ T id r, MthR X name T id r ∧ tyV X.K T x H1 ∧ t σ H1 fun xs H2 => r x xs H2 Q
theorem base_plain {o : Expr} {name : Str} {env : PySem.Env} {w : Sem Value} (h : call0 o = false) : attributeBase o name env w = w := by
  cases o with
  | Call f as ks p =>
    cases f with
    | Name x q =>
      cases as with
      | nil =>
        cases ks with
        | nil => cases h
        | cons _ _ => rfl
      | cons _ _ => rfl
    | _ => rfl
  | _ => rfl
theorem pe_mA {o e : Expr} {name : Str} {apos cpos : Pos} {to : TE} {t : TA} (ho : PE X o to) (ha : PA X [e] t) (hb : call0 o = false) (hst : starB e = false) (hline : (apos.endLine == cpos.line) = true) : PE X (.Call (.Attribute o name apos) [e] [] cpos) (tMA X name to t) := by
  have hs := star_one hst X.env []
  refine ⟨fun pins s σ H Q I h => ?_⟩
  refine wpAny_Call_method_late (base_plain hb) (by rw [hs]; rfl) hline rfl (thn (ho.run pins s σ H _ I h) fun v s1 ⟨x, H1, I1, r1, T, id, r, ⟨pa, slot, hty, hm⟩, ty, q1⟩ => ?_)
  obtain ⟨h1, h2⟩ := tyV_is I1 r1 ty
  refine ⟨T, id, pa, slot, hty, h1, h2, ?_⟩
  have hA := ha.run cpos pins s1 σ H1 _ I1 q1
  rw [hs] at hA ⊢
  refine Calls.callWith_builtin rfl (Calls.evalArgs_plain ?_)
  exact thn hA fun us s2 ⟨vs, H2, I2, r2, q2⟩ => hm pins s2 σ H2 x vs v us Q I2 r1 r2 q2
/-! ### xs.count(text) -/
theorem eqs_count {z : Str} : ∀ {us : List Value} {ys : List Str}, Vals (ys.map V.str) us → us.countP (eqU (.str z)) = (ys.filter fun y => decide (y = z)).length
  | _, [], .nil => rfl
  | _, n :: ys, .cons r h => by
    obtain ⟨t', rfl⟩ := r
    have ih := eqs_count (z := z) h
    rw [List.countP_cons, ih, List.filter_cons]
    have e : eqU (.str z) (.str n t') = decide (n = z) := by
      show (n == z) = _
      by_cases c : n = z
      · rw [c]
        simp
      · rw [decide_eq_false c]
        exact beq_eq_false_iff_ne.mpr c
    rw [e]
    by_cases c : n = z
    · simp [c]
    · simp [c]
def rCntS (K : PySem.W.Frag) : V → List V → Hp → VK → Prop := fun x xs H Q => ∃ (p : Addr) (ys : List Str) (z : Str), x = .ref p ∧ xs = [.str z] ∧ SqL K H p (ys.map V.str) ∧ Q (.int ((ys.filter fun y => decide (y = z)).length : Nat)) H
theorem mt_scount : MtR X "list.count" (rCntS X.K) := by
  intro pins s σ H x xs v us Q I rx rxs h
  obtain ⟨p, ys, z, rfl, rfl, hs, q⟩ := h
  cases rx
  obtain ⟨u, rfl, ru⟩ := rxs.one
  obtain ⟨t, rfl⟩ := ru
  obtain ⟨its, rv, ⟨⟨cls, dd, data, sl⟩, n, ho, hc, hdn, hd⟩, hlen⟩ := I.list hs
  simp only at hc hd
  subst hc hd
  refine call_meets PySem.F.slot_list_count ⟨_, ho, rfl⟩ PySem.F.entry_list_count (PySem.F.args_list_count_2 _ _)
    (SeqAt.list_countAt p its.toArray n dd sl (.str z t) (eqU (.str z))) ⟨ho, fun w hw => mem_eqAt (x := .str z) ⟨t, rfl⟩ rfl rv (flat_strs ys) w (by simpa using hw), ?_⟩
  have ec : its.toArray.toList.countP (eqU (.str z)) = (ys.filter fun y => decide (y = z)).length := eqs_count rv
  refine ⟨.int ((ys.filter fun y => decide (y = z)).length : Nat), H, I.tok _, ⟨s.toks, ?_⟩, q⟩
  show Value.int ((its.toArray.toList.countP (eqU (.str z)) : Nat) : Int) s.toks = _
  rw [ec]
end
/-! ### the run -/
section
variable {T : Tab} {Ds : List Dfn} {wf k : Nat} {ca : Nat → Addr} {N : List Str} {X : Cx} {sc : Scope} {W : WX} {C : Cfg}
theorem trM_name {m : Str} {o : Mt} (e : trM m = some o) : (o = .index ∧ m = "index") ∨ (o = .count ∧ m = "count") ∨ (o = .split ∧ m = "split") ∨ (o = .join ∧ m = "join") := by
  unfold trM at e
  split at e
  · rename_i c
    cases e
    exact .inl ⟨rfl, c⟩
  · split at e
    · rename_i c
      cases e
      exact .inr (.inl ⟨rfl, c⟩)
    · split at e
      · rename_i c
        cases e
        exact .inr (.inr (.inl ⟨rfl, c⟩))
      · split at e
        · rename_i c
          cases e
          exact .inr (.inr (.inr ⟨rfl, c⟩))
        · cases e
/-- the arguments' data -/
theorem mthV_ok {K : PySem.W.Frag} {Y F : Hp} {ρ : Nat → Addr} {h : Hep} {n : Nat} {σ : L2.St} {Q : VK} {m : Mt} {x : D} {vs : List Vl} (a : Aft K ca W Y F ρ n σ Q (mthV m x vs h)) :
    ∃ xs z, Paired (fun v x => peek h v = some x) vs xs ∧ mthD m x xs = some z ∧ Aft K ca W Y F ρ n σ Q (.ok (.d z) h) := by
  unfold mthV at a
  split at a
  · rename_i xs q
    cases e : mthD m x xs with
    | none =>
      rw [e] at a
      exact a.elim
    | some z =>
      rw [e] at a
      exact ⟨xs, z, peekAll_ok q, e, a⟩
  · exact a.elim
theorem find_fst {α : Type} {p : α → Bool} {xs : List α} {j : Nat} (e : xs.findIdx? p = some j) : ∃ z, xs[j]? = some z ∧ p z = true ∧ ∀ m z', m < j → xs[m]? = some z' → p z' = false := by
  obtain ⟨h1, h2, h3⟩ := List.findIdx?_eq_some_iff_getElem.mp e
  refine ⟨xs[j], List.getElem?_eq_getElem h1, h2, fun m z' hm hz => ?_⟩
  obtain ⟨l, e2⟩ := List.getElem?_eq_some_iff.mp hz
  rw [← e2]
  simpa using h3 m hm
theorem s_mth {o b : Expr} {m : Str} {mt : Mt} {ap cp : Pos} {ea eas : E} (G : Gd T Ds wf k ca N X sc W) (hm : trM m = some mt) (hb : call0 o = false) (hst : starB b = false) (hl : (ap.endLine == cp.line) = true) (ho : PE X o (tE X.K ca W (ev C ea))) (ha : PA X [b] (tA X.K ca W (evs C eas))) :
    PE X (.Call (.Attribute o m ap) [b] [] cp) (tE X.K ca W (ev C (.mth mt ea eas))) := by
  refine PE.imp (pe_mA ho ha hb hst hl) fun σ H Q t => ?_
  obtain ⟨Y, F, ρ, h, s, S, E, a⟩ := t
  refine ⟨Y, F, ρ, h, s, S, E, ?_⟩
  replace a : Aft X.K ca W Y F ρ h.length σ Q (bnd (ev C ea s h) fun x h1 => match x with
    | .d x => if mTy mt x then bnd (evs C eas s h1) fun vs h2 => mthV mt x vs h2 else .no
    | _ => .no) := a
  cases e1 : ev C ea s h with
  | ex c h1 =>
    rw [e1] at a
    exact a
  | no =>
    rw [e1] at a
    exact a
  | ok v h1 =>
    rw [e1] at a
    cases v with
    | r n => exact a.elim
    | d x =>
      replace a : Aft X.K ca W Y F ρ h.length σ Q (if mTy mt x then bnd (evs C eas s h1) fun vs h2 => mthV mt x vs h2 else .no) := a
      split at a
      · rename_i ok
        intro u F1 ρ1 H1 x1 S1 r1
        -- what remains: the arguments, then the method's rule
        have go : ∀ T id r, MthR X m T id r → tyV X.K T u H1 → (∀ vs us h2 F2 ρ2 H2 xs z, Ext F ρ h.length F2 ρ2 h2.length → Sim X.K Y F2 ρ2 h2 H2 → RVs X.K F2 ρ2 h2.length vs us → Rp X.K F2 u x → Paired (fun v x => peek h2 v = some x) vs xs → mthD mt x xs = some z → Aft X.K ca W Y F2 ρ2 h2.length σ Q (.ok (.d z) h2) → r u us H2 Q) →
            ∃ T id r, MthR X m T id r ∧ tyV X.K T u H1 ∧ tA X.K ca W (evs C eas) σ H1 fun xs H2 => r u xs H2 Q := fun T id r mr ty fin => ⟨T, id, r, mr, ty, Y, F1, ρ1, h1, s, S1, E.mono x1, by
          cases e2 : evs C eas s h1 with
          | ex c h2 =>
            rw [e2] at a
            exact fun F' ρ' H' x2 S2 => a F' ρ' H' (x1.trans x2) S2
          | no =>
            rw [e2] at a
            exact a
          | ok vs h2 =>
            rw [e2] at a
            intro us F2 ρ2 H2 x2 S2 r2
            obtain ⟨xs, z, p, e, a2⟩ := mthV_ok (show Aft X.K ca W Y F ρ h.length σ Q (mthV mt x vs h2) from a)
            exact fin vs us h2 F2 ρ2 H2 xs z (x1.trans x2) S2 r2 (dp_mono x2.sub _ _ r1) p e (Aft.mono (x1.trans x2) a2)⟩
        rcases trM_name hm with ⟨rfl, rfl⟩ | ⟨rfl, rfl⟩ | ⟨rfl, rfl⟩ | ⟨rfl, rfl⟩
        · -- index
          cases x with
          | list ys =>
            have hu := G.hu
            cases r1 with
            | lst hF hd =>
              refine go "list" "list.index" _ ⟨PySem.F.plainAttrs_list, PySem.F.slot_list_index, PySem.F.type_list_index, mt_indexD hu⟩ (.inl ⟨rfl, _, .inl (.inl (S1.sub _ _ hF))⟩) fun vs us h2 F2 ρ2 H2 xs z x2 S2 r2 rx p e a2 => ?_
              replace e : mIndex (.list ys) xs = some z := e
              unfold mIndex at e
              split at e
              · rename_i y hx
                cases hx
                split at e
                · rename_i c
                  obtain ⟨c1, c2⟩ := Bool.and_eq_true_iff.mp c
                  obtain ⟨j, hj, rfl⟩ := Option.map_eq_some_iff.mp e
                  obtain ⟨w0, k1, k2, k3⟩ := find_fst hj
                  obtain ⟨v, u2, rfl, rv, pv⟩ := one_val p r2
                  exact ⟨_, u2, _, _, j, w0, rfl, rfl, rp_dp S2.sub _ _ rx, peek_ok S2 rv pv, c2, c1, k1, k2, k3, fin_d S2 a2 (.int _)⟩
                · cases e
              · cases e
          | _ => cases ok
        · -- count
          cases x with
          | list ys =>
            cases r1 with
            | lst hF hd =>
              refine go "list" "list.count" _ ⟨PySem.F.plainAttrs_list, PySem.F.slot_list_count, PySem.F.type_list_count, mt_scount⟩ (.inl ⟨rfl, _, .inl (.inl (S1.sub _ _ hF))⟩) fun vs us h2 F2 ρ2 H2 xs z x2 S2 r2 rx p e a2 => ?_
              replace e : mCount (.list ys) xs = some z := e
              unfold mCount at e
              split at e
              · rename_i zs b hx
                cases hx
                split at e
                · rename_i ws q
                  cases e
                  obtain ⟨v, u2, rfl, rv, pv⟩ := one_val p r2
                  have e2 := dp_str (peek_ok S2 rv pv)
                  subst e2
                  cases rx with
                  | lst hF2 hd2 =>
                    have e3 := dpA_strs hd2 q
                    subst e3
                    exact ⟨_, ws, b, rfl, rfl, .inl (.inl (S2.sub _ _ hF2)), fin_d S2 a2 (.int _)⟩
                · cases e
              · rename_i hx
                cases hx
              · cases e
          | str y =>
            cases r1
            refine go "str" "str.count" _ ⟨PySem.F.plainAttrs_str, PySem.F.slot_str_count, PySem.F.type_str_count, mt_count⟩ rfl fun vs us h2 F2 ρ2 H2 xs z x2 S2 r2 rx p e a2 => ?_
            replace e : mCount (.str y) xs = some z := e
            unfold mCount at e
            split at e
            · rename_i hx
              cases hx
            · rename_i hx
              cases hx
              cases e
              obtain ⟨v, u2, rfl, rv, pv⟩ := one_val p r2
              have e2 := dp_str (peek_ok S2 rv pv)
              subst e2
              exact ⟨_, _, rfl, rfl, fin_d S2 a2 (.int _)⟩
            · cases e
          | _ => cases ok
        · -- split
          cases x with
          | str y =>
            cases r1
            refine go "str" "str.split" _ ⟨PySem.F.plainAttrs_str, PySem.F.slot_str_split, PySem.F.type_str_split, mt_split⟩ rfl fun vs us h2 F2 ρ2 H2 xs z x2 S2 r2 rx p e a2 => ?_
            replace e : mSplit (.str y) xs = some z := e
            unfold mSplit at e
            split at e
            · rename_i hx
              cases hx
              split at e
              · rename_i c
                cases e
                obtain ⟨c1, c2⟩ := Bool.and_eq_true_iff.mp c
                obtain ⟨v, u2, rfl, rv, pv⟩ := one_val p r2
                have e2 := dp_str (peek_ok S2 rv pv)
                subst e2
                have key : ∀ l : List Str, RpA X.K F2 (l.map V.str) (l.map PyData.str) := fun l => by
                  induction l with
                  | nil => exact .nil
                  | cons i l ih => exact .cons (.str i) ih
                exact ⟨_, _, rfl, rfl, by simpa using c1, of_decide_eq_true c2, fun q hq => fin_lst S2 a2 hq (key _)⟩
              · cases e
            · cases e
          | _ => cases ok
        · -- join
          cases x with
          | str y =>
            cases r1
            refine go "str" "str.join" _ ⟨PySem.F.plainAttrs_str, PySem.F.slot_str_join, PySem.F.type_str_join, mt_join⟩ rfl fun vs us h2 F2 ρ2 H2 xs z x2 S2 r2 rx p e a2 => ?_
            replace e : mJoin (.str y) xs = some z := e
            have key : ∀ ws : List D, joinS y ws = some z → ∃ ys, strL ws = some ys ∧ (ys.map (·.length)).sum + ys.length * y.length ≤ 16777216 ∧ z = .str (Txt.join y ys) := fun ws e => by
              unfold joinS at e
              split at e
              · rename_i ys q
                split at e
                · rename_i c
                  cases e
                  exact ⟨ys, q, of_decide_eq_true c, rfl⟩
                · cases e
              · cases e
            unfold mJoin at e
            split at e
            · rename_i hx
              cases hx
              obtain ⟨ys, q, c, rfl⟩ := key _ e
              obtain ⟨b, ws, rfl, e1, e2⟩ := list1 S2 p r2
              have e3 := dpA_strs e2 q
              subst e3
              exact ⟨_, b, ys, rfl, rfl, .inl (.inl (.inl e1)), c, fin_d S2 a2 (.str _)⟩
            · rename_i hx
              cases hx
              obtain ⟨ys, q, c, rfl⟩ := key _ e
              obtain ⟨v, u2, rfl, rv, pv⟩ := one_val p r2
              obtain ⟨b, ws, rfl, s1, d1⟩ := rp_tup S2 rv (peekR_of pv)
              have e3 := dpA_strs d1 q
              subst e3
              exact ⟨_, b, ys, rfl, rfl, .inr (sqT_mono S2.sub s1.sq), c, fin_d S2 a2 (.str _)⟩
            · cases e
          | _ => cases ok
      · exact a.elim
end
end Z

set_option linter.all false
set_option autoImplicit false
set_option maxRecDepth 100000
set_option maxHeartbeats 2000000
/-! ZDc: dict comprehensions. -/
namespace Z
open PySem L2 PySem.Spec PyProof.Rows
/-- y = {k: v for ..} -/
theorem ps_setDc {X : Cx} {i : Nat} {y : Str} {py : Pos} {kx vx tg iter : Expr} {ifs : List Expr} {scope : Scope} {own : List (Str × Nat)} {pos spos : Pos} {wi : TI} {g : TG} {tt : TT} {tk tv : TE} (hc : X.calm = true) (hN : X.N.Nodup) (hy : X.N[i]? = some y) (hyl : X.env.scope.names.lookup y = some .local)
    (hsw : swapsWith (.DictComp kx vx [⟨tg, iter, ifs, 0⟩] scope pos) (some (.Name y py)) spos.line X.env = pure true) (hi : PI X tg iter wi) (ok : BlkOk X.N X.env.scope scope own)
    (hg : ∀ (s : Shared) (H : Hp) (C : Addr) (cl : List (Str × Addr)) (fp : List Addr), PG (X.blk s H scope (compEnvC scope cl C X.env) fp) tg g) (ht : ∀ (s : Shared) (H : Hp) (C : Addr) (cl : List (Str × Addr)) (fp : List Addr), PTs (X.blk s H scope (compEnvC scope cl C X.env) fp) ifs tt)
    (hk : ∀ (s : Shared) (H : Hp) (C : Addr) (cl : List (Str × Addr)) (fp : List Addr), PE (X.blk s H scope (compEnvC scope cl C X.env) fp) kx tk)
    (he : ∀ (s : Shared) (H : Hp) (C : Addr) (cl : List (Str × Addr)) (fp : List Addr), PE (X.blk s H scope (compEnvC scope cl C X.env) fp) vx tv) (hs : ∀ x, foldedSetIterable iter X.env x = pure x) :
    PS X (.Assign [.Name y py] (.DictComp kx vx [⟨tg, iter, ifs, 0⟩] scope pos) spos) (tAsg (tDc wi g tt tk tv (own.map (·.2))) (gName i)) := by
  refine ⟨fun pins s σ H D I h => ?_⟩
  rw [exec_Assign_Name_used _ _ _ _ hsw]
  refine wpAny_bind (wpAny_standAt (wpAny_bind ?_))
  show wpAny _ X.A (do let _ ← comprehension (.DictComp kx vx [⟨tg, iter, ifs, 0⟩] scope pos) scope X.env (firstIterPos [⟨tg, iter, ifs, 0⟩] pos) newDict false (eval iter X.env) (some (assign (.Name y py) X.env))) _ _ s
  have h : tDc wi g tt tk tv (own.map (·.2)) σ H (fun x H1 => gName i x σ H1 D.nx) := h
  refine wpAny_bind (thn (dc_core (Qf := fun _ s' => SP X pins D .next s') hc hN I hi ok hg ht hk he hs h fun L C s' m H' I' q hn f => ?_) fun _ s' hq => wpAny_pure (wpAny_pure hq))
  show wpAny _ _ (assign (.Name y py) X.env (.ref L)) _ _ _
  refine wpAny_assign_Name (store_ok2 (v := V.ref L) I' hN hy (.inl hyl) rfl (fun s2 I2 ⟨a, sb, ha⟩ => ?_) (.inr hyl))
  obtain ⟨f0, f1, f2, f3, f4, f5⟩ := f
  have haC : C ≠ a := by
    rcases ha with z | z
    · rw [z]
      exact f1
    · exact fun e => f4 y a z e.symm
  refine ⟨m, hn.sameBut sb haC, fun h3 sb3 => ?_⟩
  exact ⟨_, H', I2.turned (t' := s2.toks) (fun b o hb e => (sb3.2 b hb).trans e) f0 f1 f3 f4 f5, q⟩
variable [TC : TabsC]
section
variable {ca : Nat → Addr} {W : WX}
def dcEnd (kvs0 : List (Int × D)) (ys : List D) (h : Hep) : R Vl := match putAll ys kvs0 with
  | some kvs => .ok (.r h.length) (h ++ [.dci kvs])
  | none => .no
def dcR (ri : Env → Hep → R (List D)) (rc rk re : Env → Hep → R Vl) (tg : Tg) (ow : List Nat) (s : Env) (h : Hep) : R Vl :=
  bnd (ri s h) fun xs h1 => if szOk xs.length then bnd (compL (dcStep rc rk re tg (Z.wipe s ow)) xs h1) fun ys h2 => dcEnd [] ys h2 else .no
theorem tDc_Z {K : PySem.W.Frag} {ri : Env → Hep → R (List D)} {rc rk re : Env → Hep → R Vl} {tg : Tg} {ow : List Nat} (hin : tgIn ow tg = true) (σ : L2.St) (H : Hp) (Q : VK) (t : tE K ca W (dcR ri rc rk re tg ow) σ H Q) :
    tDc (tI K ca W ri) (gT K tg) (tT K ca WF rc) (tE K ca WF rk) (tE K ca WF re) ow σ H Q := by
  obtain ⟨Y, F, ρ, h, s, S, E, a⟩ := t
  refine ⟨Y, F, ρ, h, s, S, E, ?_⟩
  unfold dcR at a
  cases e : ri s h with
  | ex c h1 =>
    rw [e] at a
    exact a
  | no =>
    rw [e] at a
    exact a
  | ok xs h1 =>
    rw [e] at a
    replace a : Aft K ca W Y F ρ h.length σ Q (if szOk xs.length then bnd (compL (dcStep rc rk re tg (Z.wipe s ow)) xs h1) fun ys h2 => dcEnd [] ys h2 else .no) := a
    split at a
    · rename_i hz
      have hz : xs.length ≤ sizeLine := of_decide_eq_true hz
      intro J F1 ρ1 H1 x1 S1 jt L hL
      have lo := S1.loose hL
      refine ⟨fun i m Hh => m = xs.length - i ∧ i ≤ xs.length ∧ ∃ F2 ρ2 h2 acc ys0, Ext F1 ρ1 h1.length F2 ρ2 h2.length ∧ Sim K (upd Y L (.dK acc)) F2 ρ2 h2 Hh ∧ KiR K F2 acc ys0 ∧ acc.length ≤ i ∧
        Aft K ca W Y F2 ρ2 h2.length σ Q (bnd (compL (dcStep rc rk re tg (Z.wipe s ow)) (xs.drop i) h2) fun ys h3 => dcEnd ys0 ys h3), ⟨xs.length, rfl, Nat.zero_le _, F1, ρ1, h1, [], [], Ext.refl, (S1.new hL).watchK lo upd_same, .nil, Nat.le_refl _, Aft.mono x1 a⟩, ?_⟩
      rintro i m Hh ⟨rfl, hi, F2, ρ2, h2, acc, ys0, x2, S2, dacc, la, a2⟩
      by_cases hlt : i < xs.length
      · refine .inr ⟨jt.go i _ F2 ρ2 h2 Hh x2.sub S2 hlt, fun H' => ∃ F2 ρ2 h2 acc ys0, Ext F1 ρ1 h1.length F2 ρ2 h2.length ∧ Sim K (upd Y L (.dK acc)) F2 ρ2 h2 H' ∧ KiR K F2 acc ys0 ∧ acc.length ≤ i + 1 ∧
          Aft K ca W Y F2 ρ2 h2.length σ Q (bnd (compL (dcStep rc rk re tg (Z.wipe s ow)) (xs.drop (i + 1)) h2) fun ys h3 => dcEnd ys0 ys h3), fun H' p => ⟨xs.length - (i + 1), by omega, rfl, hlt, p⟩, fun v H' y => ?_⟩
        obtain ⟨F3, d, m3, S3, ed, dp⟩ := jt.yld i _ F2 ρ2 h2 Hh v H' x2.sub S2 hlt y
        have x3 : Ext F2 ρ2 h2.length F3 ρ2 h2.length := ⟨m3, Nat.le_refl _, fun _ _ => rfl⟩
        have ex : xs.drop i = d :: xs.drop (i + 1) := by
          have := List.drop_eq_getElem_cons hlt
          rw [this]
          have e2 : xs[i] = d := by
            rw [List.getElem?_eq_getElem hlt] at ed
            exact Option.some.inj ed
          rw [e2]
        rw [ex] at a2
        replace a2 : Aft K ca W Y F2 ρ2 h2.length σ Q (bnd (bnd (dcStep rc rk re tg (Z.wipe s ow) d h2) fun o h1 => bnd (compL (dcStep rc rk re tg (Z.wipe s ow)) (xs.drop (i + 1)) h1) fun ys h3 => .ok (match o with
          | some y => y :: ys
          | none => ys) h3) fun ys h3 => dcEnd ys0 ys h3) := a2
        have Ew : EnvR K F3 ρ2 h2.length (Z.wipe s ow) (L2.wipe σ ow) := ((E.mono x1).mono (x2.trans x3)).wipe ow
        unfold dcStep at a2
        cases es : setTg (Z.wipe s ow) d tg with
        | none =>
          rw [es] at a2
          exact a2.elim
        | some s' =>
          rw [es] at a2
          dsimp only at a2
          refine setTg_ok S3 Ew dp es fun σ' E' wp => ⟨by rw [wp ow hin, wipe_wipe], ⟨_, F3, ρ2, h2, s', S3, E', ?_⟩⟩
          cases ec : rc s' h2 with
          | ex c h3 =>
            rw [ec] at a2
            exact a2.elim
          | no =>
            rw [ec] at a2
            exact a2.elim
          | ok b h3 =>
            rw [ec] at a2
            split at a2
            · rename_i heq
              cases heq
              refine ⟨true, rfl, fun F4 ρ4 H4 x4 S4 => ?_⟩
              refine iteT ?_
              refine ⟨_, F4, ρ4, _, s', S4, E'.mono x4, ?_⟩
              cases ek : rk s' h3 with
              | ex c h5 =>
                rw [ek] at a2
                exact a2.elim
              | no =>
                rw [ek] at a2
                exact a2.elim
              | ok kv h5 =>
                rw [ek] at a2
                split at a2
                · rename_i kk h5' heq
                  cases heq
                  intro uk F5 ρ5 H5 x5 S5 rk5
                  cases rk5
                  refine ⟨_, F5, ρ5, _, s', S5, (E'.mono x4).mono x5, ?_⟩
                  cases er : re s' h5 with
                  | ex c h6 =>
                    rw [er] at a2
                    exact a2.elim
                  | no =>
                    rw [er] at a2
                    exact a2.elim
                  | ok y h6 =>
                    rw [er] at a2
                    dsimp only at a2
                    unfold kept at a2
                    cases ekp : keep h6 y with
                    | none =>
                      rw [ekp] at a2
                      exact a2.elim
                    | some p =>
                      obtain ⟨z, h7⟩ := p
                      rw [ekp] at a2
                      dsimp only at a2
                      intro u F6 ρ6 H6 x6 S6 rv
                      obtain ⟨F7, x7, S7, d7⟩ := keep_ok S6 rv ekp
                      have hH := (S7.unwatch lo.ny).2.2
                      have xx : Ext F2 ρ2 h2.length F7 ρ6 h7.length := (((x3.trans x4).trans x5).trans x6).trans x7
                      have lp := length_putK acc (Sum.inl kk) u
                      refine ⟨acc, Sum.inl kk, rfl, hH, by omega, F7, ρ6, h7, putK acc (Sum.inl kk) u, putL ys0 kk z, x2.trans xx, S7.rewatchK lo.ny, kg_put (g := Sum.inl) inl_inj d7 (dacc.mono xx.sub), by omega, ?_⟩
                      have a3 : Aft K ca W Y F2 ρ2 h2.length σ Q (bnd (bnd (compL (dcStep rc rk re tg (Z.wipe s ow)) (xs.drop (i + 1)) h7) fun ys h3 => .ok (.tuple [.int kk, z] :: ys) h3) fun ys h3 => dcEnd ys0 ys h3) := a2
                      refine Aft.mono xx ?_
                      cases er2 : compL (dcStep rc rk re tg (Z.wipe s ow)) (xs.drop (i + 1)) h7 with
                      | ex c h8 =>
                        rw [er2] at a3
                        exact a3
                      | no =>
                        rw [er2] at a3
                        exact a3
                      | ok ys h8 =>
                        rw [er2] at a3
                        exact a3
                · exact a2.elim
            · rename_i heq
              cases heq
              refine ⟨false, rfl, fun F4 ρ4 H4 x4 S4 => ?_⟩
              refine iteF ?_
              have xx : Ext F2 ρ2 h2.length F4 ρ4 _ := x3.trans x4
              refine ⟨F4, ρ4, _, acc, ys0, x2.trans xx, S4, dacc.mono xx.sub, by omega, Aft.mono xx ?_⟩
              have a3 : Aft K ca W Y F2 ρ2 h2.length σ Q (bnd (bnd (compL (dcStep rc rk re tg (Z.wipe s ow)) (xs.drop (i + 1)) h3) fun ys h3 => .ok ys h3) fun ys h3 => dcEnd ys0 ys h3) := a2
              cases er2 : compL (dcStep rc rk re tg (Z.wipe s ow)) (xs.drop (i + 1)) h3 with
              | ex c h7 =>
                rw [er2] at a3
                exact a3
              | no =>
                rw [er2] at a3
                exact a3
              | ok ys h7 =>
                rw [er2] at a3
                exact a3
            · exact a2.elim
      · have ei : i = xs.length := by omega
        subst ei
        rw [List.drop_length] at a2
        replace a2 : Aft K ca W Y F2 ρ2 h2.length σ Q (.ok (.r h2.length) (h2 ++ [.dci ys0])) := a2
        obtain ⟨S3, lo3, hH⟩ := S2.unwatch lo.ny
        refine .inl ⟨jt.stop _ F2 ρ2 h2 Hh x2.sub S2, ?_⟩
        obtain ⟨ρ3, S4, x4, e4⟩ := S3.cellG (ob := .dci ys0) lo3 ⟨lo3.nf, acc, hH, dacc⟩
        exact a2 _ F2 ρ3 Hh x4 S4 ⟨by simp, by rw [e4]⟩
    · exact a.elim
/-- {} -/
theorem s_dnw {X : Cx} {C : Cfg} {pos : Pos} (wr : TC.wr = false) : PE X (.Dict [] [] pos) (tE X.K ca W (ev C .dnw)) := by
  refine PE.imp pe_dnewT fun σ H Q t => ?_
  obtain ⟨Y, F, ρ, h, s, S, E, a⟩ := t
  intro p hp
  have l := S.loose hp
  obtain ⟨ρ2, S2, x2, e2⟩ := (S.new (o := .dT []) hp).cellG (ob := .dct []) l ⟨l.nf, ⟨[], upd_same, .nil⟩, wr⟩
  exact a _ F ρ2 _ x2 S2 ⟨by simp, by rw [e2]⟩
end
end Z

set_option linter.all false
set_option autoImplicit false
set_option maxRecDepth 100000
set_option maxHeartbeats 2000000
/-! ZSort: sorted(..) of alike data, empty tuples too. -/
namespace Z
open PySem PySem.W PySem.Calls PyProof.Rows PySem.SeqAt
section
variable {prog : Program} {w : World} {A : Around} {s : Shared} {E : Value → Shared → Prop}
/-- two tuples, by the type's own order -/
theorem one_tups {xs ys : List PyData} {a b : Value} {as bs : List Addr} {Q : Bool → Shared → Prop} (ra : Reads s.heap a (.tuple xs) as) (rb : Reads s.heap b (.tuple ys) bs) (hal : alikeAll xs ys = true)
    (hu : A.units + min (PyData.tuple xs).depth (PyData.tuple ys).depth < cLine) (hq : Q (dataLt (.tuple xs) (.tuple ys)) s) : wpAny (model prog w) A (oneLt' true a b) Q E s := by
  cases ra with
  | @tuple l o vs n _ as₁ h1 h2 h3 h4 =>
    cases rb with
    | @tuple l' o' vs' n' _ bs₁ k1 k2 k3 k4 =>
      have n1 : vs.size = xs.length := by simpa using ReadsAll.length _ _ _ h4
      have n2 : vs'.size = ys.length := by simpa using ReadsAll.length _ _ _ k4
      rw [dataLt_tuple, ← firstLt_toks xs ys hal, ← n1, ← n2] at hq
      rw [oneLt'_eq, if_pos rfl]
      refine wpAny_bind (wpAny_cRoomFor (room_here hu) (wpAny_bind (wpAny_callSpecialIfBound?_slot (T := "tuple") ⟨_, h1, h2⟩ F.slot_tuple_lt ?_)))
      obtain ⟨oc, od, oda, osl⟩ := o
      obtain ⟨pc, pd, pda, psl⟩ := o'
      dsimp only at h2 h3 k2 k3
      subst h2
      subst h3
      subst k2
      subst k3
      refine call_meets F.slot_tuple_lt ⟨_, h1, rfl⟩ F.entry_tuple_lt (F.args_tuple_lt_2 _ _) (tuple_ltAt l l' vs vs' n n' od pd osl psl (pairEq xs ys) fun j => dataLt (xs.getD j .none) (ys.getD j .none)) ⟨h1, k1, fun j j1 j2 => ?_, fun j j1 j2 hj => ?_, wpAny_truthy_bool hq⟩
      · have q := eqAt_alikeAll xs ys A.in1 s vs.toList vs'.toList _ _ h4 k4 hal (room_in hu) j (by simpa using j1) (by simpa using j2)
        simpa using q
      · have q := rcLt_alikeAll xs ys A.in1 s vs.toList vs'.toList _ _ h4 k4 hal (room_in hu) j (by simpa using j1) (by simpa using j2) hj
        simpa using q
def isCons : PyData → Bool
  | .tuple (_ :: _) => true
  | _ => false
theorem firsts_mix {M : Model} : ∀ {vs : List Value} {ds : List PyData} {Q : List (Option Value) → Shared → Prop}, EachIs (fun v d => ∃ as, Reads s.heap v d as) vs ds → (∀ d ∈ ds, ∃ xs, d = .tuple xs) → (∀ fs : List (Option Value), fs.map Option.isSome = ds.map isCons → Q fs s) → wpAny M A (vs.mapM firstOfTuple') Q E s
  | _, _, Q, .nil, _, h => by
    rw [List.mapM_nil]
    exact wpAny_pure (h [] rfl)
  | _, _, Q, .cons (b := d) ⟨as, r⟩ t, ht, h => by
    obtain ⟨xs, rfl⟩ := ht d (List.mem_cons_self ..)
    cases r with
    | @tuple l o vs n _ as₁ h1 h2 h3 h4 =>
      rw [List.mapM_cons]
      refine wpAny_bind ?_
      rw [kas_first_eq]
      refine wpAny_bind (Looks.here (show Looks M s.heap (typeOf (.ref l)) o.cls from (Looks.ld h1).andThen .now) ?_)
      rw [h2, if_neg (by first | decide | simp)]
      refine wpAny_bind (listItems_at h1 h3 (wpAny_pure ?_))
      refine wpAny_bind (firsts_mix t (fun d hd => ht d (List.mem_cons_of_mem _ hd)) fun fs e => wpAny_pure (h _ ?_))
      rw [List.map_cons, List.map_cons, e]
      congr 1
      have n1 : vs.size = xs.length := by simpa using ReadsAll.length _ _ _ h4
      cases xs with
      | nil =>
        have e0 : vs[0]? = none := Array.getElem?_eq_none (by rw [n1]; exact Nat.le_refl _)
        rw [e0]
        rfl
      | cons x r =>
        have lt : 0 < vs.size := by simp at n1; omega
        rw [Array.getElem?_eq_getElem lt]
        rfl
/-- tuples, an empty one among them -/
theorem sorts_mix {vs : List Value} {ds : List PyData} (e : EachIs (fun v d => ∃ as, Reads s.heap v d as) vs ds) (hal : AllAlike ds) (ht : ∀ d ∈ ds, ∃ xs, d = .tuple xs) (hm : ds.all isCons = false) (hu : ∀ d, d ∈ ds → A.units + d.depth < cLine) : SortsAt prog w A s (dataKind s.heap ds) vs := by
  have room : ∀ {d d' : PyData}, d ∈ ds → A.units + min d.depth d'.depth < cLine := fun {d d'} hd => Nat.lt_of_le_of_lt (Nat.add_le_add_left (Nat.min_le_left _ _) _) (hu d hd)
  refine ⟨fun v hv => ?_, ?_⟩
  · obtain ⟨d, hd, as, r⟩ := e.left v hv
    exact ⟨_, dataKind_some hal hd r⟩
  · have hall : ∀ fs : List (Option Value), fs.map Option.isSome = ds.map isCons → (fs.toArray.all fun x => x.isSome) = false := fun fs q => by
      have q2 : fs.all Option.isSome = ds.all isCons := by
        have z1 : fs.all Option.isSome = (fs.map Option.isSome).all id := by rw [List.all_map]; rfl
        have z2 : ds.all isCons = (ds.map isCons).all id := by rw [List.all_map]; rfl
        rw [z1, z2, q]
      rw [List.all_toArray, q2, hm]
    cases hf : (ds.map isCons).head?.getD false with
    | true =>
      refine ⟨general', ?_, fun h2 E Q hq => ?_⟩
      · intro E x y a b Q ha hb hq
        obtain ⟨d, as, hd, ra, rfl⟩ := dataKind_inv ha
        obtain ⟨d', as', hd', rb, rfl⟩ := dataKind_inv hb
        show wpAny _ _ (oneLt' false x y) _ _ _
        obtain ⟨z, rfl⟩ := ht d hd
        exact oneLt_alike (fun q => by cases q) ra rb (hal _ hd d' hd') (fun q => by cases q) (room hd) hq
      · rw [kat_kind_eq, List.mapM_toArray, map_eq_pure_bind]
        refine wpAny_bind (wpAny_bind (firsts_mix e ht fun fs q => wpAny_pure ?_))
        rw [if_neg (by rw [hall fs q]; decide)]
        have h0 : ((fs.toArray[0]?).bind id).isSome = true := by
          cases fs with
          | nil =>
            rw [← q] at hf
            cases hf
          | cons f fs =>
            rw [← q] at hf
            exact hf
        rw [if_pos h0]
        exact wpAny_pure hq
    | false =>
      refine ⟨oneType', ?_, fun h2 E Q hq => ?_⟩
      · intro E x y a b Q ha hb hq
        obtain ⟨d, as, hd, ra, rfl⟩ := dataKind_inv ha
        obtain ⟨d', as', hd', rb, rfl⟩ := dataKind_inv hb
        rw [keyLt'_oneType]
        have hdd := hal d hd d' hd'
        have hr := room (d' := d') hd
        obtain ⟨z, rfl⟩ := ht d hd
        obtain ⟨z', rfl⟩ := ht d' hd'
        exact one_tups ra rb (by simpa [alike] using hdd) hr hq
      · rw [kat_kind_eq, List.mapM_toArray, map_eq_pure_bind]
        refine wpAny_bind (wpAny_bind (firsts_mix e ht fun fs q => wpAny_pure ?_))
        rw [if_neg (by rw [hall fs q]; decide)]
        have h0 : ((fs.toArray[0]?).bind id).isSome = false := by
          cases fs with
          | nil => rfl
          | cons f fs =>
            rw [← q] at hf
            exact hf
        rw [if_neg (by rw [h0]; decide)]
        rw [oneTypeOnly'_eq, List.mapM_toArray, map_eq_pure_bind]
        refine wpAny_bind (wpAny_bind (wpAny_bind (kas_mapM (r := Value.type "tuple") _ (fun v hv Q' hq => ?_) (wpAny_pure ?_))))
        · obtain ⟨d, hd, as, r⟩ := e.left v hv
          obtain ⟨z, rfl⟩ := ht d hd
          exact (looks_reads r).here hq
        · have ne : vs ≠ [] := by
            rintro rfl
            simp at h2
          obtain ⟨v0, vr, rfl⟩ := List.exists_cons_of_ne_nil ne
          have ha : ((List.map (fun _ => Value.type "tuple") (v0 :: vr)).toArray.all fun x => x == Value.type "tuple") = true := by simp
          have h1 : (List.map (fun _ => Value.type "tuple") (v0 :: vr)).toArray[0]? = some (Value.type "tuple") := by simp
          rw [h1]
          simp only [ha, if_true]
          exact wpAny_pure (wpAny_pure hq)
end
end Z

set_option linter.all false
set_option autoImplicit false
set_option maxRecDepth 100000
set_option maxHeartbeats 2000000
/-! ZS: sorted(..) as a rule. -/
namespace Z
open PySem L2 PySem.Spec PyProof.Rows
variable [TC : TabsC]
section
variable {X : Cx} {ca : Nat → Addr} {W : WX}
open PySem.W in
theorem each_of {K : PySem.W.Frag} {F : Hp} {R : Value → D → Prop} (hR : ∀ v d u, Rp K F v d → RelV v u → R u d) : ∀ {vs : List V} {us : List Value} {ds : List D}, Vals vs us → RpA K F vs ds → EachIs R us ds
  | _, _, _, .nil, .nil => .nil
  | _, _, _, .cons r t, .cons d e => .cons (hR _ _ _ d r) (each_of hR t e)
open PySem.W in
theorem each_back {K : PySem.W.Frag} {F : Hp} : ∀ {us : List Value} {ds : List D}, EachIs (fun u d => ∃ v, RelV v u ∧ Rp K F v d) us ds → ∃ vs, Vals vs us ∧ RpA K F vs ds
  | _, _, .nil => ⟨[], .nil, .nil⟩
  | _, _, .cons ⟨v, r, d⟩ t => by
    obtain ⟨vs, h1, h2⟩ := each_back t
    exact ⟨v :: vs, .cons r h1, .cons d h2⟩
/-- sorted(xs) -/
def rSrt (K : PySem.W.Frag) : List V → Hp → VK → Prop := fun us H Q => ∃ (a : Addr) (vs : List V) (ds : List D) (F : Hp), us = [.ref a] ∧ H a = some (.lst vs) ∧ Same F H ∧ RpA K F vs ds ∧ srtOk ds = true ∧ ∀ p ws, H p = none → RpA K F ws (sortD ds) → Q (.ref p) (upd H p (.lst ws))
theorem cr_srt (hu : X.A.units + 65 < cLine) : CallR X (.builtin "sorted") (rSrt X.K) := by
  intro pins s σ H xs us Q I r h
  obtain ⟨a, vs, ds, F, rfl, hH, sub, rp, ok, q⟩ := h
  rw [Vals.ref1 r]
  obtain ⟨its, rv, hl, hz⟩ := I.list (SqL.of hH)
  have ok2 : ∀ x ∈ ds, (∀ y ∈ ds, PySem.W.alike x y = true) ∧ x.depth ≤ 50 ∧ x ≠ .none := fun x hx => by
    have z := List.all_eq_true.mp ok x hx
    simp only [Bool.and_eq_true, decide_eq_true_eq, List.all_eq_true, Bool.not_eq_true'] at z
    exact ⟨z.1.1, z.1.2, fun e => by
      have z2 := z.2
      rw [e] at z2
      cases z2⟩
  have hal : PySem.W.AllAlike ds := fun d hd d' hd' => (ok2 d hd).1 d' hd'
  have hlen : its.length = ds.length := by rw [← rv.length]; exact dpA_len rp
  have e1 : PySem.W.EachIs (fun u d => ∃ v, RelV v u ∧ Rp X.K F v d) its ds := each_of (fun v d u h1 h2 => ⟨v, h2, h1⟩) rv rp
  have e2 : PySem.W.EachIs (fun u d => ∃ as, Reads s.heap u d as) its ds := each_of (fun v d u h1 h2 => Dp.reads I d v u (rp_dp sub d v h1) h2) rv rp
  have fin : ∀ out : List Value, out.length = ds.length → PySem.W.EachIs (fun u d => ∃ v, RelV v u ∧ Rp X.K F v d) out (sortD ds) → EP X pins σ Q (.ref (s.heap.objs.size + 1)) { s with heap := PyProof.Rows.sortedAll s.heap its (List.toArray out) } := fun out ho eo => by
    obtain ⟨ws, w1, w2⟩ := each_back eo
    obtain ⟨ep, he⟩ := PyProof.Rows.sortedAll_at s.heap its out.toArray
    have hw : ws.length ≤ sizeLine := by
      rw [w1.length, ho, ← hlen, ← rv.length]
      exact hz
    exact ⟨.ref _, upd H (s.heap.objs.size + 1) (.lst ws), I.laid (t' := s.toks) (fun _ _ => PyProof.Rows.sortedAll_old) (Nat.le_succ _) ⟨hw, out, ep, w1, he⟩, rfl, q _ _ (I.hok.fresh (Nat.le_succ _)) w2⟩
  have hL : ds.length ≤ sizeLine := by
    rw [← hlen, ← rv.length]
    exact hz
  have hd : ∀ d, d ∈ ds → X.A.units + 2 + d.depth < cLine := fun d hd => by
    have := (ok2 d hd).2.1
    omega
  have em : ds.map id = ds := List.map_id ds
  by_cases c : PySem.W.Sortable ds
  · exact PySem.W.sorted_data (enc := id) (R := fun u d => ∃ v, RelV v u ∧ Rp X.K F v d) hl.isList e1 e2 (by rw [em]; exact hal) (by rw [em]; exact c) hL hd fun out ho eo => fin out ho eo
  · have ht : (∀ d ∈ ds, ∃ xs, d = .tuple xs) ∧ ds.all isCons = false := by
      cases ds with
      | nil => exact absurd (.inl fun d hd => absurd hd (by simp)) c
      | cons d0 dr =>
        have hd0 := (ok2 d0 (by simp))
        cases d0 with
        | tuple x0 =>
          have ht : ∀ d ∈ PyData.tuple x0 :: dr, ∃ xs, d = .tuple xs := fun d hd => by
            have z := hd0.1 d hd
            cases d with
            | tuple xs => exact ⟨xs, rfl⟩
            | _ => simp [PySem.W.alike] at z
          refine ⟨ht, ?_⟩
          cases q2 : (PyData.tuple x0 :: dr).all isCons with
          | false => rfl
          | true =>
            refine absurd (.inl fun d hd => ?_) c
            obtain ⟨xs, rfl⟩ := ht d hd
            have z := List.all_eq_true.mp q2 _ hd
            cases xs with
            | nil => cases z
            | cons x r => exact ⟨x, r, rfl⟩
        | _ =>
          refine absurd (.inr fun d hd => ⟨(ok2 d hd).2.2, fun xs e => ?_⟩) c
          subst e
          have z := hd0.1 _ hd
          simp [PySem.W.alike] at z
    have e3 : PySem.W.EachIs (fun u d => ∃ as, Reads (PySem.W.sortingHeap (PySem.W.copyHeap s.heap its) (s.heap.objs.size + 1) its) u d as) its ds := e2.mono fun _ _ ⟨as, r⟩ => ⟨as, PyProof.Rows.Reads.keeps (fun _ _ => PySem.W.sorting_copy_old) r⟩
    refine PySem.W.sorted_vals hl.isList (sorts_mix (A := X.A.in1.in1) (s := { s with heap := PySem.W.sortingHeap (PySem.W.copyHeap s.heap its) (s.heap.objs.size + 1) its }) e3 hal ht.1 ht.2 fun d hd2 => ?_) (by rw [hlen]; exact hL) ?_
    · have z := hd d hd2
      have z2 : X.A.in1.in1.units = X.A.units + 1 + 1 := rfl
      rw [z2]
      omega
    · have z := PySem.W.sortVals_data (enc := id) (h' := PySem.W.sortingHeap (PySem.W.copyHeap s.heap its) (s.heap.objs.size + 1) its) false e1 e3 (by rw [em]; exact hal)
      rw [em] at z
      exact fin _ (by rw [PySem.W.sortVals_length false rfl]; exact hlen) z
theorem b_sortedF (hu : X.A.units + 65 < cLine) : CallR X (.builtin "sorted") (rClF X.K ca W (bltS .sorted)) := by
  refine CallR.imp (cr_srt (X := X) hu) fun us H Q ⟨Y, F, ρ, h, σ, vs, S, r, a⟩ => ?_
  obtain ⟨xs, z, p, e, a⟩ := bltF_cases a
  replace e : bSorted xs = some (.list z) := e
  unfold bSorted at e
  split at e
  · split at e
    · rename_i ok
      cases e
      obtain ⟨b, ws, rfl, e1, e2⟩ := list1 S p r
      exact ⟨b, ws, _, F, rfl, e1, S.sub, e2, ok, fun l us hl d => fin_loose S a hl d⟩
    · cases e
  · cases e
end
end Z

set_option linter.all false
set_option autoImplicit false
set_option maxRecDepth 100000
set_option maxHeartbeats 4000000
/-! Z12: every expression of the text. -/
namespace Z
open PySem L2 PySem.Spec PyProof.Rows
variable [TC : TabsC]
section
variable {T : Tab} {Ds : List Dfn} {wf k : Nat} {ca : Nat → Addr} {N : List Str}
abbrev cf (Ds : List Dfn) (wf k : Nat) : Cfg := ⟨call Ds wf k, wf⟩
/-- leaves of tests -/
theorem t_val {X : Cx} {W : WX} {e : Expr} {r : Env → Hep → R Vl} (p : PE X e (tE X.K ca W r)) (he : ∀ whole, isTrue e X.env whole = (do let v ← whole; standAt e.pos; holding [v] (truthy v))) : PT X e (tT X.K ca W r) :=
  PT.imp (pt_val p he) fun σ H Q t => tT_val t
structure Snd (T : Tab) (Ds : List Dfn) (wf k : Nat) (ca : Nat → Addr) (N : List Str) (n : Nat) : Prop where
  e : ∀ sc e ir X W, trE T N n sc e = some ir → Gd T Ds wf k ca N X sc W → PE X e (tE X.K ca W (ev (cf Ds wf k) ir)) ∧ (isIf e = false → PT X e (tT X.K ca W (ev (cf Ds wf k) ir))) ∧ (fresh e = true → PE X e (tF X.K ca W (ev (cf Ds wf k) ir)))
  l : ∀ sc op vs ir X W pos, trL T N n sc op vs = some ir → Gd T Ds wf k ca N X sc W → PE X (.BoolOp op vs pos) (tE X.K ca W (ev (cf Ds wf k) ir)) ∧ PW X (.BoolOp op vs pos) (tT X.K ca W (ev (cf Ds wf k) ir))
  o : ∀ sc o ir X W, trO T N n sc o = some ir → Gd T Ds wf k ca N X sc W → PO X o (tPo X.K ca W (partR (cf Ds wf k) ir))
  f : ∀ sc l ir X W, trIf T N n sc l = some ir → Gd T Ds wf k ca N X sc W → PTs X l (tT X.K ca W (ev (cf Ds wf k) ir))
  a : ∀ sc es ir X W, trA T N n sc es = some ir → Gd T Ds wf k ca N X sc W → PA X es (tA X.K ca W (evs (cf Ds wf k) ir)) ∧ es.all (fun e => !starB e) = true
  c : ∀ sc x as ir X W p pos, trC T N n sc x as = some ir → bltB T sc x = true → okName x = true → Gd T Ds wf k ca N X sc W → PE X (.Call (.Name x p) as [] pos) (tE X.K ca W (ev (cf Ds wf k) ir)) ∧ (fresh (.Call (.Name x p) as [] pos) = true → PE X (.Call (.Name x p) as [] pos) (tF X.K ca W (ev (cf Ds wf k) ir)))
  i : ∀ sc e ir X W tg tgE fn sc2, trI T N n sc e = some ir → Gd T Ds wf k ca N X sc W → trTg N sc2 fn tgE = some tg → okIt ir tg = true → PI X tgE e (tI X.K ca W (evi (cf Ds wf k) ir))
theorem PTs.imp {X : Cx} {es : List Expr} {t t' : TT} (p : PTs X es t) (i : ∀ σ H Q, t' σ H Q → t σ H Q) : PTs X es t' := ⟨fun pins s σ H Q I q => p.run pins s σ H Q I (i σ H Q q)⟩
theorem find_ok {l : List Str} {x : Str} {f : Nat} (e : (l.findIdx? fun y => decide (y = x)) = some f) : l[f]? = some x := slot_ok e
/-! each part, one step up -/
theorem snd_o {n : Nat} (S : Snd T Ds wf k ca N n) : ∀ sc o ir X W, trO T N (n + 1) sc o = some ir → Gd T Ds wf k ca N X sc W → PO X o (tPo X.K ca W (partR (cf Ds wf k) ir)) := by
  intro sc o ir X W e G
  cases o with
  | none =>
    cases e
    exact po_no
  | some e1 =>
    replace e : (match trE T N n sc e1 with
      | some e => if isNil e then none else some e
      | none => none) = some ir := e
    split at e
    · rename_i e2 q
      split at e
      · cases e
      · rename_i hn
        cases e
        exact po_ye (by simpa using hn) (S.e sc e1 _ X W q G).1
    · cases e
theorem snd_f {n : Nat} (S : Snd T Ds wf k ca N n) : ∀ sc l ir X W, trIf T N (n + 1) sc l = some ir → Gd T Ds wf k ca N X sc W → PTs X l (tT X.K ca W (ev (cf Ds wf k) ir)) := by
  intro sc l ir X W e G
  cases l with
  | nil =>
    cases e
    refine PTs.imp pts_nil fun σ H Q t => ?_
    obtain ⟨Y, F, ρ, h, s, S, E, b, eb, q⟩ := t
    have eb' : true = b := by
      injection eb with eb
      injection eb
    subst eb'
    exact q F ρ H Ext.refl S
  | cons c r =>
    cases r with
    | nil =>
      replace e : (if isIf c then none else trE T N n sc c) = some ir := e
      split at e
      · cases e
      · rename_i hn
        exact pts_one ((S.e sc c ir X W e G).2.1 (by simpa using hn))
    | cons _ _ => cases e
theorem snd_a {n : Nat} (S : Snd T Ds wf k ca N n) : ∀ sc es ir X W, trA T N (n + 1) sc es = some ir → Gd T Ds wf k ca N X sc W → PA X es (tA X.K ca W (evs (cf Ds wf k) ir)) ∧ es.all (fun e => !starB e) = true := by
  intro sc es ir X W e G
  cases es with
  | nil =>
    cases e
    exact ⟨s_nil, rfl⟩
  | cons c r =>
    replace e : (if starB c then none else match trE T N n sc c, trA T N n sc r with
      | some a, some as => some (.cons a as)
      | _, _ => none) = some ir := e
    split at e
    · cases e
    · rename_i hn
      split at e
      · rename_i a as q1 q2
        cases e
        have hs : starB c = false := by simpa using hn
        obtain ⟨h1, h2⟩ := S.a sc r _ X W q2 G
        exact ⟨s_cons hs (S.e sc c _ X W q1 G).1 h1, by simp [hs, h2]⟩
      · cases e
theorem snd_l {n : Nat} (S : Snd T Ds wf k ca N n) : ∀ sc op vs ir X W pos, trL T N (n + 1) sc op vs = some ir → Gd T Ds wf k ca N X sc W → PE X (.BoolOp op vs pos) (tE X.K ca W (ev (cf Ds wf k) ir)) ∧ PW X (.BoolOp op vs pos) (tT X.K ca W (ev (cf Ds wf k) ir)) := by
  intro sc op vs ir X W pos e G
  cases vs with
  | nil => cases e
  | cons a r =>
    cases r with
    | nil =>
      replace e : (if isIf a then none else trE T N n sc a) = some ir := e
      split at e
      · cases e
      · rename_i hn
        obtain ⟨h1, h2, _⟩ := S.e sc a ir X W e G
        refine ⟨pe_one h1, ?_⟩
        cases op with
        | And => exact pw_and1 (h2 (by simpa using hn))
        | Or => exact pw_or1 (h2 (by simpa using hn))
    | cons b r =>
      replace e : (if isIf a then none else match trE T N n sc a, trL T N n sc op (b :: r) with
        | some a, some b => some (mkOp op a b)
        | _, _ => none) = some ir := e
      split at e
      · cases e
      · rename_i hn
        split at e
        · rename_i a' b' q1 q2
          cases e
          obtain ⟨h1, h2, _⟩ := S.e sc a _ X W q1 G
          obtain ⟨h3, h4⟩ := S.l sc op (b :: r) _ X W pos q2 G
          cases op with
          | And => exact ⟨s_and h1 h3, t_and (h2 (by simpa using hn)) h4⟩
          | Or => exact ⟨s_or h1 h3, t_or (h2 (by simpa using hn)) h4⟩
        · cases e
theorem isTp_ok {sc : Scope} {fn : Str → Bool} {t : Expr} {tg : Tg} (e : trTg N sc fn t = some tg) (h : isTp tg = true) : ∃ es j p, t = .Tuple es j p := by
  cases t with
  | Name x p =>
    unfold trTg at e
    dsimp only at e
    split at e
    · split at e
      · cases e
        cases h
      · cases e
    · cases e
  | Tuple es j p => exact ⟨es, j, p, rfl⟩
  | _ => cases e
theorem snd_i {n : Nat} (S : Snd T Ds wf k ca N n) : ∀ sc e ir X W tg tgE fn sc2, trI T N (n + 1) sc e = some ir → Gd T Ds wf k ca N X sc W → trTg N sc2 fn tgE = some tg → okIt ir tg = true → PI X tgE e (tI X.K ca W (evi (cf Ds wf k) ir)) := by
  intro sc e ir X W tg tgE fn sc2 q G qt ok
  have plain : (trE T N n sc e).map .itr = some ir → PI X tgE e (tI X.K ca W (evi (cf Ds wf k) ir)) := fun q => by
    cases q1 : trE T N n sc e with
    | none =>
      rw [q1] at q
      cases q
    | some e' =>
      rw [q1] at q
      cases q
      exact pi_Z (S.e sc e _ X W q1 G).1
  unfold trI at q
  split at q
  · rename_i x p a p2
    split at q
    · rename_i c
      simp only [Bool.and_eq_true, decide_eq_true_eq, Bool.not_eq_true'] at c
      obtain ⟨⟨c1, c2⟩, rfl⟩ := c
      obtain ⟨g1, g2⟩ := G.blt c1
      cases q1 : trE T N n sc a with
      | none =>
        rw [q1] at q
        cases q
      | some a' =>
        rw [q1] at q
        cases q
        exact pi_rngZ (S.e sc a _ X W q1 G).1 g1 g2 c2
    · split at q
      · rename_i c
        simp only [Bool.and_eq_true, decide_eq_true_eq, Bool.not_eq_true'] at c
        obtain ⟨⟨c1, c2⟩, rfl⟩ := c
        obtain ⟨g1, g2⟩ := G.blt c1
        cases q1 : trE T N n sc a with
        | none =>
          rw [q1] at q
          cases q
        | some a' =>
          rw [q1] at q
          cases q
          obtain ⟨es, j, p, rfl⟩ := isTp_ok qt ok
          exact pi_enuZ (S.e sc a _ X W q1 G).1 g1 g2 c2
      · split at q
        · rename_i c
          simp only [Bool.and_eq_true, decide_eq_true_eq, Bool.not_eq_true'] at c
          obtain ⟨⟨c1, c2⟩, rfl⟩ := c
          obtain ⟨g1, g2⟩ := G.blt c1
          split at q
          · rename_i b hr
            obtain ⟨b', q1, rfl⟩ := Option.map_eq_some_iff.mp q
            unfold isRange at hr
            split at hr
            · rename_i y p3 b0 p4 _
              split at hr
              · rename_i c
                cases hr
                simp only [Bool.and_eq_true, decide_eq_true_eq, Bool.not_eq_true'] at c
                obtain ⟨⟨rfl, c3⟩, c4⟩ := c
                obtain ⟨g3, g4⟩ := G.blt c3
                exact pi_rvgZ (S.e sc _ _ X W q1 G).1 g1 g2 g3 g4 c4
              · cases hr
            · cases hr
          · cases q1 : trE T N n sc a with
            | none =>
              rw [q1] at q
              cases q
            | some a' =>
              rw [q1] at q
              cases q
              exact pi_rvsZ (S.e sc a _ X W q1 G).1 g1 g2 c2
        · exact plain q
  · exact plain q
theorem b_str {X : Cx} {W : WX} : CallR X (.type "str") (rCl X.K ca W (bltS .str)) := fun pins s σ H xs us Q I r q => by
  obtain ⟨Y, F, ρ, h, σ', vs, S, r, a⟩ := q
  obtain ⟨xs, z, p, e, a⟩ := blt_cases a
  cases e
theorem sorted_list {C : Cfg} {eas : E} (s : Env) (h : Hep) (v : Vl) (h' : Hep) (e : ev C (.blt .sorted eas) s h = .ok v h') : ∃ xs, v = .d (.list xs) := by
  replace e : (bnd (evs C eas s h) fun vs h1 => bltV .sorted vs h1) = .ok v h' := e
  cases q : evs C eas s h with
  | ex c h1 =>
    rw [q] at e
    cases e
  | no =>
    rw [q] at e
    cases e
  | ok vs h1 =>
    rw [q] at e
    replace e : bltV .sorted vs h1 = .ok v h' := e
    rw [blt_eq (b := .sorted) (by intro z; cases z)] at e
    unfold bltS at e
    split at e
    · rename_i xs q2
      replace e : opt h1 ((bSorted xs).map .d) = .ok v h' := e
      unfold bSorted at e
      split at e
      · split at e
        · cases e
          exact ⟨_, rfl⟩
        · cases e
      · cases e
    · cases e
theorem snd_c {n : Nat} (S : Snd T Ds wf k ca N n) : ∀ sc x as ir X W p pos, trC T N (n + 1) sc x as = some ir → bltB T sc x = true → okName x = true → Gd T Ds wf k ca N X sc W →
    PE X (.Call (.Name x p) as [] pos) (tE X.K ca W (ev (cf Ds wf k) ir)) ∧ (fresh (.Call (.Name x p) as [] pos) = true → PE X (.Call (.Name x p) as [] pos) (tF X.K ca W (ev (cf Ds wf k) ir))) := by
  intro sc x as ir X W p pos q hx hn G
  have nf : ∀ {y : Str} (c : fresh (.Call (.Name y p) as [] pos) = true), y = "list" ∨ y = "sorted" := fun {y} c => by
    have c : (decide (y = "list") || decide (y = "sorted")) = true := c
    simpa using c
  unfold trC at q
  split at q
  · rename_i hxe
    subst hxe
    split at q
    · rename_i a t p2
      split at q
      · cases q
      · rename_i c
        simp only [Bool.or_eq_true, Bool.not_eq_true', not_or, Bool.not_eq_true, Bool.not_eq_false] at c
        split at q
        · rename_i t' a' q1 q2
          cases q
          exact ⟨s_isi G hx c.2 q1 c.1 (S.e sc a _ X W q2 G).1, fun z => absurd (nf z) (by decide)⟩
        · cases q
    · cases q
  · split at q
    · rename_i hxe
      subst hxe
      split at q
      · rename_i a
        split at q
        · rename_i a' hr
          cases q1 : trE T N n sc a' with
          | none =>
            rw [q1] at q
            cases q
          | some e' =>
            rw [q1] at q
            cases q
            unfold isRange at hr
            split at hr
            · rename_i y p3 b p4
              split at hr
              · rename_i c
                cases hr
                simp only [Bool.and_eq_true, decide_eq_true_eq, Bool.not_eq_true'] at c
                obtain ⟨⟨rfl, c2⟩, c3⟩ := c
                have pf := s_lsrF (p := p) (p2 := p3) (pos := pos) (pos2 := p4) G hx c2 c3 (S.e sc a' _ X W q1 G).1
                exact ⟨tE_of_tF (fun s h v h' e => lsr_list s h v h' e) pf, fun _ => pf⟩
              · cases hr
            · cases hr
        · split at q
          · rename_i a' hr
            cases q1 : trE T N n sc a' with
            | none =>
              rw [q1] at q
              cases q
            | some e' =>
              rw [q1] at q
              cases q
              unfold isRevd at hr
              split at hr
              · rename_i y p3 b p4 hq0
                split at hr
                · rename_i c
                  cases hr
                  simp only [Bool.and_eq_true, decide_eq_true_eq, Bool.not_eq_true'] at c
                  obtain ⟨⟨rfl, c2⟩, c3⟩ := c
                  have pf := s_lrvF (p := p) (p2 := p3) (pos := pos) (pos2 := p4) G hx c2 c3 (S.e sc a' _ X W q1 G).1
                  exact ⟨tE_of_tF (fun s h v h' e => lrv_list s h v h' e) pf, fun _ => pf⟩
                · cases hr
              · cases hr
          · split at q
            · cases q
            · rename_i hs
              cases q1 : trE T N n sc a with
              | none =>
                rw [q1] at q
                cases q
              | some e' =>
                rw [q1] at q
                cases q
                have hs' : starB a = false := by simpa using hs
                have pa := s_cons hs' (S.e sc a _ X W q1 G).1 (s_nil (ca := ca) (W := W) (C := cf Ds wf k))
                have ha : ([a] : List Expr).all (fun e => !starB e) = true := by simp [hs']
                exact ⟨sT G (b_lst2 G.calm) hx (by decide +kernel) ha pa (by decide) (by decide), fun _ => sTF G (b_lst2F G.calm) hx (by decide +kernel) ha pa (by decide) (by decide)⟩
      · cases q
    · split at q
      · rename_i hxe
        subst hxe
        split at q
        · rename_i a
          split at q
          · rename_i a' hr
            cases q1 : trE T N n sc a' with
            | none =>
              rw [q1] at q
              cases q
            | some e' =>
              rw [q1] at q
              cases q
              unfold isSet at hr
              split at hr
              · rename_i y p3 b p4
                split at hr
                · rename_i c
                  cases hr
                  simp only [Bool.and_eq_true, decide_eq_true_eq, Bool.not_eq_true'] at c
                  obtain ⟨⟨rfl, c2⟩, c3⟩ := c
                  exact ⟨s_lens G hx c2 c3 (S.e sc a' _ X W q1 G).1, fun z => absurd (nf z) (by decide)⟩
                · cases hr
              · cases hr
          · split at q
            · cases q
            · rename_i hs
              cases q1 : trE T N n sc a with
              | none =>
                rw [q1] at q
                cases q
              | some e' =>
                rw [q1] at q
                cases q
                exact ⟨s_len G hx (by simpa using hs) (S.e sc a _ X W q1 G).1, fun z => absurd (nf z) (by decide)⟩
        · cases q
      · split at q
        · rename_i b hb
          cases q1 : trA T N n sc as with
          | none =>
            rw [q1] at q
            cases q
          | some as' =>
            rw [q1] at q
            cases q
            obtain ⟨pa, hst⟩ := S.a sc as _ X W q1 G
            cases as with
            | nil =>
              cases n with
              | zero => cases q1
              | succ m =>
                cases q1
                have vac : ∀ σ H Q, tE X.K ca W (ev (cf Ds wf k) (.blt b .nil)) σ H Q → False := fun σ H Q t => by
                  obtain ⟨Y, F, ρ, h, s, S, E, a⟩ := t
                  replace a : Aft X.K ca W Y F ρ h.length σ Q (opt h ((bltD b []).map .d)) := a
                  have e : bltD b [] = none := by cases b <;> rfl
                  rw [e] at a
                  exact a
                have vacF : ∀ σ H Q, tF X.K ca W (ev (cf Ds wf k) (.blt b .nil)) σ H Q → False := fun σ H Q t => by
                  obtain ⟨Y, F, ρ, h, s, S, E, a⟩ := t
                  replace a : AftF X.K ca W Y F ρ h.length σ Q (opt h ((bltD b []).map .d)) := a
                  have e : bltD b [] = none := by cases b <;> rfl
                  rw [e] at a
                  exact a
                exact ⟨⟨fun pins s σ H Q I t => (vac σ H Q t).elim⟩, fun _ => ⟨fun pins s σ H Q I t => (vacF σ H Q t).elim⟩⟩
            | cons e es =>
              have hc := G.calm
              have nd : (x == ("__debug__" : Str)) = false := (okName_ok hn).1
              unfold trB at hb
              split at hb
              · rename_i hxe
                cases hb
                subst hxe
                exact ⟨sB G (rCl_V (by intro z; cases z) (b_sum hc)) hx (by decide +kernel) hst pa (by decide) nd, fun z => absurd (nf z) (by decide)⟩
              · split at hb
                · rename_i hxe
                  cases hb
                  subst hxe
                  exact ⟨sB G (rCl_V (by intro z; cases z) (b_all hc)) hx (by decide +kernel) hst pa (by decide) nd, fun z => absurd (nf z) (by decide)⟩
                · split at hb
                  · rename_i hxe
                    cases hb
                    subst hxe
                    exact ⟨sB G (rCl_V (by intro z; cases z) (b_any hc)) hx (by decide +kernel) hst pa (by decide) nd, fun z => absurd (nf z) (by decide)⟩
                  · split at hb
                    · rename_i hxe
                      subst hxe
                      split at hb
                      · cases hb
                        exact ⟨sB G (rCl_V (by intro z; cases z) (b_max hc)) hx (by decide +kernel) hst pa (by decide) nd, fun z => absurd (nf z) (by decide)⟩
                      · cases hb
                        exact ⟨sB G (rCl_V (by intro z; cases z) (b_max2 hc)) hx (by decide +kernel) hst pa (by decide) nd, fun z => absurd (nf z) (by decide)⟩
                    · split at hb
                      · rename_i hxe
                        subst hxe
                        split at hb
                        · cases hb
                          exact ⟨sB G (rCl_V (by intro z; cases z) (b_min hc)) hx (by decide +kernel) hst pa (by decide) nd, fun z => absurd (nf z) (by decide)⟩
                        · cases hb
                          exact ⟨sB G (rCl_V (by intro z; cases z) (b_min2 hc)) hx (by decide +kernel) hst pa (by decide) nd, fun z => absurd (nf z) (by decide)⟩
                      · split at hb
                        · rename_i hxe
                          cases hb
                          subst hxe
                          exact ⟨sT G (rCl_V (by intro z; cases z) b_tup) hx (by decide +kernel) hst pa (by decide) nd, fun z => absurd (nf z) (by decide)⟩
                        · split at hb
                          · rename_i hxe
                            cases hb
                            subst hxe
                            exact ⟨sB G (rCl_V (by intro z; cases z) b_abs) hx (by decide +kernel) hst pa (by decide) nd, fun z => absurd (nf z) (by decide)⟩
                          · split at hb
                            · rename_i hxe
                              cases hb
                              subst hxe
                              exact ⟨sT G (rCl_V (by intro z; cases z) b_int) hx (by decide +kernel) hst pa (by decide) nd, fun z => absurd (nf z) (by decide)⟩
                            · split at hb
                              · rename_i hxe
                                cases hb
                                subst hxe
                                have vac : ∀ σ H Q, tE X.K ca W (ev (cf Ds wf k) (.blt .str as')) σ H Q → tE X.K ca W (ev (cf Ds wf k) (.blt .str as')) σ H Q := fun _ _ _ t => t
                                exact ⟨sT G (rCl_V (by intro z; cases z) b_str) hx (by decide +kernel) hst pa (by decide) nd, fun z => absurd (nf z) (by decide)⟩
                              · split at hb
                                · rename_i hxe
                                  cases hb
                                  subst hxe
                                  have pf := sBF (p := p) (pos := pos) G (rClF_V (by intro z; cases z) (b_sortedF G.hu)) hx (by decide +kernel) hst pa (by decide) nd
                                  exact ⟨tE_of_tF (fun s h v h' e => sorted_list s h v h' e) pf, fun _ => pf⟩
                                · cases hb
        · cases q
end
end Z

set_option linter.all false
set_option autoImplicit false
set_option maxRecDepth 100000
set_option maxHeartbeats 4000000
/-! Z13: every expression, by induction. -/
namespace Z
open PySem L2 PySem.Spec PyProof.Rows
variable [TC : TabsC]
section
variable {T : Tab} {Ds : List Dfn} {wf k : Nat} {ca : Nat → Addr} {N : List Str}
/-- the names of a comprehension's block -/
theorem Gd.blk {X : Cx} {sc : Scope} {W : WX} (G : Gd T Ds wf k ca N X sc W) (s : Shared) (H : Hp) (scope : Scope) (C : Addr) (cl : List (Str × Addr)) (fp : List Addr) :
    Gd T Ds wf k ca N (X.blk s H scope (compEnvC scope cl C X.env) fp) (relS scope sc) WF := by
  refine ⟨G.eN, G.nd, ?_, G.calm, G.room, takes0, G.fx⟩
  show relS scope X.env.scope = _
  rw [G.eS]
theorem map_some {α β : Type} {o : Option α} {f : α → β} {b : β} (e : o.map f = some b) : ∃ a, o = some a ∧ f a = b := Option.map_eq_some_iff.mp e
/-- no set display -/
theorem set_no {sc : Scope} {e : Expr} {it : E} {n : Nat} (q : trI T N n sc e = some it) (env : PySem.Env) (x : Value) : foldedSetIterable e env x = pure x := by
  cases e with
  | Set es j p =>
    cases n with
    | zero => cases q
    | succ n =>
      cases n with
      | zero => cases q
      | succ n => cases q
  | _ => rfl
theorem snd_lc {n : Nat} (S : Snd T Ds wf k ca N n) {sc : Scope} {elt tg iter : Expr} {ifs : List Expr} {scope : Scope} {pos : Pos} {X : Cx} {W : WX} {it c e : E} {t : Tg} (G : Gd T Ds wf k ca N X sc W)
    (q1 : trI T N n sc iter = some it) (q2 : trTg N (relS scope sc) (fnB scope (relS scope sc)) tg = some t) (q3 : trIf T N n (relS scope sc) ifs = some c) (q4 : trE T N n (relS scope sc) elt = some e)
    (h1 : blkC N sc scope (ownOf N scope) = true) (h2 : tgIn ((ownOf N scope).map (·.2)) t = true) (h3 : okIt it t = true) :
    PE X (.ListComp elt [⟨tg, iter, ifs, 0⟩] scope pos) (tF X.K ca W (ev (cf Ds wf k) (.lc t it c e ((ownOf N scope).map (·.2))))) := by
  have ok : BlkOk X.N X.env.scope scope (ownOf N scope) := by
    rw [G.eN, G.eS]
    exact blkOk_by h1
  refine PE.imp (pe_lc (own := ownOf N scope) (wi := tI X.K ca W (evi (cf Ds wf k) it)) (g := gT X.K t) (tt := tT X.K ca WF (ev (cf Ds wf k) c)) (te := tE X.K ca WF (ev (cf Ds wf k) e)) G.calm (by rw [G.eN]; exact G.nd) (S.i sc iter it X W t tg _ _ q1 G q2 h3) ok
    (fun s H C cl fp => ?_) (fun s H C cl fp => S.f _ ifs c _ _ q3 (G.blk s H scope C cl fp)) (fun s H C cl fp => (S.e _ elt e _ _ q4 (G.blk s H scope C cl fp)).1) ?_) fun σ H Q t => tLc_Z h2 σ H Q t
  · have Gb := G.blk s H scope C cl fp
    refine tg_ok Gb.eN G.nd Gb.eS G.calm (fun x hx => ?_) q2
    unfold fnB at hx
    rcases Bool.or_eq_true_iff.mp hx with z | z
    · exact .inl z
    · exact .inr (only_ok z)
  · exact fun x => set_no q1 X.env x
theorem mut_ok {sc : Scope} {e : Expr} {i : Nat} (h : isMut T N sc e = some i) : ∃ x p, e = .Name x p ∧ visB sc x = true ∧ okName x = true ∧ slot N x = some i := by
  unfold isMut at h
  split at h
  · rename_i x p
    split at h
    · rename_i c
      obtain ⟨c1, c2⟩ := Bool.and_eq_true_iff.mp c
      split at h
      · rename_i j q
        split at h
        · cases h
          exact ⟨x, p, rfl, c1, c2, q⟩
        · cases h
      · cases h
    · cases h
  · cases h
theorem snd_lw {n : Nat} (S : Snd T Ds wf k ca N n) {sc : Scope} {elt tg iter : Expr} {ifs : List Expr} {scope : Scope} {pos : Pos} {X : Cx} {W : WX} {i : Nat} {c e : E} {t : Tg} (G : Gd T Ds wf k ca N X sc W)
    (q1 : isMut T N sc iter = some i) (q2 : trTg N (relS scope sc) (fnB scope (relS scope sc)) tg = some t) (q3 : trIf T N n (relS scope sc) ifs = some c) (q4 : trE T N n (relS scope sc) elt = some e)
    (h1 : blkC N sc scope (ownOf N scope) = true) (h2 : tgIn ((ownOf N scope).map (·.2)) t = true) :
    PE X (.ListComp elt [⟨tg, iter, ifs, 0⟩] scope pos) (tF X.K ca W (ev (cf Ds wf k) (.lw t i c e ((ownOf N scope).map (·.2))))) := by
  have ok : BlkOk X.N X.env.scope scope (ownOf N scope) := by
    rw [G.eN, G.eS]
    exact blkOk_by h1
  obtain ⟨x, p, rfl, v1, v2, v3⟩ := mut_ok q1
  refine PE.imp (pe_lc (own := ownOf N scope) (wi := iList X.K (tE X.K ca W (varR i))) (g := gT X.K t) (tt := tT X.K ca WF (ev (cf Ds wf k) c)) (te := tE X.K ca WF (ev (cf Ds wf k) e)) G.calm (by rw [G.eN]; exact G.nd) (pi_list (s_var (C := cf Ds wf k) G v1 v2 v3)) ok
    (fun s H C cl fp => ?_) (fun s H C cl fp => S.f _ ifs c _ _ q3 (G.blk s H scope C cl fp)) (fun s H C cl fp => (S.e _ elt e _ _ q4 (G.blk s H scope C cl fp)).1) fun _ => rfl) fun σ H Q t => tLw_Z h2 σ H Q t
  have Gb := G.blk s H scope C cl fp
  refine tg_ok Gb.eN G.nd Gb.eS G.calm (fun x hx => ?_) q2
  unfold fnB at hx
  rcases Bool.or_eq_true_iff.mp hx with z | z
  · exact .inl z
  · exact .inr (only_ok z)
theorem snd_dc {n : Nat} (S : Snd T Ds wf k ca N n) {sc : Scope} {kx vx tg iter : Expr} {ifs : List Expr} {scope : Scope} {pos : Pos} {X : Cx} {W : WX} {it c kk e : E} {t : Tg} (G : Gd T Ds wf k ca N X sc W)
    (q1 : trI T N n sc iter = some it) (q2 : trTg N (relS scope sc) (fnB scope (relS scope sc)) tg = some t) (q3 : trIf T N n (relS scope sc) ifs = some c) (q5 : trE T N n (relS scope sc) kx = some kk) (q4 : trE T N n (relS scope sc) vx = some e)
    (h1 : blkC N sc scope (ownOf N scope) = true) (h2 : tgIn ((ownOf N scope).map (·.2)) t = true) (h3 : okIt it t = true) :
    PE X (.DictComp kx vx [⟨tg, iter, ifs, 0⟩] scope pos) (tE X.K ca W (ev (cf Ds wf k) (.dcm t it c kk e ((ownOf N scope).map (·.2))))) := by
  have ok : BlkOk X.N X.env.scope scope (ownOf N scope) := by
    rw [G.eN, G.eS]
    exact blkOk_by h1
  refine PE.imp (pe_dc (own := ownOf N scope) (wi := tI X.K ca W (evi (cf Ds wf k) it)) (g := gT X.K t) (tt := tT X.K ca WF (ev (cf Ds wf k) c)) (tk := tE X.K ca WF (ev (cf Ds wf k) kk)) (tv := tE X.K ca WF (ev (cf Ds wf k) e)) G.calm (by rw [G.eN]; exact G.nd) (S.i sc iter it X W t tg _ _ q1 G q2 h3) ok
    (fun s H C cl fp => ?_) (fun s H C cl fp => S.f _ ifs c _ _ q3 (G.blk s H scope C cl fp)) (fun s H C cl fp => (S.e _ kx kk _ _ q5 (G.blk s H scope C cl fp)).1) (fun s H C cl fp => (S.e _ vx e _ _ q4 (G.blk s H scope C cl fp)).1) ?_) fun σ H Q t => tDc_Z h2 σ H Q t
  · have Gb := G.blk s H scope C cl fp
    refine tg_ok Gb.eN G.nd Gb.eS G.calm (fun x hx => ?_) q2
    unfold fnB at hx
    rcases Bool.or_eq_true_iff.mp hx with z | z
    · exact .inl z
    · exact .inr (only_ok z)
  · exact fun x => set_no q1 X.env x
theorem isN_eq {K : PySem.W.Frag} {F : Hp} {ρ : Nat → Addr} {n : Nat} {v : Vl} {x : V} (r : RV K F ρ n v x) : isNoneV v = decide (x = .non) := by
  cases v with
  | d y =>
    cases r <;> rfl
  | r i =>
    obtain ⟨_, rfl⟩ := r
    rfl
theorem mdN {K : PySem.W.Frag} {W : WX} {C : Cfg} {ea : E} {σ : L2.St} {H : Hp} {Q : VK} (t : tE K ca W (ev C (.isN ea)) σ H Q) : tIsN (tE K ca W (ev C ea)) σ H Q := by
  refine tE_map (fun x H1 q => ?_) (md_one t)
  obtain ⟨Y, F, ρ, h, σ', v, S, r, a⟩ := q
  rw [← isN_eq r]
  exact fin_d S a (.bl _)
theorem mdNn {K : PySem.W.Frag} {W : WX} {C : Cfg} {ea : E} {σ : L2.St} {H : Hp} {Q : VK} (t : tE K ca W (ev C (.isnN ea)) σ H Q) : tNotN (tE K ca W (ev C ea)) σ H Q := by
  refine tE_map (fun x H1 q => ?_) (md_one t)
  obtain ⟨Y, F, ρ, h, σ', v, S, r, a⟩ := q
  rw [← isN_eq r]
  exact fin_d S a (.bl _)
theorem leaf {X : Cx} {W : WX} {e : Expr} {r : Env → Hep → R Vl} (p : PE X e (tE X.K ca W r)) (hf : fresh e = false) (he : ∀ whole, isTrue e X.env whole = (do let v ← whole; standAt e.pos; holding [v] (truthy v))) :
    PE X e (tE X.K ca W r) ∧ (isIf e = false → PT X e (tT X.K ca W r)) ∧ (fresh e = true → PE X e (tF X.K ca W r)) :=
  ⟨p, fun _ => t_val p he, fun z => by rw [hf] at z; cases z⟩
theorem leafF {X : Cx} {W : WX} {e : Expr} {r : Env → Hep → R Vl} (p : PE X e (tE X.K ca W r)) (pf : fresh e = true → PE X e (tF X.K ca W r)) (he : ∀ whole, isTrue e X.env whole = (do let v ← whole; standAt e.pos; holding [v] (truthy v))) :
    PE X e (tE X.K ca W r) ∧ (isIf e = false → PT X e (tT X.K ca W r)) ∧ (fresh e = true → PE X e (tF X.K ca W r)) :=
  ⟨p, fun _ => t_val p he, pf⟩
theorem snd_e {n : Nat} (S : Snd T Ds wf k ca N n) : ∀ sc e ir X W, trE T N (n + 1) sc e = some ir → Gd T Ds wf k ca N X sc W →
    PE X e (tE X.K ca W (ev (cf Ds wf k) ir)) ∧ (isIf e = false → PT X e (tT X.K ca W (ev (cf Ds wf k) ir))) ∧ (fresh e = true → PE X e (tF X.K ca W (ev (cf Ds wf k) ir))) := by
  intro sc e ir X W q G
  unfold trE at q
  split at q
  · -- Name
    rename_i x p
    split at q
    · rename_i h1
      split at q
      · rename_i h2
        obtain ⟨i, h3, rfl⟩ := map_some q
        exact leaf (s_var G h1 h2 h3) rfl fun _ => rfl
      · cases q
    · split at q
      · rename_i h1
        obtain ⟨d, h3, rfl⟩ := map_some q
        exact leaf (s_glob G h1 h3) rfl fun _ => rfl
      · cases q
  · -- Constant
    obtain ⟨d, h3, rfl⟩ := map_some q
    exact leaf (s_cnst h3) rfl fun _ => rfl
  · -- BinOp
    rename_i a op b p
    split at q
    · rename_i o a' b' h1 h2 h3
      cases q
      have pa := (S.e sc a _ X W h2 G).1
      have pb := (S.e sc b _ X W h3 G).1
      refine leafF (s_bin h1 pa pb) (fun z => ?_) fun _ => rfl
      cases op with
      | Add =>
        cases h1
        exact s_binF pa pb
      | _ => cases z
    · cases q
  · -- neg
    obtain ⟨a', h3, rfl⟩ := map_some q
    exact leaf (s_neg (S.e sc _ _ X W h3 G).1) rfl fun _ => rfl
  · -- not
    split at q
    · cases q
    · rename_i hn
      obtain ⟨a', h3, rfl⟩ := map_some q
      obtain ⟨p1, p2, _⟩ := S.e sc _ _ X W h3 G
      exact ⟨s_not p1, fun _ => t_not (p2 (by simpa using hn)), fun z => by cases z⟩
  · -- BoolOp
    obtain ⟨p1, p2⟩ := S.l sc _ _ _ X W _ q G
    exact ⟨p1, fun _ => p2.pt, fun z => by cases z⟩
  · -- is None
    obtain ⟨a', h3, rfl⟩ := map_some q
    have pa := (S.e sc _ _ X W h3 G).1
    exact ⟨s_isN pa, fun _ => t_cmpv (pt_cmp (pc_isN pa)) fun σ H Q t => mdN t, fun z => by cases z⟩
  · -- is not None
    obtain ⟨a', h3, rfl⟩ := map_some q
    have pa := (S.e sc _ _ X W h3 G).1
    exact ⟨s_isnN pa, fun _ => t_cmpv (pt_cmp (pc_notN pa)) fun σ H Q t => mdNn t, fun z => by cases z⟩
  · -- Compare
    split at q
    · rename_i o a' b' h1 h2 h3
      split at q
      · cases q
      · rename_i hm
        cases q
        obtain ⟨p1, p2⟩ := s_cmp G h1 (S.e sc _ _ X W h2 G).1 (S.e sc _ _ X W h3 G).1 (by simpa using hm)
        exact ⟨p1, fun _ => p2, fun z => by cases z⟩
    · cases q
  · -- chain
    split at q
    · rename_i o o' a' b' c' h1 h1' h2 h3 h4
      split at q
      · cases q
      · rename_i hm
        cases q
        simp only [Bool.or_eq_true, not_or, Bool.not_eq_true] at hm
        obtain ⟨p1, p2⟩ := s_chn G h1 h1' (S.e sc _ _ X W h2 G).1 (S.e sc _ _ X W h3 G).1 (S.e sc _ _ X W h4 G).1 hm.2
        exact ⟨p1, fun _ => p2, fun z => by cases z⟩
    · cases q
  · -- IfExp
    split at q
    · cases q
    · rename_i hn
      split at q
      · rename_i c' a' b' h1 h2 h3
        cases q
        exact ⟨s_ite ((S.e sc _ _ X W h1 G).2.1 (by simpa using hn)) (S.e sc _ _ X W h2 G).1 (S.e sc _ _ X W h3 G).1, ⟨fun z => (nomatch z), fun z => (nomatch z)⟩⟩
      · cases q
  · -- Tuple
    obtain ⟨a', h3, rfl⟩ := map_some q
    exact leaf (s_tup (S.a sc _ _ X W h3 G).1) rfl fun _ => rfl
  · -- List
    obtain ⟨a', h3, rfl⟩ := map_some q
    have pa := (S.a sc _ _ X W h3 G).1
    exact leafF (s_lst pa) (fun _ => s_lstF pa) fun _ => rfl
  · -- slice
    split at q
    · rename_i a' lo hi h1 h2 h3
      cases q
      exact leaf (s_slc (S.e sc _ _ X W h1 G).1 (S.o sc _ _ X W h2 G) (S.o sc _ _ X W h3 G)) rfl fun _ => rfl
    · cases q
  · cases q
  · -- index
    rename_i a i p hs1 hs2
    split at q
    · rename_i a' i' h1 h2
      cases q
      exact leaf (s_idx G (fun lo hi st p2 z => hs2 lo hi st p2 z) (S.e sc _ _ X W h1 G).1 (S.e sc _ _ X W h2 G).1) rfl fun _ => rfl
    · cases q
  · -- Call
    rename_i x p as pos
    split at q
    · rename_i hg
      split at q
      · rename_i f hf
        split at q
        · cases q
        · rename_i hne
          obtain ⟨as', h3, rfl⟩ := map_some q
          obtain ⟨pa, hst⟩ := S.a sc as _ X W h3 G
          cases as with
          | nil => exact absurd rfl hne
          | cons e es =>
            simp only [Bool.or_eq_true, not_or, Bool.not_eq_true] at hne
            refine leafF (s_call G hg (find_ok hf) hst pa) (fun z => ?_) fun _ => rfl
            have z : (decide (x = "list") || decide (x = "sorted")) = true := z
            rw [hne.1.2, hne.2] at z
            cases z
      · split at q
        · rename_i hb
          simp only [Bool.and_eq_true] at hb
          obtain ⟨p1, p2⟩ := S.c sc x as ir X W p pos q hb.1 hb.2 G
          exact leafF p1 p2 fun _ => rfl
        · cases q
    · cases q
  · -- ListComp
    rename_i elt tg iter ifs scope pos
    dsimp only at q
    split at q
    · rename_i i hmu
      split at q
      · rename_i t c e h2 h3 h4
        split at q
        · rename_i hc
          cases q
          simp only [Bool.and_eq_true] at hc
          have pf := snd_lw (pos := pos) S G hmu h2 h3 h4 hc.1 hc.2
          exact leafF (tE_of_tF (fun s h v h' e => lw_list s h v h' e) pf) (fun _ => pf) fun _ => rfl
        · cases q
      · cases q
    · split at q
      · rename_i it t c e h1 h2 h3 h4
        split at q
        · rename_i hc
          cases q
          simp only [Bool.and_eq_true] at hc
          have pf := snd_lc (pos := pos) S G h1 h2 h3 h4 hc.1.1 hc.1.2 hc.2
          exact leafF (tE_of_tF (fun s h v h' e => lc_list s h v h' e) pf) (fun _ => pf) fun _ => rfl
        · cases q
      · cases q
  · -- {}
    split at q
    · cases q
    · rename_i hw
      cases q
      exact leaf (s_dnw (G.fx.wr (by simpa using hw))) rfl fun _ => rfl
  · -- a method
    split at q
    · rename_i m a b' h1 h2 h3
      split at q
      · cases q
      · rename_i hc
        cases q
        simp only [Bool.or_eq_true, Bool.not_eq_true', not_or, Bool.not_eq_true, Bool.not_eq_false] at hc
        exact leaf (s_mth G h1 hc.2 hc.1.1 hc.1.2 (S.e sc _ _ X W h2 G).1 (s_cons hc.1.1 (S.e sc _ _ X W h3 G).1 s_nil)) rfl fun _ => rfl
    · cases q
  · -- DictComp
    dsimp only at q
    split at q
    · rename_i it t c kk e h1 h2 h3 h4 h5
      split at q
      · rename_i hc
        cases q
        simp only [Bool.and_eq_true] at hc
        exact leaf (snd_dc S G h1 h2 h3 h4 h5 hc.1.1 hc.1.2 hc.2) rfl fun _ => rfl
      · cases q
    · cases q
  · cases q
end
end Z

set_option linter.all false
set_option autoImplicit false
set_option maxRecDepth 100000
set_option maxHeartbeats 4000000
/-! Z14: statements. -/
namespace Z
open PySem L2 PySem.Spec PyProof.Rows
variable [TC : TabsC]
section
variable (K : PySem.W.Frag) (ca : Nat → Addr) (W : WX)
/-- what is wanted behind a statement -/
def AftS (Y F : Hp) (ρ : Nat → Addr) (n : Nat) (B : Ends) : RS → Prop
  | .nx s h => ∀ σ' F' ρ' H', Ext F ρ n F' ρ' h.length → Sim K Y F' ρ' h H' → EnvR K F' ρ' h.length s σ' → B.nx σ' H'
  | .rt v h => ∀ u F' ρ' H', Ext F ρ n F' ρ' h.length → Sim K Y F' ρ' h H' → RV K F' ρ' h.length v u → B.rt u H'
  | .ex c h => ∀ σ' F' ρ' H', Ext F ρ n F' ρ' h.length → Sim K Y F' ρ' h H' → W (.ref (ca c)) none σ' H'
  | .no => False
def tS (r : Env → Hep → RS) : TS := fun B σ H => ∃ Y F ρ h s, Sim K Y F ρ h H ∧ EnvR K F ρ h.length s σ ∧ AftS K ca W Y F ρ h.length B (r s h)
end
section
variable {K : PySem.W.Frag} {ca : Nat → Addr} {W : WX} {Y F F1 : Hp} {ρ ρ1 : Nat → Addr} {n n1 : Nat} {σ : L2.St} {H : Hp} {B : Ends} {h : Hep}
theorem AftS.mono {r : RS} (e : Ext F ρ n F1 ρ1 n1) (a : AftS K ca W Y F ρ n B r) : AftS K ca W Y F1 ρ1 n1 B r := by
  cases r with
  | nx s h => exact fun σ' F' ρ' H' x S E => a σ' F' ρ' H' (e.trans x) S E
  | rt v h => exact fun u F' ρ' H' x S r => a u F' ρ' H' (e.trans x) S r
  | ex c h => exact fun σ' F' ρ' H' x S => a σ' F' ρ' H' (e.trans x) S
  | no => exact a
/-- other ends -/
theorem AftS.imp {r : RS} {B' : Ends} (a : AftS K ca W Y F ρ n B r) (h1 : ∀ σ H, B.nx σ H → B'.nx σ H) (h2 : ∀ u H, B.rt u H → B'.rt u H) : AftS K ca W Y F ρ n B' r := by
  cases r with
  | nx s h => exact fun σ' F' ρ' H' x S E => h1 _ _ (a σ' F' ρ' H' x S E)
  | rt v h => exact fun u F' ρ' H' x S r => h2 _ _ (a u F' ρ' H' x S r)
  | ex c h => exact a
  | no => exact a
/-- a statement, then another -/
theorem AftS.seq {r : RS} {f : Env → Hep → RS} (a : AftS K ca W Y F ρ n B (sb r f)) : AftS K ca W Y F ρ n { B with nx := fun σ H => ∃ F' ρ' h' s', Ext F ρ n F' ρ' h'.length ∧ Sim K Y F' ρ' h' H ∧ EnvR K F' ρ' h'.length s' σ ∧ AftS K ca W Y F' ρ' h'.length B (f s' h') } r := by
  cases r with
  | nx s h => exact fun σ' F' ρ' H' x S E => ⟨F', ρ', h, s, x, S, E, AftS.mono x a⟩
  | rt v h => exact a
  | ex c h => exact a
  | no => exact a
/-- a value first -/
theorem rb_E {ra : Env → Hep → R Vl} {g : Vl → Env → Hep → RS} {Q : VK} (t : tS K ca W (fun s h => rb (ra s h) fun v h1 => g v s h1) B σ H)
    (k : ∀ u F' ρ' H' Y s v h1, Sim K Y F' ρ' h1 H' → EnvR K F' ρ' h1.length s σ → RV K F' ρ' h1.length v u → AftS K ca W Y F' ρ' h1.length B (g v s h1) → Q u H') : tE K ca W ra σ H Q := by
  obtain ⟨Y, F, ρ, h, s, S, E, a⟩ := t
  dsimp only at a
  refine ⟨Y, F, ρ, h, s, S, E, ?_⟩
  cases e : ra s h with
  | ok v h1 =>
    rw [e] at a
    exact fun u F' ρ' H' x S' rv => k u F' ρ' H' Y s v h1 S' (E.mono x) rv (AftS.mono x a)
  | ex c h1 =>
    rw [e] at a
    exact fun F' ρ' H' x S' => a σ F' ρ' H' x S'
  | no =>
    rw [e] at a
    exact a
theorem rb_A {ra : Env → Hep → R (List Vl)} {g : List Vl → Env → Hep → RS} {Q : List V → Hp → Prop} (t : tS K ca W (fun s h => rb (ra s h) fun v h1 => g v s h1) B σ H)
    (k : ∀ u F' ρ' H' Y s v h1, Sim K Y F' ρ' h1 H' → EnvR K F' ρ' h1.length s σ → RVs K F' ρ' h1.length v u → AftS K ca W Y F' ρ' h1.length B (g v s h1) → Q u H') : tA K ca W ra σ H Q := by
  obtain ⟨Y, F, ρ, h, s, S, E, a⟩ := t
  dsimp only at a
  refine ⟨Y, F, ρ, h, s, S, E, ?_⟩
  cases e : ra s h with
  | ok v h1 =>
    rw [e] at a
    exact fun u F' ρ' H' x S' rv => k u F' ρ' H' Y s v h1 S' (E.mono x) rv (AftS.mono x a)
  | ex c h1 =>
    rw [e] at a
    exact fun F' ρ' H' x S' => a σ F' ρ' H' x S'
  | no =>
    rw [e] at a
    exact a
theorem rb_T {ra : Env → Hep → R Vl} {g : Bool → Env → Hep → RS} {Q : Bool → Hp → Prop} (t : tS K ca W (fun s h => rb (ra s h) fun v h1 => match v with
    | .d (.bool true) => g true s h1
    | .d (.bool false) => g false s h1
    | _ => .no) B σ H) (k : ∀ b H', tS K ca W (g b) B σ H' → Q b H') : tT K ca W ra σ H Q := by
  obtain ⟨Y, F, ρ, h, s, S, E, a⟩ := t
  dsimp only at a
  refine ⟨Y, F, ρ, h, s, S, E, ?_⟩
  cases e : ra s h with
  | ok v h1 =>
    rw [e] at a
    unfold rb at a
    dsimp only at a
    split at a
    · exact ⟨true, rfl, fun F' ρ' H' x S' => k true H' ⟨Y, F', ρ', h1, s, S', E.mono x, AftS.mono x a⟩⟩
    · exact ⟨false, rfl, fun F' ρ' H' x S' => k false H' ⟨Y, F', ρ', h1, s, S', E.mono x, AftS.mono x a⟩⟩
    · exact a.elim
  | ex c h1 =>
    rw [e] at a
    exact fun F' ρ' H' x S' => a σ F' ρ' H' x S'
  | no =>
    rw [e] at a
    exact a
theorem tE_frame {K : PySem.W.Frag} {r : Env → Hep → R Vl} {Q : VK} (t : tE K ca W r σ H Q) : tE K ca W r σ H Q := t
end
/-- where a statement stands -/
structure GdS (T : Tab) (Ds : List Dfn) (wf k : Nat) (ca : Nat → Addr) (N : List Str) (X : Cx) (sc : Scope) (W : WX) : Prop where
  g : Gd T Ds wf k ca N X sc W
  fn : ∀ x, X.fn x = true
  ps : PassesOwn (model X.prog X.w) X.A X.env X.xe
theorem PS.imp {X : Cx} {st : Stmt} {t t' : TS} (p : PS X st t) (i : ∀ B σ H, t' B σ H → t B σ H) : PS X st t' := ⟨fun pins s σ H B I q => p.run pins s σ H B I (i B σ H q)⟩
theorem PSs.imp {X : Cx} {st : List Stmt} {t t' : TS} (p : PSs X st t) (i : ∀ B σ H, t' B σ H → t B σ H) : PSs X st t' := ⟨fun pins s σ H B I q => p.run pins s σ H B I (i B σ H q)⟩
section
variable {T : Tab} {Ds : List Dfn} {wf k : Nat} {ca : Nat → Addr} {N : List Str} {X : Cx} {sc : Scope} {W : WX} {C : Cfg}
theorem z_skip {st : Stmt} (p : PS X st tNext) : PS X st (tS X.K ca W (exec C .skip)) := PS.imp p fun B σ H ⟨Y, F, ρ, h, s, S, E, a⟩ => a σ F ρ H Ext.refl S E
theorem z_nil : PSs X [] (tS X.K ca W (exec C .skip)) := PSs.imp pss_nil fun B σ H ⟨Y, F, ρ, h, s, S, E, a⟩ => a σ F ρ H Ext.refl S E
theorem z_seq {st : Stmt} {rest : List Stmt} {a b : S} (p : PS X st (tS X.K ca W (exec C a))) (q : PSs X rest (tS X.K ca W (exec C b))) : PSs X (st :: rest) (tS X.K ca W (exec C (.seq a b))) := by
  refine PSs.imp (pss_cons p q) fun B σ H ⟨Y, F, ρ, h, s, S, E, z⟩ => ⟨Y, F, ρ, h, s, S, E, AftS.imp (AftS.seq (show AftS X.K ca W Y F ρ h.length B (sb (exec C a s h) fun s1 h1 => exec C b s1 h1) from z)) (fun σ1 H1 q => ?_) fun _ _ q => q⟩
  obtain ⟨F', ρ', h', s', x, S', E', a'⟩ := q
  exact ⟨Y, F', ρ', h', s', S', E', a'⟩
theorem z_exp {e : Expr} {ea : E} {pos : Pos} (hc : isCall e = true) (p : PE X e (tE X.K ca W (ev C ea))) : PS X (.Expr e pos) (tS X.K ca W (exec C (.exp ea))) := by
  have hs : swapsWith e none pos.line X.env = pure false := by
    cases e <;> first
      | rfl
      | cases hc
  exact PS.imp (ps_expr p hs) fun B σ H t => rb_E (g := fun _ s h1 => .nx s h1) t fun u F' ρ' H' Y s v h1 S E rv a => a σ F' ρ' H' Ext.refl S E
theorem z_ret {e : Expr} {ea : E} {pos : Pos} (p : PE X e (tE X.K ca W (ev C ea))) : PS X (.Return (some e) pos) (tS X.K ca W (exec C (.ret ea))) :=
  PS.imp (ps_ret p) fun B σ H t => rb_E (g := fun v _ h1 => .rt v h1) t fun u F' ρ' H' Y s v h1 S E rv a => a u F' ρ' H' Ext.refl S rv
theorem z_ite {c : Expr} {a b : List Stmt} {ec : E} {sa sb' : S} {pos : Pos} (pc : PT X c (tT X.K ca W (ev C ec))) (pa : PSs X a (tS X.K ca W (exec C sa))) (pb : PSs X b (tS X.K ca W (exec C sb'))) : PS X (.If c a b pos) (tS X.K ca W (exec C (.ite ec sa sb'))) :=
  PS.imp (ps_if pc pa pb) fun B σ H t => rb_T (g := fun b => if b then exec C sa else exec C sb') (t := t) fun b H' q => by
    cases b with
    | true => exact q
    | false => exact q
/-- name = e -/
theorem asg_t {ea : E} {i : Nat} {B : Ends} {σ : L2.St} {H : Hp} (t : tS X.K ca W (exec C (.asg i ea)) B σ H) : tAsg (tE X.K ca W (ev C ea)) (gName i) B σ H :=
  rb_E (g := fun v s h1 => .nx (s.set i (some v)) h1) t fun u F' ρ' H' Y s v h1 S E rv a => a _ F' ρ' H' Ext.refl S (E.set rv i)
theorem swF {e : Expr} {y : Str} {py : Pos} {l : Nat} {env : PySem.Env} (hk : env.scope = sc) (h1 : lcOk sc e = true) : swapsWith e (some (.Name y py)) l env = pure (swB sc y py e) := by
  cases e with
  | ListComp elt gs scope pos =>
    have hf : sc.kind = .function := by
      replace h1 : isFn sc = true := h1
      unfold isFn at h1
      split at h1
      · assumption
      · cases h1
    have hb : env.blockKind = .function := by
      unfold Env.blockKind
      rw [hk, hf]
      rfl
    have hy : env.kindOf y = sc.names.lookup y := by
      show env.scope.names.lookup y = _
      rw [hk]
    unfold swapsWith swB
    simp only [hb, hy, Expr.pos]
    rfl
  | SetComp => cases h1
  | DictComp kx vx gs scope pos =>
    have hf : sc.kind = .function := by
      replace h1 : isFn sc = true := h1
      unfold isFn at h1
      split at h1
      · assumption
      · cases h1
    have hb : env.blockKind = .function := by
      unfold Env.blockKind
      rw [hk, hf]
      rfl
    have hy : env.kindOf y = sc.names.lookup y := by
      show env.scope.names.lookup y = _
      rw [hk]
    unfold swapsWith swB
    simp only [hb, hy, Expr.pos]
    rfl
  | _ => rfl
theorem Gd.hN (G : Gd T Ds wf k ca N X sc W) : X.N.Nodup := by
  rw [G.eN]
  exact G.nd
theorem Gd.at (G : Gd T Ds wf k ca N X sc W) {x : Str} {i : Nat} (e : slot N x = some i) : X.N[i]? = some x := by
  rw [G.eN]
  exact slot_ok e
theorem z_asg {x : Str} {i : Nat} {e : Expr} {ea : E} {p pos : Pos} (G : GdS T Ds wf k ca N X sc W) (hx : locB sc x = true) (hi : slot N x = some i) (pe : PE X e (tE X.K ca W (ev C ea))) (hl : lcOk sc e = true) (hs : swB sc x p e = false) :
    PS X (.Assign [.Name x p] e pos) (tS X.K ca W (exec C (.asg i ea))) := by
  have sw := swF (y := x) (py := p) (l := pos.line) G.g.eS hl
  rw [hs] at sw
  exact PS.imp (ps_set G.g.hN (G.g.at hi) (by rw [G.g.eS]; exact loc_ok hx) pe sw (.inl (G.fn x))) fun B σ H t => asg_t t
/-- a new list's cell -/
theorem celF {ea : E} {σ : L2.St} {H : Hp} {Q : VK} (t : tE X.K ca W (ev C (.cel ea)) σ H Q) : tF X.K ca W (ev C ea) σ H Q := by
  obtain ⟨Y, F, ρ, h, s, S, E, a⟩ := t
  refine ⟨Y, F, ρ, h, s, S, E, ?_⟩
  replace a : Aft X.K ca W Y F ρ h.length σ Q (bnd (ev C ea s h) fun v h1 => celV v h1) := a
  cases e : ev C ea s h with
  | ex c h1 =>
    rw [e] at a
    exact a
  | no =>
    rw [e] at a
    exact a
  | ok v h1 =>
    rw [e] at a
    replace a : Aft X.K ca W Y F ρ h.length σ Q (celV v h1) := a
    unfold celV at a
    split at a
    · rename_i xs
      refine ⟨xs, rfl, fun p vs F' ρ' H' x S' lo hp d => ?_⟩
      obtain ⟨ρ2, S2, x2, e2⟩ := S'.cell lo hp d
      refine a _ F' ρ2 H' (x.trans x2) S2 ⟨?_, ?_⟩
      · rw [List.length_append]
        exact Nat.lt_succ_self _
      · rw [e2]
    · exact a.elim
theorem s_cel {e : Expr} {ea : E} (p : PE X e (tF X.K ca W (ev C ea))) : PE X e (tE X.K ca W (ev C (.cel ea))) := PE.imp p fun σ H Q t => celF t
theorem z_setLc {n : Nat} (S : Snd T Ds wf k ca N n) {elt tg iter : Expr} {ifs : List Expr} {scope : Scope} {pos p spos : Pos} {it c e : E} {t : Tg} {y : Str} {i : Nat} (G : GdS T Ds wf k ca N X sc W) (hi : slot N y = some i)
    (q1 : trI T N n sc iter = some it) (q2 : trTg N (relS scope sc) (fnB scope (relS scope sc)) tg = some t) (q3 : trIf T N n (relS scope sc) ifs = some c) (q4 : trE T N n (relS scope sc) elt = some e)
    (h1 : blkC N sc scope (ownOf N scope) = true) (h2 : tgIn ((ownOf N scope).map (·.2)) t = true) (h3 : okIt it t = true) (hf : isFn sc = true) (hs : swB sc y p (.ListComp elt [⟨tg, iter, ifs, 0⟩] scope pos) = true) :
    PS X (.Assign [.Name y p] (.ListComp elt [⟨tg, iter, ifs, 0⟩] scope pos) spos) (tAsg (tF X.K ca W (ev (cf Ds wf k) (.lc t it c e ((ownOf N scope).map (·.2))))) (gName i)) := by
  have ok : BlkOk X.N X.env.scope scope (ownOf N scope) := by
    rw [G.g.eN, G.g.eS]
    exact blkOk_by h1
  have sw := swF (y := y) (py := p) (l := spos.line) G.g.eS (e := .ListComp elt [⟨tg, iter, ifs, 0⟩] scope pos) hf
  rw [hs] at sw
  have hl : X.env.scope.names.lookup y = some .local := by
    rw [G.g.eS]
    unfold swB at hs
    simp only [Bool.and_eq_true] at hs
    exact eq_of_beq hs.1.1
  refine PS.imp (ps_setLc (own := ownOf N scope) (wi := tI X.K ca W (evi (cf Ds wf k) it)) (g := gT X.K t) (tt := tT X.K ca WF (ev (cf Ds wf k) c)) (te := tE X.K ca WF (ev (cf Ds wf k) e)) G.g.calm G.g.hN (G.g.at hi) hl sw (S.i sc iter it X W t tg _ _ q1 G.g q2 h3) ok
    (fun s H C cl fp => ?_) (fun s H C cl fp => S.f _ ifs c _ _ q3 (G.g.blk s H scope C cl fp)) (fun s H C cl fp => (S.e _ elt e _ _ q4 (G.g.blk s H scope C cl fp)).1) (fun x => set_no q1 X.env x)) fun B σ H t => tLc_Z h2 σ H _ t
  have Gb := G.g.blk s H scope C cl fp
  refine tg_ok Gb.eN G.g.nd Gb.eS G.g.calm (fun x hx => ?_) q2
  unfold fnB at hx
  rcases Bool.or_eq_true_iff.mp hx with z | z
  · exact .inl z
  · exact .inr (only_ok z)
theorem z_setLw {n : Nat} (S : Snd T Ds wf k ca N n) {elt tg iter : Expr} {ifs : List Expr} {scope : Scope} {pos p spos : Pos} {c e : E} {t : Tg} {y : Str} {i i0 : Nat} (G : GdS T Ds wf k ca N X sc W) (hi : slot N y = some i)
    (q1 : isMut T N sc iter = some i0) (q2 : trTg N (relS scope sc) (fnB scope (relS scope sc)) tg = some t) (q3 : trIf T N n (relS scope sc) ifs = some c) (q4 : trE T N n (relS scope sc) elt = some e)
    (h1 : blkC N sc scope (ownOf N scope) = true) (h2 : tgIn ((ownOf N scope).map (·.2)) t = true) (hf : isFn sc = true) (hs : swB sc y p (.ListComp elt [⟨tg, iter, ifs, 0⟩] scope pos) = true) :
    PS X (.Assign [.Name y p] (.ListComp elt [⟨tg, iter, ifs, 0⟩] scope pos) spos) (tAsg (tF X.K ca W (ev (cf Ds wf k) (.lw t i0 c e ((ownOf N scope).map (·.2))))) (gName i)) := by
  have ok : BlkOk X.N X.env.scope scope (ownOf N scope) := by
    rw [G.g.eN, G.g.eS]
    exact blkOk_by h1
  have sw := swF (y := y) (py := p) (l := spos.line) G.g.eS (e := .ListComp elt [⟨tg, iter, ifs, 0⟩] scope pos) hf
  rw [hs] at sw
  have hl : X.env.scope.names.lookup y = some .local := by
    rw [G.g.eS]
    unfold swB at hs
    simp only [Bool.and_eq_true] at hs
    exact eq_of_beq hs.1.1
  obtain ⟨x, px, rfl, v1, v2, v3⟩ := mut_ok q1
  refine PS.imp (ps_setLc (own := ownOf N scope) (wi := iList X.K (tE X.K ca W (varR i0))) (g := gT X.K t) (tt := tT X.K ca WF (ev (cf Ds wf k) c)) (te := tE X.K ca WF (ev (cf Ds wf k) e)) G.g.calm G.g.hN (G.g.at hi) hl sw (pi_list (s_var (C := cf Ds wf k) G.g v1 v2 v3)) ok
    (fun s H C cl fp => ?_) (fun s H C cl fp => S.f _ ifs c _ _ q3 (G.g.blk s H scope C cl fp)) (fun s H C cl fp => (S.e _ elt e _ _ q4 (G.g.blk s H scope C cl fp)).1) (fun _ => rfl)) fun B σ H t => tLw_Z h2 σ H _ t
  have Gb := G.g.blk s H scope C cl fp
  refine tg_ok Gb.eN G.g.nd Gb.eS G.g.calm (fun x hx => ?_) q2
  unfold fnB at hx
  rcases Bool.or_eq_true_iff.mp hx with z | z
  · exact .inl z
  · exact .inr (only_ok z)
theorem z_setDc {n : Nat} (S : Snd T Ds wf k ca N n) {kx vx tg iter : Expr} {ifs : List Expr} {scope : Scope} {pos p spos : Pos} {it c kk e : E} {t : Tg} {y : Str} {i : Nat} (G : GdS T Ds wf k ca N X sc W) (hi : slot N y = some i)
    (q1 : trI T N n sc iter = some it) (q2 : trTg N (relS scope sc) (fnB scope (relS scope sc)) tg = some t) (q3 : trIf T N n (relS scope sc) ifs = some c) (q5 : trE T N n (relS scope sc) kx = some kk) (q4 : trE T N n (relS scope sc) vx = some e)
    (h1 : blkC N sc scope (ownOf N scope) = true) (h2 : tgIn ((ownOf N scope).map (·.2)) t = true) (h3 : okIt it t = true) (hf : isFn sc = true) (hs : swB sc y p (.DictComp kx vx [⟨tg, iter, ifs, 0⟩] scope pos) = true) :
    PS X (.Assign [.Name y p] (.DictComp kx vx [⟨tg, iter, ifs, 0⟩] scope pos) spos) (tAsg (tE X.K ca W (ev (cf Ds wf k) (.dcm t it c kk e ((ownOf N scope).map (·.2))))) (gName i)) := by
  have ok : BlkOk X.N X.env.scope scope (ownOf N scope) := by
    rw [G.g.eN, G.g.eS]
    exact blkOk_by h1
  have sw := swF (y := y) (py := p) (l := spos.line) G.g.eS (e := .DictComp kx vx [⟨tg, iter, ifs, 0⟩] scope pos) hf
  rw [hs] at sw
  have hl : X.env.scope.names.lookup y = some .local := by
    rw [G.g.eS]
    unfold swB at hs
    simp only [Bool.and_eq_true] at hs
    exact eq_of_beq hs.1.1
  refine PS.imp (ps_setDc (own := ownOf N scope) (wi := tI X.K ca W (evi (cf Ds wf k) it)) (g := gT X.K t) (tt := tT X.K ca WF (ev (cf Ds wf k) c)) (tk := tE X.K ca WF (ev (cf Ds wf k) kk)) (tv := tE X.K ca WF (ev (cf Ds wf k) e)) G.g.calm G.g.hN (G.g.at hi) hl sw (S.i sc iter it X W t tg _ _ q1 G.g q2 h3) ok
    (fun s H C cl fp => ?_) (fun s H C cl fp => S.f _ ifs c _ _ q3 (G.g.blk s H scope C cl fp)) (fun s H C cl fp => (S.e _ kx kk _ _ q5 (G.g.blk s H scope C cl fp)).1) (fun s H C cl fp => (S.e _ vx e _ _ q4 (G.g.blk s H scope C cl fp)).1) (fun x => set_no q1 X.env x)) fun B σ H t => tDc_Z h2 σ H _ t
  have Gb := G.g.blk s H scope C cl fp
  refine tg_ok Gb.eN G.g.nd Gb.eS G.g.calm (fun x hx => ?_) q2
  unfold fnB at hx
  rcases Bool.or_eq_true_iff.mp hx with z | z
  · exact .inl z
  · exact .inr (only_ok z)
end
end Z

set_option linter.all false
set_option autoImplicit false
set_option maxRecDepth 100000
set_option maxHeartbeats 4000000
/-! Z15: more statements. -/
namespace Z
open PySem L2 PySem.Spec PyProof.Rows
variable [TC : TabsC]
section
variable {T : Tab} {Ds : List Dfn} {wf k : Nat} {ca : Nat → Addr} {N : List Str} {X : Cx} {sc : Scope} {W : WX} {C : Cfg}
/-! ### several names -/
theorem z_unp {ts : List Expr} {is : List Nat} {e : Expr} {ea : E} {j : Nat} {p pos : Pos} (G : GdS T Ds wf k ca N X sc W) (hn : trNames N sc all1 ts = some is) (ht : isTuple e = false) (pe : PE X e (tE X.K ca W (ev C ea))) :
    PS X (.Assign [.Tuple ts j p] e pos) (tS X.K ca W (exec C (.unp is ea))) := by
  have hs : swapsWithSole [.Tuple ts j p] e pos.line X.env = pure false := by cases e <;> rfl
  have hw : swappedStores [.Tuple ts j p] e X.env = pure none := by
    cases e <;> first
      | rfl
      | cases ht
  have g : PG X (.Tuple ts j p) (gT X.K (.tp is)) := by
    obtain ⟨g1, g2, g3⟩ := names_ok G.g.eN G.g.nd G.g.eS (fun x _ => .inl (G.fn x)) hn
    exact pg_tup G.g.calm g1 g2 g3
  refine PS.imp (ps_asg pe g hs hw) fun B σ H t => rb_E (g := fun v s h1 => match v with
    | .d (.tuple xs) => match setAll s is xs with
      | some s' => .nx s' h1
      | none => .no
    | _ => .no) t fun u F' ρ' H' Y s v h1 S E rv a => ?_
  split at a
  · rename_i xs
    split at a
    · rename_i s' es
      exact setTg_ok (tg := .tp is) (x := .tuple xs) S E rv es fun σ' E' _ => a σ' F' ρ' H' Ext.refl S E'
    · exact a.elim
  · exact a.elim
def setU (σ : L2.St) : List Nat → List V → L2.St
  | i :: is, u :: us => setU (σ.set i (some u)) is us
  | _, _ => σ
theorem parS_ok {K : PySem.W.Frag} {Y F H : Hp} {ρ : Nat → Addr} {h : Hep} {B : Ends} (S : Sim K Y F ρ h H) : ∀ {is : List Nat} {vs : List Vl} {us : List V} {s : Env} {σ : L2.St}, EnvR K F ρ h.length s σ → RVs K F ρ h.length vs us → AftS K ca W Y F ρ h.length B (parS is vs s h) →
    us.length = is.length ∧ B.nx (setU σ is us) H
  | [], [], _, s, σ, E, .nil, a => ⟨rfl, a σ F ρ H Ext.refl S E⟩
  | i :: is, v :: vs, u :: us, s, σ, E, .cons r t, a => by
    obtain ⟨h1, h2⟩ := parS_ok S (E.set r i) t a
    exact ⟨congrArg (· + 1) h1, h2⟩
  | [], _ :: _, _, _, _, _, _, a => a.elim
  | _ :: _, [], _, _, _, _, _, a => a.elim
theorem gNs_ok {Q : L2.St → Hp → Prop} {H : Hp} : ∀ {is : List Nat} {us : List V} {σ : L2.St}, us.length = is.length → Q (setU σ is us) H → gNs is us σ H Q
  | [], [], _, _, q => ⟨rfl, q⟩
  | i :: is, u :: us, σ, e, q => ⟨u, us, rfl, gNs_ok (Nat.succ.inj e) q⟩
theorem isFn_ok (h : isFn sc = true) : sc.kind = .function := by
  unfold isFn at h
  split at h
  · assumption
  · cases h
theorem swp_ok {ts vs : List Expr} {j k2 : Nat} {p p2 : Pos} {env : PySem.Env} {o : Option (List Str)} (hk : env.scope = sc) (h : swpO sc ts vs = some o) : swappedStores [.Tuple ts j p] (.Tuple vs k2 p2) env = pure o := by
  unfold swpO at h
  split at h
  · cases h
  · rename_i hf
    have hf : sc.kind = .function := isFn_ok (by simpa using hf)
    have hb : env.blockKind = .function := by
      unfold Env.blockKind
      rw [hk, hf]
      rfl
    have hy : ∀ y, env.kindOf y = sc.names.lookup y := fun y => by
      show env.scope.names.lookup y = _
      rw [hk]
    have key : ∀ f : Expr → Option Str, (∀ e, f e = swF1 sc ((ts.head?.map (·.pos.line)).getD 0) e) → ts.filterMap f = swN sc ts := fun f hf => by
      rw [funext hf]
      rfl
    have ka : ∀ f : Expr → Bool, (∀ e, f e = starB e) → vs.any f = vs.any starB := fun f hf => by rw [funext hf]
    unfold swappedStores
    dsimp only
    rw [key _ fun e => by cases e <;> first | rfl | (dsimp only [swF1]; rw [hy])]
    rw [ka _ fun e => by cases e <;> rfl]
    simp only [hb, pure_bind, bne_self_eq_false, Bool.or_false]
    split at h
    · rename_i c
      cases h
      rw [if_pos c]
    · rename_i c
      rw [if_neg c]
      split at h
      · rename_i c
        cases h
        rw [if_pos c]
      · rename_i c
        rw [if_neg c]
        split at h
        · rename_i c
          cases h
          rw [if_pos c]
        · rename_i c
          rw [if_neg c]
          split at h
          · rename_i c
            cases h
            rw [if_pos c]
          · rename_i c
            rw [if_neg c]
            split at h
            · cases h
            · rename_i c
              cases h
              rw [if_neg c]
theorem onlyLoc_ok (hk : X.env.scope = sc) {x : Str} (h : onlyLoc sc x = true) : X.env.scope.names.lookup x = some .local := by
  rw [hk]
  exact only_ok h
theorem names_cons {fn : Str → Bool} {x : Str} {p : Pos} {r : List Expr} {is : List Nat} (e : trNames N sc fn (.Name x p :: r) = some is) : ∃ i js, is = i :: js ∧ slot N x = some i ∧ trNames N sc fn r = some js ∧ i ∉ js := by
  unfold trNames at e
  split at e
  · rename_i i js q1 q2
    split at e
    · rename_i c
      have e' : i :: js = is := Option.some.inj e
      simp only [Bool.and_eq_true, Bool.not_eq_true'] at c
      exact ⟨i, js, e'.symm, q1, q2, by simpa using c.2⟩
    · cases e
  · cases e
theorem z_par {ts vs : List Expr} {is : List Nat} {eas : E} {j k2 : Nat} {p p2 pos : Pos} (G : GdS T Ds wf k ca N X sc W) (hn : trNames N sc all1 ts = some is) (hp : parB sc ts vs = true) (hz : is.length ≤ 100) (pa : PA X vs (tA X.K ca W (evs C eas))) :
    PS X (.Assign [.Tuple ts j p] (.Tuple vs k2 p2) pos) (tS X.K ca W (exec C (.par is eas))) := by
  unfold parB at hp
  rcases Bool.or_eq_true_iff.mp hp with hp | hp
  · have hw := swp_ok (j := j) (k2 := k2) (p := p) (p2 := p2) G.g.eS (of_decide_eq_true hp)
    obtain ⟨g1, g2, g3⟩ := names_ok G.g.eN G.g.nd G.g.eS (fun x _ => .inl (G.fn x)) hn
    refine PS.imp (ps_asg (pe_tup pa) (pg_tup G.g.calm g1 g2 g3) rfl hw) fun B σ H t => rb_A (g := fun vs s h1 => parS is vs s h1) t fun us F' ρ' H' Y s v h1 S E rv a => ?_
    obtain ⟨hl, _⟩ := parS_ok S E rv a
    refine ⟨by rw [hl, sizeLine_eq]; omega, fun q hq => ⟨q, us, rfl, .inl (.inl upd_same), hl, gNs_ok hl ?_⟩⟩
    exact (parS_ok (S.new hq) E rv a).2
  · split at hp
    · rename_i x px y py a b
      simp only [Bool.and_eq_true, decide_eq_true_eq] at hp
      obtain ⟨⟨h1, h2⟩, h3⟩ := hp
      obtain ⟨i, js, rfl, s1, n2, d1⟩ := names_cons hn
      obtain ⟨i2, js2, rfl, s2, n3, d2⟩ := names_cons n2
      cases n3
      have hw := swp_ok (j := j) (k2 := k2) (p := p) (p2 := p2) G.g.eS h1
      refine PS.imp (ps_par G.g.calm G.g.hN (G.g.at s1) (G.g.at s2) (fun z => d1 (by simp [z])) (onlyLoc_ok G.g.eS h2) (onlyLoc_ok G.g.eS h3) pa hw rfl) fun B σ H t => rb_A (g := fun vs s h1 => parS [i, i2] vs s h1) t fun us F' ρ' H' Y s v h1 S E rv a => ?_
      obtain ⟨hl, q⟩ := parS_ok S E rv a
      match us, hl, q with
      | [u1, u2], _, q => exact ⟨u1, u2, rfl, q⟩
    · rename_i x px y py z pz a b c
      simp only [Bool.and_eq_true, decide_eq_true_eq] at hp
      obtain ⟨⟨⟨h1, h2⟩, h3⟩, h4⟩ := hp
      obtain ⟨i, js, rfl, s1, n2, d1⟩ := names_cons hn
      obtain ⟨i2, js2, rfl, s2, n3, d2⟩ := names_cons n2
      obtain ⟨i3, js3, rfl, s3, n4, d3⟩ := names_cons n3
      cases n4
      have hw := swp_ok (j := j) (k2 := k2) (p := p) (p2 := p2) G.g.eS h1
      refine PS.imp (ps_par3 G.g.calm G.g.hN (G.g.at s1) (G.g.at s2) (G.g.at s3) (fun z => d1 (by simp [z])) (fun z => d1 (by simp [z])) (fun z => d2 (by simp [z])) (onlyLoc_ok G.g.eS h2) (onlyLoc_ok G.g.eS h3) (onlyLoc_ok G.g.eS h4) pa hw rfl) fun B σ H t => rb_A (g := fun vs s h1 => parS [i, i2, i3] vs s h1) t fun us F' ρ' H' Y s v h1 S E rv a => ?_
      obtain ⟨hl, q⟩ := parS_ok S E rv a
      match us, hl, q with
      | [u1, u2, u3], _, q => exact ⟨u1, u2, u3, rfl, q⟩
    · cases hp
/-! ### lists that are changed -/
theorem z_app {x : Str} {i : Nat} {e : Expr} {ea : E} {p ap cp pos : Pos} (G : GdS T Ds wf k ca N X sc W) (hv : visB sc x = true) (hk : okName x = true) (hi : slot N x = some i) (hst : starB e = false) (hl : (ap.endLine == cp.line) = true) (pe : PE X e (tE X.K ca W (ev C ea))) :
    PS X (.Expr (.Call (.Attribute (.Name x p) "append" ap) [e] [] cp) pos) (tS X.K ca W (exec C (.app i ea))) := by
  have st := star_one hst X.env []
  have pv : PE X (.Name x p) (tE X.K ca W (ev C (.var i))) := s_var G.g hv hk hi
  refine PS.imp (ps_expr (pe_bm PySem.F.plainAttrs_list PySem.F.slot_list_append PySem.F.type_list_append mt_append pv (pa_cons pe pa_nil st) rfl (by rw [st]; rfl) hl st rfl) rfl) fun B σ H t => ?_
  obtain ⟨Y, F, ρ, h, s, S, E, a⟩ := t
  unfold exec at a
  split at a
  · rename_i n qs
    split at a
    · rename_i xs0 qh
      have evv : ev C (.var i) s h = .ok (.r n) h := by
        show (match s[i]? with
          | some (some v) => R.ok v h
          | _ => .no) = _
        rw [qs]
      refine ⟨Y, F, ρ, h, s, S, E, ?_⟩
      rw [evv]
      intro u F1 ρ1 H1 x1 S1 r1
      obtain ⟨hn, rfl⟩ := r1
      obtain ⟨_, vs0, e0, _⟩ := S1.ob n _ qh
      refine ⟨.inl ⟨rfl, _, SqL.of e0⟩, Y, F1, ρ1, h, s, S1, E.mono x1, ?_⟩
      cases e1 : ev C ea s h with
      | ex c h1 =>
        rw [e1] at a
        exact fun F' ρ' H' x S' => a σ F' ρ' H' (x1.trans x) S'
      | no =>
        rw [e1] at a
        exact a
      | ok v h1 =>
        rw [e1] at a
        unfold rb at a
        dsimp only at a
        intro u2 F2 ρ2 H2 x2 S2 r2
        split at a
        · rename_i y h2 ek
          obtain ⟨F3, x3, S3, d3⟩ := keep_ok S2 r2 ek
          split at a
          · rename_i xs qn
            split at a
            · rename_i hz
              have hz : xs.length < sizeLine := of_decide_eq_true hz
              obtain ⟨n3, vs, e3, d4⟩ := S3.ob n _ qn
              have en : ρ1 n = ρ2 n := (x2.eq n hn).symm
              rw [en]
              refine ⟨_, vs, u2, rfl, rfl, e3, by rw [dpA_len d4]; exact hz, ?_⟩
              have S4 := S3.put qn (dpA_app d4 (.cons d3 .nil))
              have x4 : Ext F ρ h.length F3 ρ2 (h2.set n (.lst (xs ++ [y]))).length := by
                rw [List.length_set]
                exact (x1.trans x2).trans x3
              refine a σ F3 ρ2 _ x4 S4 ?_
              rw [List.length_set]
              exact (E.mono (x1.trans x2)).mono x3
            · exact a.elim
          · exact a.elim
        · exact a.elim
    · exact a.elim
  · exact a.elim
theorem slice_no {n : Nat} {sc : Scope} {j : Expr} {ej : E} (q : trE T N n sc j = some ej) : ∀ lo hi st p, j ≠ .Slice lo hi st p := by
  rintro lo hi st p rfl
  cases n with
  | zero => cases q
  | succ n => cases q
/-- what x[j] = e asks of a run that ends well: a list's place, or a dict's key -/
theorem z_put {x : Str} {i : Nat} {e j : Expr} {ea ej : E} {p sp pos : Pos} (G : GdS T Ds wf k ca N X sc W) (hv : visB sc x = true) (hk : okName x = true) (hi : slot N x = some i) (hj : ∀ lo hi st p, j ≠ .Slice lo hi st p) (pe : PE X e (tE X.K ca W (ev C ea))) (pj : PE X j (tE X.K ca W (ev C ej))) :
    PS X (.Assign [.Subscript (.Name x p) j sp] e pos) (tS X.K ca W (exec C (.put i ej ea))) := by
  have pv : PE X (.Name x p) (tE X.K ca W (ev C (.var i))) := s_var G.g hv hk hi
  have hs : swapsWithSole [.Subscript (.Name x p) j sp] e pos.line X.env = pure false := by cases e <;> rfl
  have hw : swappedStores [.Subscript (.Name x p) j sp] e X.env = pure none := by cases e <;> rfl
  have hsd : swapsWith e (some (.Subscript (.Name x p) j sp)) pos.line X.env = pure false := by cases e <;> rfl
  have hu : X.A.units + 1 < cLine := by
    have := G.g.hu
    omega
  have g : PG X (.Subscript (.Name x p) j sp) (gSub (tE X.K ca W (ev C (.var i))) (tE X.K ca W (ev C ej)) rSetL) := pg_sub pv pj set_list (by
    intro v
    cases j <;> first
      | rfl
      | exact absurd rfl (hj _ _ _ _))
  refine PS.imp (PS.or (ps_asg pe g hs hw) (ps_dput hu pv pj pe hsd)) fun B σ H t => ?_
  obtain ⟨Y, F, ρ, h, s, S, E, a⟩ := t
  replace a : AftS X.K ca W Y F ρ h.length B (rb (ev C ea s h) fun v h1 => match keep h1 v, s[i]? with
    | some (x, h2), some (some (.r n)) => rb (ev C ej s h2) fun k h3 => match k with
      | .d (.int k) => match h3[n]? with
        | some (.lst xs) => match L2.ixN xs.length k with
          | some m => .nx s (h3.set n (.lst (xs.set m x)))
          | none => .no
        | _ => .no
      | .d (.tuple ks) => match h3[n]? with
        | some (.dct kvs) => match intL ks with
          | some ks => if decide (kvs.length < sizeLine) then .nx s (h3.set n (.dct (putL kvs ks x))) else .no
          | none => .no
        | _ => .no
      | _ => .no
    | _, _ => .no) := a
  cases e1 : ev C ea s h with
  | ex c h1 =>
    rw [e1] at a
    refine .inl ⟨Y, F, ρ, h, s, S, E, ?_⟩
    rw [e1]
    exact fun F' ρ' H' x S' => a σ F' ρ' H' x S'
  | no =>
    rw [e1] at a
    exact a.elim
  | ok v h1 =>
    rw [e1] at a
    unfold rb at a
    dsimp only at a
    split at a
    · rename_i y h2 n ek qs
      have evv : ev C (.var i) s h2 = .ok (.r n) h2 := by
        show (match s[i]? with
          | some (some v) => R.ok v h2
          | _ => .no) = _
        rw [qs]
      -- the way to the key, whatever the object is
      have way : ∀ (P : V → V → V → Hp → Prop), (∀ c h3, ev C ej s h2 = .ex c h3 → ∀ F' ρ' H', Ext F ρ h.length F' ρ' h3.length → Sim X.K Y F' ρ' h3 H' → W (.ref (ca c)) none σ H') → ev C ej s h2 ≠ .no →
          (∀ kk h3, ev C ej s h2 = .ok kk h3 → ∀ u w F4 ρ4 H4, Ext F ρ h.length F4 ρ4 h3.length → Sim X.K Y F4 ρ4 h3 H4 → EnvR X.K F4 ρ4 h3.length s σ → Rp X.K F4 u y → RV X.K F4 ρ4 h3.length kk w → P u (.ref (ρ4 n)) w H4) →
          tE X.K ca W (ev C ea) σ H fun u H1 => tE X.K ca W (ev C (.var i)) σ H1 fun o H2 => tE X.K ca W (ev C ej) σ H2 fun w H3 => P u o w H3 := fun P hx hn ho => by
        refine ⟨Y, F, ρ, h, s, S, E, ?_⟩
        rw [e1]
        intro u F1 ρ1 H1 x1 S1 r1
        obtain ⟨F2, x2, S2, d2⟩ := keep_ok S1 r1 ek
        have E2 := (E.mono x1).mono x2
        have x12 := x1.trans x2
        refine ⟨Y, F2, ρ1, h2, s, S2, E2, ?_⟩
        rw [evv]
        intro o F3 ρ3 H3 x3 S3 r3
        obtain ⟨hn3, rfl⟩ := r3
        refine ⟨Y, F3, ρ3, h2, s, S3, E2.mono x3, ?_⟩
        cases e2 : ev C ej s h2 with
        | no => exact absurd e2 hn
        | ex c h3 => exact fun F' ρ' H' x S' => hx c h3 e2 F' ρ' H' (x12.trans (x3.trans x)) S'
        | ok kk h3 =>
          intro w F4 ρ4 H4 x4 S4 r4
          have en : ρ3 n = ρ4 n := (x4.eq n hn3).symm
          rw [en]
          exact ho kk h3 e2 u w F4 ρ4 H4 (x12.trans (x3.trans x4)) S4 (E2.mono (x3.trans x4)) (dp_mono (x3.trans x4).sub _ _ d2) r4
      cases e2 : ev C ej s h2 with
      | no =>
        rw [e2] at a
        exact a.elim
      | ex c h3 =>
        rw [e2] at a
        exact .inl (way (fun u o w H3 => rSetL o w u H3 fun H4 => B.nx σ H4) (fun c' h3' q F' ρ' H' x S' => by
          rw [e2] at q
          cases q
          exact a σ F' ρ' H' x S') (by rw [e2]; intro z; cases z) fun kk h3' q => by
          rw [e2] at q
          cases q)
      | ok kk h3 =>
        rw [e2] at a
        dsimp only at a
        split at a
        · rename_i kk
          split at a
          · rename_i xs qn
            split at a
            · rename_i m qm
              refine .inl (way (fun u o w H3 => rSetL o w u H3 fun H4 => B.nx σ H4) (fun c' h3' q => by rw [e2] at q; cases q) (by rw [e2]; intro z; cases z) fun kk' h3' q u w F4 ρ4 H4 x4 S4 E4 d4 r4 => ?_)
              rw [e2] at q
              cases q
              cases r4
              obtain ⟨n4, vs, e4, dl⟩ := S4.ob n _ qn
              refine ⟨_, vs, kk, m, rfl, rfl, e4, by rw [dpA_len dl]; exact qm, ?_⟩
              have S5 := S4.put qn (dpA_set d4 m dl)
              have x5 : Ext F ρ h.length F4 ρ4 (h3.set n (.lst (xs.set m y))).length := by
                rw [List.length_set]
                exact x4
              refine a σ F4 ρ4 _ x5 S5 ?_
              rw [List.length_set]
              exact E4
            · exact a.elim
          · exact a.elim
        · rename_i ks0
          split at a
          · rename_i kvs qn
            split at a
            · rename_i ks qk
              split at a
              · rename_i hz
                have hz : kvs.length < sizeLine := of_decide_eq_true hz
                refine .inr (way (fun u o w H3 => ∃ ad H4, o = .ref ad ∧ DPut H3 ad w u H4 ∧ B.nx σ H4) (fun c' h3' q => by rw [e2] at q; cases q) (by rw [e2]; intro z; cases z) fun kk' h3' q u w F4 ρ4 H4 x4 S4 E4 d4 r4 => ?_)
                rw [e2] at q
                cases q
                obtain ⟨n4, ⟨kl, e4, dl⟩, wr⟩ := S4.ob n _ qn
                obtain ⟨b, rfl, eb⟩ := key_tup S4 wr r4 qk
                have hl : kl.length = kvs.length := Paired.length dl
                refine ⟨_, _, rfl, DPut.t e4 eb (by rw [hl]; exact hz), ?_⟩
                have S5 := S4.putD qn (kg_put (g := fun l : List Int => (l.map Sum.inl : List Key)) mapInl_inj (j := ks) d4 dl)
                have x5 : Ext F ρ h.length F4 ρ4 (h3.set n (.dct (putL kvs ks y))).length := by
                  rw [List.length_set]
                  exact x4
                refine a σ F4 ρ4 _ x5 S5 ?_
                rw [List.length_set]
                exact E4
              · exact a.elim
            · exact a.elim
          · exact a.elim
        · exact a.elim
    · exact a.elim
end
end Z

set_option linter.all false
set_option autoImplicit false
set_option maxRecDepth 100000
set_option maxHeartbeats 4000000
/-! Z16: loops, raise, every statement. -/
namespace Z
open PySem L2 PySem.Spec PyProof.Rows
variable [TC : TabsC]
section
variable {T : Tab} {Ds : List Dfn} {wf k : Nat} {ca : Nat → Addr} {N : List Str} {X : Cx} {sc : Scope} {W : WX} {C : Cfg}
theorem drop_cons {α : Type} {xs : List α} {i : Nat} {d : α} (hlt : i < xs.length) (ed : xs[i]? = some d) : xs.drop i = d :: xs.drop (i + 1) := by
  rw [List.drop_eq_getElem_cons hlt]
  have e2 : xs[i] = d := by
    rw [List.getElem?_eq_getElem hlt] at ed
    exact Option.some.inj ed
  rw [e2]
theorem for_t {K : PySem.W.Frag} {ri : Env → Hep → R (List D)} {tg : Tg} {body : Env → Hep → RS} {B : Ends} {σ : L2.St} {H : Hp} (t : tS K ca W (fun s h => rb (ri s h) fun xs h1 => forL tg body xs s h1) B σ H) : tFor (tI K ca W ri) (gT K tg) (tS K ca W body) B σ H := by
  obtain ⟨Y, F, ρ, h, s, S, E, a⟩ := t
  dsimp only at a
  refine ⟨Y, F, ρ, h, s, S, E, ?_⟩
  cases e : ri s h with
  | ex c h1 =>
    rw [e] at a
    exact fun F' ρ' H' x S' => a σ F' ρ' H' x S'
  | no =>
    rw [e] at a
    exact a
  | ok xs h1 =>
    rw [e] at a
    intro J F1 ρ1 H1 x1 S1 jt
    refine ⟨fun i m σ2 H2 => m = xs.length - i ∧ i ≤ xs.length ∧ ∃ F2 ρ2 h2 s2, Same F1 F2 ∧ Sim K Y F2 ρ2 h2 H2 ∧ EnvR K F2 ρ2 h2.length s2 σ2 ∧ AftS K ca W Y F2 ρ2 h2.length B (forL tg body (xs.drop i) s2 h2),
      ⟨xs.length, rfl, Nat.zero_le _, F1, ρ1, h1, s, Same.refl _, S1, E.mono x1, AftS.mono x1 a⟩, ?_⟩
    rintro i m σ2 H2 ⟨rfl, hi, F2, ρ2, h2, s2, m2, S2, E2, a2⟩
    by_cases hlt : i < xs.length
    · refine .inr ⟨jt.go i _ F2 ρ2 h2 H2 m2 S2 hlt, fun σ3 H3 => ∃ F2 ρ2 h2 s2, Same F1 F2 ∧ Sim K Y F2 ρ2 h2 H3 ∧ EnvR K F2 ρ2 h2.length s2 σ3 ∧ AftS K ca W Y F2 ρ2 h2.length B (forL tg body (xs.drop (i + 1)) s2 h2), fun σ3 H3 p => ⟨xs.length - (i + 1), by omega, rfl, hlt, p⟩, fun v H' y => ?_⟩
      obtain ⟨F3, d, m3, S3, ed, dp⟩ := jt.yld i _ F2 ρ2 h2 H2 v H' m2 S2 hlt y
      have x3 : Ext F2 ρ2 h2.length F3 ρ2 h2.length := ⟨m3, Nat.le_refl _, fun _ _ => rfl⟩
      rw [drop_cons hlt ed] at a2
      replace a2 : AftS K ca W Y F2 ρ2 h2.length B (match setTg s2 d tg with
        | some s' => sb (body s' h2) fun s1 h1 => forL tg body (xs.drop (i + 1)) s1 h1
        | none => .no) := a2
      split at a2
      · rename_i s' es
        refine setTg_ok S3 (E2.mono x3) dp es fun σ' E' _ => ⟨Y, F3, ρ2, h2, s', S3, E', AftS.imp (AftS.seq (AftS.mono x3 a2)) (fun σ4 H4 q => ?_) fun _ _ q => q⟩
        obtain ⟨F', ρ', h', s4, x, S', E4, a'⟩ := q
        exact ⟨F', ρ', h', s4, (m2.trans m3).trans x.sub, S', E4, a'⟩
      · exact a2.elim
    · have ei : i = xs.length := by omega
      subst ei
      refine .inl ⟨jt.stop _ F2 ρ2 h2 H2 m2 S2, ?_⟩
      rw [List.drop_length] at a2
      exact a2 σ2 F2 ρ2 H2 Ext.refl S2 E2
theorem z_for {n : Nat} (Sn : Snd T Ds wf k ca N n) {tgE iter : Expr} {body : List Stmt} {tg : Tg} {it : E} {b : S} {pos : Pos} (G : GdS T Ds wf k ca N X sc W) (q1 : trTg N sc all1 tgE = some tg) (q2 : trI T N n sc iter = some it) (h3 : okIt it tg = true)
    (pb : PSs X body (tS X.K ca W (exec (cf Ds wf k) b))) : PS X (.For tgE iter body [] pos) (tS X.K ca W (exec (cf Ds wf k) (.for_ tg it b))) :=
  PS.imp (ps_for G.ps G.g.calm (Sn.i sc iter it X W tg tgE _ _ q2 G.g q1 h3) (tg_ok G.g.eN G.g.nd G.g.eS G.g.calm (fun x _ => .inl (G.fn x)) q1) pb fun x => set_no q2 X.env x) fun B σ H t => for_t t
theorem whl_t {K : PySem.W.Frag} {rc : Env → Hep → R Vl} {body : Env → Hep → RS} {fuel : Nat} {B : Ends} {σ : L2.St} {H : Hp} (t : tS K ca W (whlL rc body fuel) B σ H) : tWhile (tT K ca W rc) (tS K ca W body) B σ H := by
  refine ⟨fun m σ H => tS K ca W (whlL rc body m) B σ H, ⟨fuel, t⟩, fun m σ H t => ?_⟩
  cases m with
  | zero =>
    obtain ⟨Y, F, ρ, h, s, S, E, a⟩ := t
    exact a.elim
  | succ m =>
    refine rb_T (g := fun b => if b then fun s h1 => sb (body s h1) fun s2 h2 => whlL rc body m s2 h2 else fun s h1 => .nx s h1) t fun b H' q => ?_
    cases b with
    | false =>
      obtain ⟨Y, F, ρ, h, s, S, E, a⟩ := q
      exact iteF (a σ F ρ H' Ext.refl S E)
    | true =>
      refine iteT ⟨fun σ' H' => tS K ca W (whlL rc body m) B σ' H', fun σ' H' q => ⟨m, Nat.lt_succ_self _, q⟩, ?_⟩
      obtain ⟨Y, F, ρ, h, s, S, E, a⟩ := q
      refine ⟨Y, F, ρ, h, s, S, E, AftS.imp (AftS.seq a) (fun σ4 H4 q => ?_) fun _ _ q => q⟩
      obtain ⟨F', ρ', h', s4, x, S', E4, a'⟩ := q
      exact ⟨Y, F', ρ', h', s4, S', E4, a'⟩
theorem z_whl {c : Expr} {body : List Stmt} {ec : E} {b : S} {pos : Pos} (G : GdS T Ds wf k ca N X sc W) (pc : PT X c (tT X.K ca W (ev C ec))) (pb : PSs X body (tS X.K ca W (exec C b))) : PS X (.While c body [] pos) (tS X.K ca W (exec C (.whl ec b))) :=
  PS.imp (ps_while G.ps pc pb) fun B σ H t => whl_t t
theorem z_rse {x m : Str} {c j : Nat} {p p2 pos pos' : Pos} (G : GdS T Ds wf k ca N X sc W) (hg : globB sc x = true) (hc : T.excs[c]? = some x) : PS X (.Raise (some (.Call (.Name x p) [.Constant (.str m) j p2] [] pos)) none pos') (tS X.K ca W (exec C (.rse c))) := by
  obtain ⟨g1, g2, ⟨bB, newId, initId, bm, f1, f2⟩, g3, g4, g5⟩ := G.g.fx.exc c x hc
  refine PS.imp (ps_raise G.g.calm G.g.tk (pmk_own f1 f2 g1 g2 (raises_own g3 g4) (G.g.gl hg) g5)) fun B σ H t => ?_
  obtain ⟨Y, F, ρ, h, s, S, E, a⟩ := t
  exact a σ F ρ H Ext.refl S
/-- values for names -/
theorem snd_p {n : Nat} (S : Snd T Ds wf k ca N n) {M : List Nat} (G : Gd T Ds wf k ca N X sc W) : ∀ {is : List Nat} {es : List Expr} {ir : E}, trP T N M sc n is es = some ir → PA X es (tA X.K ca W (evs (cf Ds wf k) ir))
  | [], [], ir, q => by
    cases q
    exact s_nil
  | i :: is, e :: es, ir, q => by
    unfold trP at q
    split at q
    · cases q
    · rename_i hn
      split at q
      · rename_i a as q1 q2
        cases q
        obtain ⟨p1, _, p3⟩ := S.e sc e _ X W q1 G
        have hs : starB e = false := by simpa using hn
        have ih := snd_p S G q2
        split
        · rename_i c
          exact s_cons hs (s_cel (p3 (Bool.and_eq_true_iff.mp c).2)) ih
        · exact s_cons hs p1 ih
      · cases q
  | [], _ :: _, _, q => by cases q
  | _ :: _, [], _, q => by cases q
/-! ### a dict's keys walked -/
theorem dct_ok {M : List Nat} {e : Expr} {i : Nat} (h : isDct N M sc e = some i) : ∃ x p, e = .Name x p ∧ visB sc x = true ∧ okName x = true ∧ slot N x = some i := by
  unfold isDct at h
  split at h
  · rename_i x p
    split at h
    · rename_i c
      obtain ⟨c1, c2⟩ := Bool.and_eq_true_iff.mp c
      split at h
      · rename_i j q
        split at h
        · cases h
          exact ⟨x, p, rfl, c1, c2, q⟩
        · cases h
      · cases h
    · cases h
  · cases h
/-- a key's tuple, frozen -/
theorem frz_key {K : PySem.W.Frag} {Y F H : Hp} {ρ : Nat → Addr} {h : Hep} {b : Addr} {z : List Int} (S : Sim K Y F ρ h H) (hb : H b = some (.tup ((z.map Sum.inl : List Key).map kV))) : ∃ F', Same F F' ∧ Sim K Y F' ρ h H ∧ Rp K F' (.ref b) (keyD z) := by
  have key : ∀ (G : Hp) (l : List Int), RpA K G ((l.map Sum.inl : List Key).map kV) (l.map PyData.int) := fun G l => by
    induction l with
    | nil => exact .nil
    | cons i l ih => exact .cons (.int i) ih
  cases e : F b with
  | some o =>
    have e1 := S.sub b o e
    rw [hb] at e1
    cases e1
    exact ⟨F, Same.refl _, S, .tup (.inl e) (key F z)⟩
  | none =>
    obtain ⟨S1, m⟩ := S.frz (S.looseT hb e) hb
    exact ⟨_, m, S1, .tup (.inl upd_same) (key _ z)⟩
theorem paired_at {α β : Type} {R : α → β → Prop} : ∀ {xs : List α} {ys : List β} {i : Nat} {x : α}, Paired R xs ys → xs[i]? = some x → ∃ y, ys[i]? = some y ∧ R x y
  | _, _, 0, _, .cons h _, e => by
    cases e
    exact ⟨_, rfl, h⟩
  | _, _, i + 1, _, .cons _ t, e => paired_at (i := i) t e
  | _, _, _, _, .nil, e => by cases e
theorem forD_t {K : PySem.W.Frag} {ix : Nat} {tg : Tg} {body : Env → Hep → RS} {B : Ends} {σ : L2.St} {H : Hp}
    (t : tS K ca W (fun s h => match s[ix]? with
      | some (some (.r n)) => match h[n]? with
        | some (.dct kvs) => match forL tg body (kvs.map fun p => keyD p.1) s (h.set n .gone) with
          | .nx s' h' => (match h'[n]? with
            | some .gone => .nx s' (h'.set n (.dct kvs))
            | _ => .no)
          | _ => .no
        | _ => .no
      | _ => .no) B σ H) : tLock (tFor (iKeys (tE K ca W (varR ix))) (gT K tg) (tS K ca W body)) B σ H := by
  obtain ⟨Y, F, ρ, h, s, S, E, a⟩ := t
  dsimp only at a
  split at a
  · rename_i n qs
    split at a
    · rename_i kvs qn
      obtain ⟨f0, ⟨ks, e1, e2⟩, wr⟩ := S.ob n _ qn
      have hlen : ks.length = kvs.length := Paired.length e2
      refine ⟨ρ n, .dT ks, e1, trivial, fun od => ?_⟩
      obtain ⟨ny, SL⟩ := S.lock qn e1 od
      have hL : (h.set n .gone).length = h.length := List.length_set
      have EL : EnvR K F ρ (h.set n .gone).length s σ := by
        rw [hL]
        exact E
      have hnl : n < h.length := (List.getElem?_eq_some_iff.mp qn).1
      refine ⟨_, F, ρ, h.set n .gone, s, SL, EL, ?_⟩
      have ev : varR ix s (h.set n .gone) = .ok (.r n) (h.set n .gone) := by
        unfold varR
        rw [qs]
      rw [ev]
      intro u F1 ρ1 H1 x1 S1 r1
      obtain ⟨hn, rfl⟩ := r1
      have en : ρ1 n = ρ n := x1.eq n (by rw [hL]; exact hnl)
      have hk1 := (S1.fr (ρ n) _ upd_same).1
      refine ⟨ρ1 n, od, rfl, .inr ⟨ks, by rw [en]; exact hk1, ?_⟩⟩
      -- what is left of the loop
      refine ⟨fun i m σ2 H2 => m = ks.length - i ∧ i ≤ ks.length ∧ ∃ F2 ρ2 h2 s2, Ext F ρ h.length F2 ρ2 h2.length ∧ Sim K (upd Y (ρ n) (.frz od (.dT ks))) F2 ρ2 h2 H2 ∧ EnvR K F2 ρ2 h2.length s2 σ2 ∧
          AftS K ca W Y F ρ h.length B (match forL tg body ((kvs.map fun p => keyD p.1).drop i) s2 h2 with
          | .nx s' h' => (match h'[n]? with
            | some .gone => .nx s' (h'.set n (.dct kvs))
            | _ => .no)
          | _ => .no),
        ⟨ks.length, rfl, Nat.zero_le _, F1, ρ1, h.set n .gone, s, by rw [← hL]; exact x1, S1, EL.mono x1, a⟩, ?_⟩
      rintro i m σ2 H2 ⟨rfl, hi, F2, ρ2, h2, s2, x2, S2, E2, a2⟩
      have hk2 := (S2.fr (ρ n) _ upd_same).1
      by_cases hlt : i < ks.length
      · have hi2 : i < (kvs.map fun p => keyD p.1).length := by
          rw [List.length_map]
          omega
        refine .inr ⟨⟨by rw [en]; exact hk2, hlt⟩, fun σ3 H3 => ∃ F2 ρ2 h2 s2, Ext F ρ h.length F2 ρ2 h2.length ∧ Sim K (upd Y (ρ n) (.frz od (.dT ks))) F2 ρ2 h2 H3 ∧ EnvR K F2 ρ2 h2.length s2 σ3 ∧
            AftS K ca W Y F ρ h.length B (match forL tg body ((kvs.map fun p => keyD p.1).drop (i + 1)) s2 h2 with
            | .nx s' h' => (match h'[n]? with
              | some .gone => .nx s' (h'.set n (.dct kvs))
              | _ => .no)
            | _ => .no), fun σ3 H3 p => ⟨ks.length - (i + 1), by omega, rfl, hlt, p⟩, fun v H' y => ?_⟩
        obtain ⟨rfl, kk, kv, q, ek, rfl, hq⟩ := y
        obtain ⟨ee, ei, er⟩ := paired_at e2 ek
        have er1 : kk = ee.1.map Sum.inl := er.1
        rw [er1] at hq
        obtain ⟨F3, m3, S3, rp⟩ := frz_key S2 hq
        have x3 : Ext F2 ρ2 h2.length F3 ρ2 h2.length := ⟨m3, Nat.le_refl _, fun _ _ => rfl⟩
        have ed : (kvs.map fun p => keyD p.1)[i]? = some (keyD ee.1) := by
          rw [List.getElem?_map, ei]
          rfl
        rw [drop_cons hi2 ed] at a2
        cases es : setTg s2 (keyD ee.1) tg with
        | none =>
          unfold forL at a2
          rw [es] at a2
          exact a2.elim
        | some s' =>
          unfold forL at a2
          rw [es] at a2
          dsimp only at a2
          refine setTg_ok S3 (E2.mono x3) rp es fun σ' E' _ => ⟨_, F3, ρ2, h2, s', S3, E', ?_⟩
          cases eb : body s' h2 with
          | no =>
            rw [eb] at a2
            exact a2.elim
          | ex c h4 =>
            rw [eb] at a2
            exact a2.elim
          | rt v h4 =>
            rw [eb] at a2
            exact a2.elim
          | nx s4 h4 =>
            rw [eb] at a2
            exact fun σ4 F4 ρ4 H4 x4 S4 E4 => ⟨F4, ρ4, h4, s4, x2.trans (x3.trans x4), S4, E4, a2⟩
      · have ei : i = ks.length := by omega
        subst ei
        have ed : (kvs.map fun p => keyD p.1).drop ks.length = [] := List.drop_eq_nil_of_le (by rw [List.length_map]; omega)
        rw [ed] at a2
        replace a2 : AftS K ca W Y F ρ h.length B (match h2[n]? with
          | some .gone => .nx s2 (h2.set n (.dct kvs))
          | _ => .no) := a2
        refine .inl ⟨⟨by rw [en]; exact hk2, Nat.le_refl _⟩, ?_⟩
        split at a2
        · rename_i qg
          have en2 : ρ2 n = ρ n := x2.eq n hnl
          have S3 : Sim K (upd Y (ρ2 n) (.frz od (.dT ks))) F2 ρ2 h2 H2 := by
            rw [en2]
            exact S2
          obtain ⟨S4, hp⟩ := S3.unlock (by rw [en2]; exact ny) qg (e2.mono x2.sub) wr
          rw [en2] at S4
          refine ⟨hk2, ?_⟩
          refine a2 σ2 F2 ρ2 _ ?_ S4 ?_
          · rw [List.length_set]
            exact x2
          · rw [List.length_set]
            exact E2
        · exact a2.elim
    · exact a.elim
  · exact a.elim
theorem z_forD {M : List Nat} {tgE iter : Expr} {body : List Stmt} {tg : Tg} {i : Nat} {b : Z.S} {pos : Pos} (G : GdS T Ds wf k ca N X sc W) (q1 : trTg N sc all1 tgE = some tg) (q2 : isDct N M sc iter = some i)
    (pb : PSs X body (tS X.K ca W (exec C b))) : PS X (.For tgE iter body [] pos) (tS X.K ca W (exec C (.forD tg i b))) := by
  obtain ⟨x, p, rfl, v1, v2, v3⟩ := dct_ok q2
  exact PS.imp (ps_lock (ps_for G.ps G.g.calm (pi_keys (s_var (C := C) G.g v1 v2 v3)) (tg_ok G.g.eN G.g.nd G.g.eS G.g.calm (fun x _ => .inl (G.fn x)) q1) pb fun _ => rfl)) fun B σ H t => forD_t t
/-! ### the law's rounds -/
theorem forR_t {K : PySem.W.Frag} {ra : Env → Hep → R (List Vl)} {cl : List Vl → Hep → R Vl} {ix : Nat} {body : Env → Hep → RS} {B : Ends} {σ : L2.St} {H : Hp}
    (t : tS K ca W (fun s h => rb (bnd (ra s h) fun vs h1 => cl vs h1) fun v h1 => match v with
      | .d (.list rows) => match rowsL rows with
        | some ls => forC ix body h1.length ls.length s (h1 ++ ls.map .lst)
        | none => .no
      | _ => .no) B σ H) : tFor (iList K (tCallS (spR K ca cl) (WE W) (tA K ca W ra))) (gName ix) (tS K ca W body) B σ H := by
  obtain ⟨Y, F, ρ, h, s, S, E, a⟩ := t
  dsimp only at a
  refine ⟨Y, F, ρ, h, s, S, E, ?_⟩
  cases e : ra s h with
  | ex c h1 =>
    rw [e] at a
    exact fun F' ρ' H' x S' => a σ F' ρ' H' x S'
  | no =>
    rw [e] at a
    exact a
  | ok vs h1 =>
    rw [e] at a
    replace a : AftS K ca W Y F ρ h.length B (rb (cl vs h1) fun v h1 => match v with
      | .d (.list rows) => match rowsL rows with
        | some ls => forC ix body h1.length ls.length s (h1 ++ ls.map .lst)
        | none => .no
      | _ => .no) := a
    intro us F1 ρ1 H1 x1 S1 r1
    refine ⟨Y, F1, ρ1, h1, vs, S1, r1, ?_⟩
    cases e2 : cl vs h1 with
    | ex c h2 =>
      rw [e2] at a
      exact fun F' ρ' H' x S' => a σ F' ρ' H' (x1.trans x) S'
    | no =>
      rw [e2] at a
      exact a
    | ok v h2 =>
      rw [e2] at a
      unfold rb at a
      dsimp only at a
      split at a
      · rename_i rows
        split at a
        · rename_i ls el
          refine ⟨rows, ls, rfl, el, fun p ws F2 ρ2 H2 x2 S2 ep el2 ew => ⟨p, rfl, ⟨ws, SqL.of (S2.sub _ _ ep)⟩, ?_⟩⟩
          have hN : (h2 ++ ls.map Ob.lst).length = h2.length + ls.length := by simp
          refine ⟨fun i m σ3 H3 => m = ls.length - i ∧ i ≤ ls.length ∧ ∃ F3 ρ3 h3 s3, Ext F2 ρ2 (h2 ++ ls.map Ob.lst).length F3 ρ3 h3.length ∧ Sim K Y F3 ρ3 h3 H3 ∧ EnvR K F3 ρ3 h3.length s3 σ3 ∧ AftS K ca W Y F3 ρ3 h3.length B (forC ix body (h2.length + i) (ls.length - i) s3 h3),
            ⟨ls.length, rfl, Nat.zero_le _, F2, ρ2, _, s, Ext.refl, S2, (E.mono x1).mono x2, AftS.mono (x1.trans x2) a⟩, ?_⟩
          rintro i m σ3 H3 ⟨rfl, hi, F3, ρ3, h3, s3, x3, S3, E3, a3⟩
          have sq : SqL K H3 p ws := SqL.of (S3.sub _ _ (x3.sub _ _ ep))
          by_cases hlt : i < ls.length
          · have en : ρ3 (h2.length + i) = ρ2 (h2.length + i) := x3.eq _ (by omega)
            refine .inr ⟨⟨ws, _, sq, ew i hlt⟩, fun σ4 H4 => ∃ F3 ρ3 h3 s3, Ext F2 ρ2 (h2 ++ ls.map Ob.lst).length F3 ρ3 h3.length ∧ Sim K Y F3 ρ3 h3 H4 ∧ EnvR K F3 ρ3 h3.length s3 σ4 ∧ AftS K ca W Y F3 ρ3 h3.length B (forC ix body (h2.length + (i + 1)) (ls.length - (i + 1)) s3 h3),
              fun σ4 H4 p => ⟨ls.length - (i + 1), by omega, rfl, hlt, p⟩, fun v H' y => ?_⟩
            obtain ⟨rfl, y⟩ := y
            have ev : v = .ref (ρ3 (h2.length + i)) := by
              have y1 := y ws sq
              rw [ew i hlt] at y1
              rw [en]
              exact (Option.some.inj y1).symm
            subst ev
            have ek : ls.length - i = (ls.length - (i + 1)) + 1 := by omega
            rw [ek] at a3
            have hle := x3.le
            refine ⟨Y, F3, ρ3, h3, s3.set ix (some (.r (h2.length + i))), S3, E3.set (show RV K F3 ρ3 h3.length (.r (h2.length + i)) (.ref (ρ3 (h2.length + i))) from ⟨by omega, rfl⟩) ix, AftS.imp (AftS.seq a3) (fun σ4 H4 q => ?_) fun _ _ q => q⟩
            obtain ⟨F', ρ', h', s4, x, S', E4, a'⟩ := q
            exact ⟨F', ρ', h', s4, x3.trans x, S', E4, a'⟩
          · have ei : i = ls.length := by omega
            subst ei
            refine .inl ⟨⟨ws, sq, by omega⟩, ?_⟩
            rw [Nat.sub_self] at a3
            exact a3 σ3 F3 ρ3 H3 Ext.refl S3 E3
        · exact a.elim
      · exact a.elim
theorem z_forR {x : Str} {ix f : Nat} {iter : Expr} {as : List Expr} {body : List Stmt} {eas : E} {b : Z.S} {p pos : Pos} (G : GdS T Ds wf k ca N X sc W) (hr : isRounds T sc iter = some (f, as)) (hl : locB sc x = true) (hi : slot N x = some ix) (hst : as.all (fun e => !starB e) = true)
    (pa : PA X as (tA X.K ca W (evs (cf Ds wf k) eas))) (pb : PSs X body (tS X.K ca W (exec (cf Ds wf k) b))) : PS X (.For (.Name x p) iter body [] pos) (tS X.K ca W (exec (cf Ds wf k) (.forR ix f eas b))) := by
  unfold isRounds at hr
  split at hr
  · rename_i y p2 a1 a2 p3
    split at hr
    · rename_i c
      obtain ⟨f2, e1, e2⟩ := Option.map_eq_some_iff.mp hr
      cases e2
      simp only [Bool.and_eq_true, decide_eq_true_eq] at c
      obtain ⟨rfl, hg⟩ := c
      obtain ⟨a, fd, ps, g1, g2, g3, g4⟩ := G.g.fx.rnd f (find_ok e1)
      simp only [List.all_cons, Bool.and_eq_true, Bool.not_eq_true'] at hst
      refine PS.imp (ps_for G.ps G.g.calm (pi_list (pe_callS (E := WE W) g4 G.g.room (G.g.gl hg) g1 g2 g3 (fun σ => passAt G.g.tk σ) pa (by decide) (star_one hst.1 X.env _) (nostar X.env _ (by simp [hst.2.1])))) (pg_name G.g.hN (G.g.at hi) (by rw [G.g.eS]; exact loc_ok hl) (.inl (G.fn x))) pb fun _ => rfl) fun B σ H t => forR_t t
    · cases hr
  · cases hr
end
end Z

set_option linter.all false
set_option autoImplicit false
set_option maxRecDepth 100000
set_option maxHeartbeats 4000000
/-! Z17: every expression, every statement, by induction. -/
namespace Z
open PySem L2 PySem.Spec PyProof.Rows
variable [TC : TabsC]
section
variable {T : Tab} {Ds : List Dfn} {wf k : Nat} {ca : Nat → Addr} {N : List Str}
theorem snd0 : Snd T Ds wf k ca N 0 :=
  ⟨fun _ _ _ _ _ q => (nomatch q), fun _ _ _ _ _ _ _ q => (nomatch q), fun _ _ _ _ _ q => (nomatch q), fun _ _ _ _ _ q => (nomatch q), fun _ _ _ _ _ q => (nomatch q), fun _ _ _ _ _ _ _ _ q => (nomatch q), fun _ _ _ _ _ _ _ _ _ q => (nomatch q)⟩
theorem snd_all : ∀ n, Snd T Ds wf k ca N n
  | 0 => snd0
  | n + 1 => ⟨snd_e (snd_all n), snd_l (snd_all n), snd_o (snd_all n), snd_f (snd_all n), snd_a (snd_all n), snd_c (snd_all n), snd_i (snd_all n)⟩
structure SndS (T : Tab) (Ds : List Dfn) (wf k : Nat) (ca : Nat → Addr) (N : List Str) (M : List Nat) (n : Nat) : Prop where
  s : ∀ sc st ir X W, trS T N M sc n st = some ir → GdS T Ds wf k ca N X sc W → PS X st (tS X.K ca W (exec (cf Ds wf k) ir))
  b : ∀ sc st ir X W, trSs T N M sc n st = some ir → GdS T Ds wf k ca N X sc W → PSs X st (tS X.K ca W (exec (cf Ds wf k) ir))
variable {M : List Nat}
theorem snds0 : SndS T Ds wf k ca N M 0 := ⟨fun _ _ _ _ _ q => (nomatch q), fun _ _ _ _ _ q => (nomatch q)⟩
theorem snd_b {n : Nat} (Ss : SndS T Ds wf k ca N M n) : ∀ sc st ir X W, trSs T N M sc (n + 1) st = some ir → GdS T Ds wf k ca N X sc W → PSs X st (tS X.K ca W (exec (cf Ds wf k) ir)) := by
  intro sc st ir X W q G
  cases st with
  | nil =>
    cases q
    exact z_nil
  | cons a r =>
    replace q : (match trS T N M sc n a, trSs T N M sc n r with
      | some a, some b => some (S.seq a b)
      | _, _ => none) = some ir := q
    split at q
    · rename_i a' b' q1 q2
      cases q
      exact z_seq (Ss.s sc a _ X W q1 G) (Ss.b sc r _ X W q2 G)
    · cases q
/-- name = e, whatever e is -/
theorem snd_asg {n : Nat} {sc : Scope} {X : Cx} {W : WX} {x : Str} {p pos : Pos} {e : Expr} {e' : E} {i : Nat} (G : GdS T Ds wf k ca N X sc W) (h1 : locB sc x = true) (h2 : lcOk sc e = true) (hi : slot N x = some i) (q : trE T N n sc e = some e') :
    PS X (.Assign [.Name x p] e pos) (tS X.K ca W (exec (cf Ds wf k) (.asg i (if M.contains i && fresh e then .cel e' else e')))) := by
  obtain ⟨p1, p2, p3⟩ := (snd_all n).e sc e e' X W q G.g
  cases hs : swB sc x p e with
  | false =>
    split
    · rename_i c
      exact z_asg G h1 hi (s_cel (p3 (Bool.and_eq_true_iff.mp c).2)) h2 hs
    · exact z_asg G h1 hi p1 h2 hs
  | true =>
    clear p1 p2 p3
    cases n with
    | zero => cases q
    | succ n =>
      unfold trE at q
      split at q
      case h_18 elt tg iter ifs scope lpos =>
        dsimp only at q
        split at q
        · rename_i i0 hmu
          split at q
          · rename_i t c ee g2 g3 g4
            split at q
            · rename_i hc
              cases q
              simp only [Bool.and_eq_true] at hc
              have pl := z_setLw (pos := lpos) (p := p) (spos := pos) (snd_all n) G hi hmu g2 g3 g4 hc.1 hc.2 h2 hs
              refine PS.imp pl fun B σ H t => ?_
              have t2 := asg_t t
              split at t2
              · exact celF t2
              · obtain ⟨Y, F, ρ, h, s, S, E, a⟩ := t2
                exact ⟨Y, F, ρ, h, s, S, E, AftF.of (fun v h' e => lw_list s h v h' e) a⟩
            · cases q
          · cases q
        · split at q
          · rename_i it t c ee g1 g2 g3 g4
            split at q
            · rename_i hc
              cases q
              simp only [Bool.and_eq_true] at hc
              have pl := z_setLc (pos := lpos) (p := p) (spos := pos) (snd_all n) G hi g1 g2 g3 g4 hc.1.1 hc.1.2 hc.2 h2 hs
              refine PS.imp pl fun B σ H t => ?_
              have t2 := asg_t t
              split at t2
              · exact celF t2
              · obtain ⟨Y, F, ρ, h, s, S, E, a⟩ := t2
                exact ⟨Y, F, ρ, h, s, S, E, AftF.of (fun v h' e => lc_list s h v h' e) a⟩
            · cases q
          · cases q
      case h_21 kx vx tg iter ifs scope lpos =>
        dsimp only at q
        split at q
        · rename_i it t c kk ee g1 g2 g3 g4 g5
          split at q
          · rename_i hc
            cases q
            simp only [Bool.and_eq_true] at hc
            have pl := z_setDc (pos := lpos) (p := p) (spos := pos) (snd_all n) G hi g1 g2 g3 g4 g5 hc.1.1 hc.1.2 hc.2 h2 hs
            refine PS.imp pl fun B σ H t => ?_
            have ef : (M.contains i && fresh (.DictComp kx vx [⟨tg, iter, ifs, 0⟩] scope lpos)) = false := Bool.and_false _
            rw [ef] at t
            exact asg_t t
          · cases q
        · cases q
      all_goals first
        | (cases hs; done)
        | (cases q; done)
theorem snd_s {n : Nat} (Ss : SndS T Ds wf k ca N M n) : ∀ sc st ir X W, trS T N M sc (n + 1) st = some ir → GdS T Ds wf k ca N X sc W → PS X st (tS X.K ca W (exec (cf Ds wf k) ir)) := by
  intro sc st ir X W q G
  have Sn := snd_all (T := T) (Ds := Ds) (wf := wf) (k := k) (ca := ca) (N := N) n
  unfold trS at q
  split at q
  · cases q
    exact z_skip ps_pass
  · obtain ⟨e', q1, rfl⟩ := map_some q
    exact z_ret (Sn.e sc _ _ X W q1 G.g).1
  · cases q
    exact z_skip ps_doc
  · split at q
    · rename_i c
      simp only [Bool.and_eq_true, Bool.not_eq_true', decide_eq_true_eq] at c
      obtain ⟨⟨⟨⟨c1, c2⟩, c3⟩, c4⟩, c5⟩ := c
      subst c3
      split at q
      · rename_i i e' q1 q2
        cases q
        exact z_app G c1 c2 q1 c4 c5 (Sn.e sc _ _ X W q2 G.g).1
      · cases q
    · cases q
  · split at q
    · rename_i hc
      obtain ⟨e', q1, rfl⟩ := map_some q
      exact z_exp hc (Sn.e sc _ _ X W q1 G.g).1
    · cases q
  · split at q
    · rename_i c
      simp only [Bool.and_eq_true] at c
      split at q
      · rename_i i e' q1 q2
        cases q
        exact snd_asg G c.1 c.2 q1 q2
      · cases q
    · cases q
  · split at q
    · rename_i hp
      split at q
      · rename_i is q1
        split at q
        · rename_i hz
          obtain ⟨e', q2, rfl⟩ := map_some q
          exact z_par G q1 hp hz (snd_p Sn G.g q2)
        · cases q
      · cases q
    · cases q
  · split at q
    · rename_i is e' q1 q2
      split at q
      · cases q
      · rename_i ht
        cases q
        exact z_unp G q1 (by simpa using ht) (Sn.e sc _ _ X W q2 G.g).1
    · cases q
  · split at q
    · rename_i c
      simp only [Bool.and_eq_true] at c
      split at q
      · rename_i i j' e' q1 q2 q3
        cases q
        exact z_put G c.1 c.2 q1 (slice_no q2) (Sn.e sc _ _ X W q3 G.g).1 (Sn.e sc _ _ X W q2 G.g).1
      · cases q
    · cases q
  · split at q
    · cases q
    · rename_i hn
      split at q
      · rename_i c' a' b' q1 q2 q3
        cases q
        exact z_ite ((Sn.e sc _ _ X W q1 G.g).2.1 (by simpa using hn)) (Ss.b sc _ _ X W q2 G) (Ss.b sc _ _ X W q3 G)
      · cases q
  · rename_i tgE it body pos
    split at q
    · rename_i f as hr
      split at q
      · rename_i i as' b' q1 q2 q3
        cases q
        obtain ⟨pa, hst⟩ := Sn.a sc _ _ X W q2 G.g
        cases tgE with
        | Name x p =>
          unfold trTg at q1
          dsimp only at q1
          split at q1
          · rename_i i2 hs
            split at q1
            · rename_i c
              cases q1
              exact z_forR G hr (Bool.and_eq_true_iff.mp c).1 hs hst pa (Ss.b sc _ _ X W q3 G)
            · cases q1
          · cases q1
        | Tuple ts k2 p =>
          unfold trTg at q1
          dsimp only at q1
          obtain ⟨_, _, z⟩ := Option.map_eq_some_iff.mp q1
          cases z
        | _ => cases q1
      · cases q
    · split at q
      · rename_i i hd
        split at q
        · rename_i tg b' q1 q3
          cases q
          exact z_forD G q1 hd (Ss.b sc _ _ X W q3 G)
        · cases q
      · split at q
        · rename_i tg it' b' q1 q2 q3
          split at q
          · rename_i ho
            cases q
            exact z_for Sn G q1 q2 ho (Ss.b sc _ _ X W q3 G)
          · cases q
        · cases q
  · split at q
    · cases q
    · rename_i hn
      split at q
      · rename_i c' b' q1 q2
        cases q
        exact z_whl G ((Sn.e sc _ _ X W q1 G.g).2.1 (by simpa using hn)) (Ss.b sc _ _ X W q2 G)
      · cases q
  · split at q
    · rename_i hg
      obtain ⟨c, q1, rfl⟩ := map_some q
      exact z_rse G hg (find_ok q1)
    · cases q
  · cases q
theorem snds_all : ∀ n, SndS T Ds wf k ca N M n
  | 0 => snds0
  | n + 1 => ⟨snd_s (snds_all n), snd_b (snds_all n)⟩
end
end Z

set_option linter.all false
set_option autoImplicit false
set_option maxRecDepth 100000
set_option maxHeartbeats 4000000
/-! Z18: every def keeps its run. -/
namespace Z
open PySem L2 PySem.Spec PyProof.Rows
variable [TC : TabsC]
theorem look_zip : ∀ {ps : List Str} {us : List Value}, us.length = ps.length → ∀ n ∈ ps, ((ps.zip us).lookup n).isNone = false
  | p :: ps, u :: us, hl, n, hn => by
    rw [List.zip_cons_cons, List.lookup_cons]
    by_cases e : n == p
    · rw [e]
      rfl
    · have e' : (n == p) = false := by simpa using e
      rw [e']
      rcases List.mem_cons.mp hn with z | z
      · exact absurd (by simp [z]) e
      · exact look_zip (Nat.succ.inj hl) n z
theorem look_map : ∀ {ps : List Str} {us : List Value}, ps.Nodup → us.length = ps.length → ps.filterMap (fun n => ((ps.zip us).lookup n).map (n, ·)) = ps.zip us
  | [], [], _, _ => rfl
  | p :: ps, u :: us, nd, hl => by
    obtain ⟨n1, n2⟩ := List.nodup_cons.mp nd
    rw [List.zip_cons_cons, List.filterMap_cons]
    have e : List.lookup p ((p, u) :: ps.zip us) = some u := by simp [List.lookup_cons]
    rw [e]
    show (p, u) :: _ = _
    congr 1
    have key : ∀ l : List Str, (∀ n ∈ l, n ≠ p) → l.filterMap (fun n => (List.lookup n ((p, u) :: ps.zip us)).map (n, ·)) = l.filterMap (fun n => (List.lookup n (ps.zip us)).map (n, ·)) := by
      intro l
      induction l with
      | nil => exact fun _ => rfl
      | cons n l ih =>
        intro h
        have e' : (n == p) = false := beq_false_of_ne (h n (by simp))
        rw [List.filterMap_cons, List.filterMap_cons, List.lookup_cons, e', ih fun m hm => h m (List.mem_cons_of_mem _ hm)]
    rw [key ps fun n hn z => n1 (z ▸ hn)]
    exact look_map n2 (Nat.succ.inj hl)
theorem args_plain {x qual : Str} {as : List Arg} {body : List Stmt} {sc : Scope} (nd : (as.map (·.arg)).Nodup) (kV doc pm : Value) (an : Option Addr) (cdv ct : Value) (us : List Value) (hl : us.length = (as.map (·.arg)).length) :
    bindArgs (PySem.W.fnOf x qual ⟨[], as, none, [], [], none, []⟩ body sc .none kV doc pm an cdv ct) ⟨us, []⟩ = pure ((as.map (·.arg)).zip us) := by
  have h1 : ((as.map (·.arg)).filter fun n => (((as.map (·.arg)).zip us).lookup n).isNone) = [] := List.filter_eq_nil_iff.mpr fun n hn => by
    rw [look_zip hl n hn]
    decide
  have h2 := look_map nd hl
  unfold bindArgs PySem.W.fnOf
  have h3 : ¬ us.length > (List.map (fun x : Arg => x.arg) as).length := by omega
  have hs : seqItems? Value.none = pure none := rfl
  simp only [List.map_nil, List.nil_append, List.append_nil, List.forIn_nil, hs, pure_bind, Option.getD_none, List.drop_nil, List.length_nil, Nat.sub_zero, List.take_length, h1, h2, List.drop_length, List.zip_nil_left, List.isEmpty_nil, Bool.not_true, Option.isNone_none, Bool.and_true]
  rw [if_neg (by simpa using h3)]
  rfl
/-- plain parameters -/
def argsB (a : Arguments) (ps : List Str) : Bool := match a with
  | ⟨[], as, none, [], [], none, []⟩ => decide (as.map (·.arg) = ps) && decide ps.Nodup
  | _ => false
theorem args_ok {x qual : Str} {a : Arguments} {body : List Stmt} {sc : Scope} {ps : List Str} (h : argsB a ps = true) (kV doc pm : Value) (an : Option Addr) (cdv ct : Value) (us : List Value) (hl : us.length = ps.length) :
    bindArgs (PySem.W.fnOf x qual a body sc .none kV doc pm an cdv ct) ⟨us, []⟩ = pure (ps.zip us) := by
  unfold argsB at h
  split at h
  · rename_i as
    simp only [Bool.and_eq_true, decide_eq_true_eq] at h
    obtain ⟨rfl, h2⟩ := h
    exact args_plain h2 kV doc pm an cdv ct us hl
  · cases h
/-- what is checked of a def's text -/
def srcB (T : Tab) (s : Src) : Bool := C8.scC s.N s.ps (defScope s.st) && argsB (defArgs s.st) s.ps && (trD T s).isSome
def dfnOf (T : Tab) (s : Src) : Dfn := (trD T s).getD ⟨0, 0, .skip⟩
/-- what the module's names are -/
structure Mo (T : Tab) (srcs : List Src) (ca : Nat → Addr) (K : PySem.W.Frag) (mg : Str → Option Value) : Prop where
  fn : ∀ (f : Nat) (x : Str), T.fns[f]? = some x → ∃ (s : Src) (a : Addr) (fd : FuncData), srcs[f]? = some s ∧ mg x = some (.ref a) ∧ FunD K x x (defArgs s.st) (defBody s.st) (defScope s.st) [] [] a fd ∧ srcB T s = true ∧ (x == ("__debug__" : Str)) = false
  exc : ∀ c x, T.excs[c]? = some x → mg x = some (.ref (ca c)) ∧ PySem.W.keepIn K (.ref (ca c)) = true ∧ (∃ B newId initId bm, ExcBaseFacts B newId initId bm ∧ PySem.W.excIn K (ca c) bm newId = true) ∧ PySem.W.subIn K (.ref (ca c)) (.type "BaseException") = some true ∧ PySem.W.typeIn K (.ref (ca c)) = some (.type "type") ∧ (x == ("__debug__" : Str)) = false
  glb : ∀ x d, T.glb.lookup x = some d → ∃ u v, mg x = some u ∧ RelV v u ∧ (∀ F, Rp K F v d) ∧ (x == ("__debug__" : Str)) = false
  fre : ∀ x, T.fre.contains x = true → mg x = none
  wr : tupC T = false → TC.wr = false
section
variable {T : Tab} {srcs : List Src} {wf k : Nat} {ca : Nat → Addr} {K : PySem.W.Frag} {mg : Str → Option Value} {P : Program} {w : World} {base : Heap}
theorem env_start {F : Hp} {ρ : Nat → Addr} {n : Nat} {vs : List Vl} {us : List V} {N : List Str} (r : RVs K F ρ n vs us) (m : Nat) (hm : N.length - us.length = m) : EnvR K F ρ n (vs.map some ++ List.replicate m none) (L2.start N us) := by
  have hl : vs.length = us.length := Paired.length r
  unfold L2.start
  rw [hm]
  refine ⟨by simp [hl], fun i v e => ?_⟩
  by_cases hi : i < vs.length
  · rw [List.getElem?_append_left (by simpa using hi), List.getElem?_map] at e
    rw [List.getElem?_append_left (by simpa [← hl] using hi), List.getElem?_map]
    have hi2 : i < us.length := by omega
    have rr : ∀ {vs : List Vl} {us : List V} {i : Nat} {v : Vl}, RVs K F ρ n vs us → vs[i]? = some v → ∃ u, us[i]? = some u ∧ RV K F ρ n v u := by
      intro vs us i v r e
      induction r generalizing i with
      | nil => cases e
      | cons q t ih =>
        cases i with
        | zero =>
          cases e
          exact ⟨_, rfl, q⟩
        | succ i => exact ih e
    cases q : vs[i]? with
    | none =>
      rw [q] at e
      cases e
    | some v' =>
      rw [q] at e
      cases e
      obtain ⟨u, e2, q2⟩ := rr r q
      exact ⟨u, by rw [e2]; rfl, q2⟩
  · rw [List.getElem?_append_right (by simpa using hi), List.getElem?_replicate] at e
    split at e <;> cases e
/-- behind a def -/
theorem fin_ok {Y F F' : Hp} {ρ ρ' : Nat → Addr} {z : Nat} {h' : Hep} {H' : Hp} {v : Vl} {u : V} {W : WX} {Q : VK} (a : Aft K ca W Y F ρ z [] Q (fin z v h')) (x : Ext F ρ z F' ρ' h'.length) (S : Sim K Y F' ρ' h' H') (r : RV K F' ρ' h'.length v u) : Q u H' := by
  have lz : (h'.take z).length = z := by
    rw [List.length_take]
    have := x.le
    omega
  have x2 : Ext F ρ z F' ρ' (h'.take z).length := by
    rw [lz]
    exact ⟨x.sub, Nat.le_refl _, x.eq⟩
  cases v with
  | d y => exact a u F' ρ' H' x2 (S.drop z) r
  | r n =>
    obtain ⟨hn, rfl⟩ := r
    unfold fin at a
    dsimp only at a
    split at a
    · rename_i hlt
      exact a _ F' ρ' H' x2 (S.drop z) ⟨by rw [lz]; exact hlt, rfl⟩
    · rename_i hge
      split at a
      · rename_i xs q
        obtain ⟨vs, S1, m, dp⟩ := S.stay q
        have S2 := S1.drop z
        have e : (h'.set n (.fz xs)).take z = h'.take z := by
          rw [List.take_set_of_le (by omega)]
        rw [e] at S2
        refine a _ _ ρ' H' ?_ S2 dp
        rw [lz]
        exact ⟨fun b o e => m b o (x.sub b o e), Nat.le_refl _, x.eq⟩
      · rename_i xs q
        obtain ⟨vs, e1, e2⟩ := S.ob n _ q
        exact a _ F' ρ' H' x2 (S.drop z) (Rp.lst e1 e2)
      · exact a.elim
      · exact a.elim
      · rename_i kvs q
        have ob := S.ob n _ q
        have S1 := S.drop z
        have lo : Loose Y F' ρ' (h'.take z) (ρ' n) := ⟨by
            cases e : Y (ρ' n) with
            | none => rfl
            | some o => exact absurd rfl ((S.fr _ _ e).2.2 n _ q trivial), ob.1, fun m o em lv e => by
            have := S.inj m n o _ (take_get em) q lv trivial e
            have hl := (List.getElem?_eq_some_iff.mp em).1
            rw [lz] at hl
            omega⟩
        obtain ⟨ρ2, S2, x3, e3⟩ := S1.cellG lo ob
        exact a _ F' ρ2 H' (x2.trans x3) S2 ⟨by simp, by rw [e3]⟩
      · rename_i kvs q
        have ob := S.ob n _ q
        have S1 := S.drop z
        have lo : Loose Y F' ρ' (h'.take z) (ρ' n) := ⟨by
            cases e : Y (ρ' n) with
            | none => rfl
            | some o => exact absurd rfl ((S.fr _ _ e).2.2 n _ q trivial), ob.1, fun m o em lv e => by
            have := S.inj m n o _ (take_get em) q lv trivial e
            have hl := (List.getElem?_eq_some_iff.mp em).1
            rw [lz] at hl
            omega⟩
        obtain ⟨ρ2, S2, x3, e3⟩ := S1.cellG lo ob
        exact a _ F' ρ2 H' (x2.trans x3) S2 ⟨by simp, by rw [e3]⟩
      · rename_i q
        exact (S.ob n _ q).elim
      · exact a.elim
theorem spC_len {f n : Nat} {d : Dfn} (hd : (srcs.map (dfnOf T))[f]? = some d) (hn : d.ps = n) : ∀ vs H Q E, spC K ca (call (srcs.map (dfnOf T)) wf (k + 1) f) vs H Q E → vs.length = n := by
  intro us H Q E ⟨Y, F, ρ, h, vs, S, r, a⟩
  have hl : vs.length = us.length := Paired.length r
  unfold call at a
  rw [hd] at a
  dsimp only at a
  unfold run at a
  split at a
  · omega
  · exact a.elim
/-- one def, by its text -/
theorem def_ok {f : Nat} {x : Str} {s : Src} {a : Addr} {fd : FuncData} (hk : Fx T (srcs.map (dfnOf T)) wf k ca P w K mg base) (hf : srcs[f]? = some s) (F : FunD K x x (defArgs s.st) (defBody s.st) (defScope s.st) [] [] a fd) (hs : srcB T s = true) :
    FnOk P w K mg base (L2.CX P w) (k + 1) a fd s.ps (spC K ca (call (srcs.map (dfnOf T)) wf (k + 1) f)) := by
  unfold srcB at hs
  simp only [Bool.and_eq_true] at hs
  obtain ⟨⟨h1, h2⟩, h3⟩ := hs
  obtain ⟨d, ed⟩ := Option.isSome_iff_exists.mp h3
  have eD : dfnOf T s = d := by
    unfold dfnOf
    rw [ed]
    rfl
  have hd : (srcs.map (dfnOf T))[f]? = some d := by
    rw [List.getElem?_map, hf, ← eD]
    rfl
  unfold trD at ed
  obtain ⟨b, eb, ed⟩ := Option.map_eq_some_iff.mp ed
  subst ed
  refine F.ok (C8.fnScope_by h1) (spC_len hd rfl) fun cdv A outer st H us Q E hr hsp => ⟨tS K ca (fun c d _ H => E c d H) (exec (cf (srcs.map (dfnOf T)) wf k) b), ?_, ?_⟩
  · refine (snds_all (T := { T with mt := s.M }) 60).b (defScope s.st) (defBody s.st) b _ _ eb ⟨⟨rfl, (C8.fnScope_by h1).nd, rfl, rfl, hr, takes_of rfl rfl rfl rfl, ⟨hk.fn, hk.glb, hk.rnd, hk.exc, hk.fre, hk.wr⟩⟩, fun _ => rfl, passes_of rfl⟩
  · obtain ⟨Y, F1, ρ, h, vs, S, r, a1⟩ := hsp
    have hl : vs.length = us.length := Paired.length r
    unfold call at a1
    rw [hd] at a1
    dsimp only at a1
    unfold run at a1
    split at a1
    · rename_i hv
      have hv : vs.length = s.ps.length := hv
      refine ⟨Y, F1, ρ, h, vs.map some ++ List.replicate (s.N.length - s.ps.length) none, S, env_start r _ (by rw [← hl, hv]), ?_⟩
      dsimp only at a1
      cases e : exec (cf (srcs.map (dfnOf T)) wf k) b (vs.map some ++ List.replicate (s.N.length - s.ps.length) none) h with
      | no =>
        rw [e] at a1
        exact a1.elim
      | ex c h' =>
        rw [e] at a1
        intro σ' F' ρ' H' x S'
        refine a1 F' ρ' H' ?_ (S'.drop _)
        have := x.le
        rw [List.length_take, Nat.min_eq_left this]
        exact ⟨x.sub, Nat.le_refl _, x.eq⟩
      | nx s' h' =>
        rw [e] at a1
        exact fun σ' F' ρ' H' x S' _ => fin_ok (v := .d .none) a1 x S' .non
      | rt v h' =>
        rw [e] at a1
        exact fun u F' ρ' H' x S' rv => fin_ok a1 x S' rv
    · exact a1.elim
theorem fn0 {a : Addr} {fd : FuncData} {ps : List Str} {f : Nat} {Ds : List Dfn} : FnOk P w K mg base (L2.CX P w) 0 a fd ps (spC K ca (call Ds wf 0 f)) :=
  ⟨fun _ _ _ _ ⟨_, _, _, _, _, _, _, a⟩ => a.elim, fun _ _ _ _ _ _ _ _ _ _ _ _ _ ⟨_, _, _, _, _, _, _, a⟩ => a.elim⟩
theorem fnR0 {a : Addr} {fd : FuncData} {ps : List Str} {f : Nat} {Ds : List Dfn} : FnOk P w K mg base (L2.CX P w) 0 a fd ps (spR K ca (call Ds wf 0 f)) :=
  ⟨fun _ _ _ _ ⟨_, _, _, _, _, _, _, a⟩ => a.elim, fun _ _ _ _ _ _ _ _ _ _ _ _ _ ⟨_, _, _, _, _, _, _, a⟩ => a.elim⟩
/-- the law's rounds, one step up -/
def Rounds (T : Tab) (srcs : List Src) (wf : Nat) (ca : Nat → Addr) (K : PySem.W.Frag) (mg : Str → Option Value) (P : Program) (w : World) (base : Heap) : Prop :=
  ∀ k f s a fd, Fx T (srcs.map (dfnOf T)) wf k ca P w K mg base → T.fns[f]? = some ("_law_rounds" : Str) → srcs[f]? = some s → FunD K "_law_rounds" "_law_rounds" (defArgs s.st) (defBody s.st) (defScope s.st) [] [] a fd → srcB T s = true →
    FnOk P w K mg base (L2.CX P w) (k + 1) a fd s.ps (spR K ca (call (srcs.map (dfnOf T)) wf (k + 1) f))
theorem binds_of {s : Src} {x : Str} {a : Addr} {fd : FuncData} (F : FunD K x x (defArgs s.st) (defBody s.st) (defScope s.st) [] [] a fd) (hs : srcB T s = true) : Binds K fd s.ps [] := by
  unfold srcB at hs
  simp only [Bool.and_eq_true] at hs
  exact F.bindsN (args_ok hs.1.2)
theorem fx_all (M : Mo T srcs ca K mg) (Rn : Rounds T srcs wf ca K mg P w base) : ∀ k, Fx T (srcs.map (dfnOf T)) wf k ca P w K mg base
  | 0 => ⟨fun f x e => by
      obtain ⟨s, a, fd, e1, e2, F, hs, hb⟩ := M.fn f x e
      exact ⟨a, fd, s.ps, e2, F.kp, binds_of F hs, fn0, hb⟩, M.glb, fun f e => by
      obtain ⟨s, a, fd, e1, e2, F, hs, hb⟩ := M.fn f _ e
      exact ⟨a, fd, s.ps, e2, F.kp, binds_of F hs, fnR0⟩, M.exc, M.fre, M.wr⟩
  | k + 1 => ⟨fun f x e => by
      obtain ⟨s, a, fd, e1, e2, F, hs, hb⟩ := M.fn f x e
      exact ⟨a, fd, s.ps, e2, F.kp, binds_of F hs, def_ok (fx_all M Rn k) e1 F hs, hb⟩, M.glb, fun f e => by
      obtain ⟨s, a, fd, e1, e2, F, hs, hb⟩ := M.fn f _ e
      exact ⟨a, fd, s.ps, e2, F.kp, binds_of F hs, Rn k f s a fd (fx_all M Rn k) e e1 F hs⟩, M.exc, M.fre, M.wr⟩
end
end Z

set_option linter.all false
set_option autoImplicit false
set_option maxRecDepth 100000
set_option maxHeartbeats 4000000
/-! Z19: the law's rounds. -/
namespace Z
open PySem L2 PySem.Spec PyProof.Rows
variable [TC : TabsC]
section
variable {K : PySem.W.Frag} {ca : Nat → Addr} {W : WX} {Y F F1 : Hp} {ρ ρ1 : Nat → Addr} {n n1 : Nat} {σ : L2.St} {H : Hp} {Q : VK} {h : Hep}
abbrev refs (ps : List (Addr × List V)) : List V := ps.map fun p => .ref p.1
abbrev LsAt (K : PySem.W.Frag) (Y F : Hp) (ρ : Nat → Addr) (h : Hep) (H : Hp) (p : Addr × List V) (xs : List D) : Prop := H p.1 = some (.lst p.2) ∧ Loose Y F ρ h p.1 ∧ RpA K F p.2 xs
def AftG (K : PySem.W.Frag) (ca : Nat → Addr) (W : WX) (Y F : Hp) (ρ : Nat → Addr) (n : Nat) (σ : L2.St) (Q : VK) : R Vl → Prop
  | .ok v h => ∃ rows ls, v = .d (.list rows) ∧ rowsL rows = some ls ∧ ∀ L ps F' ρ' H', Ext F ρ n F' ρ' h.length → Sim K Y F' ρ' h H' → Loose Y F' ρ' h L → H' L = some (.lst (refs ps)) → L ∉ ps.map (·.1) → (ps.map (·.1)).Nodup → Paired (LsAt K Y F' ρ' h H') ps ls → Q (.ref L) H'
  | .ex c h => ∀ F' ρ' H', Ext F ρ n F' ρ' h.length → Sim K Y F' ρ' h H' → W (.ref (ca c)) none σ H'
  | .no => False
theorem AftG.mono {r : R Vl} (e : Ext F ρ n F1 ρ1 n1) (a : AftG K ca W Y F ρ n σ Q r) : AftG K ca W Y F1 ρ1 n1 σ Q r := by
  cases r with
  | ok v h =>
    obtain ⟨rows, ls, ev, el, k⟩ := a
    exact ⟨rows, ls, ev, el, fun L ps F' ρ' H' x => k L ps F' ρ' H' (e.trans x)⟩
  | ex c h => exact fun F' ρ' H' x S => a F' ρ' H' (e.trans x) S
  | no => exact a
theorem rowsL_app : ∀ {ys : List D} {ls : List (List D)} (xs : List D), rowsL ys = some ls → rowsL (ys ++ [.list xs]) = some (ls ++ [xs])
  | [], ls, xs, e => by
    have e' : [] = ls := Option.some.inj e
    subst e'
    rfl
  | .list y :: ys, ls, xs, e => by
    obtain ⟨ls', e1, e2⟩ := Option.map_eq_some_iff.mp (show (rowsL ys).map (y :: ·) = some ls from e)
    subst e2
    show (rowsL (ys ++ [.list xs])).map (y :: ·) = _
    rw [rowsL_app xs e1]
    rfl
  | .none :: ys, _, _, e => by cases e
  | .bool _ :: ys, _, _, e => by cases e
  | .int _ :: ys, _, _, e => by cases e
  | .str _ :: ys, _, _, e => by cases e
  | .tuple _ :: ys, _, _, e => by cases e
  | .dict _ :: ys, _, _, e => by cases e
theorem Sim.less {Y' : Hp} (S : Sim K Y' F ρ h H) (m : ∀ a o, Y a = some o → Y' a = some o) : Sim K Y F ρ h H := ⟨S.sub, S.ob, S.inj, fun a o e => S.fr a o (m a o e), fun a o e => S.yl a o (m a o e), S.tb⟩
theorem upd_swap {a b : Addr} {o o' : HO} (hne : a ≠ b) : upd (upd Y a o) b o' = upd (upd Y b o') a o := by
  funext c
  by_cases h1 : c = b
  · subst h1
    rw [upd_same, upd_ne (Ne.symm hne), upd_same]
  · rw [upd_ne h1]
    by_cases h2 : c = a
    · subst h2
      rw [upd_same, upd_same]
    · rw [upd_ne h2, upd_ne h2, upd_ne h1]
abbrev LsW (K : PySem.W.Frag) (Y Yb F : Hp) (p : Addr × List V) (xs : List D) : Prop := Yb p.1 = some (.lst p.2) ∧ Y p.1 = none ∧ RpA K F p.2 xs
theorem tLc_R {ri : Env → Hep → R (List D)} {rc re : Env → Hep → R Vl} {tg : Tg} {ow : List Nat} (hin : tgIn ow tg = true) (hre : ∀ s h v h', re s h = .ok v h' → ∃ xs, v = .d (.list xs)) (s : Env) (S : Sim K Y F ρ h H) (E : EnvR K F ρ h.length s σ) (a : AftG K ca W Y F ρ h.length σ Q (lcR ri rc re tg ow s h)) :
    tLc (tI K ca W ri) (gT K tg) (tT K ca WF rc) (tF K ca WF re) ow σ H Q := by
  refine ⟨Y, F, ρ, h, s, S, E, ?_⟩
  unfold lcR at a
  cases e : ri s h with
  | ex c h1 =>
    rw [e] at a
    exact a
  | no =>
    rw [e] at a
    exact a
  | ok xs h1 =>
    rw [e] at a
    replace a : AftG K ca W Y F ρ h.length σ Q (if szOk xs.length then bnd (compL (lcStep rc re tg (Z.wipe s ow)) xs h1) fun ys h2 => .ok (.d (.list ys)) h2 else .no) := a
    split at a
    · rename_i hz
      have hz : xs.length ≤ sizeLine := of_decide_eq_true hz
      intro J F1 ρ1 H1 x1 S1 jt L hL
      have lo := S1.loose hL
      refine ⟨fun i m Hh => m = xs.length - i ∧ i ≤ xs.length ∧ ∃ F2 ρ2 h2 Yb ps ls0 ys0, Ext F1 ρ1 h1.length F2 ρ2 h2.length ∧ Sim K (upd Yb L (.lst (refs ps))) F2 ρ2 h2 Hh ∧ Yb L = none ∧ (∀ a o, Y a = some o → Yb a = some o) ∧ (ps.map (·.1)).Nodup ∧ Paired (LsW K Y Yb F2) ps ls0 ∧ rowsL ys0 = some ls0 ∧ ps.length ≤ i ∧
        AftG K ca W Y F2 ρ2 h2.length σ Q (bnd (compL (lcStep rc re tg (Z.wipe s ow)) (xs.drop i) h2) fun ys h3 => .ok (.d (.list (ys0 ++ ys))) h3), ⟨xs.length, rfl, Nat.zero_le _, F1, ρ1, h1, Y, [], [], [], Ext.refl, (S1.new hL).watch lo upd_same, lo.ny, fun _ _ e => e, List.nodup_nil, .nil, rfl, Nat.le_refl _, AftG.mono x1 a⟩, ?_⟩
      rintro i m Hh ⟨rfl, hi, F2, ρ2, h2, Yb, ps, ls0, ys0, x2, S2, nL, sY, nd, pr, er0, la, a2⟩
      by_cases hlt : i < xs.length
      · refine .inr ⟨jt.go i _ F2 ρ2 h2 Hh x2.sub S2 hlt, fun H' => ∃ F2 ρ2 h2 Yb ps ls0 ys0, Ext F1 ρ1 h1.length F2 ρ2 h2.length ∧ Sim K (upd Yb L (.lst (refs ps))) F2 ρ2 h2 H' ∧ Yb L = none ∧ (∀ a o, Y a = some o → Yb a = some o) ∧ (ps.map (·.1)).Nodup ∧ Paired (LsW K Y Yb F2) ps ls0 ∧ rowsL ys0 = some ls0 ∧ ps.length ≤ i + 1 ∧
          AftG K ca W Y F2 ρ2 h2.length σ Q (bnd (compL (lcStep rc re tg (Z.wipe s ow)) (xs.drop (i + 1)) h2) fun ys h3 => .ok (.d (.list (ys0 ++ ys))) h3), fun H' p => ⟨xs.length - (i + 1), by omega, rfl, hlt, p⟩, fun v H' y => ?_⟩
        obtain ⟨F3, d, m3, S3, ed, dp⟩ := jt.yld i _ F2 ρ2 h2 Hh v H' x2.sub S2 hlt y
        have x3 : Ext F2 ρ2 h2.length F3 ρ2 h2.length := ⟨m3, Nat.le_refl _, fun _ _ => rfl⟩
        rw [drop_cons hlt ed] at a2
        replace a2 : AftG K ca W Y F2 ρ2 h2.length σ Q (bnd (bnd (lcStep rc re tg (Z.wipe s ow) d h2) fun o h1 => bnd (compL (lcStep rc re tg (Z.wipe s ow)) (xs.drop (i + 1)) h1) fun ys h3 => .ok (match o with
          | some y => y :: ys
          | none => ys) h3) fun ys h3 => .ok (.d (.list (ys0 ++ ys))) h3) := a2
        have Ew : EnvR K F3 ρ2 h2.length (Z.wipe s ow) (L2.wipe σ ow) := ((E.mono x1).mono (x2.trans x3)).wipe ow
        unfold lcStep at a2
        cases es : setTg (Z.wipe s ow) d tg with
        | none =>
          rw [es] at a2
          exact a2.elim
        | some s' =>
          rw [es] at a2
          dsimp only at a2
          refine setTg_ok S3 Ew dp es fun σ' E' wp => ⟨by rw [wp ow hin, wipe_wipe], ⟨_, F3, ρ2, h2, s', S3, E', ?_⟩⟩
          cases ec : rc s' h2 with
          | ex c h3 =>
            rw [ec] at a2
            exact a2.elim
          | no =>
            rw [ec] at a2
            exact a2.elim
          | ok b h3 =>
            rw [ec] at a2
            split at a2
            · rename_i heq
              cases heq
              refine ⟨true, rfl, fun F4 ρ4 H4 x4 S4 => ?_⟩
              refine iteT ?_
              refine ⟨_, F4, ρ4, _, s', S4, E'.mono x4, ?_⟩
              cases er : re s' h3 with
              | ex c h5 =>
                rw [er] at a2
                exact a2.elim
              | no =>
                rw [er] at a2
                exact a2.elim
              | ok y h5 =>
                rw [er] at a2
                obtain ⟨zs, rfl⟩ := hre s' h3 y h5 er
                dsimp only at a2
                refine ⟨zs, rfl, fun p vs F5 ρ5 H5 x5 S5 lp hp dv => ?_⟩
                have hH := (S5.unwatch nL).2.2
                have xx : Ext F2 ρ2 h2.length F5 ρ5 h5.length := (x3.trans x4).trans x5
                have hpL : p ≠ L := by
                  rintro rfl
                  have := lp.ny
                  rw [upd_same] at this
                  cases this
                have nYb : Yb p = none := by
                  have := lp.ny
                  rw [upd_ne hpL] at this
                  exact this
                have nY : Y p = none := by
                  cases q : Y p with
                  | none => rfl
                  | some o =>
                    rw [sY p o q] at nYb
                    cases nYb
                have S6 := S5.watch lp hp
                rw [upd_swap (Ne.symm hpL)] at S6
                have nL2 : upd Yb p (.lst vs) L = none := by
                  rw [upd_ne (Ne.symm hpL)]
                  exact nL
                have lr : (refs ps).length = ps.length := List.length_map _
                refine ⟨refs ps, hH, by rw [lr]; omega, F5, ρ5, h5, upd Yb p (.lst vs), ps ++ [(p, vs)], ls0 ++ [zs], ys0 ++ [.list zs], x2.trans xx, ?_, nL2, fun a o q => ?_, ?_, paired_snoc (Paired.mapP pr fun q ws z => ?_) ⟨upd_same, nY, dv⟩, rowsL_app zs er0, by rw [List.length_append, List.length_singleton]; omega, ?_⟩
                · have := S6.rewatch (xs' := refs (ps ++ [(p, vs)])) nL2
                  have e2 : refs (ps ++ [(p, vs)]) = refs ps ++ [.ref p] := List.map_append
                  rw [e2] at this ⊢
                  exact this
                · rw [upd_ne (ne_of_none q nY)]
                  exact sY a o q
                · rw [List.map_append]
                  refine List.nodup_append.mpr ⟨nd, by simp, ?_⟩
                  intro b hb c hc ebc
                  simp only [List.map_cons, List.map_nil, List.mem_singleton] at hc
                  subst hc
                  subst ebc
                  have key : ∀ {qs : List (Addr × List V)} {ws : List (List D)}, Paired (LsW K Y Yb F2) qs ws → b ∈ qs.map (·.1) → False := by
                    intro qs ws pq
                    induction pq with
                    | nil => simp
                    | cons z t ih =>
                      intro hb
                      rcases List.mem_cons.mp hb with z2 | z2
                      · have z1 := z.1
                        dsimp only at z2
                        rw [← z2, nYb] at z1
                        cases z1
                      · exact ih z2
                  exact key pr hb
                · refine ⟨?_, z.2.1, dpA_mono xx.sub _ _ z.2.2⟩
                  rw [upd_ne (ne_of_none z.1 nYb)]
                  exact z.1
                · replace a2 : AftG K ca W Y F2 ρ2 h2.length σ Q (bnd (bnd (compL (lcStep rc re tg (Z.wipe s ow)) (xs.drop (i + 1)) h5) fun ys h3 => .ok (.list zs :: ys) h3) fun ys h3 => .ok (.d (.list (ys0 ++ ys))) h3) := a2
                  refine AftG.mono xx ?_
                  cases er2 : compL (lcStep rc re tg (Z.wipe s ow)) (xs.drop (i + 1)) h5 with
                  | ex c h7 =>
                    rw [er2] at a2
                    exact a2
                  | no =>
                    rw [er2] at a2
                    exact a2
                  | ok ys h7 =>
                    rw [er2] at a2
                    show AftG K ca W Y F2 ρ2 h2.length σ Q (.ok (.d (.list ((ys0 ++ [.list zs]) ++ ys))) h7)
                    rw [List.append_assoc]
                    exact a2
            · rename_i heq
              cases heq
              refine ⟨false, rfl, fun F4 ρ4 H4 x4 S4 => ?_⟩
              refine iteF ?_
              have xx : Ext F2 ρ2 h2.length F4 ρ4 _ := x3.trans x4
              refine ⟨F4, ρ4, _, Yb, ps, ls0, ys0, x2.trans xx, S4, nL, sY, nd, Paired.mapP pr fun q ws z => ⟨z.1, z.2.1, dpA_mono xx.sub _ _ z.2.2⟩, er0, by omega, AftG.mono xx ?_⟩
              have a3 : AftG K ca W Y F2 ρ2 h2.length σ Q (bnd (bnd (compL (lcStep rc re tg (Z.wipe s ow)) (xs.drop (i + 1)) h3) fun ys h3 => .ok ys h3) fun ys h3 => .ok (.d (.list (ys0 ++ ys))) h3) := a2
              cases er2 : compL (lcStep rc re tg (Z.wipe s ow)) (xs.drop (i + 1)) h3 with
              | ex c h7 =>
                rw [er2] at a3
                exact a3
              | no =>
                rw [er2] at a3
                exact a3
              | ok ys h7 =>
                rw [er2] at a3
                exact a3
            · exact a2.elim
      · have ei : i = xs.length := by omega
        subst ei
        refine .inl ⟨jt.stop _ F2 ρ2 h2 Hh x2.sub S2, ?_⟩
        rw [List.drop_length] at a2
        obtain ⟨rows, ls, e1, e2, k⟩ := a2
        have e1' : ys0 ++ [] = rows := by
          injection e1 with e1
          injection e1
        rw [List.append_nil] at e1'
        subst e1'
        rw [er0] at e2
        have e2' := Option.some.inj e2
        subst e2'
        have S3 : Sim K Y F2 ρ2 h2 Hh := S2.less fun a o q => by
          have hne : a ≠ L := by
            rintro rfl
            rw [sY a o q] at nL
            cases nL
          rw [upd_ne hne]
          exact sY a o q
        have atW : ∀ b o, Yb b = some o → Y b = none → Hh b = some o ∧ Loose Y F2 ρ2 h2 b := fun b o q nb => by
          have hne : b ≠ L := by
            rintro rfl
            rw [q] at nL
            cases nL
          obtain ⟨k1, k2, k3⟩ := S2.fr b o (by rw [upd_ne hne]; exact q)
          exact ⟨k1, nb, k2, k3⟩
        obtain ⟨k1, k2, k3⟩ := S2.fr L _ upd_same
        refine k L ps F2 ρ2 Hh Ext.refl S3 ⟨lo.ny, k2, k3⟩ k1 ?_ nd (Paired.mapP pr fun q ws z => ⟨(atW _ _ z.1 z.2.1).1, (atW _ _ z.1 z.2.1).2, z.2.2⟩)
        have key : ∀ {qs : List (Addr × List V)} {ws : List (List D)}, Paired (LsW K Y Yb F2) qs ws → L ∉ qs.map (·.1) := by
          intro qs ws pq
          induction pq with
          | nil => simp
          | cons z t ih =>
            intro hb
            rcases List.mem_cons.mp hb with z2 | z2
            · have z1 := z.1
              dsimp only at z2
              rw [← z2, nL] at z1
              cases z1
            · exact ih z2
        exact key pr
    · exact a.elim
theorem Loose.take {p : Addr} (l : Loose Y F ρ h p) (k : Nat) : Loose Y F ρ (h.take k) p := ⟨l.ny, l.nf, fun n o q lv => l.nc n o (take_get q) lv⟩
/-- loose lists become cells -/
theorem cells_all : ∀ {ps : List (Addr × List V)} {ls : List (List D)} {ρ : Nat → Addr} {h : Hep}, Sim K Y F ρ h H → (ps.map (·.1)).Nodup → Paired (LsAt K Y F ρ h H) ps ls →
    ∃ ρ', Sim K Y F ρ' (h ++ ls.map Ob.lst) H ∧ Ext F ρ h.length F ρ' (h ++ ls.map Ob.lst).length ∧ (∀ j, j < ls.length → (refs ps)[j]? = some (.ref (ρ' (h.length + j)))) ∧ ∀ L, Loose Y F ρ h L → L ∉ ps.map (·.1) → Loose Y F ρ' (h ++ ls.map Ob.lst) L
  | [], [], ρ, h, S, _, .nil => by
    refine ⟨ρ, ?_⟩
    simp only [List.map_nil, List.append_nil]
    exact ⟨S, Ext.refl, fun j hj => absurd hj (Nat.not_lt_zero _), fun L l _ => l⟩
  | p :: ps, xs :: ls, ρ, h, S, nd, .cons z t => by
    obtain ⟨n1, n2⟩ := List.nodup_cons.mp nd
    obtain ⟨ρ1, S1, x1, e1⟩ := S.cell z.2.1 z.1 z.2.2
    have lo : ∀ L, Loose Y F ρ h L → L ≠ p.1 → Loose Y F ρ1 (h ++ [Ob.lst xs]) L := fun L l hne => by
      refine ⟨l.ny, l.nf, fun n o q lv => ?_⟩
      by_cases hn : n < h.length
      · rw [List.getElem?_append_left hn] at q
        rw [x1.eq n hn]
        exact l.nc n o q lv
      · have hl := (List.getElem?_eq_some_iff.mp q).1
        rw [List.length_append, List.length_singleton] at hl
        have e : n = h.length := by omega
        rw [e, e1]
        exact Ne.symm hne
    have t2 : Paired (LsAt K Y F ρ1 (h ++ [Ob.lst xs]) H) ps ls := by
      have key : ∀ {qs : List (Addr × List V)} {ws : List (List D)}, Paired (LsAt K Y F ρ h H) qs ws → (∀ q ∈ qs, q.1 ≠ p.1) → Paired (LsAt K Y F ρ1 (h ++ [Ob.lst xs]) H) qs ws := by
        intro qs ws pq
        induction pq with
        | nil => exact fun _ => .nil
        | cons z t ih => exact fun hq => .cons ⟨z.1, lo _ z.2.1 (hq _ (by simp)), z.2.2⟩ (ih fun q h => hq q (List.mem_cons_of_mem _ h))
      exact key t fun q hq e => n1 (List.mem_map.mpr ⟨q, hq, e⟩)
    obtain ⟨ρ2, S2, x2, e2, l2⟩ := cells_all S1 n2 t2
    have el : (h ++ [Ob.lst xs]) ++ ls.map Ob.lst = h ++ (xs :: ls).map Ob.lst := by simp
    rw [el] at S2 x2 l2
    refine ⟨ρ2, S2, x1.trans x2, fun j hj => ?_, fun L l hL => ?_⟩
    · cases j with
      | zero =>
        show some (V.ref p.1) = _
        have e3 : ρ2 h.length = ρ1 h.length := x2.eq _ (by simp)
        rw [Nat.add_zero, e3, e1]
      | succ j =>
        have e4 := e2 j (by simpa using hj)
        have e5 : (h ++ [Ob.lst xs]).length + j = h.length + (j + 1) := by simp; omega
        rw [e5] at e4
        exact e4
    · have hL2 : L ≠ p.1 ∧ L ∉ ps.map (·.1) := by simpa using hL
      exact l2 L (lo L l hL2.1) hL2.2
end
def rndB : List Stmt → Bool
  | [.Return (some (.ListComp (.List _ _) [⟨_, .Call _ _ _ _, _, 0⟩] _ _)) _] => true
  | _ => false
section
variable {T : Tab} {srcs : List Src} {wf : Nat} {ca : Nat → Addr} {K : PySem.W.Frag} {mg : Str → Option Value} {P : Program} {w : World} {base : Heap}
theorem rnd_len {k f n : Nat} {d : Dfn} (hd : (srcs.map (dfnOf T))[f]? = some d) (hn : d.ps = n) : ∀ vs H Q E, spR K ca (call (srcs.map (dfnOf T)) wf (k + 1) f) vs H Q E → vs.length = n := by
  intro us H Q E ⟨Y, F, ρ, h, vs, S, r, a⟩
  have hl : vs.length = us.length := Paired.length r
  unfold call at a
  rw [hd] at a
  dsimp only at a
  unfold run at a
  split at a
  · omega
  · exact a.elim
theorem rounds_ok (hb : ∀ (f : Nat) (s : Src), T.fns[f]? = some ("_law_rounds" : Str) → srcs[f]? = some s → rndB (defBody s.st) = true) : Rounds T srcs wf ca K mg P w base := by
  intro k f s a fd hk ef hf F hs
  have hr := hb f s ef hf
  unfold srcB at hs
  simp only [Bool.and_eq_true] at hs
  obtain ⟨⟨h1, h2⟩, h3⟩ := hs
  obtain ⟨d, ed⟩ := Option.isSome_iff_exists.mp h3
  have eD : dfnOf T s = d := by
    unfold dfnOf
    rw [ed]
    rfl
  have hd : (srcs.map (dfnOf T))[f]? = some d := by
    rw [List.getElem?_map, hf, ← eD]
    rfl
  unfold trD at ed
  obtain ⟨b, eb, ed⟩ := Option.map_eq_some_iff.mp ed
  subst ed
  have nd := (C8.fnScope_by h1).nd
  unfold rndB at hr
  split at hr
  · rename_i es lp tg if1 if2 if3 if4 ifs scope pos rp ebody
    have hk : Fx { T with mt := s.M } (srcs.map (dfnOf T)) wf k ca P w K mg base := ⟨hk.fn, hk.glb, hk.rnd, hk.exc, hk.fre, hk.wr⟩
    generalize hT : ({ T with mt := s.M } : Tab) = T' at eb hk
    rw [ebody] at eb
    obtain ⟨ir, et, rfl⟩ : ∃ ir, trE T' s.N 58 (defScope s.st) (.ListComp (.List es lp) [⟨tg, .Call if1 if2 if3 if4, ifs, 0⟩] scope pos) = some ir ∧ b = .seq (.ret ir) .skip := by
      replace eb : (match trS T' s.N s.M (defScope s.st) 59 (.Return (some (.ListComp (.List es lp) [⟨tg, .Call if1 if2 if3 if4, ifs, 0⟩] scope pos)) rp), trSs T' s.N s.M (defScope s.st) 59 [] with
        | some a, some b => some (S.seq a b)
        | _, _ => none) = some b := eb
      have e1 : trSs T' s.N s.M (defScope s.st) 59 [] = some .skip := rfl
      rw [e1] at eb
      split at eb
      · rename_i a' b' q1 q2
        cases q2
        obtain ⟨ir, q3, rfl⟩ := map_some (show (trE T' s.N 58 (defScope s.st) (.ListComp (.List es lp) [⟨tg, .Call if1 if2 if3 if4, ifs, 0⟩] scope pos)).map S.ret = some a' from q1)
        exact ⟨ir, q3, (Option.some.inj eb).symm⟩
      · cases eb
    replace et : (match trI T' s.N 57 (defScope s.st) (.Call if1 if2 if3 if4), trTg s.N (relS scope (defScope s.st)) (fnB scope (relS scope (defScope s.st))) tg, trIf T' s.N 57 (relS scope (defScope s.st)) ifs, trE T' s.N 57 (relS scope (defScope s.st)) (.List es lp) with
      | some it, some tg, some c, some e => if L2.blkC s.N (defScope s.st) scope (ownOf s.N scope) && tgIn ((ownOf s.N scope).map (·.2)) tg && okIt it tg then some (E.lc tg it c e ((ownOf s.N scope).map (·.2))) else none
      | _, _, _, _ => none) = some ir := et
    split at et
    · rename_i it t c e q1 q2 q3 q4
      split at et
      · rename_i hc
        cases et
        simp only [Bool.and_eq_true] at hc
        obtain ⟨eas, q5, rfl⟩ := map_some (show (trA T' s.N 56 (relS scope (defScope s.st)) es).map E.lst = some e from q4)
        refine F.ok (C8.fnScope_by h1) (rnd_len hd rfl) fun cdv A outer st H us Q E hr hsp => ?_
        have G : Gd T' (srcs.map (dfnOf T)) wf k ca s.N (cxOf (L2.CX P w) P w K mg base s.N "_law_rounds" (defScope s.st) a cdv A outer st H E) (defScope s.st) (fun c d _ H => E c d H) := ⟨rfl, nd, rfl, rfl, hr, takes_of rfl rfl rfl rfl, hk⟩
        have ok : BlkOk (cxOf (L2.CX P w) P w K mg base s.N "_law_rounds" (defScope s.st) a cdv A outer st H E).N (cxOf (L2.CX P w) P w K mg base s.N "_law_rounds" (defScope s.st) a cdv A outer st H E).env.scope scope (ownOf s.N scope) := blkOk_by hc.1.1
        have Sn := snd_all (T := T') (Ds := srcs.map (dfnOf T)) (wf := wf) (k := k) (ca := ca) (N := s.N) 57
        have Sm := snd_all (T := T') (Ds := srcs.map (dfnOf T)) (wf := wf) (k := k) (ca := ca) (N := s.N) 56
        rw [ebody]
        refine ⟨_, pss_one (ps_ret (pe_lc (own := ownOf s.N scope) (wi := tI K ca (fun c d _ H => E c d H) (evi (cf (srcs.map (dfnOf T)) wf k) it)) (g := gT K t) (tt := tT K ca WF (ev (cf (srcs.map (dfnOf T)) wf k) c)) (te := tF K ca WF (ev (cf (srcs.map (dfnOf T)) wf k) (.lst eas))) rfl nd (Sn.i _ (.Call if1 if2 if3 if4) it _ _ t tg _ _ q1 G q2 hc.2) ok
          (fun s' H C cl fp => ?_) (fun s' H C cl fp => Sn.f _ ifs c _ _ q3 (G.blk s' H scope C cl fp)) (fun s' H C cl fp => s_lstF (Sm.a _ es _ _ _ q5 (G.blk s' H scope C cl fp)).1) (fun x => set_no q1 _ x))), ?_⟩
        · have Gb := G.blk s' H scope C cl fp
          refine tg_ok Gb.eN nd Gb.eS G.calm (fun x hx => ?_) q2
          unfold fnB at hx
          rcases Bool.or_eq_true_iff.mp hx with z | z
          · exact .inl z
          · exact .inr (only_ok z)
        · obtain ⟨Y, F1, ρ, h, vs, S, r, a1⟩ := hsp
          have hl : vs.length = us.length := Paired.length r
          unfold call at a1
          rw [hd] at a1
          dsimp only at a1
          unfold run at a1
          split at a1
          · rename_i hv
            have hv : vs.length = s.ps.length := hv
            refine tLc_R hc.1.2 (fun s h v h' e => lst_list s h v h' e) (vs.map some ++ List.replicate (s.N.length - s.ps.length) none) S (env_start r _ (by rw [← hl, hv])) ?_
            replace a1 : AftR K ca (fun c d _ H => E c d H) Y F1 ρ h.length [] Q (match sb (rb (ev (cf (srcs.map (dfnOf T)) wf k) (.lc t it c (.lst eas) ((ownOf s.N scope).map (·.2))) (vs.map some ++ List.replicate (s.N.length - s.ps.length) none) h) fun v h1 => .rt v h1) (fun s1 h1 => exec (cf (srcs.map (dfnOf T)) wf k) .skip s1 h1) with
              | .nx _ h' => fin h.length (.d .none) h'
              | .rt v h' => fin h.length v h'
              | .ex c h' => .ex c (h'.take h.length)
              | .no => .no) := a1
            show AftG K ca _ Y F1 ρ h.length _ Q (ev (cf (srcs.map (dfnOf T)) wf k) (.lc t it c (.lst eas) ((ownOf s.N scope).map (·.2))) (vs.map some ++ List.replicate (s.N.length - s.ps.length) none) h)
            cases e : ev (cf (srcs.map (dfnOf T)) wf k) (.lc t it c (.lst eas) ((ownOf s.N scope).map (·.2))) (vs.map some ++ List.replicate (s.N.length - s.ps.length) none) h with
            | no =>
              rw [e] at a1
              exact a1.elim
            | ex c h' =>
              rw [e] at a1
              intro F' ρ' H' x S'
              refine a1 F' ρ' H' ?_ (S'.drop _)
              have := x.le
              rw [List.length_take, Nat.min_eq_left this]
              exact ⟨x.sub, Nat.le_refl _, x.eq⟩
            | ok v h' =>
              rw [e] at a1
              obtain ⟨xs, rfl⟩ := lc_list _ _ _ _ e
              replace a1 : AftR K ca (fun c d _ H => E c d H) Y F1 ρ h.length [] Q (.ok (.d (.list xs)) (h'.take h.length)) := a1
              obtain ⟨rows, ls, e1, e2, kk⟩ := a1
              refine ⟨rows, ls, e1, e2, fun L ps F' ρ' H' x S' lo hL nL ndp pr => ?_⟩
              have le := x.le
              have lz : (h'.take h.length).length = h.length := by
                rw [List.length_take, Nat.min_eq_left le]
              obtain ⟨ρ2, S2, x2, e3, l2⟩ := cells_all (S'.drop h.length) ndp (Paired.mapP pr fun q ws z => ⟨z.1, z.2.1.take _, z.2.2⟩)
              have lo2 := l2 L (lo.take _) nL
              obtain ⟨S3, m3⟩ := S2.frz lo2 hL
              refine kk L (refs ps) _ ρ2 H' ?_ S3 upd_same ?_ e3
              · have x3 : Ext F1 ρ h.length F' ρ' (h'.take h.length).length := by
                  rw [lz]
                  exact ⟨x.sub, Nat.le_refl _, x.eq⟩
                have x4 := x3.trans x2
                exact ⟨fun b o e => m3 b o (x4.sub b o e), x4.le, x4.eq⟩
              · have := Paired.length pr
                rw [List.length_map]
                exact this
          · exact a1.elim
      · cases et
    · cases et
  · cases hr
end
end Z

set_option linter.all false
set_option autoImplicit false
set_option maxRecDepth 100000
set_option maxHeartbeats 4000000
/-! Z20: from the head's facts to the law's end. -/
namespace Z
open PySem L2 PySem.Spec PyProof.Rows
def dvOf : D → He.Dv
  | .int i => .int i
  | .str x => .str x
  | _ => .non
def glbFa : Str × D → List He.Fa
  | (x, .str z) => [.str x z]
  | (x, .int i) => [.int x i]
  | (x, _) => [.glo x]
def faOf (T : Tab) : List He.Fa := T.fns.map He.Fa.glo ++ (T.fre.map He.Fa.free ++ (T.excs.flatMap (fun x => [He.Fa.glo x, He.Fa.exc x]) ++ T.glb.flatMap glbFa))
def fdOf (p : Str × Src) : He.DefD := ⟨(p.1, none), p.1, p.1, defArgs p.2.st, defBody p.2.st, defScope p.2.st, [], []⟩
def fnOf (T : Tab) (srcs : List Src) : List He.DefD := (T.fns.zip srcs).map fdOf
def exOf (T : Tab) (K : PySem.W.Frag) : Bool := T.glb.all fun p => match p.2 with
  | .tuple ds => He.tupB K p.1 (ds.map dvOf)
  | _ => true
def flatD : D → Bool
  | .int _ => true
  | .str _ => true
  | _ => false
/-- what is checked of the table of names -/
def tabB (T : Tab) (srcs : List Src) : Bool := decide (T.fns.length = srcs.length) && srcs.all (srcB T) && T.fns.all (fun x => !(x == ("__debug__" : Str))) && T.excs.all (fun x => !(x == ("__debug__" : Str))) && T.glb.all (fun p => !(p.1 == ("__debug__" : Str)) && (flatD p.2 || match p.2 with
  | .tuple ds => ds.all flatD
  | _ => false)) && (T.fns.zip srcs).all (fun p => !(p.1 == ("_law_rounds" : Str)) || rndB (defBody p.2.st))
theorem flat_dv [TC : TabsC] {K : PySem.W.Frag} {F : Hp} {d : D} (h : flatD d = true) : Rp K F (He.Dv.v K (dvOf d)) d := by
  cases d with
  | int i => exact .int i
  | str x => exact .str x
  | _ => cases h
theorem flat_dvs [TC : TabsC] {K : PySem.W.Frag} {F : Hp} : ∀ {ds : List D}, ds.all flatD = true → RpA K F ((ds.map dvOf).map (He.Dv.v K)) ds
  | [], _ => .nil
  | d :: ds, h => by
    simp only [List.all_cons, Bool.and_eq_true] at h
    exact .cons (flat_dv h.1) (flat_dvs h.2)
section
variable {T : Tab} {srcs : List Src} {K : PySem.W.Frag} {h : Heap} {mg : Str → Option Value}
def caOf (T : Tab) (K : PySem.W.Frag) (c : Nat) : Addr := He.ga K (T.excs.getD c "")
theorem mem_lookup {x : Str} {d : D} : ∀ {l : List (Str × D)}, l.lookup x = some d → (x, d) ∈ l := fun e => PySem.mem_of_lookup e
theorem mo_of [TC : TabsC] (hwr : tupC T = true → TC.wr = true) (hwf : tupC T = false → TC.wr = false) (X : K.In h) (G : h.Ns mainGlobals mg) (c : He.SaysD (faOf T) (fnOf T srcs) K) (ex : exOf T K = true) (ck : tabB T srcs = true) : Mo T srcs (caOf T K) K mg := by
  unfold tabB at ck
  simp only [Bool.and_eq_true, decide_eq_true_eq, List.all_eq_true, Bool.not_eq_true'] at ck
  obtain ⟨⟨⟨⟨⟨c1, c2⟩, c3⟩, c4⟩, c5⟩, c6⟩ := ck
  refine ⟨fun f x e => ?_, fun i x e => ?_, fun x d e => ?_, fun x e => ?_, hwf⟩
  · have hf : f < T.fns.length := (List.getElem?_eq_some_iff.mp e).1
    have hf2 : f < srcs.length := by omega
    have es : srcs[f]? = some srcs[f] := List.getElem?_eq_getElem hf2
    have mem : fdOf (x, srcs[f]) ∈ fnOf T srcs := by
      refine List.mem_map_of_mem (List.mem_iff_getElem?.mpr ⟨f, ?_⟩)
      rw [List.getElem?_zip_eq_some]
      exact ⟨e, es⟩
    obtain ⟨fd, F⟩ := c.defs mem
    have mx := List.mem_of_getElem? e
    exact ⟨srcs[f], _, fd, es, He.glo_ok X G (c.facts (f := .glo x) (List.mem_append_left _ (List.mem_map_of_mem mx))), F, c2 _ (List.getElem_mem hf2), c3 x mx⟩
  · have mx := List.mem_of_getElem? e
    have ec : caOf T K i = He.ga K x := by
      unfold caOf
      rw [List.getD_eq_getElem?_getD, e]
      rfl
    rw [ec]
    have m1 : He.Fa.glo x ∈ faOf T := List.mem_append_right _ (List.mem_append_right _ (List.mem_append_left _ (List.mem_flatMap.mpr ⟨x, mx, by simp⟩)))
    have m2 : He.Fa.exc x ∈ faOf T := List.mem_append_right _ (List.mem_append_right _ (List.mem_append_left _ (List.mem_flatMap.mpr ⟨x, mx, by simp⟩)))
    obtain ⟨e1, e2, e3, e4⟩ := He.exc_ok (c.facts m2)
    exact ⟨He.glo_ok X G (c.facts m1), e2, ⟨_, _, _, _, PySem.F.excBase_ValueError, e1⟩, e3, e4, c4 x mx⟩
  · have mx := mem_lookup e
    obtain ⟨hdb, hk⟩ := c5 _ mx
    have mm : ∀ f ∈ glbFa (x, d), f.ok K = true := fun f hf => c.facts (List.mem_append_right _ (List.mem_append_right _ (List.mem_append_right _ (List.mem_flatMap.mpr ⟨_, mx, hf⟩))))
    cases d with
    | str z =>
      obtain ⟨t, q⟩ := He.str_ok X G (mm (.str x z) (by simp [glbFa]))
      exact ⟨_, .str z, q, ⟨t, rfl⟩, fun F => .str z, hdb⟩
    | int i =>
      obtain ⟨t, q⟩ := He.int_ok X G (mm (.int x i) (by simp [glbFa]))
      exact ⟨_, .int i, q, ⟨t, rfl⟩, fun F => .int i, hdb⟩
    | tuple ds =>
      have q := He.glo_ok X G (mm (.glo x) (by simp [glbFa]))
      have ht : He.tupB K x (ds.map dvOf) = true := List.all_eq_true.mp ex _ mx
      have hd : ds.all flatD = true := by
        have hk2 : (flatD (.tuple ds) || ds.all flatD) = true := hk
        exact hk2
      have hw : TC.wr = true := hwr (List.any_eq_true.mpr ⟨_, mx, rfl⟩)
      exact ⟨_, .ref (He.ga K x), q, rfl, fun F => .tup (.inr ⟨hw, He.tupB_ok ht F⟩) (flat_dvs hd), hdb⟩
    | _ => cases hk
  · have mx : x ∈ T.fre := by simpa using e
    exact He.free_ok X G (c.facts (f := .free x) (List.mem_append_right _ (List.mem_append_left _ (List.mem_map_of_mem mx))))
/-- THE END: the law's run, for every script -/
theorem law_at {l : PySem.W.OpenLaw} {w : World} {fa : Addr} {n k wf f : Nat} {s : Src} (X : K.In h) (G : h.Ns mainGlobals mg) (hmg : mg ("law" : Str) = some (.ref fa)) (c : He.SaysD (faOf T) (fnOf T srcs) K) (ex : exOf T K = true) (ck : tabB T srcs = true)
    (hf : T.fns[f]? = some ("law" : Str)) (hs : srcs[f]? = some s) (hp : s.ps = [("script" : Str)])
    (main : ∀ ns : List Int, ns.length ≤ n → (∀ z ∈ ns, Builtin.Int.intBits z ≤ 1048576) → ∃ h', call (srcs.map (dfnOf T)) wf (k + 1) f [.r 0] [.ro (ns.map PyData.int)] = .ok (.d (.bool true)) h') :
    LamX.LawAtS l w K (L2.CX l.prog w) (k + 1) n "script" mg fa h := by
  letI TC : TabsC := ⟨[], tupC T⟩
  have M := mo_of (fun e => e) (fun e => e) X G c ex ck
  obtain ⟨s', a, fd, e1, e2, F, hsb, hdb⟩ := M.fn f _ hf
  have es : s' = s := by
    rw [e1] at hs
    exact Option.some.inj hs
  subst es
  have ea : a = fa := by
    rw [e2] at hmg
    injection hmg with z
    injection z
  subst ea
  refine ⟨fd, [], spC K (caOf T K) (call (srcs.map (dfnOf T)) wf (k + 1) f), fun _ h => absurd h (by simp), fun _ h => absurd h (by simp), fun _ h => absurd h (by simp), fun st u => ?_, fun H b ns hl hbits _ hS => ?_, fun base _ _ _ => ?_⟩
  · have hsb2 := hsb
    unfold srcB at hsb2
    simp only [Bool.and_eq_true] at hsb2
    have := FunD.bindsA F (args_ok hsb2.1.2) st [u] (by rw [hp]; rfl)
    rw [hp] at this
    exact this
  · obtain ⟨h', e⟩ := main ns hl hbits
    refine ⟨fun _ => none, H, fun _ => b, [.ro (ns.map PyData.int)], [.r 0], ?_, .cons ⟨Nat.one_pos, rfl⟩ .nil, ?_⟩
    · refine ⟨Same.refl _, fun m o q => ?_, fun m m' o o' q q' lv _ _ => ?_, (fun _ _ e => nomatch e), (fun _ _ e => nomatch e), fun _ h => absurd h List.not_mem_nil⟩
      · cases m with
        | zero =>
          cases q
          refine ⟨_, hS, ?_⟩
          have key : ∀ l : List Int, RpA K H (l.map V.int) (l.map PyData.int) := fun l => by
            induction l with
            | nil => exact .nil
            | cons i l ih => exact .cons (.int i) ih
          exact key ns
        | succ m => cases q
      · cases m with
        | zero =>
          cases q
          exact lv.elim
        | succ m => cases q
    · rw [e]
      intro u F' ρ' H' x S rv
      cases rv
      rfl
  · have Rn : Rounds T srcs wf (caOf T K) K mg l.prog w base := rounds_ok fun f2 s2 q1 q2 => by
      unfold tabB at ck
      simp only [Bool.and_eq_true, decide_eq_true_eq, List.all_eq_true, Bool.not_eq_true'] at ck
      have z := ck.2 (("_law_rounds" : Str), s2) (List.mem_iff_getElem?.mpr ⟨f2, by rw [List.getElem?_zip_eq_some]; exact ⟨q1, q2⟩⟩)
      have zz : (!((("_law_rounds" : Str) == ("_law_rounds" : Str))) || rndB (defBody s2.st)) = true := z
      rw [beq_self_eq_true] at zz
      exact zz
    rw [← hp]
    exact def_ok (fx_all M Rn k) e1 F hsb
end
end Z

set_option linter.all false
set_option autoImplicit false
set_option maxRecDepth 100000
/-! A0: runs by rewriting. -/
namespace Z
open PySem
section
variable {C : Cfg} {s : Env} {h : Hep} {α β : Type}
@[simp] theorem bnd_ok (a : α) (f : α → Hep → R β) : bnd (.ok a h) f = f a h := (rfl)
@[simp] theorem bnd_ex (c : Nat) (f : α → Hep → R β) : bnd (.ex c h) f = .ex c h := (rfl)
@[simp] theorem rb_ok (a : α) (f : α → Hep → RS) : rb (.ok a h) f = f a h := (rfl)
@[simp] theorem rb_ex (c : Nat) (f : α → Hep → RS) : rb (.ex c h) f = .ex c h := (rfl)
@[simp] theorem sb_nx (f : Env → Hep → RS) : sb (.nx s h) f = f s h := (rfl)
@[simp] theorem sb_rt (v : Vl) (f : Env → Hep → RS) : sb (.rt v h) f = .rt v h := (rfl)
@[simp] theorem sb_ex (c : Nat) (f : Env → Hep → RS) : sb (.ex c h) f = .ex c h := (rfl)
@[simp] theorem opt_some (a : α) : opt h (some a) = .ok a h := (rfl)
@[simp] theorem opt_none : opt h (none : Option α) = .no := (rfl)
@[simp] theorem peek_d (x : D) : peek h (.d x) = some x := (rfl)
@[simp] theorem peekR_d (x : D) : peekR h (.d x) = some x := (rfl)
@[simp] theorem keep_d (x : D) : keep h (.d x) = some (x, h) := (rfl)
@[simp] theorem kept_d (x : D) (f : D → Hep → R α) : kept (.d x) h f = f x h := (rfl)
@[simp] theorem keepAll_nil : keepAll h [] = some ([], h) := (rfl)
@[simp] theorem keepAll_d (x : D) (r : List Vl) : keepAll h (.d x :: r) = match keepAll h r with
  | some (xs, h2) => some (x :: xs, h2)
  | none => none := (rfl)
@[simp] theorem peekAll_nil : peekAll h [] = some [] := (rfl)
@[simp] theorem peekAll_d (x : D) (r : List Vl) : peekAll h (.d x :: r) = match peekAll h r with
  | some xs => some (x :: xs)
  | none => none := by
  show (match some x, peekAll h r with
    | some x, some xs => some (x :: xs)
    | _, _ => none) = _
  cases peekAll h r <;> rfl
@[simp] theorem peekAll_r (n : Nat) (r : List Vl) : peekAll h (.r n :: r) = match peek h (.r n) with
  | some x => (match peekAll h r with
    | some xs => some (x :: xs)
    | none => none)
  | none => none := by
  show (match peek h (.r n), peekAll h r with
    | some x, some xs => some (x :: xs)
    | _, _ => none) = _
  cases peek h (.r n) <;> cases peekAll h r <;> rfl
@[simp] theorem keepAll_r (n : Nat) (r : List Vl) : keepAll h (.r n :: r) = match keep h (.r n) with
  | some (x, h1) => (match keepAll h1 r with
    | some (xs, h2) => some (x :: xs, h2)
    | none => none)
  | none => none := (rfl)
@[simp] theorem op1_d (f : D → Option D) (x : D) : op1 f (.d x) h = opt h ((f x).map .d) := (rfl)
@[simp] theorem op1R_d (f : D → Option D) (x : D) : op1R f (.d x) h = opt h ((f x).map .d) := (rfl)
@[simp] theorem op2_d (f : D → D → Option D) (x y : D) : op2 f (.d x) (.d y) h = opt h ((f x y).map .d) := (rfl)
@[simp] theorem op2R_d (f : D → D → Option D) (x y : D) : op2R f (.d x) (.d y) h = opt h ((f x y).map .d) := (rfl)
@[simp] theorem ev_con (d : D) : ev C (.con d) s h = .ok (.d d) h := (rfl)
@[simp] theorem ev_var (i : Nat) : ev C (.var i) s h = match s[i]? with
    | some (some v) => .ok v h
    | _ => .no := (rfl)
@[simp] theorem ev_bin (o : Bop) (a b : E) : ev C (.bin o a b) s h = bnd (ev C a s h) fun x h1 => bnd (ev C b s h1) fun y h2 => op2 (binD o) x y h2 := (rfl)
/-- not of a value -/
def notV (x : Vl) (h : Hep) : R Vl := match x with
  | .d (.bool b) => .ok (.d (.bool (!b))) h
  | _ => .no
def negV (x : Vl) (h : Hep) : R Vl := match x with
  | .d (.int b) => .ok (.d (.int (-b))) h
  | _ => .no
def condV (x : Vl) (a b : R α) : R α := match x with
  | .d (.bool true) => a
  | .d (.bool false) => b
  | _ => .no
def condS (x : Vl) (a b : RS) : RS := match x with
  | .d (.bool true) => a
  | .d (.bool false) => b
  | _ => .no
@[simp] theorem notV_b (b : Bool) : notV (.d (.bool b)) h = .ok (.d (.bool (!b))) h := (rfl)
@[simp] theorem negV_i (b : Int) : negV (.d (.int b)) h = .ok (.d (.int (-b))) h := (rfl)
@[simp] theorem condV_b (c : Bool) (a b : R α) : condV (.d (.bool c)) a b = if c = true then a else b := by cases c <;> rfl
@[simp] theorem condS_b (c : Bool) (a b : RS) : condS (.d (.bool c)) a b = if c = true then a else b := by cases c <;> rfl
@[simp] theorem ev_neg (a : E) : ev C (.neg a) s h = bnd (ev C a s h) negV := (rfl)
@[simp] theorem ev_not (a : E) : ev C (.not a) s h = bnd (ev C a s h) notV := (rfl)
@[simp] theorem ev_and (a b : E) : ev C (.and a b) s h = bnd (ev C a s h) fun x h1 => condV x (ev C b s h1) (.ok (.d (.bool false)) h1) := (rfl)
@[simp] theorem ev_or (a b : E) : ev C (.or a b) s h = bnd (ev C a s h) fun x h1 => condV x (.ok (.d (.bool true)) h1) (ev C b s h1) := (rfl)
@[simp] theorem ev_cmp (o : Cop) (a b : E) : ev C (.cmp o a b) s h = bnd (ev C a s h) fun x h1 => bnd (ev C b s h1) fun y h2 => cmpV o x y h2 := (rfl)
@[simp] theorem cmpV_eq (x y : Vl) : cmpV .eq x y h = op2R (fun x y => (cmpD .eq x y).map .bool) x y h := (rfl)
@[simp] theorem cmpV_ne (x y : Vl) : cmpV .ne x y h = op2R (fun x y => (cmpD .ne x y).map .bool) x y h := (rfl)
@[simp] theorem cmpV_lt (x y : Vl) : cmpV .lt x y h = op2R (fun x y => (cmpD .lt x y).map .bool) x y h := (rfl)
@[simp] theorem cmpV_le (x y : Vl) : cmpV .le x y h = op2R (fun x y => (cmpD .le x y).map .bool) x y h := (rfl)
@[simp] theorem cmpV_gt (x y : Vl) : cmpV .gt x y h = op2R (fun x y => (cmpD .gt x y).map .bool) x y h := (rfl)
@[simp] theorem cmpV_ge (x y : Vl) : cmpV .ge x y h = op2R (fun x y => (cmpD .ge x y).map .bool) x y h := (rfl)
@[simp] theorem cmpV_nin (x y : Vl) : cmpV .nin x y h = op2R (fun x y => (cmpD .nin x y).map .bool) x y h := (rfl)
@[simp] theorem cmpV_inn (x : Vl) (y : D) : cmpV .inn x (.d y) h = op2R (fun x y => (cmpD .inn x y).map .bool) x (.d y) h := (rfl)
@[simp] theorem cmpV_innR (x : Vl) (n : Nat) (e : (peekR h (.r n)).isSome = true) : cmpV .inn x (.r n) h = op2R (fun x y => (cmpD .inn x y).map .bool) x (.r n) h := by
  unfold cmpV
  dsimp only
  cases q : peekR h (.r n) with
  | none =>
    rw [q] at e
    cases e
  | some z => rfl
@[simp] theorem ev_chn (o p : Cop) (a b c : E) : ev C (.chn o p a b c) s h = bnd (ev C a s h) fun x h1 => bnd (ev C b s h1) fun y h2 => bnd (op2R (fun x y => (cmpD o x y).map .bool) x y h2) fun z h3 => condV z (bnd (ev C c s h3) fun w h4 => op2R (fun x y => (cmpD p x y).map .bool) y w h4) (.ok (.d (.bool false)) h3) := (rfl)
@[simp] theorem ev_isN (a : E) : ev C (.isN a) s h = bnd (ev C a s h) fun x h1 => .ok (.d (.bool (isNoneV x))) h1 := (rfl)
@[simp] theorem ev_isnN (a : E) : ev C (.isnN a) s h = bnd (ev C a s h) fun x h1 => .ok (.d (.bool (!isNoneV x))) h1 := (rfl)
@[simp] theorem ev_ite (c a b : E) : ev C (.ite c a b) s h = bnd (ev C c s h) fun x h1 => condV x (ev C a s h1) (ev C b s h1) := (rfl)
@[simp] theorem ev_tup (as : E) : ev C (.tup as) s h = bnd (evs C as s h) tupV := (rfl)
@[simp] theorem ev_lst (as : E) : ev C (.lst as) s h = bnd (evs C as s h) lstV := (rfl)
@[simp] theorem ev_idx (a i : E) : ev C (.idx a i) s h = bnd (ev C a s h) fun x h1 => bnd (ev C i s h1) fun y h2 => idxV x y h2 := (rfl)
@[simp] theorem ev_slc0 (a lo : E) : ev C (.slc a lo .nil) s h = bnd (ev C a s h) fun x h1 => bnd (if isNil lo then .ok none h1 else asInt (ev C lo s h1)) fun l h2 => op1 (fun x => slcD x l none) x h2 := (rfl)
@[simp] theorem ev_slc (a lo hi : E) : ev C (.slc a lo hi) s h = bnd (ev C a s h) fun x h1 => bnd (if isNil lo then .ok none h1 else asInt (ev C lo s h1)) fun l h2 => bnd (if isNil hi then .ok none h2 else asInt (ev C hi s h2)) fun u h3 => op1 (fun x => slcD x l u) x h3 := (rfl)
@[simp] theorem ev_rev (a : E) : ev C (.rev a) s h = bnd (ev C a s h) fun x h1 => op1 revD x h1 := (rfl)
@[simp] theorem ev_call (f : Nat) (as : E) : ev C (.call f as) s h = bnd (evs C as s h) fun vs h1 => C.call f vs h1 := (rfl)
@[simp] theorem ev_blt (b : B) (as : E) : ev C (.blt b as) s h = bnd (evs C as s h) fun vs h1 => bltV b vs h1 := (rfl)
def mthW (C : Cfg) (m : Mt) (as : E) (s : Env) (x : Vl) (h1 : Hep) : R Vl := match x with
  | .d x => if mTy m x then bnd (evs C as s h1) fun vs h2 => mthV m x vs h2 else .no
  | _ => .no
@[simp] theorem mthW_d (m : Mt) (as : E) (x : D) : mthW C m as s (.d x) h = if mTy m x then bnd (evs C as s h) fun vs h2 => mthV m x vs h2 else .no := (rfl)
@[simp] theorem ev_mth (m : Mt) (a as : E) : ev C (.mth m a as) s h = bnd (ev C a s h) (mthW C m as s) := (rfl)
@[simp] theorem ev_len (a : E) : ev C (.len a) s h = bnd (ev C a s h) fun x h1 => op1R lenD x h1 := (rfl)
@[simp] theorem ev_isi (t : Ty) (a : E) : ev C (.isi t a) s h = bnd (ev C a s h) fun x h1 => op1 (fun x => some (.bool (tyD t x))) x h1 := (rfl)
/-- comprehensions over anything -/
def compG (f : α → Hep → R (Option D)) : List α → Hep → R (List D)
  | [], h => .ok [] h
  | x :: r, h => bnd (f x h) fun o h1 => bnd (compG f r h1) fun ys h2 => .ok (match o with
    | some y => y :: ys
    | none => ys) h2
theorem compL_G (f : D → Hep → R (Option D)) : ∀ (xs : List D) (h : Hep), compL f xs h = compG f xs h
  | [], h => rfl
  | x :: r, h => by
    show bnd (f x h) (fun o h1 => bnd (compL f r h1) _) = bnd (f x h) (fun o h1 => bnd (compG f r h1) _)
    congr 1
    funext o h1
    rw [compL_G f r] <;> rfl
@[simp] theorem compG_map {β : Type} (f : α → Hep → R (Option D)) (e : β → α) : ∀ (xs : List β) (h : Hep), compG f (xs.map e) h = compG (fun a => f (e a)) xs h
  | [], h => rfl
  | x :: r, h => by
    show bnd (f (e x) h) (fun o h1 => bnd (compG f (r.map e) h1) _) = bnd (f (e x) h) (fun o h1 => bnd (compG _ r h1) _)
    congr 1
    funext o h1
    rw [compG_map f e r]
@[simp] theorem compG_pure (g : α → D) : ∀ (l : List α) (h : Hep), compG (fun a h => .ok (some (g a)) h) l h = .ok (l.map g) h
  | [], h => rfl
  | x :: r, h => by
    show bnd (compG _ r h) _ = _
    rw [compG_pure g r]
    rfl
@[simp] theorem compG_pureF (p : α → Bool) (g : α → D) : ∀ (l : List α) (h : Hep), compG (fun a h => if p a = true then .ok (some (g a)) h else .ok none h) l h = .ok ((l.filter p).map g) h
  | [], h => rfl
  | x :: r, h => by
    show bnd (if p x = true then _ else _) _ = _
    cases q : p x
    · show bnd (compG _ r h) _ = _
      rw [compG_pureF p g r]
      simp [q]
    · show bnd (compG _ r h) _ = _
      rw [compG_pureF p g r]
      simp [q]
@[simp] theorem compG_pureP (p : α → Prop) [DecidablePred p] (g : α → D) (l : List α) (h : Hep) : compG (fun a h => if p a then .ok (some (g a)) h else .ok none h) l h = .ok ((l.filter fun a => decide (p a)).map g) h := by
  rw [← compG_pureF (fun a => decide (p a)) g]
  simp
@[simp] theorem compG_pureN (p : α → Prop) [DecidablePred p] (g : α → D) (l : List α) (h : Hep) : compG (fun a h => if p a then .ok none h else .ok (some (g a)) h) l h = .ok ((l.filter fun a => !decide (p a)).map g) h := by
  rw [← compG_pureF (fun a => !decide (p a)) g]
  congr 1
  funext a h
  by_cases q : p a <;> simp [q]
@[simp] theorem compG_mapP (p : α → Prop) [DecidablePred p] (g : α → D) (l : List α) (h : Hep) : compG (fun a h => .ok (if p a then some (g a) else none) h) l h = .ok ((l.filter fun a => decide (p a)).map g) h := by
  rw [← compG_pureP p g]
  congr 1
  funext a h
  split <;> rfl
@[simp] theorem compG_mapN (p : α → Prop) [DecidablePred p] (g : α → D) (l : List α) (h : Hep) : compG (fun a h => .ok (if p a then none else some (g a)) h) l h = .ok ((l.filter fun a => !decide (p a)).map g) h := by
  rw [← compG_pureN p g]
  congr 1
  funext a h
  split <;> rfl
/-- .. with what is known of the items -/
def compM : (l : List α) → ((a : α) → a ∈ l → Hep → R (Option D)) → Hep → R (List D)
  | [], _, h => .ok [] h
  | x :: r, f, h => bnd (f x List.mem_cons_self h) fun o h1 => bnd (compM r (fun a m => f a (List.mem_cons_of_mem _ m)) h1) fun ys h2 => .ok (match o with
    | some y => y :: ys
    | none => ys) h2
theorem toM (f : α → Hep → R (Option D)) : ∀ (l : List α) (h : Hep), compG f l h = compM l (fun a _ h => f a h) h
  | [], h => rfl
  | x :: r, h => by
    show bnd (f x h) (fun o h1 => bnd (compG f r h1) _) = bnd (f x h) (fun o h1 => bnd (compM r (fun a _ h => f a h) h1) _)
    congr 1
    funext o h1
    rw [toM f r]
@[simp] theorem compM_pure (g : α → D) (l : List α) (h : Hep) : compM l (fun a _ h => .ok (some (g a)) h) h = .ok (l.map g) h := by
  rw [← toM, compG_pure]
@[simp] theorem compM_pureF (p : α → Bool) (g : α → D) (l : List α) (h : Hep) : compM l (fun a _ h => if p a = true then .ok (some (g a)) h else .ok none h) h = .ok ((l.filter p).map g) h := by
  rw [← toM, compG_pureF]
@[simp] theorem compM_pureP (p : α → Prop) [DecidablePred p] (g : α → D) (l : List α) (h : Hep) : compM l (fun a _ h => if p a then .ok (some (g a)) h else .ok none h) h = .ok ((l.filter fun a => decide (p a)).map g) h := by
  rw [← toM, compG_pureP]
@[simp] theorem compM_pureN (p : α → Prop) [DecidablePred p] (g : α → D) (l : List α) (h : Hep) : compM l (fun a _ h => if p a then .ok none h else .ok (some (g a)) h) h = .ok ((l.filter fun a => !decide (p a)).map g) h := by
  rw [← toM, compG_pureN]
@[simp] theorem compM_mapP (p : α → Prop) [DecidablePred p] (g : α → D) (l : List α) (h : Hep) : compM l (fun a _ h => .ok (if p a then some (g a) else none) h) h = .ok ((l.filter fun a => decide (p a)).map g) h := by
  rw [← toM, compG_mapP]
@[simp] theorem compM_mapN (p : α → Prop) [DecidablePred p] (g : α → D) (l : List α) (h : Hep) : compM l (fun a _ h => .ok (if p a then none else some (g a)) h) h = .ok ((l.filter fun a => !decide (p a)).map g) h := by
  rw [← toM, compG_mapN]
@[simp] theorem compM_map {β : Type} (e : β → α) : ∀ (l : List β) (f : (a : α) → a ∈ l.map e → Hep → R (Option D)) (h : Hep), compM (l.map e) f h = compM l (fun a m h => f (e a) (List.mem_map_of_mem m) h) h
  | [], f, h => rfl
  | x :: r, f, h => by
    show bnd (f (e x) _ h) (fun o h1 => bnd (compM (r.map e) _ h1) _) = bnd (f (e x) _ h) (fun o h1 => bnd (compM r _ h1) _)
    congr 1
    funext o h1
    rw [compM_map e r]
/-- turns that keep this heap -/
theorem compG_at {f : α → Hep → R (Option D)} {g : α → D} : ∀ {l : List α}, (∀ a ∈ l, f a h = .ok (some (g a)) h) → compG f l h = .ok (l.map g) h
  | [], _ => rfl
  | x :: r, e => by
    show bnd (f x h) _ = _
    rw [e x (by simp)]
    show bnd (compG f r h) _ = _
    rw [compG_at (l := r) fun a ha => e a (List.mem_cons_of_mem _ ha)]
    rfl
/-- turns that change the heap: an invariant -/
theorem compG_inv {f : α → Hep → R (Option D)} (J : Hep → Prop) (P : α → D → Prop) : ∀ {l : List α} {h : Hep}, J h → (∀ a ∈ l, ∀ h, J h → ∃ y h', f a h = .ok (some y) h' ∧ J h' ∧ P a y) → ∃ ys h', compG f l h = .ok ys h' ∧ J h' ∧ ys.length = l.length ∧ ∀ (i : Nat) (a : α) (y : D), l[i]? = some a → ys[i]? = some y → P a y
  | [], h, j, _ => ⟨[], h, rfl, j, rfl, fun i a y e => by simp at e⟩
  | x :: r, h, j, e => by
    obtain ⟨y, h1, e1, j1, p1⟩ := e x (by simp) h j
    obtain ⟨ys, h2, e2, j2, l2, p2⟩ := compG_inv J P (l := r) j1 fun a ha => e a (List.mem_cons_of_mem _ ha)
    refine ⟨y :: ys, h2, ?_, j2, by simp [l2], fun i a z ea ez => ?_⟩
    · show bnd (f x h) _ = _
      rw [e1]
      show bnd (compG f r h1) _ = _
      rw [e2]
      rfl
    · cases i with
      | zero =>
        simp at ea ez
        subst ea ez
        exact p1
      | succ i => exact p2 i a z (by simpa using ea) (by simpa using ez)
theorem compG_invA {f : α → Hep → R (Option D)} (J : Hep → Prop) (P : D → Prop) {l : List α} {h : Hep} (j : J h) (e : ∀ a ∈ l, ∀ h, J h → ∃ y h', f a h = .ok (some y) h' ∧ J h' ∧ P y) : ∃ ys h', compG f l h = .ok ys h' ∧ J h' ∧ ys.length = l.length ∧ ∀ y ∈ ys, P y := by
  obtain ⟨ys, h', e1, j1, l1, p1⟩ := compG_inv J (fun _ y => P y) j e
  refine ⟨ys, h', e1, j1, l1, fun y hy => ?_⟩
  obtain ⟨i, hi, rfl⟩ := List.mem_iff_getElem.mp hy
  exact p1 i (l[i]'(by omega)) _ (by simp) (by simp)
/-- a loop by an invariant over what is done -/
theorem forL_inv {tg : Tg} {body : Env → Hep → RS} (I : List α → Env → Hep → Prop) (enc : α → D) {l : List α} {s : Env} {h : Hep} (h0 : I [] s h) (step : ∀ pre x post s h, l = pre ++ x :: post → I pre s h → ∃ s1 s2 h2, setTg s (enc x) tg = some s1 ∧ body s1 h = .nx s2 h2 ∧ I (pre ++ [x]) s2 h2) : ∃ s' h', forL tg body (l.map enc) s h = .nx s' h' ∧ I l s' h' := by
  have key : ∀ (post pre : List α) (s : Env) (h : Hep), l = pre ++ post → I pre s h → ∃ s' h', forL tg body (post.map enc) s h = .nx s' h' ∧ I l s' h' := by
    intro post
    induction post with
    | nil => exact fun pre s h e i => ⟨s, h, rfl, by rw [e, List.append_nil]; exact i⟩
    | cons x r ih =>
      intro pre s h e i
      obtain ⟨s1, s2, h2, e1, e2, i2⟩ := step pre x r s h e i
      obtain ⟨s', h', e3, i3⟩ := ih (pre ++ [x]) s2 h2 (by simp [e]) i2
      refine ⟨s', h', ?_, i3⟩
      show (match setTg s (enc x) tg with
        | some s' => sb (body s' h) fun s1 h1 => forL tg body (r.map enc) s1 h1
        | none => .no) = _
      rw [e1]
      show sb (body s1 h) _ = _
      rw [e2]
      exact e3
  exact key l [] s h rfl h0
def lcOf (rc re : Env → Hep → R Vl) (o : Option Env) (h : Hep) : R (Option D) := match o with
  | some s' => match rc s' h with
    | .ok v h2 => condV v (match re s' h2 with
      | .ok y h3 => kept y h3 fun y h4 => .ok (some y) h4
      | _ => .no) (.ok none h2)
    | _ => .no
  | none => .no
/-- the turn's end -/
def putR (x : R Vl) : R (Option D) := match x with
  | .ok y h3 => kept y h3 fun y h4 => .ok (some y) h4
  | _ => .no
@[simp] theorem putR_d (y : D) : putR (.ok (.d y) h) = .ok (some y) h := (rfl)
@[simp] theorem putR_ite (c : Prop) [Decidable c] (a b : R Vl) : putR (if c then a else b) = if c then putR a else putR b := by split <;> rfl
def askR (x : R Vl) (f : Hep → R (Option D)) : R (Option D) := match x with
  | .ok v h2 => condV v (f h2) (.ok none h2)
  | _ => .no
@[simp] theorem askR_b (c : Bool) (f : Hep → R (Option D)) : askR (.ok (.d (.bool c)) h) f = if c = true then f h else .ok none h := condV_b _ _ _
theorem lcStep_eq (rc re : Env → Hep → R Vl) (tg : Tg) (s : Env) (x : D) (h : Hep) : lcStep rc re tg s x h = match setTg s x tg with
  | some s' => askR (rc s' h) fun h2 => putR (re s' h2)
  | none => .no := by
  unfold lcStep
  cases setTg s x tg with
  | none => rfl
  | some s' =>
    show (match rc s' h with
    | .ok (.d (.bool true)) h2 => _
    | .ok (.d (.bool false)) h2 => _
    | _ => _) = askR (rc s' h) _
    cases rc s' h with
    | ok v h2 =>
      cases v with
      | d x => cases x <;> try rfl
               rename_i b
               cases b <;> rfl
      | r n => rfl
    | ex c h2 => rfl
    | no => rfl
@[simp] theorem ev_lc (tg : Tg) (it c e : E) (ow : List Nat) : ev C (.lc tg it c e ow) s h = bnd (evi C it s h) fun xs h1 => if szOk xs.length then bnd (compG (fun x h => match setTg (wipe s ow) x tg with
  | some s' => askR (ev C c s' h) fun h2 => putR (ev C e s' h2)
  | none => .no) xs h1) fun ys h2 => R.ok (Vl.d (.list ys)) h2 else .no := by
  show (bnd (evi C it s h) fun xs h1 => if szOk xs.length then bnd (compL (lcStep (ev C c) (ev C e) tg (wipe s ow)) xs h1) fun ys h2 => R.ok (Vl.d (.list ys)) h2 else .no) = _
  congr 1
  funext xs h1
  rw [compL_G]
  congr 3
  funext x h
  exact lcStep_eq _ _ _ _ _ _
@[simp] theorem ev_lsr (a : E) : ev C (.lsr a) s h = bnd (ev C a s h) lsrV := (rfl)
@[simp] theorem ev_cel (a : E) : ev C (.cel a) s h = bnd (ev C a s h) celV := (rfl)
@[simp] theorem evs_nil : evs C .nil s h = .ok [] h := (rfl)
@[simp] theorem evs_cons (a as : E) : evs C (.cons a as) s h = bnd (ev C a s h) fun v h1 => bnd (evs C as s h1) fun vs h2 => .ok (v :: vs) h2 := (rfl)
def rngV (v : Vl) (h : Hep) : R (List D) := match v with
    | .d (.int n) => if decide (-4611686018427387904 ≤ n) && decide (n < 4611686018427387904) then .ok (rangeD n) h else .no
    | _ => .no
@[simp] theorem evi_rng (a : E) : evi C (.rng a) s h = bnd (ev C a s h) rngV := (rfl)
@[simp] theorem evi_enu (a : E) : evi C (.enu a) s h = bnd (ev C a s h) fun v h1 => kept v h1 fun x h2 => opt h2 ((items' x).map enumD) := (rfl)
@[simp] theorem evi_rvs (a : E) : evi C (.rvs a) s h = bnd (ev C a s h) fun v h1 => kept v h1 fun x h2 => opt h2 ((items' x).map List.reverse) := (rfl)
@[simp] theorem evi_itr (a : E) : evi C (.itr a) s h = bnd (ev C a s h) fun v h1 => kept v h1 fun x h2 => opt h2 (items x) := (rfl)
@[simp] theorem ex_skip : exec C .skip s h = .nx s h := (rfl)
@[simp] theorem ex_seq (a b : S) : exec C (.seq a b) s h = sb (exec C a s h) fun s1 h1 => exec C b s1 h1 := (rfl)
@[simp] theorem ex_exp (e : E) : exec C (.exp e) s h = rb (ev C e s h) fun _ h1 => .nx s h1 := (rfl)
@[simp] theorem ex_asg (i : Nat) (e : E) : exec C (.asg i e) s h = rb (ev C e s h) fun v h1 => .nx (s.set i (some v)) h1 := (rfl)
def unpV (is : List Nat) (s : Env) (v : Vl) (h1 : Hep) : RS := match v with
    | .d (.tuple xs) => match setAll s is xs with
      | some s' => .nx s' h1
      | none => .no
    | _ => .no
@[simp] theorem unpV_t (is : List Nat) (xs : List D) : unpV is s (.d (.tuple xs)) h = match setAll s is xs with
      | some s' => .nx s' h
      | none => .no := (rfl)
@[simp] theorem ex_unp (is : List Nat) (e : E) : exec C (.unp is e) s h = rb (ev C e s h) (unpV is s) := (rfl)
@[simp] theorem ex_par (is : List Nat) (as : E) : exec C (.par is as) s h = rb (evs C as s h) fun vs h1 => parS is vs s h1 := (rfl)
@[simp] theorem ex_ite (c : E) (a b : S) : exec C (.ite c a b) s h = rb (ev C c s h) fun v h1 => condS v (exec C a s h1) (exec C b s h1) := (rfl)
@[simp] theorem ex_for (tg : Tg) (it : E) (b : S) : exec C (.for_ tg it b) s h = rb (evi C it s h) fun xs h1 => forL tg (exec C b) xs s h1 := (rfl)
@[simp] theorem ex_whl (c : E) (b : S) : exec C (.whl c b) s h = whlL (ev C c) (exec C b) C.wf s h := (rfl)
@[simp] theorem ex_ret (e : E) : exec C (.ret e) s h = rb (ev C e s h) fun v h1 => .rt v h1 := (rfl)
@[simp] theorem ex_rse (c : Nat) : exec C (.rse c) s h = .ex c h := (rfl)
/-- x.append(v): the cell n -/
def appV (s : Env) (n : Nat) (v : Vl) (h1 : Hep) : RS := match keep h1 v with
        | some (x, h2) => match h2[n]? with
          | some (.lst xs) => if decide (xs.length < sizeLine) then .nx s (h2.set n (.lst (xs ++ [x]))) else .no
          | _ => .no
        | none => .no
@[simp] theorem ex_app (i : Nat) (e : E) : exec C (.app i e) s h = match s[i]? with
    | some (some (.r n)) => match h[n]? with
      | some (.lst _) => rb (ev C e s h) (appV s n)
      | _ => .no
    | _ => .no := (rfl)
def putV (s : Env) (n : Nat) (x : D) (k : Vl) (h3 : Hep) : RS := match k with
      | .d (.int k) => match h3[n]? with
        | some (.lst xs) => match L2.ixN xs.length k with
          | some m => .nx s (h3.set n (.lst (xs.set m x)))
          | none => .no
        | _ => .no
      | .d (.tuple ks) => match h3[n]? with
        | some (.dct kvs) => match intL ks with
          | some ks => if decide (kvs.length < sizeLine) then .nx s (h3.set n (.dct (putL kvs ks x))) else .no
          | none => .no
        | _ => .no
      | _ => .no
@[simp] theorem ex_put (i : Nat) (j e : E) : exec C (.put i j e) s h = rb (ev C e s h) fun v h1 => match keep h1 v, s[i]? with
    | some (x, h2), some (some (.r n)) => rb (ev C j s h2) (putV s n x)
    | _, _ => .no := (rfl)
@[simp] theorem parS_nil : parS [] [] s h = .nx s h := (rfl)
@[simp] theorem parS_cons (i : Nat) (is : List Nat) (v : Vl) (vs : List Vl) : parS (i :: is) (v :: vs) s h = parS is vs (s.set i (some v)) h := (rfl)
@[simp] theorem setAll_nil : setAll s [] [] = some s := (rfl)
@[simp] theorem setAll_cons (i : Nat) (is : List Nat) (x : D) (xs : List D) : setAll s (i :: is) (x :: xs) = setAll (s.set i (some (.d x))) is xs := (rfl)
@[simp] theorem setTg_nm (x : D) (i : Nat) : setTg s x (.nm i) = some (s.set i (some (.d x))) := (rfl)
@[simp] theorem setTg_tp (xs : List D) (is : List Nat) : setTg s (.tuple xs) (.tp is) = setAll s is xs := (rfl)
@[simp] theorem wipe_nil : wipe s [] = s := (rfl)
@[simp] theorem wipe_cons (v : Nat) (vs : List Nat) : wipe s (v :: vs) = (wipe s vs).set v none := (rfl)
@[simp] theorem idxV_d (x : D) (j : Int) : idxV (.d x) (.d (.int j)) h = op1R (fun x => idxD x j) (.d x) h := (rfl)
@[simp] theorem idxV_r (n : Nat) (j : Int) (e : (peekR h (.r n)).isSome = true) : idxV (.r n) (.d (.int j)) h = op1R (fun x => idxD x j) (.r n) h := by
  have e1 : idxV (.r n) (.d (.int j)) h = (match peekR h (.r n) with
    | some x => opt h ((idxD x j).map .d)
    | none => getV h j (.r n)) := rfl
  rw [e1]
  unfold op1R
  cases q : peekR h (.r n) with
  | none =>
    rw [q] at e
    cases e
  | some z => rfl
@[simp] theorem asInt_i (i : Int) : asInt (.ok (.d (.int i)) h) = .ok (some i) h := (rfl)
@[simp] theorem isNil_nil : isNil .nil = true := (rfl)
@[simp] theorem isNil_con (d : D) : isNil (.con d) = false := (rfl)
@[simp] theorem isNil_var (d : Nat) : isNil (.var d) = false := (rfl)
@[simp] theorem isNil_bin (o : Bop) (a b : E) : isNil (.bin o a b) = false := (rfl)
@[simp] theorem isNil_idx (a b : E) : isNil (.idx a b) = false := (rfl)
@[simp] theorem isNil_neg (a : E) : isNil (.neg a) = false := (rfl)
@[simp] theorem items_list (xs : List D) : items (.list xs) = some xs := (rfl)
@[simp] theorem items_tuple (xs : List D) : items (.tuple xs) = some xs := (rfl)
@[simp] theorem items_str (x : Str) : items (.str x) = some (x.cps.toList.map fun c => .str ⟨#[c]⟩) := (rfl)
@[simp] theorem items'_list (xs : List D) : items' (.list xs) = some xs := (rfl)
@[simp] theorem items'_tuple (xs : List D) : items' (.tuple xs) = some xs := (rfl)
@[simp] theorem isNoneV_d (x : D) : isNoneV (.d x) = noneB x := by cases x <;> rfl
@[simp] theorem noneB_none : noneB .none = true := (rfl)
@[simp] theorem noneB_int (i : Int) : noneB (.int i) = false := (rfl)
@[simp] theorem noneB_tup (i : List D) : noneB (.tuple i) = false := (rfl)
@[simp] theorem celV_l (xs : List D) : celV (.d (.list xs)) h = .ok (.r h.length) (h ++ [.lst xs]) := (rfl)
@[simp] theorem binD_add : binD .add = addD := (rfl)
@[simp] theorem binD_sub : binD .sub = subD := (rfl)
@[simp] theorem binD_mul : binD .mul = mulD := (rfl)
@[simp] theorem binD_fdiv : binD .fdiv = fdivD := (rfl)
@[simp] theorem binD_mod : binD .mod = modD := (rfl)
@[simp] theorem binD_pow : binD .pow = powD := (rfl)
@[simp] theorem addD_i (i j : Int) : addD (.int i) (.int j) = some (.int (i + j)) := (rfl)
@[simp] theorem subD_i (i j : Int) : subD (.int i) (.int j) = some (.int (i - j)) := (rfl)
@[simp] theorem addD_l (xs ys : List D) : addD (.list xs) (.list ys) = if szOk (xs.length + ys.length) then some (.list (xs ++ ys)) else none := (rfl)
@[simp] theorem addD_t (xs ys : List D) : addD (.tuple xs) (.tuple ys) = if szOk (xs.length + ys.length) then some (.tuple (xs ++ ys)) else none := (rfl)
@[simp] theorem addD_s (x y : Str) : addD (.str x) (.str y) = if szOk (x.length + y.length) then some (.str (x ++ y)) else none := (rfl)
@[simp] theorem cmpD_eq (x y : D) : cmpD .eq x y = eqD x y := (rfl)
@[simp] theorem cmpD_ne (x y : D) : cmpD .ne x y = (eqD x y).map not := (rfl)
@[simp] theorem cmpD_lt (x y : D) : cmpD .lt x y = ltI x y := (rfl)
@[simp] theorem cmpD_le (x y : D) : cmpD .le x y = leI x y := (rfl)
@[simp] theorem cmpD_gt (x y : D) : cmpD .gt x y = ltI y x := (rfl)
@[simp] theorem cmpD_ge (x y : D) : cmpD .ge x y = leI y x := (rfl)
@[simp] theorem cmpD_inn (x y : D) : cmpD .inn x y = innD x y := (rfl)
@[simp] theorem cmpD_nin (x y : D) : cmpD .nin x y = (innD x y).map not := (rfl)
@[simp] theorem ltI_i (i j : Int) : ltI (.int i) (.int j) = some (decide (i < j)) := (rfl)
@[simp] theorem leI_i (i j : Int) : leI (.int i) (.int j) = some (decide (i ≤ j)) := (rfl)
@[simp] theorem eqD_int (i j : Int) : eqD (.int i) (.int j) = some (decide (i = j)) := (rfl)
@[simp] theorem lenD_l (xs : List D) : lenD (.list xs) = some (.int xs.length) := (rfl)
@[simp] theorem lenD_t (xs : List D) : lenD (.tuple xs) = some (.int xs.length) := (rfl)
@[simp] theorem idxD_l (xs : List D) (i : Int) : idxD (.list xs) i = L2.atI xs i := (rfl)
@[simp] theorem idxD_t (xs : List D) (i : Int) : idxD (.tuple xs) i = L2.atI xs i := (rfl)
@[simp] theorem slcD_l (xs : List D) (lo hi : Option Int) : slcD (.list xs) lo hi = some (.list (cut xs lo hi)) := (rfl)
@[simp] theorem slcD_t (xs : List D) (lo hi : Option Int) : slcD (.tuple xs) lo hi = some (.tuple (cut xs lo hi)) := (rfl)
theorem sOk {n : Nat} (e : n ≤ 16777216) : szOk n = true := decide_eq_true e
@[simp] theorem atI_nat {α : Type} (xs : List α) (n : Nat) : L2.atI xs ((n : Nat) : Int) = xs[n]? := by
  unfold L2.atI L2.ixN
  by_cases q : n < xs.length
  · rw [if_pos (Int.natCast_nonneg n), if_pos (by omega)]
    rfl
  · rw [if_pos (Int.natCast_nonneg n), if_neg (by omega)]
    simp at q
    rw [List.getElem?_eq_none q]
    rfl
@[simp] theorem atI_zero {α : Type} (xs : List α) : L2.atI xs 0 = xs[0]? := atI_nat xs 0
@[simp] theorem atI_one {α : Type} (xs : List α) : L2.atI xs 1 = xs[1]? := atI_nat xs 1
@[simp] theorem atI_lit {α : Type} (xs : List α) (n : Nat) : L2.atI xs (no_index (OfNat.ofNat n)) = xs[n]? := atI_nat xs n
@[simp] theorem tupV_nil : tupV [] h = .ok (.d (.tuple [])) h := (rfl)
@[simp] theorem lstV_nil : lstV [] h = .ok (.d (.list [])) h := (rfl)
def tupF (n : Nat) : Option (List D × Hep) → R Vl
  | some (xs, h2) => if szOk n then .ok (.d (.tuple xs)) h2 else .no
  | none => .no
def lstF (n : Nat) : Option (List D × Hep) → R Vl
  | some (xs, h2) => if szOk n then .ok (.d (.list xs)) h2 else .no
  | none => .no
@[simp] theorem tupV_c (v : Vl) (vs : List Vl) : tupV (v :: vs) h = tupF (vs.length + 1) (keepAll h (v :: vs)) := (rfl)
@[simp] theorem lstV_c (v : Vl) (vs : List Vl) : lstV (v :: vs) h = lstF (vs.length + 1) (keepAll h (v :: vs)) := (rfl)
@[simp] theorem tupF_s (n : Nat) (xs : List D) : tupF n (some (xs, h)) = if szOk n then .ok (.d (.tuple xs)) h else .no := (rfl)
@[simp] theorem lstF_s (n : Nat) (xs : List D) : lstF n (some (xs, h)) = if szOk n then .ok (.d (.list xs)) h else .no := (rfl)
def bltF (b : B) (h : Hep) : Option (List D) → R Vl
  | some xs => opt h ((bltD b xs).map .d)
  | none => .no
theorem bltV_e (b : B) (hb : b ≠ .lst) (vs : List Vl) : bltV b vs h = bltF b h (peekAll h vs) := by
  unfold bltV bltF
  cases peekAll h vs with
  | some _ => rfl
  | none =>
    cases b <;> first
      | rfl
      | exact absurd rfl hb
@[simp] theorem bltV_sum (vs : List Vl) : bltV .sum vs h = bltF .sum h (peekAll h vs) := bltV_e _ (by intro z; cases z) vs
@[simp] theorem bltV_all (vs : List Vl) : bltV .all vs h = bltF .all h (peekAll h vs) := bltV_e _ (by intro z; cases z) vs
@[simp] theorem bltV_any (vs : List Vl) : bltV .any vs h = bltF .any h (peekAll h vs) := bltV_e _ (by intro z; cases z) vs
@[simp] theorem bltV_max (vs : List Vl) : bltV .max vs h = bltF .max h (peekAll h vs) := bltV_e _ (by intro z; cases z) vs
@[simp] theorem bltV_min (vs : List Vl) : bltV .min vs h = bltF .min h (peekAll h vs) := bltV_e _ (by intro z; cases z) vs
@[simp] theorem bltV_max2 (vs : List Vl) : bltV .max2 vs h = bltF .max2 h (peekAll h vs) := bltV_e _ (by intro z; cases z) vs
@[simp] theorem bltV_min2 (vs : List Vl) : bltV .min2 vs h = bltF .min2 h (peekAll h vs) := bltV_e _ (by intro z; cases z) vs
@[simp] theorem bltV_tup (vs : List Vl) : bltV .tup vs h = bltF .tup h (peekAll h vs) := bltV_e _ (by intro z; cases z) vs
@[simp] theorem bltV_abs (vs : List Vl) : bltV .abs vs h = bltF .abs h (peekAll h vs) := bltV_e _ (by intro z; cases z) vs
@[simp] theorem bltV_int (vs : List Vl) : bltV .int vs h = bltF .int h (peekAll h vs) := bltV_e _ (by intro z; cases z) vs
@[simp] theorem bltV_str (vs : List Vl) : bltV .str vs h = bltF .str h (peekAll h vs) := bltV_e _ (by intro z; cases z) vs
@[simp] theorem bltV_sorted (vs : List Vl) : bltV .sorted vs h = bltF .sorted h (peekAll h vs) := bltV_e _ (by intro z; cases z) vs
@[simp] theorem bltV_lens (vs : List Vl) : bltV .lens vs h = bltF .lens h (peekAll h vs) := bltV_e _ (by intro z; cases z) vs
@[simp] theorem bltV_lst (x : D) : bltV .lst [.d x] h = bltF .lst h (some [x]) := (rfl)
@[simp] theorem bltV_lstR (n : Nat) (e : (peek h (.r n)).isSome = true) : bltV .lst [.r n] h = bltF .lst h (peekAll h [.r n]) := by
  unfold bltV bltF
  rw [peekAll_r]
  cases q : peek h (.r n) with
  | none =>
    rw [q] at e
    cases e
  | some z => rfl
@[simp] theorem bltF_s (b : B) (xs : List D) : bltF b h (some xs) = opt h ((bltD b xs).map .d) := (rfl)
@[simp] theorem bltD_sum : bltD .sum = bSum := (rfl)
@[simp] theorem bltD_all : bltD .all = bAll := (rfl)
@[simp] theorem bltD_any : bltD .any = bAny := (rfl)
@[simp] theorem bltD_max : bltD .max = bMax := (rfl)
@[simp] theorem bltD_min : bltD .min = bMin := (rfl)
@[simp] theorem bltD_max2 : bltD .max2 = bMax2 := (rfl)
@[simp] theorem bltD_min2 : bltD .min2 = bMin2 := (rfl)
@[simp] theorem bltD_tup : bltD .tup = bTup := (rfl)
@[simp] theorem bltD_lst : bltD .lst = bLst := (rfl)
@[simp] theorem bltD_abs : bltD .abs = bAbs := (rfl)
@[simp] theorem bltD_int : bltD .int = bInt := (rfl)
@[simp] theorem bltD_sorted : bltD .sorted = bSorted := (rfl)
@[simp] theorem bltD_lens : bltD .lens = bLens := (rfl)
@[simp] theorem bTup_l (xs : List D) : bTup [.list xs] = some (.tuple xs) := (rfl)
@[simp] theorem bTup_t (xs : List D) : bTup [.tuple xs] = some (.tuple xs) := (rfl)
@[simp] theorem bLst_l (xs : List D) : bLst [.list xs] = some (.list xs) := (rfl)
@[simp] theorem bLst_t (xs : List D) : bLst [.tuple xs] = some (.list xs) := (rfl)
@[simp] theorem bInt_b (b : Bool) : bInt [.bool b] = some (.int (if b then 1 else 0)) := (rfl)
@[simp] theorem bMax2_i (i j : Int) : bMax2 [.int i, .int j] = some (.int (if j > i then j else i)) := (rfl)
@[simp] theorem bMin2_i (i j : Int) : bMin2 [.int i, .int j] = some (.int (if j < i then j else i)) := (rfl)
theorem intL_map : ∀ l : List α, ∀ f : α → Int, intL (l.map fun a => .int (f a)) = some (l.map f)
  | [], _ => rfl
  | x :: r, f => by
    show (intL (r.map _)).map _ = _
    rw [intL_map r]
    rfl
theorem boolL_map : ∀ l : List α, ∀ f : α → Bool, boolL (l.map fun a => .bool (f a)) = some (l.map f)
  | [], _ => rfl
  | x :: r, f => by
    show (boolL (r.map _)).map _ = _
    rw [boolL_map r]
    rfl
theorem strL_map : ∀ l : List α, ∀ f : α → Str, strL (l.map fun a => .str (f a)) = some (l.map f)
  | [], _ => rfl
  | x :: r, f => by
    show (strL (r.map _)).map _ = _
    rw [strL_map r]
    rfl
@[simp] theorem bSum_map (l : List α) (f : α → Int) : bSum [.list (l.map fun a => .int (f a))] = some (.int (l.map f).sum) := by
  show Option.map (fun ns => PyData.int ns.sum) (intL (l.map fun a => .int (f a))) = _
  rw [intL_map]
  rfl
@[simp] theorem bAll_map (l : List α) (f : α → Bool) : bAll [.list (l.map fun a => .bool (f a))] = some (.bool (l.all f)) := by
  show Option.map (fun bs => PyData.bool (bs.all id)) (boolL (l.map fun a => .bool (f a))) = _
  rw [boolL_map]
  simp
@[simp] theorem bAny_map (l : List α) (f : α → Bool) : bAny [.list (l.map fun a => .bool (f a))] = some (.bool (l.any f)) := by
  show Option.map (fun bs => PyData.bool (bs.any id)) (boolL (l.map fun a => .bool (f a))) = _
  rw [boolL_map]
  simp
@[simp] theorem rngV_n (n : Nat) (e : n ≤ 16777216 := by omega) : rngV (.d (.int (n : Nat))) h = .ok ((List.range n).map fun i => .int ((i : Nat) : Int)) h := by
  have key : rngV (.d (.int (n : Nat))) h = if (decide (-4611686018427387904 ≤ (n : Int)) && decide ((n : Int) < 4611686018427387904)) = true then R.ok (rangeD (n : Int)) h else .no := (rfl)
  have c : (decide (-4611686018427387904 ≤ (n : Int)) && decide ((n : Int) < 4611686018427387904)) = true := by
    rw [Bool.and_eq_true]
    exact ⟨decide_eq_true (by omega), decide_eq_true (by omega)⟩
  rw [key, if_pos c, rangeD, Int.toNat_natCast]
@[simp] theorem fin_dA (z : Nat) (x : D) : fin z (.d x) h = .ok (.d x) (h.take z) := (rfl)
/-- the end of a def -/
def finS (z : Nat) (x : RS) : R Vl := match x with
    | .nx _ h' => fin z (.d .none) h'
    | .rt v h' => fin z v h'
    | .ex c h' => .ex c (h'.take z)
    | .no => .no
@[simp] theorem finS_nx (z : Nat) : finS z (.nx s h) = fin z (.d .none) h := (rfl)
@[simp] theorem finS_rt (z : Nat) (v : Vl) : finS z (.rt v h) = fin z v h := (rfl)
@[simp] theorem finS_ex (z : Nat) (c : Nat) : finS z (.ex c h) = .ex c (h.take z) := (rfl)
@[simp] theorem ite_okR (c : Prop) [Decidable c] (a b : α) : (if c then R.ok a h else R.ok b h) = R.ok (if c then a else b) h := by split <;> rfl
@[simp] theorem ite_dV (c : Prop) [Decidable c] (a b : D) : (if c then Vl.d a else Vl.d b) = Vl.d (if c then a else b) := by split <;> rfl
@[simp] theorem ite_boolD (c : Prop) [Decidable c] (a b : Bool) : (if c then PyData.bool a else PyData.bool b) = PyData.bool (if c then a else b) := by split <;> rfl
@[simp] theorem ite_intD (c : Prop) [Decidable c] (a b : Int) : (if c then PyData.int a else PyData.int b) = PyData.int (if c then a else b) := by split <;> rfl
@[simp] theorem bnd_ite (c : Prop) [Decidable c] (a b : R α) (f : α → Hep → R β) : bnd (if c then a else b) f = if c then bnd a f else bnd b f := by split <;> rfl
@[simp] theorem rb_ite (c : Prop) [Decidable c] (a b : R α) (f : α → Hep → RS) : rb (if c then a else b) f = if c then rb a f else rb b f := by split <;> rfl
@[simp] theorem sb_ite (c : Prop) [Decidable c] (a b : RS) (f : Env → Hep → RS) : sb (if c then a else b) f = if c then sb a f else sb b f := by split <;> rfl
@[simp] theorem finS_ite (z : Nat) (c : Prop) [Decidable c] (a b : RS) : finS z (if c then a else b) = if c then finS z a else finS z b := by split <;> rfl
@[simp] theorem askR_ite (c : Prop) [Decidable c] (a b : R Vl) (f : Hep → R (Option D)) : askR (if c then a else b) f = if c then askR a f else askR b f := by split <;> rfl
theorem call_ir {Ds : List Dfn} {wf k : Nat} {f : Nat} {d : Dfn} {vs : List Vl} (e : Ds[f]? = some d) (el : vs.length = d.ps) : call Ds wf (k + 1) f vs h = finS h.length (exec ⟨call Ds wf k, wf⟩ d.body (vs.map some ++ List.replicate (d.ns - d.ps) none) h) := by
  show (match Ds[f]? with
    | some d => run ⟨call Ds wf k, wf⟩ d vs h
    | none => .no) = _
  rw [e]
  show (if vs.length = d.ps then _ else _) = _
  rw [if_pos el]
  rfl
end
end Z

set_option linter.all false
set_option autoImplicit false
set_option maxRecDepth 100000
/-! IR: the defs in the small language (printed by gen_ir.py out of the interpreter's own translation). -/
namespace Z
open PySem
structure Fs where
  f__law_alignments : Nat := 0
  f__law_any_names : Nat := 0
  f__law_any_row : Nat := 0
  f__law_any_table : Nat := 0
  f__law_any_two : Nat := 0
  f__law_any_value : Nat := 0
  f__law_any_weights : Nat := 0
  f__law_better : Nat := 0
  f__law_cell : Nat := 0
  f__law_cost : Nat := 0
  f__law_counts : Nat := 0
  f__law_drawn : Nat := 0
  f__law_moves : Nat := 0
  f__law_near : Nat := 0
  f__law_pairings : Nat := 0
  f__law_renamed : Nat := 0
  f__law_roll : Nat := 0
  f__law_rounds : Nat := 0
  f__law_run : Nat := 0
  f__law_shuffled : Nat := 0
  f_all_counts : Nat := 0
  f_all_pairings : Nat := 0
  f_backward : Nat := 0
  f_beats : Nat := 0
  f_best : Nat := 0
  f_certain : Nat := 0
  f_cost : Nat := 0
  f_cost_of : Nat := 0
  f_counts_of : Nat := 0
  f_fits : Nat := 0
  f_from_place : Nat := 0
  f_front : Nat := 0
  f_front_of : Nat := 0
  f_is_alignment : Nat := 0
  f_is_least : Nat := 0
  f_is_mixture : Nat := 0
  f_is_name : Nat := 0
  f_is_pair : Nat := 0
  f_is_pairing : Nat := 0
  f_is_positive : Nat := 0
  f_is_row : Nat := 0
  f_is_share : Nat := 0
  f_is_string : Nat := 0
  f_is_support : Nat := 0
  f_is_table : Nat := 0
  f_is_value : Nat := 0
  f_is_whole : Nat := 0
  f_least_alignments : Nat := 0
  f_least_cost : Nat := 0
  f_longest_run : Nat := 0
  f_misses_of : Nat := 0
  f_moves_in : Nat := 0
  f_need_alignment : Nat := 0
  f_need_table : Nat := 0
  f_need_two : Nat := 0
  f_need_weights : Nat := 0
  f_pairs_in : Nat := 0
  f_possible : Nat := 0
  f_rows_with : Nat := 0
  f_turned : Nat := 0
  f_unpaired : Nat := 0
  f_law : Nat := 0
  xInvalidAlignment : Nat := 0
  xInvalidTable : Nat := 0
  xInvalidWeights : Nat := 0
def ir_is_whole (F : Fs) : Dfn := ⟨3, 3,
  (.seq
   (.ret (.and (.isi .int (.var 0)) (.and (.not (.isi .bool (.var 0))) (.chn .le .le (.var 1) (.var 0) (.var 2)))))
   .skip)⟩
structure Ok_is_whole (Ds : List Dfn) (F : Fs) : Prop where
  e : Ds[F.f_is_whole]? = some (ir_is_whole F)
def ir_is_string (F : Fs) : Dfn := ⟨3, 4,
  (.seq
   (.ret (.and (.isi .str (.var 0)) (.and (.chn .le .le (.con (.int 1)) (.len (.var 0)) (.var 1)) (.blt .all (.cons (.lc (.nm 3) (.itr (.var 0)) (.con (.bool true)) (.cmp .inn (.var 3) (.var 2)) [3]) .nil)))))
   .skip)⟩
structure Ok_is_string (Ds : List Dfn) (F : Fs) : Prop where
  e : Ds[F.f_is_string]? = some (ir_is_string F)
def ir_is_name (F : Fs) : Dfn := ⟨1, 1,
  (.seq
   (.ret (.call F.f_is_string (.cons (.var 0) (.cons (.con (.int 4)) (.cons (.con (.str "abcdefghijklmnopqrstuvwxyz")) .nil)))))
   .skip)⟩
structure Ok_is_name (Ds : List Dfn) (F : Fs) : Prop where
  e : Ds[F.f_is_name]? = some (ir_is_name F)
  o_is_string : Ok_is_string Ds F
def ir_is_value (F : Fs) : Dfn := ⟨1, 1,
  (.seq
   (.ret (.or (.call F.f_is_whole (.cons (.var 0) (.cons (.neg (.con (.int 99))) (.cons (.con (.int 99)) .nil)))) (.call F.f_is_string (.cons (.var 0) (.cons (.con (.int 7)) (.cons (.bin .add (.con (.str "abcdefghijklmnopqrstuvwxyz")) (.con (.str "-"))) .nil))))))
   .skip)⟩
structure Ok_is_value (Ds : List Dfn) (F : Fs) : Prop where
  e : Ds[F.f_is_value]? = some (ir_is_value F)
  o_is_whole : Ok_is_whole Ds F
  o_is_string : Ok_is_string Ds F
def ir_is_row (F : Fs) : Dfn := ⟨2, 3,
  (.seq
   (.ret (.and (.isi .tup (.var 0)) (.and (.cmp .eq (.len (.var 0)) (.var 1)) (.blt .all (.cons (.lc (.nm 2) (.itr (.var 0)) (.con (.bool true)) (.call F.f_is_value (.cons (.var 2) .nil)) [2]) .nil)))))
   .skip)⟩
structure Ok_is_row (Ds : List Dfn) (F : Fs) : Prop where
  e : Ds[F.f_is_row]? = some (ir_is_row F)
  o_is_value : Ok_is_value Ds F
def ir_is_table (F : Fs) : Dfn := ⟨1, 5,
  (.seq
   (.ite (.or (.not (.isi .tup (.var 0))) (.cmp .ne (.len (.var 0)) (.con (.int 2))))
    (.seq
     (.ret (.con (.bool false)))
     .skip)
    .skip)
   (.seq
    (.unp [1, 2] (.var 0))
    (.seq
     (.ite (.or (.not (.isi .tup (.var 1))) (.or (.not (.chn .le .le (.con (.int 1)) (.len (.var 1)) (.con (.int 4)))) (.not (.blt .all (.cons (.lc (.nm 4) (.itr (.var 1)) (.con (.bool true)) (.call F.f_is_name (.cons (.var 4) .nil)) [4]) .nil)))))
      (.seq
       (.ret (.con (.bool false)))
       .skip)
      .skip)
     (.seq
      (.ite (.or (.cmp .ne (.blt .lens (.cons (.var 1) .nil)) (.len (.var 1))) (.or (.not (.isi .tup (.var 2))) (.cmp .gt (.len (.var 2)) (.con (.int 4)))))
       (.seq
        (.ret (.con (.bool false)))
        .skip)
       .skip)
      (.seq
       (.ret (.blt .all (.cons (.lc (.nm 3) (.itr (.var 2)) (.con (.bool true)) (.call F.f_is_row (.cons (.var 3) (.cons (.len (.var 1)) .nil))) [3]) .nil)))
       .skip)))))⟩
structure Ok_is_table (Ds : List Dfn) (F : Fs) : Prop where
  e : Ds[F.f_is_table]? = some (ir_is_table F)
  o_is_name : Ok_is_name Ds F
  o_is_row : Ok_is_row Ds F
def ir_need_table (F : Fs) : Dfn := ⟨1, 1,
  (.seq
   (.ite (.not (.call F.f_is_table (.cons (.var 0) .nil)))
    (.seq
     (.rse F.xInvalidTable)
     .skip)
    .skip)
   .skip)⟩
structure Ok_need_table (Ds : List Dfn) (F : Fs) : Prop where
  e : Ds[F.f_need_table]? = some (ir_need_table F)
  o_is_table : Ok_is_table Ds F
def ir_need_weights (F : Fs) : Dfn := ⟨1, 2,
  (.seq
   (.ite (.or (.not (.isi .tup (.var 0))) (.or (.cmp .ne (.len (.var 0)) (.con (.int 5))) (.not (.blt .all (.cons (.lc (.nm 1) (.itr (.var 0)) (.con (.bool true)) (.call F.f_is_whole (.cons (.var 1) (.cons (.con (.int 1)) (.cons (.con (.int 9)) .nil)))) [1]) .nil)))))
    (.seq
     (.rse F.xInvalidWeights)
     .skip)
    .skip)
   .skip)⟩
structure Ok_need_weights (Ds : List Dfn) (F : Fs) : Prop where
  e : Ds[F.f_need_weights]? = some (ir_need_weights F)
  o_is_whole : Ok_is_whole Ds F
def ir_from_place (F : Fs) : Dfn := ⟨3, 9,
  (.seq
   (.ite (.cmp .eq (.var 0) (.var 1))
    (.seq
     (.ret (.lst (.cons (.tup .nil) .nil)))
     .skip)
    .skip)
   (.seq
    (.asg 3 (.call F.f_from_place (.cons (.bin .add (.var 0) (.con (.int 1))) (.cons (.var 1) (.cons (.var 2) .nil)))))
    (.seq
     (.asg 4 (.blt .lst (.cons (.var 3) .nil)))
     (.seq
      (.for_ (.nm 5) (.itr (.var 2))
       (.seq
        (.asg 6 (.call F.f_from_place (.cons (.bin .add (.var 0) (.con (.int 1))) (.cons (.var 1) (.cons (.lc (.nm 7) (.itr (.var 2)) (.cmp .ne (.var 7) (.var 5)) (.var 7) [7]) .nil)))))
        (.seq
         (.asg 4 (.bin .add (.var 4) (.lc (.nm 8) (.itr (.var 6)) (.con (.bool true)) (.bin .add (.tup (.cons (.tup (.cons (.var 0) (.cons (.var 5) .nil))) .nil)) (.var 8)) [8])))
         .skip)))
      (.seq
       (.ret (.var 4))
       .skip)))))⟩
structure Ok_from_place (Ds : List Dfn) (F : Fs) : Prop where
  e : Ds[F.f_from_place]? = some (ir_from_place F)
def ir_all_pairings (F : Fs) : Dfn := ⟨2, 2,
  (.seq
   (.ret (.blt .sorted (.cons (.call F.f_from_place (.cons (.con (.int 0)) (.cons (.var 0) (.cons (.lsr (.var 1)) .nil)))) .nil)))
   .skip)⟩
structure Ok_all_pairings (Ds : List Dfn) (F : Fs) : Prop where
  e : Ds[F.f_all_pairings]? = some (ir_all_pairings F)
  o_from_place : Ok_from_place Ds F
def ir_is_pair (F : Fs) : Dfn := ⟨3, 3,
  (.seq
   (.ite (.or (.not (.isi .tup (.var 0))) (.cmp .ne (.len (.var 0)) (.con (.int 2))))
    (.seq
     (.ret (.con (.bool false)))
     .skip)
    .skip)
   (.seq
    (.ret (.and (.call F.f_is_whole (.cons (.idx (.var 0) (.con (.int 0))) (.cons (.con (.int 0)) (.cons (.bin .sub (.var 1) (.con (.int 1))) .nil)))) (.call F.f_is_whole (.cons (.idx (.var 0) (.con (.int 1))) (.cons (.con (.int 0)) (.cons (.bin .sub (.var 2) (.con (.int 1))) .nil))))))
    .skip))⟩
structure Ok_is_pair (Ds : List Dfn) (F : Fs) : Prop where
  e : Ds[F.f_is_pair]? = some (ir_is_pair F)
  o_is_whole : Ok_is_whole Ds F
def ir_is_pairing (F : Fs) : Dfn := ⟨3, 7,
  (.seq
   (.ite (.or (.not (.isi .tup (.var 0))) (.not (.blt .all (.cons (.lc (.nm 5) (.itr (.var 0)) (.con (.bool true)) (.call F.f_is_pair (.cons (.var 5) (.cons (.var 1) (.cons (.var 2) .nil)))) [5]) .nil))))
    (.seq
     (.ret (.con (.bool false)))
     .skip)
    .skip)
   (.seq
    (.asg 3 (.lc (.nm 5) (.itr (.var 0)) (.con (.bool true)) (.idx (.var 5) (.con (.int 1))) [5]))
    (.seq
     (.asg 4 (.blt .all (.cons (.lc (.nm 6) (.rng (.bin .sub (.len (.var 0)) (.con (.int 1)))) (.con (.bool true)) (.cmp .lt (.idx (.idx (.var 0) (.var 6)) (.con (.int 0))) (.idx (.idx (.var 0) (.bin .add (.var 6) (.con (.int 1)))) (.con (.int 0)))) [6]) .nil)))
     (.seq
      (.ret (.and (.var 4) (.cmp .eq (.blt .lens (.cons (.var 3) .nil)) (.len (.var 3)))))
      .skip))))⟩
structure Ok_is_pairing (Ds : List Dfn) (F : Fs) : Prop where
  e : Ds[F.f_is_pairing]? = some (ir_is_pairing F)
  o_is_pair : Ok_is_pair Ds F
def ir_longest_run (F : Fs) : Dfn := ⟨1, 8,
  (.seq
   (.asg 1 (.cel (.lst .nil)))
   (.seq
    (.for_ (.tp [4, 5]) (.enu (.var 0))
     (.seq
      (.asg 6 (.lst .nil))
      (.seq
       (.for_ (.nm 7) (.rng (.var 4))
        (.seq
         (.ite (.and (.cmp .lt (.idx (.var 0) (.var 7)) (.var 5)) (.cmp .gt (.len (.idx (.var 1) (.var 7))) (.len (.var 6))))
          (.seq
           (.asg 6 (.idx (.var 1) (.var 7)))
           .skip)
          .skip)
         .skip))
       (.seq
        (.app 1 (.bin .add (.var 6) (.lst (.cons (.var 4) .nil))))
        .skip))))
    (.seq
     (.asg 2 (.lst .nil))
     (.seq
      (.for_ (.nm 3) (.itr (.var 1))
       (.seq
        (.ite (.cmp .gt (.len (.var 3)) (.len (.var 2)))
         (.seq
          (.asg 2 (.var 3))
          .skip)
         .skip)
        .skip))
      (.seq
       (.ret (.var 2))
       .skip)))))⟩
structure Ok_longest_run (Ds : List Dfn) (F : Fs) : Prop where
  e : Ds[F.f_longest_run]? = some (ir_longest_run F)
def ir_moves_in (F : Fs) : Dfn := ⟨1, 2,
  (.seq
   (.ret (.bin .sub (.len (.var 0)) (.len (.call F.f_longest_run (.cons (.lc (.nm 1) (.itr (.var 0)) (.con (.bool true)) (.idx (.var 1) (.con (.int 1))) [1]) .nil)))))
   .skip)⟩
structure Ok_moves_in (Ds : List Dfn) (F : Fs) : Prop where
  e : Ds[F.f_moves_in]? = some (ir_moves_in F)
  o_longest_run : Ok_longest_run Ds F
def ir_fits (F : Fs) : Dfn := ⟨3, 3,
  (.seq
   (.ite (.or (.not (.isi .tup (.var 2))) (.cmp .ne (.len (.var 2)) (.con (.int 2))))
    (.seq
     (.ret (.con (.bool false)))
     .skip)
    .skip)
   (.seq
    (.ite (.not (.call F.f_is_pairing (.cons (.idx (.var 2) (.con (.int 0))) (.cons (.len (.idx (.var 0) (.con (.int 0)))) (.cons (.len (.idx (.var 1) (.con (.int 0)))) .nil)))))
     (.seq
      (.ret (.con (.bool false)))
      .skip)
     .skip)
    (.seq
     (.ret (.call F.f_is_pairing (.cons (.idx (.var 2) (.con (.int 1))) (.cons (.len (.idx (.var 0) (.con (.int 1)))) (.cons (.len (.idx (.var 1) (.con (.int 1)))) .nil)))))
     .skip)))⟩
structure Ok_fits (Ds : List Dfn) (F : Fs) : Prop where
  e : Ds[F.f_fits]? = some (ir_fits F)
  o_is_pairing : Ok_is_pairing Ds F
def ir_need_two (F : Fs) : Dfn := ⟨2, 2,
  (.seq
   (.exp (.call F.f_need_table (.cons (.var 0) .nil)))
   (.seq
    (.exp (.call F.f_need_table (.cons (.var 1) .nil)))
    .skip))⟩
structure Ok_need_two (Ds : List Dfn) (F : Fs) : Prop where
  e : Ds[F.f_need_two]? = some (ir_need_two F)
  o_need_table : Ok_need_table Ds F
def ir_need_alignment (F : Fs) : Dfn := ⟨3, 3,
  (.seq
   (.exp (.call F.f_need_two (.cons (.var 0) (.cons (.var 1) .nil))))
   (.seq
    (.ite (.not (.call F.f_fits (.cons (.var 0) (.cons (.var 1) (.cons (.var 2) .nil)))))
     (.seq
      (.rse F.xInvalidAlignment)
      .skip)
     .skip)
    .skip))⟩
structure Ok_need_alignment (Ds : List Dfn) (F : Fs) : Prop where
  e : Ds[F.f_need_alignment]? = some (ir_need_alignment F)
  o_need_two : Ok_need_two Ds F
  o_fits : Ok_fits Ds F
def ir_misses_of (F : Fs) : Dfn := ⟨3, 8,
  (.seq
   (.asg 3 (.cel (.lst .nil)))
   (.seq
    (.for_ (.nm 4) (.itr (.idx (.var 0) (.con (.int 1))))
     (.seq
      (.app 3 (.lc (.nm 5) (.itr (.idx (.var 1) (.con (.int 1)))) (.con (.bool true)) (.blt .sum (.cons (.lc (.tp [6, 7]) (.itr (.var 2)) (.con (.bool true)) (.ite (.cmp .ne (.idx (.var 4) (.var 6)) (.idx (.var 5) (.var 7))) (.con (.int 1)) (.con (.int 0))) [6, 7]) .nil)) [5]))
      .skip))
    (.seq
     (.ret (.var 3))
     .skip)))⟩
structure Ok_misses_of (Ds : List Dfn) (F : Fs) : Prop where
  e : Ds[F.f_misses_of]? = some (ir_misses_of F)
def ir_unpaired (F : Fs) : Dfn := ⟨3, 3,
  (.seq
   (.ret (.bin .sub (.bin .add (.var 0) (.var 1)) (.bin .mul (.con (.int 2)) (.len (.var 2)))))
   .skip)⟩
structure Ok_unpaired (Ds : List Dfn) (F : Fs) : Prop where
  e : Ds[F.f_unpaired]? = some (ir_unpaired F)
def ir_counts_of (F : Fs) : Dfn := ⟨3, 12,
  (.seq
   (.unp [8, 9] (.var 2))
   (.seq
    (.asg 3 (.call F.f_misses_of (.cons (.var 0) (.cons (.var 1) (.cons (.var 8) .nil)))))
    (.seq
     (.asg 4 (.blt .sum (.cons (.lc (.tp [10, 11]) (.itr (.var 9)) (.con (.bool true)) (.idx (.idx (.var 3) (.var 10)) (.var 11)) [10, 11]) .nil)))
     (.seq
      (.asg 5 (.blt .sum (.cons (.lc (.tp [10, 11]) (.itr (.var 8)) (.con (.bool true)) (.ite (.cmp .ne (.idx (.idx (.var 0) (.con (.int 0))) (.var 10)) (.idx (.idx (.var 1) (.con (.int 0))) (.var 11))) (.con (.int 1)) (.con (.int 0))) [10, 11]) .nil)))
      (.seq
       (.asg 6 (.call F.f_unpaired (.cons (.len (.idx (.var 0) (.con (.int 0)))) (.cons (.len (.idx (.var 1) (.con (.int 0)))) (.cons (.var 8) .nil)))))
       (.seq
        (.asg 7 (.call F.f_unpaired (.cons (.len (.idx (.var 0) (.con (.int 1)))) (.cons (.len (.idx (.var 1) (.con (.int 1)))) (.cons (.var 9) .nil)))))
        (.seq
         (.ret (.tup (.cons (.var 4) (.cons (.var 5) (.cons (.var 6) (.cons (.var 7) (.cons (.bin .add (.call F.f_moves_in (.cons (.var 8) .nil)) (.call F.f_moves_in (.cons (.var 9) .nil))) .nil)))))))
         .skip)))))))⟩
structure Ok_counts_of (Ds : List Dfn) (F : Fs) : Prop where
  e : Ds[F.f_counts_of]? = some (ir_counts_of F)
  o_misses_of : Ok_misses_of Ds F
  o_unpaired : Ok_unpaired Ds F
  o_moves_in : Ok_moves_in Ds F
def ir_cost_of (F : Fs) : Dfn := ⟨2, 4,
  (.seq
   (.ret (.blt .sum (.cons (.lc (.tp [2, 3]) (.enu (.var 0)) (.con (.bool true)) (.bin .mul (.var 3) (.idx (.var 1) (.var 2))) [2, 3]) .nil)))
   .skip)⟩
structure Ok_cost_of (Ds : List Dfn) (F : Fs) : Prop where
  e : Ds[F.f_cost_of]? = some (ir_cost_of F)
def ir_cost (F : Fs) : Dfn := ⟨4, 4,
  (.seq
   (.exp (.call F.f_need_alignment (.cons (.var 0) (.cons (.var 1) (.cons (.var 2) .nil)))))
   (.seq
    (.exp (.call F.f_need_weights (.cons (.var 3) .nil)))
    (.seq
     (.ret (.call F.f_cost_of (.cons (.call F.f_counts_of (.cons (.var 0) (.cons (.var 1) (.cons (.var 2) .nil)))) (.cons (.var 3) .nil))))
     .skip)))⟩
structure Ok_cost (Ds : List Dfn) (F : Fs) : Prop where
  e : Ds[F.f_cost]? = some (ir_cost F)
  o_need_alignment : Ok_need_alignment Ds F
  o_need_weights : Ok_need_weights Ds F
  o_cost_of : Ok_cost_of Ds F
  o_counts_of : Ok_counts_of Ds F
def ir_rows_with (F : Fs) : Dfn := ⟨2, 5,
  (.seq
   (.par [2, 3] (.cons (.len (.idx (.var 0) (.con (.int 1)))) (.cons (.len (.idx (.var 1) (.con (.int 1)))) .nil)))
   (.seq
    (.ret (.lc (.nm 4) (.itr (.call F.f_all_pairings (.cons (.var 2) (.cons (.var 3) .nil)))) (.con (.bool true)) (.tup (.cons (.var 4) (.cons (.call F.f_unpaired (.cons (.var 2) (.cons (.var 3) (.cons (.var 4) .nil)))) (.cons (.call F.f_moves_in (.cons (.var 4) .nil)) .nil)))) [4]))
    .skip))⟩
structure Ok_rows_with (Ds : List Dfn) (F : Fs) : Prop where
  e : Ds[F.f_rows_with]? = some (ir_rows_with F)
  o_all_pairings : Ok_all_pairings Ds F
  o_unpaired : Ok_unpaired Ds F
  o_moves_in : Ok_moves_in Ds F
def ir_best (F : Fs) : Dfn := ⟨3, 19,
  (.seq
   (.par [5, 6] (.cons (.con .none) (.cons (.cel (.lst .nil)) .nil)))
   (.seq
    (.asg 3 (.lc (.tp [12, 15, 16]) (.itr (.call F.f_rows_with (.cons (.var 0) (.cons (.var 1) .nil)))) (.con (.bool true)) (.tup (.cons (.var 12) (.cons (.bin .add (.bin .mul (.var 15) (.idx (.var 2) (.con (.int 3)))) (.bin .mul (.var 16) (.idx (.var 2) (.con (.int 4))))) .nil))) [12, 15, 16]))
    (.seq
     (.for_ (.nm 4) (.itr (.call F.f_all_pairings (.cons (.len (.idx (.var 0) (.con (.int 0)))) (.cons (.len (.idx (.var 1) (.con (.int 0)))) .nil))))
      (.seq
       (.unp [10, 11] (.slc (.call F.f_counts_of (.cons (.var 0) (.cons (.var 1) (.cons (.tup (.cons (.var 4) (.cons (.tup .nil) .nil))) .nil)))) (.con (.int 1)) (.con (.int 3))))
       (.seq
        (.asg 7 (.bin .add (.bin .add (.bin .mul (.var 10) (.idx (.var 2) (.con (.int 1)))) (.bin .mul (.var 11) (.idx (.var 2) (.con (.int 2))))) (.bin .mul (.call F.f_moves_in (.cons (.var 4) .nil)) (.idx (.var 2) (.con (.int 4))))))
        (.seq
         (.asg 8 (.call F.f_misses_of (.cons (.var 0) (.cons (.var 1) (.cons (.var 4) .nil)))))
         (.seq
          (.asg 9 (.lc (.nm 0) (.itr (.var 3)) (.or (.isN (.var 5)) (.cmp .le (.bin .add (.var 7) (.idx (.var 0) (.con (.int 1)))) (.var 5))) (.var 0) [0]))
          (.seq
           (.for_ (.tp [12, 13]) (.itr (.var 9))
            (.seq
             (.asg 14 (.bin .add (.bin .add (.var 7) (.var 13)) (.bin .mul (.idx (.var 2) (.con (.int 0))) (.blt .sum (.cons (.lc (.tp [17, 18]) (.itr (.var 12)) (.con (.bool true)) (.idx (.idx (.var 8) (.var 17)) (.var 18)) [17, 18]) .nil)))))
             (.seq
              (.ite (.or (.isN (.var 5)) (.cmp .lt (.var 14) (.var 5)))
               (.seq
                (.par [5, 6] (.cons (.var 14) (.cons (.cel (.lst .nil)) .nil)))
                .skip)
               .skip)
              (.seq
               (.ite (.cmp .eq (.var 14) (.var 5))
                (.seq
                 (.app 6 (.tup (.cons (.var 4) (.cons (.var 12) .nil))))
                 .skip)
                .skip)
               .skip))))
           .skip))))))
     (.seq
      (.ret (.tup (.cons (.var 5) (.cons (.var 6) .nil))))
      .skip))))⟩
structure Ok_best (Ds : List Dfn) (F : Fs) : Prop where
  e : Ds[F.f_best]? = some (ir_best F)
  o_rows_with : Ok_rows_with Ds F
  o_all_pairings : Ok_all_pairings Ds F
  o_counts_of : Ok_counts_of Ds F
  o_moves_in : Ok_moves_in Ds F
  o_misses_of : Ok_misses_of Ds F
def ir_least_cost (F : Fs) : Dfn := ⟨3, 3,
  (.seq
   (.exp (.call F.f_need_two (.cons (.var 0) (.cons (.var 1) .nil))))
   (.seq
    (.exp (.call F.f_need_weights (.cons (.var 2) .nil)))
    (.seq
     (.ret (.idx (.call F.f_best (.cons (.var 0) (.cons (.var 1) (.cons (.var 2) .nil)))) (.con (.int 0))))
     .skip)))⟩
structure Ok_least_cost (Ds : List Dfn) (F : Fs) : Prop where
  e : Ds[F.f_least_cost]? = some (ir_least_cost F)
  o_need_two : Ok_need_two Ds F
  o_need_weights : Ok_need_weights Ds F
  o_best : Ok_best Ds F
def ir_least_alignments (F : Fs) : Dfn := ⟨3, 3,
  (.seq
   (.exp (.call F.f_need_two (.cons (.var 0) (.cons (.var 1) .nil))))
   (.seq
    (.exp (.call F.f_need_weights (.cons (.var 2) .nil)))
    (.seq
     (.ret (.idx (.call F.f_best (.cons (.var 0) (.cons (.var 1) (.cons (.var 2) .nil)))) (.con (.int 1))))
     .skip)))⟩
structure Ok_least_alignments (Ds : List Dfn) (F : Fs) : Prop where
  e : Ds[F.f_least_alignments]? = some (ir_least_alignments F)
  o_need_two : Ok_need_two Ds F
  o_need_weights : Ok_need_weights Ds F
  o_best : Ok_best Ds F
def ir__law_cell (F : Fs) : Dfn := ⟨2, 2,
  (.seq
   (.ite (.cmp .eq (.var 0) (.lst .nil))
    (.seq
     (.ret (.bin .mul (.var 1) (.con (.int 7919))))
     .skip)
    .skip)
   (.seq
    (.ret (.bin .add (.idx (.var 0) (.bin .mod (.var 1) (.len (.var 0)))) (.bin .mul (.bin .fdiv (.var 1) (.len (.var 0))) (.con (.int 104729)))))
    .skip))⟩
structure Ok__law_cell (Ds : List Dfn) (F : Fs) : Prop where
  e : Ds[F.f__law_cell]? = some (ir__law_cell F)
def ir__law_drawn (F : Fs) : Dfn := ⟨2, 3,
  (.seq
   (.asg 2 (.bin .mod (.bin .add (.bin .mul (.var 0) (.con (.int 6364136223846793005))) (.bin .mul (.bin .add (.var 1) (.con (.int 1))) (.con (.int 1442695040888963407)))) (.con (.int 340282366920938463463374607431768211507))))
   (.seq
    (.asg 2 (.bin .mod (.bin .mul (.var 2) (.var 2)) (.con (.int 340282366920938463463374607431768211297))))
    (.seq
     (.asg 2 (.bin .mul (.bin .mul (.bin .add (.bin .mod (.var 2) (.con (.int 18446744073709551557))) (.con (.int 1))) (.bin .add (.bin .fdiv (.var 2) (.con (.int 18446744073709551557))) (.con (.int 1)))) (.var 2)))
     (.seq
      (.ret (.bin .mod (.var 2) (.con (.int 340282366920938463463374607431768211507))))
      .skip))))⟩
structure Ok__law_drawn (Ds : List Dfn) (F : Fs) : Prop where
  e : Ds[F.f__law_drawn]? = some (ir__law_drawn F)
def ir__law_roll (F : Fs) : Dfn := ⟨2, 3,
  (.seq
   (.ite (.cmp .ge (.idx (.var 0) (.con (.int 0))) (.bin .pow (.con (.int 10)) (.con (.int 18))))
    (.seq
     (.asg 2 (.bin .mod (.idx (.var 0) (.con (.int 0))) (.var 1)))
     (.seq
      (.put 0 (.con (.int 0)) (.bin .fdiv (.idx (.var 0) (.con (.int 0))) (.var 1)))
      (.seq
       (.ret (.var 2))
       .skip)))
    .skip)
   (.seq
    (.put 0 (.con (.int 1)) (.bin .add (.idx (.var 0) (.con (.int 1))) (.con (.int 1))))
    (.seq
     (.ret (.bin .mod (.bin .fdiv (.call F.f__law_drawn (.cons (.idx (.var 0) (.con (.int 0))) (.cons (.idx (.var 0) (.con (.int 1))) .nil))) (.con (.int 8))) (.var 1)))
     .skip)))⟩
structure Ok__law_roll (Ds : List Dfn) (F : Fs) : Prop where
  e : Ds[F.f__law_roll]? = some (ir__law_roll F)
  o__law_drawn : Ok__law_drawn Ds F
def ir__law_rounds (F : Fs) : Dfn := ⟨2, 3,
  (.seq
   (.ret (.lc (.nm 2) (.rng (.blt .max2 (.cons (.con (.int 1)) (.cons (.blt .min2 (.cons (.var 1) (.cons (.len (.var 0)) .nil))) .nil)))) (.con (.bool true)) (.lst (.cons (.call F.f__law_cell (.cons (.var 0) (.cons (.var 2) .nil))) (.cons (.con (.int 0)) .nil))) [2]))
   .skip)⟩
structure Ok__law_rounds (Ds : List Dfn) (F : Fs) : Prop where
  e : Ds[F.f__law_rounds]? = some (ir__law_rounds F)
  o__law_cell : Ok__law_cell Ds F
def ir__law_any_value (F : Fs) : Dfn := ⟨1, 2,
  (.seq
   (.asg 1 (.call F.f__law_roll (.cons (.var 0) (.cons (.con (.int 8)) .nil))))
   (.seq
    (.ite (.cmp .lt (.var 1) (.con (.int 6)))
     (.seq
      (.ret (.idx (.lst (.cons (.con (.int 0)) (.cons (.con (.int 1)) (.cons (.con (.str "x")) (.cons (.con (.int 1)) (.cons (.con (.str "x-y")) (.cons (.neg (.con (.int 7))) .nil))))))) (.var 1)))
      .skip)
     .skip)
    (.seq
     (.ret (.ite (.cmp .eq (.var 1) (.con (.int 6))) (.bin .sub (.call F.f__law_roll (.cons (.var 0) (.cons (.con (.int 199)) .nil))) (.con (.int 99))) (.bin .add (.idx (.con (.str "ab")) (.call F.f__law_roll (.cons (.var 0) (.cons (.con (.int 2)) .nil)))) (.bin .mul (.con (.str "-")) (.call F.f__law_roll (.cons (.var 0) (.cons (.con (.int 3)) .nil)))))))
     .skip)))⟩
structure Ok__law_any_value (Ds : List Dfn) (F : Fs) : Prop where
  e : Ds[F.f__law_any_value]? = some (ir__law_any_value F)
  o__law_roll : Ok__law_roll Ds F
def ir__law_any_row (F : Fs) : Dfn := ⟨2, 3,
  (.seq
   (.ret (.blt .tup (.cons (.lc (.nm 2) (.rng (.var 1)) (.con (.bool true)) (.call F.f__law_any_value (.cons (.var 0) .nil)) [2]) .nil)))
   .skip)⟩
structure Ok__law_any_row (Ds : List Dfn) (F : Fs) : Prop where
  e : Ds[F.f__law_any_row]? = some (ir__law_any_row F)
  o__law_any_value : Ok__law_any_value Ds F
def ir__law_any_names (F : Fs) : Dfn := ⟨2, 7,
  (.seq
   (.par [3, 4] (.cons (.lst (.cons (.con (.str "a")) (.cons (.con (.str "b")) (.cons (.con (.str "c")) (.cons (.con (.str "bb")) (.cons (.con (.str "abcd")) .nil)))))) (.cons (.cel (.lst .nil)) .nil)))
   (.seq
    (.for_ (.nm 2) (.rng (.var 1))
     (.seq
      (.asg 5 (.idx (.var 3) (.call F.f__law_roll (.cons (.var 0) (.cons (.len (.var 3)) .nil)))))
      (.seq
       (.app 4 (.var 5))
       (.seq
        (.asg 3 (.lc (.nm 6) (.itr (.var 3)) (.cmp .ne (.var 6) (.var 5)) (.var 6) [6]))
        .skip))))
    (.seq
     (.ret (.blt .tup (.cons (.var 4) .nil)))
     .skip)))⟩
structure Ok__law_any_names (Ds : List Dfn) (F : Fs) : Prop where
  e : Ds[F.f__law_any_names]? = some (ir__law_any_names F)
  o__law_roll : Ok__law_roll Ds F
def ir__law_any_table (F : Fs) : Dfn := ⟨3, 5,
  (.seq
   (.asg 3 (.bin .add (.con (.int 1)) (.call F.f__law_roll (.cons (.var 0) (.cons (.var 1) .nil)))))
   (.seq
    (.ret (.tup (.cons (.call F.f__law_any_names (.cons (.var 0) (.cons (.var 3) .nil))) (.cons (.blt .tup (.cons (.lc (.nm 4) (.rng (.call F.f__law_roll (.cons (.var 0) (.cons (.bin .add (.var 2) (.con (.int 1))) .nil)))) (.con (.bool true)) (.call F.f__law_any_row (.cons (.var 0) (.cons (.var 3) .nil))) [4]) .nil)) .nil))))
    .skip))⟩
structure Ok__law_any_table (Ds : List Dfn) (F : Fs) : Prop where
  e : Ds[F.f__law_any_table]? = some (ir__law_any_table F)
  o__law_roll : Ok__law_roll Ds F
  o__law_any_names : Ok__law_any_names Ds F
  o__law_any_row : Ok__law_any_row Ds F
def ir__law_shuffled (F : Fs) : Dfn := ⟨2, 6,
  (.seq
   (.par [2, 3] (.cons (.lsr (.var 1)) (.cons (.cel (.lst .nil)) .nil)))
   (.seq
    (.whl (.cmp .ne (.var 2) (.lst .nil))
     (.seq
      (.asg 4 (.idx (.var 2) (.call F.f__law_roll (.cons (.var 0) (.cons (.len (.var 2)) .nil)))))
      (.seq
       (.app 3 (.var 4))
       (.seq
        (.asg 2 (.lc (.nm 5) (.itr (.var 2)) (.cmp .ne (.var 5) (.var 4)) (.var 5) [5]))
        .skip))))
    (.seq
     (.ret (.var 3))
     .skip)))⟩
structure Ok__law_shuffled (Ds : List Dfn) (F : Fs) : Prop where
  e : Ds[F.f__law_shuffled]? = some (ir__law_shuffled F)
  o__law_roll : Ok__law_roll Ds F
def ir__law_near (F : Fs) : Dfn := ⟨2, 8,
  (.seq
   (.par [4, 5] (.cons (.call F.f__law_shuffled (.cons (.var 0) (.cons (.len (.idx (.var 1) (.con (.int 0)))) .nil))) (.cons (.call F.f__law_shuffled (.cons (.var 0) (.cons (.len (.idx (.var 1) (.con (.int 1)))) .nil))) .nil)))
   (.seq
    (.ite (.and (.cmp .gt (.len (.var 4)) (.con (.int 1))) (.cmp .eq (.call F.f__law_roll (.cons (.var 0) (.cons (.con (.int 3)) .nil))) (.con (.int 0))))
     (.seq
      (.asg 4 (.slc (.var 4) (.con (.int 1)) .nil))
      .skip)
     .skip)
    (.seq
     (.ite (.and (.cmp .ne (.var 5) (.lst .nil)) (.cmp .eq (.call F.f__law_roll (.cons (.var 0) (.cons (.con (.int 3)) .nil))) (.con (.int 0))))
      (.seq
       (.asg 5 (.slc (.var 5) (.con (.int 1)) .nil))
       .skip)
      .skip)
     (.seq
      (.asg 2 (.cel (.lc (.nm 6) (.itr (.var 4)) (.con (.bool true)) (.idx (.idx (.var 1) (.con (.int 0))) (.var 6)) [6])))
      (.seq
       (.ite (.and (.cmp .nin (.con (.str "z")) (.var 2)) (.cmp .eq (.call F.f__law_roll (.cons (.var 0) (.cons (.con (.int 3)) .nil))) (.con (.int 0))))
        (.seq
         (.put 2 (.con (.int 0)) (.con (.str "z")))
         .skip)
        .skip)
       (.seq
        (.asg 3 (.cel (.lc (.nm 7) (.itr (.var 5)) (.con (.bool true)) (.lc (.nm 6) (.itr (.var 4)) (.con (.bool true)) (.idx (.idx (.idx (.var 1) (.con (.int 1))) (.var 7)) (.var 6)) [6]) [7])))
        (.seq
         (.ite (.and (.cmp .ne (.var 3) (.lst .nil)) (.cmp .eq (.call F.f__law_roll (.cons (.var 0) (.cons (.con (.int 2)) .nil))) (.con (.int 0))))
          (.seq
           (.put 3 (.con (.int 0)) (.bin .add (.lst (.cons (.call F.f__law_any_value (.cons (.var 0) .nil)) .nil)) (.slc (.idx (.var 3) (.con (.int 0))) (.con (.int 1)) .nil)))
           .skip)
          .skip)
         (.seq
          (.ret (.tup (.cons (.blt .tup (.cons (.var 2) .nil)) (.cons (.blt .tup (.cons (.lc (.nm 7) (.itr (.var 3)) (.con (.bool true)) (.blt .tup (.cons (.var 7) .nil)) [7]) .nil)) .nil))))
          .skip))))))))⟩
structure Ok__law_near (Ds : List Dfn) (F : Fs) : Prop where
  e : Ds[F.f__law_near]? = some (ir__law_near F)
  o__law_shuffled : Ok__law_shuffled Ds F
  o__law_roll : Ok__law_roll Ds F
  o__law_any_value : Ok__law_any_value Ds F
def ir__law_any_weights (F : Fs) : Dfn := ⟨1, 2,
  (.seq
   (.ret (.blt .tup (.cons (.lc (.nm 1) (.rng (.con (.int 5))) (.con (.bool true)) (.idx (.lst (.cons (.con (.int 1)) (.cons (.con (.int 2)) (.cons (.con (.int 3)) (.cons (.con (.int 1)) (.cons (.con (.int 5)) (.cons (.con (.int 9)) .nil))))))) (.call F.f__law_roll (.cons (.var 0) (.cons (.con (.int 6)) .nil)))) [1]) .nil)))
   .skip)⟩
structure Ok__law_any_weights (Ds : List Dfn) (F : Fs) : Prop where
  e : Ds[F.f__law_any_weights]? = some (ir__law_any_weights F)
  o__law_roll : Ok__law_roll Ds F
def ir__law_any_two (F : Fs) : Dfn := ⟨3, 4,
  (.seq
   (.asg 3 (.call F.f__law_any_table (.cons (.var 0) (.cons (.var 1) (.cons (.var 2) .nil)))))
   (.seq
    (.ret (.tup (.cons (.var 3) (.cons (.ite (.cmp .gt (.call F.f__law_roll (.cons (.var 0) (.cons (.con (.int 3)) .nil))) (.con (.int 0))) (.call F.f__law_near (.cons (.var 0) (.cons (.var 3) .nil))) (.call F.f__law_any_table (.cons (.var 0) (.cons (.var 1) (.cons (.var 2) .nil))))) .nil))))
    .skip))⟩
structure Ok__law_any_two (Ds : List Dfn) (F : Fs) : Prop where
  e : Ds[F.f__law_any_two]? = some (ir__law_any_two F)
  o__law_any_table : Ok__law_any_table Ds F
  o__law_roll : Ok__law_roll Ds F
  o__law_near : Ok__law_near Ds F
def ir__law_run (F : Fs) : Dfn := ⟨1, 5,
  (.seq
   (.asg 1 (.cel (.lst .nil)))
   (.seq
    (.for_ (.tp [2, 3]) (.enu (.var 0))
     (.seq
      (.app 1 (.bin .add (.con (.int 1)) (.blt .max (.cons (.bin .add (.lc (.nm 4) (.rng (.var 2)) (.cmp .lt (.idx (.var 0) (.var 4)) (.var 3)) (.idx (.var 1) (.var 4)) [4]) (.lst (.cons (.con (.int 0)) .nil))) .nil))))
      .skip))
    (.seq
     (.ret (.blt .max (.cons (.bin .add (.var 1) (.lst (.cons (.con (.int 0)) .nil))) .nil)))
     .skip)))⟩
structure Ok__law_run (Ds : List Dfn) (F : Fs) : Prop where
  e : Ds[F.f__law_run]? = some (ir__law_run F)
def ir__law_moves (F : Fs) : Dfn := ⟨1, 2,
  (.seq
   (.ret (.bin .sub (.len (.var 0)) (.call F.f__law_run (.cons (.lc (.nm 1) (.itr (.var 0)) (.con (.bool true)) (.idx (.var 1) (.con (.int 1))) [1]) .nil))))
   .skip)⟩
structure Ok__law_moves (Ds : List Dfn) (F : Fs) : Prop where
  e : Ds[F.f__law_moves]? = some (ir__law_moves F)
  o__law_run : Ok__law_run Ds F
def ir__law_counts (F : Fs) : Dfn := ⟨3, 15,
  (.seq
   (.unp [7, 8] (.var 2))
   (.seq
    (.asg 3 (.con (.int 0)))
    (.seq
     (.for_ (.tp [9, 10]) (.itr (.var 8))
      (.seq
       (.for_ (.tp [11, 12]) (.itr (.var 7))
        (.seq
         (.asg 3 (.bin .add (.var 3) (.blt .int (.cons (.cmp .ne (.idx (.idx (.idx (.var 0) (.con (.int 1))) (.var 9)) (.var 11)) (.idx (.idx (.idx (.var 1) (.con (.int 1))) (.var 10)) (.var 12))) .nil))))
         .skip))
       .skip))
     (.seq
      (.asg 4 (.blt .sum (.cons (.lc (.tp [13, 14]) (.itr (.var 7)) (.con (.bool true)) (.blt .int (.cons (.cmp .ne (.idx (.idx (.var 0) (.con (.int 0))) (.var 13)) (.idx (.idx (.var 1) (.con (.int 0))) (.var 14))) .nil)) [13, 14]) .nil)))
      (.seq
       (.asg 5 (.bin .sub (.bin .add (.len (.idx (.var 0) (.con (.int 0)))) (.len (.idx (.var 1) (.con (.int 0))))) (.bin .mul (.con (.int 2)) (.len (.var 7)))))
       (.seq
        (.asg 6 (.bin .sub (.bin .add (.len (.idx (.var 0) (.con (.int 1)))) (.len (.idx (.var 1) (.con (.int 1))))) (.bin .mul (.con (.int 2)) (.len (.var 8)))))
        (.seq
         (.ret (.tup (.cons (.var 3) (.cons (.var 4) (.cons (.var 5) (.cons (.var 6) (.cons (.bin .add (.call F.f__law_moves (.cons (.var 7) .nil)) (.call F.f__law_moves (.cons (.var 8) .nil))) .nil)))))))
         .skip)))))))⟩
structure Ok__law_counts (Ds : List Dfn) (F : Fs) : Prop where
  e : Ds[F.f__law_counts]? = some (ir__law_counts F)
  o__law_moves : Ok__law_moves Ds F
def ir__law_pairings (F : Fs) : Dfn := ⟨2, 9,
  (.seq
   (.asg 2 (.lst (.cons (.tup .nil) .nil)))
   (.seq
    (.for_ (.nm 3) (.rng (.var 0))
     (.seq
      (.asg 4 (.lst .nil))
      (.seq
       (.for_ (.nm 5) (.itr (.var 2))
        (.seq
         (.asg 6 (.lc (.nm 7) (.itr (.var 5)) (.con (.bool true)) (.idx (.var 7) (.con (.int 1))) [7]))
         (.seq
          (.asg 4 (.bin .add (.bin .add (.var 4) (.lst (.cons (.var 5) .nil))) (.lc (.nm 8) (.rng (.var 1)) (.cmp .nin (.var 8) (.var 6)) (.bin .add (.var 5) (.tup (.cons (.tup (.cons (.var 3) (.cons (.var 8) .nil))) .nil))) [8])))
          .skip)))
       (.seq
        (.asg 2 (.var 4))
        .skip))))
    (.seq
     (.ret (.blt .sorted (.cons (.var 2) .nil)))
     .skip)))⟩
structure Ok__law_pairings (Ds : List Dfn) (F : Fs) : Prop where
  e : Ds[F.f__law_pairings]? = some (ir__law_pairings F)
def ir__law_alignments (F : Fs) : Dfn := ⟨2, 5,
  (.seq
   (.asg 2 (.lst .nil))
   (.seq
    (.for_ (.nm 3) (.itr (.call F.f__law_pairings (.cons (.len (.idx (.var 0) (.con (.int 0)))) (.cons (.len (.idx (.var 1) (.con (.int 0)))) .nil))))
     (.seq
      (.asg 2 (.bin .add (.var 2) (.lc (.nm 4) (.itr (.call F.f__law_pairings (.cons (.len (.idx (.var 0) (.con (.int 1)))) (.cons (.len (.idx (.var 1) (.con (.int 1)))) .nil)))) (.con (.bool true)) (.tup (.cons (.var 3) (.cons (.var 4) .nil))) [4])))
      .skip))
    (.seq
     (.ret (.var 2))
     .skip)))⟩
structure Ok__law_alignments (Ds : List Dfn) (F : Fs) : Prop where
  e : Ds[F.f__law_alignments]? = some (ir__law_alignments F)
  o__law_pairings : Ok__law_pairings Ds F
def ir__law_cost (F : Fs) : Dfn := ⟨2, 4,
  (.seq
   (.ret (.blt .sum (.cons (.lc (.tp [2, 3]) (.enu (.var 0)) (.con (.bool true)) (.bin .mul (.var 3) (.idx (.var 1) (.var 2))) [2, 3]) .nil)))
   .skip)⟩
structure Ok__law_cost (Ds : List Dfn) (F : Fs) : Prop where
  e : Ds[F.f__law_cost]? = some (ir__law_cost F)
def ir_law_k04 (F : Fs) : Dfn := ⟨1, 9,
  (.seq
   (.forR 1 F.f__law_rounds (.cons (.var 0) (.cons (.con (.int 3)) .nil))
    (.seq
     (.unp [4, 5] (.call F.f__law_any_two (.cons (.var 1) (.cons (.con (.int 3)) (.cons (.con (.int 3)) .nil)))))
     (.seq
      (.asg 2 (.call F.f__law_any_weights (.cons (.var 1) .nil)))
      (.seq
       (.par [6, 7] (.cons (.con .none) (.cons (.cel (.lst .nil)) .nil)))
       (.seq
        (.for_ (.nm 3) (.itr (.call F.f__law_alignments (.cons (.var 4) (.cons (.var 5) .nil))))
         (.seq
          (.asg 8 (.call F.f__law_cost (.cons (.call F.f__law_counts (.cons (.var 4) (.cons (.var 5) (.cons (.var 3) .nil)))) (.cons (.var 2) .nil))))
          (.seq
           (.ite (.or (.isN (.var 6)) (.cmp .lt (.var 8) (.var 6)))
            (.seq
             (.par [6, 7] (.cons (.var 8) (.cons (.cel (.lst .nil)) .nil)))
             .skip)
            .skip)
           (.seq
            (.ite (.cmp .eq (.var 8) (.var 6))
             (.seq
              (.app 7 (.var 3))
              .skip)
             .skip)
            .skip))))
        (.seq
         (.ite (.or (.cmp .ne (.call F.f_least_cost (.cons (.var 4) (.cons (.var 5) (.cons (.var 2) .nil)))) (.var 6)) (.cmp .ne (.call F.f_least_alignments (.cons (.var 4) (.cons (.var 5) (.cons (.var 2) .nil)))) (.var 7)))
          (.seq
           (.ret (.con (.bool false)))
           .skip)
          .skip)
         (.seq
          (.ite (.cmp .ne (.call F.f_cost (.cons (.var 4) (.cons (.var 5) (.cons (.idx (.var 7) (.neg (.con (.int 1)))) (.cons (.var 2) .nil))))) (.var 6))
           (.seq
            (.ret (.con (.bool false)))
            .skip)
           .skip)
          .skip)))))))
   (.seq
    (.ret (.con (.bool true)))
    .skip))⟩
structure Ok_law_k04 (Ds : List Dfn) (F : Fs) : Prop where
  e : Ds[F.f_law]? = some (ir_law_k04 F)
  o__law_rounds : Ok__law_rounds Ds F
  o__law_any_two : Ok__law_any_two Ds F
  o__law_any_weights : Ok__law_any_weights Ds F
  o__law_alignments : Ok__law_alignments Ds F
  o__law_cost : Ok__law_cost Ds F
  o__law_counts : Ok__law_counts Ds F
  o_least_cost : Ok_least_cost Ds F
  o_least_alignments : Ok_least_alignments Ds F
  o_cost : Ok_cost Ds F
def ir_backward (F : Fs) : Dfn := ⟨1, 1,
  (.seq
   (.ret (.blt .tup (.cons (.lrv (.var 0)) .nil)))
   .skip)⟩
structure Ok_backward (Ds : List Dfn) (F : Fs) : Prop where
  e : Ds[F.f_backward]? = some (ir_backward F)
def ir_turned (F : Fs) : Dfn := ⟨1, 2,
  (.seq
   (.exp (.call F.f_need_table (.cons (.var 0) .nil)))
   (.seq
    (.ret (.tup (.cons (.call F.f_backward (.cons (.idx (.var 0) (.con (.int 0))) .nil)) (.cons (.blt .tup (.cons (.lc (.nm 1) (.rvs (.idx (.var 0) (.con (.int 1)))) (.con (.bool true)) (.call F.f_backward (.cons (.var 1) .nil)) [1]) .nil)) .nil))))
    .skip))⟩
structure Ok_turned (Ds : List Dfn) (F : Fs) : Prop where
  e : Ds[F.f_turned]? = some (ir_turned F)
  o_need_table : Ok_need_table Ds F
  o_backward : Ok_backward Ds F
def ir__law_renamed (F : Fs) : Dfn := ⟨1, 2,
  (.seq
   (.ret (.tup (.cons (.blt .tup (.cons (.lc (.nm 1) (.itr (.idx (.var 0) (.con (.int 0)))) (.con (.bool true)) (.bin .add (.idx (.var 1) (.con (.int 0))) (.slc (.var 1) .nil (.con (.int 3)))) [1]) .nil)) (.cons (.idx (.var 0) (.con (.int 1))) .nil))))
   .skip)⟩
structure Ok__law_renamed (Ds : List Dfn) (F : Fs) : Prop where
  e : Ds[F.f__law_renamed]? = some (ir__law_renamed F)
def ir_law_k05 (F : Fs) : Dfn := ⟨1, 10,
  (.seq
   (.forR 1 F.f__law_rounds (.cons (.var 0) (.cons (.con (.int 3)) .nil))
    (.seq
     (.unp [7, 8] (.call F.f__law_any_two (.cons (.var 1) (.cons (.con (.int 3)) (.cons (.con (.int 3)) .nil)))))
     (.seq
      (.asg 2 (.ite (.cmp .eq (.call F.f__law_roll (.cons (.var 1) (.cons (.con (.int 2)) .nil))) (.con (.int 0))) (.call F.f__law_near (.cons (.var 1) (.cons (.var 8) .nil))) (.call F.f__law_any_table (.cons (.var 1) (.cons (.con (.int 3)) (.cons (.con (.int 3)) .nil))))))
      (.seq
       (.asg 3 (.call F.f__law_any_weights (.cons (.var 1) .nil)))
       (.seq
        (.asg 4 (.call F.f_least_cost (.cons (.var 7) (.cons (.var 8) (.cons (.var 3) .nil)))))
        (.seq
         (.ite (.or (.cmp .ne (.var 4) (.call F.f_least_cost (.cons (.var 8) (.cons (.var 7) (.cons (.var 3) .nil))))) (.cmp .ne (.cmp .eq (.var 4) (.con (.int 0))) (.cmp .eq (.var 7) (.var 8))))
          (.seq
           (.ret (.con (.bool false)))
           .skip)
          .skip)
         (.seq
          (.ite (.cmp .ne (.call F.f_least_cost (.cons (.var 7) (.cons (.var 7) (.cons (.var 3) .nil)))) (.con (.int 0)))
           (.seq
            (.ret (.con (.bool false)))
            .skip)
           .skip)
          (.seq
           (.ite (.cmp .gt (.call F.f_least_cost (.cons (.var 7) (.cons (.var 2) (.cons (.var 3) .nil)))) (.bin .add (.var 4) (.call F.f_least_cost (.cons (.var 8) (.cons (.var 2) (.cons (.var 3) .nil))))))
            (.seq
             (.ret (.con (.bool false)))
             .skip)
            .skip)
           (.seq
            (.ite (.cmp .ne (.call F.f_least_cost (.cons (.call F.f_turned (.cons (.var 7) .nil)) (.cons (.call F.f_turned (.cons (.var 8) .nil)) (.cons (.var 3) .nil)))) (.var 4))
             (.seq
              (.ret (.con (.bool false)))
              .skip)
             .skip)
            (.seq
             (.asg 5 (.lst (.cons (.call F.f__law_renamed (.cons (.var 7) .nil)) (.cons (.call F.f__law_renamed (.cons (.var 8) .nil)) .nil))))
             (.seq
              (.ite (.and (.call F.f_is_table (.cons (.idx (.var 5) (.con (.int 0))) .nil)) (.call F.f_is_table (.cons (.idx (.var 5) (.con (.int 1))) .nil)))
               (.seq
                (.ite (.cmp .eq (.blt .lens (.cons (.bin .add (.idx (.var 7) (.con (.int 0))) (.idx (.var 8) (.con (.int 0)))) .nil)) (.blt .lens (.cons (.bin .add (.idx (.idx (.var 5) (.con (.int 0))) (.con (.int 0))) (.idx (.idx (.var 5) (.con (.int 1))) (.con (.int 0)))) .nil)))
                 (.seq
                  (.ite (.cmp .ne (.call F.f_least_cost (.cons (.idx (.var 5) (.con (.int 0))) (.cons (.idx (.var 5) (.con (.int 1))) (.cons (.var 3) .nil)))) (.var 4))
                   (.seq
                    (.ret (.con (.bool false)))
                    .skip)
                   .skip)
                  .skip)
                 .skip)
                .skip)
               .skip)
              (.seq
               (.asg 6 (.blt .tup (.cons (.lc (.nm 9) (.itr (.var 3)) (.con (.bool true)) (.blt .min2 (.cons (.con (.int 9)) (.cons (.bin .add (.var 9) (.call F.f__law_roll (.cons (.var 1) (.cons (.con (.int 2)) .nil)))) .nil))) [9]) .nil)))
               (.seq
                (.ite (.cmp .lt (.call F.f_least_cost (.cons (.var 7) (.cons (.var 8) (.cons (.var 6) .nil)))) (.var 4))
                 (.seq
                  (.ret (.con (.bool false)))
                  .skip)
                 .skip)
                .skip)))))))))))))
   (.seq
    (.ret (.con (.bool true)))
    .skip))⟩
structure Ok_law_k05 (Ds : List Dfn) (F : Fs) : Prop where
  e : Ds[F.f_law]? = some (ir_law_k05 F)
  o__law_rounds : Ok__law_rounds Ds F
  o__law_any_two : Ok__law_any_two Ds F
  o__law_roll : Ok__law_roll Ds F
  o__law_near : Ok__law_near Ds F
  o__law_any_table : Ok__law_any_table Ds F
  o__law_any_weights : Ok__law_any_weights Ds F
  o_least_cost : Ok_least_cost Ds F
  o_turned : Ok_turned Ds F
  o__law_renamed : Ok__law_renamed Ds F
  o_is_table : Ok_is_table Ds F
def ir_is_alignment (F : Fs) : Dfn := ⟨3, 3,
  (.seq
   (.exp (.call F.f_need_two (.cons (.var 0) (.cons (.var 1) .nil))))
   (.seq
    (.ret (.call F.f_fits (.cons (.var 0) (.cons (.var 1) (.cons (.var 2) .nil)))))
    .skip))⟩
structure Ok_is_alignment (Ds : List Dfn) (F : Fs) : Prop where
  e : Ds[F.f_is_alignment]? = some (ir_is_alignment F)
  o_need_two : Ok_need_two Ds F
  o_fits : Ok_fits Ds F
def ir_pairs_in (F : Fs) : Dfn := ⟨1, 4,
  (.seq
   (.asg 1 .dnw)
   (.seq
    (.for_ (.nm 2) (.itr (.var 0))
     (.seq
      (.for_ (.nm 3) (.itr (.var 2))
       (.seq
        (.put 1 (.var 3) (.con (.bool true)))
        .skip))
      .skip))
    (.seq
     (.ret (.blt .sorted (.cons (.blt .lst (.cons (.var 1) .nil)) .nil)))
     .skip)))⟩
structure Ok_pairs_in (Ds : List Dfn) (F : Fs) : Prop where
  e : Ds[F.f_pairs_in]? = some (ir_pairs_in F)
def ir_possible (F : Fs) : Dfn := ⟨3, 6,
  (.seq
   (.asg 3 (.call F.f_least_alignments (.cons (.var 0) (.cons (.var 1) (.cons (.var 2) .nil)))))
   (.seq
    (.ret (.blt .tup (.cons (.lc (.nm 4) (.itr (.tup (.cons (.con (.int 0)) (.cons (.con (.int 1)) .nil)))) (.con (.bool true)) (.blt .tup (.cons (.call F.f_pairs_in (.cons (.lc (.nm 5) (.itr (.var 3)) (.con (.bool true)) (.idx (.var 5) (.var 4)) [5]) .nil)) .nil)) [4]) .nil)))
    .skip))⟩
structure Ok_possible (Ds : List Dfn) (F : Fs) : Prop where
  e : Ds[F.f_possible]? = some (ir_possible F)
  o_least_alignments : Ok_least_alignments Ds F
  o_pairs_in : Ok_pairs_in Ds F
def ir_certain (F : Fs) : Dfn := ⟨3, 9,
  (.seq
   (.asg 3 (.call F.f_least_alignments (.cons (.var 0) (.cons (.var 1) (.cons (.var 2) .nil)))))
   (.seq
    (.asg 4 (.cel (.lst .nil)))
    (.seq
     (.for_ (.nm 5) (.itr (.tup (.cons (.con (.int 0)) (.cons (.con (.int 1)) .nil))))
      (.seq
       (.asg 6 (.call F.f_pairs_in (.cons (.lc (.nm 7) (.itr (.var 3)) (.con (.bool true)) (.idx (.var 7) (.var 5)) [7]) .nil)))
       (.seq
        (.app 4 (.blt .tup (.cons (.lc (.nm 8) (.itr (.var 6)) (.blt .all (.cons (.lc (.nm 7) (.itr (.var 3)) (.con (.bool true)) (.cmp .inn (.var 8) (.idx (.var 7) (.var 5))) [7]) .nil)) (.var 8) [8]) .nil)))
        .skip)))
     (.seq
      (.ret (.blt .tup (.cons (.var 4) .nil)))
      .skip))))⟩
structure Ok_certain (Ds : List Dfn) (F : Fs) : Prop where
  e : Ds[F.f_certain]? = some (ir_certain F)
  o_least_alignments : Ok_least_alignments Ds F
  o_pairs_in : Ok_pairs_in Ds F
def ir_law_k06 (F : Fs) : Dfn := ⟨1, 16,
  (.seq
   (.forR 1 F.f__law_rounds (.cons (.var 0) (.cons (.con (.int 3)) .nil))
    (.seq
     (.unp [7, 8] (.call F.f__law_any_two (.cons (.var 1) (.cons (.con (.int 3)) (.cons (.con (.int 2)) .nil)))))
     (.seq
      (.ite (.and (.cmp .ne (.idx (.var 7) (.con (.int 1))) (.tup .nil)) (.cmp .eq (.call F.f__law_roll (.cons (.var 1) (.cons (.con (.int 2)) .nil))) (.con (.int 0))))
       (.seq
        (.asg 7 (.tup (.cons (.idx (.var 7) (.con (.int 0))) (.cons (.bin .add (.idx (.var 7) (.con (.int 1))) (.slc (.idx (.var 7) (.con (.int 1))) .nil (.con (.int 1)))) .nil))))
        .skip)
       .skip)
      (.seq
       (.asg 2 (.call F.f__law_any_weights (.cons (.var 1) .nil)))
       (.seq
        (.asg 3 (.lc (.nm 12) (.itr (.call F.f__law_alignments (.cons (.var 7) (.cons (.var 8) .nil)))) (.con (.bool true)) (.tup (.cons (.call F.f__law_cost (.cons (.call F.f__law_counts (.cons (.var 7) (.cons (.var 8) (.cons (.var 12) .nil)))) (.cons (.var 2) .nil))) (.cons (.var 12) .nil))) [12]))
        (.seq
         (.asg 4 (.blt .min (.cons (.lc (.nm 13) (.itr (.var 3)) (.con (.bool true)) (.idx (.var 13) (.con (.int 0))) [13]) .nil)))
         (.seq
          (.asg 5 (.lc (.tp [14, 12]) (.itr (.var 3)) (.cmp .eq (.var 14) (.var 4)) (.var 12) [14, 12]))
          (.seq
           (.par [9, 10] (.cons (.cel (.lst .nil)) (.cons (.cel (.lst .nil)) .nil)))
           (.seq
            (.for_ (.nm 6) (.itr (.tup (.cons (.con (.int 0)) (.cons (.con (.int 1)) .nil))))
             (.seq
              (.asg 11 (.lst .nil))
              (.seq
               (.for_ (.nm 12) (.itr (.var 5))
                (.seq
                 (.asg 11 (.bin .add (.var 11) (.lc (.nm 15) (.itr (.idx (.var 12) (.var 6))) (.cmp .nin (.var 15) (.var 11)) (.var 15) [15])))
                 .skip))
               (.seq
                (.app 10 (.blt .tup (.cons (.blt .sorted (.cons (.var 11) .nil)) .nil)))
                (.seq
                 (.app 9 (.blt .tup (.cons (.blt .sorted (.cons (.lc (.nm 15) (.itr (.var 11)) (.blt .all (.cons (.lc (.nm 12) (.itr (.var 5)) (.con (.bool true)) (.cmp .inn (.var 15) (.idx (.var 12) (.var 6))) [12]) .nil)) (.var 15) [15]) .nil)) .nil)))
                 .skip)))))
            (.seq
             (.ite (.cmp .ne (.call F.f_certain (.cons (.var 7) (.cons (.var 8) (.cons (.var 2) .nil)))) (.blt .tup (.cons (.var 9) .nil)))
              (.seq
               (.ret (.con (.bool false)))
               .skip)
              .skip)
             (.seq
              (.ite (.cmp .ne (.call F.f_possible (.cons (.var 7) (.cons (.var 8) (.cons (.var 2) .nil)))) (.blt .tup (.cons (.var 10) .nil)))
               (.seq
                (.ret (.con (.bool false)))
                .skip)
               .skip)
              (.seq
               (.ite (.not (.call F.f_is_alignment (.cons (.var 7) (.cons (.var 8) (.cons (.call F.f_certain (.cons (.var 7) (.cons (.var 8) (.cons (.var 2) .nil)))) .nil)))))
                (.seq
                 (.ret (.con (.bool false)))
                 .skip)
                .skip)
               .skip))))))))))))
   (.seq
    (.ret (.con (.bool true)))
    .skip))⟩
structure Ok_law_k06 (Ds : List Dfn) (F : Fs) : Prop where
  e : Ds[F.f_law]? = some (ir_law_k06 F)
  o__law_rounds : Ok__law_rounds Ds F
  o__law_any_two : Ok__law_any_two Ds F
  o__law_roll : Ok__law_roll Ds F
  o__law_any_weights : Ok__law_any_weights Ds F
  o__law_alignments : Ok__law_alignments Ds F
  o__law_cost : Ok__law_cost Ds F
  o__law_counts : Ok__law_counts Ds F
  o_certain : Ok_certain Ds F
  o_possible : Ok_possible Ds F
  o_is_alignment : Ok_is_alignment Ds F
def ir_all_counts (F : Fs) : Dfn := ⟨2, 15,
  (.seq
   (.asg 2 .dnw)
   (.seq
    (.asg 3 (.call F.f_rows_with (.cons (.var 0) (.cons (.var 1) .nil))))
    (.seq
     (.for_ (.nm 4) (.itr (.call F.f_all_pairings (.cons (.len (.idx (.var 0) (.con (.int 0)))) (.cons (.len (.idx (.var 1) (.con (.int 0)))) .nil))))
      (.seq
       (.unp [5, 6] (.slc (.call F.f_counts_of (.cons (.var 0) (.cons (.var 1) (.cons (.tup (.cons (.var 4) (.cons (.tup .nil) .nil))) .nil)))) (.con (.int 1)) (.con (.int 3))))
       (.seq
        (.par [7, 8] (.cons (.call F.f_misses_of (.cons (.var 0) (.cons (.var 1) (.cons (.var 4) .nil)))) (.cons (.call F.f_moves_in (.cons (.var 4) .nil)) .nil)))
        (.seq
         (.for_ (.tp [9, 10, 11]) (.itr (.var 3))
          (.seq
           (.asg 12 (.blt .sum (.cons (.lc (.tp [13, 14]) (.itr (.var 9)) (.con (.bool true)) (.idx (.idx (.var 7) (.var 13)) (.var 14)) [13, 14]) .nil)))
           (.seq
            (.put 2 (.tup (.cons (.var 12) (.cons (.var 5) (.cons (.var 6) (.cons (.var 10) (.cons (.bin .add (.var 8) (.var 11)) .nil)))))) (.con (.bool true)))
            .skip)))
         .skip))))
     (.seq
      (.ret (.var 2))
      .skip))))⟩
structure Ok_all_counts (Ds : List Dfn) (F : Fs) : Prop where
  e : Ds[F.f_all_counts]? = some (ir_all_counts F)
  o_rows_with : Ok_rows_with Ds F
  o_all_pairings : Ok_all_pairings Ds F
  o_counts_of : Ok_counts_of Ds F
  o_misses_of : Ok_misses_of Ds F
  o_moves_in : Ok_moves_in Ds F
def ir_beats (F : Fs) : Dfn := ⟨2, 4,
  (.seq
   (.ret (.and (.cmp .ne (.var 0) (.var 1)) (.blt .all (.cons (.lc (.tp [2, 3]) (.enu (.var 0)) (.con (.bool true)) (.cmp .le (.var 3) (.idx (.var 1) (.var 2))) [2, 3]) .nil))))
   .skip)⟩
structure Ok_beats (Ds : List Dfn) (F : Fs) : Prop where
  e : Ds[F.f_beats]? = some (ir_beats F)
def ir_front_of (F : Fs) : Dfn := ⟨2, 5,
  (.seq
   (.asg 2 (.cel (.lst .nil)))
   (.seq
    (.for_ (.nm 3) (.itr (.blt .sorted (.cons (.blt .lst (.cons (.call F.f_all_counts (.cons (.var 0) (.cons (.var 1) .nil))) .nil)) .nil)))
     (.seq
      (.ite (.not (.blt .any (.cons (.lw (.nm 4) 2 (.con (.bool true)) (.call F.f_beats (.cons (.var 4) (.cons (.var 3) .nil))) [4]) .nil)))
       (.seq
        (.app 2 (.var 3))
        .skip)
       .skip)
      .skip))
    (.seq
     (.ret (.var 2))
     .skip)))⟩
structure Ok_front_of (Ds : List Dfn) (F : Fs) : Prop where
  e : Ds[F.f_front_of]? = some (ir_front_of F)
  o_all_counts : Ok_all_counts Ds F
  o_beats : Ok_beats Ds F
def ir_front (F : Fs) : Dfn := ⟨2, 2,
  (.seq
   (.exp (.call F.f_need_two (.cons (.var 0) (.cons (.var 1) .nil))))
   (.seq
    (.ret (.call F.f_front_of (.cons (.var 0) (.cons (.var 1) .nil))))
    .skip))⟩
structure Ok_front (Ds : List Dfn) (F : Fs) : Prop where
  e : Ds[F.f_front]? = some (ir_front F)
  o_need_two : Ok_need_two Ds F
  o_front_of : Ok_front_of Ds F
def ir_law_k11 (F : Fs) : Dfn := ⟨1, 11,
  (.seq
   (.forR 1 F.f__law_rounds (.cons (.var 0) (.cons (.con (.int 3)) .nil))
    (.seq
     (.unp [6, 7] (.call F.f__law_any_two (.cons (.var 1) (.cons (.con (.int 3)) (.cons (.con (.int 2)) .nil)))))
     (.seq
      (.asg 2 .dnw)
      (.seq
       (.for_ (.nm 3) (.itr (.call F.f__law_alignments (.cons (.var 6) (.cons (.var 7) .nil))))
        (.seq
         (.put 2 (.call F.f__law_counts (.cons (.var 6) (.cons (.var 7) (.cons (.var 3) .nil)))) (.con (.bool true)))
         .skip))
       (.seq
        (.asg 4 (.cel (.lst .nil)))
        (.seq
         (.for_ (.nm 3) (.itr (.blt .sorted (.cons (.blt .lst (.cons (.var 2) .nil)) .nil)))
          (.seq
           (.asg 8 (.con (.bool false)))
           (.seq
            (.forD (.nm 9) 2
             (.seq
              (.ite (.and (.cmp .ne (.var 9) (.var 3)) (.blt .all (.cons (.lc (.nm 10) (.rng (.con (.int 5))) (.con (.bool true)) (.cmp .le (.idx (.var 9) (.var 10)) (.idx (.var 3) (.var 10))) [10]) .nil)))
               (.seq
                (.asg 8 (.con (.bool true)))
                .skip)
               .skip)
              .skip))
            (.seq
             (.ite (.not (.var 8))
              (.seq
               (.app 4 (.var 3))
               .skip)
              .skip)
             .skip))))
         (.seq
          (.ite (.cmp .ne (.call F.f_front (.cons (.var 6) (.cons (.var 7) .nil))) (.var 4))
           (.seq
            (.ret (.con (.bool false)))
            .skip)
           .skip)
          (.seq
           (.asg 5 (.call F.f__law_any_weights (.cons (.var 1) .nil)))
           (.seq
            (.for_ (.nm 3) (.itr (.call F.f_least_alignments (.cons (.var 6) (.cons (.var 7) (.cons (.var 5) .nil)))))
             (.seq
              (.ite (.cmp .nin (.call F.f__law_counts (.cons (.var 6) (.cons (.var 7) (.cons (.var 3) .nil)))) (.var 4))
               (.seq
                (.ret (.con (.bool false)))
                .skip)
               .skip)
              .skip))
            (.seq
             (.ite (.cmp .ne (.call F.f_least_cost (.cons (.var 6) (.cons (.var 7) (.cons (.var 5) .nil)))) (.blt .min (.cons (.lw (.nm 3) 4 (.con (.bool true)) (.call F.f__law_cost (.cons (.var 3) (.cons (.var 5) .nil))) [3]) .nil)))
              (.seq
               (.ret (.con (.bool false)))
               .skip)
              .skip)
             .skip))))))))))
   (.seq
    (.ret (.con (.bool true)))
    .skip))⟩
structure Ok_law_k11 (Ds : List Dfn) (F : Fs) : Prop where
  e : Ds[F.f_law]? = some (ir_law_k11 F)
  o__law_rounds : Ok__law_rounds Ds F
  o__law_any_two : Ok__law_any_two Ds F
  o__law_alignments : Ok__law_alignments Ds F
  o__law_counts : Ok__law_counts Ds F
  o_front : Ok_front Ds F
  o__law_any_weights : Ok__law_any_weights Ds F
  o_least_alignments : Ok_least_alignments Ds F
  o_least_cost : Ok_least_cost Ds F
  o__law_cost : Ok__law_cost Ds F
def ir_is_least (F : Fs) : Dfn := ⟨3, 5,
  (.seq
   (.asg 3 (.call F.f_cost_of (.cons (.var 0) (.cons (.var 2) .nil))))
   (.seq
    (.ret (.blt .all (.cons (.lc (.nm 4) (.itr (.var 1)) (.con (.bool true)) (.cmp .ge (.call F.f_cost_of (.cons (.var 4) (.cons (.var 2) .nil))) (.var 3)) [4]) .nil)))
    .skip))⟩
structure Ok_is_least (Ds : List Dfn) (F : Fs) : Prop where
  e : Ds[F.f_is_least]? = some (ir_is_least F)
  o_cost_of : Ok_cost_of Ds F
def ir_is_positive (F : Fs) : Dfn := ⟨1, 1,
  (.seq
   (.ret (.and (.isi .int (.var 0)) (.and (.not (.isi .bool (.var 0))) (.cmp .gt (.var 0) (.con (.int 0))))))
   .skip)⟩
structure Ok_is_positive (Ds : List Dfn) (F : Fs) : Prop where
  e : Ds[F.f_is_positive]? = some (ir_is_positive F)
def ir_is_share (F : Fs) : Dfn := ⟨2, 4,
  (.seq
   (.ite (.or (.not (.isi .tup (.var 0))) (.or (.cmp .ne (.len (.var 0)) (.con (.int 2))) (.not (.call F.f_is_positive (.cons (.idx (.var 0) (.con (.int 1))) .nil)))))
    (.seq
     (.ret (.con (.bool false)))
     .skip)
    .skip)
   (.seq
    (.asg 2 (.idx (.var 0) (.con (.int 0))))
    (.seq
     (.ite (.or (.not (.isi .tup (.var 2))) (.cmp .ne (.len (.var 2)) (.con (.int 5))))
      (.seq
       (.ret (.con (.bool false)))
       .skip)
      .skip)
     (.seq
      (.ite (.not (.blt .all (.cons (.lc (.nm 3) (.itr (.var 2)) (.con (.bool true)) (.and (.isi .int (.var 3)) (.not (.isi .bool (.var 3)))) [3]) .nil)))
       (.seq
        (.ret (.con (.bool false)))
        .skip)
       .skip)
      (.seq
       (.ret (.cmp .inn (.var 2) (.var 1)))
       .skip)))))⟩
structure Ok_is_share (Ds : List Dfn) (F : Fs) : Prop where
  e : Ds[F.f_is_share]? = some (ir_is_share F)
  o_is_positive : Ok_is_positive Ds F
def ir_is_mixture (F : Fs) : Dfn := ⟨3, 8,
  (.seq
   (.ite (.or (.not (.isi .tup (.var 2))) (.or (.cmp .eq (.var 2) (.tup .nil)) (.not (.blt .all (.cons (.lc (.nm 7) (.itr (.var 2)) (.con (.bool true)) (.call F.f_is_share (.cons (.var 7) (.cons (.var 1) .nil))) [7]) .nil)))))
    (.seq
     (.ret (.con (.bool false)))
     .skip)
    .skip)
   (.seq
    (.asg 3 (.blt .sum (.cons (.lc (.tp [6, 7]) (.itr (.var 2)) (.con (.bool true)) (.var 7) [6, 7]) .nil)))
    (.seq
     (.asg 4 (.lc (.nm 5) (.rng (.con (.int 5))) (.con (.bool true)) (.bin .sub (.bin .mul (.idx (.var 0) (.var 5)) (.var 3)) (.blt .sum (.cons (.lc (.tp [6, 7]) (.itr (.var 2)) (.con (.bool true)) (.bin .mul (.idx (.var 6) (.var 5)) (.var 7)) [6, 7]) .nil))) [5]))
     (.seq
      (.ret (.and (.cmp .ge (.blt .min (.cons (.var 4) .nil)) (.con (.int 0))) (.cmp .gt (.blt .max (.cons (.var 4) .nil)) (.con (.int 0)))))
      .skip))))⟩
structure Ok_is_mixture (Ds : List Dfn) (F : Fs) : Prop where
  e : Ds[F.f_is_mixture]? = some (ir_is_mixture F)
  o_is_share : Ok_is_share Ds F
def ir_is_support (F : Fs) : Dfn := ⟨4, 6,
  (.seq
   (.exp (.call F.f_need_alignment (.cons (.var 0) (.cons (.var 1) (.cons (.var 2) .nil)))))
   (.seq
    (.ite (.or (.not (.isi .tup (.var 3))) (.or (.cmp .ne (.len (.var 3)) (.con (.int 2))) (.not (.isi .str (.idx (.var 3) (.con (.int 0)))))))
     (.seq
      (.ret (.con (.bool false)))
      .skip)
     .skip)
    (.seq
     (.par [4, 5] (.cons (.call F.f_counts_of (.cons (.var 0) (.cons (.var 1) (.cons (.var 2) .nil)))) (.cons (.idx (.var 3) (.con (.int 1))) .nil)))
     (.seq
      (.ite (.cmp .eq (.idx (.var 3) (.con (.int 0))) (.con (.str "mixture")))
       (.seq
        (.ret (.call F.f_is_mixture (.cons (.var 4) (.cons (.call F.f_all_counts (.cons (.var 0) (.cons (.var 1) .nil))) (.cons (.var 5) .nil)))))
        .skip)
       .skip)
      (.seq
       (.ite (.or (.cmp .ne (.idx (.var 3) (.con (.int 0))) (.con (.str "weights"))) (.or (.not (.isi .tup (.var 5))) (.cmp .ne (.len (.var 5)) (.con (.int 5)))))
        (.seq
         (.ret (.con (.bool false)))
         .skip)
        .skip)
       (.seq
        (.ret (.and (.blt .all (.cons (.lc (.nm 0) (.itr (.var 5)) (.con (.bool true)) (.call F.f_is_positive (.cons (.var 0) .nil)) [0]) .nil)) (.call F.f_is_least (.cons (.var 4) (.cons (.call F.f_front_of (.cons (.var 0) (.cons (.var 1) .nil))) (.cons (.var 5) .nil))))))
        .skip))))))⟩
structure Ok_is_support (Ds : List Dfn) (F : Fs) : Prop where
  e : Ds[F.f_is_support]? = some (ir_is_support F)
  o_need_alignment : Ok_need_alignment Ds F
  o_counts_of : Ok_counts_of Ds F
  o_is_mixture : Ok_is_mixture Ds F
  o_all_counts : Ok_all_counts Ds F
  o_is_positive : Ok_is_positive Ds F
  o_is_least : Ok_is_least Ds F
  o_front_of : Ok_front_of Ds F
def ir__law_better (F : Fs) : Dfn := ⟨2, 7,
  (.seq
   (.par [3, 4] (.cons (.blt .sum (.cons (.lc (.tp [5, 6]) (.itr (.var 1)) (.con (.bool true)) (.var 6) [5, 6]) .nil)) (.cons (.cel (.lst .nil)) .nil)))
   (.seq
    (.for_ (.nm 2) (.rng (.con (.int 5)))
     (.seq
      (.app 4 (.bin .sub (.bin .mul (.idx (.var 0) (.var 2)) (.var 3)) (.blt .sum (.cons (.lc (.tp [5, 6]) (.itr (.var 1)) (.con (.bool true)) (.bin .mul (.idx (.var 5) (.var 2)) (.var 6)) [5, 6]) .nil))))
      .skip))
    (.seq
     (.ret (.and (.cmp .ge (.blt .min (.cons (.var 4) .nil)) (.con (.int 0))) (.cmp .gt (.blt .max (.cons (.var 4) .nil)) (.con (.int 0)))))
     .skip)))⟩
structure Ok__law_better (Ds : List Dfn) (F : Fs) : Prop where
  e : Ds[F.f__law_better]? = some (ir__law_better F)
def ir_law_k14 (F : Fs) : Dfn := ⟨1, 19,
  (.seq
   (.forR 1 F.f__law_rounds (.cons (.var 0) (.cons (.con (.int 3)) .nil))
    (.seq
     (.unp [5, 6] (.call F.f__law_any_two (.cons (.var 1) (.cons (.con (.int 3)) (.cons (.con (.int 2)) .nil)))))
     (.seq
      (.asg 2 (.call F.f__law_alignments (.cons (.var 5) (.cons (.var 6) .nil))))
      (.seq
       (.asg 3 (.lc (.nm 15) (.itr (.var 2)) (.con (.bool true)) (.call F.f__law_counts (.cons (.var 5) (.cons (.var 6) (.cons (.var 15) .nil)))) [15]))
       (.seq
        (.for_ (.nm 4) (.rng (.con (.int 5)))
         (.seq
          (.asg 7 (.ite (.cmp .gt (.var 4) (.con (.int 0))) (.call F.f__law_roll (.cons (.var 1) (.cons (.len (.var 2)) .nil))) (.con (.int 0))))
          (.seq
           (.par [16, 15] (.cons (.idx (.var 3) (.var 7)) (.cons (.idx (.var 2) (.var 7)) .nil)))
           (.seq
            (.asg 8 (.blt .tup (.cons (.lc (.nm 17) (.rng (.con (.int 5))) (.con (.bool true)) (.bin .add (.con (.int 1)) (.call F.f__law_roll (.cons (.var 1) (.cons (.con (.int 40)) .nil)))) [17]) .nil)))
            (.seq
             (.asg 9 (.cmp .eq (.blt .min (.cons (.lc (.nm 11) (.itr (.var 3)) (.con (.bool true)) (.call F.f__law_cost (.cons (.var 11) (.cons (.var 8) .nil))) [11]) .nil)) (.call F.f__law_cost (.cons (.var 16) (.cons (.var 8) .nil)))))
             (.seq
              (.ite (.cmp .ne (.call F.f_is_support (.cons (.var 5) (.cons (.var 6) (.cons (.var 15) (.cons (.tup (.cons (.con (.str "weights")) (.cons (.var 8) .nil))) .nil))))) (.var 9))
               (.seq
                (.ret (.con (.bool false)))
                .skip)
               .skip)
              (.seq
               (.asg 10 (.cel (.lst .nil)))
               (.seq
                (.for_ (.nm 11) (.rng (.bin .add (.con (.int 1)) (.call F.f__law_roll (.cons (.var 1) (.cons (.con (.int 3)) .nil)))))
                 (.seq
                  (.app 10 (.tup (.cons (.idx (.var 3) (.call F.f__law_roll (.cons (.var 1) (.cons (.len (.var 3)) .nil)))) (.cons (.bin .add (.con (.int 1)) (.call F.f__law_roll (.cons (.var 1) (.cons (.con (.int 5)) .nil)))) .nil))))
                  .skip))
                (.seq
                 (.ite (.cmp .ne (.call F.f_is_support (.cons (.var 5) (.cons (.var 6) (.cons (.var 15) (.cons (.tup (.cons (.con (.str "mixture")) (.cons (.blt .tup (.cons (.var 10) .nil)) .nil))) .nil))))) (.call F.f__law_better (.cons (.var 16) (.cons (.var 10) .nil))))
                  (.seq
                   (.ret (.con (.bool false)))
                   .skip)
                  .skip)
                 (.seq
                  (.asg 12 (.blt .tup (.cons (.lc (.nm 18) (.itr (.var 16)) (.con (.bool true)) (.bin .add (.var 18) (.con (.int 1))) [18]) .nil)))
                  (.seq
                   (.asg 13 (.lst (.cons (.tup (.cons (.con (.str "mixture")) (.cons (.tup .nil) .nil))) (.cons (.tup (.cons (.con (.str "weights")) (.cons (.tup (.cons (.con (.int 1)) (.cons (.con (.int 1)) (.cons (.con (.int 1)) (.cons (.con (.int 1)) .nil))))) .nil))) (.cons (.tup (.cons (.con (.str "weights")) (.cons (.tup (.cons (.con (.int 0)) (.cons (.con (.int 1)) (.cons (.con (.int 1)) (.cons (.con (.int 1)) (.cons (.con (.int 1)) .nil)))))) .nil))) .nil)))))
                   (.seq
                    (.asg 13 (.bin .add (.var 13) (.lst (.cons (.tup (.cons (.con (.str "weights")) (.cons (.con .none) .nil))) .nil))))
                    (.seq
                     (.asg 13 (.bin .add (.var 13) (.lst (.cons (.tup (.cons (.con (.str "mixture")) (.cons (.tup (.cons (.tup (.cons (.var 16) (.cons (.con (.int 0)) .nil))) .nil)) .nil))) (.cons (.tup (.cons (.con (.str "mixture")) (.cons (.tup (.cons (.tup (.cons (.var 16) (.cons (.con (.bool true)) .nil))) .nil)) .nil))) .nil)))))
                     (.seq
                      (.asg 13 (.bin .add (.var 13) (.lst (.cons (.tup (.cons (.con (.str "mixture")) (.cons (.tup (.cons (.tup (.cons (.var 16) (.cons (.con (.int 1)) .nil))) .nil)) .nil))) (.cons (.con .none) (.cons (.tup .nil) .nil))))))
                      (.seq
                       (.asg 13 (.bin .add (.var 13) (.lst (.cons (.tup (.cons (.con (.str "mixture")) (.cons (.tup (.cons (.tup (.cons (.tup (.cons (.neg (.con (.int 1))) (.cons (.con (.int 0)) (.cons (.con (.int 0)) (.cons (.con (.int 0)) (.cons (.con (.int 0)) .nil)))))) (.cons (.con (.int 1)) .nil))) .nil)) .nil))) (.cons (.tup (.cons (.con (.str "mix")) (.cons (.tup .nil) .nil))) (.cons (.lst (.cons (.con (.str "weights")) (.cons (.var 8) .nil))) .nil))))))
                       (.seq
                        (.asg 13 (.bin .add (.var 13) (.lst (.cons (.tup (.cons (.con (.str "mixture")) (.cons (.var 16) .nil))) .nil))))
                        (.seq
                         (.for_ (.nm 14) (.itr (.bin .add (.var 13) (.lst (.cons (.tup (.cons (.con (.str "mixture")) (.cons (.tup (.cons (.tup (.cons (.var 12) (.cons (.con (.int 1)) .nil))) .nil)) .nil))) (.cons (.tup (.cons (.con (.str "weights")) (.cons (.blt .lst (.cons (.var 8) .nil)) .nil))) (.cons (.tup (.cons (.con (.str "weights")) (.cons (.var 8) (.cons (.con (.int 1)) .nil)))) .nil))))))
                          (.seq
                           (.ite (.call F.f_is_support (.cons (.var 5) (.cons (.var 6) (.cons (.var 15) (.cons (.var 14) .nil)))))
                            (.seq
                             (.ret (.con (.bool false)))
                             .skip)
                            .skip)
                           .skip))
                         .skip)))))))))))))))))
        .skip)))))
   (.seq
    (.ret (.con (.bool true)))
    .skip))⟩
structure Ok_law_k14 (Ds : List Dfn) (F : Fs) : Prop where
  e : Ds[F.f_law]? = some (ir_law_k14 F)
  o__law_rounds : Ok__law_rounds Ds F
  o__law_any_two : Ok__law_any_two Ds F
  o__law_alignments : Ok__law_alignments Ds F
  o__law_counts : Ok__law_counts Ds F
  o__law_roll : Ok__law_roll Ds F
  o__law_cost : Ok__law_cost Ds F
  o_is_support : Ok_is_support Ds F
  o__law_better : Ok__law_better Ds F
end Z

set_option linter.all false
set_option autoImplicit false
set_option maxRecDepth 100000
set_option maxHeartbeats 0
/-! A1: tables. -/
namespace Z
open PySem
@[simp] theorem lenD_s (x : Str) : lenD (.str x) = if szOk x.length then some (.int x.length) else none := (rfl)
@[simp] theorem inn_c (c : Nat) (y : Str) : innD (.str ⟨#[c]⟩) (.str y) = some (decide (c ∈ y.cps.toList)) := (rfl)
mutual
/-- all parts are of a size that Python's model holds -/
def sz : D → Bool
  | .str x => szOk x.length
  | .list xs => szOk xs.length && szs xs
  | .tuple xs => szOk xs.length && szs xs
  | _ => true
def szs : List D → Bool
  | [] => true
  | x :: r => sz x && szs r
end
theorem szs_iff : ∀ {xs : List D}, szs xs = true ↔ ∀ x ∈ xs, sz x = true
  | [] => by simp [szs]
  | x :: r => by simp [szs, szs_iff (xs := r)]
theorem sz_tup {xs : List D} : sz (.tuple xs) = true ↔ szOk xs.length = true ∧ ∀ x ∈ xs, sz x = true := by
  simp [sz, szs_iff]
theorem sz_lst {xs : List D} : sz (.list xs) = true ↔ szOk xs.length = true ∧ ∀ x ∈ xs, sz x = true := by
  simp [sz, szs_iff]
theorem sz_str {x : Str} : sz (.str x) = szOk x.length := by simp [sz]
theorem str_len (x : Str) : x.length = x.cps.toList.length := by
  show x.cps.size = _
  simp
section
variable {Ds : List Dfn} {wf k : Nat} {h : Hep} {F : Fs}
def isWhole (d : D) (lo hi : Int) : Bool := match d with
  | .int i => decide (lo ≤ i) && decide (i ≤ hi)
  | _ => false
theorem is_whole_ok (o : Ok_is_whole Ds F) (d : D) (lo hi : Int) : call Ds wf (k + 1) F.f_is_whole [.d d, .d (.int lo), .d (.int hi)] h = .ok (.d (.bool (isWhole d lo hi))) h := by
  rw [call_ir o.e rfl]
  cases d <;> simp [ir_is_whole, tyD, isWhole]
def isString (d : D) (hi : Int) (signs : Str) : Bool := match d with
  | .str x => decide (1 ≤ x.length) && decide ((x.length : Int) ≤ hi) && x.cps.toList.all fun c => decide (c ∈ signs.cps.toList)
  | _ => false
theorem is_string_ok (o : Ok_is_string Ds F) (d : D) (hi : Int) (signs : Str) (hs : sz d = true) : call Ds wf (k + 1) F.f_is_string [.d d, .d (.int hi), .d (.str signs)] h = .ok (.d (.bool (isString d hi signs))) h := by
  rw [call_ir o.e rfl]
  cases d with
  | str x =>
    have e := (sz_str (x := x)).symm.trans hs
    have e2 := str_len x ▸ e
    simp at e2
    simp [ir_is_string, tyD, isString, e, e2]
    by_cases q : (1 : Int) ≤ x.length
    · have q' : 1 ≤ x.length := by omega
      simp [q, q', e2]
    · have q' : ¬ 1 ≤ x.length := by omega
      simp [q, q']
  | _ => simp [ir_is_string, tyD, isString]
def small : Str := "abcdefghijklmnopqrstuvwxyz"
def smallH : Str := "abcdefghijklmnopqrstuvwxyz-"
def isName (d : D) : Bool := isString d 4 small
def isValue (d : D) : Bool := isWhole d (-99) 99 || isString d 7 smallH
theorem is_name_ok (o : Ok_is_name Ds F) (d : D) (hs : sz d = true) : call Ds wf (k + 2) F.f_is_name [.d d] h = .ok (.d (.bool (isName d))) h := by
  rw [call_ir o.e rfl]
  simp [ir_is_name, is_string_ok o.o_is_string _ _ _ hs]
  rfl
theorem is_value_ok (o : Ok_is_value Ds F) (d : D) (hs : sz d = true) : call Ds wf (k + 2) F.f_is_value [.d d] h = .ok (.d (.bool (isValue d))) h := by
  rw [call_ir o.e rfl]
  have e : szOk (("abcdefghijklmnopqrstuvwxyz" : Str).length + ("-" : Str).length) = true := by decide +kernel
  have e2 : ("abcdefghijklmnopqrstuvwxyz" : Str) ++ ("-" : Str) = smallH := by decide +kernel
  simp [ir_is_value, e, e2, is_whole_ok o.o_is_whole, is_string_ok o.o_is_string _ _ _ hs, isValue]
def isRow (d : D) (w : Nat) : Bool := match d with
  | .tuple xs => decide (xs.length = w) && xs.all isValue
  | _ => false
theorem is_row_ok (o : Ok_is_row Ds F) (d : D) (w : Nat) (hs : sz d = true) : call Ds wf (k + 3) F.f_is_row [.d d, .d (.int w)] h = .ok (.d (.bool (isRow d w))) h := by
  rw [call_ir o.e rfl]
  cases d with
  | tuple xs =>
    obtain ⟨s1, s2⟩ := sz_tup.mp hs
    have e : ∀ x h, x ∈ xs → call Ds wf (k + 2) F.f_is_value [.d x] h = .ok (.d (.bool (isValue x))) h := fun x h hx => is_value_ok o.o_is_value x (s2 x hx)
    simp +contextual [toM, ir_is_row, tyD, isRow, s1, e]
    by_cases q : xs.length = w
    · simp [q]
    · have q' : ¬ (xs.length : Int) = w := by omega
      simp [q, q']
  | _ => simp [ir_is_row, tyD, isRow]
theorem isName_str {d : D} (e : isName d = true) : ∃ x, d = .str x := by
  cases d <;> simp [isName, isString] at e ⊢
theorem names_strs : ∀ {ns : List D}, ns.all isName = true → ∃ ws : List Str, ns = ws.map PyData.str
  | [], _ => ⟨[], rfl⟩
  | x :: r, e => by
    simp at e
    obtain ⟨w, rfl⟩ := isName_str e.1
    obtain ⟨ws, rfl⟩ := names_strs (ns := r) (by simpa using e.2)
    exact ⟨w :: ws, rfl⟩
theorem strL_str (ws : List Str) : strL (ws.map PyData.str) = some ws := by
  have := strL_map ws id
  simpa using this
def ndup (ns : List D) : Bool := match strL ns with
    | some ws => decide ((ded ws).length = ws.length)
    | none => false
def rowsOk (w : Nat) (b : D) : Bool := match b with
  | .tuple rs => decide (rs.length ≤ 4) && rs.all fun r => isRow r w
  | _ => false
def tabOk (a b : D) : Bool := match a with
  | .tuple ns => decide (1 ≤ ns.length) && decide (ns.length ≤ 4) && ns.all isName && ndup ns && rowsOk ns.length b
  | _ => false
def isTable (d : D) : Bool := match d with
  | .tuple [a, b] => tabOk a b
  | _ => false
@[simp] theorem isTable_2 (a b : D) : isTable (.tuple [a, b]) = tabOk a b := (rfl)
@[simp] theorem isTable_0 : isTable (.tuple []) = false := (rfl)
@[simp] theorem isTable_1 (a : D) : isTable (.tuple [a]) = false := (rfl)
@[simp] theorem isTable_3 (a b c : D) (r : List D) : isTable (.tuple (a :: b :: c :: r)) = false := (rfl)
@[simp] theorem tabOk_t (ns : List D) (b : D) : tabOk (.tuple ns) b = (decide (1 ≤ ns.length) && decide (ns.length ≤ 4) && ns.all isName && ndup ns && rowsOk ns.length b) := (rfl)
@[simp] theorem rowsOk_t (w : Nat) (rs : List D) : rowsOk w (.tuple rs) = (decide (rs.length ≤ 4) && rs.all fun r => isRow r w) := (rfl)
theorem ndup_s (ws : List Str) : ndup (ws.map PyData.str) = decide ((ded ws).length = ws.length) := by
  unfold ndup
  rw [strL_str]
theorem is_table_ok (o : Ok_is_table Ds F) (d : D) (hs : sz d = true) : call Ds wf (k + 4) F.f_is_table [.d d] h = .ok (.d (.bool (isTable d))) h := by
  rw [call_ir o.e rfl]
  cases d with
  | tuple xs =>
    obtain ⟨s1, s2⟩ := sz_tup.mp hs
    match xs, s1, s2 with
    | [], s1, s2 => simp [ir_is_table, tyD]
    | [a], s1, s2 => simp [ir_is_table, tyD]
    | a :: b :: c :: r, s1, s2 =>
      have q : ¬ ((r.length : Int) + 1 + 1 + 1 = 2) := by omega
      simp [ir_is_table, tyD, q]
    | [a, b], s1, s2 =>
      have sa := s2 a (by simp)
      have sb' := s2 b (by simp)
      cases a with
      | tuple ns =>
        obtain ⟨n1, n2⟩ := sz_tup.mp sa
        have en : ∀ x h, x ∈ ns → call Ds wf (k + 3) F.f_is_name [.d x] h = .ok (.d (.bool (isName x))) h := fun x h hx => is_name_ok (k := k + 1) o.o_is_name x (n2 x hx)
        by_cases q1 : 1 ≤ ns.length
        · have q1' : (1 : Int) ≤ ns.length := by omega
          by_cases q2 : ns.length ≤ 4
          · have q2' : (ns.length : Int) ≤ 4 := by omega
            cases q3 : ns.all isName with
            | false => simp +contextual [toM, ir_is_table, tyD, n1, en, q1, q1', q2, q2', q3]
            | true =>
              obtain ⟨ws, rfl⟩ := names_strs q3
              have hl : ws.length ≤ 4 := by simpa using q2
              have hb : bLens [.tuple (ws.map PyData.str)] = some (.int (ded ws).length) := by
                show (match strL (ws.map PyData.str) with
                  | some ws => if decide (ws.length ≤ 4000) then some (PyData.int (ded ws).length) else none
                  | none => none) = _
                rw [strL_str]
                simp
                omega
              have q3' := q3
              simp at q1 q1' q2 q2' n1 q3'
              have en : ∀ (a : Str) (h : Hep), a ∈ ws → call Ds wf (k + 3) F.f_is_name [.d (.str a)] h = .ok (.d (.bool true)) h := fun a h ha => by
                rw [en _ h (List.mem_map_of_mem ha), q3' a ha]
              have q3t : ws.all (isName ∘ PyData.str) = true := by simpa using q3'
              by_cases q4 : (ded ws).length = ws.length
              · cases b with
                | tuple rs =>
                  obtain ⟨r1, r2⟩ := sz_tup.mp sb'
                  have er : ∀ x h, x ∈ rs → call Ds wf (k + 3) F.f_is_row [.d x, .d (.int ws.length)] h = .ok (.d (.bool (isRow x ws.length))) h := fun x h hx => is_row_ok o.o_is_row x _ (r2 x hx)
                  by_cases q5 : rs.length ≤ 4
                  · have q5' : ¬ (4 : Int) < rs.length := by omega
                    simp +contextual [toM, ir_is_table, tyD, n1, en, er, q1, q1', q2, q2', hb, q4, q5, q5', r1, ndup_s, q3t]
                  · have q5' : (4 : Int) < rs.length := by omega
                    simp +contextual [toM, ir_is_table, tyD, n1, en, q1, q1', q2, q2', hb, q4, q5, q5', r1, ndup_s, q3t]
                | _ =>
                  simp +contextual [toM, ir_is_table, tyD, n1, en, q1, q1', q2, q2', hb, q4, ndup_s, rowsOk]
              · have q4' : ¬ ((ded ws).length : Int) = ws.length := by omega
                simp +contextual [toM, ir_is_table, tyD, n1, en, q1, q1', q2, q2', hb, q4, q4', ndup_s]
          · have q2' : ¬ (ns.length : Int) ≤ 4 := by omega
            simp +contextual [toM, ir_is_table, tyD, q1, q1', q2, q2']
        · have q1' : ¬ (1 : Int) ≤ ns.length := by omega
          simp +contextual [toM, ir_is_table, tyD, q1, q1']
      | _ => simp [ir_is_table, tyD, tabOk]
  | _ => simp [ir_is_table, tyD, isTable]
theorem need_table_ok (o : Ok_need_table Ds F) (d : D) (hs : sz d = true) : call Ds wf (k + 5) F.f_need_table [.d d] h = if isTable d = true then .ok (.d .none) h else .ex F.xInvalidTable h := by
  rw [call_ir o.e rfl]
  simp [ir_need_table, is_table_ok o.o_is_table d hs]
  cases isTable d <;> simp
def isW (d : D) : Bool := match d with
  | .tuple xs => decide (xs.length = 5) && xs.all fun x => isWhole x 1 9
  | _ => false
theorem need_weights_ok (o : Ok_need_weights Ds F) (d : D) : call Ds wf (k + 2) F.f_need_weights [.d d] h = if isW d = true then .ok (.d .none) h else .ex F.xInvalidWeights h := by
  rw [call_ir o.e rfl]
  cases d with
  | tuple xs =>
    by_cases q : xs.length = 5
    · have q' : (xs.length : Int) = 5 := by omega
      have q2 := sOk (show (5 : Nat) ≤ 16777216 by omega)
      simp [-List.all_eq_true, -List.all_eq_false, ir_need_weights, tyD, isW, q, q', q2, is_whole_ok o.o_is_whole]
      cases (xs.all fun x => isWhole x 1 9) <;> simp
    · have q' : ¬ (xs.length : Int) = 5 := by omega
      simp [ir_need_weights, tyD, isW, q, q']
  | _ => simp [ir_need_weights, tyD, isW]
end
end Z

set_option linter.all false
set_option autoImplicit false
set_option maxRecDepth 100000
set_option maxHeartbeats 0
set_option exponentiation.threshold 2000
/-! A2: the dice. -/
namespace Z
open PySem
theorem mulD_small {i j : Int} (hi : i.natAbs < 2 ^ 300) (hj : j.natAbs < 2 ^ 300) : mulD (.int i) (.int j) = some (.int (i * j)) := by
  have key : ∀ n : Nat, n < 2 ^ 300 → n.log2 < 300 := fun n hn => by
    by_cases z : n = 0
    · subst z
      decide
    · exact (Nat.log2_lt z).mpr hn
  have h1 : bits i < 300 := key _ hi
  have h2 : bits j < 300 := key _ hj
  show (if _ then _ else _) = _
  rw [if_pos]
  rw [Bool.or_eq_true, Bool.or_eq_true]
  exact .inl (.inl (decide_eq_true (by omega)))
theorem mulD_const {i j : Int} (hj : j.natAbs < 18446744073709551616) : mulD (.int i) (.int j) = some (.int (i * j)) := by
  show (if _ then _ else _) = _
  rw [if_pos]
  rw [Bool.or_eq_true]
  exact .inr (decide_eq_true hj)
theorem mulD_constL {i j : Int} (hj : i.natAbs < 18446744073709551616) : mulD (.int i) (.int j) = some (.int (i * j)) := by
  show (if _ then _ else _) = _
  rw [if_pos]
  rw [Bool.or_eq_true, Bool.or_eq_true]
  exact .inl (.inr (decide_eq_true hj))
theorem modD_pos {i j : Int} (hj : 0 < j) : modD (.int i) (.int j) = some (.int (i % j)) := if_pos (decide_eq_true hj)
theorem fdivD_pos {i j : Int} (hj : 0 < j) (hb : bits j < 9000) : fdivD (.int i) (.int j) = some (.int (i / j)) := by
  show (if _ then _ else _) = _
  rw [if_pos]
  rw [Bool.and_eq_true]
  exact ⟨decide_eq_true hj, decide_eq_true hb⟩
theorem bits_small {n : Nat} (h : n < 2 ^ 300) : bits (n : Int) < 9000 := by
  show (Int.natAbs n).log2 < 9000
  rw [Int.natAbs_natCast]
  by_cases z : n = 0
  · subst z
    decide
  · have := (Nat.log2_lt z).mpr h
    omega
section
variable {Ds : List Dfn} {wf k : Nat} {h : Hep} {F : Fs}
def drawn1 (c b : Int) : Int := (c * 6364136223846793005 + (b + 1) * 1442695040888963407) % 340282366920938463463374607431768211507
def drawn2 (x : Int) : Int := x * x % 340282366920938463463374607431768211297
def drawn3 (x : Int) : Int := (x % 18446744073709551557 + 1) * (x / 18446744073709551557 + 1) * x
def drawnZ (c b : Int) : Int := drawn3 (drawn2 (drawn1 c b)) % 340282366920938463463374607431768211507
theorem drawn_ok (o : Ok__law_drawn Ds F) (c b : Int) : call Ds wf (k + 1) F.f__law_drawn [.d (.int c), .d (.int b)] h = .ok (.d (.int (drawnZ c b))) h := by
  rw [call_ir o.e rfl]
  have p1 : 0 ≤ drawn1 c b ∧ drawn1 c b < 340282366920938463463374607431768211507 := ⟨Int.emod_nonneg _ (by decide), Int.emod_lt_of_pos _ (by decide)⟩
  have p2 : 0 ≤ drawn2 (drawn1 c b) ∧ drawn2 (drawn1 c b) < 340282366920938463463374607431768211297 := ⟨Int.emod_nonneg _ (by decide), Int.emod_lt_of_pos _ (by decide)⟩
  generalize eq1 : drawn1 c b = x1 at p1 p2
  generalize eq2 : drawn2 x1 = x2 at p2
  have q1 : 0 ≤ x2 % 18446744073709551557 ∧ x2 % 18446744073709551557 < 18446744073709551557 := ⟨Int.emod_nonneg _ (by decide), Int.emod_lt_of_pos _ (by decide)⟩
  have q2 : 0 ≤ x2 / 18446744073709551557 ∧ x2 / 18446744073709551557 ≤ x2 := ⟨Int.ediv_nonneg p2.1 (by decide), Int.ediv_le_self _ p2.1⟩
  have m1 : mulD (.int c) (.int 6364136223846793005) = some (.int (c * 6364136223846793005)) := mulD_const (by decide)
  have m2 : mulD (.int (b + 1)) (.int 1442695040888963407) = some (.int ((b + 1) * 1442695040888963407)) := mulD_const (by decide)
  have m3 : modD (.int (c * 6364136223846793005 + (b + 1) * 1442695040888963407)) (.int 340282366920938463463374607431768211507) = some (.int x1) := by rw [modD_pos (by decide), ← eq1]; rfl
  have m4 : mulD (.int x1) (.int x1) = some (.int (x1 * x1)) := mulD_small (by omega) (by omega)
  have m5 : modD (.int (x1 * x1)) (.int 340282366920938463463374607431768211297) = some (.int x2) := by rw [modD_pos (by decide), ← eq2]; rfl
  have m6 : modD (.int x2) (.int 18446744073709551557) = some (.int (x2 % 18446744073709551557)) := modD_pos (by decide)
  have m7 : fdivD (.int x2) (.int 18446744073709551557) = some (.int (x2 / 18446744073709551557)) := fdivD_pos (by decide) (by decide)
  have m8 : mulD (.int (x2 % 18446744073709551557 + 1)) (.int (x2 / 18446744073709551557 + 1)) = some (.int ((x2 % 18446744073709551557 + 1) * (x2 / 18446744073709551557 + 1))) := mulD_small (by omega) (by omega)
  have m9 : mulD (.int ((x2 % 18446744073709551557 + 1) * (x2 / 18446744073709551557 + 1))) (.int x2) = some (.int (drawn3 x2)) := by
    refine mulD_small ?_ (by omega)
    rw [Int.natAbs_mul]
    have a1 : (x2 % 18446744073709551557 + 1).natAbs < 2 ^ 100 := by omega
    have a2 : (x2 / 18446744073709551557 + 1).natAbs < 2 ^ 130 := by omega
    calc _ ≤ 2 ^ 100 * 2 ^ 130 := Nat.mul_le_mul (Nat.le_of_lt a1) (Nat.le_of_lt a2)
      _ < 2 ^ 300 := by decide
  have m10 : modD (.int (drawn3 x2)) (.int 340282366920938463463374607431768211507) = some (.int (drawnZ c b)) := by rw [modD_pos (by decide)]; unfold drawnZ; rw [eq1, eq2]
  simp [ir__law_drawn, m1, m2, m3, m4, m5, m6, m7, m8, m9, m10]
/-- the dice in cell n -/
def Dice (h : Hep) (n : Nat) : Prop := ∃ a b : Int, h[n]? = some (.lst [.int a, .int b])
/-- only the dice in cell n are turned -/
def Dk (n : Nat) (h h' : Hep) : Prop := ∃ a b : Int, h' = h.set n (.lst [.int a, .int b])
theorem Dice.lt {n : Nat} (hd : Dice h n) : n < h.length := by
  obtain ⟨a, b, e⟩ := hd
  exact (List.getElem?_eq_some_iff.mp e).1
theorem Dice.app {n : Nat} (hd : Dice h n) (t : Hep) : Dice (h ++ t) n := by
  obtain ⟨a, b, e⟩ := hd
  exact ⟨a, b, by rw [List.getElem?_append_left (Dice.lt ⟨a, b, e⟩)]; exact e⟩
theorem Dice.refl {n : Nat} (hd : Dice h n) : Dk n h h := by
  obtain ⟨a, b, e⟩ := hd
  refine ⟨a, b, ?_⟩
  obtain ⟨l, e⟩ := List.getElem?_eq_some_iff.mp e
  rw [← e]
  simp
theorem Dk.len {n : Nat} {h' : Hep} (hk : Dk n h h') : h'.length = h.length := by
  obtain ⟨a, b, rfl⟩ := hk
  simp
theorem Dk.dice {n : Nat} {h' : Hep} (hk : Dk n h h') (hd : Dice h n) : Dice h' n := by
  obtain ⟨a, b, rfl⟩ := hk
  exact ⟨a, b, List.getElem?_set_self hd.lt⟩
theorem Dk.trans {n : Nat} {h1 h2 : Hep} (a : Dk n h h1) (b : Dk n h1 h2) : Dk n h h2 := by
  obtain ⟨x, y, rfl⟩ := a
  obtain ⟨z, w, rfl⟩ := b
  exact ⟨z, w, by simp⟩
/-- dice under further cells -/
theorem Dk.split {n : Nat} {t h2 : Hep} (hd : Dice h n) (hk : Dk n (h ++ t) h2) : ∃ h1, h2 = h1 ++ t ∧ Dk n h h1 := by
  obtain ⟨x, y, rfl⟩ := hk
  exact ⟨_, by rw [List.set_append_left _ _ hd.lt], ⟨x, y, rfl⟩⟩
theorem Dk.other {n j : Nat} {h1 : Hep} (a : Dk n h h1) (e : n ≠ j) : h1[j]? = h[j]? := by
  obtain ⟨x, y, rfl⟩ := a
  rw [List.getElem?_set_ne e]
theorem roll_ok (o : Ok__law_roll Ds F) {n : Nat} {many : Int} (hd : Dice h n) (hm : 0 < many) (hb : bits many < 9000 := by decide) :
    ∃ (r : Int) (h' : Hep), call Ds wf (k + 2) F.f__law_roll [.r n, .d (.int many)] h = .ok (.d (.int r)) h' ∧ Dk n h h' ∧ 0 ≤ r ∧ r < many := by
  have hlt := hd.lt
  obtain ⟨a, b, hn⟩ := hd
  rw [call_ir o.e rfl]
  have g1 : powD (.int 10) (.int 18) = some (.int 1000000000000000000) := by rfl
  have g5 : ∀ x : Int, modD (.int x) (.int many) = some (.int (x % many)) := fun x => modD_pos hm
  have g3 : fdivD (.int a) (.int many) = some (.int (a / many)) := fdivD_pos hm hb
  by_cases q : 1000000000000000000 ≤ a
  · refine ⟨a % many, _, ?_, ⟨a / many, b, rfl⟩, Int.emod_nonneg _ (by omega), Int.emod_lt_of_pos _ hm⟩
    simp [ir__law_roll, op1R, peekR, putV, L2.ixN, hn, g1, g3, g5, q]
    exact List.take_of_length_le (by simp)
  · refine ⟨drawnZ a (b + 1) / 8 % many, _, ?_, ⟨a, b + 1, rfl⟩, Int.emod_nonneg _ (by omega), Int.emod_lt_of_pos _ hm⟩
    have hs : ∀ x, (List.set h n x)[n]? = some x := fun x => List.getElem?_set_self hlt
    have g4 : ∀ x : Int, fdivD (.int x) (.int 8) = some (.int (x / 8)) := fun x => fdivD_pos (by decide) (by decide)
    simp [ir__law_roll, op1R, peekR, putV, L2.ixN, hn, hs, g1, g4, g5, q, drawn_ok o.o__law_drawn]
    exact List.take_of_length_le (by simp)
/-- .. as a natural number -/
theorem roll_nat (o : Ok__law_roll Ds F) {n many : Nat} (hd : Dice h n) (hm : 0 < many) (hb : many < 2 ^ 300 := by decide) :
    ∃ (r : Nat) (h' : Hep), call Ds wf (k + 2) F.f__law_roll [.r n, .d (.int (many : Nat))] h = .ok (.d (.int (r : Nat))) h' ∧ Dk n h h' ∧ r < many := by
  obtain ⟨r, h', e, k1, r0, r1⟩ := roll_ok (wf := wf) (k := k) o (many := (many : Nat)) hd (by omega) (bits_small hb)
  exact ⟨r.toNat, h', by rw [e, Int.toNat_of_nonneg r0], k1, by omega⟩
end
end Z

set_option linter.all false
set_option autoImplicit false
set_option maxRecDepth 100000
set_option maxHeartbeats 0
set_option exponentiation.threshold 2000
/-! A3: the rounds. -/
namespace Z
open PySem
/-- data without dicts, at most m deep -/
def Okd (m : Nat) (d : D) : Prop := d.canLay0 = true ∧ d.depth ≤ m
theorem okd_int (m : Nat) (i : Int) : Okd m (.int i) := ⟨rfl, Nat.zero_le _⟩
theorem okd_str (m : Nat) {x : Str} (e : (PyData.str x).canLay0 = true) : Okd m (.str x) := ⟨e, Nat.zero_le _⟩
theorem okd_bool (m : Nat) (b : Bool) : Okd m (.bool b) := ⟨rfl, Nat.zero_le _⟩
theorem okd_none (m : Nat) : Okd m .none := ⟨rfl, Nat.zero_le _⟩
theorem okd_all {m : Nat} : ∀ {xs : List D}, (∀ x ∈ xs, Okd m x) → PyData.canLayAll0 xs = true ∧ PyData.depthAll xs ≤ m
  | [], _ => ⟨rfl, Nat.zero_le _⟩
  | x :: xs, e => by
    obtain ⟨h1, h2⟩ := okd_all fun y hy => e y (List.mem_cons_of_mem _ hy)
    obtain ⟨h3, h4⟩ := e x (by simp)
    exact ⟨by show (_ && _) = true; rw [h3, h1]; rfl, Nat.max_le.mpr ⟨h4, h2⟩⟩
theorem okd_list {m : Nat} {xs : List D} (e : ∀ x ∈ xs, Okd m x) : Okd (m + 1) (.list xs) := ⟨(okd_all e).1, Nat.succ_le_succ (okd_all e).2⟩
theorem okd_tup {m : Nat} {xs : List D} (e : ∀ x ∈ xs, Okd m x) : Okd (m + 1) (.tuple xs) := ⟨(okd_all e).1, Nat.succ_le_succ (okd_all e).2⟩
theorem Okd.mono {m n : Nat} {d : D} (h : Okd m d) (e : m ≤ n) : Okd n d := ⟨h.1, Nat.le_trans h.2 e⟩
theorem Okd.shp {m : Nat} {d : D} (h : Okd m d) (e : m ≤ 64) : shp d = true := by
  show (_ && _) = true
  rw [h.1]
  exact decide_eq_true (Nat.le_trans h.2 e)
theorem shp_ints (ns : List Int) : shp (.list (ns.map PyData.int)) = true := (okd_list (m := 0) fun x hx => by
  obtain ⟨i, _, rfl⟩ := List.mem_map.mp hx
  exact okd_int 0 i).shp (by decide)
def cellZ (ns : List Int) (i : Nat) : Int := if ns = [] then (i : Int) * 7919 else ns.getD (i % ns.length) 0 + ((i : Int) / (ns.length : Int)) * 104729
theorem eqv_nil (ns : List Int) : PyData.eqv (.list (ns.map PyData.int)) (.list []) = decide (ns = []) := by
  cases ns <;> rfl
section
variable {Ds : List Dfn} {wf k : Nat} {h : Hep} {F : Fs}
theorem cell_ok (o : Ok__law_cell Ds F) {n : Nat} {ns : List Int} (hn : h[n]? = some (.ro (ns.map PyData.int))) (hl : ns.length < 2 ^ 300) (i : Nat) : call Ds wf (k + 1) F.f__law_cell [.r n, .d (.int i)] h = .ok (.d (.int (cellZ ns i))) h := by
  rw [call_ir o.e rfl]
  have s1 := shp_ints ns
  have s2 : shp (.list []) = true := shp_ints []
  have e0 := eqv_nil ns
  have m1 : mulD (.int (i : Int)) (.int 7919) = some (.int ((i : Int) * 7919)) := mulD_const (by decide)
  have m2 : mulD (.int ((i : Int) / (ns.length : Int))) (.int 104729) = some (.int ((i : Int) / (ns.length : Int) * 104729)) := mulD_const (by decide)
  by_cases q : ns = []
  · subst q
    have hn2 : h[n]? = some (.ro []) := hn
    have ez : PyData.eqv (.list []) (.list []) = true := rfl
    simp [ir__law_cell, op2R, op1R, peekR, eqD, hn2, s2, ez, m1, cellZ]
  · have lp : 0 < ns.length := List.length_pos_iff.mpr q
    have m3 : modD (.int (i : Int)) (.int (ns.length : Int)) = some (.int ((i : Int) % (ns.length : Int))) := modD_pos (by omega)
    have m4 : fdivD (.int (i : Int)) (.int (ns.length : Int)) = some (.int ((i : Int) / (ns.length : Int))) := fdivD_pos (by omega) (bits_small hl)
    have lt : i % ns.length < ns.length := Nat.mod_lt _ lp
    have ix : L2.atI (ns.map PyData.int) ((i : Int) % (ns.length : Int)) = some (.int (ns.getD (i % ns.length) 0)) := by
      rw [← Int.natCast_emod, atI_nat, List.getElem?_map, List.getElem?_eq_getElem lt, List.getD_eq_getElem?_getD, List.getElem?_eq_getElem lt]
      rfl
    simp [ir__law_cell, op2R, op1R, peekR, eqD, hn, s1, s2, e0, q, m2, m3, m4, ix, cellZ]
def cntZ (most n : Nat) : Nat := max 1 (min most n)
theorem rounds_okA (o : Ok__law_rounds Ds F) {n most : Nat} {ns : List Int} (hn : h[n]? = some (.ro (ns.map PyData.int))) (hl : ns.length ≤ 63) : call Ds wf (k + 2) F.f__law_rounds [.r n, .d (.int most)] h = .ok (.d (.list ((List.range (cntZ most ns.length)).map fun i => .list [.int (cellZ ns i), .int 0]))) h := by
  rw [call_ir o.e rfl]
  have e1 : (if (if (ns.length : Int) < (most : Int) then (ns.length : Int) else (most : Int)) > 1 then (if (ns.length : Int) < (most : Int) then (ns.length : Int) else (most : Int)) else 1) = ((cntZ most ns.length : Nat) : Int) := by
    unfold cntZ
    split <;> split <;> omega
  have hz : cntZ most ns.length ≤ 63 := by unfold cntZ; omega
  have z1 := sOk (show cntZ most ns.length ≤ 16777216 by omega)
  have z2 : szOk 2 = true := by decide
  have rg := rngV_n (h := h) (cntZ most ns.length) (by omega)
  have ce : ∀ (i : Nat), call Ds wf (k + 1) F.f__law_cell [.r n, .d (.int i)] h = .ok (.d (.int (cellZ ns i))) h := fun i => cell_ok o.o__law_cell hn (by omega) i
  simp at e1
  simp [ir__law_rounds, op1R, peekR, hn, e1, rg, z1]
  rw [compG_at (g := fun i => .list [.int (cellZ ns i), .int 0]) (fun i _ => by simp [ce, z2])]
  simp
/-- the law's loop -/
theorem forC_ok {i N : Nat} {body : Env → Hep → RS} (hi : i < N) (step : ∀ s h n, s.length = N → Dice h n → s[i]? = some (some (.r n)) → ∃ s' h1 t, body s h = .nx s' (h1 ++ t) ∧ s'.length = N ∧ Dk n h h1) :
    ∀ (cnt n : Nat) (s : Env) (h : Hep), s.length = N → (∀ j, n ≤ j → j < n + cnt → Dice h j) → ∃ s' h', forC i body n cnt s h = .nx s' h'
  | 0, n, s, h, _, _ => ⟨s, h, rfl⟩
  | cnt + 1, n, s, h, e, H => by
    obtain ⟨s1, h1, t, q, e1, K⟩ := step (s.set i (some (.r n))) h n (by simp [e]) (H n (by omega) (by omega)) (List.getElem?_set_self (by omega))
    obtain ⟨s2, h2, q2⟩ := forC_ok hi step cnt (n + 1) s1 (h1 ++ t) e1 fun j j1 j2 => by
      obtain ⟨a, b, d⟩ := H j (by omega) (by omega)
      exact Dice.app ⟨a, b, by rw [K.other (by omega)]; exact d⟩ t
    refine ⟨s2, h2, ?_⟩
    show sb (body (s.set i (some (.r n))) h) _ = _
    rw [q]
    exact q2
theorem rowsL_map {α : Type} (f : α → List D) : ∀ l : List α, rowsL (l.map fun a => .list (f a)) = some (l.map f)
  | [] => rfl
  | x :: r => by
    show (rowsL (r.map fun a => .list (f a))).map _ = _
    rw [rowsL_map f r]
    rfl
theorem law_loop (o : Ok__law_rounds Ds F) {i N most : Nat} {ns : List Int} {b : S} (hl : ns.length ≤ 63) (hi : i < N)
    (step : ∀ s h n, s.length = N → Dice h n → s[i]? = some (some (.r n)) → ∃ s' h1 t, exec ⟨call Ds wf (k + 2), wf⟩ b s h = .nx s' (h1 ++ t) ∧ s'.length = N ∧ Dk n h h1)
    (s : Env) (es : s.length = N) (e0 : s[0]? = some (some (.r 0))) : ∃ s' h', exec ⟨call Ds wf (k + 2), wf⟩ (.forR i F.f__law_rounds (.cons (.var 0) (.cons (.con (.int (most : Nat))) .nil)) b) s [.ro (ns.map PyData.int)] = .nx s' h' := by
  have r := rounds_okA (Ds := Ds) (F := F) (wf := wf) (k := k) (h := [.ro (ns.map PyData.int)]) o (n := 0) (most := most) (ns := ns) rfl hl
  have ls : ((List.range (cntZ most ns.length)).map fun i => [PyData.int (cellZ ns i), PyData.int 0]).length = cntZ most ns.length := by simp
  obtain ⟨s', h', e⟩ := forC_ok hi step (cntZ most ns.length) 1 s ([.ro (ns.map PyData.int)] ++ ((List.range (cntZ most ns.length)).map fun i => [PyData.int (cellZ ns i), PyData.int 0]).map .lst) es fun j j1 j2 => by
    refine ⟨cellZ ns (j - 1), 0, ?_⟩
    have lt : j - 1 < cntZ most ns.length := by omega
    rw [List.getElem?_append_right (by simpa using j1)]
    simp [lt]
  refine ⟨s', h', ?_⟩
  show rb (bnd (evs _ _ s _) _) _ = _
  simp only [evs_cons, evs_nil, ev_var, ev_con, e0, bnd_ok]
  rw [r]
  show (match rowsL _ with
      | some ls => forC i (exec _ b) 1 ls.length s ([Ob.ro (ns.map PyData.int)] ++ ls.map Ob.lst)
      | none => .no) = _
  rw [rowsL_map]
  show forC i _ 1 (List.length _) s _ = _
  rw [ls]
  exact e
end
end Z

set_option linter.all false
set_option autoImplicit false
set_option maxRecDepth 100000
set_option maxHeartbeats 0
set_option exponentiation.threshold 2000
/-! A4: what a law draws. -/
namespace Z
open PySem
/-- a cell's value: a whole number or a text -/
inductive Va where
  | i (n : Int)
  | s (x : Str)
  deriving DecidableEq
def encV : Va → D
  | .i n => .int n
  | .s x => .str x
structure Tb where
  nm : List Str
  rw : List (List Va)
  deriving DecidableEq
def encN (l : List Str) : D := .tuple (l.map PyData.str)
def encW (l : List Va) : D := .tuple (l.map encV)
def encR (l : List (List Va)) : D := .tuple (l.map encW)
def encT (t : Tb) : D := .tuple [encN t.nm, encR t.rw]
def vOk (v : Va) : Bool := isValue (encV v)
def nOk (x : Str) : Bool := isName (.str x)
theorem isValue_enc {d : D} (e : isValue d = true) : ∃ v, d = encV v := by
  cases d with
  | int n => exact ⟨.i n, rfl⟩
  | str x => exact ⟨.s x, rfl⟩
  | _ => simp [isValue, isWhole, isString] at e
theorem values_enc : ∀ {ds : List D}, (∀ d ∈ ds, isValue d = true) → ∃ vs : List Va, ds = vs.map encV ∧ ∀ v ∈ vs, vOk v = true
  | [], _ => ⟨[], rfl, by simp⟩
  | d :: r, e => by
    obtain ⟨v, rfl⟩ := isValue_enc (e d (by simp))
    obtain ⟨vs, rfl, q⟩ := values_enc (ds := r) fun x hx => e x (by simp [hx])
    refine ⟨v :: vs, rfl, fun x hx => ?_⟩
    rcases List.mem_cons.mp hx with rfl | hx
    · exact e _ (by simp)
    · exact q x hx
structure TOk (t : Tb) : Prop where
  n1 : 1 ≤ t.nm.length
  n4 : t.nm.length ≤ 4
  nn : ∀ x ∈ t.nm, nOk x = true
  nd : t.nm.Nodup
  r4 : t.rw.length ≤ 4
  rl : ∀ r ∈ t.rw, r.length = t.nm.length
  rv : ∀ r ∈ t.rw, ∀ v ∈ r, vOk v = true
section
variable {Ds : List Dfn} {wf k : Nat} {h : Hep} {F : Fs}
def vals6 : List D := [.int 0, .int 1, .str "x", .int 1, .str "x-y", .int (-7)]
theorem vals6_ok : ∀ i, i < 6 → ∃ v, vals6[i]? = some v ∧ isValue v = true
  | 0, _ => ⟨_, rfl, by decide +kernel⟩
  | 1, _ => ⟨_, rfl, by decide +kernel⟩
  | 2, _ => ⟨_, rfl, by decide +kernel⟩
  | 3, _ => ⟨_, rfl, by decide +kernel⟩
  | 4, _ => ⟨_, rfl, by decide +kernel⟩
  | 5, _ => ⟨_, rfl, by decide +kernel⟩
  | n + 6, e => absurd e (by omega)
theorem ab_ok : ∀ i j : Nat, i < 2 → j < 3 → ∃ x y z, idxD (.str "ab") (i : Nat) = some x ∧ mulD (.str "-") (.int (j : Nat)) = some y ∧ addD x y = some z ∧ isValue z = true
  | 0, 0, _, _ => ⟨_, _, _, by rfl, by rfl, by rfl, by decide +kernel⟩
  | 0, 1, _, _ => ⟨_, _, _, by rfl, by rfl, by rfl, by decide +kernel⟩
  | 0, 2, _, _ => ⟨_, _, _, by rfl, by rfl, by rfl, by decide +kernel⟩
  | 1, 0, _, _ => ⟨_, _, _, by rfl, by rfl, by rfl, by decide +kernel⟩
  | 1, 1, _, _ => ⟨_, _, _, by rfl, by rfl, by rfl, by decide +kernel⟩
  | 1, 2, _, _ => ⟨_, _, _, by rfl, by rfl, by rfl, by decide +kernel⟩
  | n + 2, _, e, _ => absurd e (by omega)
  | _, n + 3, _, e => absurd e (by omega)
theorem any_value_ok (o : Ok__law_any_value Ds F) {n : Nat} (hd : Dice h n) : ∃ v h', call Ds wf (k + 3) F.f__law_any_value [.r n] h = .ok (.d v) h' ∧ Dk n h h' ∧ isValue v = true := by
  rw [call_ir o.e rfl]
  obtain ⟨act, h1, e1, k1, a1⟩ := roll_nat (wf := wf) (k := k) o.o__law_roll (many := 8) hd (by decide)
  have d1 := k1.dice hd
  have tk : ∀ {h2 : Hep}, Dk n h h2 → List.take (List.length h) h2 = h2 := fun q => List.take_of_length_le (by rw [q.len]; exact Nat.le_refl _)
  have z6 := sOk (show 6 ≤ 16777216 by decide)
  have e1' : call Ds wf (k + 2) F.f__law_roll [Vl.r n, Vl.d (PyData.int 8)] h = .ok (.d (.int act)) h1 := e1
  by_cases q : act < 6
  · obtain ⟨v, v1, v2⟩ := vals6_ok act q
    refine ⟨v, h1, ?_, k1, v2⟩
    have q' : (act : Int) < 6 := by omega
    have v1' : [PyData.int 0, PyData.int 1, PyData.str "x", PyData.int 1, PyData.str "x-y", PyData.int (-7)][act]? = some v := v1
    simp [ir__law_any_value, e1', q', z6, v1', tk k1]
  · have q' : ¬ (act : Int) < 6 := by omega
    by_cases q6 : act = 6
    · subst q6
      obtain ⟨r, h2, e2, k2, b1⟩ := roll_nat (wf := wf) (k := k) o.o__law_roll (many := 199) d1 (by decide)
      have e2' : call Ds wf (k + 2) F.f__law_roll [Vl.r n, Vl.d (PyData.int 199)] h1 = .ok (.d (.int r)) h2 := e2
      refine ⟨.int (r - 99), h2, ?_, k1.trans k2, ?_⟩
      · simp [ir__law_any_value, e1', e2', tk (k1.trans k2)]
      · simp [isValue, isWhole]
        omega
    · have q6' : ¬ (act : Int) = 6 := by omega
      obtain ⟨i, h2, e2, k2, b1⟩ := roll_nat (wf := wf) (k := k) o.o__law_roll (many := 2) d1 (by decide)
      obtain ⟨j, h3, e3, k3, b2⟩ := roll_nat (wf := wf) (k := k) o.o__law_roll (many := 3) (k2.dice d1) (by decide)
      have e2' : call Ds wf (k + 2) F.f__law_roll [Vl.r n, Vl.d (PyData.int 2)] h1 = .ok (.d (.int i)) h2 := e2
      have e3' : call Ds wf (k + 2) F.f__law_roll [Vl.r n, Vl.d (PyData.int 3)] h2 = .ok (.d (.int j)) h3 := e3
      obtain ⟨x, y, z, x1, y1, z1, v1⟩ := ab_ok i j b1 b2
      exact ⟨z, h3, by simp [ir__law_any_value, e1', e2', e3', q', q6', x1, y1, z1, tk ((k1.trans k2).trans k3)], (k1.trans k2).trans k3, v1⟩
theorem any_row_ok (o : Ok__law_any_row Ds F) {n w : Nat} (hd : Dice h n) (hw : w ≤ 1000) : ∃ (vs : List Va) (h' : Hep), call Ds wf (k + 4) F.f__law_any_row [.r n, .d (.int w)] h = .ok (.d (encW vs)) h' ∧ Dk n h h' ∧ vs.length = w ∧ ∀ v ∈ vs, vOk v = true := by
  rw [call_ir o.e rfl]
  have z1 := sOk (show w ≤ 16777216 by omega)
  have rg := rngV_n (h := h) w (by omega)
  obtain ⟨ys, h1, e1, ⟨k1, d1⟩, l1, p1⟩ := compG_invA (α := Nat) (f := fun a h => putR (call Ds wf (k + 3) F.f__law_any_value [Vl.r n] h)) (fun h1 => Dk n h h1 ∧ Dice h1 n) (fun v => isValue v = true) (l := List.range w) ⟨hd.refl, hd⟩ fun a _ h1 ⟨j1, j2⟩ => by
    obtain ⟨v, h2, e2, k2, v2⟩ := any_value_ok (wf := wf) (k := k) o.o__law_any_value j2
    exact ⟨v, h2, by simp [e2], ⟨j1.trans k2, k2.dice j2⟩, v2⟩
  obtain ⟨vs, rfl, p2⟩ := values_enc p1
  refine ⟨vs, h1, ?_, k1, by simpa using l1, p2⟩
  have tk : List.take (List.length h) h1 = h1 := List.take_of_length_le (by rw [k1.len]; exact Nat.le_refl _)
  simp [ir__law_any_row, rg, z1, e1, tk, encW]
theorem str_ok {x : Str} (e : x.cps.toList.all (fun c => decide (c ∈ smallH.cps.toList)) = true) : PyData.canLay0 (.str x) = true := by
  have key : smallH.cps.toList.all (fun c => decide (c < 1114112)) = true := by decide +kernel
  show x.cps.all (· < 0x110000) = true
  rw [← Array.all_toList]
  rw [List.all_eq_true] at e key ⊢
  intro c hc
  exact key c (of_decide_eq_true (e c hc))
theorem small_H {c : Nat} (e : c ∈ small.cps.toList) : c ∈ smallH.cps.toList := by
  have key : small.cps.toList.all (fun c => decide (c ∈ smallH.cps.toList)) = true := by decide +kernel
  rw [List.all_eq_true] at key
  exact of_decide_eq_true (key c e)
theorem nOk_parts {x : Str} (e : nOk x = true) : 1 ≤ x.length ∧ x.length ≤ 4 ∧ ∀ c ∈ x.cps.toList, c ∈ small.cps.toList := by
  simp only [nOk, isName, isString, Bool.and_eq_true, decide_eq_true_eq, List.all_eq_true] at e
  exact ⟨e.1.1, by omega, e.2⟩
theorem vOk_s {x : Str} (e : vOk (.s x) = true) : 1 ≤ x.length ∧ x.length ≤ 7 ∧ ∀ c ∈ x.cps.toList, c ∈ smallH.cps.toList := by
  simp only [vOk, encV, isValue, isWhole, isString, Bool.false_or, Bool.and_eq_true, decide_eq_true_eq, List.all_eq_true] at e
  exact ⟨e.1.1, by omega, e.2⟩
theorem vOk_i {i : Int} (e : vOk (.i i) = true) : -99 ≤ i ∧ i ≤ 99 := by
  simpa [vOk, encV, isValue, isWhole, isString] using e
theorem nOk_lay {x : Str} (e : nOk x = true) : PyData.canLay0 (.str x) = true := str_ok (by
  rw [List.all_eq_true]
  exact fun c hc => decide_eq_true (small_H ((nOk_parts e).2.2 c hc)))
theorem vOk_lay {v : Va} (e : vOk v = true) : PyData.canLay0 (encV v) = true := by
  cases v with
  | i n => rfl
  | s x => exact str_ok (by
      rw [List.all_eq_true]
      exact fun c hc => decide_eq_true ((vOk_s e).2.2 c hc))
theorem nOk_okd {x : Str} (e : nOk x = true) : Okd 0 (.str x) := ⟨nOk_lay e, Nat.zero_le _⟩
theorem vOk_okd {v : Va} (e : vOk v = true) : Okd 0 (encV v) := ⟨vOk_lay e, by cases v <;> exact Nat.zero_le _⟩
theorem eqv_str (x y : Str) : PyData.eqv (.str x) (.str y) = decide (x = y) := by
  show (x == y) = _
  rfl
theorem eqv_va (x y : Va) : PyData.eqv (encV x) (encV y) = decide (x = y) := by
  cases x <;> cases y <;> simp [encV, PyData.eqv] <;> rfl
theorem eqD_str {x y : Str} (hx : PyData.canLay0 (.str x) = true) (hy : PyData.canLay0 (.str y) = true) : eqD (.str x) (.str y) = some (decide (x = y)) := by
  unfold eqD
  rw [Okd.shp ⟨hx, Nat.zero_le _⟩ (Nat.zero_le _), Okd.shp ⟨hy, Nat.zero_le _⟩ (Nat.zero_le _)]
  rw [eqv_str]
  rfl
theorem eqD_va {x y : Va} (hx : vOk x = true) (hy : vOk y = true) : eqD (encV x) (encV y) = some (decide (x = y)) := by
  unfold eqD
  rw [(vOk_okd hx).shp (Nat.zero_le _), (vOk_okd hy).shp (Nat.zero_le _)]
  rw [eqv_va]
  rfl
theorem len_small {x : Str} {n : Nat} (e : x.length ≤ n) (hn : n ≤ 16777216 := by decide) : szOk x.length = true := sOk (Nat.le_trans e hn)
theorem TOk.okd {t : Tb} (q : TOk t) : Okd 3 (encT t) := by
  refine okd_tup fun x hx => ?_
  rcases List.mem_cons.mp hx with rfl | hx
  · exact (okd_tup (m := 0) fun y hy => by
      obtain ⟨w, hw, rfl⟩ := List.mem_map.mp hy
      exact nOk_okd (q.nn w hw)).mono (by decide)
  · rw [List.mem_singleton.mp hx]
    exact okd_tup fun y hy => by
      obtain ⟨w, hw, rfl⟩ := List.mem_map.mp hy
      exact okd_tup fun z hz => by
        obtain ⟨v, hv, rfl⟩ := List.mem_map.mp hz
        exact vOk_okd (q.rv w hw v hv)
theorem TOk.sz {t : Tb} (q : TOk t) : sz (encT t) = true := by
  refine sz_tup.mpr ⟨by rfl, fun x hx => ?_⟩
  rcases List.mem_cons.mp hx with rfl | hx
  · refine sz_tup.mpr ⟨sOk (by have := q.n4; simp; omega), fun y hy => ?_⟩
    obtain ⟨w, hw, rfl⟩ := List.mem_map.mp hy
    exact sz_str.trans (len_small (nOk_parts (q.nn w hw)).2.1)
  · rw [List.mem_singleton.mp hx]
    refine sz_tup.mpr ⟨sOk (by have := q.r4; simp; omega), fun y hy => ?_⟩
    obtain ⟨w, hw, rfl⟩ := List.mem_map.mp hy
    refine sz_tup.mpr ⟨sOk (by have := q.rl w hw; have := q.n4; simp; omega), fun z hz => ?_⟩
    obtain ⟨v, hv, rfl⟩ := List.mem_map.mp hz
    cases v with
    | i n => rfl
    | s x => exact sz_str.trans (len_small (vOk_s (q.rv w hw _ hv)).2.1)
theorem ded_go {α : Type} [BEq α] [LawfulBEq α] : ∀ (xs a : List α), a.Nodup → (xs.foldl (fun a x => if a.any (· == x) then a else a ++ [x]) a).length ≤ a.length + xs.length ∧ ((xs.foldl (fun a x => if a.any (· == x) then a else a ++ [x]) a).length = a.length + xs.length ↔ (a ++ xs).Nodup)
  | [], a, ha => by simp [ha]
  | x :: r, a, ha => by
    by_cases q : x ∈ a
    · have q' : a.any (· == x) = true := by simpa using q
      have := (ded_go r a ha).1
      simp only [List.foldl_cons, q', if_pos rfl, List.length_cons]
      simp only [if_true]
      refine ⟨by omega, ⟨fun e => by omega, fun e => ?_⟩⟩
      exact absurd rfl ((List.nodup_append.mp e).2.2 x q x (by simp))
    · have q' : a.any (· == x) = false := by
        rw [List.any_eq_false]
        intro y hy e
        exact q (eq_of_beq e ▸ hy)
      have ha2 : (a ++ [x]).Nodup := List.nodup_append.mpr ⟨ha, by simp, fun y hy z hz => by
        rw [List.mem_singleton.mp hz]
        intro e
        exact q (e ▸ hy)⟩
      obtain ⟨i1, i2⟩ := ded_go r (a ++ [x]) ha2
      simp only [List.foldl_cons, q', List.length_cons]
      simp only [Bool.false_eq_true, if_false]
      simp only [List.length_append, List.length_singleton] at i1 i2
      refine ⟨by omega, ?_⟩
      rw [show a.length + (r.length + 1) = a.length + 1 + r.length by omega, i2]
      simp
theorem ded_nodup {α : Type} [BEq α] [LawfulBEq α] (xs : List α) : (ded xs).length = xs.length ↔ xs.Nodup := by
  have := (ded_go xs [] List.nodup_nil).2
  rw [List.length_nil, Nat.zero_add, List.nil_append] at this
  exact this
theorem tab_true {t : Tb} : isTable (encT t) = true ↔ TOk t := by
  unfold encT encN encR
  simp only [isTable_2, tabOk_t, rowsOk_t, ndup_s]
  simp only [Bool.and_eq_true, decide_eq_true_eq, List.all_eq_true, List.length_map, List.mem_map, ded_nodup]
  constructor
  · rintro ⟨⟨⟨⟨a, b⟩, c⟩, d⟩, e, f⟩
    refine ⟨a, b, fun x hx => c _ ⟨x, hx, rfl⟩, d, e, fun r hr => ?_, fun r hr v hv => ?_⟩
    · have := f _ ⟨r, hr, rfl⟩
      simp [isRow, encW] at this
      exact this.1
    · have := f _ ⟨r, hr, rfl⟩
      simp [isRow, encW] at this
      exact this.2 v hv
  · intro q
    refine ⟨⟨⟨⟨q.n1, q.n4⟩, ?_⟩, q.nd⟩, q.r4, ?_⟩
    · rintro x ⟨w, hw, rfl⟩
      exact q.nn w hw
    · rintro x ⟨w, hw, rfl⟩
      simp [isRow, encW]
      exact ⟨q.rl w hw, fun v hv => q.rv w hw v hv⟩
end
end Z

set_option linter.all false
set_option autoImplicit false
set_option maxRecDepth 100000
set_option maxHeartbeats 0
set_option exponentiation.threshold 2000
/-! A5: drawn names and tables. -/
namespace Z
open PySem
section
variable {Ds : List Dfn} {wf k : Nat} {h : Hep} {F : Fs}
theorem hep_at {h1 : Hep} {n : Nat} (e : h1.length = n) (t : Hep) : (h1 ++ t)[n]? = t[0]? := by
  rw [List.getElem?_append_right (by omega)]
  simp [e]
theorem hep_at1 {h1 : Hep} {n : Nat} (e : h1.length = n) (t : Hep) : (h1 ++ t)[n + 1]? = t[1]? := by
  rw [List.getElem?_append_right (by omega)]
  simp [e]
theorem hep_set {h1 : Hep} {n : Nat} (e : h1.length = n) (t : Hep) (x : Ob) : (h1 ++ t).set n x = h1 ++ t.set 0 x := by
  rw [List.set_append_right _ _ (by omega)]
  simp [e]
theorem hep_set1 {h1 : Hep} {n : Nat} (e : h1.length = n) (t : Hep) (x : Ob) : (h1 ++ t).set (n + 1) x = h1 ++ t.set 1 x := by
  rw [List.set_append_right _ _ (by omega)]
  simp [e]
theorem hep_take {h1 : Hep} {n : Nat} (e : h1.length = n) (t : Hep) : (h1 ++ t).take n = h1 := by
  rw [List.take_append_of_le_length (by omega), List.take_of_length_le (by omega)]
theorem hep_take0 {h1 : Hep} {n : Nat} (e : h1.length = n) : h1.take n = h1 := List.take_of_length_le (by omega)
def names5 : List Str := ["a", "b", "c", "bb", "abcd"]
theorem names5_ok : ∀ x ∈ names5, nOk x = true := by decide +kernel
theorem names5_nd : names5.Nodup := by decide +kernel
theorem perm_pick {α : Type} [DecidableEq α] {a l base : List α} {x : α} (p : (a ++ l).Perm base) (nd : base.Nodup) (hx : x ∈ l) : (a ++ [x] ++ l.filter fun y => !decide (y = x)).Perm base := by
  have n1 : l.Nodup := (List.nodup_append.mp (p.nodup_iff.mpr nd)).2.1
  have e : l.filter (fun y => !decide (y = x)) = l.erase x := by
    rw [n1.erase_eq_filter]
    congr 1
  rw [e]
  refine List.Perm.trans ?_ p
  simp only [List.append_assoc, List.singleton_append]
  exact List.Perm.append_left a (List.perm_cons_erase hx).symm
theorem any_names_ok (o : Ok__law_any_names Ds F) {n w : Nat} (hd : Dice h n) (hw : w ≤ 4) : ∃ (ns : List Str) (h' : Hep), call Ds wf (k + 3) F.f__law_any_names [.r n, .d (.int w)] h = .ok (.d (encN ns)) h' ∧ Dk n h h' ∧ ns.length = w ∧ ns.Nodup ∧ (∀ x ∈ ns, nOk x = true) ∧ ∀ x ∈ ns, x ∈ names5 := by
  rw [call_ir o.e rfl]
  have rg := fun h => rngV_n (h := h) w (by omega)
  have z5 := sOk (show 5 ≤ 16777216 by decide)
  obtain ⟨s', h', e, h1, ns, ls, x2, x5, rfl, rfl, k1, l1, p1⟩ := forL_inv (α := Nat) (tg := .nm 2) (body := exec ⟨call Ds wf (k + 2), wf⟩ (.seq
      (.asg 5 (.idx (.var 3) (.call F.f__law_roll (.cons (.var 0) (.cons (.len (.var 3)) .nil)))))
      (.seq
       (.app 4 (.var 5))
       (.seq
        (.asg 3 (.lc (.nm 6) (.itr (.var 3)) (.cmp .ne (.var 6) (.var 5)) (.var 6) [6]))
        .skip))))
    (fun pre s hh => ∃ (h1 : Hep) (ns ls : List Str) (x2 x5 : Option Vl), s = [some (.r n), some (.d (.int w)), x2, some (.d (.list (ls.map PyData.str))), some (.r h.length), x5, none] ∧ hh = h1 ++ [.lst (ns.map PyData.str)] ∧ Dk n h h1 ∧ ns.length = pre.length ∧ (ns ++ ls).Perm names5)
    (fun i : Nat => PyData.int (i : Int)) (l := List.range w) (s := [some (.r n), some (.d (.int w)), none, some (.d (.list (names5.map PyData.str))), some (.r h.length), none, none]) (h := h ++ [.lst []])
    ⟨h, [], names5, none, none, rfl, rfl, hd.refl, rfl, by simp⟩
    (by
      rintro pre x post s hh el ⟨h1, ns, ls, x2, x5, rfl, rfl, k1, l1, p1⟩
      have lp : pre.length < w := by
        have := congrArg List.length el
        simp at this
        omega
      have ll : ls.length ≤ 5 ∧ 1 ≤ ls.length := by
        have := p1.length_eq
        simp [names5] at this
        omega
      obtain ⟨r, h2, e2, k2, r2⟩ := roll_nat (wf := wf) (k := k) o.o__law_roll (many := ls.length) ((k1.dice hd).app [.lst (ns.map PyData.str)]) (by omega) (by omega)
      obtain ⟨h3, rfl, k3⟩ := k2.split (k1.dice hd)
      have lk : ∀ x ∈ ls, PyData.canLay0 (.str x) = true := fun x hx => nOk_lay (names5_ok x (p1.mem_iff.mp (by simp [hx])))
      have el : h3.length = h.length := (k1.trans k3).len
      have el1 : h1.length = h.length := k1.len
      have ge : ls[r]? = some ls[r] := List.getElem?_eq_getElem r2
      have eq1 : ∀ a ∈ ls, eqD (.str a) (.str ls[r]) = some (decide (a = ls[r])) := fun a ha => eqD_str (lk a ha) (lk _ (by simp))
      have z1 := sOk (show ls.length ≤ 16777216 by omega)
      have z2 : ns.length < sizeLine := by
        show ns.length < 16777216
        omega
      refine ⟨_, [some (.r n), some (.d (.int w)), some (.d (.int (x : Nat))), some (.d (.list ((ls.filter fun y => !decide (y = ls[r])).map PyData.str))), some (.r h.length), some (.d (.str ls[r])), none], h3 ++ [.lst ((ns ++ [ls[r]]).map PyData.str)], rfl, ?_, h3, ns ++ [ls[r]], _, _, _, rfl, rfl, k1.trans k3, by simp [l1], perm_pick p1 names5_nd (by simp)⟩
      simp +contextual [toM, e2, ge, hep_at el, hep_at el1, hep_set el, appV, z2, z1, eq1])
  refine ⟨ns, h1, ?_, k1, by simpa using l1, ?_, ?_, ?_⟩
  · have el1 : h1.length = h.length := k1.len
    simp [ir__law_any_names, z5, rg]
    simp [names5] at e
    rw [e]
    simp [peek, hep_at el1, hep_take el1, encN]
  · exact (List.nodup_append.mp (p1.nodup_iff.mpr names5_nd)).1
  · exact fun x hx => names5_ok x (p1.mem_iff.mp (by simp [hx]))
  · exact fun x hx => p1.mem_iff.mp (by simp [hx])
theorem any_table_ok (o : Ok__law_any_table Ds F) {n wide tall : Nat} (hd : Dice h n) (hw : 1 ≤ wide) (hw4 : wide ≤ 4) (ht : tall ≤ 4) : ∃ (t : Tb) (h' : Hep), call Ds wf (k + 5) F.f__law_any_table [.r n, .d (.int wide), .d (.int tall)] h = .ok (.d (encT t)) h' ∧ Dk n h h' ∧ TOk t ∧ t.nm.length ≤ wide ∧ t.rw.length ≤ tall ∧ ∀ x ∈ t.nm, x ∈ names5 := by
  rw [call_ir o.e rfl]
  obtain ⟨r, h1, e1, k1, r1⟩ := roll_nat (wf := wf) (k := k + 2) o.o__law_roll (many := wide) hd (by omega) (by omega)
  obtain ⟨ns, h2, e2, k2, n1, n2, n3, n4⟩ := any_names_ok (wf := wf) (k := k + 1) o.o__law_any_names (k1.dice hd) (w := 1 + r) (by omega)
  have d2 := k2.dice (k1.dice hd)
  obtain ⟨m, h3, e3, k3, m1⟩ := roll_nat (wf := wf) (k := k + 2) o.o__law_roll (many := tall + 1) d2 (by omega) (by omega)
  have d3 := k3.dice d2
  obtain ⟨ys, h4, e4, ⟨k4, d4⟩, l4, p4⟩ := compG_invA (α := Nat) (f := fun a h => putR (call Ds wf (k + 4) F.f__law_any_row [Vl.r n, Vl.d (.int (1 + r : Nat))] h)) (fun h1 => Dk n h3 h1 ∧ Dice h1 n) (fun v => ∃ vs : List Va, v = encW vs ∧ vs.length = 1 + r ∧ ∀ v ∈ vs, vOk v = true) (l := List.range m) ⟨d3.refl, d3⟩ fun a _ h1 ⟨j1, j2⟩ => by
    obtain ⟨v, h2, e2, k2, v2, v3⟩ := any_row_ok (wf := wf) (k := k) o.o__law_any_row j2 (w := 1 + r) (by omega)
    exact ⟨_, h2, by rw [e2]; simp, ⟨j1.trans k2, k2.dice j2⟩, v, rfl, v2, v3⟩
  have ex : ∃ vs : List (List Va), ys = vs.map encW ∧ ∀ v ∈ vs, v.length = 1 + r ∧ ∀ x ∈ v, vOk x = true := by
    clear e4 l4
    induction ys with
    | nil => exact ⟨[], rfl, by simp⟩
    | cons y ys ih =>
      obtain ⟨vs, rfl, a, b⟩ := p4 y (by simp)
      obtain ⟨ws, rfl, c⟩ := ih fun z hz => p4 z (by simp [hz])
      refine ⟨vs :: ws, rfl, fun v hv => ?_⟩
      rcases List.mem_cons.mp hv with rfl | hv
      · exact ⟨a, b⟩
      · exact c v hv
  obtain ⟨vs, rfl, q⟩ := ex
  have kk := ((k1.trans k2).trans k3).trans k4
  have lv : vs.length = m := by simpa using l4
  refine ⟨⟨ns, vs⟩, h4, ?_, kk, ⟨by simp; omega, by simp; omega, n3, n2, by simp; omega, fun r hr => by rw [(q r hr).1]; exact n1.symm, fun r hr => (q r hr).2⟩, by simp; omega, by simp; omega, n4⟩
  have rg := fun h => rngV_n (h := h) m (by omega)
  have z1 := sOk (show m ≤ 16777216 by omega)
  have z2 := sOk (show 2 ≤ 16777216 by omega)
  simp only [Int.natCast_add, Int.cast_ofNat_Int] at e2 e3 e4
  simp [ir__law_any_table, e1, e2, e3, rg, z1]
  rw [e4]
  simp [z2, hep_take0 kk.len, encT, encR]
theorem while_ok {c : Env → Hep → R Vl} {body : Env → Hep → RS} (I : Nat → Env → Hep → Prop) (step : ∀ m s h, I m s h → (c s h = .ok (.d (.bool false)) h ∧ m = 0) ∨ (∃ m', m = m' + 1 ∧ c s h = .ok (.d (.bool true)) h ∧ ∃ s2 h2, body s h = .nx s2 h2 ∧ I m' s2 h2)) : ∀ (m wf : Nat) (s : Env) (h : Hep), m < wf → I m s h → ∃ s' h', whlL c body wf s h = .nx s' h' ∧ I 0 s' h'
  | m, 0, s, h, e, _ => absurd e (by omega)
  | m, wf + 1, s, h, e, i => by
    rcases step m s h i with ⟨e1, rfl⟩ | ⟨m', rfl, e1, s2, h2, e2, i2⟩
    · refine ⟨s, h, ?_, i⟩
      show rb (c s h) _ = _
      rw [e1]
      rfl
    · obtain ⟨s', h', e3, i3⟩ := while_ok I step m' wf s2 h2 (by omega) i2
      refine ⟨s', h', ?_, i3⟩
      show rb (c s h) _ = _
      rw [e1]
      show sb (body s h) _ = _
      rw [e2]
      exact e3
theorem eqD_nil {xs : List D} (hx : shp (.list xs) = true) : eqD (.list xs) (.list []) = some (decide (xs = [])) := by
  have s2 : shp (.list []) = true := by rfl
  unfold eqD
  rw [hx, s2]
  cases xs <;> rfl
theorem shp_nats (l : List Nat) : shp (.list (l.map fun i : Nat => PyData.int (i : Int))) = true := (okd_list (m := 0) fun x hx => by
  obtain ⟨i, _, rfl⟩ := List.mem_map.mp hx
  exact okd_int 0 i).shp (by decide)
theorem lsrV_n (m : Nat) (e : m ≤ 16777216) {h : Hep} : lsrV (.d (.int (m : Nat))) h = .ok (.d (.list ((List.range m).map fun i : Nat => PyData.int (i : Int)))) h := by
  show (if (decide (0 ≤ (m : Int)) && decide ((m : Int) ≤ 16777216)) = true then R.ok (Vl.d (PyData.list (rangeD m))) h else .no) = _
  rw [if_pos, rangeD, Int.toNat_natCast]
  rw [Bool.and_eq_true]
  exact ⟨decide_eq_true (by omega), decide_eq_true (by omega)⟩
theorem shuffled_ok (o : Ok__law_shuffled Ds F) {n m : Nat} (hd : Dice h n) (hm : m ≤ 100) (hw : m < wf) : ∃ (l : List Nat) (h' : Hep), call Ds wf (k + 3) F.f__law_shuffled [.r n, .d (.int m)] h = .ok (.d (.list (l.map fun i : Nat => PyData.int (i : Int)))) h' ∧ Dk n h h' ∧ l.Perm (List.range m) := by
  rw [call_ir o.e rfl]
  obtain ⟨s', h', e, h1, ns, ls, x4, rfl, rfl, k1, l1, p1⟩ := while_ok (c := ev ⟨call Ds wf (k + 2), wf⟩ (.cmp .ne (.var 2) (.lst .nil))) (body := exec ⟨call Ds wf (k + 2), wf⟩ (.seq
      (.asg 4 (.idx (.var 2) (.call F.f__law_roll (.cons (.var 0) (.cons (.len (.var 2)) .nil)))))
      (.seq
       (.app 3 (.var 4))
       (.seq
        (.asg 2 (.lc (.nm 5) (.itr (.var 2)) (.cmp .ne (.var 5) (.var 4)) (.var 5) [5]))
        .skip))))
    (fun c s hh => ∃ (h1 : Hep) (ns ls : List Nat) (x4 : Option Vl), s = [some (.r n), some (.d (.int m)), some (.d (.list (ls.map fun i : Nat => PyData.int (i : Int)))), some (.r h.length), x4, none] ∧ hh = h1 ++ [.lst (ns.map fun i : Nat => PyData.int (i : Int))] ∧ Dk n h h1 ∧ ls.length = c ∧ (ns ++ ls).Perm (List.range m))
    (by
      rintro c s hh ⟨h1, ns, ls, x4, rfl, rfl, k1, l1, p1⟩
      have ll : ls.length + ns.length = m := by
        have := p1.length_eq
        simp at this
        omega
      by_cases q : ls = []
      · subst q
        left
        refine ⟨?_, by simpa using l1.symm⟩
        simp [eqD_nil (shp_nats [])]
        have := eqD_nil (shp_nats [])
        simp at this
        simp [this]
      right
      obtain ⟨r, h2, e2, k2, r2⟩ := roll_nat (wf := wf) (k := k) o.o__law_roll (many := ls.length) ((k1.dice hd).app [.lst (ns.map fun i : Nat => PyData.int (i : Int))]) (List.length_pos_iff.mpr q) (by omega)
      obtain ⟨h3, rfl, k3⟩ := k2.split (k1.dice hd)
      have el : h3.length = h.length := (k1.trans k3).len
      have el1 : h1.length = h.length := k1.len
      have ge : ls[r]? = some ls[r] := List.getElem?_eq_getElem r2
      have z1 := sOk (show ls.length ≤ 16777216 by omega)
      have z2 : ns.length < sizeLine := by
        show ns.length < 16777216
        omega
      have en := eqD_nil (shp_nats ls)
      simp [q] at en
      have pp := perm_pick (x := ls[r]) p1 List.nodup_range (by simp)
      refine ⟨c - 1, by have := List.length_pos_iff.mpr q; omega, by simp [en], [some (.r n), some (.d (.int m)), some (.d (.list ((ls.filter fun y => !decide (y = ls[r])).map fun i : Nat => PyData.int (i : Int)))), some (.r h.length), some (.d (.int (ls[r] : Nat))), none], h3 ++ [.lst ((ns ++ [ls[r]]).map fun i : Nat => PyData.int (i : Int))], ?_, h3, ns ++ [ls[r]], _, _, rfl, rfl, k1.trans k3, ?_, pp⟩
      · simp +contextual [toM, e2, ge, hep_at el, hep_at el1, hep_set el, appV, z2, z1]
        simp only [Int.natCast_inj]
      · have := pp.length_eq
        simp at this
        omega)
    m wf [some (.r n), some (.d (.int m)), some (.d (.list ((List.range m).map fun i : Nat => PyData.int (i : Int)))), some (.r h.length), none, none] (h ++ [.lst []]) hw ⟨h, [], List.range m, none, rfl, rfl, hd.refl, by simp, by simp⟩
  have el1 : h1.length = h.length := k1.len
  have ez : ls = [] := List.length_eq_zero_iff.mp l1
  refine ⟨ns, h1, ?_, k1, by simpa [ez] using p1⟩
  simp [ir__law_shuffled, lsrV_n m (show m ≤ 16777216 by omega), e, fin, hep_at el1, hep_take el1]
end
end Z

set_option linter.all false
set_option autoImplicit false
set_option maxRecDepth 100000
set_option maxHeartbeats 0
set_option exponentiation.threshold 2000
/-! A6: a table near another. -/
namespace Z
open PySem
/-- the n-th statement of a block -/
def nth : S → Nat → S
  | .seq a _, 0 => a
  | .seq _ b, n + 1 => nth b n
  | s, _ => s
def inB : S → S
  | .for_ _ _ b => b
  | .forR _ _ _ b => b
  | .whl _ b => b
  | s => s
@[simp] theorem idxD_T0 (t : Tb) : idxD (encT t) 0 = some (encN t.nm) := (rfl)
@[simp] theorem idxD_T1 (t : Tb) : idxD (encT t) 1 = some (encR t.rw) := (rfl)
@[simp] theorem lenD_T (t : Tb) : lenD (encT t) = some (.int 2) := (rfl)
@[simp] theorem lenD_N (l : List Str) : lenD (encN l) = some (.int l.length) := by simp [encN]
@[simp] theorem lenD_R (l : List (List Va)) : lenD (encR l) = some (.int l.length) := by simp [encR]
@[simp] theorem lenD_W (l : List Va) : lenD (encW l) = some (.int l.length) := by simp [encW]
@[simp] theorem idxD_N (l : List Str) (i : Nat) : idxD (encN l) (i : Nat) = (l[i]?).map PyData.str := by simp [encN]
@[simp] theorem idxD_R (l : List (List Va)) (i : Nat) : idxD (encR l) (i : Nat) = (l[i]?).map encW := by simp [encR]
@[simp] theorem idxD_W (l : List Va) (i : Nat) : idxD (encW l) (i : Nat) = (l[i]?).map encV := by simp [encW]
@[simp] theorem items_N (l : List Str) : items (encN l) = some (l.map PyData.str) := (rfl)
@[simp] theorem items_R (l : List (List Va)) : items (encR l) = some (l.map encW) := (rfl)
@[simp] theorem items_W (l : List Va) : items (encW l) = some (l.map encV) := (rfl)
theorem cut_from {α : Type} (xs : List α) (n : Nat) : cut xs (some (n : Int)) none = xs.drop n := by
  unfold cut
  rw [HT.sIx_nat, HT.sIx_none]
  by_cases q : n ≤ xs.length
  · rw [Nat.min_eq_left q, List.take_of_length_le (by simp)]
  · rw [Nat.min_eq_right (by omega), List.drop_of_length_le (Nat.le_refl _), List.drop_of_length_le (by omega)]
    simp
theorem cut_to {α : Type} (xs : List α) (n : Nat) : cut xs none (some (n : Int)) = xs.take n := by
  unfold cut
  rw [HT.sIx_nat, HT.sIx_none]
  simp
@[simp] theorem cut_1 {α : Type} (xs : List α) : cut xs (some 1) none = xs.drop 1 := cut_from xs 1
theorem take_of_perm {m : Nat} {l : List Nat} (p : l.Perm (List.range m)) : (∀ c ∈ l, c < m) ∧ l.Nodup ∧ l.length = m :=
  ⟨fun c hc => by simpa using p.mem_iff.mp hc, p.nodup_iff.mpr List.nodup_range, by simpa using p.length_eq⟩
theorem hasD_str {x : Str} {l : List Str} (hx : PyData.canLay0 (.str x) = true) (hl : ∀ y ∈ l, PyData.canLay0 (.str y) = true) : innD (.str x) (.list (l.map PyData.str)) = some (decide (x ∈ l)) := by
  show (if _ then _ else _) = _
  rw [Okd.shp ⟨hx, Nat.zero_le _⟩ (Nat.zero_le _), (okd_list (m := 0) (xs := l.map PyData.str) fun y hy => by
    obtain ⟨z, hz, rfl⟩ := List.mem_map.mp hy
    exact ⟨hl z hz, Nat.zero_le _⟩).shp (by decide)]
  simp only [Bool.and_self, if_true, Option.some.injEq, List.any_map]
  rw [Bool.eq_iff_iff, List.any_eq_true, decide_eq_true_eq]
  constructor
  · rintro ⟨y, hy, e⟩
    exact of_decide_eq_true ((eqv_str y x).symm.trans e) ▸ hy
  · exact fun e => ⟨x, e, (eqv_str x x).trans (decide_eq_true rfl)⟩
section
variable {Ds : List Dfn} {wf k : Nat} {h : Hep} {F : Fs}
/-- the name, the cell at a place -/
def nmAt (t : Tb) (c : Nat) : Str := t.nm.getD c ""
def rwAt (t : Tb) (r : Nat) : List Va := t.rw.getD r []
def vAt (t : Tb) (r c : Nat) : Va := (rwAt t r).getD c (.i 0)
theorem nm_at {t : Tb} {c : Nat} (e : c < t.nm.length) : t.nm[c]? = some (nmAt t c) := by
  simp [nmAt, List.getD_eq_getElem?_getD, e]
theorem rw_at {t : Tb} {r : Nat} (e : r < t.rw.length) : t.rw[r]? = some (rwAt t r) := by
  simp [rwAt, List.getD_eq_getElem?_getD, e]
theorem rw_mem {t : Tb} {r : Nat} (e : r < t.rw.length) : rwAt t r ∈ t.rw := List.mem_of_getElem? (rw_at e)
theorem nm_mem {t : Tb} {c : Nat} (e : c < t.nm.length) : nmAt t c ∈ t.nm := List.mem_of_getElem? (nm_at e)
theorem v_at {t : Tb} (ht : TOk t) {r c : Nat} (e : r < t.rw.length) (e2 : c < t.nm.length) : (rwAt t r)[c]? = some (vAt t r c) := by
  have : c < (rwAt t r).length := by rw [ht.rl _ (rw_mem e)]; exact e2
  simp [vAt, List.getD_eq_getElem?_getD, this]
theorem v_ok {t : Tb} (ht : TOk t) {r c : Nat} (e : r < t.rw.length) (e2 : c < t.nm.length) : vOk (vAt t r c) = true := ht.rv _ (rw_mem e) _ (List.mem_of_getElem? (v_at ht e e2))
abbrev nL (l : List Nat) : D := .list (l.map fun i : Nat => PyData.int (i : Int))
@[simp] theorem eqD_nL (l : List Nat) : eqD (nL l) (.list []) = some (decide (l = [])) := by
  rw [eqD_nil (shp_nats l)]
  simp
theorem nodup_map {α β : Type} {f : α → β} {l : List α} (hl : l.Nodup) (hf : ∀ a ∈ l, ∀ b ∈ l, f a = f b → a = b) : (l.map f).Nodup := by
  rw [List.Nodup, List.pairwise_map]
  refine List.Pairwise.imp_of_mem (fun {a b} ha hb ne e => ne (hf a ha b hb e)) hl
theorem near_ok (o : Ok__law_near Ds F) {n : Nat} {t : Tb} (ht : TOk t) (hd : Dice h n) (hw : 4 < wf) : ∃ (u : Tb) (h' : Hep), call Ds wf (k + 4) F.f__law_near [.r n, .d (encT t)] h = .ok (.d (encT u)) h' ∧ Dk n h h' ∧ TOk u ∧ u.nm.length ≤ t.nm.length ∧ u.rw.length ≤ t.rw.length ∧ ∀ x ∈ u.nm, x ∈ t.nm ∨ x = "z" := by
  rw [call_ir o.e rfl]
  generalize hC : (⟨call Ds wf (k + 3), wf⟩ : Cfg) = C
  have cC : C.call = call Ds wf (k + 3) := by rw [← hC]
  have st0 : ∃ (cs os : List Nat) (h1 : Hep), exec C (nth (ir__law_near F).body 0) [some (.r n), some (.d (encT t)), none, none, none, none, none, none] h = .nx [some (.r n), some (.d (encT t)), none, none, some (.d (nL cs)), some (.d (nL os)), none, none] h1 ∧ Dk n h h1 ∧ cs.Perm (List.range t.nm.length) ∧ os.Perm (List.range t.rw.length) := by
    obtain ⟨cs, h1, e1, k1, p1⟩ := shuffled_ok (wf := wf) (k := k) o.o__law_shuffled (m := t.nm.length) hd (by have := ht.n4; omega) (by have := ht.n4; omega)
    obtain ⟨os, h2, e2, k2, p2⟩ := shuffled_ok (wf := wf) (k := k) o.o__law_shuffled (m := t.rw.length) (k1.dice hd) (by have := ht.r4; omega) (by have := ht.r4; omega)
    exact ⟨cs, os, h2, by simp [ir__law_near, nth, cC, e1, e2], k1.trans k2, p1, p2⟩
  obtain ⟨cs0, os0, h1, e0, k1, p1, p2⟩ := st0
  have d1 := k1.dice hd
  obtain ⟨c1, c2, c3⟩ := take_of_perm p1
  obtain ⟨o1, o2, o3⟩ := take_of_perm p2
  have st1 : ∃ (cs : List Nat) (h2 : Hep), exec C (nth (ir__law_near F).body 1) [some (.r n), some (.d (encT t)), none, none, some (.d (nL cs0)), some (.d (nL os0)), none, none] h1 = .nx [some (.r n), some (.d (encT t)), none, none, some (.d (nL cs)), some (.d (nL os0)), none, none] h2 ∧ Dk n h1 h2 ∧ (∀ c ∈ cs, c < t.nm.length) ∧ cs.Nodup ∧ 1 ≤ cs.length ∧ cs.length ≤ t.nm.length := by
    by_cases q : 1 < cs0.length
    · obtain ⟨r, h2, e2, k2, r2⟩ := roll_nat (wf := wf) (k := k + 1) o.o__law_roll (many := 3) d1 (by decide)
      have e2' : C.call F.f__law_roll [Vl.r n, Vl.d (PyData.int 3)] h1 = .ok (.d (.int r)) h2 := by rw [cC]; exact e2
      have q' : (1 : Int) < cs0.length := by omega
      by_cases q0 : r = 0
      · subst q0
        refine ⟨cs0.drop 1, h2, by simp [ir__law_near, nth, e2', q'], k2, fun c hc => c1 c (List.mem_of_mem_drop hc), c2.sublist (List.drop_sublist _ _), by simp; omega, by simp; omega⟩
      · have q0' : ¬ (r : Int) = 0 := by omega
        exact ⟨cs0, h2, by simp [ir__law_near, nth, e2', q', q0], k2, c1, c2, by omega, by omega⟩
    · have q' : ¬ (1 : Int) < cs0.length := by omega
      exact ⟨cs0, h1, by simp [ir__law_near, nth, q'], d1.refl, c1, c2, by have := ht.n1; omega, by omega⟩
  obtain ⟨cs, h2, e1, k2, c1, c2, c3, c4⟩ := st1
  have d2 := k2.dice d1
  have st2 : ∃ (os : List Nat) (h3 : Hep), exec C (nth (ir__law_near F).body 2) [some (.r n), some (.d (encT t)), none, none, some (.d (nL cs)), some (.d (nL os0)), none, none] h2 = .nx [some (.r n), some (.d (encT t)), none, none, some (.d (nL cs)), some (.d (nL os)), none, none] h3 ∧ Dk n h2 h3 ∧ (∀ c ∈ os, c < t.rw.length) ∧ os.length ≤ t.rw.length := by
    by_cases q : os0 = []
    · exact ⟨os0, h2, by simp [ir__law_near, nth, q], d2.refl, o1, by omega⟩
    · obtain ⟨r, h3, e2, k3, r2⟩ := roll_nat (wf := wf) (k := k + 1) o.o__law_roll (many := 3) d2 (by decide)
      have e2' : C.call F.f__law_roll [Vl.r n, Vl.d (PyData.int 3)] h2 = .ok (.d (.int r)) h3 := by rw [cC]; exact e2
      by_cases q0 : r = 0
      · subst q0
        exact ⟨os0.drop 1, h3, by simp [ir__law_near, nth, e2', q], k3, fun c hc => o1 c (List.mem_of_mem_drop hc), by simp; omega⟩
      · have q0' : ¬ (r : Int) = 0 := by omega
        exact ⟨os0, h3, by simp [ir__law_near, nth, e2', q, q0], k3, o1, by omega⟩
  obtain ⟨os, h3, e2, k3, o1, o2⟩ := st2
  have d3 := k3.dice d2
  obtain ⟨nm, enm⟩ : ∃ nm : List Str, nm = cs.map (nmAt t) := ⟨_, rfl⟩
  have gn : ∀ c ∈ cs, t.nm[c]? = some (nmAt t c) := fun c hc => nm_at (c1 c hc)
  have zc := sOk (show cs.length ≤ 16777216 by have := ht.n4; omega)
  have zo := sOk (show os.length ≤ 16777216 by have := ht.r4; omega)
  have st3 : exec C (nth (ir__law_near F).body 3) [some (.r n), some (.d (encT t)), none, none, some (.d (nL cs)), some (.d (nL os)), none, none] h3 = .nx [some (.r n), some (.d (encT t)), some (.r h3.length), none, some (.d (nL cs)), some (.d (nL os)), none, none] (h3 ++ [.lst (nm.map PyData.str)]) := by
    simp +contextual [toM, ir__law_near, nth, zc, gn, enm]
  have nml : ∀ x ∈ nm, x ∈ t.nm := fun x hx => by
    rw [enm] at hx
    obtain ⟨c, hc, rfl⟩ := List.mem_map.mp hx
    exact nm_mem (c1 c hc)
  have nmn : nm.Nodup := by
    rw [enm]
    refine nodup_map c2 fun a ha b hb e => ?_
    have ga := gn a ha
    have gb := gn b hb
    rw [e] at ga
    have la := c1 a ha
    have lb := c1 b hb
    exact (List.getElem?_inj la ht.nd).mp (ga.trans gb.symm)
  have el3 : h3.length = h.length := (((k1.trans k2).trans k3)).len
  have nlay : ∀ x ∈ nm, PyData.canLay0 (.str x) = true := fun x hx => nOk_lay (ht.nn x (nml x hx))
  have zlay : PyData.canLay0 (.str "z") = true := by decide +kernel
  have st4 : ∃ (nm2 : List Str) (h4 : Hep), exec C (nth (ir__law_near F).body 4) [some (.r n), some (.d (encT t)), some (.r h3.length), none, some (.d (nL cs)), some (.d (nL os)), none, none] (h3 ++ [.lst (nm.map PyData.str)]) = .nx [some (.r n), some (.d (encT t)), some (.r h3.length), none, some (.d (nL cs)), some (.d (nL os)), none, none] (h4 ++ [.lst (nm2.map PyData.str)]) ∧ Dk n h3 h4 ∧ nm2.Nodup ∧ (∀ x ∈ nm2, x ∈ t.nm ∨ x = "z") ∧ nm2.length = nm.length := by
    by_cases q : ("z" : Str) ∈ nm
    · exact ⟨nm, h3, by simp [ir__law_near, nth, op2R, peekR, hasD_str zlay nlay, q], d3.refl, nmn, fun x hx => .inl (nml x hx), rfl⟩
    · obtain ⟨r, h4, e4, k4, r4⟩ := roll_nat (wf := wf) (k := k + 1) o.o__law_roll (many := 3) (d3.app [.lst (nm.map PyData.str)]) (by decide)
      obtain ⟨h5, rfl, k5⟩ := k4.split d3
      have e4' : C.call F.f__law_roll [Vl.r n, Vl.d (PyData.int 3)] (h3 ++ [.lst (nm.map PyData.str)]) = .ok (.d (.int r)) (h5 ++ [.lst (nm.map PyData.str)]) := by rw [cC]; exact e4
      by_cases q0 : r = 0
      · subst q0
        refine ⟨nm.set 0 "z", h5, ?_, k5, ?_, fun x hx => ?_, by simp⟩
        · have l0 : 0 < nm.length := by rw [enm, List.length_map]; omega
          simp [ir__law_near, nth, op2R, peekR, hasD_str zlay nlay, q, e4', putV, hep_at k5.len, hep_set k5.len, L2.ixN, l0]
        · cases nm with
          | nil => simp
          | cons a r =>
            simp at q nmn ⊢
            exact ⟨q.2, nmn.2⟩
        · rcases List.mem_or_eq_of_mem_set hx with hx | hx
          · exact .inl (nml x hx)
          · exact .inr hx
      · exact ⟨nm, h5, by simp [ir__law_near, nth, op2R, peekR, hasD_str zlay nlay, q, e4', q0], k5, nmn, fun x hx => .inl (nml x hx), rfl⟩
  obtain ⟨nm2, h4, e4, k4, n1, n2, n3⟩ := st4
  have d4 := k4.dice d3
  have nl2 : nm2.length = cs.length := by rw [n3, enm, List.length_map]
  have gr : ∀ o ∈ os, t.rw[o]? = some (rwAt t o) := fun c hc => rw_at (o1 c hc)
  have gv : ∀ o ∈ os, ∀ c ∈ cs, (rwAt t o)[c]? = some (vAt t o c) := fun o ho c hc => v_at ht (o1 o ho) (c1 c hc)
  obtain ⟨rs, ers⟩ : ∃ rs : List (List Va), rs = os.map fun o => cs.map (vAt t o) := ⟨_, rfl⟩
  have rs1 : ∀ r ∈ rs, r.length = cs.length ∧ ∀ v ∈ r, vOk v = true := fun r hr => by
    rw [ers] at hr
    obtain ⟨o, ho, rfl⟩ := List.mem_map.mp hr
    refine ⟨by simp, fun v hv => ?_⟩
    obtain ⟨c, hc, rfl⟩ := List.mem_map.mp hv
    exact v_ok ht (o1 o ho) (c1 c hc)
  have st5 : exec C (nth (ir__law_near F).body 5) [some (.r n), some (.d (encT t)), some (.r h3.length), none, some (.d (nL cs)), some (.d (nL os)), none, none] (h4 ++ [.lst (nm2.map PyData.str)]) = .nx [some (.r n), some (.d (encT t)), some (.r h3.length), some (.r (h3.length + 1)), some (.d (nL cs)), some (.d (nL os)), none, none] (h4 ++ [.lst (nm2.map PyData.str), .lst (rs.map fun r => .list (r.map encV))]) := by
    have el : h4.length = h3.length := k4.len
    simp +contextual [toM, ir__law_near, nth, zc, zo, gr, gv, ers, el]
  have shr : shp (.list (rs.map fun r => PyData.list (r.map encV))) = true := (okd_list (m := 1) fun x hx => by
    obtain ⟨r, hr, rfl⟩ := List.mem_map.mp hx
    exact okd_list fun y hy => by
      obtain ⟨v, hv, rfl⟩ := List.mem_map.mp hy
      exact vOk_okd ((rs1 r hr).2 v hv)).shp (by decide)
  have enr := eqD_nil shr
  have st6 : ∃ (rs2 : List (List Va)) (h5 : Hep), exec C (nth (ir__law_near F).body 6) [some (.r n), some (.d (encT t)), some (.r h3.length), some (.r (h3.length + 1)), some (.d (nL cs)), some (.d (nL os)), none, none] (h4 ++ [.lst (nm2.map PyData.str), .lst (rs.map fun r => .list (r.map encV))]) = .nx [some (.r n), some (.d (encT t)), some (.r h3.length), some (.r (h3.length + 1)), some (.d (nL cs)), some (.d (nL os)), none, none] (h5 ++ [.lst (nm2.map PyData.str), .lst (rs2.map fun r => .list (r.map encV))]) ∧ Dk n h4 h5 ∧ rs2.length = rs.length ∧ (∀ r ∈ rs2, r.length = cs.length ∧ ∀ v ∈ r, vOk v = true) := by
    have el : h4.length = h3.length := k4.len
    cases rs with
    | nil =>
      simp at enr
      exact ⟨[], h4, by simp [ir__law_near, nth, op2R, peekR, hep_at1 el, enr], d4.refl, rfl, by simp⟩
    | cons r0 rr =>
      simp at enr
      obtain ⟨r, h5, e5, k5, r5⟩ := roll_nat (wf := wf) (k := k + 1) o.o__law_roll (many := 2) (d4.app [.lst (nm2.map PyData.str), .lst ((r0 :: rr).map fun r => .list (r.map encV))]) (by decide)
      obtain ⟨h6, rfl, k6⟩ := k5.split d4
      have e5' : C.call F.f__law_roll [Vl.r n, Vl.d (PyData.int 2)] (h4 ++ [.lst (nm2.map PyData.str), .lst ((r0 :: rr).map fun r => .list (r.map encV))]) = .ok (.d (.int r)) (h6 ++ [.lst (nm2.map PyData.str), .lst ((r0 :: rr).map fun r => .list (r.map encV))]) := by rw [cC]; exact e5
      simp only [List.map_cons] at e5'
      have el6 : h6.length = h3.length := (k4.trans k6).len
      by_cases q0 : r = 0
      · subst q0
        obtain ⟨v, h7, e7, k7, v7⟩ := any_value_ok (wf := wf) (k := k) o.o__law_any_value ((k6.dice d4).app [.lst (nm2.map PyData.str), .lst ((r0 :: rr).map fun r => .list (r.map encV))])
        obtain ⟨h8, rfl, k8⟩ := k7.split (k6.dice d4)
        obtain ⟨va, rfl⟩ := isValue_enc v7
        have e7' : C.call F.f__law_any_value [Vl.r n] (h6 ++ [.lst (nm2.map PyData.str), .lst ((r0 :: rr).map fun r => .list (r.map encV))]) = .ok (.d (encV va)) (h8 ++ [.lst (nm2.map PyData.str), .lst ((r0 :: rr).map fun r => .list (r.map encV))]) := by rw [cC]; exact e7
        simp only [List.map_cons] at e7'
        have el8 : h8.length = h3.length := (k4.trans (k6.trans k8)).len
        obtain ⟨q1, q2⟩ := rs1 r0 (by simp)
        have z9 := sOk (show 1 + (r0.length - 1) ≤ 16777216 by have := ht.n4; omega)
        have z1 : szOk 1 = true := by rfl
        refine ⟨(va :: r0.drop 1) :: rr, h8, ?_, k6.trans k8, by simp, fun r hr => ?_⟩
        · simp [ir__law_near, nth, op2R, op1R, op2, op1, peek, peekR, hep_at1 el, hep_at1 el6, hep_at1 el8, hep_set1 el8, enr, e5', e7', z1, z9, putV, L2.ixN]
        · rcases List.mem_cons.mp hr with rfl | hr
          · refine ⟨by simp; omega, fun v hv => ?_⟩
            rcases List.mem_cons.mp hv with rfl | hv
            · exact v7
            · exact q2 v (List.mem_of_mem_drop hv)
          · exact rs1 r (by simp [hr])
      · exact ⟨r0 :: rr, h6, by simp [ir__law_near, nth, op2R, peekR, hep_at1 el, enr, e5', q0], k6, rfl, rs1⟩
  obtain ⟨rs2, h5, e6, k5, r1, r2⟩ := st6
  have kk := (((k1.trans k2).trans k3).trans k4).trans k5
  have el5 : h5.length = h3.length := (k4.trans k5).len
  have rl : rs2.length = os.length := by rw [r1, ers, List.length_map]
  have zr := sOk (show rs2.length ≤ 16777216 by have := ht.r4; omega)
  have z2 : szOk 2 = true := by rfl
  have st7 : exec C (nth (ir__law_near F).body 7) [some (.r n), some (.d (encT t)), some (.r h3.length), some (.r (h3.length + 1)), some (.d (nL cs)), some (.d (nL os)), none, none] (h5 ++ [.lst (nm2.map PyData.str), .lst (rs2.map fun r => .list (r.map encV))]) = .rt (.d (encT ⟨nm2, rs2⟩)) (h5 ++ [.lst (nm2.map PyData.str), .fz (rs2.map fun r => .list (r.map encV))]) := by
    simp [ir__law_near, nth, peek, keep, kept, hep_at el5, hep_at1 el5, hep_set1 el5, zr, z2, encT, encN, encR, encW]
  refine ⟨⟨nm2, rs2⟩, h5, ?_, kk, ⟨by simp; omega, by simp; have := ht.n4; omega, fun x hx => ?_, n1, by simp; have := ht.r4; omega, fun r hr => by rw [(r2 r hr).1]; exact nl2.symm, fun r hr => (r2 r hr).2⟩, by simp; omega, by simp; omega, n2⟩
  · have eb : (ir__law_near F).body = .seq (nth (ir__law_near F).body 0) (.seq (nth (ir__law_near F).body 1) (.seq (nth (ir__law_near F).body 2) (.seq (nth (ir__law_near F).body 3) (.seq (nth (ir__law_near F).body 4) (.seq (nth (ir__law_near F).body 5) (.seq (nth (ir__law_near F).body 6) (.seq (nth (ir__law_near F).body 7) .skip))))))) := rfl
    have es : List.map some [Vl.r n, Vl.d (encT t)] ++ List.replicate ((ir__law_near F).ns - (ir__law_near F).ps) none = [some (Vl.r n), some (Vl.d (encT t)), none, none, none, none, none, none] := rfl
    rw [es, eb]
    simp only [ex_seq, e0, e1, e2, st3, e4, st5, e6, st7, sb_nx, sb_rt, finS_rt, fin_dA]
    rw [hep_take kk.len]
  · rcases n2 x hx with q | q
    · exact ht.nn x q
    · rw [q]
      decide +kernel
end
end Z

set_option linter.all false
set_option autoImplicit false
set_option maxRecDepth 100000
set_option maxHeartbeats 0
set_option exponentiation.threshold 2000
/-! A7: drawn weights, two tables. -/
namespace Z
open PySem
section
variable {Ds : List Dfn} {wf k : Nat} {h : Hep} {F : Fs}
/-- a tuple of numbers -/
abbrev nT (l : List Nat) : D := .tuple (l.map fun i : Nat => PyData.int (i : Int))
structure WOk (w : List Nat) : Prop where
  l5 : w.length = 5
  lo : ∀ x ∈ w, 1 ≤ x
  hi : ∀ x ∈ w, x ≤ 9
def ws6 : List Nat := [1, 2, 3, 1, 5, 9]
theorem any_weights_ok (o : Ok__law_any_weights Ds F) {n : Nat} (hd : Dice h n) : ∃ (w : List Nat) (h' : Hep), call Ds wf (k + 3) F.f__law_any_weights [.r n] h = .ok (.d (nT w)) h' ∧ Dk n h h' ∧ WOk w := by
  rw [call_ir o.e rfl]
  have z6 : szOk 6 = true := by rfl
  have z5 : szOk 5 = true := by rfl
  obtain ⟨ys, h1, e1, ⟨k1, d1⟩, l1, p1⟩ := compG_invA (α := Nat) (f := fun a h => putR (bnd (call Ds wf (k + 2) F.f__law_roll [Vl.r n, Vl.d (PyData.int 6)] h) fun y h2 => idxV (Vl.d (.list [.int 1, .int 2, .int 3, .int 1, .int 5, .int 9])) y h2)) (fun h1 => Dk n h h1 ∧ Dice h1 n) (fun v => ∃ i : Nat, v = .int (i : Int) ∧ 1 ≤ i ∧ i ≤ 9) (l := List.range 5) ⟨hd.refl, hd⟩ fun a _ h1 ⟨j1, j2⟩ => by
    obtain ⟨r, h2, e2, k2, r2⟩ := roll_nat (wf := wf) (k := k) o.o__law_roll (many := 6) j2 (by decide)
    have e2' : call Ds wf (k + 2) F.f__law_roll [Vl.r n, Vl.d (PyData.int 6)] h1 = .ok (.d (.int r)) h2 := e2
    have key : ∀ r, r < 6 → ∃ i : Nat, [PyData.int 1, .int 2, .int 3, .int 1, .int 5, .int 9][r]? = some (.int (i : Int)) ∧ 1 ≤ i ∧ i ≤ 9
      | 0, _ => ⟨1, rfl, by decide, by decide⟩
      | 1, _ => ⟨2, rfl, by decide, by decide⟩
      | 2, _ => ⟨3, rfl, by decide, by decide⟩
      | 3, _ => ⟨1, rfl, by decide, by decide⟩
      | 4, _ => ⟨5, rfl, by decide, by decide⟩
      | 5, _ => ⟨9, rfl, by decide, by decide⟩
      | r + 6, e => absurd e (by omega)
    obtain ⟨i, e3, i1, i9⟩ := key r r2
    exact ⟨.int i, h2, by simp [e2', e3], ⟨j1.trans k2, k2.dice j2⟩, i, rfl, i1, i9⟩
  have ex : ∃ vs : List Nat, ys = vs.map (fun i : Nat => PyData.int (i : Int)) ∧ ∀ v ∈ vs, 1 ≤ v ∧ v ≤ 9 := by
    clear e1 l1
    induction ys with
    | nil => exact ⟨[], rfl, by simp⟩
    | cons y ys ih =>
      obtain ⟨i, rfl, a, b⟩ := p1 y (by simp)
      obtain ⟨ws, rfl, c⟩ := ih fun z hz => p1 z (by simp [hz])
      refine ⟨i :: ws, rfl, fun v hv => ?_⟩
      rcases List.mem_cons.mp hv with rfl | hv
      · exact ⟨a, b⟩
      · exact c v hv
  obtain ⟨vs, rfl, q⟩ := ex
  refine ⟨vs, h1, ?_, k1, ⟨by simpa using l1, fun x hx => (q x hx).1, fun x hx => (q x hx).2⟩⟩
  have rg : rngV (Vl.d (PyData.int 5)) h = R.ok ((List.range 5).map fun i : Nat => PyData.int (i : Int)) h := rngV_n (h := h) 5 (by omega)
  simp [ir__law_any_weights, rg, z5, z6]
  rw [e1]
  simp [hep_take0 k1.len]
theorem isW_ok {w : List Nat} (q : WOk w) : isW (nT w) = true := by
  simp [isW, isWhole, q.l5]
  intro x hx
  have := q.lo x hx
  have := q.hi x hx
  omega
def encTT (a b : Tb) : D := .tuple [encT a, encT b]
theorem any_two_ok (o : Ok__law_any_two Ds F) {n wide tall : Nat} (hd : Dice h n) (hw : 1 ≤ wide) (hw4 : wide ≤ 4) (ht : tall ≤ 4) (hf : 4 < wf) : ∃ (t u : Tb) (h' : Hep), call Ds wf (k + 6) F.f__law_any_two [.r n, .d (.int wide), .d (.int tall)] h = .ok (.d (encTT t u)) h' ∧ Dk n h h' ∧ TOk t ∧ TOk u ∧ t.nm.length ≤ wide ∧ t.rw.length ≤ tall ∧ u.nm.length ≤ wide ∧ u.rw.length ≤ tall ∧ (∀ x ∈ t.nm, x ∈ names5) ∧ (∀ x ∈ u.nm, x ∈ names5 ∨ x = "z") := by
  rw [call_ir o.e rfl]
  obtain ⟨t, h1, e1, k1, t1, t2, t3, t4⟩ := any_table_ok (wf := wf) (k := k) o.o__law_any_table hd hw hw4 ht
  obtain ⟨r, h2, e2, k2, r2⟩ := roll_nat (wf := wf) (k := k + 3) o.o__law_roll (many := 3) (k1.dice hd) (by decide)
  have d2 := k2.dice (k1.dice hd)
  have e2' : call Ds wf (k + 5) F.f__law_roll [Vl.r n, Vl.d (PyData.int 3)] h1 = .ok (.d (.int r)) h2 := e2
  have z2 : szOk 2 = true := by rfl
  by_cases q : 0 < r
  · obtain ⟨u, h3, e3, k3, u1, u2, u3, u4⟩ := near_ok (wf := wf) (k := k + 1) o.o__law_near t1 d2 hf
    have kk := (k1.trans k2).trans k3
    refine ⟨t, u, h3, ?_, kk, t1, u1, t2, t3, by omega, by omega, t4, fun x hx => ?_⟩
    · simp [ir__law_any_two, e1, e2', q, e3, z2, hep_take0 kk.len, encTT]
    · rcases u4 x hx with q | q
      · exact .inl (t4 x q)
      · exact .inr q
  · obtain ⟨u, h3, e3, k3, u1, u2, u3, u4⟩ := any_table_ok (wf := wf) (k := k) o.o__law_any_table d2 hw hw4 ht
    have kk := (k1.trans k2).trans k3
    have q' : r = 0 := by omega
    subst q'
    exact ⟨t, u, h3, by simp [ir__law_any_two, e1, e2', e3, z2, hep_take0 kk.len, encTT], kk, t1, u1, t2, t3, u2, u3, t4, fun x hx => .inl (u4 x hx)⟩
end
end Z

set_option linter.all false
set_option autoImplicit false
/-! P1: pairings, plainly. -/
namespace Pl
abbrev Pr := Nat × Nat
abbrev Pg := List Pr
/-- the pairings of c places from i on with the places os -/
def fromP : Nat → Nat → List Nat → List Pg
  | 0, _, _ => [[]]
  | c + 1, i, os => fromP c (i + 1) os ++ os.flatMap fun j => (fromP c (i + 1) (os.filter fun x => !decide (x = j))).map fun p => (i, j) :: p
/-- .. place by place -/
def lawP (n : Nat) : Nat → List Pg
  | 0 => [[]]
  | i + 1 => (lawP n i).flatMap fun p => p :: ((List.range n).filter fun j => !decide (j ∈ p.map (·.2))).map fun j => p ++ [(i, j)]
structure IsP (m n : Nat) (p : Pg) : Prop where
  b1 : ∀ x ∈ p, x.1 < m
  b2 : ∀ x ∈ p, x.2 < n
  up : p.Pairwise fun a b => a.1 < b.1
  nd : (p.map (·.2)).Nodup
theorem mem_fromP : ∀ {c i : Nat} {os : List Nat} {p : Pg}, p ∈ fromP c i os ↔ (∀ x ∈ p, i ≤ x.1 ∧ x.1 < i + c) ∧ (∀ x ∈ p, x.2 ∈ os) ∧ (p.Pairwise fun a b => a.1 < b.1) ∧ (p.map (·.2)).Nodup
  | 0, i, os, p => by
    simp only [fromP, List.mem_singleton]
    constructor
    · rintro rfl
      simp
    · rintro ⟨h, _⟩
      cases p with
      | nil => rfl
      | cons x r =>
        have := h x (by simp)
        omega
  | c + 1, i, os, p => by
    simp only [fromP, List.mem_append, List.mem_flatMap, List.mem_map, mem_fromP (c := c)]
    constructor
    · rintro (⟨a, b, d, e⟩ | ⟨j, hj, q, ⟨a, b, d, e⟩, rfl⟩)
      · exact ⟨fun x hx => by have := a x hx; omega, b, d, e⟩
      · refine ⟨fun x hx => ?_, fun x hx => ?_, ?_, ?_⟩
        · rcases List.mem_cons.mp hx with rfl | hx
          · simp
          · have := a x hx
            omega
        · rcases List.mem_cons.mp hx with rfl | hx
          · exact hj
          · exact (List.mem_filter.mp (b x hx)).1
        · exact List.pairwise_cons.mpr ⟨fun y hy => by have := a y hy; simp; omega, d⟩
        · rw [List.map_cons, List.nodup_cons]
          refine ⟨fun hm => ?_, e⟩
          obtain ⟨y, hy, ey⟩ := List.mem_map.mp hm
          have := (List.mem_filter.mp (b y hy)).2
          simp at this
          exact this ey
    · rintro ⟨a, b, d, e⟩
      cases p with
      | nil => exact .inl ⟨by simp, by simp, by simp, by simp⟩
      | cons x r =>
        obtain ⟨d1, d2⟩ := List.pairwise_cons.mp d
        rw [List.map_cons, List.nodup_cons] at e
        have ax := a x (by simp)
        by_cases q : x.1 = i
        · right
          refine ⟨x.2, b x (by simp), r, ⟨fun y hy => ?_, fun y hy => ?_, d2, e.2⟩, by rw [← q]⟩
          · have := a y (by simp [hy])
            have := d1 y hy
            omega
          · refine List.mem_filter.mpr ⟨b y (by simp [hy]), ?_⟩
            simp
            intro ey
            exact e.1 (List.mem_map.mpr ⟨y, hy, ey⟩)
        · left
          refine ⟨fun y hy => ?_, b, d, by rw [List.map_cons, List.nodup_cons]; exact e⟩
          have := a y hy
          rcases List.mem_cons.mp hy with rfl | hy'
          · omega
          · have := d1 y hy'
            omega
theorem fromP_isP {m n : Nat} {p : Pg} : p ∈ fromP m 0 (List.range n) ↔ IsP m n p := by
  rw [mem_fromP]
  constructor
  · rintro ⟨a, b, c, d⟩
    exact ⟨fun x hx => by have := a x hx; omega, fun x hx => by simpa using b x hx, c, d⟩
  · rintro ⟨a, b, c, d⟩
    exact ⟨fun x hx => by have := a x hx; omega, fun x hx => by simpa using b x hx, c, d⟩
theorem nodup_flatMap {α β : Type} {f : α → List β} : ∀ {l : List α}, l.Nodup → (∀ a ∈ l, (f a).Nodup) → (∀ a ∈ l, ∀ b ∈ l, a ≠ b → ∀ x ∈ f a, x ∉ f b) → (l.flatMap f).Nodup
  | [], _, _, _ => by simp
  | a :: l, n, h1, h2 => by
    rw [List.nodup_cons] at n
    rw [List.flatMap_cons, List.nodup_append]
    refine ⟨h1 a (by simp), nodup_flatMap n.2 (fun b hb => h1 b (by simp [hb])) (fun b hb c hc => h2 b (by simp [hb]) c (by simp [hc])), ?_⟩
    intro x hx y hy e
    subst e
    obtain ⟨b, hb, hxb⟩ := List.mem_flatMap.mp hy
    exact h2 a (by simp) b (by simp [hb]) (fun e => n.1 (e ▸ hb)) x hx hxb
theorem nodup_map {α β : Type} {f : α → β} {l : List α} (hl : l.Nodup) (hf : ∀ a ∈ l, ∀ b ∈ l, f a = f b → a = b) : (l.map f).Nodup := by
  rw [List.Nodup, List.pairwise_map]
  refine List.Pairwise.imp_of_mem (fun {a b} ha hb ne e => ne (hf a ha b hb e)) hl
theorem nodup_fromP : ∀ {c i : Nat} {os : List Nat}, os.Nodup → (fromP c i os).Nodup
  | 0, _, _, _ => by simp [fromP]
  | c + 1, i, os, n => by
    rw [fromP, List.nodup_append]
    refine ⟨nodup_fromP n, nodup_flatMap n (fun j _ => nodup_map (nodup_fromP (n.filter _)) fun a _ b _ e => by simpa using e) ?_, ?_⟩
    · rintro a _ b _ ne x hx hy
      obtain ⟨p, _, rfl⟩ := List.mem_map.mp hx
      obtain ⟨q, _, e⟩ := List.mem_map.mp hy
      simp at e
      exact ne e.1.symm
    · rintro x hx y hy rfl
      obtain ⟨j, _, hj⟩ := List.mem_flatMap.mp hy
      obtain ⟨p, _, rfl⟩ := List.mem_map.mp hj
      have := (mem_fromP.mp hx).1 (i, j) (by simp)
      simp at this
      omega
theorem mem_lawP {n : Nat} : ∀ {m : Nat} {p : Pg}, p ∈ lawP n m ↔ IsP m n p
  | 0, p => by
    simp only [lawP, List.mem_singleton]
    constructor
    · rintro rfl
      exact ⟨by simp, by simp, by simp, by simp⟩
    · rintro ⟨h, _⟩
      cases p with
      | nil => rfl
      | cons x r =>
        have := h x (by simp)
        omega
  | m + 1, p => by
    simp only [lawP, List.mem_flatMap, List.mem_cons, List.mem_map, List.mem_filter, List.mem_range, mem_lawP (m := m)]
    constructor
    · rintro ⟨q, hq, (rfl | ⟨j, ⟨hj, hn⟩, rfl⟩)⟩
      · exact ⟨fun x hx => by have := hq.b1 x hx; omega, hq.b2, hq.up, hq.nd⟩
      · refine ⟨fun x hx => ?_, fun x hx => ?_, ?_, ?_⟩
        · rcases List.mem_append.mp hx with hx | hx
          · have := hq.b1 x hx
            omega
          · rw [List.mem_singleton.mp hx]
            simp
        · rcases List.mem_append.mp hx with hx | hx
          · exact hq.b2 x hx
          · rw [List.mem_singleton.mp hx]
            exact hj
        · rw [List.pairwise_append]
          exact ⟨hq.up, by simp, fun a ha b hb => by rw [List.mem_singleton.mp hb]; exact hq.b1 a ha⟩
        · rw [List.map_append, List.nodup_append]
          refine ⟨hq.nd, by simp, fun a ha b hb e => ?_⟩
          simp only [List.map_cons, List.map_nil, List.mem_singleton] at hb
          subst e hb
          simp only [Bool.not_eq_true', decide_eq_false_iff_not] at hn
          exact hn (List.mem_map.mp ha)
    · intro hp
      by_cases q : ∀ x ∈ p, x.1 < m
      · exact ⟨p, ⟨q, hp.b2, hp.up, hp.nd⟩, .inl rfl⟩
      · rcases List.eq_nil_or_concat p with rfl | ⟨r, x, rfl⟩
        · exact absurd (by simp) q
        · rw [List.concat_eq_append] at hp q ⊢
          obtain ⟨u1, u2, u3⟩ := List.pairwise_append.mp hp.up
          have nd := hp.nd
          rw [List.map_append, List.nodup_append] at nd
          have xm : x.1 = m := by
            have := hp.b1 x (by simp)
            refine Nat.le_antisymm (by omega) (Nat.not_lt.mp fun lt => q fun y hy => ?_)
            rcases List.mem_append.mp hy with hy | hy
            · have := u3 y hy x (by simp)
              omega
            · rw [List.mem_singleton.mp hy]
              exact lt
          refine ⟨r, ⟨fun y hy => by have := u3 y hy x (by simp); omega, fun y hy => hp.b2 y (by simp [hy]), u1, nd.1⟩, .inr ⟨x.2, ⟨hp.b2 x (by simp), ?_⟩, by rw [← xm]⟩⟩
          simp only [Bool.not_eq_true', decide_eq_false_iff_not]
          intro hm
          exact nd.2.2 _ (List.mem_map.mpr hm) x.2 (by simp) rfl
theorem nodup_lawP {n : Nat} : ∀ m : Nat, (lawP n m).Nodup
  | 0 => by simp [lawP]
  | m + 1 => by
    rw [lawP]
    refine nodup_flatMap (nodup_lawP m) (fun p hp => ?_) ?_
    · rw [List.nodup_cons]
      refine ⟨fun h => ?_, nodup_map (List.nodup_range.filter _) fun a _ b _ e => by simpa using e⟩
      obtain ⟨j, _, e⟩ := List.mem_map.mp h
      have := congrArg List.length e
      simp at this
    · intro a ha b hb ne x hx hy
      have key : ∀ {a x : Pg}, a ∈ lawP n m → (x ∈ a :: ((List.range n).filter fun j => !decide (j ∈ a.map (·.2))).map fun j => a ++ [(m, j)]) → x.filter (fun z => decide (z.1 < m)) = a := fun {a x} ha hx => by
        have fa : a.filter (fun z => decide (z.1 < m)) = a := List.filter_eq_self.mpr fun z hz => decide_eq_true ((mem_lawP.mp ha).b1 z hz)
        rcases List.mem_cons.mp hx with rfl | hx
        · exact fa
        · obtain ⟨j, _, rfl⟩ := List.mem_map.mp hx
          rw [List.filter_append, fa]
          simp
      exact ne ((key ha hx).symm.trans (key hb hy))
theorem perm_both (m n : Nat) : (lawP n m).Perm (fromP m 0 (List.range n)) := by
  rw [List.perm_ext_iff_of_nodup (nodup_lawP m) (nodup_fromP List.nodup_range)]
  intro p
  rw [mem_lawP, fromP_isP]
theorem len_fromP : ∀ {c i : Nat} {os : List Nat}, os.length ≤ 4 → (fromP c i os).length ≤ 5 ^ c
  | 0, _, _, _ => by simp [fromP]
  | c + 1, i, os, e => by
    rw [fromP, List.length_append, List.length_flatMap]
    have h1 := len_fromP (c := c) (i := i + 1) e
    have h2 : (os.map fun j => ((fromP c (i + 1) (os.filter fun x => !decide (x = j))).map fun p => (i, j) :: p).length).sum ≤ os.length * 5 ^ c := by
      have : ∀ (l : List Nat), (l.map fun j => ((fromP c (i + 1) (os.filter fun x => !decide (x = j))).map fun p => (i, j) :: p).length).sum ≤ l.length * 5 ^ c := fun l => by
        induction l with
        | nil => simp
        | cons a l ih =>
          have := len_fromP (c := c) (i := i + 1) (os := os.filter fun x => !decide (x = a)) (Nat.le_trans (List.length_filter_le _ _) e)
          simp only [List.map_cons, List.sum_cons, List.length_map, List.length_cons, Nat.add_mul] at ih ⊢
          omega
      exact this os
    have h3 : os.length * 5 ^ c ≤ 4 * 5 ^ c := Nat.mul_le_mul_right _ e
    rw [Nat.pow_succ]
    omega
end Pl

set_option linter.all false
set_option autoImplicit false
/-! P2: longest ascending parts. -/
namespace Pl
def at0 (l : List Nat) (i : Nat) : Nat := l.getD i 0
/-- places of an ascending part -/
structure Run (ends : List Nat) (r : List Nat) : Prop where
  up : r.Pairwise fun a b => a < b ∧ at0 ends a < at0 ends b
  lt : ∀ a ∈ r, a < ends.length
def pick (l r : List Nat) : List Nat := if r.length > l.length then r else l
def bestB (ends : List Nat) (runs : List (List Nat)) (e p : Nat) : List Nat := (List.range p).foldl (fun b o => if at0 ends o < e ∧ (runs.getD o []).length > b.length then runs.getD o [] else b) []
def runsOf (ends : List Nat) : Nat → List (List Nat)
  | 0 => []
  | p + 1 => runsOf ends p ++ [bestB ends (runsOf ends p) (at0 ends p) p ++ [p]]
def longestRun (ends : List Nat) : List Nat := (runsOf ends ends.length).foldl pick []
def maxN : List Nat → Nat
  | [] => 0
  | x :: r => max x (maxN r)
def lawL (ends : List Nat) : Nat → List Nat
  | 0 => []
  | p + 1 => lawL ends p ++ [1 + maxN (((List.range p).filter fun o => decide (at0 ends o < at0 ends p)).map fun o => (lawL ends p).getD o 0)]
def lawRun (ends : List Nat) : Nat := maxN (lawL ends ends.length)
theorem len_runsOf (ends : List Nat) : ∀ p, (runsOf ends p).length = p
  | 0 => rfl
  | p + 1 => by simp [runsOf, len_runsOf ends p]
theorem len_lawL (ends : List Nat) : ∀ p, (lawL ends p).length = p
  | 0 => rfl
  | p + 1 => by simp [lawL, len_lawL ends p]
theorem le_maxN {x : Nat} : ∀ {l : List Nat}, x ∈ l → x ≤ maxN l
  | y :: l, h => by
    rcases List.mem_cons.mp h with rfl | h
    · exact Nat.le_max_left _ _
    · exact Nat.le_trans (le_maxN h) (Nat.le_max_right _ _)
theorem maxN_mem : ∀ {l : List Nat}, maxN l = 0 ∨ maxN l ∈ l
  | [] => .inl rfl
  | y :: l => by
    by_cases q : maxN l ≤ y
    · right
      simp [maxN, Nat.max_eq_left q]
    · have e : max y (maxN l) = maxN l := Nat.max_eq_right (by omega)
      rcases maxN_mem (l := l) with h | h
      · omega
      · right
        rw [maxN, e]
        exact List.mem_cons_of_mem _ h
theorem maxN_le {b : Nat} : ∀ {l : List Nat}, (∀ x ∈ l, x ≤ b) → maxN l ≤ b
  | [], _ => Nat.zero_le _
  | y :: l, h => Nat.max_le.mpr ⟨h y (by simp), maxN_le fun x hx => h x (by simp [hx])⟩
theorem maxN_append (l m : List Nat) : maxN (l ++ m) = max (maxN l) (maxN m) := by
  induction l with
  | nil => simp [maxN]
  | cons a l ih => simp [maxN, ih]
/-- a run that ends at q -/
def RunTo (ends : List Nat) (q : Nat) (r : List Nat) : Prop := Run ends (r ++ [q])
theorem run_concat {ends r : List Nat} {q : Nat} : Run ends (r ++ [q]) ↔ Run ends r ∧ q < ends.length ∧ ∀ a ∈ r, a < q ∧ at0 ends a < at0 ends q := by
  constructor
  · rintro ⟨a, b⟩
    obtain ⟨u1, u2, u3⟩ := List.pairwise_append.mp a
    exact ⟨⟨u1, fun x hx => b x (by simp [hx])⟩, b q (by simp), fun x hx => u3 x hx q (by simp)⟩
  · rintro ⟨⟨a, b⟩, c, d⟩
    refine ⟨List.pairwise_append.mpr ⟨a, by simp, fun x hx y hy => by rw [List.mem_singleton.mp hy]; exact d x hx⟩, fun x hx => ?_⟩
    rcases List.mem_append.mp hx with hx | hx
    · exact b x hx
    · rw [List.mem_singleton.mp hx]
      exact c
theorem run_last {ends r : List Nat} {q o : Nat} (h : Run ends ((r ++ [o]) ++ [q])) : Run ends (r ++ [o]) ∧ o < q ∧ at0 ends o < at0 ends q := by
  obtain ⟨a, b, c⟩ := run_concat.mp h
  exact ⟨a, c o (by simp)⟩
theorem run_ext {ends r : List Nat} {q o : Nat} (h : Run ends (r ++ [o])) (lt : o < q) (hq : q < ends.length) (he : at0 ends o < at0 ends q) : Run ends ((r ++ [o]) ++ [q]) := by
  refine run_concat.mpr ⟨h, hq, fun a ha => ?_⟩
  rcases List.mem_append.mp ha with ha | ha
  · have := (run_concat.mp h).2.2 a ha
    omega
  · rw [List.mem_singleton.mp ha]
    exact ⟨lt, he⟩
/-- the pick over candidates: one of them or the start, not shorter than any -/
theorem foldPick (c : Nat → Prop) [DecidablePred c] (f : Nat → List Nat) : ∀ (l : List Nat) (b : List Nat), (∃ x, l.foldl (fun b o => if c o ∧ (f o).length > b.length then f o else b) b = x ∧ (x = b ∨ ∃ o ∈ l, c o ∧ x = f o) ∧ b.length ≤ x.length ∧ ∀ o ∈ l, c o → (f o).length ≤ x.length)
  | [], b => ⟨b, rfl, .inl rfl, Nat.le_refl _, by simp⟩
  | o :: l, b => by
    rw [List.foldl_cons]
    obtain ⟨x, e, h1, h2, h3⟩ := foldPick c f l (if c o ∧ (f o).length > b.length then f o else b)
    refine ⟨x, e, ?_, ?_, ?_⟩
    · rcases h1 with rfl | ⟨p, hp, cp, rfl⟩
      · by_cases q : c o ∧ (f o).length > b.length
        · rw [if_pos q]
          exact .inr ⟨o, by simp, q.1, rfl⟩
        · rw [if_neg q]
          exact .inl rfl
      · exact .inr ⟨p, by simp [hp], cp, rfl⟩
    · by_cases q : c o ∧ (f o).length > b.length
      · rw [if_pos q] at h2
        omega
      · rw [if_neg q] at h2
        exact h2
    · intro p hp cp
      rcases List.mem_cons.mp hp with rfl | hp
      · by_cases q : c p ∧ (f p).length > b.length
        · rw [if_pos q] at h2
          exact h2
        · rw [if_neg q] at h2
          have : ¬ (f p).length > b.length := fun h => q ⟨cp, h⟩
          omega
      · exact h3 p hp cp
/-- the state of both tables -/
structure Tabs (ends : List Nat) (p : Nat) : Prop where
  ok : ∀ q, q < p → ∃ r, (runsOf ends p).getD q [] = r ++ [q] ∧ Run ends (r ++ [q])
  mx : ∀ q, q < p → ∀ r, Run ends (r ++ [q]) → (r ++ [q]).length ≤ ((runsOf ends p).getD q []).length
  ln : ∀ q, q < p → (lawL ends p).getD q 0 = ((runsOf ends p).getD q []).length
theorem getD_old {α : Type} {l : List α} {x d : α} {q : Nat} (h : q < l.length) : (l ++ [x]).getD q d = l.getD q d := by
  simp [List.getD_eq_getElem?_getD, List.getElem?_append_left h]
theorem getD_new {α : Type} {l : List α} {x d : α} {q : Nat} (h : q = l.length) : (l ++ [x]).getD q d = x := by
  subst h
  simp [List.getD_eq_getElem?_getD]
theorem tabs (ends : List Nat) : ∀ p, p ≤ ends.length → Tabs ends p
  | 0, _ => ⟨fun q h => absurd h (by omega), fun q h => absurd h (by omega), fun q h => absurd h (by omega)⟩
  | p + 1, hp => by
    have T := tabs ends p (by omega)
    have l1 := len_runsOf ends p
    have l2 := len_lawL ends p
    obtain ⟨x, e, h1, h2, h3⟩ := foldPick (fun o => at0 ends o < at0 ends p) (fun o => (runsOf ends p).getD o []) (List.range p) []
    have eb : bestB ends (runsOf ends p) (at0 ends p) p = x := e
    have rx : Run ends (x ++ [p]) := by
      rcases h1 with rfl | ⟨o, ho, co, rfl⟩
      · exact ⟨by simp, fun a ha => by simp at ha; omega⟩
      · obtain ⟨r, er, rr⟩ := T.ok o (by simpa using ho)
        show Run ends ((runsOf ends p).getD o [] ++ [p])
        rw [er]
        exact run_ext rr (by simpa using ho) (by omega) co
    have mxx : ∀ r, Run ends (r ++ [p]) → r.length ≤ x.length := fun r hr => by
      rcases List.eq_nil_or_concat r with rfl | ⟨r', o, rfl⟩
      · exact Nat.zero_le _
      · rw [List.concat_eq_append] at hr ⊢
        obtain ⟨a, b, c⟩ := run_last hr
        exact Nat.le_trans (T.mx o b r' a) (h3 o (by simpa using b) c)
    have ex : maxN (((List.range p).filter fun o => decide (at0 ends o < at0 ends p)).map fun o => (lawL ends p).getD o 0) = x.length := by
      refine Nat.le_antisymm (maxN_le fun y hy => ?_) ?_
      · obtain ⟨o, ho, rfl⟩ := List.mem_map.mp hy
        obtain ⟨o1, o2⟩ := List.mem_filter.mp ho
        rw [T.ln o (by simpa using o1)]
        exact h3 o o1 (of_decide_eq_true o2)
      · rcases h1 with rfl | ⟨o, ho, co, rfl⟩
        · exact Nat.zero_le _
        · rw [← T.ln o (by simpa using ho)]
          exact le_maxN (List.mem_map.mpr ⟨o, List.mem_filter.mpr ⟨ho, decide_eq_true co⟩, rfl⟩)
    refine ⟨fun q hq => ?_, fun q hq r hr => ?_, fun q hq => ?_⟩
    · by_cases e1 : q < p
      · rw [runsOf, getD_old (by omega)]
        exact T.ok q e1
      · have e2 : q = p := by omega
        subst e2
        rw [runsOf, getD_new l1.symm, eb]
        exact ⟨x, rfl, rx⟩
    · by_cases e1 : q < p
      · rw [runsOf, getD_old (by omega)]
        exact T.mx q e1 r hr
      · have e2 : q = p := by omega
        subst e2
        rw [runsOf, getD_new l1.symm, eb]
        have := mxx r hr
        simp
        exact this
    · by_cases e1 : q < p
      · rw [runsOf, lawL, getD_old (by omega), getD_old (by omega)]
        exact T.ln q e1
      · have e2 : q = p := by omega
        subst e2
        rw [runsOf, lawL, getD_new l1.symm, getD_new l2.symm, eb, ex]
        simp
        omega
theorem foldPick0 : ∀ (l : List (List Nat)) (b : List Nat), (l.foldl pick b = b ∨ l.foldl pick b ∈ l) ∧ b.length ≤ (l.foldl pick b).length ∧ ∀ x ∈ l, x.length ≤ (l.foldl pick b).length
  | [], b => ⟨.inl rfl, Nat.le_refl _, by simp⟩
  | y :: l, b => by
    rw [List.foldl_cons]
    obtain ⟨h1, h2, h3⟩ := foldPick0 l (pick b y)
    have p1 : pick b y = b ∨ pick b y = y := by unfold pick; split <;> simp
    have p2 : b.length ≤ (pick b y).length ∧ y.length ≤ (pick b y).length := by unfold pick; split <;> omega
    refine ⟨?_, by omega, fun x hx => ?_⟩
    · rcases h1 with h1 | h1
      · rw [h1]
        rcases p1 with p1 | p1
        · exact .inl p1
        · exact .inr (by rw [p1]; simp)
      · exact .inr (by simp [h1])
    · rcases List.mem_cons.mp hx with rfl | hx
      · omega
      · exact h3 x hx
theorem longest_ok (ends : List Nat) : Run ends (longestRun ends) ∧ (∀ r, Run ends r → r.length ≤ (longestRun ends).length) ∧ lawRun ends = (longestRun ends).length := by
  have T := tabs ends ends.length (Nat.le_refl _)
  have l1 := len_runsOf ends ends.length
  have l2 := len_lawL ends ends.length
  obtain ⟨h1, h2, h3⟩ := foldPick0 (runsOf ends ends.length) []
  have gm : ∀ q, q < ends.length → (runsOf ends ends.length).getD q [] ∈ runsOf ends ends.length := fun q hq => by
    have : q < (runsOf ends ends.length).length := by omega
    rw [List.getD_eq_getElem?_getD, List.getElem?_eq_getElem this]
    exact List.getElem_mem this
  refine ⟨?_, fun r hr => ?_, ?_⟩
  · rcases h1 with h1 | h1
    · show Run ends (List.foldl pick [] _)
      rw [h1]
      exact ⟨by simp, by simp⟩
    · obtain ⟨q, hq, e⟩ := List.mem_iff_getElem.mp h1
      obtain ⟨r, er, rr⟩ := T.ok q (by omega)
      show Run ends (List.foldl pick [] _)
      rw [← e]
      have e2 : (runsOf ends ends.length).getD q [] = (runsOf ends ends.length)[q] := by
        rw [List.getD_eq_getElem?_getD, List.getElem?_eq_getElem hq]
        rfl
      rw [← e2, er]
      exact rr
  · rcases List.eq_nil_or_concat r with rfl | ⟨r', o, rfl⟩
    · exact Nat.zero_le _
    · rw [List.concat_eq_append] at hr ⊢
      have ho := (run_concat.mp hr).2.1
      exact Nat.le_trans (T.mx o ho r' hr) (h3 _ (gm o ho))
  · refine Nat.le_antisymm (maxN_le fun y hy => ?_) ?_
    · obtain ⟨q, hq, rfl⟩ := List.mem_iff_getElem.mp hy
      have e2 : (lawL ends ends.length).getD q 0 = (lawL ends ends.length)[q] := by
        rw [List.getD_eq_getElem?_getD, List.getElem?_eq_getElem hq]
        rfl
      rw [← e2, T.ln q (by omega)]
      exact h3 _ (gm q (by omega))
    · rcases h1 with h1 | h1
      · show (List.foldl pick [] _).length ≤ _
        rw [h1]
        exact Nat.zero_le _
      · obtain ⟨q, hq, e⟩ := List.mem_iff_getElem.mp h1
        have e2 : (runsOf ends ends.length).getD q [] = (runsOf ends ends.length)[q] := by
          rw [List.getD_eq_getElem?_getD, List.getElem?_eq_getElem hq]
          rfl
        show (List.foldl pick [] _).length ≤ _
        rw [← e, ← e2, ← T.ln q (by omega)]
        have hq' : q < (lawL ends ends.length).length := by omega
        refine le_maxN ?_
        rw [List.getD_eq_getElem?_getD, List.getElem?_eq_getElem hq']
        exact List.getElem_mem hq'
/-- the moves of a pairing -/
def movesP (p : Pg) : Nat := p.length - (longestRun (p.map (·.2))).length
theorem nodup_len {α : Type} [DecidableEq α] : ∀ {l m : List α}, l.Nodup → (∀ x ∈ l, x ∈ m) → l.length ≤ m.length
  | [], _, _, _ => Nat.zero_le _
  | a :: l, m, n, h => by
    rw [List.nodup_cons] at n
    have ha := h a (by simp)
    have := nodup_len (l := l) (m := m.erase a) n.2 fun x hx => (List.mem_erase_of_ne (fun e : x = a => n.1 (by rw [← e]; exact hx))).mpr (h x (by simp [hx]))
    have e := (List.perm_cons_erase ha).length_eq
    simp only [List.length_cons] at e ⊢
    omega
theorem run_len {ends r : List Nat} (h : Run ends r) : r.length ≤ ends.length := by
  have n : r.Nodup := h.up.imp fun e => by omega
  have := nodup_len n (m := List.range ends.length) fun x hx => by simpa using h.lt x hx
  simpa using this
end Pl

set_option linter.all false
set_option autoImplicit false
set_option maxRecDepth 100000
set_option maxHeartbeats 0
/-! A8: pairings. -/
namespace Z
open PySem Pl
def encPr (x : Pr) : D := .tuple [.int (x.1 : Nat), .int (x.2 : Nat)]
def encP (p : Pg) : D := .tuple (p.map encPr)
def encL (l : List Pg) : D := .list (l.map encP)
/-! ### order -/
theorem alike_pr (x y : Pr) : W.alike (encPr x) (encPr y) = true := by simp [encPr, W.alike, W.alikeAll]
theorem alikeAll_map {α : Type} {f : α → D} (h : ∀ a b, W.alike (f a) (f b) = true) : ∀ l m : List α, W.alikeAll (l.map f) (m.map f) = true
  | [], _ => by simp [W.alikeAll]
  | _ :: _, [] => by simp [W.alikeAll]
  | a :: l, b :: m => by
    rw [List.map_cons, List.map_cons, W.alikeAll, h, alikeAll_map h l m]
    rfl
theorem alike_p (p q : Pg) : W.alike (encP p) (encP q) = true := by
  simp only [encP, W.alike]
  exact alikeAll_map alike_pr p q
theorem eqvAll_map {α : Type} [DecidableEq α] {f : α → D} (h : ∀ a b, PyData.eqv (f a) (f b) = decide (a = b)) : ∀ l m : List α, PyData.eqvAll (l.map f) (m.map f) = decide (l = m)
  | [], [] => by simp [PyData.eqvAll]
  | [], _ :: _ => by simp [PyData.eqvAll]
  | _ :: _, [] => by simp [PyData.eqvAll]
  | a :: l, b :: m => by
    rw [List.map_cons, List.map_cons, PyData.eqvAll, h, eqvAll_map h l m]
    by_cases q : a = b <;> by_cases r : l = m <;> simp [q, r]
theorem eqv_tup {α : Type} [DecidableEq α] {f : α → D} (h : ∀ a b, PyData.eqv (f a) (f b) = decide (a = b)) (l m : List α) : PyData.eqv (.tuple (l.map f)) (.tuple (m.map f)) = decide (l = m) := by
  rw [PyData.eqv]
  exact eqvAll_map h l m
theorem eqv_lst {α : Type} [DecidableEq α] {f : α → D} (h : ∀ a b, PyData.eqv (f a) (f b) = decide (a = b)) (l m : List α) : PyData.eqv (.list (l.map f)) (.list (m.map f)) = decide (l = m) := by
  rw [PyData.eqv]
  exact eqvAll_map h l m
theorem eqv_pr (x y : Pr) : PyData.eqv (encPr x) (encPr y) = decide (x = y) := by
  rw [encPr, encPr, PyData.eqv, PyData.eqvAll, PyData.eqvAll, PyData.eqvAll, PyData.eqv, PyData.eqv]
  obtain ⟨a, b⟩ := x
  obtain ⟨c, d⟩ := y
  by_cases q : a = c <;> by_cases r : b = d <;> simp [q, r] <;> omega
theorem eqv_p (p q : Pg) : PyData.eqv (encP p) (encP q) = decide (p = q) := eqv_tup eqv_pr p q
theorem lt_anti {x y : D} (a : W.alike x y = true) (h1 : W.dataLt x y = false) (h2 : W.dataLt y x = false) : PyData.eqv x y = true := by
  have e := PyProof.Rows.lex_total (O := PyProof.Rows.itemOrd) _ _ h1 h2
  cases q : PyData.eqv x y with
  | true => rfl
  | false =>
    have k1 := (W.toks_eqv x y a).2 q [.inl 0] [.inl 1]
    rw [e, W.lex_pre] at k1
    have k2 : PyProof.Rows.lexLt PyProof.Rows.itemOrd [Sum.inl 0] [Sum.inl 1] = true := by rfl
    rw [k2, PyProof.Rows.lex_irrefl (O := PyProof.Rows.itemOrd)] at k1
    exact absurd k1 (by decide)
def leD (x y : D) : Bool := !W.dataLt y x
theorem leD_trans (a b c : D) (h1 : leD a b = true) (h2 : leD b c = true) : leD a c = true := by
  simp only [leD, Bool.not_eq_true'] at *
  cases q : W.dataLt c a with
  | false => rfl
  | true =>
    cases r : W.dataLt a b with
    | true => exact absurd ((PyProof.Rows.lex_trans (O := PyProof.Rows.itemOrd) _ _ _ q r).symm.trans h2) (by decide)
    | false =>
      have e := PyProof.Rows.lex_total (O := PyProof.Rows.itemOrd) _ _ r h1
      have : W.dataLt c b = true := by
        unfold W.dataLt at q ⊢
        rw [← e]
        exact q
      exact absurd (this.symm.trans h2) (by decide)
theorem leD_total (a b : D) : (leD a b || leD b a) = true := by
  simp only [leD]
  cases q : W.dataLt a b with
  | false => simp
  | true =>
    cases r : W.dataLt b a with
    | false => simp
    | true =>
      have := PyProof.Rows.lex_trans (O := PyProof.Rows.itemOrd) _ _ _ q r
      rw [PyProof.Rows.lex_irrefl (O := PyProof.Rows.itemOrd)] at this
      exact absurd this (by decide)
/-- sorted by an encoding -/
def srt {α : Type} (f : α → D) (l : List α) : List α := l.mergeSort fun a b => leD (f a) (f b)
theorem sortD_srt {α : Type} (f : α → D) (l : List α) : sortD (l.map f) = (srt f l).map f := by
  exact (List.map_mergeSort (r := fun a b => leD (f a) (f b)) (s := fun a b => !W.dataLt b a) (f := f) (l := l) fun a _ b _ => rfl).symm
theorem srt_perm {α : Type} (f : α → D) (l : List α) : (srt f l).Perm l := List.mergeSort_perm l _
theorem srt_sorted {α : Type} (f : α → D) (l : List α) : (srt f l).Pairwise fun a b => leD (f a) (f b) = true :=
  List.pairwise_mergeSort (fun a b c => leD_trans (f a) (f b) (f c)) (fun a b => leD_total (f a) (f b)) l
theorem sorted_eq {α : Type} {f : α → D} (inj : ∀ a b, W.alike (f a) (f b) = true ∧ (PyData.eqv (f a) (f b) = true → a = b)) {l m : List α} (hl : l.Pairwise fun a b => leD (f a) (f b) = true) (hm : m.Pairwise fun a b => leD (f a) (f b) = true) (p : l.Perm m) : l = m := by
  refine List.Perm.eq_of_pairwise (le := fun a b => leD (f a) (f b) = true) (fun a b _ _ h1 h2 => ?_) hl hm p
  simp only [leD, Bool.not_eq_true'] at h1 h2
  exact (inj a b).2 (lt_anti (inj a b).1 h2 h1)
theorem srt_eq {α : Type} {f : α → D} (inj : ∀ a b, W.alike (f a) (f b) = true ∧ (PyData.eqv (f a) (f b) = true → a = b)) {l m : List α} (p : l.Perm m) : srt f l = srt f m :=
  sorted_eq inj (srt_sorted f l) (srt_sorted f m) ((srt_perm f l).trans (p.trans (srt_perm f m).symm))
theorem inj_p (a b : Pg) : W.alike (encP a) (encP b) = true ∧ (PyData.eqv (encP a) (encP b) = true → a = b) := ⟨alike_p a b, fun e => by simpa [eqv_p] using e⟩
theorem okd_pr (x : Pr) : Okd 1 (encPr x) := okd_tup fun y hy => by
  rcases List.mem_cons.mp hy with rfl | hy
  · exact okd_int _ _
  · rw [List.mem_singleton.mp hy]
    exact okd_int _ _
theorem okd_p (p : Pg) : Okd 2 (encP p) := okd_tup fun y hy => by
  obtain ⟨x, _, rfl⟩ := List.mem_map.mp hy
  exact okd_pr x
theorem srtOk_map {α : Type} {f : α → D} {m : Nat} (ha : ∀ a b, W.alike (f a) (f b) = true) (ho : ∀ a, Okd m (f a)) (hm : m ≤ 50 := by decide) (hn : ∀ a, noneB (f a) = false := by exact fun a => rfl) (l : List α) : srtOk (l.map f) = true := by
  unfold srtOk
  rw [List.all_eq_true]
  intro x hx
  obtain ⟨a, _, rfl⟩ := List.mem_map.mp hx
  rw [hn, Bool.and_eq_true, Bool.and_eq_true]
  refine ⟨⟨?_, decide_eq_true (Nat.le_trans (ho a).2 hm)⟩, rfl⟩
  rw [List.all_eq_true]
  intro y hy
  obtain ⟨b, _, rfl⟩ := List.mem_map.mp hy
  exact ha a b
theorem bSorted_map {α : Type} {f : α → D} {m : Nat} (ha : ∀ a b, W.alike (f a) (f b) = true) (ho : ∀ a, Okd m (f a)) (hm : m ≤ 50 := by decide) (hn : ∀ a, noneB (f a) = false := by exact fun a => rfl) (l : List α) : bSorted [.list (l.map f)] = some (.list ((srt f l).map f)) := by
  show (if srtOk (l.map f) then some (PyData.list (sortD (l.map f))) else none) = _
  rw [srtOk_map ha ho hm hn, if_pos rfl, sortD_srt]
theorem bSorted_p (l : List Pg) : bSorted [.list (l.map encP)] = some (.list ((srt encP l).map encP)) := bSorted_map alike_p okd_p (by decide) (fun a => rfl) l
/-- all pairings, ascending -/
def prs (m n : Nat) : List Pg := srt encP (fromP m 0 (List.range n))
theorem mem_prs {m n : Nat} {p : Pg} : p ∈ prs m n ↔ IsP m n p := by
  rw [prs, (srt_perm encP _).mem_iff, fromP_isP]
theorem nodup_prs (m n : Nat) : (prs m n).Nodup := (srt_perm encP _).nodup_iff.mpr (nodup_fromP List.nodup_range)
theorem prs_law (m n : Nat) : srt encP (lawP n m) = prs m n := srt_eq inj_p (perm_both m n)
theorem len_prs {m n : Nat} (hm : m ≤ 4) (hn : n ≤ 4) : (prs m n).length ≤ 625 := by
  rw [prs, (srt_perm encP _).length_eq]
  have h1 := len_fromP (c := m) (i := 0) (os := List.range n) (by simpa using hn)
  have h2 : 5 ^ m ≤ 5 ^ 4 := Nat.pow_le_pow_right (by decide) hm
  have : (5 : Nat) ^ 4 = 625 := rfl
  omega
section
variable {Ds : List Dfn} {wf k : Nat} {h : Hep} {F : Fs}
theorem from_place_ok (o : Ok_from_place Ds F) : ∀ (c i : Nat) (os : List Nat) (k : Nat) (h : Hep), os.length ≤ 4 → c ≤ 4 → call Ds wf (k + c + 1) F.f_from_place [.d (.int (i : Nat)), .d (.int ((i + c : Nat) : Int)), .d (nL os)] h = .ok (.d (encL (fromP c i os))) h
  | 0, i, os, k, h, e, e2 => by
    rw [call_ir o.e rfl]
    have z1 : szOk 1 = true := by rfl
    simp [ir_from_place, z1, fromP, encL, encP]
  | c + 1, i, os, k, h, e, e2 => by
    rw [call_ir o.e rfl, show k + (c + 1) = k + c + 1 from rfl]
    have ih := fun (os : List Nat) (h : Hep) (e : os.length ≤ 4) => from_place_ok o c (i + 1) os k h e (by omega)
    have ec : ((i + 1 + c : Nat) : Int) = ((i + (c + 1) : Nat) : Int) := by omega
    rw [ec] at ih
    have b5 : ∀ (os : List Nat), os.length ≤ 4 → (fromP c (i + 1) os).length ≤ 625 := fun os e => by
      have h1 := len_fromP (c := c) (i := i + 1) e
      have h2 : 5 ^ c ≤ 5 ^ 4 := Nat.pow_le_pow_right (by decide) (by omega)
      have : (5 : Nat) ^ 4 = 625 := rfl
      omega
    have zo := sOk (show os.length ≤ 16777216 by omega)
    have z1 : szOk 1 = true := by rfl
    have z2 : szOk 2 = true := by rfl
    let g : Nat → List Pg := fun j => (fromP c (i + 1) (os.filter fun x => !decide (x = j))).map fun p => (i, j) :: p
    have gl : ∀ pre : List Nat, (pre.flatMap g).length ≤ pre.length * 625 := fun pre => by
      induction pre with
      | nil => simp
      | cons a r ih =>
        have := b5 (os.filter fun x => !decide (x = a)) (Nat.le_trans (List.length_filter_le _ _) e)
        simp only [List.flatMap_cons, List.length_append, List.length_cons, Nat.add_mul, g, List.length_map] at ih ⊢
        omega
    obtain ⟨s', h', ef, rfl, x5, x6, rfl⟩ := forL_inv (α := Nat) (tg := .nm 5) (body := exec ⟨call Ds wf (k + c + 1), wf⟩ (inB (nth (ir_from_place F).body 3)))
      (fun pre s hh => hh = h ∧ ∃ x5 x6 : Option Vl, s = [some (.d (.int (i : Nat))), some (.d (.int ((i + (c + 1) : Nat) : Int))), some (.d (nL os)), some (.d (encL (fromP c (i + 1) os))), some (.d (encL (fromP c (i + 1) os ++ pre.flatMap g))), x5, x6, none, none])
      (fun i : Nat => PyData.int (i : Int)) (l := os) (s := [some (.d (.int (i : Nat))), some (.d (.int ((i + (c + 1) : Nat) : Int))), some (.d (nL os)), some (.d (encL (fromP c (i + 1) os))), some (.d (encL (fromP c (i + 1) os))), none, none, none, none]) (h := h)
      ⟨rfl, none, none, by simp⟩ (by
        rintro pre j post s hh el ⟨rfl, x5, x6, rfl⟩
        have lp : pre.length < os.length := by
          have := congrArg List.length el
          simp at this
          omega
        have hf : (os.filter fun x => !decide (x = j)).length ≤ 4 := Nat.le_trans (List.length_filter_le _ _) e
        have i1 := ih (os.filter fun x => !decide (x = j)) hh hf
        have b1 := b5 (os.filter fun x => !decide (x = j)) hf
        have b0 := b5 os e
        have b2 := gl pre
        have zf := sOk (show (fromP c (i + 1) (os.filter fun x => !decide (x = j))).length ≤ 16777216 by omega)
        have zs := sOk (show (fromP c (i + 1) os).length + (pre.flatMap g).length + (fromP c (i + 1) (os.filter fun x => !decide (x = j))).length ≤ 16777216 by omega)
        have bp : ∀ p ∈ fromP c (i + 1) (os.filter fun x => !decide (x = j)), szOk (1 + p.length) = true := fun p hp => sOk (by
          obtain ⟨_, q1, _, q2⟩ := mem_fromP.mp hp
          have := nodup_len q2 (m := os.filter fun x => !decide (x = j)) fun x hx => by
            obtain ⟨y, hy, rfl⟩ := List.mem_map.mp hx
            exact q1 y hy
          rw [List.length_map] at this
          omega)
        refine ⟨_, [some (.d (.int (i : Nat))), some (.d (.int ((i + (c + 1) : Nat) : Int))), some (.d (nL os)), some (.d (encL (fromP c (i + 1) os))), some (.d (encL (fromP c (i + 1) os ++ (pre ++ [j]).flatMap g))), some (.d (.int (j : Nat))), some (.d (encL (fromP c (i + 1) (os.filter fun x => !decide (x = j))))), none, none], hh, rfl, ?_, rfl, _, _, rfl⟩
        simp only [nL, Int.natCast_add, Int.cast_ofNat_Int] at i1
        simp +contextual [toM, ir_from_place, nth, inB, zo, Int.natCast_inj, i1]
        simp +contextual [toM, -List.length_flatMap, encL, zf, zs, z1, z2, encP, bp]
        simp [g, encP, encPr])
    have i0 := ih os h' e
    simp only [nL, Int.natCast_add, Int.cast_ofNat_Int] at i0 ef
    have q : ¬ ((i : Int) = (i : Int) + ((c : Int) + 1)) := by omega
    simp [ir_from_place, nth, inB, encL] at ef
    simp [ir_from_place, i0, q, encL, ef]
    simp [fromP, g]
end
end Z

set_option linter.all false
set_option autoImplicit false
set_option maxRecDepth 100000
set_option maxHeartbeats 0
/-! A9: runs and moves. -/
namespace Z
open PySem Pl
section
variable {Ds : List Dfn} {wf k : Nat} {h : Hep} {F : Fs}
theorem all_pairings_ok (o : Ok_all_pairings Ds F) {m n : Nat} (hm : m ≤ 4) (hn : n ≤ 4) : call Ds wf (k + 6) F.f_all_pairings [.d (.int (m : Nat)), .d (.int (n : Nat))] h = .ok (.d (encL (prs m n))) h := by
  rw [call_ir o.e rfl]
  have e := from_place_ok (wf := wf) o.o_from_place m 0 (List.range n) (k + 4 - m) h (by simpa using hn) hm
  rw [show k + 4 - m + m + 1 = k + 5 by omega, Nat.zero_add] at e
  simp only [Int.cast_ofNat_Int, nL] at e
  simp [ir_all_pairings, lsrV_n n (show n ≤ 16777216 by omega), e, encL, bSorted_p, prs]
theorem range_split {n x : Nat} {pre post : List Nat} (e : List.range n = pre ++ x :: post) : pre = List.range x ∧ x < n := by
  have h1 : x < n := by
    have : x ∈ List.range n := by rw [e]; simp
    simpa using this
  have h2 : (List.range n)[pre.length]? = some x := by rw [e]; simp
  have h3 : pre.length < n := by
    have := congrArg List.length e
    simp at this
    omega
  have h4 : pre.length = x := by simpa [h3] using h2
  refine ⟨?_, h1⟩
  have := congrArg (List.take pre.length) e
  simp [List.take_range] at this
  rw [← this]
  congr 1
  omega
theorem enumD_at {α : Type} (f : α → D) (d : α) (l : List α) : enumD (l.map f) = (List.range l.length).map fun i : Nat => .tuple [.int (i : Nat), f (l.getD i d)] := by
  unfold enumD
  apply List.ext_getElem?
  intro i
  by_cases q : i < l.length
  · simp [q, List.getD_eq_getElem?_getD]
  · simp [q]
theorem longest_run_ok (o : Ok_longest_run Ds F) {ends : List Nat} (hl : ends.length ≤ 1000) : call Ds wf (k + 1) F.f_longest_run [.d (nL ends)] h = .ok (.d (nL (longestRun ends))) h := by
  rw [call_ir o.e rfl]
  obtain ⟨s1, h1, e1, x2, x4, x5, x6, x7, rfl, rfl⟩ := forL_inv (α := Nat) (tg := .tp [4, 5]) (body := exec ⟨call Ds wf k, wf⟩ (inB (nth (ir_longest_run F).body 1)))
    (fun pre s hh => ∃ x2 x4 x5 x6 x7 : Option Vl, s = [some (.d (nL ends)), some (.r h.length), none, x2, x4, x5, x6, x7] ∧ hh = h ++ [.lst ((runsOf ends pre.length).map nL)])
    (fun i : Nat => PyData.tuple [.int (i : Int), .int (at0 ends i : Nat)]) (l := List.range ends.length) (s := [some (.d (nL ends)), some (.r h.length), none, none, none, none, none, none]) (h := h ++ [.lst []])
    ⟨none, none, none, none, none, rfl, rfl⟩ (by
      rintro pre p post s hh el ⟨x2, x4, x5, x6, x7, rfl, rfl⟩
      obtain ⟨rfl, hp⟩ := range_split el
      simp only [List.length_range] at *
      have lr := len_runsOf ends p
      obtain ⟨s2, h2, e2, y7, rfl, rfl⟩ := forL_inv (α := Nat) (tg := .nm 7) (body := exec ⟨call Ds wf k, wf⟩ (inB (nth (inB (nth (ir_longest_run F).body 1)) 1)))
        (fun pre s hh => ∃ x7 : Option Vl, s = [some (.d (nL ends)), some (.r h.length), none, x2, some (.d (.int (p : Nat))), some (.d (.int (at0 ends p : Nat))), some (.d (nL (pre.foldl (fun b o => if at0 ends o < at0 ends p ∧ ((runsOf ends p).getD o []).length > b.length then (runsOf ends p).getD o [] else b) []))), x7] ∧ hh = h ++ [.lst ((runsOf ends p).map nL)])
        (fun i : Nat => PyData.int (i : Int)) (l := List.range p) (s := [some (.d (nL ends)), some (.r h.length), none, x2, some (.d (.int (p : Nat))), some (.d (.int (at0 ends p : Nat))), some (.d (.list [])), x7]) (h := h ++ [.lst ((runsOf ends p).map nL)])
        ⟨x7, rfl, rfl⟩ (by
          rintro pre q post s hh el2 ⟨x7, rfl, rfl⟩
          obtain ⟨rfl, hq⟩ := range_split el2
          have ge : ends[q]? = some (at0 ends q) := by
            have : q < ends.length := by omega
            simp [at0, List.getD_eq_getElem?_getD, this]
          have gr : (runsOf ends p)[q]? = some ((runsOf ends p).getD q []) := by
            have : q < (runsOf ends p).length := by omega
            simp [List.getD_eq_getElem?_getD, this]
          refine ⟨_, [some (.d (nL ends)), some (.r h.length), none, x2, some (.d (.int (p : Nat))), some (.d (.int (at0 ends p : Nat))), some (.d (nL ((List.range q ++ [q]).foldl (fun b o => if at0 ends o < at0 ends p ∧ ((runsOf ends p).getD o []).length > b.length then (runsOf ends p).getD o [] else b) []))), some (.d (.int (q : Nat)))], _, rfl, ?_, _, rfl, rfl⟩
          rw [List.foldl_append, List.foldl_cons, List.foldl_nil]
          generalize hb : List.foldl _ [] (List.range q) = b
          generalize hr : (runsOf ends p).getD q [] = r at gr ⊢
          simp [ir_longest_run, nth, inB, op1R, peekR, ge, gr]
          split <;> simp [*])
      have z1 : szOk 1 = true := by rfl
      have bl : (bestB ends (runsOf ends p) (at0 ends p) p).length ≤ 1000 := by
        obtain ⟨r, er, rr⟩ := (tabs ends (p + 1) (by omega)).ok p (by omega)
        rw [runsOf, getD_new lr.symm] at er
        have := run_len (er ▸ rr : Run ends (bestB ends (runsOf ends p) (at0 ends p) p ++ [p]))
        simp at this
        omega
      have z2 := sOk (show (bestB ends (runsOf ends p) (at0 ends p) p).length + 1 ≤ 16777216 by omega)
      have z3 : p < sizeLine := by
        show p < 16777216
        omega
      refine ⟨_, [some (.d (nL ends)), some (.r h.length), none, x2, some (.d (.int (p : Nat))), some (.d (.int (at0 ends p : Nat))), some (.d (nL (bestB ends (runsOf ends p) (at0 ends p) p))), y7], h ++ [.lst ((runsOf ends (p + 1)).map nL)], rfl, ?_, x2, _, _, _, _, rfl, by simp⟩
      have rg := fun h => rngV_n (h := h) p (by omega)
      simp only [ir_longest_run, nth, inB] at e2
      have eb : List.foldl (fun b o => if at0 ends o < at0 ends p ∧ ((runsOf ends p).getD o []).length > b.length then (runsOf ends p).getD o [] else b) [] (List.range p) = bestB ends (runsOf ends p) (at0 ends p) p := rfl
      rw [eb] at e2
      simp [ir_longest_run, nth, inB, rg, e2, z1, z2, appV, lr, z3, runsOf])
  have rl := len_runsOf ends ends.length
  rw [List.length_range] at e1
  obtain ⟨s2, h2, e2, y3, rfl, rfl⟩ := forL_inv (α := List Nat) (tg := .nm 3) (body := exec ⟨call Ds wf k, wf⟩ (inB (nth (ir_longest_run F).body 3)))
    (fun pre s hh => ∃ x3 : Option Vl, s = [some (.d (nL ends)), some (.r h.length), some (.d (nL (pre.foldl pick []))), x3, x4, x5, x6, x7] ∧ hh = h ++ [.fz ((runsOf ends ends.length).map nL)])
    nL (l := runsOf ends ends.length) (s := [some (.d (nL ends)), some (.r h.length), some (.d (.list [])), x2, x4, x5, x6, x7]) (h := h ++ [.fz ((runsOf ends ends.length).map nL)])
    ⟨x2, rfl, rfl⟩ (by
      rintro pre p post s hh el ⟨x3, rfl, rfl⟩
      refine ⟨_, [some (.d (nL ends)), some (.r h.length), some (.d (nL ((pre ++ [p]).foldl pick []))), some (.d (nL p)), x4, x5, x6, x7], _, rfl, ?_, _, rfl, rfl⟩
      rw [List.foldl_append, List.foldl_cons, List.foldl_nil]
      generalize hb : List.foldl _ [] pre = b
      simp [ir_longest_run, nth, inB, pick]
      split <;> simp [*])
  have en : enumD (ends.map fun i : Nat => PyData.int (i : Int)) = (List.range ends.length).map fun i : Nat => .tuple [.int (i : Nat), .int (at0 ends i : Nat)] := enumD_at (fun i : Nat => PyData.int (i : Int)) 0 ends
  simp only [ir_longest_run, nth, inB] at e1 e2
  have z := sOk (show ends.length ≤ 16777216 by omega)
  simp [ir_longest_run, nth, inB, en, e1, kept, keep, e2]
  rfl
end
end Z

set_option linter.all false
set_option autoImplicit false
set_option maxRecDepth 100000
set_option maxHeartbeats 0
/-! A10: moves; the law's pairings. -/
namespace Z
open PySem Pl
@[simp] theorem idxD_pr0 (x : Pr) : idxD (encPr x) 0 = some (.int (x.1 : Nat)) := (rfl)
@[simp] theorem idxD_pr1 (x : Pr) : idxD (encPr x) 1 = some (.int (x.2 : Nat)) := (rfl)
@[simp] theorem lenD_P (p : Pg) : lenD (encP p) = some (.int p.length) := by simp [encP]
@[simp] theorem items_P (p : Pg) : items (encP p) = some (p.map encPr) := (rfl)
@[simp] theorem items_L (l : List Pg) : items (encL l) = some (l.map encP) := (rfl)
@[simp] theorem setTg_pr (s : Env) (x : Pr) (i j : Nat) : setTg s (encPr x) (.tp [i, j]) = some ((s.set i (some (.d (.int (x.1 : Nat))))).set j (some (.d (.int (x.2 : Nat))))) := (rfl)
theorem maxI_eq : ∀ (l : List Int) (m : Int), maxI m l = l.foldl max m
  | [], m => rfl
  | x :: r, m => by
    show maxI (if x > m then x else m) r = _
    rw [maxI_eq r, List.foldl_cons]
    congr 1
    by_cases q : x > m
    · rw [if_pos q]; omega
    · rw [if_neg q]; omega
theorem foldl_maxN : ∀ (l : List Nat) (m : Nat), (l.map fun i : Nat => (i : Int)).foldl max (m : Int) = ((max m (maxN l) : Nat) : Int)
  | [], m => by simp [maxN]
  | x :: r, m => by
    rw [List.map_cons, List.foldl_cons, show max (m : Int) (x : Int) = ((max m x : Nat) : Int) by omega, foldl_maxN r, maxN]
    omega
theorem bMax_nats {l : List Nat} (e : l ≠ []) : bMax [.list (l.map fun i : Nat => PyData.int (i : Int))] = some (.int (maxN l : Nat)) := by
  cases l with
  | nil => exact absurd rfl e
  | cons x r =>
    have h1 : intL ((x :: r).map fun i : Nat => PyData.int (i : Int)) = some ((x :: r).map fun i : Nat => (i : Int)) := intL_map (x :: r) (fun i : Nat => (i : Int))
    show (match intL ((x :: r).map fun i : Nat => PyData.int (i : Int)) with
      | some (n :: r) => some (PyData.int (maxI n r))
      | _ => none) = _
    rw [h1]
    show some (PyData.int (maxI (x : Int) (r.map fun i : Nat => (i : Int)))) = _
    rw [maxI_eq, foldl_maxN]
    rfl
@[simp] theorem bMax_map0 {α : Type} (l : List α) (f : α → Nat) : bMax [.list (l.map (fun a => PyData.int (f a : Nat)) ++ [.int 0])] = some (.int (maxN (l.map f) : Nat)) := by
  have := bMax_nats (l := l.map f ++ [0]) (by simp)
  rw [maxN_append] at this
  simpa [maxN, Function.comp_def] using this
/-- turns that keep this heap, some left out -/
theorem compG_atF {α : Type} {h : Hep} {f : α → Hep → R (Option D)} (p : α → Prop) [DecidablePred p] (g : α → D) : ∀ {l : List α}, (∀ a ∈ l, f a h = if p a then .ok (some (g a)) h else .ok none h) → compG f l h = .ok ((l.filter fun a => decide (p a)).map g) h
  | [], _ => rfl
  | x :: r, e => by
    have ih := compG_atF p g (l := r) fun a ha => e a (List.mem_cons_of_mem _ ha)
    show bnd (f x h) _ = _
    rw [e x (by simp)]
    by_cases q : p x
    · simp [q, ih]
    · simp [q, ih]
section
variable {Ds : List Dfn} {wf k : Nat} {h : Hep} {F : Fs}
theorem moves_in_ok (o : Ok_moves_in Ds F) {p : Pg} (hp : p.length ≤ 1000) : call Ds wf (k + 2) F.f_moves_in [.d (encP p)] h = .ok (.d (.int (movesP p : Nat))) h := by
  rw [call_ir o.e rfl]
  have e := longest_run_ok (wf := wf) (k := k) (h := h) o.o_longest_run (ends := p.map (·.2)) (by simpa using hp)
  have z := sOk (show p.length ≤ 16777216 by omega)
  simp only [nL, List.map_map, Function.comp_def] at e
  have rl := run_len (longest_ok (p.map (·.2))).1
  simp at rl
  simp [ir_moves_in, z, e, movesP]
  omega
theorem law_run_ok (o : Ok__law_run Ds F) {ends : List Nat} (hl : ends.length ≤ 1000) : call Ds wf (k + 1) F.f__law_run [.d (nL ends)] h = .ok (.d (.int (lawRun ends : Nat))) h := by
  rw [call_ir o.e rfl]
  obtain ⟨s1, h1, e1, x2, x3, rfl, rfl⟩ := forL_inv (α := Nat) (tg := .tp [2, 3]) (body := exec ⟨call Ds wf k, wf⟩ (inB (nth (ir__law_run F).body 1)))
    (fun pre s hh => ∃ x2 x3 : Option Vl, s = [some (.d (nL ends)), some (.r h.length), x2, x3, none] ∧ hh = h ++ [.lst ((lawL ends pre.length).map fun i : Nat => PyData.int (i : Int))])
    (fun i : Nat => PyData.tuple [.int (i : Int), .int (at0 ends i : Nat)]) (l := List.range ends.length) (s := [some (.d (nL ends)), some (.r h.length), none, none, none]) (h := h ++ [.lst []])
    ⟨none, none, rfl, rfl⟩ (by
      rintro pre p post s hh el ⟨x2, x3, rfl, rfl⟩
      obtain ⟨rfl, hp⟩ := range_split el
      simp only [List.length_range, List.length_append, List.length_singleton] at *
      have lr := len_lawL ends p
      have z0 := sOk (show p ≤ 16777216 by omega)
      have z1 : szOk 1 = true := by rfl
      have z2 := sOk (show ((List.range p).filter fun o => decide (at0 ends o < at0 ends p)).length + 1 ≤ 16777216 by
        have := List.length_filter_le (fun o => decide (at0 ends o < at0 ends p)) (List.range p)
        simp only [List.length_range] at this
        omega)
      have z3 : p < sizeLine := by
        show p < 16777216
        omega
      have rg := fun h => rngV_n (h := h) p (by omega)
      refine ⟨_, [some (.d (nL ends)), some (.r h.length), some (.d (.int (p : Nat))), some (.d (.int (at0 ends p : Nat))), none], h ++ [.lst ((lawL ends (p + 1)).map fun i : Nat => PyData.int (i : Int))], rfl, ?_, _, _, rfl, rfl⟩
      have ge : ∀ q, q ∈ List.range p → ends[q]? = some (at0 ends q) := fun q hq => by
        have : q < ends.length := by
          have : q < p := by simpa using hq
          omega
        simp [at0, List.getD_eq_getElem?_getD, this]
      have gr : ∀ q, q ∈ List.range p → (lawL ends p)[q]? = some ((lawL ends p).getD q 0) := fun q hq => by
        have : q < (lawL ends p).length := by
          have : q < p := by simpa using hq
          omega
        simp [List.getD_eq_getElem?_getD, this]
      have key : compG (fun (a : Nat) (h1 : Hep) => if at0 ends a < at0 ends p then putR (idxV (Vl.r h.length) (.d (.int (a : Int))) h1) else .ok none h1) (List.range p) (h ++ [.lst ((lawL ends p).map fun i : Nat => PyData.int (i : Int))]) = .ok (((List.range p).filter fun o => decide (at0 ends o < at0 ends p)).map fun o => PyData.int ((lawL ends p).getD o 0 : Nat)) (h ++ [.lst ((lawL ends p).map fun i : Nat => PyData.int (i : Int))]) := by
        refine compG_atF (fun o => at0 ends o < at0 ends p) (fun o => PyData.int ((lawL ends p).getD o 0 : Nat)) fun a ha => ?_
        have := gr a ha
        generalize (lawL ends p).getD a 0 = v at this ⊢
        simp [op1R, peekR, this]
      simp +contextual [toM, ir__law_run, nth, inB, rg, z0, ge]
      rw [← toM, key]
      simp [z1, z2, appV, lr, z3, lawL])
  have en : enumD (ends.map fun i : Nat => PyData.int (i : Int)) = (List.range ends.length).map fun i : Nat => .tuple [.int (i : Nat), .int (at0 ends i : Nat)] := enumD_at (fun i : Nat => PyData.int (i : Int)) 0 ends
  rw [List.length_range] at e1
  simp only [ir__law_run, nth, inB] at e1
  have z1 : szOk 1 = true := by rfl
  have lr := len_lawL ends ends.length
  have z := sOk (show ends.length + 1 ≤ 16777216 by omega)
  have bm := bMax_map0 (lawL ends ends.length) id
  simp only [id, List.map_id_fun] at bm
  simp [ir__law_run, nth, inB, en, e1, op2, peek, z, z1, lr, lawRun, bm]
theorem law_moves_ok (o : Ok__law_moves Ds F) {p : Pg} (hp : p.length ≤ 1000) : call Ds wf (k + 2) F.f__law_moves [.d (encP p)] h = .ok (.d (.int (movesP p : Nat))) h := by
  rw [call_ir o.e rfl]
  have e := law_run_ok (wf := wf) (k := k) (h := h) o.o__law_run (ends := p.map (·.2)) (by simpa using hp)
  have z := sOk (show p.length ≤ 16777216 by omega)
  simp only [nL, List.map_map, Function.comp_def] at e
  have lk := longest_ok (p.map (·.2))
  have rl := run_len lk.1
  rw [lk.2.2] at e
  simp at rl
  simp [ir__law_moves, z, e, movesP]
  omega
end
end Z

set_option linter.all false
set_option autoImplicit false
set_option maxRecDepth 100000
set_option maxHeartbeats 0
/-! A11: the law's pairings. -/
namespace Z
open PySem Pl
theorem hasD_nat {x : Nat} {l : List Nat} : innD (.int (x : Nat)) (.list (l.map fun i : Nat => PyData.int (i : Int))) = some (decide (x ∈ l)) := by
  show (if _ then _ else _) = _
  rw [(okd_int 0 _).shp (by decide), shp_nats]
  simp only [Bool.and_self, if_true, Option.some.injEq, List.any_map]
  rw [Bool.eq_iff_iff, List.any_eq_true, decide_eq_true_eq]
  constructor
  · rintro ⟨y, hy, e⟩
    have e' : (y : Int) = x := by simpa [PyData.eqv] using e
    have : y = x := by omega
    exact this ▸ hy
  · exact fun e => ⟨x, e, by simp [PyData.eqv]⟩
section
variable {Ds : List Dfn} {wf k : Nat} {h : Hep} {F : Fs}
theorem law_pairings_ok (o : Ok__law_pairings Ds F) {m n : Nat} (hm : m ≤ 4) (hn : n ≤ 4) : call Ds wf (k + 1) F.f__law_pairings [.d (.int (m : Nat)), .d (.int (n : Nat))] h = .ok (.d (encL (prs m n))) h := by
  rw [call_ir o.e rfl]
  have ll : ∀ i, i ≤ 4 → (lawP n i).length ≤ 625 := fun i hi => by
    have h1 := len_fromP (c := i) (i := 0) (os := List.range n) (by simpa using hn)
    have h2 : 5 ^ i ≤ 5 ^ 4 := Nat.pow_le_pow_right (by decide) hi
    have : (5 : Nat) ^ 4 = 625 := rfl
    rw [(perm_both i n).length_eq]
    omega
  have z1 : szOk 1 = true := by rfl
  have z2 : szOk 2 = true := by rfl
  obtain ⟨s1, h1, e1, rfl, x3, x4, x5, x6, rfl⟩ := forL_inv (α := Nat) (tg := .nm 3) (body := exec ⟨call Ds wf k, wf⟩ (inB (nth (ir__law_pairings F).body 1)))
    (fun pre s hh => hh = h ∧ ∃ x3 x4 x5 x6 : Option Vl, s = [some (.d (.int (m : Nat))), some (.d (.int (n : Nat))), some (.d (encL (lawP n pre.length))), x3, x4, x5, x6, none, none])
    (fun i : Nat => PyData.int (i : Int)) (l := List.range m) (s := [some (.d (.int (m : Nat))), some (.d (.int (n : Nat))), some (.d (.list [.tuple []])), none, none, none, none, none, none]) (h := h)
    ⟨rfl, none, none, none, none, rfl⟩ (by
      rintro pre i post s hh el ⟨rfl, x3, x4, x5, x6, rfl⟩
      obtain ⟨rfl, hi⟩ := range_split el
      simp only [List.length_range, List.length_append, List.length_singleton]
      let g : Pg → List Pg := fun p => p :: ((List.range n).filter fun j => !decide (j ∈ p.map (·.2))).map fun j => p ++ [(i, j)]
      have gl1 : ∀ p, (g p).length ≤ 5 := fun p => by
        have := List.length_filter_le (fun j => !decide (j ∈ p.map (·.2))) (List.range n)
        simp only [g, List.length_cons, List.length_map, List.length_range] at this ⊢
        omega
      have gl : ∀ pre : List Pg, (pre.flatMap g).length ≤ pre.length * 5 := fun pre => by
        induction pre with
        | nil => simp
        | cons a r ih =>
          have := gl1 a
          simp only [List.flatMap_cons, List.length_append, List.length_cons, Nat.add_mul] at ih ⊢
          omega
      obtain ⟨s2, h2, e2, rfl, y5, y6, rfl⟩ := forL_inv (α := Pg) (tg := .nm 5) (body := exec ⟨call Ds wf k, wf⟩ (inB (nth (inB (nth (ir__law_pairings F).body 1)) 1)))
        (fun pre s h2 => h2 = hh ∧ ∃ x5 x6 : Option Vl, s = [some (.d (.int (m : Nat))), some (.d (.int (n : Nat))), some (.d (encL (lawP n i))), some (.d (.int (i : Nat))), some (.d (encL (pre.flatMap g))), x5, x6, none, none])
        encP (l := lawP n i) (s := [some (.d (.int (m : Nat))), some (.d (.int (n : Nat))), some (.d (encL (lawP n i))), some (.d (.int (i : Nat))), some (.d (.list [])), x5, x6, none, none]) (h := hh)
        ⟨rfl, x5, x6, rfl⟩ (by
          rintro pre p post s h2 el2 ⟨rfl, x5, x6, rfl⟩
          have lp : pre.length < 625 := by
            have q1 := congrArg List.length el2
            have q2 := ll i (by omega)
            simp only [List.length_append, List.length_cons] at q1
            omega
          have pl : p.length ≤ 4 := by
            have hp : IsP i n p := mem_lawP.mp (by rw [el2]; simp)
            have := nodup_len hp.nd (m := List.range n) fun x hx => by
              obtain ⟨y, hy, rfl⟩ := List.mem_map.mp hx
              simpa using hp.b2 y hy
            simp at this
            omega
          have b2 := gl pre
          have zp := sOk (show p.length ≤ 16777216 by omega)
          have zp1 := sOk (show p.length + 1 ≤ 16777216 by omega)
          have zn := sOk (show n ≤ 16777216 by omega)
          have zs := sOk (show (pre.flatMap g).length + 1 ≤ 16777216 by omega)
          have fl := List.length_filter_le (fun j => !decide (j ∈ p.map (·.2))) (List.range n)
          rw [List.length_range] at fl
          have zt := sOk (show (pre.flatMap g).length + 1 + ((List.range n).filter fun j => !decide (j ∈ p.map (·.2))).length ≤ 16777216 by omega)
          have rg := fun h => rngV_n (h := h) n (by omega)
          have hn2 : ∀ j : Nat, innD (.int (j : Int)) (.list (p.map fun x : Pr => PyData.int (x.2 : Nat))) = some (decide (j ∈ p.map (·.2))) := fun j => by
            have := hasD_nat (x := j) (l := p.map (·.2))
            simpa [Function.comp_def] using this
          refine ⟨_, [some (.d (.int (m : Nat))), some (.d (.int (n : Nat))), some (.d (encL (lawP n i))), some (.d (.int (i : Nat))), some (.d (encL ((pre ++ [p]).flatMap g))), some (.d (encP p)), some (.d (nL (p.map (·.2)))), none, none], _, rfl, ?_, rfl, _, _, rfl⟩
          simp only [List.mem_map] at hn2 zt
          simp [-List.length_flatMap, ir__law_pairings, nth, inB, zp, zp1, zn, zs, zt, rg, hn2, z1, z2, encL, encP]
          simp only [g, encP, encPr, Function.comp_def, List.map_cons, List.map_map, List.map_append, List.map_nil, List.mem_map])
      have zl := sOk (show (lawP n i).length ≤ 16777216 by have := ll i (by omega); omega)
      refine ⟨_, [some (.d (.int (m : Nat))), some (.d (.int (n : Nat))), some (.d (encL (lawP n (i + 1)))), some (.d (.int (i : Nat))), some (.d (encL (lawP n (i + 1)))), y5, y6, none, none], _, rfl, ?_, rfl, _, _, _, _, rfl⟩
      simp only [ir__law_pairings, nth, inB] at e2
      simp [ir__law_pairings, nth, inB, e2]
      rfl)
  have rg := fun h => rngV_n (h := h) m (by omega)
  rw [List.length_range] at e1
  simp only [ir__law_pairings, nth, inB] at e1
  simp [ir__law_pairings, nth, inB, rg, z1, e1, encL, bSorted_p, prs_law]
end
end Z

set_option linter.all false
set_option autoImplicit false
set_option maxRecDepth 100000
set_option maxHeartbeats 0
/-! A12: is_pairing, alignments. -/
namespace Z
open PySem Pl
theorem rngV_i {i : Int} {h : Hep} (h1 : -16777216 ≤ i) (h2 : i ≤ 16777216) : rngV (.d (.int i)) h = .ok ((List.range i.toNat).map fun i : Nat => .int (i : Int)) h := by
  have key : rngV (.d (.int i)) h = if (decide (-4611686018427387904 ≤ i) && decide (i < 4611686018427387904)) = true then R.ok (rangeD i) h else .no := rfl
  have c : (decide (-4611686018427387904 ≤ i) && decide (i < 4611686018427387904)) = true := by
    rw [Bool.and_eq_true]
    exact ⟨decide_eq_true (by omega), decide_eq_true (by omega)⟩
  rw [key, if_pos c, rangeD]
def isPair (d : D) (m n : Int) : Bool := match d with
  | .tuple [a, b] => isWhole a 0 (m - 1) && isWhole b 0 (n - 1)
  | _ => false
def prOf (d : D) : Pr := match d with
  | .tuple [.int a, .int b] => (a.toNat, b.toNat)
  | _ => (0, 0)
theorem isWhole_int {d : D} {lo hi : Int} (e : isWhole d lo hi = true) : ∃ i, d = .int i ∧ lo ≤ i ∧ i ≤ hi := by
  cases d <;> simp [isWhole] at e
  exact ⟨_, rfl, e⟩
theorem isPair_enc {d : D} {m n : Int} (e : isPair d m n = true) : ∃ x : Pr, d = encPr x ∧ (x.1 : Int) < m ∧ (x.2 : Int) < n ∧ prOf d = x := by
  unfold isPair at e
  split at e
  · rename_i a b
    rw [Bool.and_eq_true] at e
    obtain ⟨i, rfl, i0, i1⟩ := isWhole_int e.1
    obtain ⟨j, rfl, j0, j1⟩ := isWhole_int e.2
    refine ⟨(i.toNat, j.toNat), ?_, by simp; omega, by simp; omega, rfl⟩
    simp [encPr]
    omega
  · exact absurd e (by decide)
theorem pairs_enc {m n : Int} : ∀ {xs : List D}, (∀ x ∈ xs, isPair x m n = true) → ∃ p : Pg, xs = p.map encPr ∧ (∀ x ∈ p, (x.1 : Int) < m ∧ (x.2 : Int) < n) ∧ xs.map prOf = p
  | [], _ => ⟨[], rfl, by simp, rfl⟩
  | d :: r, e => by
    obtain ⟨x, rfl, a, b, c⟩ := isPair_enc (e d (by simp))
    obtain ⟨p, rfl, q, t⟩ := pairs_enc (xs := r) fun x hx => e x (by simp [hx])
    refine ⟨x :: p, rfl, fun y hy => ?_, by rw [List.map_cons, t, c]⟩
    rcases List.mem_cons.mp hy with rfl | hy
    · exact ⟨a, b⟩
    · exact q y hy
def pAt (p : Pg) (i : Nat) : Pr := p.getD i (0, 0)
theorem p_at {p : Pg} {i : Nat} (e : i < p.length) : p[i]? = some (pAt p i) := by
  simp [pAt, List.getD_eq_getElem?_getD, e]
/-- ascending from place to place -/
def upB (p : Pg) : Bool := (List.range (p.length - 1)).all fun i => decide ((pAt p i).1 < (pAt p (i + 1)).1)
theorem upB_iff : ∀ {p : Pg}, upB p = true ↔ p.Pairwise fun a b => a.1 < b.1
  | [] => by simp [upB]
  | [x] => by simp [upB]
  | x :: y :: r => by
    have ih := upB_iff (p := y :: r)
    have e : upB (x :: y :: r) = (decide (x.1 < y.1) && upB (y :: r)) := by
      unfold upB
      simp only [List.length_cons, Nat.add_sub_cancel]
      rw [List.range_succ_eq_map, List.all_cons, List.all_map]
      rfl
    rw [e, Bool.and_eq_true, decide_eq_true_eq, ih]
    constructor
    · rintro ⟨a, b⟩
      refine List.pairwise_cons.mpr ⟨fun z hz => ?_, b⟩
      rcases List.mem_cons.mp hz with rfl | hz
      · exact a
      · have := (List.pairwise_cons.mp b).1 z hz
        omega
    · intro a
      exact ⟨(List.pairwise_cons.mp a).1 y (by simp), (List.pairwise_cons.mp a).2⟩
def pgB (p : Pg) : Bool := upB p && decide ((p.map (·.2)).Nodup)
def isPairing (d : D) (m n : Int) : Bool := match d with
  | .tuple xs => xs.all (fun x => isPair x m n) && pgB (xs.map prOf)
  | _ => false
theorem prOf_enc (x : Pr) : prOf (encPr x) = x := by simp [prOf, encPr]
theorem isPair_pr (x : Pr) (m n : Nat) : isPair (encPr x) m n = (decide (x.1 < m) && decide (x.2 < n)) := by
  simp only [isPair, encPr, isWhole]
  rw [Bool.eq_iff_iff]
  simp
  omega
theorem isPairing_iff {p : Pg} {m n : Nat} : isPairing (encP p) m n = true ↔ IsP m n p := by
  have e : (p.map encPr).map prOf = p := by
    rw [List.map_map]
    have : (prOf ∘ encPr) = id := by funext x; exact prOf_enc x
    rw [this, List.map_id]
  simp only [isPairing, encP, e, pgB, Bool.and_eq_true, List.all_map, upB_iff, decide_eq_true_eq, List.all_eq_true, Function.comp_apply, isPair_pr]
  constructor
  · rintro ⟨a, b, c⟩
    exact ⟨fun x hx => (a x hx).1, fun x hx => (a x hx).2, b, c⟩
  · intro q
    exact ⟨fun x hx => ⟨q.b1 x hx, q.b2 x hx⟩, q.up, q.nd⟩
theorem bLens_nats {l : List Nat} (e : l.length ≤ 4000) : bLens [.list (l.map fun i : Nat => PyData.int (i : Int))] = some (.int ((ded (l.map fun i : Nat => (i : Int))).length : Nat)) := by
  have h1 : intL (l.map fun i : Nat => PyData.int (i : Int)) = some (l.map fun i : Nat => (i : Int)) := intL_map l (fun i : Nat => (i : Int))
  show (match intL (l.map fun i : Nat => PyData.int (i : Int)) with
    | some ns => if decide (ns.length ≤ 4000) then some (PyData.int (ded ns).length) else none
    | none => none) = _
  rw [h1]
  simp [e]
theorem nodup_cast {l : List Nat} : (l.map fun i : Nat => (i : Int)).Nodup ↔ l.Nodup := by
  constructor
  · intro n
    rw [List.Nodup, List.pairwise_map] at n
    exact n.imp fun h e => h (by rw [e])
  · exact fun n => nodup_map n fun a _ b _ e => by simpa [Int.natCast_inj] using e
section
variable {Ds : List Dfn} {wf k : Nat} {h : Hep} {F : Fs}
theorem is_pair_ok (o : Ok_is_pair Ds F) (d : D) (m n : Int) : call Ds wf (k + 2) F.f_is_pair [.d d, .d (.int m), .d (.int n)] h = .ok (.d (.bool (isPair d m n))) h := by
  rw [call_ir o.e rfl]
  cases d with
  | tuple xs =>
    match xs with
    | [] => simp [ir_is_pair, tyD, isPair]
    | [a] => simp [ir_is_pair, tyD, isPair]
    | a :: b :: c :: r =>
      have q : ¬ ((r.length : Int) + 1 + 1 + 1 = 2) := by omega
      simp [ir_is_pair, tyD, q, isPair]
    | [a, b] => simp [ir_is_pair, tyD, is_whole_ok o.o_is_whole, isPair]
  | _ => simp [ir_is_pair, tyD, isPair]
theorem is_pairing_ok (o : Ok_is_pairing Ds F) (d : D) (m n : Int) (hl : ∀ xs, d = .tuple xs → xs.length ≤ 4000) : call Ds wf (k + 3) F.f_is_pairing [.d d, .d (.int m), .d (.int n)] h = .ok (.d (.bool (isPairing d m n))) h := by
  rw [call_ir o.e rfl]
  cases d with
  | tuple xs =>
    have lx := hl xs rfl
    have zx := sOk (show xs.length ≤ 16777216 by omega)
    cases q : xs.all fun x => isPair x m n with
    | false =>
      have q' := q
      simp only [List.all_eq_false] at q'
      simp [-List.all_eq_true, -List.all_eq_false, ir_is_pairing, tyD, is_pair_ok o.o_is_pair, zx, isPairing, q]
    | true =>
      obtain ⟨p, rfl, pb, pe⟩ := pairs_enc (List.all_eq_true.mp q)
      rw [List.length_map] at lx zx
      have bl := bLens_nats (l := p.map (·.2)) (by simpa using lx)
      simp only [List.map_map, Function.comp_def] at bl
      have q3 : (p.all fun x => isPair (encPr x) m n) = true := by simpa using q
      have rg : ∀ h, rngV (.d (.int ((p.length : Int) - 1))) h = .ok ((List.range (p.length - 1)).map fun i : Nat => .int (i : Int)) h := fun h => by
        rw [rngV_i (by omega) (by omega)]
        congr 3
        omega
      have zr := sOk (show p.length - 1 ≤ 16777216 by omega)
      have g1 : ∀ i, i ∈ List.range (p.length - 1) → p[i]? = some (pAt p i) := fun i hi => p_at (by simp at hi; omega)
      have g2 : ∀ i, i ∈ List.range (p.length - 1) → L2.atI (p.map encPr) ((i : Int) + 1) = some (encPr (pAt p (i + 1))) := fun i hi => by
        have : i + 1 < p.length := by simp at hi; omega
        rw [show ((i : Int) + 1) = ((i + 1 : Nat) : Int) by omega, atI_nat, List.getElem?_map, p_at this]
        rfl
      have dn := ded_nodup (p.map fun x => (x.2 : Int))
      have nc := nodup_cast (l := p.map (·.2))
      simp only [List.map_map, Function.comp_def] at nc
      simp only [List.length_map] at dn
      simp +contextual [toM, Function.comp_def, -List.all_eq_true, -List.all_eq_false, ir_is_pairing, tyD, is_pair_ok o.o_is_pair, zx, isPairing, q, pe, q3, rg, zr, bl, g1, g2, pgB]
      have e1 : ((List.range (p.length - 1)).all fun a => decide ((pAt p a).1 < (pAt p (a + 1)).1)) = upB p := rfl
      rw [e1]
      congr 1
      rw [decide_eq_decide]
      rw [← nc, ← dn]
      omega
  | _ => simp [ir_is_pairing, tyD, isPairing]
def encA (a : Pg × Pg) : D := .tuple [encP a.1, encP a.2]
structure IsA (one other : Tb) (a : Pg × Pg) : Prop where
  c : IsP one.nm.length other.nm.length a.1
  r : IsP one.rw.length other.rw.length a.2
def fitsD (one other : Tb) (d : D) : Bool := match d with
  | .tuple [a, b] => isPairing a one.nm.length other.nm.length && isPairing b one.rw.length other.rw.length
  | _ => false
/-- tuples within are not too long -/
def tl4 (d : D) : Prop := ∀ xs, d = .tuple xs → xs.length ≤ 4000
theorem fits_ok (o : Ok_fits Ds F) (one other : Tb) (d : D) (hl : ∀ xs, d = .tuple xs → ∀ x ∈ xs, tl4 x) : call Ds wf (k + 4) F.f_fits [.d (encT one), .d (encT other), .d d] h = .ok (.d (.bool (fitsD one other d))) h := by
  rw [call_ir o.e rfl]
  cases d with
  | tuple xs =>
    match xs, hl with
    | [], _ => simp [ir_fits, tyD, fitsD]
    | [a], _ => simp [ir_fits, tyD, fitsD]
    | a :: b :: c :: r, _ =>
      have q : ¬ ((r.length : Int) + 1 + 1 + 1 = 2) := by omega
      simp [ir_fits, tyD, q, fitsD]
    | [a, b], hl =>
      have ea := is_pairing_ok (wf := wf) (k := k) (h := h) o.o_is_pairing a one.nm.length other.nm.length (hl _ rfl a (by simp))
      have eb := is_pairing_ok (wf := wf) (k := k) (h := h) o.o_is_pairing b one.rw.length other.rw.length (hl _ rfl b (by simp))
      simp [ir_fits, tyD, ea, eb, fitsD]
  | _ => simp [ir_fits, tyD, fitsD]
theorem isP_len {m n : Nat} {p : Pg} (q : IsP m n p) : p.length ≤ n := by
  have := nodup_len q.nd (m := List.range n) fun x hx => by
    obtain ⟨y, hy, rfl⟩ := List.mem_map.mp hx
    simpa using q.b2 y hy
  simpa using this
theorem isP_len1 {m n : Nat} {p : Pg} (q : IsP m n p) : p.length ≤ m := by
  have nd : (p.map (·.1)).Nodup := by
    rw [List.Nodup, List.pairwise_map]
    exact q.up.imp fun e => by omega
  have := nodup_len nd (m := List.range m) fun x hx => by
    obtain ⟨y, hy, rfl⟩ := List.mem_map.mp hx
    simpa using q.b1 y hy
  simpa using this
theorem fits_iff {one other : Tb} {a : Pg × Pg} : fitsD one other (encA a) = true ↔ IsA one other a := by
  simp only [fitsD, encA, Bool.and_eq_true, isPairing_iff]
  exact ⟨fun q => ⟨q.1, q.2⟩, fun q => ⟨q.c, q.r⟩⟩
theorem tl4_p {m n : Nat} {p : Pg} (q : IsP m n p) (hn : n ≤ 4) : tl4 (encP p) := fun xs e => by
  have := isP_len q
  have e2 : xs = p.map encPr := by
    injection e with e
    exact e.symm
  rw [e2, List.length_map]
  omega
theorem need_two_ok (o : Ok_need_two Ds F) {one other : Tb} (h1 : TOk one) (h2 : TOk other) : call Ds wf (k + 6) F.f_need_two [.d (encT one), .d (encT other)] h = .ok (.d .none) h := by
  rw [call_ir o.e rfl]
  simp [ir_need_two, need_table_ok o.o_need_table _ h1.sz, need_table_ok o.o_need_table _ h2.sz, tab_true.mpr h1, tab_true.mpr h2]
theorem need_alignment_ok (o : Ok_need_alignment Ds F) {one other : Tb} (h1 : TOk one) (h2 : TOk other) (d : D) (hl : ∀ xs, d = .tuple xs → ∀ x ∈ xs, tl4 x) : call Ds wf (k + 7) F.f_need_alignment [.d (encT one), .d (encT other), .d d] h = if fitsD one other d = true then .ok (.d .none) h else .ex F.xInvalidAlignment h := by
  rw [call_ir o.e rfl]
  simp [ir_need_alignment, need_two_ok o.o_need_two h1 h2, fits_ok (k := k + 2) o.o_fits one other d hl]
  cases fitsD one other d <;> simp
theorem isA_tl4 {one other : Tb} (h1 : TOk one) (h2 : TOk other) {a : Pg × Pg} (q : IsA one other a) : ∀ xs, encA a = .tuple xs → ∀ x ∈ xs, tl4 x := fun xs e x hx => by
  have e2 : xs = [encP a.1, encP a.2] := by
    injection e with e
    exact e.symm
  rw [e2] at hx
  rcases List.mem_cons.mp hx with rfl | hx
  · exact tl4_p q.c h2.n4
  · rw [List.mem_singleton.mp hx]
    exact tl4_p q.r h2.r4
end
end Z

set_option linter.all false
set_option autoImplicit false
/-! P3: counts, plainly. -/
namespace Pl
section
variable {α β : Type} [DecidableEq α] [DecidableEq β]
/-- how many paired columns differ in two rows -/
def missN (v w : Nat → Nat → α) (c : Pg) (i j : Nat) : Nat := (c.map fun y => if v i y.1 = w j y.2 then 0 else 1).sum
def cellsN (v w : Nat → Nat → α) (c r : Pg) : Nat := (r.map fun x => missN v w c x.1 x.2).sum
def namesN (n m : Nat → β) (c : Pg) : Nat := (c.map fun y => if n y.1 = m y.2 then 0 else 1).sum
end
theorem sum_cast {α : Type} (f : α → Nat) : ∀ l : List α, (l.map fun a => ((f a : Nat) : Int)).sum = ((l.map f).sum : Nat)
  | [] => rfl
  | a :: l => by simp [sum_cast f l]
theorem sum_ite {α : Type} (p : α → Prop) [DecidablePred p] (l : List α) : (l.map fun a => if p a then (0 : Int) else 1).sum = ((l.map fun a => if p a then 0 else 1).sum : Nat) := by
  rw [← sum_cast]
  congr 2
  funext a
  split <;> rfl
theorem sum_ite1 {α : Type} (p : α → Prop) [DecidablePred p] (l : List α) : (l.map fun a => if p a then (1 : Int) else 0).sum = ((l.map fun a => if p a then 1 else 0).sum : Nat) := by
  rw [← sum_cast]
  congr 2
  funext a
  split <;> rfl
end Pl

set_option linter.all false
set_option autoImplicit false
set_option maxRecDepth 100000
set_option maxHeartbeats 0
/-! A13: counts. -/
namespace Z
open PySem Pl
theorem rw_range (t : Tb) : t.rw = (List.range t.rw.length).map (rwAt t) := by
  apply List.ext_getElem?
  intro i
  by_cases q : i < t.rw.length
  · simp [q, rw_at q]
    have := rw_at q
    rw [List.getElem?_eq_getElem q] at this
    simpa using this
  · simp [q]
def miss (one other : Tb) (c : Pg) (i j : Nat) : Nat := missN (vAt one) (vAt other) c i j
def missRow (one other : Tb) (c : Pg) (i : Nat) : D := .list ((List.range other.rw.length).map fun j => .int (miss one other c i j : Nat))
def missAll (one other : Tb) (c : Pg) : D := .list ((List.range one.rw.length).map (missRow one other c))
section
variable {Ds : List Dfn} {wf k : Nat} {h : Hep} {F : Fs}
theorem misses_of_ok (o : Ok_misses_of Ds F) {one other : Tb} (h1 : TOk one) (h2 : TOk other) {c : Pg} (hc : IsP one.nm.length other.nm.length c) : call Ds wf (k + 1) F.f_misses_of [.d (encT one), .d (encT other), .d (encP c)] h = .ok (.d (missAll one other c)) h := by
  rw [call_ir o.e rfl]
  have lc := isP_len hc
  have n4 := h2.n4
  have r4 := h2.r4
  have r41 := h1.r4
  have zc := sOk (show c.length ≤ 16777216 by omega)
  have zr := sOk (show other.rw.length ≤ 16777216 by omega)
  obtain ⟨s1, h', e1, x4, rfl, rfl⟩ := forL_inv (α := Nat) (tg := .nm 4) (body := exec ⟨call Ds wf k, wf⟩ (inB (nth (ir_misses_of F).body 1)))
    (fun pre s hh => ∃ x4 : Option Vl, s = [some (.d (encT one)), some (.d (encT other)), some (.d (encP c)), some (.r h.length), x4, none, none, none] ∧ hh = h ++ [.lst (pre.map (missRow one other c))])
    (fun i : Nat => encW (rwAt one i)) (l := List.range one.rw.length) (s := [some (.d (encT one)), some (.d (encT other)), some (.d (encP c)), some (.r h.length), none, none, none, none]) (h := h ++ [.lst []])
    ⟨none, rfl, rfl⟩ (by
      rintro pre i post s hh el ⟨x4, rfl, rfl⟩
      obtain ⟨rfl, hi⟩ := range_split el
      have g1 : ∀ z, z ∈ c → (rwAt one i)[z.1]? = some (vAt one i z.1) := fun z hz => v_at h1 hi (hc.b1 z hz)
      have g2 : ∀ j, j ∈ List.range other.rw.length → ∀ z, z ∈ c → (rwAt other j)[z.2]? = some (vAt other j z.2) := fun j hj z hz => v_at h2 (by simpa using hj) (hc.b2 z hz)
      have g3 : ∀ j, j ∈ List.range other.rw.length → ∀ z, z ∈ c → eqD (encV (vAt one i z.1)) (encV (vAt other j z.2)) = some (decide (vAt one i z.1 = vAt other j z.2)) := fun j hj z hz => eqD_va (v_ok h1 hi (hc.b1 z hz)) (v_ok h2 (by simpa using hj) (hc.b2 z hz))
      have zi : i < sizeLine := by
        show i < 16777216
        omega
      refine ⟨_, [some (.d (encT one)), some (.d (encT other)), some (.d (encP c)), some (.r h.length), some (.d (encW (rwAt one i))), none, none, none], h ++ [.lst ((List.range i ++ [i]).map (missRow one other c))], rfl, ?_, _, rfl, rfl⟩
      have er : items (encR other.rw) = some ((List.range other.rw.length).map fun j => encW (rwAt other j)) := by
        rw [items_R]
        congr 1
        conv => lhs; rw [rw_range other]
        simp
      simp +contextual [toM, ir_misses_of, nth, inB, zc, zr, er, g1, g2, g3, -items_R, sum_ite, appV, zi]
      rfl)
  simp only [ir_misses_of, nth, inB] at e1
  have er : items (encR one.rw) = some ((List.range one.rw.length).map fun j => encW (rwAt one j)) := by
    rw [items_R]
    congr 1
    conv => lhs; rw [rw_range one]
    simp
  simp [ir_misses_of, nth, inB, er, -items_R, e1, fin, missAll]
theorem missAll_at {one other : Tb} {c : Pg} {i : Nat} (e : i < one.rw.length) : idxD (missAll one other c) (i : Nat) = some (missRow one other c i) := by
  simp [missAll, e]
theorem missRow_at {one other : Tb} {c : Pg} {i j : Nat} (e : j < other.rw.length) : idxD (missRow one other c i) (j : Nat) = some (.int (miss one other c i j : Nat)) := by
  simp [missRow, e]
def unp (m n : Nat) (p : Pg) : Nat := m + n - 2 * p.length
theorem unp_cast {m n : Nat} {p : Pg} (q : IsP m n p) : ((m : Int) + (n : Int) - 2 * (p.length : Int)) = (unp m n p : Nat) := by
  have := isP_len q
  have := isP_len1 q
  unfold unp
  omega
theorem unpaired_ok (o : Ok_unpaired Ds F) {m n : Nat} {p : Pg} (q : IsP m n p) : call Ds wf (k + 1) F.f_unpaired [.d (.int (m : Nat)), .d (.int (n : Nat)), .d (encP p)] h = .ok (.d (.int (unp m n p : Nat))) h := by
  rw [call_ir o.e rfl]
  have m2 : mulD (.int 2) (.int (p.length : Nat)) = some (.int (2 * (p.length : Nat))) := mulD_constL (by decide)
  simp [ir_unpaired, m2, ← unp_cast q]
def cellsT (one other : Tb) (a : Pg × Pg) : Nat := cellsN (vAt one) (vAt other) a.1 a.2
def namesT (one other : Tb) (c : Pg) : Nat := namesN (nmAt one) (nmAt other) c
/-- the counts of an alignment -/
def cnt (one other : Tb) (a : Pg × Pg) : List Nat := [cellsT one other a, namesT one other a.1, unp one.nm.length other.nm.length a.1, unp one.rw.length other.rw.length a.2, movesP a.1 + movesP a.2]
theorem counts_of_ok (o : Ok_counts_of Ds F) {one other : Tb} (h1 : TOk one) (h2 : TOk other) {a : Pg × Pg} (ha : IsA one other a) : call Ds wf (k + 3) F.f_counts_of [.d (encT one), .d (encT other), .d (encA a)] h = .ok (.d (nT (cnt one other a))) h := by
  rw [call_ir o.e rfl]
  obtain ⟨c, r⟩ := a
  obtain ⟨hc, hr⟩ := ha
  simp only at hc hr
  have n4 := h2.n4
  have r4 := h2.r4
  have lc := isP_len hc
  have lr := isP_len hr
  have zc := sOk (show c.length ≤ 16777216 by omega)
  have zr := sOk (show r.length ≤ 16777216 by omega)
  have z5 : szOk 5 = true := by rfl
  have g1 : ∀ z, z ∈ r → idxD (missAll one other c) (z.1 : Nat) = some (missRow one other c z.1) := fun z hz => missAll_at (hr.b1 z hz)
  have g2 : ∀ z, z ∈ r → idxD (missRow one other c z.1) (z.2 : Nat) = some (.int (miss one other c z.1 z.2 : Nat)) := fun z hz => missRow_at (hr.b2 z hz)
  have g3 : ∀ z, z ∈ c → one.nm[z.1]? = some (nmAt one z.1) := fun z hz => nm_at (hc.b1 z hz)
  have g4 : ∀ z, z ∈ c → other.nm[z.2]? = some (nmAt other z.2) := fun z hz => nm_at (hc.b2 z hz)
  have g5 : ∀ z, z ∈ c → eqD (.str (nmAt one z.1)) (.str (nmAt other z.2)) = some (decide (nmAt one z.1 = nmAt other z.2)) := fun z hz => eqD_str (nOk_lay (h1.nn _ (nm_mem (hc.b1 z hz)))) (nOk_lay (h2.nn _ (nm_mem (hc.b2 z hz))))
  simp +contextual [toM, ir_counts_of, encA, misses_of_ok (k := k + 1) o.o_misses_of h1 h2 hc, zc, zr, z5, g1, g2, g3, g4, g5, unpaired_ok (k := k + 1) o.o_unpaired hc, unpaired_ok (k := k + 1) o.o_unpaired hr, moves_in_ok o.o_moves_in (show c.length ≤ 1000 by omega), moves_in_ok o.o_moves_in (show r.length ≤ 1000 by omega), sum_ite, sum_cast]
  simp [cnt, cellsT, cellsN, namesT, namesN, miss]
/-- the cost of counts -/
def costN (c w : List Nat) : Nat := ((List.range 5).map fun i => at0 c i * at0 w i).sum
theorem cost_of_ok (o : Ok_cost_of Ds F) {c w : List Nat} (hc : c.length = 5) (hw : WOk w) : call Ds wf (k + 1) F.f_cost_of [.d (nT c), .d (nT w)] h = .ok (.d (.int (costN c w : Nat))) h := by
  rw [call_ir o.e rfl]
  have en : enumD (c.map fun i : Nat => PyData.int (i : Int)) = (List.range 5).map fun i : Nat => .tuple [.int (i : Nat), .int (at0 c i : Nat)] := by
    have := enumD_at (fun i : Nat => PyData.int (i : Int)) 0 c
    rw [hc] at this
    exact this
  have z5 : szOk 5 = true := by rfl
  have g1 : ∀ i, i ∈ List.range 5 → w[i]? = some (at0 w i) := fun i hi => by
    have : i < w.length := by
      rw [hw.l5]
      simpa using hi
    simp [at0, List.getD_eq_getElem?_getD, this]
  have g2 : ∀ i, i ∈ List.range 5 → mulD (.int (at0 c i : Nat)) (.int (at0 w i : Nat)) = some (.int ((at0 c i * at0 w i : Nat) : Int)) := fun i hi => by
    have := hw.hi _ (List.mem_of_getElem? (g1 i hi))
    rw [mulD_const (by omega), Int.natCast_mul]
  simp +contextual [toM, ir_cost_of, en, z5, g1, g2, sum_cast]
  rw [costN, ← sum_cast]
  simp only [Int.natCast_mul]
theorem cost_ok (o : Ok_cost Ds F) {one other : Tb} (h1 : TOk one) (h2 : TOk other) {a : Pg × Pg} (ha : IsA one other a) {w : List Nat} (hw : WOk w) : call Ds wf (k + 8) F.f_cost [.d (encT one), .d (encT other), .d (encA a), .d (nT w)] h = .ok (.d (.int (costN (cnt one other a) w : Nat))) h := by
  rw [call_ir o.e rfl]
  simp [ir_cost, need_alignment_ok o.o_need_alignment h1 h2 _ (isA_tl4 h1 h2 ha), fits_iff.mpr ha, need_weights_ok (k := k + 5) o.o_need_weights, isW_ok hw, counts_of_ok (k := k + 4) o.o_counts_of h1 h2 ha, cost_of_ok (k := k + 6) o.o_cost_of (show (cnt one other a).length = 5 from rfl) hw]
theorem law_cost_ok (o : Ok__law_cost Ds F) {c w : List Nat} (hc : c.length = 5) (hw : WOk w) : call Ds wf (k + 1) F.f__law_cost [.d (nT c), .d (nT w)] h = .ok (.d (.int (costN c w : Nat))) h := by
  rw [call_ir o.e rfl]
  have en : enumD (c.map fun i : Nat => PyData.int (i : Int)) = (List.range 5).map fun i : Nat => .tuple [.int (i : Nat), .int (at0 c i : Nat)] := by
    have := enumD_at (fun i : Nat => PyData.int (i : Int)) 0 c
    rw [hc] at this
    exact this
  have z5 : szOk 5 = true := by rfl
  have g1 : ∀ i, i ∈ List.range 5 → w[i]? = some (at0 w i) := fun i hi => by
    have : i < w.length := by
      rw [hw.l5]
      simpa using hi
    simp [at0, List.getD_eq_getElem?_getD, this]
  have g2 : ∀ i, i ∈ List.range 5 → mulD (.int (at0 c i : Nat)) (.int (at0 w i : Nat)) = some (.int ((at0 c i * at0 w i : Nat) : Int)) := fun i hi => by
    have := hw.hi _ (List.mem_of_getElem? (g1 i hi))
    rw [mulD_const (by omega), Int.natCast_mul]
  simp +contextual [toM, ir__law_cost, en, z5, g1, g2, sum_cast]
  rw [costN, ← sum_cast]
  simp only [Int.natCast_mul]
end
end Z

set_option linter.all false
set_option autoImplicit false
set_option maxRecDepth 100000
set_option maxHeartbeats 0
/-! A14: the law's counts and alignments. -/
namespace Z
open PySem Pl
@[simp] theorem setTg_pr' (s : Env) (x : Pr) (i j : Nat) : setTg s (encPr x) (.tp [i, j]) = some ((s.set i (some (.d (.int (x.1 : Nat))))).set j (some (.d (.int (x.2 : Nat))))) := (rfl)
def allA (one other : Tb) : List (Pg × Pg) := (prs one.nm.length other.nm.length).flatMap fun c => (prs one.rw.length other.rw.length).map fun r => (c, r)
theorem mem_allA {one other : Tb} {a : Pg × Pg} : a ∈ allA one other ↔ IsA one other a := by
  simp only [allA, List.mem_flatMap, List.mem_map, mem_prs]
  constructor
  · rintro ⟨c, hc, r, hr, rfl⟩
    exact ⟨hc, hr⟩
  · intro q
    exact ⟨a.1, q.c, a.2, q.r, rfl⟩
def encAL (l : List (Pg × Pg)) : D := .list (l.map encA)
@[simp] theorem items_AL (l : List (Pg × Pg)) : items (encAL l) = some (l.map encA) := (rfl)
/-- what holds behind a block that runs through -/
def Post (r : RS) (Q : Env → Hep → Prop) : Prop := ∃ s h, r = .nx s h ∧ Q s h
@[simp] theorem post_nx (s : Env) (h : Hep) (Q : Env → Hep → Prop) : Post (.nx s h) Q ↔ Q s h :=
  ⟨fun ⟨_, _, e, q⟩ => by cases e; exact q, fun q => ⟨s, h, rfl, q⟩⟩
theorem post_ite (c : Prop) [Decidable c] (a b : RS) (Q : Env → Hep → Prop) : Post (if c then a else b) Q ↔ (if c then Post a Q else Post b Q) := by split <;> rfl
/-- a loop by an invariant over what is done -/
theorem forL_post {α : Type} {tg : Tg} {body : Env → Hep → RS} (I : List α → Env → Hep → Prop) (enc : α → D) {l : List α} {s : Env} {h : Hep} (h0 : I [] s h) (step : ∀ pre x post s h, l = pre ++ x :: post → I pre s h → ∃ s1, setTg s (enc x) tg = some s1 ∧ Post (body s1 h) (I (pre ++ [x]))) : ∃ s' h', forL tg body (l.map enc) s h = .nx s' h' ∧ I l s' h' :=
  forL_inv I enc h0 fun pre x post s h e i => by
    obtain ⟨s1, e1, s2, h2, e2, i2⟩ := step pre x post s h e i
    exact ⟨s1, s2, h2, e1, e2, i2⟩
section
variable {Ds : List Dfn} {wf k : Nat} {h : Hep} {F : Fs}
theorem law_counts_ok (o : Ok__law_counts Ds F) {one other : Tb} (h1 : TOk one) (h2 : TOk other) {a : Pg × Pg} (ha : IsA one other a) : call Ds wf (k + 3) F.f__law_counts [.d (encT one), .d (encT other), .d (encA a)] h = .ok (.d (nT (cnt one other a))) h := by
  rw [call_ir o.e rfl]
  obtain ⟨c, r⟩ := a
  obtain ⟨hc, hr⟩ := ha
  simp only at hc hr
  have n4 := h2.n4
  have r4 := h2.r4
  have lc := isP_len hc
  have lr := isP_len hr
  have zc := sOk (show c.length ≤ 16777216 by omega)
  have zr := sOk (show r.length ≤ 16777216 by omega)
  have z5 : szOk 5 = true := by rfl
  obtain ⟨s1, h', e1, rfl, x9, x10, x11, x12, rfl⟩ := forL_post (α := Pr) (tg := .tp [9, 10]) (body := exec ⟨call Ds wf (k + 2), wf⟩ (inB (nth (ir__law_counts F).body 2)))
    (fun pre s hh => hh = h ∧ ∃ x9 x10 x11 x12 : Option Vl, s = [some (.d (encT one)), some (.d (encT other)), some (.d (encA (c, r))), some (.d (.int ((pre.map fun x => miss one other c x.1 x.2).sum : Nat))), none, none, none, some (.d (encP c)), some (.d (encP r)), x9, x10, x11, x12, none, none])
    encPr (l := r) (s := [some (.d (encT one)), some (.d (encT other)), some (.d (encA (c, r))), some (.d (.int 0)), none, none, none, some (.d (encP c)), some (.d (encP r)), none, none, none, none, none, none]) (h := h)
    ⟨rfl, none, none, none, none, rfl⟩ (by
      rintro pre x post s hh el ⟨rfl, x9, x10, x11, x12, rfl⟩
      have hx : x ∈ r := by rw [el]; simp
      have i1 := hr.b1 x hx
      have i2 := hr.b2 x hx
      obtain ⟨s2, h2', e2, rfl, y11, y12, rfl⟩ := forL_inv (α := Pr) (tg := .tp [11, 12]) (body := exec ⟨call Ds wf (k + 2), wf⟩ (inB (nth (inB (nth (ir__law_counts F).body 2)) 0)))
        (fun pre2 s h2 => h2 = hh ∧ ∃ x11 x12 : Option Vl, s = [some (.d (encT one)), some (.d (encT other)), some (.d (encA (c, r))), some (.d (.int (((pre.map fun x => miss one other c x.1 x.2).sum + (pre2.map fun y : Pr => if vAt one x.1 y.1 = vAt other x.2 y.2 then 0 else 1).sum : Nat) : Int))), none, none, none, some (.d (encP c)), some (.d (encP r)), some (.d (.int (x.1 : Nat))), some (.d (.int (x.2 : Nat))), x11, x12, none, none])
        encPr (l := c) (s := [some (.d (encT one)), some (.d (encT other)), some (.d (encA (c, r))), some (.d (.int ((pre.map fun x => miss one other c x.1 x.2).sum : Nat))), none, none, none, some (.d (encP c)), some (.d (encP r)), some (.d (.int (x.1 : Nat))), some (.d (.int (x.2 : Nat))), x11, x12, none, none]) (h := hh)
        ⟨rfl, x11, x12, rfl⟩ (by
          rintro pre2 y post2 s h2' el2 ⟨rfl, x11, x12, rfl⟩
          have hy : y ∈ c := by rw [el2]; simp
          have j1 := hc.b1 y hy
          have j2 := hc.b2 y hy
          refine ⟨_, [some (.d (encT one)), some (.d (encT other)), some (.d (encA (c, r))), some (.d (.int (((pre.map fun x => miss one other c x.1 x.2).sum + ((pre2 ++ [y]).map fun y : Pr => if vAt one x.1 y.1 = vAt other x.2 y.2 then 0 else 1).sum : Nat) : Int))), none, none, none, some (.d (encP c)), some (.d (encP r)), some (.d (.int (x.1 : Nat))), some (.d (.int (x.2 : Nat))), some (.d (.int (y.1 : Nat))), some (.d (.int (y.2 : Nat))), none, none], _, rfl, ?_, rfl, _, _, rfl⟩
          simp [ir__law_counts, nth, inB, rw_at i1, rw_at i2, v_at h1 i1 j1, v_at h2 i2 j2, eqD_va (v_ok h1 i1 j1) (v_ok h2 i2 j2)]
          split <;> simp [*] <;> omega)
      simp only [ir__law_counts, nth, inB] at e2
      refine ⟨_, rfl, ?_⟩
      simp [ir__law_counts, nth, inB, e2]
      rfl)
  have g3 : ∀ z, z ∈ c → one.nm[z.1]? = some (nmAt one z.1) := fun z hz => nm_at (hc.b1 z hz)
  have g4 : ∀ z, z ∈ c → other.nm[z.2]? = some (nmAt other z.2) := fun z hz => nm_at (hc.b2 z hz)
  have g5 : ∀ z, z ∈ c → eqD (.str (nmAt one z.1)) (.str (nmAt other z.2)) = some (decide (nmAt one z.1 = nmAt other z.2)) := fun z hz => eqD_str (nOk_lay (h1.nn _ (nm_mem (hc.b1 z hz)))) (nOk_lay (h2.nn _ (nm_mem (hc.b2 z hz))))
  simp only [ir__law_counts, nth, inB] at e1
  have m2 : ∀ n : Nat, mulD (.int 2) (.int (n : Nat)) = some (.int (2 * (n : Nat))) := fun n => mulD_constL (by decide)
  have mc := law_moves_ok (wf := wf) (k := k) (h := h') o.o__law_moves (show c.length ≤ 1000 by omega)
  have mr := law_moves_ok (wf := wf) (k := k) (h := h') o.o__law_moves (show r.length ≤ 1000 by omega)
  simp only [encA] at e1
  simp +contextual [toM, ir__law_counts, nth, inB, encA, e1, g3, g4, g5, m2, zc, z5, mc, mr]
  rw [sum_ite, unp_cast hc, unp_cast hr]
  simp [cnt, cellsT, cellsN, miss, namesT, namesN]
theorem len_allA {one other : Tb} (h1 : TOk one) (h2 : TOk other) : (allA one other).length ≤ 390625 := by
  have a := len_prs h1.n4 h2.n4
  have b := len_prs h1.r4 h2.r4
  have key : ∀ l : List Pg, (l.flatMap fun c => (prs one.rw.length other.rw.length).map fun r => (c, r)).length = l.length * (prs one.rw.length other.rw.length).length := fun l => by
    induction l with
    | nil => simp
    | cons x r ih => rw [List.flatMap_cons, List.length_append, ih, List.length_map, List.length_cons, Nat.add_mul]; omega
  rw [allA, key]
  calc _ ≤ 625 * 625 := Nat.mul_le_mul a b
    _ = 390625 := rfl
theorem law_alignments_ok (o : Ok__law_alignments Ds F) {one other : Tb} (h1 : TOk one) (h2 : TOk other) : call Ds wf (k + 2) F.f__law_alignments [.d (encT one), .d (encT other)] h = .ok (.d (encAL (allA one other))) h := by
  rw [call_ir o.e rfl]
  have p1 := fun h => law_pairings_ok (wf := wf) (k := k) (h := h) o.o__law_pairings h1.n4 h2.n4
  have p2 := fun h => law_pairings_ok (wf := wf) (k := k) (h := h) o.o__law_pairings h1.r4 h2.r4
  have l1 := len_prs h1.n4 h2.n4
  have l2 := len_prs h1.r4 h2.r4
  have z2 : szOk 2 = true := by rfl
  have zr := sOk (show (prs one.rw.length other.rw.length).length ≤ 16777216 by omega)
  obtain ⟨s1, h', e1, rfl, x3, rfl⟩ := forL_post (α := Pg) (tg := .nm 3) (body := exec ⟨call Ds wf (k + 1), wf⟩ (inB (nth (ir__law_alignments F).body 1)))
    (fun pre s hh => hh = h ∧ ∃ x3 : Option Vl, s = [some (.d (encT one)), some (.d (encT other)), some (.d (encAL (pre.flatMap fun c => (prs one.rw.length other.rw.length).map fun r => (c, r)))), x3, none])
    encP (l := prs one.nm.length other.nm.length) (s := [some (.d (encT one)), some (.d (encT other)), some (.d (.list [])), none, none]) (h := h)
    ⟨rfl, none, rfl⟩ (by
      rintro pre c post s hh el ⟨rfl, x3, rfl⟩
      refine ⟨_, rfl, ?_⟩
      have key : ∀ l : List Pg, (l.flatMap fun c => (prs one.rw.length other.rw.length).map fun r => (c, r)).length = l.length * (prs one.rw.length other.rw.length).length := fun l => by
        induction l with
        | nil => simp
        | cons x r ih => rw [List.flatMap_cons, List.length_append, ih, List.length_map, List.length_cons, Nat.add_mul]; omega
      have lp : pre.length ≤ 625 := by
        have := congrArg List.length el
        simp at this
        omega
      have zs := sOk (show (pre.flatMap fun c => (prs one.rw.length other.rw.length).map fun r => (c, r)).length + (prs one.rw.length other.rw.length).length ≤ 16777216 by
        rw [key]
        have : pre.length * (prs one.rw.length other.rw.length).length ≤ 625 * 625 := Nat.mul_le_mul lp l2
        omega)
      simp [-List.length_flatMap, ir__law_alignments, nth, inB, p2, zr, z2, encAL, zs, encA])
  simp only [ir__law_alignments, nth, inB] at e1
  simp [ir__law_alignments, nth, inB, p1, e1, allA]
end
end Z

set_option linter.all false
set_option autoImplicit false
/-! P4: the least ones of a list. -/
namespace Pl
section
variable {α : Type} (f : α → Nat)
/-- one more is looked at -/
def stp (st : Option Nat × List α) (a : α) : Option Nat × List α := match st.1 with
  | none => (some (f a), [a])
  | some l => if f a < l then (some (f a), [a]) else if f a = l then (some l, st.2 ++ [a]) else st
def bestF (l : List α) : Option Nat × List α := l.foldl (stp f) (none, [])
variable {f}
theorem stp_skip {st : Option Nat × List α} {a : α} {l : Nat} (e : st.1 = some l) (h : l < f a) : stp f st a = st := by
  obtain ⟨o, x⟩ := st
  simp only at e
  subst e
  show (if f a < l then _ else if f a = l then _ else _) = _
  rw [if_neg (by omega), if_neg (by omega)]
theorem stp_le {st : Option Nat × List α} {a : α} : ∃ m, (stp f st a).1 = some m ∧ m ≤ f a ∧ ∀ l, st.1 = some l → m ≤ l := by
  obtain ⟨o, x⟩ := st
  cases o with
  | none => exact ⟨f a, rfl, Nat.le_refl _, fun l e => by cases e⟩
  | some l =>
    simp only [stp]
    by_cases q : f a < l
    · rw [if_pos q]
      exact ⟨f a, rfl, Nat.le_refl _, fun l' e => by cases e; omega⟩
    · rw [if_neg q]
      by_cases r : f a = l
      · rw [if_pos r]
        exact ⟨l, rfl, by omega, fun l' e => by cases e; omega⟩
      · rw [if_neg r]
        exact ⟨l, rfl, by omega, fun l' e => by cases e; omega⟩
/-- what is dearer than the least so far may be left out -/
theorem fold_close {p : α → Bool} : ∀ {l : List α} {st : Option Nat × List α}, (∀ a ∈ l, p a = false → ∃ m, st.1 = some m ∧ m < f a) → (l.filter p).foldl (stp f) st = l.foldl (stp f) st
  | [], _, _ => rfl
  | a :: l, st, h => by
    have mono : ∀ a', ∀ b ∈ l, p b = false → ∃ m, (stp f st a').1 = some m ∧ m < f b := fun a' b hb q => by
      obtain ⟨m, e, lt⟩ := h b (by simp [hb]) q
      obtain ⟨m', e', _, le⟩ := stp_le (f := f) (st := st) (a := a')
      exact ⟨m', e', Nat.lt_of_le_of_lt (le m e) lt⟩
    cases q : p a with
    | true =>
      rw [List.filter_cons_of_pos q, List.foldl_cons, List.foldl_cons]
      exact fold_close (mono a)
    | false =>
      obtain ⟨m, e, lt⟩ := h a (by simp) q
      rw [List.filter_cons_of_neg (by simp [q]), List.foldl_cons, stp_skip e lt]
      exact fold_close fun b hb q => h b (by simp [hb]) q
theorem bestF_ok : ∀ (l : List α), (l = [] ∧ bestF f l = (none, [])) ∨ ∃ m, bestF f l = (some m, l.filter fun a => decide (f a = m)) ∧ (∀ a ∈ l, m ≤ f a) ∧ ∃ a ∈ l, f a = m := by
  intro l
  have key : ∀ (post pre : List α) (st : Option Nat × List α), ((pre = [] ∧ st = (none, [])) ∨ ∃ m, st = (some m, pre.filter fun a => decide (f a = m)) ∧ (∀ a ∈ pre, m ≤ f a) ∧ ∃ a ∈ pre, f a = m) → ((pre ++ post = [] ∧ post.foldl (stp f) st = (none, [])) ∨ ∃ m, post.foldl (stp f) st = (some m, (pre ++ post).filter fun a => decide (f a = m)) ∧ (∀ a ∈ pre ++ post, m ≤ f a) ∧ ∃ a ∈ pre ++ post, f a = m) := by
    intro post
    induction post with
    | nil => intro pre st h; simpa using h
    | cons x r ih =>
      intro pre st h
      rw [List.foldl_cons, show pre ++ x :: r = (pre ++ [x]) ++ r by simp]
      refine ih (pre ++ [x]) _ (.inr ?_)
      rcases h with ⟨rfl, rfl⟩ | ⟨m, rfl, h1, b, hb, h2⟩
      · exact ⟨f x, by simp [stp], by simp, x, by simp, rfl⟩
      · simp only [stp]
        by_cases q : f x < m
        · rw [if_pos q]
          refine ⟨f x, ?_, fun a ha => ?_, x, by simp, rfl⟩
          · rw [List.filter_append]
            have : pre.filter (fun a => decide (f a = f x)) = [] := by
              rw [List.filter_eq_nil_iff]
              intro a ha e
              have := h1 a ha
              have := of_decide_eq_true e
              omega
            rw [this]
            simp
          · rcases List.mem_append.mp ha with ha | ha
            · have := h1 a ha
              omega
            · rw [List.mem_singleton.mp ha]
              exact Nat.le_refl _
        · rw [if_neg q]
          by_cases e : f x = m
          · rw [if_pos e]
            refine ⟨m, by simp [e], fun a ha => ?_, b, by simp [hb], h2⟩
            rcases List.mem_append.mp ha with ha | ha
            · exact h1 a ha
            · rw [List.mem_singleton.mp ha]
              omega
          · rw [if_neg e]
            refine ⟨m, by simp [e], fun a ha => ?_, b, by simp [hb], h2⟩
            rcases List.mem_append.mp ha with ha | ha
            · exact h1 a ha
            · rw [List.mem_singleton.mp ha]
              omega
  have := key l [] (none, []) (.inl ⟨rfl, rfl⟩)
  simpa [bestF] using this
end
end Pl

set_option linter.all false
set_option autoImplicit false
set_option maxRecDepth 100000
set_option maxHeartbeats 0
/-! A15: best. -/
namespace Z
open PySem Pl
def encO : Option Nat → D
  | none => .none
  | some n => .int (n : Nat)
def rowW (one other : Tb) (r : Pg) : D := .tuple [encP r, .int (unp one.rw.length other.rw.length r : Nat), .int (movesP r : Nat)]
def extraN (one other : Tb) (w : List Nat) (r : Pg) : Nat := unp one.rw.length other.rw.length r * at0 w 3 + movesP r * at0 w 4
def baseN (one other : Tb) (w : List Nat) (c : Pg) : Nat := namesT one other c * at0 w 1 + unp one.nm.length other.nm.length c * at0 w 2 + movesP c * at0 w 4
def costT (one other : Tb) (w : List Nat) (a : Pg × Pg) : Nat := costN (cnt one other a) w
theorem costT_eq (one other : Tb) (w : List Nat) (a : Pg × Pg) : costT one other w a = baseN one other w a.1 + extraN one other w a.2 + at0 w 0 * cellsT one other a := by
  simp only [costT, costN, cnt, List.range_succ, List.range_zero, List.nil_append, List.map_append, List.map_cons, List.map_nil, List.sum_append, List.sum_cons, List.sum_nil, at0, List.getD_cons_zero, List.getD_cons_succ, baseN, extraN]
  rw [Nat.mul_comm (w.getD 0 0), Nat.add_mul]
  omega
def exR (one other : Tb) (w : List Nat) (r : Pg) : D := .tuple [encP r, .int (extraN one other w r : Nat)]
theorem stp_len {α : Type} (f : α → Nat) (st : Option Nat × List α) (a : α) : (stp f st a).2.length ≤ st.2.length + 1 := by
  obtain ⟨o, l⟩ := st
  cases o with
  | none => simp [stp]
  | some m =>
    simp only [stp]
    split
    · simp
    · split <;> simp
theorem fold_len {α : Type} (f : α → Nat) : ∀ (l : List α) (st : Option Nat × List α), (l.foldl (stp f) st).2.length ≤ st.2.length + l.length
  | [], st => by simp
  | a :: l, st => by
    have h1 := fold_len f l (stp f st a)
    have h2 := stp_len f st a
    simp only [List.foldl_cons, List.length_cons]
    omega
theorem sb_assoc (x : RS) (f g : Env → Hep → RS) : sb (sb x f) g = sb x fun s h => sb (f s h) g := by cases x <;> rfl
section
variable {Ds : List Dfn} {wf k : Nat} {h : Hep} {F : Fs}
theorem rows_with_ok (o : Ok_rows_with Ds F) {one other : Tb} (h1 : TOk one) (h2 : TOk other) : call Ds wf (k + 7) F.f_rows_with [.d (encT one), .d (encT other)] h = .ok (.d (.list ((prs one.rw.length other.rw.length).map (rowW one other)))) h := by
  rw [call_ir o.e rfl]
  have p2 := fun h => all_pairings_ok (wf := wf) (k := k) (h := h) o.o_all_pairings h1.r4 h2.r4
  have l2 := len_prs h1.r4 h2.r4
  have zr := sOk (show (prs one.rw.length other.rw.length).length ≤ 16777216 by omega)
  have z3 : szOk 3 = true := by rfl
  have r4 := h2.r4
  have g1 : ∀ p h, p ∈ prs one.rw.length other.rw.length → call Ds wf (k + 6) F.f_unpaired [.d (.int (one.rw.length : Nat)), .d (.int (other.rw.length : Nat)), .d (encP p)] h = .ok (.d (.int (unp one.rw.length other.rw.length p : Nat))) h := fun p h hp => unpaired_ok (k := k + 5) o.o_unpaired (mem_prs.mp hp)
  have g2 : ∀ p h, p ∈ prs one.rw.length other.rw.length → call Ds wf (k + 6) F.f_moves_in [.d (encP p)] h = .ok (.d (.int (movesP p : Nat))) h := fun p h hp => moves_in_ok (k := k + 4) o.o_moves_in (by have := isP_len (mem_prs.mp hp); omega)
  simp +contextual [toM, ir_rows_with, p2, zr, z3, g1, g2]
  exact fun a _ => rfl
theorem isP_nil (m n : Nat) : IsP m n [] := ⟨by simp, by simp, by simp, by simp⟩
theorem best_ok (o : Ok_best Ds F) {one other : Tb} (h1 : TOk one) (h2 : TOk other) {w : List Nat} (hw : WOk w) : call Ds wf (k + 8) F.f_best [.d (encT one), .d (encT other), .d (nT w)] h = .ok (.d (.tuple [encO (bestF (costT one other w) (allA one other)).1, encAL (bestF (costT one other w) (allA one other)).2])) h := by
  rw [call_ir o.e rfl]
  have n4 := h2.n4
  have r4 := h2.r4
  have gw : ∀ i, i < 5 → w[i]? = some (at0 w i) := fun i hi => by
    have : i < w.length := by
      rw [hw.l5]
      exact hi
    simp [at0, List.getD_eq_getElem?_getD, this]
  have w9 : ∀ i, i < 5 → at0 w i ≤ 9 := fun i hi => hw.hi _ (List.mem_of_getElem? (gw i hi))
  have gm : ∀ (n : Nat) (i : Nat), i < 5 → mulD (.int (n : Nat)) (.int (at0 w i : Nat)) = some (.int ((n * at0 w i : Nat) : Int)) := fun n i hi => by
    have := w9 i hi
    rw [mulD_const (by omega), Int.natCast_mul]
  have gm0 : ∀ (n : Nat), mulD (.int (at0 w 0 : Nat)) (.int (n : Nat)) = some (.int ((at0 w 0 * n : Nat) : Int)) := fun n => by
    have := w9 0 (by omega)
    rw [mulD_constL (by omega), Int.natCast_mul]
  have rww := fun h => rows_with_ok (wf := wf) (k := k) (h := h) o.o_rows_with h1 h2
  have l2 := len_prs h1.r4 h2.r4
  have zr := sOk (show (prs one.rw.length other.rw.length).length ≤ 16777216 by omega)
  have z2 : szOk 2 = true := by rfl
  have w0 := gw 0 (by omega)
  have w1 := gw 1 (by omega)
  have w2 := gw 2 (by omega)
  have w3 := gw 3 (by omega)
  have w4 := gw 4 (by omega)
  have m3 := fun n => gm n 3 (by omega)
  have m4 := fun n => gm n 4 (by omega)
  have m1 := fun n => gm n 1 (by omega)
  have m2 := fun n => gm n 2 (by omega)
  have st0 : exec ⟨call Ds wf (k + 7), wf⟩ (.seq (nth (ir_best F).body 0) (nth (ir_best F).body 1)) [some (.d (encT one)), some (.d (encT other)), some (.d (nT w)), none, none, none, none, none, none, none, none, none, none, none, none, none, none, none, none] h = .nx [some (.d (encT one)), some (.d (encT other)), some (.d (nT w)), some (.d (.list ((prs one.rw.length other.rw.length).map (exR one other w)))), none, some (.d .none), some (.r h.length), none, none, none, none, none, none, none, none, none, none, none, none] (h ++ [.lst []]) := by
    simp [ir_best, nth, rww, zr, z2, rowW, w3, w4, m3, m4]
    intro a _
    simp [exR, extraN]
  let f := costT one other w
  have inner : ∀ (c : Pg), IsP one.nm.length other.nm.length c → ∀ (rs : List Pg), (∀ r ∈ rs, IsP one.rw.length other.rw.length r) → ∀ (st : Option Nat × List (Pg × Pg)) (hg g : Hep) (x9 x10 x11 x12 x13 x14 : Option Vl), st.2.length + rs.length ≤ 1000000 → hg = h ++ g →
      ∃ s' h', forL (.tp [12, 13]) (exec ⟨call Ds wf (k + 7), wf⟩ (inB (nth (inB (nth (ir_best F).body 2)) 4))) (rs.map (exR one other w)) [some (.d (encT one)), some (.d (encT other)), some (.d (nT w)), some (.d (.list ((prs one.rw.length other.rw.length).map (exR one other w)))), some (.d (encP c)), some (.d (encO st.1)), some (.r hg.length), some (.d (.int (baseN one other w c : Nat))), some (.d (missAll one other c)), x9, x10, x11, x12, x13, x14, none, none, none, none] (hg ++ [.lst (st.2.map encA)]) = .nx s' h' ∧ ∃ (hg' g' : Hep) (x12 x13 x14 : Option Vl), hg' = h ++ g' ∧ s' = [some (.d (encT one)), some (.d (encT other)), some (.d (nT w)), some (.d (.list ((prs one.rw.length other.rw.length).map (exR one other w)))), some (.d (encP c)), some (.d (encO ((rs.map fun r => (c, r)).foldl (stp f) st).1)), some (.r hg'.length), some (.d (.int (baseN one other w c : Nat))), some (.d (missAll one other c)), x9, x10, x11, x12, x13, x14, none, none, none, none] ∧ h' = hg' ++ [.lst (((rs.map fun r => (c, r)).foldl (stp f) st).2.map encA)] := by
    intro c hc rs hrs st hg g x9 x10 x11 x12 x13 x14 hlen ehg
    refine forL_post (α := Pg) (fun pre s hh => ∃ (hg' g' : Hep) (x12 x13 x14 : Option Vl), hg' = h ++ g' ∧ s = [some (.d (encT one)), some (.d (encT other)), some (.d (nT w)), some (.d (.list ((prs one.rw.length other.rw.length).map (exR one other w)))), some (.d (encP c)), some (.d (encO ((pre.map fun r => (c, r)).foldl (stp f) st).1)), some (.r hg'.length), some (.d (.int (baseN one other w c : Nat))), some (.d (missAll one other c)), x9, x10, x11, x12, x13, x14, none, none, none, none] ∧ hh = hg' ++ [.lst (((pre.map fun r => (c, r)).foldl (stp f) st).2.map encA)]) (exR one other w) ⟨hg, g, x12, x13, x14, ehg, rfl, rfl⟩ ?_
    rintro pre r post s hh el ⟨hg', g', x12, x13, x14, rfl, rfl, rfl⟩
    have hr := hrs r (by rw [el]; simp)
    have lr := isP_len hr
    have zr' := sOk (show r.length ≤ 16777216 by omega)
    have g1 : ∀ z, z ∈ r → idxD (missAll one other c) (z.1 : Nat) = some (missRow one other c z.1) := fun z hz => missAll_at (hr.b1 z hz)
    have g2 : ∀ z, z ∈ r → idxD (missRow one other c z.1) (z.2 : Nat) = some (.int (miss one other c z.1 z.2 : Nat)) := fun z hz => missRow_at (hr.b2 z hz)
    have cs : (r.map fun x => miss one other c x.1 x.2).sum = cellsT one other (c, r) := rfl
    have ce : baseN one other w c + extraN one other w r + at0 w 0 * cellsT one other (c, r) = f (c, r) := (costT_eq one other w (c, r)).symm
    have ce' : (baseN one other w c : Int) + (extraN one other w r : Int) + (at0 w 0 : Int) * (cellsT one other (c, r) : Int) = ((f (c, r) : Nat) : Int) := by
      rw [← ce]
      simp
    have zs : 0 < sizeLine := by decide
    refine ⟨_, rfl, ?_⟩
    rw [List.map_append, List.foldl_append, List.map_cons, List.map_nil, List.foldl_cons, List.foldl_nil]
    have lst : ((pre.map fun r => (c, r)).foldl (stp f) st).2.length < sizeLine := by
      have h1 := fold_len f (pre.map fun r => (c, r)) st
      have h2 := congrArg List.length el
      simp only [List.length_map, List.length_append, List.length_cons] at h1 h2
      show _ < 16777216
      omega
    generalize (pre.map fun r => (c, r)).foldl (stp f) st = st1 at lst ⊢
    obtain ⟨o, fs⟩ := st1
    simp only at lst
    cases o with
    | none =>
      simp +contextual [toM, ir_best, nth, inB, zr', g1, g2, sum_cast, cs, gm0, w0, ce', encO, z2, zs, appV, encA, stp]
      exact ⟨h ++ (g' ++ [.lst (fs.map encA)]), ⟨_, rfl⟩, by simp, by simp⟩
    | some l =>
      by_cases q : f (c, r) < l
      · simp +contextual [toM, ir_best, nth, inB, zr', g1, g2, sum_cast, cs, gm0, w0, ce', encO, z2, zs, appV, encA, stp, q]
        exact ⟨h ++ (g' ++ [.lst (fs.map encA)]), ⟨_, rfl⟩, by simp, by simp⟩
      · by_cases q2 : f (c, r) = l
        · simp +contextual [toM, ir_best, nth, inB, zr', g1, g2, sum_cast, cs, gm0, w0, ce', encO, z2, zs, appV, encA, stp, q, q2, lst]
          exact ⟨h ++ g', ⟨_, rfl⟩, by simp, by simp⟩
        · simp +contextual [toM, ir_best, nth, inB, zr', g1, g2, sum_cast, cs, gm0, w0, ce', encO, z2, zs, appV, encA, stp, q, q2, Int.natCast_inj]
          exact ⟨h ++ g', ⟨_, rfl⟩, by simp, by simp⟩
  obtain ⟨s1, h', e1, hg', g', x4, x7, x8, x9, x10, x11, x12, x13, x14, rfl, rfl, rfl⟩ := forL_post (α := Pg) (tg := .nm 4) (body := exec ⟨call Ds wf (k + 7), wf⟩ (inB (nth (ir_best F).body 2)))
    (fun pre s hh => ∃ (hg' g' : Hep) (x4 x7 x8 x9 x10 x11 x12 x13 x14 : Option Vl), hg' = h ++ g' ∧ s = [some (.d (encT one)), some (.d (encT other)), some (.d (nT w)), some (.d (.list ((prs one.rw.length other.rw.length).map (exR one other w)))), x4, some (.d (encO (bestF f (pre.flatMap fun c => (prs one.rw.length other.rw.length).map fun r => (c, r))).1)), some (.r hg'.length), x7, x8, x9, x10, x11, x12, x13, x14, none, none, none, none] ∧ hh = hg' ++ [.lst ((bestF f (pre.flatMap fun c => (prs one.rw.length other.rw.length).map fun r => (c, r))).2.map encA)])
    encP (l := prs one.nm.length other.nm.length) (s := [some (.d (encT one)), some (.d (encT other)), some (.d (nT w)), some (.d (.list ((prs one.rw.length other.rw.length).map (exR one other w)))), none, some (.d .none), some (.r h.length), none, none, none, none, none, none, none, none, none, none, none, none]) (h := h ++ [.lst []])
    ⟨h, [], none, none, none, none, none, none, none, none, none, by simp, rfl, rfl⟩ (by
      rintro pre c post s hh el ⟨hg', g', x4, x7, x8, x9, x10, x11, x12, x13, x14, rfl, rfl, rfl⟩
      have hc : IsP one.nm.length other.nm.length c := mem_prs.mp (by rw [el]; simp)
      have lc := isP_len hc
      refine ⟨_, rfl, ?_⟩
      have hA : IsA one other (c, []) := ⟨hc, isP_nil _ _⟩
      have e2 : ∀ h, call Ds wf (k + 7) F.f_counts_of [.d (encT one), .d (encT other), .d (.tuple [encP c, .tuple []])] h = .ok (.d (nT (cnt one other (c, [])))) h := fun h => counts_of_ok (k := k + 4) o.o_counts_of h1 h2 hA
      have e3 := fun h => moves_in_ok (wf := wf) (k := k + 5) (h := h) o.o_moves_in (show c.length ≤ 1000 by omega)
      have e4 := fun h => misses_of_ok (wf := wf) (k := k + 6) (h := h) o.o_misses_of h1 h2 hc
      have cb : (namesT one other c : Int) * (at0 w 1 : Int) + (unp one.nm.length other.nm.length c : Int) * (at0 w 2 : Int) + (movesP c : Int) * (at0 w 4 : Int) = (baseN one other w c : Nat) := by
        simp [baseN]
      have lf : (bestF f (pre.flatMap fun c => (prs one.rw.length other.rw.length).map fun r => (c, r))).2.length ≤ 390625 := by
        have q1 := fold_len f (pre.flatMap fun c => (prs one.rw.length other.rw.length).map fun r => (c, r)) (none, [])
        have q2 := len_allA h1 h2
        have q3 : (pre.flatMap fun c => (prs one.rw.length other.rw.length).map fun r => (c, r)).length ≤ (allA one other).length := by
          rw [allA, el, List.flatMap_append, List.length_append]
          omega
        simp only [List.length_nil] at q1
        exact Nat.le_trans q1 (by omega)
      have hst : bestF f ((pre ++ [c]).flatMap fun c => (prs one.rw.length other.rw.length).map fun r => (c, r)) = ((prs one.rw.length other.rw.length).map fun r => (c, r)).foldl (stp f) (bestF f (pre.flatMap fun c => (prs one.rw.length other.rw.length).map fun r => (c, r))) := by
        simp [bestF, List.foldl_append]
      rw [hst]
      generalize (bestF f (pre.flatMap fun c => (prs one.rw.length other.rw.length).map fun r => (c, r))) = st at lf ⊢
      obtain ⟨o, fs⟩ := st
      have pm : ∀ r ∈ prs one.rw.length other.rw.length, IsP one.rw.length other.rw.length r := fun r hr => mem_prs.mp hr
      simp only at lf
      cases o with
      | none =>
        obtain ⟨s', h', e5, hg2, g2, y12, y13, y14, rfl, rfl, rfl⟩ := inner c hc (prs one.rw.length other.rw.length) pm (none, fs) (h ++ g') g' (some (.d (.list ((prs one.rw.length other.rw.length).map (exR one other w))))) (some (.d (.int (namesT one other c : Nat)))) (some (.d (.int (unp one.nm.length other.nm.length c : Nat)))) x12 x13 x14 (by simp only; omega) rfl
        simp only [ir_best, nth, inB, encO, List.append_assoc, List.length_append] at e5
        simp +contextual [toM, ir_best, nth, inB, e2, e3, e4, cnt, slcD, cut, HT.sIx, w1, w2, w4, m1, m2, m4, cb, z2, zr, encO, e5]
        exact ⟨h ++ g2, ⟨_, rfl⟩, by simp, by simp⟩
      | some l =>
        obtain ⟨s', h', e5, hg2, g2, y12, y13, y14, rfl, rfl, rfl⟩ := inner c hc ((prs one.rw.length other.rw.length).filter fun r => decide ((baseN one other w c : Int) + (extraN one other w r : Int) ≤ (l : Int))) (fun r hr => pm r (List.mem_filter.mp hr).1) (some l, fs) (h ++ g') g' (some (.d (.list (((prs one.rw.length other.rw.length).filter fun r => decide ((baseN one other w c : Int) + (extraN one other w r : Int) ≤ (l : Int))).map (exR one other w))))) (some (.d (.int (namesT one other c : Nat)))) (some (.d (.int (unp one.nm.length other.nm.length c : Nat)))) x12 x13 x14 (by have := List.length_filter_le (fun r => decide ((baseN one other w c : Int) + (extraN one other w r : Int) ≤ (l : Int))) (prs one.rw.length other.rw.length); simp only; omega) rfl
        have fc : (((prs one.rw.length other.rw.length).filter fun r => decide ((baseN one other w c : Int) + (extraN one other w r : Int) ≤ (l : Int))).map fun r => (c, r)).foldl (stp f) (some l, fs) = ((prs one.rw.length other.rw.length).map fun r => (c, r)).foldl (stp f) (some l, fs) := by
          rw [← fold_close (f := f) (p := fun a : Pg × Pg => decide ((baseN one other w c : Int) + (extraN one other w a.2 : Int) ≤ (l : Int))) (l := (prs one.rw.length other.rw.length).map fun r => (c, r)), List.filter_map]
          · rfl
          · intro a ha q
            obtain ⟨r, hr, rfl⟩ := List.mem_map.mp ha
            refine ⟨l, rfl, ?_⟩
            have q' : ¬ ((baseN one other w c : Int) + (extraN one other w r : Int) ≤ (l : Int)) := of_decide_eq_false q
            have := costT_eq one other w (c, r)
            show l < costT one other w (c, r)
            simp only at this
            omega
        rw [fc] at e5
        simp only [ir_best, nth, inB, encO, List.append_assoc, List.length_append] at e5
        have ex1 : ∀ r, idxD (exR one other w r) 1 = some (.int (extraN one other w r : Nat)) := fun _ => rfl
        simp +contextual [toM, ir_best, nth, inB, e2, e3, e4, cnt, slcD, cut, HT.sIx, w1, w2, w4, m1, m2, m4, cb, z2, zr, encO, ex1, e5]
        exact ⟨h ++ g2, ⟨_, rfl⟩, by simp, by simp⟩)
  have p1 := fun h => all_pairings_ok (wf := wf) (k := k + 1) (h := h) o.o_all_pairings h1.n4 h2.n4
  have eb : (ir_best F).body = .seq (nth (ir_best F).body 0) (.seq (nth (ir_best F).body 1) (.seq (nth (ir_best F).body 2) (.seq (nth (ir_best F).body 3) .skip))) := rfl
  have es : List.map some [Vl.d (encT one), Vl.d (encT other), Vl.d (nT w)] ++ List.replicate ((ir_best F).ns - (ir_best F).ps) none = [some (.d (encT one)), some (.d (encT other)), some (.d (nT w)), none, none, none, none, none, none, none, none, none, none, none, none, none, none, none, none] := rfl
  rw [es, eb]
  rw [ex_seq] at st0
  simp only [ex_seq]
  rw [← sb_assoc, st0, sb_nx]
  simp only [ir_best, nth, inB] at e1
  simp [ir_best, nth, inB, p1, e1, keep, z2]
  exact ⟨rfl, rfl⟩
/-- the least cost, the least alignments -/
def leastC (one other : Tb) (w : List Nat) : Nat := ((bestF (costT one other w) (allA one other)).1).getD 0
def leastA (one other : Tb) (w : List Nat) : List (Pg × Pg) := (bestF (costT one other w) (allA one other)).2
theorem isA_nil (one other : Tb) : IsA one other ([], []) := ⟨isP_nil _ _, isP_nil _ _⟩
theorem least_ok (one other : Tb) (w : List Nat) : bestF (costT one other w) (allA one other) = (some (leastC one other w), leastA one other w) ∧ leastA one other w = (allA one other).filter (fun a => decide (costT one other w a = leastC one other w)) ∧ (∀ a, IsA one other a → leastC one other w ≤ costT one other w a) ∧ ∃ a, IsA one other a ∧ costT one other w a = leastC one other w := by
  rcases bestF_ok (f := costT one other w) (allA one other) with ⟨e, _⟩ | ⟨m, e, h1, a, ha, h2⟩
  · have : ([], []) ∈ allA one other := mem_allA.mpr (isA_nil one other)
    rw [e] at this
    exact absurd this (by simp)
  · have em : leastC one other w = m := by rw [leastC, e]; rfl
    have ea : leastA one other w = (allA one other).filter fun a => decide (costT one other w a = m) := by rw [leastA, e]
    rw [em, ea, e]
    exact ⟨rfl, rfl, fun a ha => h1 a (mem_allA.mpr ha), a, mem_allA.mp ha, h2⟩
theorem best_ok' (o : Ok_best Ds F) {one other : Tb} (h1 : TOk one) (h2 : TOk other) {w : List Nat} (hw : WOk w) : call Ds wf (k + 8) F.f_best [.d (encT one), .d (encT other), .d (nT w)] h = .ok (.d (.tuple [.int (leastC one other w : Nat), encAL (leastA one other w)])) h := by
  rw [best_ok o h1 h2 hw, (least_ok one other w).1]
  rfl
theorem least_cost_ok (o : Ok_least_cost Ds F) {one other : Tb} (h1 : TOk one) (h2 : TOk other) {w : List Nat} (hw : WOk w) : call Ds wf (k + 9) F.f_least_cost [.d (encT one), .d (encT other), .d (nT w)] h = .ok (.d (.int (leastC one other w : Nat))) h := by
  rw [call_ir o.e rfl]
  simp [ir_least_cost, need_two_ok (k := k + 2) o.o_need_two h1 h2, need_weights_ok (k := k + 6) o.o_need_weights, isW_ok hw, best_ok' o.o_best h1 h2 hw]
theorem least_alignments_ok (o : Ok_least_alignments Ds F) {one other : Tb} (h1 : TOk one) (h2 : TOk other) {w : List Nat} (hw : WOk w) : call Ds wf (k + 9) F.f_least_alignments [.d (encT one), .d (encT other), .d (nT w)] h = .ok (.d (encAL (leastA one other w))) h := by
  rw [call_ir o.e rfl]
  simp [ir_least_alignments, need_two_ok (k := k + 2) o.o_need_two h1 h2, need_weights_ok (k := k + 6) o.o_need_weights, isW_ok hw, best_ok' o.o_best h1 h2 hw]
end
end Z

set_option linter.all false
set_option autoImplicit false
set_option maxRecDepth 100000
set_option maxHeartbeats 0
/-! A16: dicts of keys; pairs in some pairings, possible, certain. -/
namespace Z
open PySem Pl
/-! ### each item once -/
section
variable {α : Type} [DecidableEq α]
def addU (l : List α) (x : α) : List α := if x ∈ l then l else l ++ [x]
def allU (l : List α) : List α := l.foldl addU []
theorem mem_addU {l : List α} {x y : α} : y ∈ addU l x ↔ y ∈ l ∨ y = x := by
  unfold addU
  split
  · rename_i h
    exact ⟨.inl, fun q => q.elim id fun e => e ▸ h⟩
  · simp
theorem nodup_addU {l : List α} {x : α} (h : l.Nodup) : (addU l x).Nodup := by
  unfold addU
  split
  · exact h
  · rename_i q
    exact List.nodup_append.mpr ⟨h, by simp, fun a ha b hb e => q (by simp at hb; rw [← hb, ← e]; exact ha)⟩
theorem fold_addU : ∀ (l a : List α), a.Nodup → (l.foldl addU a).Nodup ∧ (∀ y, y ∈ l.foldl addU a ↔ y ∈ a ∨ y ∈ l) ∧ (l.foldl addU a).length ≤ a.length + l.length
  | [], a, h => ⟨h, by simp, by simp⟩
  | x :: l, a, h => by
    obtain ⟨h1, h2, h3⟩ := fold_addU l (addU a x) (nodup_addU h)
    refine ⟨h1, fun y => ?_, ?_⟩
    · rw [List.foldl_cons, h2, mem_addU]
      simp [or_assoc]
    · have : (addU a x).length ≤ a.length + 1 := by
        unfold addU
        split <;> simp
      rw [List.foldl_cons, List.length_cons]
      omega
theorem nodup_allU (l : List α) : (allU l).Nodup := (fold_addU l [] (by simp)).1
theorem mem_allU {l : List α} {y : α} : y ∈ allU l ↔ y ∈ l := by
  have := (fold_addU l [] (by simp)).2.1 y
  simpa [allU] using this
theorem len_allU (l : List α) : (allU l).length ≤ l.length := by
  have := (fold_addU l [] (by simp)).2.2
  simpa [allU] using this
theorem allU_snoc (l : List α) (x : α) : allU (l ++ [x]) = addU (allU l) x := by simp [allU, List.foldl_append]
/-! ### .. as a dict's keys -/
def kvG (f : α → List Int) (x : α) : List Int × D := (f x, .bool true)
theorem put_kv {f : α → List Int} (hf : ∀ a b, f a = f b → a = b) (l : List α) (x : α) : putL (l.map (kvG f)) (f x) (.bool true) = (addU l x).map (kvG f) := by
  unfold putL addU
  have e : (l.map (kvG f)).any (fun kv => decide (kv.1 = f x)) = decide (x ∈ l) := by
    rw [List.any_map]
    by_cases q : x ∈ l
    · rw [decide_eq_true q]
      exact List.any_eq_true.mpr ⟨x, q, by simp [kvG]⟩
    · rw [decide_eq_false q]
      refine Bool.eq_false_iff.mpr fun z => ?_
      obtain ⟨y, hy, ey⟩ := List.any_eq_true.mp z
      have : f y = f x := of_decide_eq_true ey
      exact q (hf _ _ this ▸ hy)
  rw [e]
  by_cases q : x ∈ l
  · rw [if_pos (decide_eq_true q), if_pos q, List.map_map]
    refine List.map_congr_left fun y _ => ?_
    show (if f y = f x then (f y, PyData.bool true) else kvG f y) = kvG f y
    split <;> rfl
  · rw [if_neg (by simp [q]), if_neg q]
    simp [kvG]
theorem val_kv {f : α → List Int} (hf : ∀ a b, f a = f b → a = b) (l : List α) (x : α) : (valL (l.map (kvG f)) (f x)).isSome = decide (x ∈ l) := by
  unfold valL
  by_cases q : x ∈ l
  · rw [decide_eq_true q]
    cases e : (l.map (kvG f)).find? fun kv => decide (kv.1 = f x) with
    | some _ => rfl
    | none =>
      have := List.find?_eq_none.mp e (kvG f x) (List.mem_map_of_mem q)
      simp [kvG] at this
  · rw [decide_eq_false q]
    cases e : (l.map (kvG f)).find? fun kv => decide (kv.1 = f x) with
    | none => rfl
    | some z =>
      have h1 := List.find?_some e
      obtain ⟨y, hy, rfl⟩ := List.mem_map.mp (List.mem_of_find?_eq_some e)
      have : f y = f x := of_decide_eq_true h1
      exact absurd (hf _ _ this ▸ hy) q
end
@[simp] theorem ev_dnw {C : Cfg} {s : Env} {h : Hep} : ev C .dnw s h = .ok (.r h.length) (h ++ [.dct []]) := (rfl)
theorem bltV_dct {h : Hep} {n : Nat} {kvs : List (List Int × D)} (e : h[n]? = some (.dct kvs)) : bltV .lst [.r n] h = .ok (.d (.list (kvs.map fun p => keyD p.1))) h := by
  unfold bltV
  simp [peek, e, keysV]
theorem putV_dct {s : Env} {h : Hep} {n : Nat} {kvs : List (List Int × D)} {x : D} {ks : List D} {zs : List Int} (e : h[n]? = some (.dct kvs)) (ek : intL ks = some zs) (hz : kvs.length < 16777216) : putV s n x (.d (.tuple ks)) h = .nx s (h.set n (.dct (putL kvs zs x))) := by
  have hz' : kvs.length < sizeLine := hz
  simp [putV, e, ek, hz']
/-! ### the least of some numbers -/
theorem minI_lo : ∀ (r : List Int) (n : Int), (minI n r = n ∨ minI n r ∈ r) ∧ minI n r ≤ n ∧ ∀ y ∈ r, minI n r ≤ y
  | [], n => ⟨.inl rfl, Int.le_refl _, fun _ h => nomatch h⟩
  | x :: r, n => by
    obtain ⟨h1, h2, h3⟩ := minI_lo r (if x < n then x else n)
    have e : minI n (x :: r) = minI (if x < n then x else n) r := rfl
    rw [e]
    generalize minI (if x < n then x else n) r = m at h1 h2 h3
    refine ⟨?_, ?_, fun y hy => ?_⟩
    · rcases h1 with h1 | h1
      · rw [h1]
        split
        · exact .inr List.mem_cons_self
        · exact .inl rfl
      · exact .inr (List.mem_cons_of_mem _ h1)
    · split at h2 <;> omega
    · rcases List.mem_cons.mp hy with e | hy
      · rw [e]
        split at h2 <;> omega
      · exact h3 y hy
theorem bMin_is {α : Type} {l : List α} {f : α → Nat} {m : Nat} (h1 : ∃ a ∈ l, f a = m) (h2 : ∀ a ∈ l, m ≤ f a) : bMin [.list (l.map fun a => .int (f a : Nat))] = some (.int (m : Nat)) := by
  show (match intL (l.map fun a => PyData.int (f a : Nat)) with
    | some (n :: r) => some (PyData.int (minI n r))
    | _ => none) = _
  rw [intL_map l fun a => (f a : Int)]
  obtain ⟨a, ha, ea⟩ := h1
  cases l with
  | nil => simp at ha
  | cons b l =>
    simp only [List.map_cons]
    obtain ⟨q1, q2, q3⟩ := minI_lo (l.map fun a => (f a : Int)) (f b)
    have lo : (m : Int) ≤ minI (f b) (l.map fun a => (f a : Int)) := by
      rcases q1 with q1 | q1
      · rw [q1]
        have := h2 b (by simp)
        omega
      · obtain ⟨c, hc, ec⟩ := List.mem_map.mp q1
        rw [← ec]
        have := h2 c (List.mem_cons_of_mem _ hc)
        omega
    have hi : minI (f b) (l.map fun a => (f a : Int)) ≤ (m : Int) := by
      rw [← ea]
      rcases List.mem_cons.mp ha with rfl | ha
      · exact q2
      · exact q3 _ (List.mem_map_of_mem ha)
    have : minI (f b) (l.map fun a => (f a : Int)) = (m : Int) := by omega
    rw [this]
/-! ### pairs -/
def keyP (x : Pr) : List Int := [(x.1 : Int), (x.2 : Int)]
theorem keyP_inj (a b : Pr) (h : keyP a = keyP b) : a = b := by
  simp [keyP] at h
  obtain ⟨h1, h2⟩ := h
  exact Prod.ext (by omega) (by omega)
theorem keyD_P (x : Pr) : keyD (keyP x) = encPr x := rfl
theorem inj_pr (a b : Pr) : W.alike (encPr a) (encPr b) = true ∧ (PyData.eqv (encPr a) (encPr b) = true → a = b) := ⟨alike_pr a b, fun e => by simpa [eqv_pr] using e⟩
theorem lt_pr {x y : Pr} (h : x.1 < y.1) : W.dataLt (encPr y) (encPr x) = false := by
  have e : PyData.eqv (.int (y.1 : Int)) (.int (x.1 : Int)) = false := by
    rw [PyData.eqv]
    simp
    omega
  have := W.dataLt_all_no (x := .int (y.1 : Int)) (y := .int (x.1 : Int)) (xs := [.int (y.2 : Int)]) (ys := [.int (x.2 : Int)]) rfl e
  have h2 : W.dataLt (encPr y) (encPr x) = W.dataLt (.int (y.1 : Int)) (.int (x.1 : Int)) := this
  rw [h2, W.dataLt_int]
  simp
  omega
theorem leD_pr {x y : Pr} (h : x.1 < y.1) : leD (encPr x) (encPr y) = true := by
  unfold leD
  rw [lt_pr h]
  rfl
theorem isP_sorted {m n : Nat} {p : Pg} (h : IsP m n p) : p.Pairwise fun a b => leD (encPr a) (encPr b) = true := h.up.imp fun q => leD_pr q
theorem isP_nodup {m n : Nat} {p : Pg} (h : IsP m n p) : p.Nodup := by
  refine List.nodup_iff_pairwise_ne.mpr (h.up.imp fun q e => ?_)
  rw [e] at q
  omega
theorem isP_sub {m n : Nat} {p q : Pg} (h : IsP m n p) (s : q.Sublist p) : IsP m n q := ⟨fun x hx => h.b1 x (s.subset hx), fun x hx => h.b2 x (s.subset hx), h.up.sublist s, h.nd.sublist (s.map _)⟩
/-- all pairs that are in some pairings -/
def pin (ps : List Pg) : List Pr := srt encPr (allU ps.flatten)
theorem mem_pin {ps : List Pg} {x : Pr} : x ∈ pin ps ↔ ∃ p ∈ ps, x ∈ p := by
  rw [pin, (srt_perm encPr _).mem_iff, mem_allU, List.mem_flatten]
theorem nodup_pin (ps : List Pg) : (pin ps).Nodup := (srt_perm encPr _).nodup_iff.mpr (nodup_allU _)
theorem pin_sorted (ps : List Pg) : (pin ps).Pairwise fun a b => leD (encPr a) (encPr b) = true := srt_sorted encPr _
section
variable {Ds : List Dfn} {wf k : Nat} {h : Hep} {F : Fs}
theorem pairs_in_ok (o : Ok_pairs_in Ds F) (ps : List Pg) (hl : ps.flatten.length < 16777216) : call Ds wf (k + 1) F.f_pairs_in [.d (encL ps)] h = .ok (.d (.list ((pin ps).map encPr))) h := by
  rw [call_ir o.e rfl]
  obtain ⟨s', h', e, a2, a3, rfl, rfl⟩ := forL_inv (tg := .nm 2) (body := exec ⟨call Ds wf k, wf⟩ (inB (nth (ir_pairs_in F).body 1))) (α := Pg)
    (fun pre s hh => ∃ a2 a3 : Option Vl, s = [some (.d (encL ps)), some (.r h.length), a2, a3] ∧ hh = h ++ [.dct ((allU pre.flatten).map (kvG keyP))]) encP (l := ps)
    (s := [some (.d (encL ps)), some (.r h.length), none, none]) (h := h ++ [.dct []]) ⟨none, none, rfl, rfl⟩ (by
      rintro pre p post s hh el ⟨a2, a3, rfl, rfl⟩
      obtain ⟨s2, h2, e2, a4, rfl, rfl⟩ := forL_inv (tg := .nm 3) (body := exec ⟨call Ds wf k, wf⟩ (inB (nth (inB (nth (ir_pairs_in F).body 1)) 0))) (α := Pr)
        (fun pq s hh => ∃ a3 : Option Vl, s = [some (.d (encL ps)), some (.r h.length), some (.d (encP p)), a3] ∧ hh = h ++ [.dct ((allU (pre.flatten ++ pq)).map (kvG keyP))]) encPr (l := p)
        (s := [some (.d (encL ps)), some (.r h.length), some (.d (encP p)), a3]) (h := h ++ [.dct ((allU pre.flatten).map (kvG keyP))]) ⟨a3, rfl, by simp⟩ (by
          rintro pq x pr s hh eq ⟨a3, rfl, rfl⟩
          have lb : ((allU (pre.flatten ++ pq)).map (kvG keyP)).length < 16777216 := by
            rw [List.length_map]
            refine Nat.lt_of_le_of_lt (len_allU _) (Nat.lt_of_le_of_lt ?_ hl)
            rw [el, eq]
            simp
          have pv := fun s => putV_dct (s := s) (h := h ++ [.dct ((allU (pre.flatten ++ pq)).map (kvG keyP))]) (n := h.length) (kvs := (allU (pre.flatten ++ pq)).map (kvG keyP)) (x := .bool true) (ks := [.int (x.1 : Nat), .int (x.2 : Nat)]) (zs := keyP x) (by simp) rfl lb
          have pk := put_kv keyP_inj (allU (pre.flatten ++ pq)) x
          refine ⟨_, _, _, rfl, ?_, some (.d (encPr x)), rfl, rfl⟩
          simp [ir_pairs_in, nth, inB, encPr, pv, pk, allU_snoc, ← List.append_assoc])
      refine ⟨_, _, _, rfl, ?_, some (.d (encP p)), a4, rfl, rfl⟩
      simp only [ir_pairs_in, nth, inB, encP] at e2
      simp [ir_pairs_in, nth, inB, encP, e2])
  simp only [ir_pairs_in, nth, inB, encL] at e
  have e1 := bltV_dct (h := h ++ [.dct ((allU ps.flatten).map (kvG keyP))]) (n := h.length) (kvs := (allU ps.flatten).map (kvG keyP)) (by simp)
  have e2 : ((allU ps.flatten).map (kvG keyP)).map (fun p => keyD p.1) = (allU ps.flatten).map encPr := by
    rw [List.map_map]
    rfl
  rw [e2] at e1
  have e3 := bSorted_map (f := encPr) (m := 1) alike_pr okd_pr (by decide) (fun a => rfl) (allU ps.flatten)
  simp [ir_pairs_in, nth, inB, encL, e, e1, e3, pin]
/-- the pairs that are in all pairings -/
def cin (ps : List Pg) : List Pr := (pin ps).filter fun x => ps.all fun p => decide (x ∈ p)
theorem shp_pr (x : Pr) : shp (encPr x) = true := (okd_pr x).shp (by decide)
theorem innD_P (x : Pr) (p : Pg) : innD (encPr x) (encP p) = some (decide (x ∈ p)) := by
  have h1 : hasD (encPr x) (p.map encPr) = some (decide (x ∈ p)) := by
    unfold hasD
    rw [shp_pr x]
    have h2 : shp (.list (p.map encPr)) = true := (okd_list (m := 1) fun y hy => by
      obtain ⟨z, _, rfl⟩ := List.mem_map.mp hy
      exact okd_pr z).shp (by decide)
    rw [h2]
    have h3 : (p.map encPr).any (fun z => PyData.eqv z (encPr x)) = decide (x ∈ p) := by
      rw [List.any_map]
      by_cases q : x ∈ p
      · rw [decide_eq_true q]
        exact List.any_eq_true.mpr ⟨x, q, by simp [eqv_pr]⟩
      · rw [decide_eq_false q]
        refine Bool.eq_false_iff.mpr fun z => ?_
        obtain ⟨y, hy, ey⟩ := List.any_eq_true.mp z
        simp [eqv_pr] at ey
        exact q (ey ▸ hy)
    simp [h3]
  exact h1
theorem fl1 (l : List (Pg × Pg)) (f : Pg × Pg → Pg) (hf : ∀ a ∈ l, (f a).length ≤ 4) (hl : l.length ≤ 390625) : (l.map f).flatten.length < 16777216 := by
  have key : ∀ l : List (Pg × Pg), (∀ a ∈ l, (f a).length ≤ 4) → (l.map f).flatten.length ≤ 4 * l.length := by
    intro l
    induction l with
    | nil => simp
    | cons a l ih =>
      intro h
      have h1 := h a (by simp)
      have h2 := ih fun b hb => h b (List.mem_cons_of_mem _ hb)
      simp only [List.map_cons, List.flatten_cons, List.length_append, List.length_cons]
      omega
  have := key l hf
  omega
theorem least_mem {one other : Tb} {w : List Nat} {a : Pg × Pg} (h : a ∈ leastA one other w) : IsA one other a ∧ costT one other w a = leastC one other w := by
  rw [(least_ok one other w).2.1] at h
  obtain ⟨h1, h2⟩ := List.mem_filter.mp h
  exact ⟨mem_allA.mp h1, of_decide_eq_true h2⟩
theorem least_len {one other : Tb} (h1 : TOk one) (h2 : TOk other) (w : List Nat) : (leastA one other w).length ≤ 390625 := by
  rw [(least_ok one other w).2.1]
  exact Nat.le_trans (List.length_filter_le _ _) (len_allA h1 h2)
theorem least_sides {one other : Tb} (h1 : TOk one) (h2 : TOk other) (w : List Nat) : ((leastA one other w).map (·.1)).flatten.length < 16777216 ∧ ((leastA one other w).map (·.2)).flatten.length < 16777216 := by
  refine ⟨fl1 _ _ (fun a ha => ?_) (least_len h1 h2 w), fl1 _ _ (fun a ha => ?_) (least_len h1 h2 w)⟩
  · exact Nat.le_trans (isP_len (least_mem ha).1.1) h2.n4
  · exact Nat.le_trans (isP_len (least_mem ha).1.2) h2.r4
def encPP (l : List Pr) : D := .tuple (l.map encPr)
theorem possible_ok (o : Ok_possible Ds F) {one other : Tb} (h1 : TOk one) (h2 : TOk other) {w : List Nat} (hw : WOk w) : call Ds wf (k + 10) F.f_possible [.d (encT one), .d (encT other), .d (nT w)] h = .ok (.d (.tuple [encP (pin ((leastA one other w).map (·.1))), encP (pin ((leastA one other w).map (·.2)))])) h := by
  rw [call_ir o.e rfl]
  have e1 := least_alignments_ok (wf := wf) (k := k) (h := h) o.o_least_alignments h1 h2 hw
  obtain ⟨l1, l2⟩ := least_sides h1 h2 w
  have e2 := pairs_in_ok (wf := wf) (k := k + 8) (h := h) o.o_pairs_in ((leastA one other w).map (·.1)) l1
  have e3 := pairs_in_ok (wf := wf) (k := k + 8) (h := h) o.o_pairs_in ((leastA one other w).map (·.2)) l2
  have z := sOk (show (leastA one other w).length ≤ 16777216 by have := least_len h1 h2 w; omega)
  have z2 : szOk 2 = true := by rfl
  simp only [encL, List.map_map] at e2 e3
  have c1 : (encP ∘ fun a : Pg × Pg => a.1) = fun a : Pg × Pg => encP a.1 := rfl
  have c2 : (encP ∘ fun a : Pg × Pg => a.2) = fun a : Pg × Pg => encP a.2 := rfl
  rw [c1] at e2
  rw [c2] at e3
  simp [ir_possible, e1, encAL, z, z2, compG, encA, e2, e3]
  exact ⟨rfl, rfl⟩
theorem certain_ok (o : Ok_certain Ds F) {one other : Tb} (h1 : TOk one) (h2 : TOk other) {w : List Nat} (hw : WOk w) : call Ds wf (k + 10) F.f_certain [.d (encT one), .d (encT other), .d (nT w)] h = .ok (.d (.tuple [encP (cin ((leastA one other w).map (·.1))), encP (cin ((leastA one other w).map (·.2)))])) h := by
  rw [call_ir o.e rfl]
  have e1 := least_alignments_ok (wf := wf) (k := k) (h := h) o.o_least_alignments h1 h2 hw
  obtain ⟨l1, l2⟩ := least_sides h1 h2 w
  have e2 := fun h => pairs_in_ok (wf := wf) (k := k + 8) (h := h) o.o_pairs_in ((leastA one other w).map (·.1)) l1
  have e3 := fun h => pairs_in_ok (wf := wf) (k := k + 8) (h := h) o.o_pairs_in ((leastA one other w).map (·.2)) l2
  have z := sOk (show (leastA one other w).length ≤ 16777216 by have := least_len h1 h2 w; omega)
  have lp : ∀ ps : List Pg, ps.flatten.length < 16777216 → szOk (pin ps).length = true := fun ps hp => sOk (by
    have := len_allU ps.flatten
    have h3 : (pin ps).length = (allU ps.flatten).length := (srt_perm encPr _).length_eq
    omega)
  have z3 := lp _ l1
  have z4 := lp _ l2
  have z2 : szOk 2 = true := by rfl
  have zs : 0 < sizeLine := by decide
  have zt : 1 < sizeLine := by decide
  simp only [encL, List.map_map] at e2 e3
  have c1 : (encP ∘ fun a : Pg × Pg => a.1) = fun a : Pg × Pg => encP a.1 := rfl
  have c2 : (encP ∘ fun a : Pg × Pg => a.2) = fun a : Pg × Pg => encP a.2 := rfl
  rw [c1] at e2
  rw [c2] at e3
  simp [ir_certain, e1, encAL, z, z2, z3, z4, forL, encA, e2, e3, innD_P, appV, zs, zt, cin, peek]
  exact ⟨rfl, rfl⟩
theorem is_alignment_ok (o : Ok_is_alignment Ds F) {one other : Tb} (h1 : TOk one) (h2 : TOk other) (d : D) (hl : ∀ xs, d = .tuple xs → ∀ x ∈ xs, tl4 x) : call Ds wf (k + 7) F.f_is_alignment [.d (encT one), .d (encT other), .d d] h = .ok (.d (.bool (fitsD one other d))) h := by
  rw [call_ir o.e rfl]
  have e1 := need_two_ok (wf := wf) (k := k) (h := h) o.o_need_two h1 h2
  have e2 := fits_ok (wf := wf) (k := k + 2) (h := h) o.o_fits one other d hl
  simp [ir_is_alignment, e1, e2]
theorem okd_A (a : Pg × Pg) : Okd 3 (encA a) := okd_tup fun y hy => by
  rcases List.mem_cons.mp hy with rfl | hy
  · exact okd_p _
  · rw [List.mem_singleton.mp hy]
    exact okd_p _
theorem eqD_A (x y : Pg × Pg) : eqD (encA x) (encA y) = some (decide (x = y)) := by
  have e : PyData.eqv (encA x) (encA y) = decide (x = y) := by
    rw [encA, encA, PyData.eqv, PyData.eqvAll, PyData.eqvAll, PyData.eqvAll, eqv_p, eqv_p]
    obtain ⟨a, b⟩ := x
    obtain ⟨c, d⟩ := y
    by_cases q : a = c <;> by_cases r : b = d <;> simp [q, r]
  unfold eqD
  rw [(okd_A x).shp (by decide), (okd_A y).shp (by decide), e]
  rfl
end
end Z

set_option linter.all false
set_option autoImplicit false
/-! P8: counts that no others beat. -/
namespace Pl
def beatsB (a b : List Nat) : Bool := !decide (a = b) && (List.range 5).all fun i => decide (at0 a i ≤ at0 b i)
def sum5 (a : List Nat) : Nat := ((List.range 5).map (at0 a)).sum
theorem beats_iff {a b : List Nat} : beatsB a b = true ↔ a ≠ b ∧ ∀ i, i < 5 → at0 a i ≤ at0 b i := by
  simp [beatsB]
theorem ext5 {a b : List Nat} (ha : a.length = 5) (hb : b.length = 5) (h : ∀ i, i < 5 → at0 a i = at0 b i) : a = b := by
  refine List.ext_getElem (by omega) fun i h1 h2 => ?_
  have := h i (by omega)
  simpa [at0, List.getD_eq_getElem?_getD, h1, h2] using this
theorem sum5_eq (a : List Nat) : sum5 a = at0 a 0 + at0 a 1 + at0 a 2 + at0 a 3 + at0 a 4 := by
  simp [sum5, List.range, List.range.loop]
  omega
theorem beats_sum {a b : List Nat} (ha : a.length = 5) (hb : b.length = 5) (h : beatsB a b = true) : sum5 a < sum5 b := by
  obtain ⟨h1, h2⟩ := beats_iff.mp h
  rw [sum5_eq, sum5_eq]
  have q0 := h2 0 (by omega)
  have q1 := h2 1 (by omega)
  have q2 := h2 2 (by omega)
  have q3 := h2 3 (by omega)
  have q4 := h2 4 (by omega)
  rcases Nat.lt_or_ge (at0 a 0 + at0 a 1 + at0 a 2 + at0 a 3 + at0 a 4) (at0 b 0 + at0 b 1 + at0 b 2 + at0 b 3 + at0 b 4) with q | q
  · exact q
  · refine absurd (ext5 ha hb fun i hi => ?_) h1
    have : i = 0 ∨ i = 1 ∨ i = 2 ∨ i = 3 ∨ i = 4 := by omega
    rcases this with rfl | rfl | rfl | rfl | rfl <;> omega
theorem beats_trans {a b c : List Nat} (ha : a.length = 5) (hb : b.length = 5) (hc : c.length = 5) (h1 : beatsB a b = true) (h2 : beatsB b c = true) : beatsB a c = true := by
  have s1 := beats_sum ha hb h1
  have s2 := beats_sum hb hc h2
  refine beats_iff.mpr ⟨fun e => by rw [e] at s1; omega, fun i hi => Nat.le_trans ((beats_iff.mp h1).2 i hi) ((beats_iff.mp h2).2 i hi)⟩
/-- one that is not beaten stands behind each beating -/
theorem unbeaten {l : List (List Nat)} (hl : ∀ x ∈ l, x.length = 5) : ∀ (n : Nat) (z x : List Nat), sum5 z ≤ n → z ∈ l → x.length = 5 → beatsB z x = true → ∃ y ∈ l, beatsB y x = true ∧ l.any (beatsB · y) = false
  | n, z, x, hn, hz, hx, h => by
    cases q : l.any (beatsB · z) with
    | false => exact ⟨z, hz, h, q⟩
    | true =>
      obtain ⟨u, hu, hb⟩ := List.any_eq_true.mp q
      have s := beats_sum (hl u hu) (hl z hz) hb
      cases n with
      | zero => omega
      | succ n => exact unbeaten hl n u x (by omega) hu hx (beats_trans (hl u hu) (hl z hz) hx hb h)
/-- those that no others beat -/
def keepN (kept : List (List Nat)) (x : List Nat) : List (List Nat) := if kept.any (beatsB · x) then kept else kept ++ [x]
def frontL (l : List (List Nat)) : List (List Nat) := l.foldl keepN []
def free (l : List (List Nat)) : List (List Nat) := l.filter fun x => !l.any (beatsB · x)
theorem front_free {l : List (List Nat)} (hl : ∀ x ∈ l, x.length = 5) (hs : l.Pairwise fun x y => beatsB y x = false) : frontL l = free l := by
  have key : ∀ (post pre : List (List Nat)), l = pre ++ post → post.foldl keepN (free pre) = free l := by
    intro post
    induction post with
    | nil =>
      intro pre e
      rw [e, List.append_nil]
      rfl
    | cons x r ih =>
      intro pre e
      rw [List.foldl_cons]
      have hp : ∀ y ∈ pre, y.length = 5 := fun y hy => hl y (by rw [e]; simp [hy])
      have hx : x.length = 5 := hl x (by rw [e]; simp)
      have nb : ∀ y ∈ pre, beatsB x y = false := fun y hy => by
        rw [e] at hs
        exact (List.pairwise_append.mp hs).2.2 y hy x (by simp)
      have nx : beatsB x x = false := by simp [beatsB]
      have step : keepN (free pre) x = free (pre ++ [x]) := by
        have e1 : free (pre ++ [x]) = free pre ++ (if pre.any (beatsB · x) = true then [] else [x]) := by
          unfold free
          rw [List.filter_append]
          congr 1
          · refine List.filter_congr fun y hy => ?_
            rw [List.any_append]
            simp [nb y hy]
          · rw [List.filter_cons, List.any_append]
            cases pre.any (beatsB · x) <;> simp [nx]
        have e2 : (free pre).any (beatsB · x) = pre.any (beatsB · x) := by
          cases q : pre.any (beatsB · x) with
          | false =>
            refine Bool.eq_false_iff.mpr fun z => ?_
            obtain ⟨y, hy, hb⟩ := List.any_eq_true.mp z
            have : pre.any (beatsB · x) = true := List.any_eq_true.mpr ⟨y, (List.mem_filter.mp hy).1, hb⟩
            rw [q] at this
            cases this
          | true =>
            obtain ⟨z, hz, hb⟩ := List.any_eq_true.mp q
            obtain ⟨y, hy, h1, h2⟩ := unbeaten hp (sum5 z) z x (Nat.le_refl _) hz hx hb
            exact List.any_eq_true.mpr ⟨y, List.mem_filter.mpr ⟨hy, by rw [h2]; rfl⟩, h1⟩
        unfold keepN
        rw [e2, e1]
        cases pre.any (beatsB · x) <;> simp
      rw [step]
      exact ih (pre ++ [x]) (by rw [e]; simp)
  exact key l [] rfl
theorem mem_free {l : List (List Nat)} {x : List Nat} : x ∈ free l ↔ x ∈ l ∧ ∀ y ∈ l, beatsB y x = false := by
  unfold free
  rw [List.mem_filter]
  constructor
  · rintro ⟨h1, h2⟩
    refine ⟨h1, fun y hy => Bool.eq_false_iff.mpr fun z => ?_⟩
    have : l.any (beatsB · x) = true := List.any_eq_true.mpr ⟨y, hy, z⟩
    rw [this] at h2
    cases h2
  · rintro ⟨h1, h2⟩
    refine ⟨h1, ?_⟩
    rw [Bool.not_eq_true']
    refine Bool.eq_false_iff.mpr fun z => ?_
    obtain ⟨y, hy, hb⟩ := List.any_eq_true.mp z
    rw [h2 y hy] at hb
    cases hb
/-- behind each one stands a free one that is nowhere more -/
theorem free_below {l : List (List Nat)} (hl : ∀ x ∈ l, x.length = 5) {x : List Nat} (hx : x ∈ l) : ∃ y ∈ free l, ∀ i, i < 5 → at0 y i ≤ at0 x i := by
  cases q : l.any (beatsB · x) with
  | false => exact ⟨x, List.mem_filter.mpr ⟨hx, by rw [q]; rfl⟩, fun _ _ => Nat.le_refl _⟩
  | true =>
    obtain ⟨z, hz, hb⟩ := List.any_eq_true.mp q
    obtain ⟨y, hy, h1, h2⟩ := unbeaten hl (sum5 z) z x (Nat.le_refl _) hz (hl x hx) hb
    exact ⟨y, List.mem_filter.mpr ⟨hy, by rw [h2]; rfl⟩, (beats_iff.mp h1).2⟩
end Pl

set_option linter.all false
set_option autoImplicit false
set_option maxRecDepth 100000
set_option maxHeartbeats 0
/-! A17: all counts, the front. -/
namespace Z
open PySem Pl
def keyC (c : List Nat) : List Int := c.map fun i : Nat => (i : Int)
theorem keyC_inj (a b : List Nat) (h : keyC a = keyC b) : a = b := by
  unfold keyC at h
  induction a generalizing b with
  | nil =>
    cases b with
    | nil => rfl
    | cons _ _ => cases h
  | cons x a ih =>
    cases b with
    | nil => cases h
    | cons y b =>
      simp only [List.map_cons, List.cons.injEq] at h
      rw [ih b h.2, show x = y by omega]
theorem keyD_C (c : List Nat) : keyD (keyC c) = nT c := by
  simp [keyD, keyC, nT]
theorem intL_C (c : List Nat) : intL (c.map fun i : Nat => PyData.int (i : Int)) = some (keyC c) := intL_map c fun i : Nat => (i : Int)
/-- the counts of all alignments, each once -/
def allC (one other : Tb) : List (List Nat) := allU ((allA one other).map (cnt one other))
theorem mem_allC {one other : Tb} {c : List Nat} : c ∈ allC one other ↔ ∃ a, IsA one other a ∧ cnt one other a = c := by
  rw [allC, mem_allU, List.mem_map]
  exact ⟨fun ⟨a, h, e⟩ => ⟨a, mem_allA.mp h, e⟩, fun ⟨a, h, e⟩ => ⟨a, mem_allA.mpr h, e⟩⟩
theorem len_allC {one other : Tb} {c : List Nat} (h : c ∈ allC one other) : c.length = 5 := by
  obtain ⟨a, _, rfl⟩ := mem_allC.mp h
  rfl
theorem siz_allC {one other : Tb} (h1 : TOk one) (h2 : TOk other) : (allC one other).length ≤ 390625 := by
  refine Nat.le_trans (len_allU _) ?_
  rw [List.length_map]
  exact len_allA h1 h2
def dctC (l : List (List Nat)) : Ob := .dct (l.map (kvG keyC))
section
variable {Ds : List Dfn} {wf k : Nat} {h : Hep} {F : Fs}
theorem all_counts_ok (o : Ok_all_counts Ds F) {one other : Tb} (h1 : TOk one) (h2 : TOk other) : call Ds wf (k + 8) F.f_all_counts [.d (encT one), .d (encT other)] h = .ok (.r h.length) (h ++ [dctC (allC one other)]) := by
  rw [call_ir o.e rfl]
  have rww := fun h => rows_with_ok (wf := wf) (k := k) (h := h) o.o_rows_with h1 h2
  have l2 := len_prs h1.r4 h2.r4
  have n4 := h2.n4
  have r4 := h2.r4
  have z2 : szOk 2 = true := by rfl
  have z5 : szOk 5 = true := by rfl
  let L : Pg → List (List Nat) := fun c => (prs one.rw.length other.rw.length).map fun r => cnt one other (c, r)
  have eL : (prs one.nm.length other.nm.length).flatMap L = (allA one other).map (cnt one other) := by
    rw [allA, List.map_flatMap]
    congr 1
    funext c
    rw [List.map_map]
    rfl
  have lL := len_allA h1 h2
  have inner : ∀ (c : Pg), IsP one.nm.length other.nm.length c → ∀ (done : List (List Nat)), done.length + (prs one.rw.length other.rw.length).length ≤ 390625 → ∀ (x9 x10 x11 x12 : Option Vl),
      ∃ s' h', forL (.tp [9, 10, 11]) (exec ⟨call Ds wf (k + 7), wf⟩ (inB (nth (inB (nth (ir_all_counts F).body 2)) 2))) ((prs one.rw.length other.rw.length).map (rowW one other)) [some (.d (encT one)), some (.d (encT other)), some (.r h.length), some (.d (.list ((prs one.rw.length other.rw.length).map (rowW one other)))), some (.d (encP c)), some (.d (.int (namesT one other c : Nat))), some (.d (.int (unp one.nm.length other.nm.length c : Nat))), some (.d (missAll one other c)), some (.d (.int (movesP c : Nat))), x9, x10, x11, x12, none, none] (h ++ [dctC (allU done)]) = .nx s' h' ∧ ∃ (x9 x10 x11 x12 : Option Vl), s' = [some (.d (encT one)), some (.d (encT other)), some (.r h.length), some (.d (.list ((prs one.rw.length other.rw.length).map (rowW one other)))), some (.d (encP c)), some (.d (.int (namesT one other c : Nat))), some (.d (.int (unp one.nm.length other.nm.length c : Nat))), some (.d (missAll one other c)), some (.d (.int (movesP c : Nat))), x9, x10, x11, x12, none, none] ∧ h' = h ++ [dctC (allU (done ++ L c))] := by
    intro c hc done hlen x9 x10 x11 x12
    refine forL_inv (α := Pg) (fun pre s hh => ∃ (x9 x10 x11 x12 : Option Vl), s = [some (.d (encT one)), some (.d (encT other)), some (.r h.length), some (.d (.list ((prs one.rw.length other.rw.length).map (rowW one other)))), some (.d (encP c)), some (.d (.int (namesT one other c : Nat))), some (.d (.int (unp one.nm.length other.nm.length c : Nat))), some (.d (missAll one other c)), some (.d (.int (movesP c : Nat))), x9, x10, x11, x12, none, none] ∧ hh = h ++ [dctC (allU (done ++ pre.map fun r => cnt one other (c, r)))]) (rowW one other) ⟨x9, x10, x11, x12, rfl, by simp⟩ ?_
    rintro pre r post s hh el ⟨x9, x10, x11, x12, rfl, rfl⟩
    have hr : IsP one.rw.length other.rw.length r := mem_prs.mp (by rw [el]; simp)
    have lr := isP_len hr
    have zr' := sOk (show r.length ≤ 16777216 by omega)
    have g1 : ∀ z, z ∈ r → idxD (missAll one other c) (z.1 : Nat) = some (missRow one other c z.1) := fun z hz => missAll_at (hr.b1 z hz)
    have g2 : ∀ z, z ∈ r → idxD (missRow one other c z.1) (z.2 : Nat) = some (.int (miss one other c z.1 z.2 : Nat)) := fun z hz => missRow_at (hr.b2 z hz)
    have cs : (r.map fun x => miss one other c x.1 x.2).sum = cellsT one other (c, r) := rfl
    have lb : ((allU (done ++ pre.map fun r => cnt one other (c, r))).map (kvG keyC)).length < 16777216 := by
      rw [List.length_map]
      refine Nat.lt_of_le_of_lt (len_allU _) ?_
      have := congrArg List.length el
      simp only [List.length_append, List.length_map, List.length_cons] at this ⊢
      omega
    have ks : [PyData.int (cellsT one other (c, r) : Nat), .int (namesT one other c : Nat), .int (unp one.nm.length other.nm.length c : Nat), .int (unp one.rw.length other.rw.length r : Nat), .int ((movesP c : Int) + (movesP r : Int))] = (cnt one other (c, r)).map fun i : Nat => PyData.int (i : Int) := by
      simp [cnt]
    have ik := intL_C (cnt one other (c, r))
    rw [← ks] at ik
    have pv := fun s => putV_dct (s := s) (h := h ++ [dctC (allU (done ++ pre.map fun r => cnt one other (c, r)))]) (n := h.length) (kvs := (allU (done ++ pre.map fun r => cnt one other (c, r))).map (kvG keyC)) (x := .bool true) (by simp [dctC]) ik lb
    have pk := put_kv keyC_inj (allU (done ++ pre.map fun r => cnt one other (c, r))) (cnt one other (c, r))
    have cc : (h ++ [dctC (allU (done ++ pre.map fun r => cnt one other (c, r)))]).set h.length (.dct (putL ((allU (done ++ pre.map fun r => cnt one other (c, r))).map (kvG keyC)) (keyC (cnt one other (c, r))) (.bool true))) = h ++ [dctC (allU (done ++ (pre ++ [r]).map fun r => cnt one other (c, r)))] := by
      rw [pk, List.map_append, ← List.append_assoc, List.map_cons, List.map_nil, allU_snoc]
      simp [dctC]
    rw [cc] at pv
    refine ⟨_, _, _, rfl, ?_, some (.d (encP r)), some (.d (.int (unp one.rw.length other.rw.length r : Nat))), some (.d (.int (movesP r : Nat))), some (.d (.int (cellsT one other (c, r) : Nat))), rfl, rfl⟩
    simp +contextual [toM, ir_all_counts, nth, inB, zr', g1, g2, sum_cast, cs, z5, pv]
  obtain ⟨s1, h', e1, x4, x5, x6, x7, x8, x9, x10, x11, x12, rfl, rfl⟩ := forL_inv (α := Pg) (tg := .nm 4) (body := exec ⟨call Ds wf (k + 7), wf⟩ (inB (nth (ir_all_counts F).body 2)))
    (fun pre s hh => ∃ (x4 x5 x6 x7 x8 x9 x10 x11 x12 : Option Vl), s = [some (.d (encT one)), some (.d (encT other)), some (.r h.length), some (.d (.list ((prs one.rw.length other.rw.length).map (rowW one other)))), x4, x5, x6, x7, x8, x9, x10, x11, x12, none, none] ∧ hh = h ++ [dctC (allU (pre.flatMap L))])
    encP (l := prs one.nm.length other.nm.length) (s := [some (.d (encT one)), some (.d (encT other)), some (.r h.length), some (.d (.list ((prs one.rw.length other.rw.length).map (rowW one other)))), none, none, none, none, none, none, none, none, none, none, none]) (h := h ++ [dctC []])
    ⟨none, none, none, none, none, none, none, none, none, rfl, rfl⟩ (by
      rintro pre c post s hh el ⟨x4, x5, x6, x7, x8, x9, x10, x11, x12, rfl, rfl⟩
      have hc : IsP one.nm.length other.nm.length c := mem_prs.mp (by rw [el]; simp)
      have lc := isP_len hc
      have hA : IsA one other (c, []) := ⟨hc, isP_nil _ _⟩
      have e2 : ∀ h, call Ds wf (k + 7) F.f_counts_of [.d (encT one), .d (encT other), .d (.tuple [encP c, .tuple []])] h = .ok (.d (nT (cnt one other (c, [])))) h := fun h => counts_of_ok (k := k + 4) o.o_counts_of h1 h2 hA
      have e3 := fun h => moves_in_ok (wf := wf) (k := k + 5) (h := h) o.o_moves_in (show c.length ≤ 1000 by omega)
      have e4 := fun h => misses_of_ok (wf := wf) (k := k + 6) (h := h) o.o_misses_of h1 h2 hc
      have lf : (pre.flatMap L).length + (prs one.rw.length other.rw.length).length ≤ 390625 := by
        have q3 := congrArg List.length eL
        rw [el, List.flatMap_append, List.flatMap_cons, List.length_append, List.length_append] at q3
        have q5 : ((allA one other).map (cnt one other)).length = (allA one other).length := List.length_map ..
        have q4 : (L c).length = (prs one.rw.length other.rw.length).length := List.length_map ..
        omega
      obtain ⟨s', h', e5, y9, y10, y11, y12, rfl, rfl⟩ := inner c hc (pre.flatMap L) lf x9 x10 x11 x12
      have fl : (pre ++ [c]).flatMap L = pre.flatMap L ++ L c := by simp
      rw [fl]
      refine ⟨_, _, _, rfl, ?_, some (.d (encP c)), some (.d (.int (namesT one other c : Nat))), some (.d (.int (unp one.nm.length other.nm.length c : Nat))), some (.d (missAll one other c)), some (.d (.int (movesP c : Nat))), y9, y10, y11, y12, rfl, rfl⟩
      simp only [ir_all_counts, nth, inB] at e5
      simp [ir_all_counts, nth, inB, e2, e3, e4, cnt, slcD, cut, HT.sIx, z2, e5])
  have p1 := fun h => all_pairings_ok (wf := wf) (k := k + 1) (h := h) o.o_all_pairings h1.n4 h2.n4
  rw [eL] at e1
  simp only [ir_all_counts, nth, inB] at e1
  have ec : allU ((allA one other).map (cnt one other)) = allC one other := rfl
  rw [ec] at e1
  have ed : dctC [] = .dct [] := rfl
  rw [ed] at e1
  simp [ir_all_counts, nth, inB, rww, p1, encL, e1, finS, fin, dctC]
end
/-! ### comprehensions over a list that may change -/
theorem compW_at {α : Type} {h : Hep} {n : Nat} {f : D → Hep → R (Option D)} {l : List α} {enc g : α → D} (hn : h[n]? = some (.lst (l.map enc))) (e : ∀ a ∈ l, f (enc a) h = .ok (some (g a)) h) : compW n f (l.length + 1) 0 h = .ok (l.map g) h := by
  have key : ∀ (post pre : List α), l = pre ++ post → compW n f (post.length + 1) pre.length h = .ok (post.map g) h := by
    intro post
    induction post with
    | nil =>
      intro pre el
      unfold compW
      rw [hn, el]
      simp
    | cons x r ih =>
      intro pre el
      have i1 := ih (pre ++ [x]) (by rw [el]; simp)
      have e1 := e x (by rw [el]; simp)
      unfold compW
      rw [hn]
      have e2 : (l.map enc)[pre.length]? = some (enc x) := by
        rw [el]
        simp
      simp only [e2, e1, bnd_ok]
      rw [List.length_append] at i1
      have i2 : compW n f (r.length + 1) (pre.length + 1) h = .ok (r.map g) h := i1
      rw [List.length_cons, i2]
      rfl
  exact key l [] rfl
@[simp] theorem ev_lw {C : Cfg} {s : Env} {h : Hep} (tg : Tg) (i : Nat) (c e : E) (ow : List Nat) : ev C (.lw tg i c e ow) s h = match s[i]? with
    | some (some (.r n)) => match h[n]? with
      | some (.lst xs) => if decide (xs.length < sizeLine) then bnd (compW n (fun x h => match setTg (wipe s ow) x tg with
        | some s' => askR (ev C c s' h) fun h2 => putR (ev C e s' h2)
        | none => .no) (xs.length + 1) 0 h) fun ys h2 => .ok (.d (.list ys)) h2 else .no
      | _ => .no
    | _ => .no := by
  have ef : lcStep (ev C c) (ev C e) tg (wipe s ow) = fun x h => match setTg (wipe s ow) x tg with
        | some s' => askR (ev C c s' h) fun h2 => putR (ev C e s' h2)
        | none => .no := by
    funext x h
    exact lcStep_eq _ _ _ _ _ _
  rw [← ef]
  rfl
/-! ### order of counts -/
theorem eqv_nat (i j : Nat) : PyData.eqv (.int (i : Nat)) (.int (j : Nat)) = decide (i = j) := by
  rw [PyData.eqv]
  by_cases q : i = j <;> simp [q]
  omega
theorem eqv_nT (a b : List Nat) : PyData.eqv (nT a) (nT b) = decide (a = b) := eqv_tup (f := fun i : Nat => PyData.int (i : Int)) eqv_nat a b
theorem okd_nT (a : List Nat) : Okd 1 (nT a) := okd_tup fun y hy => by
  obtain ⟨x, _, rfl⟩ := List.mem_map.mp hy
  exact okd_int 0 x
theorem eqD_nT (a b : List Nat) : eqD (nT a) (nT b) = some (decide (a = b)) := by
  unfold eqD
  rw [(okd_nT a).shp (by decide), (okd_nT b).shp (by decide), eqv_nT]
  rfl
theorem alike_nT (a b : List Nat) : W.alike (nT a) (nT b) = true := by
  show W.alikeAll _ _ = true
  exact alikeAll_map (f := fun i : Nat => PyData.int (i : Int)) (fun _ _ => rfl) a b
theorem inj_nT (a b : List Nat) : W.alike (nT a) (nT b) = true ∧ (PyData.eqv (nT a) (nT b) = true → a = b) := ⟨alike_nT a b, fun e => by simpa [eqv_nT] using e⟩
theorem lt_nT : ∀ {a b : List Nat}, a.length = b.length → a ≠ b → (∀ i, at0 a i ≤ at0 b i) → W.dataLt (nT a) (nT b) = true
  | [], [], _, h, _ => absurd rfl h
  | x :: a, y :: b, hl, hn, hi => by
    have h0 : x ≤ y := hi 0
    by_cases q : x = y
    · subst q
      have e := W.dataLt_all_yes (x := .int (x : Int)) (y := .int (x : Int)) (xs := a.map fun i : Nat => PyData.int (i : Int)) (ys := b.map fun i : Nat => PyData.int (i : Int)) rfl (by rw [eqv_nat]; simp)
      have e2 : W.dataLt (nT (x :: a)) (nT (x :: b)) = W.dataLt (nT a) (nT b) := e
      rw [e2]
      exact lt_nT (by simpa using hl) (fun z => hn (by rw [z])) fun i => hi (i + 1)
    · have e := W.dataLt_all_no (x := .int (x : Int)) (y := .int (y : Int)) (xs := a.map fun i : Nat => PyData.int (i : Int)) (ys := b.map fun i : Nat => PyData.int (i : Int)) rfl (by rw [eqv_nat]; simp [q])
      have e2 : W.dataLt (nT (x :: a)) (nT (y :: b)) = W.dataLt (.int (x : Int)) (.int (y : Int)) := e
      rw [e2, W.dataLt_int]
      simp
      omega
  | [], _ :: _, h, _, _ => by cases h
  | _ :: _, [], h, _, _ => by cases h
/-- in ascending order no later one beats an earlier one -/
theorem beats_lt {a b : List Nat} (ha : a.length = 5) (hb : b.length = 5) (h : beatsB a b = true) : leD (nT b) (nT a) = false := by
  obtain ⟨h1, h2⟩ := beats_iff.mp h
  unfold leD
  rw [lt_nT (by omega) h1 fun i => ?_]
  · rfl
  · by_cases q : i < 5
    · exact h2 i q
    · simp [at0, List.getD_eq_getElem?_getD, List.getElem?_eq_none (show a.length ≤ i by omega)]
def srtC (one other : Tb) : List (List Nat) := srt nT (allC one other)
theorem mem_srtC {one other : Tb} {c : List Nat} : c ∈ srtC one other ↔ c ∈ allC one other := (srt_perm nT _).mem_iff
theorem srtC_len {one other : Tb} {c : List Nat} (h : c ∈ srtC one other) : c.length = 5 := len_allC (mem_srtC.mp h)
theorem srtC_siz {one other : Tb} (h1 : TOk one) (h2 : TOk other) : (srtC one other).length ≤ 390625 := by
  rw [srtC, (srt_perm nT _).length_eq]
  exact siz_allC h1 h2
theorem srtC_pw (one other : Tb) : (srtC one other).Pairwise fun x y => beatsB y x = false := by
  have h1 : (srtC one other).Pairwise fun a b => leD (nT a) (nT b) = true := srt_sorted nT _
  refine h1.imp_of_mem fun ha hb q => Bool.eq_false_iff.mpr fun z => ?_
  rw [beats_lt (srtC_len hb) (srtC_len ha) z] at q
  cases q
/-- the front -/
def frn (one other : Tb) : List (List Nat) := free (srtC one other)
theorem frn_eq (one other : Tb) : frontL (srtC one other) = frn one other := front_free (fun x hx => srtC_len hx) (srtC_pw one other)
theorem frn_sub {one other : Tb} {c : List Nat} (h : c ∈ frn one other) : c ∈ srtC one other := (mem_free.mp h).1
theorem bSorted_nT (l : List (List Nat)) : bSorted [.list (l.map nT)] = some (.list ((srt nT l).map nT)) := bSorted_map (f := nT) (m := 1) alike_nT okd_nT (by decide) (fun a => rfl) l
section
variable {Ds : List Dfn} {wf k : Nat} {h : Hep} {F : Fs}
theorem at5 {c : List Nat} (hc : c.length = 5) : ∀ i, i ∈ List.range 5 → c[i]? = some (at0 c i) := fun i hi => by
  have : i < c.length := by
    rw [hc]
    simpa using hi
  simp [at0, List.getD_eq_getElem?_getD, this]
theorem enum5 {c : List Nat} (hc : c.length = 5) : enumD (c.map fun i : Nat => PyData.int (i : Int)) = (List.range 5).map fun i : Nat => .tuple [.int (i : Nat), .int (at0 c i : Nat)] := by
  have := enumD_at (fun i : Nat => PyData.int (i : Int)) 0 c
  rw [hc] at this
  exact this
theorem beats_ok (o : Ok_beats Ds F) {a b : List Nat} (ha : a.length = 5) (hb : b.length = 5) : call Ds wf (k + 1) F.f_beats [.d (nT a), .d (nT b)] h = .ok (.d (.bool (beatsB a b))) h := by
  rw [call_ir o.e rfl]
  have en := enum5 ha
  have z5 : szOk 5 = true := by rfl
  have g1 := at5 hb
  have e1 := eqD_nT a b
  by_cases q : a = b
  · subst q
    simp only [decide_true] at e1
    simp [ir_beats, e1, beatsB]
  · rw [decide_eq_false q] at e1
    simp +contextual [toM, ir_beats, e1, en, z5, g1, beatsB, q]
theorem front_of_ok (o : Ok_front_of Ds F) {one other : Tb} (h1 : TOk one) (h2 : TOk other) : call Ds wf (k + 9) F.f_front_of [.d (encT one), .d (encT other)] h = .ok (.d (.list ((frn one other).map nT))) h := by
  rw [call_ir o.e rfl]
  have ac := all_counts_ok (wf := wf) (k := k) (h := h ++ [.lst []]) o.o_all_counts h1 h2
  have bl := bltV_dct (h := (h ++ [.lst []]) ++ [dctC (allC one other)]) (n := (h ++ [Ob.lst []]).length) (kvs := (allC one other).map (kvG keyC)) (by simp [dctC])
  have ek : ((allC one other).map (kvG keyC)).map (fun p => keyD p.1) = (allC one other).map nT := by
    rw [List.map_map]
    refine List.map_congr_left fun c _ => ?_
    exact keyD_C c
  rw [ek] at bl
  have bs := bSorted_nT (allC one other)
  have sz := srtC_siz h1 h2
  obtain ⟨s', h', e, x3, rfl, rfl⟩ := forL_inv (α := List Nat) (tg := .nm 3) (body := exec ⟨call Ds wf (k + 8), wf⟩ (inB (nth (ir_front_of F).body 1)))
    (fun pre s hh => ∃ x3 : Option Vl, s = [some (.d (encT one)), some (.d (encT other)), some (.r h.length), x3, none] ∧ hh = h ++ [.lst ((pre.foldl keepN []).map nT), dctC (allC one other)]) nT (l := srtC one other)
    (s := [some (.d (encT one)), some (.d (encT other)), some (.r h.length), none, none]) (h := h ++ [.lst [], dctC (allC one other)]) ⟨none, rfl, rfl⟩ (by
      rintro pre c post s hh el ⟨x3, rfl, rfl⟩
      have hm : ∀ x ∈ pre, x.length = 5 := fun x hx => srtC_len (one := one) (other := other) (by rw [el]; simp [hx])
      have hc : c.length = 5 := srtC_len (one := one) (other := other) (by rw [el]; simp)
      have kp : ∀ (l a : List (List Nat)), (∀ x ∈ a, x.length = 5) → (∀ x ∈ l, x.length = 5) → (∀ x ∈ l.foldl keepN a, x.length = 5) ∧ (l.foldl keepN a).length ≤ a.length + l.length := by
        intro l
        induction l with
        | nil => exact fun a ha _ => ⟨ha, by simp⟩
        | cons y l ih =>
          intro a ha hl
          have h1 : ∀ x ∈ keepN a y, x.length = 5 := fun x hx => by
            unfold keepN at hx
            split at hx
            · exact ha x hx
            · rcases List.mem_append.mp hx with q | q
              · exact ha x q
              · rw [List.mem_singleton.mp q]
                exact hl y (by simp)
          obtain ⟨i1, i2⟩ := ih (keepN a y) h1 fun x hx => hl x (List.mem_cons_of_mem _ hx)
          refine ⟨i1, ?_⟩
          have : (keepN a y).length ≤ a.length + 1 := by
            unfold keepN
            split <;> simp
          rw [List.foldl_cons, List.length_cons]
          omega
      obtain ⟨k1, k2⟩ := kp pre [] (by simp) hm
      rw [List.foldl_append, List.foldl_cons, List.foldl_nil]
      have lp : pre.length < (srtC one other).length := by
        rw [el]
        simp
      generalize pre.foldl keepN [] = kept at k1 k2 ⊢
      simp only [List.length_nil, Nat.zero_add] at k2
      have zl : kept.length < sizeLine := by
        show _ < 16777216
        omega
      have bt : ∀ a ∈ kept, ∀ h, call Ds wf (k + 8) F.f_beats [.d (nT a), .d (nT c)] h = .ok (.d (.bool (beatsB a c))) h := fun a ha h => beats_ok (wf := wf) (k := k + 7) (h := h) o.o_beats (k1 a ha) hc
      have cw := compW_at (α := List Nat) (h := h ++ [.lst (kept.map nT), dctC (allC one other)]) (n := h.length) (f := fun x h_1 => putR (call Ds wf (k + 8) F.f_beats [.d x, .d (nT c)] h_1)) (l := kept) (enc := nT) (g := fun a => .bool (beatsB a c)) (by simp) (fun a ha => by rw [bt a ha]; rfl)
      refine ⟨_, _, _, rfl, ?_, some (.d (nT c)), rfl, rfl⟩
      unfold keepN
      cases q : kept.any fun a => beatsB a c with
      | true =>
        simp [ir_front_of, nth, inB, zl, cw, q]
      | false =>
        simp [ir_front_of, nth, inB, zl, cw, q, appV])
  have ef : (srtC one other).foldl keepN [] = frn one other := frn_eq one other
  rw [ef] at e
  have es : srt nT (allC one other) = srtC one other := rfl
  rw [es] at bs
  simp only [ir_front_of, nth, inB] at e
  simp at ac bl
  simp [ir_front_of, nth, inB, ac, bl, bs, e, fin]
theorem front_ok (o : Ok_front Ds F) {one other : Tb} (h1 : TOk one) (h2 : TOk other) : call Ds wf (k + 10) F.f_front [.d (encT one), .d (encT other)] h = .ok (.d (.list ((frn one other).map nT))) h := by
  rw [call_ir o.e rfl]
  have e1 := need_two_ok (wf := wf) (k := k + 3) (h := h) o.o_need_two h1 h2
  have e2 := front_of_ok (wf := wf) (k := k) (h := h) o.o_front_of h1 h2
  simp [ir_front, e1, e2]
end
/-! ### costs -/
theorem costN_eq (c w : List Nat) : costN c w = at0 c 0 * at0 w 0 + at0 c 1 * at0 w 1 + at0 c 2 * at0 w 2 + at0 c 3 * at0 w 3 + at0 c 4 * at0 w 4 := by
  simp [costN, List.range, List.range.loop]
  omega
theorem mul_grow {a b w : Nat} (h : a ≤ b) (hw : 1 ≤ w) : a * w + (b - a) ≤ b * w := by
  obtain ⟨d, rfl⟩ := Nat.exists_eq_add_of_le h
  rw [Nat.add_sub_cancel_left, Nat.add_mul]
  have := Nat.le_mul_of_pos_right d hw
  omega
theorem cost_le {y c w : List Nat} (h : ∀ i, i < 5 → at0 y i ≤ at0 c i) : costN y w ≤ costN c w := by
  rw [costN_eq, costN_eq]
  have := Nat.mul_le_mul_right (at0 w 0) (h 0 (by omega))
  have := Nat.mul_le_mul_right (at0 w 1) (h 1 (by omega))
  have := Nat.mul_le_mul_right (at0 w 2) (h 2 (by omega))
  have := Nat.mul_le_mul_right (at0 w 3) (h 3 (by omega))
  have := Nat.mul_le_mul_right (at0 w 4) (h 4 (by omega))
  omega
theorem cost_lt {y c w : List Nat} (hy : y.length = 5) (hc : c.length = 5) (hw : ∀ i, i < 5 → 1 ≤ at0 w i) (h : beatsB y c = true) : costN y w < costN c w := by
  have s := beats_sum hy hc h
  rw [sum5_eq, sum5_eq] at s
  have q := (beats_iff.mp h).2
  rw [costN_eq, costN_eq]
  have := mul_grow (q 0 (by omega)) (hw 0 (by omega))
  have := mul_grow (q 1 (by omega)) (hw 1 (by omega))
  have := mul_grow (q 2 (by omega)) (hw 2 (by omega))
  have := mul_grow (q 3 (by omega)) (hw 3 (by omega))
  have := mul_grow (q 4 (by omega)) (hw 4 (by omega))
  have := q 0 (by omega)
  have := q 1 (by omega)
  have := q 2 (by omega)
  have := q 3 (by omega)
  have := q 4 (by omega)
  omega
theorem cnt_mem {one other : Tb} {a : Pg × Pg} (h : IsA one other a) : cnt one other a ∈ srtC one other := mem_srtC.mpr (mem_allC.mpr ⟨a, h, rfl⟩)
/-- each count has a free one below -/
theorem frn_below {one other : Tb} {c : List Nat} (h : c ∈ srtC one other) : ∃ y ∈ frn one other, ∀ i, i < 5 → at0 y i ≤ at0 c i := free_below (fun x hx => srtC_len hx) h
theorem innD_nT (c : List Nat) (l : List (List Nat)) : innD (nT c) (.list (l.map nT)) = some (decide (c ∈ l)) := by
  have h1 : hasD (nT c) (l.map nT) = some (decide (c ∈ l)) := by
    unfold hasD
    rw [(okd_nT c).shp (by decide)]
    have h2 : shp (.list (l.map nT)) = true := (okd_list (m := 1) fun y hy => by
      obtain ⟨z, _, rfl⟩ := List.mem_map.mp hy
      exact okd_nT z).shp (by decide)
    rw [h2]
    have h3 : (l.map nT).any (fun z => PyData.eqv z (nT c)) = decide (c ∈ l) := by
      rw [List.any_map]
      by_cases q : c ∈ l
      · rw [decide_eq_true q]
        exact List.any_eq_true.mpr ⟨c, q, by simp only [Function.comp_apply, eqv_nT]; simp⟩
      · rw [decide_eq_false q]
        refine Bool.eq_false_iff.mpr fun z => ?_
        obtain ⟨y, hy, ey⟩ := List.any_eq_true.mp z
        simp only [Function.comp_apply, eqv_nT] at ey
        exact q (of_decide_eq_true ey ▸ hy)
    simp [h3]
  exact h1
theorem eqD_nTL (l m : List (List Nat)) : eqD (.list (l.map nT)) (.list (m.map nT)) = some (decide (l = m)) := by
  have h2 : ∀ l : List (List Nat), shp (.list (l.map nT)) = true := fun l => (okd_list (m := 1) fun y hy => by
    obtain ⟨z, _, rfl⟩ := List.mem_map.mp hy
    exact okd_nT z).shp (by decide)
  unfold eqD
  rw [h2, h2, eqv_lst eqv_nT]
  rfl
end Z

set_option linter.all false
set_option autoImplicit false
set_option maxRecDepth 100000
set_option maxHeartbeats 0
/-! A18: support judged. -/
namespace Z
open PySem Pl
/-- weights of any size that is not great -/
structure WBig (w : List Nat) : Prop where
  l5 : w.length = 5
  hi : ∀ x ∈ w, x ≤ 1000
def posB : D → Bool
  | .int i => decide (0 < i)
  | _ => false
def intB : D → Bool
  | .int _ => true
  | _ => false
def inC (L : List (List Nat)) (zs : List D) : Bool := match intL zs with
  | some ks => L.any fun c => decide (keyC c = ks)
  | none => false
def shareB (L : List (List Nat)) : D → Bool
  | .tuple [.tuple zs, y] => posB y && (decide (zs.length = 5) && (zs.all intB && inC L zs))
  | _ => false
section
variable {Ds : List Dfn} {wf k : Nat} {h : Hep} {F : Fs}
theorem cost_of_big (o : Ok_cost_of Ds F) {c w : List Nat} (hc : c.length = 5) (hw : WBig w) : call Ds wf (k + 1) F.f_cost_of [.d (nT c), .d (nT w)] h = .ok (.d (.int (costN c w : Nat))) h := by
  rw [call_ir o.e rfl]
  have en := enum5 hc
  have z5 : szOk 5 = true := by rfl
  have g1 := at5 hw.l5
  have g2 : ∀ i, i ∈ List.range 5 → mulD (.int (at0 c i : Nat)) (.int (at0 w i : Nat)) = some (.int ((at0 c i * at0 w i : Nat) : Int)) := fun i hi => by
    have := hw.hi _ (List.mem_of_getElem? (g1 i hi))
    rw [mulD_const (by omega), Int.natCast_mul]
  simp +contextual [toM, ir_cost_of, en, z5, g1, g2, sum_cast]
  rw [costN, ← sum_cast]
  simp only [Int.natCast_mul]
theorem law_cost_big (o : Ok__law_cost Ds F) {c w : List Nat} (hc : c.length = 5) (hw : WBig w) : call Ds wf (k + 1) F.f__law_cost [.d (nT c), .d (nT w)] h = .ok (.d (.int (costN c w : Nat))) h := by
  rw [call_ir o.e rfl]
  have en := enum5 hc
  have z5 : szOk 5 = true := by rfl
  have g1 := at5 hw.l5
  have g2 : ∀ i, i ∈ List.range 5 → mulD (.int (at0 c i : Nat)) (.int (at0 w i : Nat)) = some (.int ((at0 c i * at0 w i : Nat) : Int)) := fun i hi => by
    have := hw.hi _ (List.mem_of_getElem? (g1 i hi))
    rw [mulD_const (by omega), Int.natCast_mul]
  simp +contextual [toM, ir__law_cost, en, z5, g1, g2, sum_cast]
  rw [costN, ← sum_cast]
  simp only [Int.natCast_mul]
theorem is_least_ok (o : Ok_is_least Ds F) {own w : List Nat} {l : List (List Nat)} (ho : own.length = 5) (hl : ∀ c ∈ l, c.length = 5) (hz : l.length ≤ 16777216) (hw : WBig w) : call Ds wf (k + 2) F.f_is_least [.d (nT own), .d (.list (l.map nT)), .d (nT w)] h = .ok (.d (.bool (l.all fun c => decide (costN own w ≤ costN c w)))) h := by
  rw [call_ir o.e rfl]
  have e1 := fun h => cost_of_big (wf := wf) (k := k) (h := h) o.o_cost_of ho hw
  have e2 : ∀ c ∈ l, ∀ h, call Ds wf (k + 1) F.f_cost_of [.d (nT c), .d (nT w)] h = .ok (.d (.int (costN c w : Nat))) h := fun c hc h => cost_of_big (wf := wf) (k := k) (h := h) o.o_cost_of (hl c hc) hw
  have z := sOk hz
  simp +contextual [toM, ir_is_least, e1, e2, z]
theorem is_positive_ok (o : Ok_is_positive Ds F) (d : D) : call Ds wf (k + 1) F.f_is_positive [.d d] h = .ok (.d (.bool (posB d))) h := by
  rw [call_ir o.e rfl]
  cases d <;> simp [ir_is_positive, posB, tyD]
theorem intL_all : ∀ {zs : List D}, zs.all intB = true → ∃ ks, intL zs = some ks
  | [], _ => ⟨[], rfl⟩
  | .int i :: zs, h => by
    obtain ⟨ks, e⟩ := intL_all (zs := zs) (by simpa [intB] using h)
    exact ⟨i :: ks, by rw [intL, e]; rfl⟩
  | .none :: _, h => by simp [intB] at h
  | .bool _ :: _, h => by simp [intB] at h
  | .str _ :: _, h => by simp [intB] at h
  | .list _ :: _, h => by simp [intB] at h
  | .tuple _ :: _, h => by simp [intB] at h
  | .dict _ :: _, h => by simp [intB] at h
theorem val_any {L : List (List Nat)} {ks : List Int} : (valL (L.map (kvG keyC)) ks).isSome = L.any fun c => decide (keyC c = ks) := by
  induction L with
  | nil => rfl
  | cons c L ih =>
    rw [List.any_cons]
    by_cases q : keyC c = ks
    · simp [valL, kvG, List.find?_cons, q]
    · rw [decide_eq_false q, Bool.false_or, ← ih]
      simp [valL, kvG, List.find?_cons, q]
theorem inn_dct {x : List D} {n : Nat} {L : List (List Nat)} {ks : List Int} (e : h[n]? = some (dctC L)) (ek : intL x = some ks) : cmpV .inn (.d (.tuple x)) (.r n) h = .ok (.d (.bool (L.any fun c => decide (keyC c = ks)))) h := by
  unfold cmpV
  have e1 : peekR h (.r n) = none := by
    unfold peekR
    simp [e, dctC]
  rw [e1]
  have e2 : dctGet h (.tuple x) (.r n) = some (valL (L.map (kvG keyC)) ks) := by
    unfold dctGet
    simp [e, dctC, ek]
  simp only [isB, e2, val_any]
theorem ty_int (d : D) : (tyD .int d && !tyD .bool d) = intB d := by cases d <;> rfl
theorem ty_tup (xs : List D) : tyD .tup (.tuple xs) = true := rfl
theorem is_share_ok (o : Ok_is_share Ds F) (d : D) {n : Nat} {L : List (List Nat)} (hn : h[n]? = some (dctC L)) : call Ds wf (k + 2) F.f_is_share [.d d, .r n] h = .ok (.d (.bool (shareB L d))) h := by
  rw [call_ir o.e rfl]
  have e1 := fun d h => is_positive_ok (wf := wf) (k := k) (h := h) o.o_is_positive d
  cases d with
  | tuple xs =>
    match xs with
    | [] => simp [ir_is_share, tyD, shareB]
    | [x] => simp [ir_is_share, tyD, shareB]
    | [x, y] =>
      by_cases p : posB y = true
      · cases x with
        | tuple zs =>
          by_cases l5 : zs.length = 5
          · have z := sOk (show zs.length ≤ 16777216 by omega)
            have ba := bAll_map zs intB
            by_cases ai : zs.all intB = true
            · obtain ⟨ks, ek⟩ := intL_all ai
              have ic := inn_dct hn ek
              have eb : inC L zs = L.any fun c => decide (keyC c = ks) := by
                unfold inC
                rw [ek]
              have z5 : szOk 5 = true := by rfl
              simp [ir_is_share, ty_tup, shareB, e1, p, l5, z, z5, ty_int, ai, ic, eb]
            · have z5 : szOk 5 = true := by rfl
              have ai' : zs.all intB = false := by simpa using ai
              simp [ir_is_share, ty_tup, shareB, e1, p, l5, z, z5, ty_int, ai']
          · simp [ir_is_share, ty_tup, shareB, e1, p, l5]
            intro hh
            omega
        | _ => simp [ir_is_share, tyD, shareB, e1, p]
      · have p' : posB y = false := by simpa using p
        have sb : shareB L (.tuple [x, y]) = false := by
          cases x <;> simp [shareB, p']
        simp [ir_is_share, ty_tup, sb, e1, p']
    | a :: b :: c :: r =>
      have l : ¬ (((r.length : Int) + 1 + 1 + 1) = 2) := by omega
      have sb : shareB L (.tuple (a :: b :: c :: r)) = false := by
        cases a <;> rfl
      simp [ir_is_share, ty_tup, sb, l]
  | _ => simp [ir_is_share, tyD, shareB]
end
/-! ### mixtures -/
/-- counts and a share, told -/
abbrev Sh := List Nat × Nat
def encS (x : Sh) : D := .tuple [nT x.1, .int (x.2 : Nat)]
def wholeN (xs : List Sh) : Nat := (xs.map (·.2)).sum
def gapZ (own : List Nat) (xs : List Sh) (i : Nat) : Int := (at0 own i : Int) * (wholeN xs : Int) - ((xs.map fun x => at0 x.1 i * x.2).sum : Nat)
/-- nowhere more, and somewhere less -/
def betB (own : List Nat) (xs : List Sh) : Bool := decide (∀ i ∈ List.range 5, 0 ≤ gapZ own xs i) && decide (∃ i ∈ List.range 5, 0 < gapZ own xs i)
theorem maxI_hi : ∀ (r : List Int) (n : Int), (maxI n r = n ∨ maxI n r ∈ r) ∧ n ≤ maxI n r ∧ ∀ y ∈ r, y ≤ maxI n r
  | [], n => ⟨.inl rfl, Int.le_refl _, fun _ h => nomatch h⟩
  | x :: r, n => by
    obtain ⟨h1, h2, h3⟩ := maxI_hi r (if x > n then x else n)
    have e : maxI n (x :: r) = maxI (if x > n then x else n) r := rfl
    rw [e]
    generalize maxI (if x > n then x else n) r = m at h1 h2 h3
    refine ⟨?_, ?_, fun y hy => ?_⟩
    · rcases h1 with h1 | h1
      · rw [h1]
        split
        · exact .inr List.mem_cons_self
        · exact .inl rfl
      · exact .inr (List.mem_cons_of_mem _ h1)
    · split at h2 <;> omega
    · rcases List.mem_cons.mp hy with e | hy
      · rw [e]
        split at h2 <;> omega
      · exact h3 y hy
/-- min(gaps) >= 0 and max(gaps) > 0 -/
theorem gaps_ok {α : Type} (a : α) (l : List α) (g : α → Int) : ∃ m M : Int, bMin [.list ((a :: l).map fun x => .int (g x))] = some (.int m) ∧ bMax [.list ((a :: l).map fun x => .int (g x))] = some (.int M) ∧ (0 ≤ m ↔ ∀ x ∈ a :: l, 0 ≤ g x) ∧ (0 < M ↔ ∃ x ∈ a :: l, 0 < g x) := by
  obtain ⟨p1, p2, p3⟩ := minI_lo (l.map g) (g a)
  obtain ⟨q1, q2, q3⟩ := maxI_hi (l.map g) (g a)
  refine ⟨minI (g a) (l.map g), maxI (g a) (l.map g), ?_, ?_, ?_, ?_⟩
  · show (match intL ((a :: l).map fun x => PyData.int (g x)) with
      | some (n :: r) => some (PyData.int (minI n r))
      | _ => none) = _
    rw [intL_map]
    rfl
  · show (match intL ((a :: l).map fun x => PyData.int (g x)) with
      | some (n :: r) => some (PyData.int (maxI n r))
      | _ => none) = _
    rw [intL_map]
    rfl
  · constructor
    · intro h x hx
      rcases List.mem_cons.mp hx with rfl | hx
      · omega
      · have := p3 _ (List.mem_map_of_mem hx)
        omega
    · intro h
      rcases p1 with e | e
      · rw [e]
        exact h a (by simp)
      · obtain ⟨x, hx, ex⟩ := List.mem_map.mp e
        rw [← ex]
        exact h x (List.mem_cons_of_mem _ hx)
  · constructor
    · intro h
      rcases q1 with e | e
      · exact ⟨a, by simp, by omega⟩
      · obtain ⟨x, hx, ex⟩ := List.mem_map.mp e
        exact ⟨x, List.mem_cons_of_mem _ hx, by omega⟩
    · rintro ⟨x, hx, h⟩
      rcases List.mem_cons.mp hx with rfl | hx
      · omega
      · have := q3 _ (List.mem_map_of_mem hx)
        omega
/-- shares that are not great -/
def ShOk (xs : List Sh) : Prop := xs.length ≤ 1000 ∧ ∀ x ∈ xs, x.1.length = 5 ∧ x.2 ≤ 1000
theorem whole_le {xs : List Sh} (h : ∀ x ∈ xs, x.2 ≤ 1000) : wholeN xs ≤ 1000 * xs.length := by
  unfold wholeN
  induction xs with
  | nil => simp
  | cons a xs ih =>
    have h1 := h a (by simp)
    have h2 := ih fun x hx => h x (List.mem_cons_of_mem _ hx)
    simp only [List.map_cons, List.sum_cons, List.length_cons]
    omega
section
variable {Ds : List Dfn} {wf k : Nat} {h : Hep} {F : Fs}
theorem gap_ev {xs : List Sh} (hs : ShOk xs) {own : List Nat} (ho : own.length = 5) {i : Nat} (hi : i ∈ List.range 5) : mulD (.int (at0 own i : Nat)) (.int (wholeN xs : Nat)) = some (.int ((at0 own i : Int) * (wholeN xs : Int))) := by
  have := whole_le fun x hx => (hs.2 x hx).2
  have := hs.1
  exact mulD_const (by omega)
theorem sum_sh {xs : List Sh} : bSum [.list (xs.map fun x => .int (x.2 : Nat))] = some (.int (wholeN xs : Nat)) := by
  have := bSum_map xs fun x => (x.2 : Int)
  rw [this]
  have e : (xs.map fun x => (x.2 : Int)).sum = ((wholeN xs : Nat) : Int) := by
    unfold wholeN
    rw [← sum_cast]
  rw [e]
theorem gaps_betB (own : List Nat) (xs : List Sh) : ∃ m M : Int, bMin [.list ((List.range 5).map fun i => .int (gapZ own xs i))] = some (.int m) ∧ bMax [.list ((List.range 5).map fun i => .int (gapZ own xs i))] = some (.int M) ∧ (decide (0 ≤ m) && decide (0 < M)) = betB own xs := by
  obtain ⟨m, M, e1, e2, e3, e4⟩ := gaps_ok 0 [1, 2, 3, 4] (gapZ own xs)
  refine ⟨m, M, e1, e2, ?_⟩
  unfold betB
  have r5 : List.range 5 = [0, 1, 2, 3, 4] := rfl
  rw [r5]
  simp only [e3, e4]
theorem law_better_ok (o : Ok__law_better Ds F) {own : List Nat} (ho : own.length = 5) {xs : List Sh} (hs : ShOk xs) {n : Nat} (hn : h[n]? = some (.lst (xs.map encS))) : call Ds wf (k + 1) F.f__law_better [.d (nT own), .r n] h = .ok (.d (.bool (betB own xs))) (h.set n (.fz (xs.map encS))) := by
  rw [call_ir o.e rfl]
  have nl : n < h.length := (List.getElem?_eq_some_iff.mp hn).1
  have z := sOk (show xs.length ≤ 16777216 by have := hs.1; omega)
  have hL : (h.set n (.fz (xs.map encS))).length = h.length := List.length_set
  have ss := sum_sh (xs := xs)
  obtain ⟨s', h', e, b2, rfl, rfl⟩ := forL_inv (α := Nat) (tg := .nm 2) (body := exec ⟨call Ds wf k, wf⟩ (inB (nth (ir__law_better F).body 1)))
    (fun pre s hh => ∃ b2 : Option Vl, s = [some (.d (nT own)), some (.r n), b2, some (.d (.int (wholeN xs : Nat))), some (.r h.length), none, none] ∧ hh = h.set n (.fz (xs.map encS)) ++ [.lst (pre.map fun i => .int (gapZ own xs i))]) (fun i : Nat => PyData.int (i : Int)) (l := List.range 5)
    (s := [some (.d (nT own)), some (.r n), none, some (.d (.int (wholeN xs : Nat))), some (.r h.length), none, none]) (h := h.set n (.fz (xs.map encS)) ++ [.lst []]) ⟨none, rfl, rfl⟩ (by
      rintro pre i post s hh el ⟨b2, rfl, rfl⟩
      have hi : i ∈ List.range 5 := by rw [el]; simp
      have g1 := at5 ho i hi
      have g2 := gap_ev hs ho hi
      have lp : pre.length < sizeLine := by
        have := congrArg List.length el
        simp at this
        show _ < 16777216
        omega
      have hk : (h.set n (.fz (xs.map encS)) ++ [Ob.lst (pre.map fun i => .int (gapZ own xs i))])[n]? = some (.fz (xs.map encS)) := by
        rw [List.getElem?_append_left (by rw [hL]; exact nl), List.getElem?_set_self nl]
      have gx : ∀ x ∈ xs, x.1[i]? = some (at0 x.1 i) := fun x hx => at5 (hs.2 x hx).1 i hi
      have gm : ∀ x ∈ xs, mulD (.int (at0 x.1 i : Nat)) (.int (x.2 : Nat)) = some (.int ((at0 x.1 i * x.2 : Nat) : Int)) := fun x hx => by
        have := (hs.2 x hx).2
        rw [mulD_const (by omega), Int.natCast_mul]
      have sp : bSum [.list (xs.map fun x => .int ((at0 x.1 i * x.2 : Nat) : Int))] = some (.int (((xs.map fun x => at0 x.1 i * x.2).sum : Nat) : Int)) := by
        rw [bSum_map xs fun x => ((at0 x.1 i * x.2 : Nat) : Int), sum_cast]
      refine ⟨_, _, _, rfl, ?_, some (.d (.int (i : Nat))), rfl, rfl⟩
      have ge : (at0 own i : Int) * (wholeN xs : Int) - (((xs.map fun x => at0 x.1 i * x.2).sum : Nat) : Int) = gapZ own xs i := rfl
      simp only [Int.natCast_mul] at gm sp
      simp +contextual [toM, ir__law_better, nth, inB, g1, g2, kept, keep, hk, z, encS, gx, gm, sp, appV, hep_at hL, hep_set hL, lp, ge])
  obtain ⟨m, M, q1, q2, q3⟩ := gaps_betB own xs
  have rg : ∀ h, rngV (.d (.int 5)) h = _ := fun h => rngV_n (h := h) 5 (by decide)
  simp only [ir__law_better, nth, inB] at e
  simp [ir__law_better, nth, inB, kept, keep, hn, z, encS, ss, hL, rg, e, peek, hep_at hL, q1, q2, hep_take hL]
  exact q3
theorem share_enc (L : List (List Nat)) (x : Sh) : shareB L (encS x) = (decide (0 < x.2) && (decide (x.1.length = 5) && decide (x.1 ∈ L))) := by
  have e1 : ((x.1.map fun i : Nat => PyData.int (i : Int)).all intB) = true := by
    rw [List.all_map]
    exact List.all_eq_true.mpr fun _ _ => rfl
  have e2 : inC L (x.1.map fun i : Nat => PyData.int (i : Int)) = decide (x.1 ∈ L) := by
    unfold inC
    rw [intL_C]
    by_cases q : x.1 ∈ L
    · rw [decide_eq_true q]
      exact List.any_eq_true.mpr ⟨x.1, q, by simp⟩
    · rw [decide_eq_false q]
      refine Bool.eq_false_iff.mpr fun z => ?_
      obtain ⟨c, hc, ec⟩ := List.any_eq_true.mp z
      exact q (keyC_inj _ _ (of_decide_eq_true ec) ▸ hc)
  show (posB (.int (x.2 : Nat)) && (decide ((x.1.map fun i : Nat => PyData.int (i : Int)).length = 5) && ((x.1.map fun i : Nat => PyData.int (i : Int)).all intB && inC L (x.1.map fun i : Nat => PyData.int (i : Int))))) = _
  rw [e1, e2, List.length_map]
  simp [posB]
theorem eqD_tnil {ys : List D} (hs : shp (.tuple ys) = true) : eqD (.tuple ys) (.tuple []) = some (decide (ys = [])) := by
  have h2 : shp (.tuple []) = true := rfl
  unfold eqD
  rw [hs, h2]
  cases ys with
  | nil => rfl
  | cons a l =>
    show some (PyData.eqv (.tuple (a :: l)) (.tuple [])) = _
    rw [PyData.eqv, PyData.eqvAll]
    simp
theorem is_mixture_no (o : Ok_is_mixture Ds F) {own : List Nat} {ys : List D} (hs : shp (.tuple ys) = true) (hl : ys.length ≤ 1000) {n : Nat} {L : List (List Nat)} (hn : h[n]? = some (dctC L)) (hf : ys = [] ∨ ys.all (shareB L) = false) : call Ds wf (k + 3) F.f_is_mixture [.d (nT own), .r n, .d (.tuple ys)] h = .ok (.d (.bool false)) h := by
  rw [call_ir o.e rfl]
  have eq := eqD_tnil hs
  rcases hf with rfl | hf
  · simp at eq
    simp [ir_is_mixture, ty_tup, eq]
  · have ne : ys ≠ [] := fun e => by
      rw [e] at hf
      cases hf
    rw [decide_eq_false ne] at eq
    have e1 := fun d => is_share_ok (wf := wf) (k := k) (h := h) o.o_is_share d hn
    have z := sOk (show ys.length ≤ 16777216 by omega)
    have cg : compG (fun x h => putR (call Ds wf (k + 2) F.f_is_share [.d x, .r n] h)) ys h = .ok (ys.map fun d => .bool (shareB L d)) h := compG_at fun a _ => by rw [e1 a]; rfl
    simp [ir_is_mixture, ty_tup, eq, z, cg, hf]
theorem is_mixture_ok (o : Ok_is_mixture Ds F) {own : List Nat} (ho : own.length = 5) {xs : List Sh} (hs : ShOk xs) {n : Nat} {L : List (List Nat)} (hn : h[n]? = some (dctC L)) (hx : xs ≠ []) (ha : ∀ x ∈ xs, 0 < x.2 ∧ x.1 ∈ L) : call Ds wf (k + 3) F.f_is_mixture [.d (nT own), .r n, .d (.tuple (xs.map encS))] h = .ok (.d (.bool (betB own xs))) h := by
  rw [call_ir o.e rfl]
  have os : shp (.tuple (xs.map encS)) = true := (okd_tup (m := 2) fun y hy => by
    obtain ⟨x, _, rfl⟩ := List.mem_map.mp hy
    exact okd_tup (m := 1) fun z hz => by
      rcases List.mem_cons.mp hz with rfl | hz
      · exact okd_nT _
      · rw [List.mem_singleton.mp hz]
        exact okd_int 1 _).shp (by decide)
  have eq := eqD_tnil os
  have ne : xs.map encS ≠ [] := fun e => hx (by simpa using e)
  rw [decide_eq_false ne] at eq
  have e1 := fun d => is_share_ok (wf := wf) (k := k) (h := h) o.o_is_share d hn
  have z := sOk (show xs.length ≤ 16777216 by have := hs.1; omega)
  have z5 : szOk 5 = true := by rfl
  have cg : compG (fun a h => putR (call Ds wf (k + 2) F.f_is_share [.d (encS a), .r n] h)) xs h = .ok (xs.map fun x => .bool (shareB L (encS x))) h := compG_at fun a _ => by rw [e1 (encS a)]; rfl
  have al : xs.all (fun x => shareB L (encS x)) = true := List.all_eq_true.mpr fun x hx => by
    rw [share_enc]
    have := ha x hx
    simp [this.1, this.2, (hs.2 x hx).1]
  have ss := sum_sh (xs := xs)
  have rg : ∀ h, rngV (.d (.int 5)) h = _ := fun h => rngV_n (h := h) 5 (by decide)
  have g1 := at5 ho
  have g2 : ∀ i ∈ List.range 5, _ := fun i hi => gap_ev hs ho hi
  have gx : ∀ i ∈ List.range 5, ∀ x ∈ xs, x.1[i]? = some (at0 x.1 i) := fun i hi x hx => at5 (hs.2 x hx).1 i hi
  have gm : ∀ i, ∀ x ∈ xs, mulD (.int (at0 x.1 i : Nat)) (.int (x.2 : Nat)) = some (.int ((at0 x.1 i * x.2 : Nat) : Int)) := fun i x hx => by
    have := (hs.2 x hx).2
    rw [mulD_const (by omega), Int.natCast_mul]
  have sp : ∀ i, bSum [.list (xs.map fun x => .int ((at0 x.1 i * x.2 : Nat) : Int))] = some (.int (((xs.map fun x => at0 x.1 i * x.2).sum : Nat) : Int)) := fun i => by
    rw [bSum_map xs fun x => ((at0 x.1 i * x.2 : Nat) : Int), sum_cast]
  have ge : ∀ i, (at0 own i : Int) * (wholeN xs : Int) - (((xs.map fun x => at0 x.1 i * x.2).sum : Nat) : Int) = gapZ own xs i := fun _ => rfl
  obtain ⟨m, M, q1, q2, q3⟩ := gaps_betB own xs
  have in1 : ∀ i ∈ List.range 5, ∀ (s : Env) (h : Hep), s[2]? = some (some (.d (.tuple (xs.map encS)))) → s[5]? = some (some (.d (.int (i : Nat)))) → s.length = 8 → ev ⟨call Ds wf (k + 2), wf⟩ (.lc (.tp [6, 7]) (.itr (.var 2)) (.con (.bool true)) (.bin .mul (.idx (.var 6) (.var 5)) (.var 7)) [6, 7]) s h = .ok (.d (.list (xs.map fun x => .int ((at0 x.1 i * x.2 : Nat) : Int)))) h := by
    intro i hi s h h2 h5 hl
    match s, hl with
    | [s0, s1, s2, s3, s4, s5, s6, s7], _ =>
      have e2 : s2 = some (.d (.tuple (xs.map encS))) := by simpa using h2
      have e5 : s5 = some (.d (.int (i : Nat))) := by simpa using h5
      subst e2 e5
      have gx' := gx i hi
      have gm' := gm i
      simp only [Int.natCast_mul] at gm'
      simp +contextual [toM, z, encS, gx', gm']
  have st : exec ⟨call Ds wf (k + 2), wf⟩ (nth (ir_is_mixture F).body 2) [some (.d (nT own)), some (.r n), some (.d (.tuple (xs.map encS))), some (.d (.int (wholeN xs : Nat))), none, none, none, none] h = .nx [some (.d (nT own)), some (.r n), some (.d (.tuple (xs.map encS))), some (.d (.int (wholeN xs : Nat))), some (.d (.list ((List.range 5).map fun i => .int (gapZ own xs i)))), none, none, none] h := by
    have cg2 : ∀ (f : Nat → Hep → R (Option D)), (∀ i ∈ List.range 5, f i h = .ok (some (.int (gapZ own xs i))) h) → compG f (List.range 5) h = .ok ((List.range 5).map fun i => .int (gapZ own xs i)) h := fun f hf => compG_at hf
    simp only [ir_is_mixture, nth, ex_asg, ev_lc, evi_rng, ev_con, bnd_ok, rg, List.length_map, List.length_range, z5, compG_map, if_true]
    rw [cg2]
    · rfl
    · intro i hi
      have i1 := fun h => in1 i hi [some (.d (nT own)), some (.r n), some (.d (.tuple (xs.map encS))), some (.d (.int (wholeN xs : Nat))), none, some (.d (.int (i : Nat))), none, none] h rfl rfl rfl
      simp only [wipe_cons, wipe_nil, setTg_nm, List.set, askR_b, if_true, ev_bin, ev_idx, ev_blt, evs_cons, evs_nil, i1]
      have sp' := sp i
      have ge' := ge i
      simp [g1 i hi, g2 i hi, sp', ge']
      unfold gapZ
      rw [← sum_cast]
      simp only [Int.natCast_mul]
  have eb : (ir_is_mixture F).body = .seq (nth (ir_is_mixture F).body 0) (.seq (nth (ir_is_mixture F).body 1) (.seq (nth (ir_is_mixture F).body 2) (.seq (nth (ir_is_mixture F).body 3) .skip))) := rfl
  have es : List.map some [Vl.d (nT own), Vl.r n, Vl.d (.tuple (xs.map encS))] ++ List.replicate ((ir_is_mixture F).ns - (ir_is_mixture F).ps) none = [some (.d (nT own)), some (.r n), some (.d (.tuple (xs.map encS))), none, none, none, none, none] := rfl
  have s0 : exec ⟨call Ds wf (k + 2), wf⟩ (nth (ir_is_mixture F).body 0) [some (.d (nT own)), some (.r n), some (.d (.tuple (xs.map encS))), none, none, none, none, none] h = .nx [some (.d (nT own)), some (.r n), some (.d (.tuple (xs.map encS))), none, none, none, none, none] h := by
    simp [ir_is_mixture, nth, ty_tup, eq, z, cg, al]
  have s1 : exec ⟨call Ds wf (k + 2), wf⟩ (nth (ir_is_mixture F).body 1) [some (.d (nT own)), some (.r n), some (.d (.tuple (xs.map encS))), none, none, none, none, none] h = .nx [some (.d (nT own)), some (.r n), some (.d (.tuple (xs.map encS))), some (.d (.int (wholeN xs : Nat))), none, none, none, none] h := by
    simp [ir_is_mixture, nth, z, encS, ss]
  have s3 : exec ⟨call Ds wf (k + 2), wf⟩ (nth (ir_is_mixture F).body 3) [some (.d (nT own)), some (.r n), some (.d (.tuple (xs.map encS))), some (.d (.int (wholeN xs : Nat))), some (.d (.list ((List.range 5).map fun i => .int (gapZ own xs i)))), none, none, none] h = .rt (.d (.bool (betB own xs))) h := by
    simp [ir_is_mixture, nth, q1, q2]
    exact q3
  rw [es, eb]
  simp only [ex_seq, s0, s1, st, s3, sb_nx, sb_rt]
  simp
theorem eq_mm : eqD (.str "mixture") (.str "mixture") = some true := by decide +kernel
theorem eq_wm : eqD (.str "weights") (.str "mixture") = some false := by decide +kernel
theorem eq_ww : eqD (.str "weights") (.str "weights") = some true := by decide +kernel
theorem eq_xm : eqD (.str "mix") (.str "mixture") = some false := by decide +kernel
theorem eq_xw : eqD (.str "mix") (.str "weights") = some false := by decide +kernel
theorem frn_siz {one other : Tb} (h1 : TOk one) (h2 : TOk other) : (frn one other).length ≤ 16777216 := by
  have q1 := srtC_siz h1 h2
  have q2 : (frn one other).length ≤ (srtC one other).length := List.length_filter_le _ _
  omega
variable {one other : Tb} {a : Pg × Pg}
theorem support_weights (o : Ok_is_support Ds F) (h1 : TOk one) (h2 : TOk other) (ha : IsA one other a) {w : List Nat} (hw : WBig w) : call Ds wf (k + 10) F.f_is_support [.d (encT one), .d (encT other), .d (encA a), .d (.tuple [.str "weights", nT w])] h = .ok (.d (.bool (w.all (fun x => decide (0 < x)) && (frn one other).all fun c => decide (costN (cnt one other a) w ≤ costN c w)))) h := by
  rw [call_ir o.e rfl]
  have e1 := need_alignment_ok (wf := wf) (k := k + 2) (h := h) o.o_need_alignment h1 h2 _ (isA_tl4 h1 h2 ha)
  rw [fits_iff.mpr ha] at e1
  have e2 := fun h => counts_of_ok (wf := wf) (k := k + 6) (h := h) o.o_counts_of h1 h2 ha
  have e3 := fun h => front_of_ok (wf := wf) (k := k) (h := h) o.o_front_of h1 h2
  have e4 := fun h => is_least_ok (wf := wf) (k := k + 7) (h := h) o.o_is_least (own := cnt one other a) rfl (fun c hc => srtC_len (frn_sub hc)) (frn_siz h1 h2) hw
  have e5 := fun d h => is_positive_ok (wf := wf) (k := k + 8) (h := h) o.o_is_positive d
  have l5 := hw.l5
  have z5 : szOk 5 = true := by rfl
  have pp : ∀ x : Nat, posB (.int (x : Nat)) = decide (0 < x) := fun x => by simp [posB]
  have cc : ((fun a => PyData.bool (posB a)) ∘ fun i : Nat => PyData.int (i : Int)) = fun x : Nat => PyData.bool (decide (0 < x)) := funext fun x => by
    show PyData.bool (posB (.int (x : Nat))) = _
    rw [pp]
  have ba := bAll_map w fun x : Nat => decide (0 < x)
  cases q : w.all fun x => decide (0 < x) with
  | true => simp [ir_is_support, e1, tyD, e2, eq_wm, eq_ww, l5, z5, e5, cc, q, e3, e4]
  | false => simp [ir_is_support, e1, tyD, e2, eq_wm, eq_ww, l5, z5, e5, cc, q]
theorem support_mix (o : Ok_is_support Ds F) (h1 : TOk one) (h2 : TOk other) (ha : IsA one other a) {xs : List Sh} (hs : ShOk xs) (hx : xs ≠ []) (hm : ∀ x ∈ xs, 0 < x.2 ∧ x.1 ∈ allC one other) : call Ds wf (k + 10) F.f_is_support [.d (encT one), .d (encT other), .d (encA a), .d (.tuple [.str "mixture", .tuple (xs.map encS)])] h = .ok (.d (.bool (betB (cnt one other a) xs))) h := by
  rw [call_ir o.e rfl]
  have e1 := need_alignment_ok (wf := wf) (k := k + 2) (h := h) o.o_need_alignment h1 h2 _ (isA_tl4 h1 h2 ha)
  rw [fits_iff.mpr ha] at e1
  have e2 := fun h => counts_of_ok (wf := wf) (k := k + 6) (h := h) o.o_counts_of h1 h2 ha
  have e3 := fun h => all_counts_ok (wf := wf) (k := k + 1) (h := h) o.o_all_counts h1 h2
  have e4 := is_mixture_ok (wf := wf) (k := k + 6) (h := h ++ [dctC (allC one other)]) (n := h.length) o.o_is_mixture (own := cnt one other a) rfl hs (L := allC one other) (by simp) hx hm
  simp [ir_is_support, e1, tyD, e2, eq_mm, e3, e4]
theorem support_nomix (o : Ok_is_support Ds F) (h1 : TOk one) (h2 : TOk other) (ha : IsA one other a) {ys : List D} (hs : shp (.tuple ys) = true) (hl : ys.length ≤ 1000) (hf : ys = [] ∨ ys.all (shareB (allC one other)) = false) : call Ds wf (k + 10) F.f_is_support [.d (encT one), .d (encT other), .d (encA a), .d (.tuple [.str "mixture", .tuple ys])] h = .ok (.d (.bool false)) h := by
  rw [call_ir o.e rfl]
  have e1 := need_alignment_ok (wf := wf) (k := k + 2) (h := h) o.o_need_alignment h1 h2 _ (isA_tl4 h1 h2 ha)
  rw [fits_iff.mpr ha] at e1
  have e2 := fun h => counts_of_ok (wf := wf) (k := k + 6) (h := h) o.o_counts_of h1 h2 ha
  have e3 := fun h => all_counts_ok (wf := wf) (k := k + 1) (h := h) o.o_all_counts h1 h2
  have e4 := is_mixture_no (wf := wf) (k := k + 6) (h := h ++ [dctC (allC one other)]) (n := h.length) o.o_is_mixture (own := cnt one other a) hs hl (L := allC one other) (by simp) hf
  simp [ir_is_support, e1, tyD, e2, eq_mm, e3, e4]
/-- things of other kinds -/
theorem support_not (o : Ok_is_support Ds F) (h1 : TOk one) (h2 : TOk other) (ha : IsA one other a) (w : List Nat) : ∀ d ∈ [PyData.none, .tuple [], .list [.str "weights", nT w], .tuple [.str "weights", nT w, .int 1], .tuple [.str "mix", .tuple []], .tuple [.str "weights", .none], .tuple [.str "weights", .list (w.map fun i : Nat => PyData.int (i : Int))], .tuple [.str "weights", nT [1, 1, 1, 1]]], call Ds wf (k + 10) F.f_is_support [.d (encT one), .d (encT other), .d (encA a), .d d] h = .ok (.d (.bool false)) h := by
  have e1 := need_alignment_ok (wf := wf) (k := k + 2) (h := h) o.o_need_alignment h1 h2 _ (isA_tl4 h1 h2 ha)
  rw [fits_iff.mpr ha] at e1
  have e2 := fun h => counts_of_ok (wf := wf) (k := k + 6) (h := h) o.o_counts_of h1 h2 ha
  intro d hd
  rw [call_ir o.e rfl]
  simp only [List.mem_cons, List.not_mem_nil, or_false] at hd
  rcases hd with rfl | rfl | rfl | rfl | rfl | rfl | rfl | rfl <;> simp [ir_is_support, e1, tyD, e2, eq_wm, eq_ww, eq_xm, eq_xw]
end
end Z

set_option linter.all false
set_option autoImplicit false
set_option maxRecDepth 100000
set_option maxHeartbeats 0
set_option exponentiation.threshold 2000
/-! L14: the law k14. -/
namespace Z
open PySem Pl
section
variable {Ds : List Dfn} {wf k : Nat} {h : Hep} {F : Fs}
def b14 (F : Fs) : S := inB (nth (ir_law_k14 F).body 0)
def t14 (F : Fs) : S := inB (nth (b14 F) 3)
/-- drawn numbers, one more than each -/
theorem rolls_ok (o : Ok__law_roll Ds F) {n m : Nat} (hm : 0 < m) (hm2 : m ≤ 1000) (hd : Dice h n) {f : Nat → Hep → R (Option D)} (hf : ∀ a h, f a h = putR (bnd (call Ds wf (k + 2) F.f__law_roll [.r n, .d (.int (m : Nat))] h) fun y h2 => op2 addD (.d (.int 1)) y h2)) :
    ∃ (w : List Nat) (h' : Hep), compG f (List.range 5) h = .ok (w.map fun i : Nat => PyData.int (i : Int)) h' ∧ Dk n h h' ∧ w.length = 5 ∧ ∀ x ∈ w, 1 ≤ x ∧ x ≤ m := by
  obtain ⟨ys, h1, e1, ⟨k1, d1⟩, l1, p1⟩ := compG_invA (α := Nat) (f := f) (fun h1 => Dk n h h1 ∧ Dice h1 n) (fun v => ∃ i : Nat, v = .int (i : Int) ∧ 1 ≤ i ∧ i ≤ m) (l := List.range 5) (h := h) ⟨hd.refl, hd⟩ fun a _ h1 ⟨j1, j2⟩ => by
    obtain ⟨r, h2, e2, k2, r2⟩ := roll_nat (wf := wf) (k := k) o (many := m) j2 hm (by omega)
    refine ⟨.int ((r + 1 : Nat) : Int), h2, ?_, ⟨j1.trans k2, k2.dice j2⟩, r + 1, rfl, by omega, by omega⟩
    rw [hf, e2]
    simp
    omega
  have ex : ∃ vs : List Nat, ys = vs.map (fun i : Nat => PyData.int (i : Int)) ∧ ∀ v ∈ vs, 1 ≤ v ∧ v ≤ m := by
    clear e1 l1
    induction ys with
    | nil => exact ⟨[], rfl, by simp⟩
    | cons y ys ih =>
      obtain ⟨i, rfl, a, b⟩ := p1 y (by simp)
      obtain ⟨ws, rfl, c⟩ := ih fun z hz => p1 z (by simp [hz])
      refine ⟨i :: ws, rfl, fun v hv => ?_⟩
      rcases List.mem_cons.mp hv with rfl | hv
      · exact ⟨a, b⟩
      · exact c v hv
  obtain ⟨vs, rfl, q⟩ := ex
  exact ⟨vs, h1, e1, k1, by simpa using l1, q⟩
/-- min of all costs is one's own: none of the front costs less -/
theorem due_eq {one other : Tb} {a : Pg × Pg} (ha : IsA one other a) (w : List Nat) {m : Nat} (h1 : ∃ b ∈ allA one other, costN (cnt one other b) w = m) (h2 : ∀ b ∈ allA one other, m ≤ costN (cnt one other b) w) : (frn one other).all (fun c => decide (costN (cnt one other a) w ≤ costN c w)) = decide (m = costN (cnt one other a) w) := by
  obtain ⟨b, hb, eb⟩ := h1
  have ma := h2 a (mem_allA.mpr ha)
  by_cases q : m = costN (cnt one other a) w
  · rw [decide_eq_true q]
    refine List.all_eq_true.mpr fun c hc => decide_eq_true ?_
    obtain ⟨d, hd, rfl⟩ := mem_allC.mp (mem_srtC.mp (frn_sub hc))
    have := h2 d (mem_allA.mpr hd)
    omega
  · rw [decide_eq_false q]
    refine Bool.eq_false_iff.mpr fun z => q ?_
    obtain ⟨y, hy, hl⟩ := frn_below (cnt_mem (mem_allA.mp hb))
    have z1 := of_decide_eq_true (List.all_eq_true.mp z y hy)
    have := cost_le (w := w) hl
    omega
variable {one other : Tb}
theorem k14_shares (o : Ok_law_k14 Ds F) (t1 : TOk one) (t2 : TOk other) {n cl : Nat} {h0 : Hep} (hl : h0.length = cl) (hd : Dice h0 n) (m : Nat) (hm : m ≤ 3) (a0 a2 a4 a5 a6 a7 a8 a9 a11 a12 a13 a14 a15 a16 a17 a18 : Option Vl) :
    ∃ (s' : Env) (h' : Hep), forL (.nm 11) (exec ⟨call Ds wf (k + 10), wf⟩ (inB (nth (t14 F) 6))) ((List.range m).map fun i : Nat => PyData.int (i : Int)) [a0, some (.r n), a2, some (.d (.list ((allA one other).map fun a => nT (cnt one other a)))), a4, a5, a6, a7, a8, a9, some (.r cl), a11, a12, a13, a14, a15, a16, a17, a18] (h0 ++ [.lst []]) = .nx s' h' ∧
      ∃ (x11 : Option Vl) (xs : List Sh) (h1 : Hep), s' = [a0, some (.r n), a2, some (.d (.list ((allA one other).map fun a => nT (cnt one other a)))), a4, a5, a6, a7, a8, a9, some (.r cl), x11, a12, a13, a14, a15, a16, a17, a18] ∧ h' = h1 ++ [.lst (xs.map encS)] ∧ Dk n h0 h1 ∧ xs.length = m ∧ ∀ x ∈ xs, x.1 ∈ allC one other ∧ 1 ≤ x.2 ∧ x.2 ≤ 5 := by
  obtain ⟨s', h', e, x11, xs, h1, rfl, rfl, k1, l1, q1⟩ := forL_inv (α := Nat) (tg := .nm 11) (body := exec ⟨call Ds wf (k + 10), wf⟩ (inB (nth (t14 F) 6)))
    (fun pre s hh => ∃ (x11 : Option Vl) (xs : List Sh) (h1 : Hep), s = [a0, some (.r n), a2, some (.d (.list ((allA one other).map fun a => nT (cnt one other a)))), a4, a5, a6, a7, a8, a9, some (.r cl), x11, a12, a13, a14, a15, a16, a17, a18] ∧ hh = h1 ++ [.lst (xs.map encS)] ∧ Dk n h0 h1 ∧ xs.length = pre.length ∧ ∀ x ∈ xs, x.1 ∈ allC one other ∧ 1 ≤ x.2 ∧ x.2 ≤ 5) (fun i : Nat => PyData.int (i : Int)) (l := List.range m)
    (s := [a0, some (.r n), a2, some (.d (.list ((allA one other).map fun a => nT (cnt one other a)))), a4, a5, a6, a7, a8, a9, some (.r cl), a11, a12, a13, a14, a15, a16, a17, a18]) (h := h0 ++ [.lst []]) ⟨a11, [], h0, rfl, rfl, hd.refl, rfl, by simp⟩ (by
      rintro pre i post s hh el ⟨x11, xs, h1, rfl, rfl, k1, l1, q1⟩
      have ne : 0 < (allA one other).length := List.length_pos_of_mem (mem_allA.mpr (isA_nil one other))
      have nl := len_allA t1 t2
      obtain ⟨r, h2, e2, k2, r2⟩ := roll_nat (wf := wf) (k := k + 8) o.o__law_roll (many := (allA one other).length) (h := h1 ++ [.lst (xs.map encS)]) ((k1.dice hd).app _) ne (by omega)
      obtain ⟨h3, rfl, k3⟩ := Dk.split (k1.dice hd) k2
      obtain ⟨r', h4, e4, k4, r4⟩ := roll_nat (wf := wf) (k := k + 8) o.o__law_roll (many := 5) (h := h3 ++ [.lst (xs.map encS)]) ((k3.dice (k1.dice hd)).app _) (by decide)
      obtain ⟨h5, rfl, k5⟩ := Dk.split (k3.dice (k1.dice hd)) k4
      have e4' : call Ds wf (k + 10) F.f__law_roll [.r n, .d (.int 5)] (h3 ++ [.lst (xs.map encS)]) = .ok (.d (.int (r' : Nat))) (h5 ++ [.lst (xs.map encS)]) := e4
      have l5 : h5.length = cl := by rw [k5.len, k3.len, k1.len, hl]
      have l11 : h1.length = cl := by rw [k1.len, hl]
      have gr : (allA one other)[r]? = some ((allA one other)[r]) := List.getElem?_eq_getElem r2
      have z2 : szOk 2 = true := by rfl
      have lx : xs.length < sizeLine := by
        have := congrArg List.length el
        simp at this
        show _ < 16777216
        omega
      have c1 : (1 : Int) + (r' : Int) = ((r' + 1 : Nat) : Int) := by omega
      refine ⟨_, _, _, rfl, ?_, some (.d (.int (i : Nat))), xs ++ [(cnt one other (allA one other)[r], r' + 1)], h5, rfl, rfl, ((k1.trans k3).trans k5), by simp [l1], fun x hx => ?_⟩
      · simp [t14, b14, ir_law_k14, nth, inB, e2, e4', gr, z2, appV, hep_at l5, hep_at l11, hep_set l5, lx, encS, c1]
      · rcases List.mem_append.mp hx with hx | hx
        · exact q1 x hx
        · rw [List.mem_singleton.mp hx]
          exact ⟨mem_allC.mpr ⟨_, mem_allA.mp (List.getElem_mem r2), rfl⟩, by simp, by simp; omega⟩)
  exact ⟨_, _, e, x11, xs, h1, rfl, rfl, k1, by simpa using l1, q1⟩
theorem eqD_bb (b : Bool) : eqD (.bool b) (.bool b) = some true := by cases b <;> decide +kernel
/-- all that is no support -/
def bads (own w : List Nat) : List D := [.tuple [.str "mixture", .tuple []], .tuple [.str "weights", .tuple [.int 1, .int 1, .int 1, .int 1]], .tuple [.str "weights", .tuple [.int 0, .int 1, .int 1, .int 1, .int 1]], .tuple [.str "weights", .none], .tuple [.str "mixture", .tuple [.tuple [nT own, .int 0]]], .tuple [.str "mixture", .tuple [.tuple [nT own, .bool true]]], .tuple [.str "mixture", .tuple [.tuple [nT own, .int 1]]], .none, .tuple [], .tuple [.str "mixture", .tuple [.tuple [.tuple [.int (-1), .int 0, .int 0, .int 0, .int 0], .int 1]]], .tuple [.str "mix", .tuple []], .list [.str "weights", nT w], .tuple [.str "mixture", nT own]]
def bads3 (own w : List Nat) : List D := [.tuple [.str "mixture", .tuple [.tuple [nT (own.map (· + 1)), .int 1]]], .tuple [.str "weights", .list (w.map fun i : Nat => PyData.int (i : Int))], .tuple [.str "weights", nT w, .int 1]]
theorem okd_m {ys : List D} {m : Nat} (h : ∀ y ∈ ys, Okd m y) (hm : m + 1 ≤ 64) : shp (.tuple ys) = true := (okd_tup h).shp hm
theorem gap_one {own c : List Nat} {i : Nat} : gapZ own [(c, 1)] i = (at0 own i : Int) - (at0 c i : Int) := by
  simp [gapZ, wholeN]
theorem okd_sh (c : List Nat) {y : D} (hy : Okd 1 y) : ∀ z ∈ [PyData.tuple [nT c, y]], Okd 2 z := fun z hz => by
  rw [List.mem_singleton.mp hz]
  exact okd_tup fun u hu => by
    rcases List.mem_cons.mp hu with rfl | hu
    · exact okd_nT _
    · rw [List.mem_singleton.mp hu]
      exact hy
theorem bads_ok (o : Ok_law_k14 Ds F) (t1 : TOk one) (t2 : TOk other) {a : Pg × Pg} (ha : IsA one other a) {w : List Nat} (hw : WBig w) : ∀ d ∈ bads (cnt one other a) w ++ bads3 (cnt one other a) w, ∀ h, call Ds wf (k + 10) F.f_is_support [.d (encT one), .d (encT other), .d (encA a), .d d] h = .ok (.d (.bool false)) h := by
  intro d hd h
  have no := support_not (wf := wf) (k := k) (h := h) o.o_is_support t1 t2 ha w
  have nm := fun {ys : List D} => support_nomix (wf := wf) (k := k) (h := h) o.o_is_support t1 t2 ha (ys := ys)
  have one1 := support_mix (wf := wf) (k := k) (h := h) o.o_is_support t1 t2 ha (xs := [(cnt one other a, 1)]) ⟨by simp, fun x hx => by rw [List.mem_singleton.mp hx]; exact ⟨rfl, by simp⟩⟩ (by simp) (fun x hx => by rw [List.mem_singleton.mp hx]; exact ⟨by simp, mem_allC.mpr ⟨a, ha, rfl⟩⟩)
  simp only [bads, bads3, List.mem_append, List.mem_cons, List.not_mem_nil, or_false] at hd
  rcases hd with (rfl | rfl | rfl | rfl | rfl | rfl | rfl | rfl | rfl | rfl | rfl | rfl | rfl) | (rfl | rfl | rfl)
  · exact nm rfl (by simp) (.inl rfl)
  · exact no _ (by simp)
  · have e := support_weights (wf := wf) (k := k) (h := h) o.o_is_support t1 t2 ha (w := [0, 1, 1, 1, 1]) ⟨rfl, by simp⟩
    have e0 : ([0, 1, 1, 1, 1] : List Nat).all (fun x => decide (0 < x)) = false := rfl
    rw [e0] at e
    exact e
  · exact no _ (by simp)
  · refine nm (okd_m (okd_sh _ (okd_int 1 0)) (by decide)) (by simp) (.inr ?_)
    simp [shareB, posB]
  · refine nm (okd_m (okd_sh _ (okd_bool 1 true)) (by decide)) (by simp) (.inr ?_)
    simp [shareB, posB]
  · have e : betB (cnt one other a) [(cnt one other a, 1)] = false := by
      unfold betB
      simp [gap_one]
    rw [e] at one1
    exact one1
  · exact no _ (by simp)
  · exact no _ (by simp)
  · refine nm (by decide +kernel) (by simp) (.inr ?_)
    have e : inC (allC one other) [.int (-1), .int 0, .int 0, .int 0, .int 0] = false := by
      show ((allC one other).any fun c => decide (keyC c = [-1, 0, 0, 0, 0])) = false
      refine Bool.eq_false_iff.mpr fun z => ?_
      obtain ⟨c, hc, ec⟩ := List.any_eq_true.mp z
      have ec := of_decide_eq_true ec
      cases c with
      | nil => cases ec
      | cons x c =>
        simp only [keyC, List.map_cons, List.cons.injEq] at ec
        have := ec.1
        omega
    simp [shareB, e]
  · exact no _ (by simp)
  · exact no _ (by simp)
  · refine nm (okd_nT _ |>.shp (by decide)) (by simp [cnt]) (.inr ?_)
    simp [cnt, shareB]
  · by_cases q : (cnt one other a).map (· + 1) ∈ allC one other
    · have e := support_mix (wf := wf) (k := k) (h := h) o.o_is_support t1 t2 ha (xs := [((cnt one other a).map (· + 1), 1)]) ⟨by simp, fun x hx => by rw [List.mem_singleton.mp hx]; exact ⟨by simp [cnt], by simp⟩⟩ (by simp) (fun x hx => by rw [List.mem_singleton.mp hx]; exact ⟨by simp, q⟩)
      have e2 : betB (cnt one other a) [((cnt one other a).map (· + 1), 1)] = false := by
        unfold betB
        have : ¬ ∀ i ∈ List.range 5, 0 ≤ gapZ (cnt one other a) [((cnt one other a).map (· + 1), 1)] i := fun z => by
          have := z 0 (by simp)
          rw [gap_one] at this
          simp [at0, cnt] at this
          omega
        rw [decide_eq_false this]
        rfl
      rw [e2] at e
      exact e
    · refine nm (okd_m (okd_sh _ (okd_int 1 1)) (by decide)) (by simp) (.inr ?_)
      have e := share_enc (allC one other) ((cnt one other a).map (· + 1), 1)
      have e2 : shareB (allC one other) (.tuple [nT ((cnt one other a).map (· + 1)), .int 1]) = _ := e
      simp only [List.all_cons, List.all_nil, e2]
      simp [q]
  · exact no _ (by simp)
  · exact no _ (by simp)
theorem k14_cases (rest : S) (c w : List Nat) (a0 a1 a2 a3 a4 a5 a6 a7 a9 a10 a11 a12 a13 a14 a15 a17 a18 : Option Vl) : exec ⟨call Ds wf k, wf⟩ (.seq (nth (t14 F) 9) (.seq (nth (t14 F) 10) (.seq (nth (t14 F) 11) (.seq (nth (t14 F) 12) (.seq (nth (t14 F) 13) (.seq (nth (t14 F) 14) rest)))))) [a0, a1, a2, a3, a4, a5, a6, a7, some (.d (nT w)), a9, a10, a11, a12, a13, a14, a15, some (.d (nT c)), a17, a18] h = exec ⟨call Ds wf k, wf⟩ rest [a0, a1, a2, a3, a4, a5, a6, a7, some (.d (nT w)), a9, a10, a11, a12, some (.d (.list (bads c w))), a14, a15, some (.d (nT c)), a17, a18] h := by
  have z0 : szOk 0 = true := by rfl
  have z1 : szOk 1 = true := by rfl
  have z2 : szOk 2 = true := by rfl
  have z3 : szOk 3 = true := by rfl
  have z4 : szOk 4 = true := by rfl
  have z5 : szOk 5 = true := by rfl
  have z6 : szOk 6 = true := by rfl
  have z9 : szOk 9 = true := by rfl
  have z12 : szOk 12 = true := by rfl
  have z13 : szOk 13 = true := by rfl
  simp [t14, b14, ir_law_k14, nth, inB, bads, z0, z1, z2, z3, z4, z5, z6, z9, z12, z13]
theorem k14_tries (o : Ok_law_k14 Ds F) (t1 : TOk one) (t2 : TOk other) {a : Pg × Pg} (ha : IsA one other a) {w : List Nat} (hw : WBig w) (a0 a1 a2 a3 a4 a7 a9 a10 a11 a14 a17 a18 : Option Vl) :
    ∃ x14 : Option Vl, exec ⟨call Ds wf (k + 10), wf⟩ (nth (t14 F) 15) [a0, a1, a2, a3, a4, some (.d (encT one)), some (.d (encT other)), a7, some (.d (nT w)), a9, a10, a11, some (.d (nT ((cnt one other a).map (· + 1)))), some (.d (.list (bads (cnt one other a) w))), a14, some (.d (encA a)), some (.d (nT (cnt one other a))), a17, a18] h = .nx [a0, a1, a2, a3, a4, some (.d (encT one)), some (.d (encT other)), a7, some (.d (nT w)), a9, a10, a11, some (.d (nT ((cnt one other a).map (· + 1)))), some (.d (.list (bads (cnt one other a) w))), x14, some (.d (encA a)), some (.d (nT (cnt one other a))), a17, a18] h := by
  have bo := bads_ok (wf := wf) (k := k) o t1 t2 ha hw
  obtain ⟨s', h', e, x14, rfl, rfl⟩ := forL_inv (α := D) (tg := .nm 14) (body := exec ⟨call Ds wf (k + 10), wf⟩ (inB (nth (t14 F) 15)))
    (fun pre s hh => ∃ x14 : Option Vl, s = [a0, a1, a2, a3, a4, some (.d (encT one)), some (.d (encT other)), a7, some (.d (nT w)), a9, a10, a11, some (.d (nT ((cnt one other a).map (· + 1)))), some (.d (.list (bads (cnt one other a) w))), x14, some (.d (encA a)), some (.d (nT (cnt one other a))), a17, a18] ∧ hh = h) (fun d => d) (l := bads (cnt one other a) w ++ bads3 (cnt one other a) w)
    (s := [a0, a1, a2, a3, a4, some (.d (encT one)), some (.d (encT other)), a7, some (.d (nT w)), a9, a10, a11, some (.d (nT ((cnt one other a).map (· + 1)))), some (.d (.list (bads (cnt one other a) w))), a14, some (.d (encA a)), some (.d (nT (cnt one other a))), a17, a18]) (h := h) ⟨a14, rfl, rfl⟩ (by
      rintro pre d post s hh el ⟨x14, rfl, rfl⟩
      have e1 := bo d (by rw [el]; simp) hh
      refine ⟨_, _, _, rfl, ?_, some (.d d), rfl, rfl⟩
      simp [t14, b14, ir_law_k14, nth, inB, e1])
  refine ⟨x14, ?_⟩
  have z0 : szOk 0 = true := by rfl
  have z1 : szOk 1 = true := by rfl
  have z2 : szOk 2 = true := by rfl
  have z3 : szOk 3 = true := by rfl
  have z16 : szOk 16 = true := by rfl
  have lb : (bads (cnt one other a) w).length = 13 := rfl
  have zw : szOk w.length = true := by rw [hw.1]; rfl
  rw [List.map_id'] at e
  generalize bads (cnt one other a) w = bs at e lb ⊢
  have e15 : nth (t14 F) 15 = .for_ (.nm 14) (.itr (.bin .add (.var 13) (.lst (.cons (.tup (.cons (.con (.str "mixture")) (.cons (.tup (.cons (.tup (.cons (.var 12) (.cons (.con (.int 1)) .nil))) .nil)) .nil))) (.cons (.tup (.cons (.con (.str "weights")) (.cons (.blt .lst (.cons (.var 8) .nil)) .nil))) (.cons (.tup (.cons (.con (.str "weights")) (.cons (.var 8) (.cons (.con (.int 1)) .nil)))) .nil)))))) (inB (nth (t14 F) 15)) := rfl
  rw [e15]
  simp only [bads3] at e
  simp [z0, z1, z2, z3, lb, z16, zw, e]
def fnd (one other : Tb) : D := .list ((allA one other).map fun a => nT (cnt one other a))
theorem k14_turn (o : Ok_law_k14 Ds F) (t1 : TOk one) (t2 : TOk other) {n : Nat} (hd : Dice h n) (i : Nat) (a0 a7 a8 a9 a10 a11 a12 a13 a14 a15 a16 a17 a18 : Option Vl) :
    ∃ (x7 x8 x9 x10 x11 x12 x13 x14 x15 x16 x17 x18 : Option Vl) (h1 t : Hep), exec ⟨call Ds wf (k + 10), wf⟩ (t14 F) [a0, some (.r n), some (.d (encAL (allA one other))), some (.d (fnd one other)), some (.d (.int (i : Nat))), some (.d (encT one)), some (.d (encT other)), a7, a8, a9, a10, a11, a12, a13, a14, a15, a16, a17, a18] h = .nx [a0, some (.r n), some (.d (encAL (allA one other))), some (.d (fnd one other)), some (.d (.int (i : Nat))), some (.d (encT one)), some (.d (encT other)), x7, x8, x9, x10, x11, x12, x13, x14, x15, x16, x17, x18] (h1 ++ t) ∧ Dk n h h1 := by
  have ne : 0 < (allA one other).length := List.length_pos_of_mem (mem_allA.mpr (isA_nil one other))
  have nl := len_allA t1 t2
  have z := sOk (show (allA one other).length ≤ 16777216 by omega)
  have z5 : szOk 5 = true := by rfl
  -- at
  obtain ⟨r, h1, r2, k1, x0⟩ : ∃ (r : Nat) (h1 : Hep), r < (allA one other).length ∧ Dk n h h1 ∧ exec ⟨call Ds wf (k + 10), wf⟩ (nth (t14 F) 0) [a0, some (.r n), some (.d (encAL (allA one other))), some (.d (fnd one other)), some (.d (.int (i : Nat))), some (.d (encT one)), some (.d (encT other)), a7, a8, a9, a10, a11, a12, a13, a14, a15, a16, a17, a18] h = .nx [a0, some (.r n), some (.d (encAL (allA one other))), some (.d (fnd one other)), some (.d (.int (i : Nat))), some (.d (encT one)), some (.d (encT other)), some (.d (.int (r : Nat))), a8, a9, a10, a11, a12, a13, a14, a15, a16, a17, a18] h1 := by
    by_cases q : 0 < i
    · obtain ⟨r, h1, e1, k1, r1⟩ := roll_nat (wf := wf) (k := k + 8) o.o__law_roll (many := (allA one other).length) hd ne (by omega)
      refine ⟨r, h1, r1, k1, ?_⟩
      simp [t14, b14, ir_law_k14, nth, inB, q, encAL, e1]
    · refine ⟨0, h, ne, hd.refl, ?_⟩
      have q' : i = 0 := by omega
      subst q'
      simp [t14, b14, ir_law_k14, nth, inB]
  have ha : IsA one other (allA one other)[r] := mem_allA.mp (List.getElem_mem r2)
  have gr : (allA one other)[r]? = some ((allA one other)[r]) := List.getElem?_eq_getElem r2
  generalize (allA one other)[r] = a at ha gr
  have x1 : exec ⟨call Ds wf (k + 10), wf⟩ (nth (t14 F) 1) [a0, some (.r n), some (.d (encAL (allA one other))), some (.d (fnd one other)), some (.d (.int (i : Nat))), some (.d (encT one)), some (.d (encT other)), some (.d (.int (r : Nat))), a8, a9, a10, a11, a12, a13, a14, a15, a16, a17, a18] h1 = .nx [a0, some (.r n), some (.d (encAL (allA one other))), some (.d (fnd one other)), some (.d (.int (i : Nat))), some (.d (encT one)), some (.d (encT other)), some (.d (.int (r : Nat))), a8, a9, a10, a11, a12, a13, a14, some (.d (encA a)), some (.d (nT (cnt one other a))), a17, a18] h1 := by
    simp [t14, b14, ir_law_k14, nth, inB, encAL, fnd, gr]
  -- weights
  obtain ⟨w, h2, e2, k2, w5, w40⟩ := rolls_ok (wf := wf) (k := k + 8) o.o__law_roll (m := 40) (by decide) (by decide) (k1.dice hd) (f := fun a h => putR (bnd (call Ds wf (k + 10) F.f__law_roll [.r n, .d (.int 40)] h) fun y h2 => op2 addD (.d (.int 1)) y h2)) (fun _ _ => rfl)
  have hw : WBig w := ⟨w5, fun x hx => by have := w40 x hx; omega⟩
  have rg : ∀ h, rngV (.d (.int 5)) h = _ := fun h => rngV_n (h := h) 5 (by decide)
  have x2 : exec ⟨call Ds wf (k + 10), wf⟩ (nth (t14 F) 2) [a0, some (.r n), some (.d (encAL (allA one other))), some (.d (fnd one other)), some (.d (.int (i : Nat))), some (.d (encT one)), some (.d (encT other)), some (.d (.int (r : Nat))), a8, a9, a10, a11, a12, a13, a14, some (.d (encA a)), some (.d (nT (cnt one other a))), a17, a18] h1 = .nx [a0, some (.r n), some (.d (encAL (allA one other))), some (.d (fnd one other)), some (.d (.int (i : Nat))), some (.d (encT one)), some (.d (encT other)), some (.d (.int (r : Nat))), some (.d (nT w)), a9, a10, a11, a12, a13, a14, some (.d (encA a)), some (.d (nT (cnt one other a))), a17, a18] h2 := by
    simp [t14, b14, ir_law_k14, nth, inB, rg, z5]
    rw [e2]
    simp
  -- due
  obtain ⟨_, _, lm, lx⟩ := least_ok one other w
  have d1 : ∃ b ∈ allA one other, costN (cnt one other b) w = leastC one other w := by
    obtain ⟨b, hb, eb⟩ := lx
    exact ⟨b, mem_allA.mpr hb, eb⟩
  have d2 : ∀ b ∈ allA one other, leastC one other w ≤ costN (cnt one other b) w := fun b hb => lm b (mem_allA.mp hb)
  have bm := bMin_is (l := allA one other) (f := fun b => costN (cnt one other b) w) d1 d2
  have lc : ∀ (c : Pg × Pg) (h : Hep), call Ds wf (k + 10) F.f__law_cost [.d (nT (cnt one other c)), .d (nT w)] h = .ok (.d (.int (costN (cnt one other c) w : Nat))) h := fun c h => law_cost_big (wf := wf) (k := k + 9) (h := h) o.o__law_cost rfl hw
  have x3 : exec ⟨call Ds wf (k + 10), wf⟩ (nth (t14 F) 3) [a0, some (.r n), some (.d (encAL (allA one other))), some (.d (fnd one other)), some (.d (.int (i : Nat))), some (.d (encT one)), some (.d (encT other)), some (.d (.int (r : Nat))), some (.d (nT w)), a9, a10, a11, a12, a13, a14, some (.d (encA a)), some (.d (nT (cnt one other a))), a17, a18] h2 = .nx [a0, some (.r n), some (.d (encAL (allA one other))), some (.d (fnd one other)), some (.d (.int (i : Nat))), some (.d (encT one)), some (.d (encT other)), some (.d (.int (r : Nat))), some (.d (nT w)), some (.d (.bool (decide (leastC one other w = costN (cnt one other a) w)))), a10, a11, a12, a13, a14, some (.d (encA a)), some (.d (nT (cnt one other a))), a17, a18] h2 := by
    simp [t14, b14, ir_law_k14, nth, inB, fnd, z, lc, bm, Int.natCast_inj]
  have sw := fun h => support_weights (wf := wf) (k := k) (h := h) o.o_is_support t1 t2 ha hw
  have wp : w.all (fun x => decide (0 < x)) = true := List.all_eq_true.mpr fun x hx => decide_eq_true (by have := w40 x hx; omega)
  rw [wp, due_eq ha w d1 d2, Bool.true_and] at sw
  have eb := eqD_bb (decide (leastC one other w = costN (cnt one other a) w))
  have x4 : exec ⟨call Ds wf (k + 10), wf⟩ (nth (t14 F) 4) [a0, some (.r n), some (.d (encAL (allA one other))), some (.d (fnd one other)), some (.d (.int (i : Nat))), some (.d (encT one)), some (.d (encT other)), some (.d (.int (r : Nat))), some (.d (nT w)), some (.d (.bool (decide (leastC one other w = costN (cnt one other a) w)))), a10, a11, a12, a13, a14, some (.d (encA a)), some (.d (nT (cnt one other a))), a17, a18] h2 = .nx [a0, some (.r n), some (.d (encAL (allA one other))), some (.d (fnd one other)), some (.d (.int (i : Nat))), some (.d (encT one)), some (.d (encT other)), some (.d (.int (r : Nat))), some (.d (nT w)), some (.d (.bool (decide (leastC one other w = costN (cnt one other a) w)))), a10, a11, a12, a13, a14, some (.d (encA a)), some (.d (nT (cnt one other a))), a17, a18] h2 := by
    have z2 : szOk 2 = true := by rfl
    generalize decide (leastC one other w = costN (cnt one other a) w) = bb at sw eb ⊢
    simp [t14, b14, ir_law_k14, nth, inB, z2, sw, eb]
  generalize decide (leastC one other w = costN (cnt one other a) w) = bb at x3 x4
  have x5 : exec ⟨call Ds wf (k + 10), wf⟩ (nth (t14 F) 5) [a0, some (.r n), some (.d (encAL (allA one other))), some (.d (fnd one other)), some (.d (.int (i : Nat))), some (.d (encT one)), some (.d (encT other)), some (.d (.int (r : Nat))), some (.d (nT w)), some (.d (.bool bb)), a10, a11, a12, a13, a14, some (.d (encA a)), some (.d (nT (cnt one other a))), a17, a18] h2 = .nx [a0, some (.r n), some (.d (encAL (allA one other))), some (.d (fnd one other)), some (.d (.int (i : Nat))), some (.d (encT one)), some (.d (encT other)), some (.d (.int (r : Nat))), some (.d (nT w)), some (.d (.bool bb)), some (.r h2.length), a11, a12, a13, a14, some (.d (encA a)), some (.d (nT (cnt one other a))), a17, a18] (h2 ++ [.lst []]) := by
    simp [t14, b14, ir_law_k14, nth, inB]
  -- shares
  have hd2 : Dice h2 n := k2.dice (k1.dice hd)
  obtain ⟨r3, h3', e3, k3', r3l⟩ := roll_nat (wf := wf) (k := k + 8) o.o__law_roll (many := 3) (h := h2 ++ [.lst []]) (hd2.app _) (by decide)
  obtain ⟨h3, rfl, k3⟩ := Dk.split hd2 k3'
  obtain ⟨s4, h4', e4, x11, xs, h4, rfl, rfl, k4, lx4, qx⟩ := k14_shares (wf := wf) (k := k) o t1 t2 (cl := h2.length) (h0 := h3) k3.len (k3.dice hd2) (r3 + 1) (by omega) a0 (some (.d (encAL (allA one other)))) (some (.d (.int (i : Nat)))) (some (.d (encT one))) (some (.d (encT other))) (some (.d (.int (r : Nat)))) (some (.d (nT w))) (some (.d (.bool bb))) a11 a12 a13 a14 (some (.d (encA a))) (some (.d (nT (cnt one other a)))) a17 a18
  have l4 : h4.length = h2.length := by rw [k4.len, k3.len]
  have x6 : exec ⟨call Ds wf (k + 10), wf⟩ (nth (t14 F) 6) [a0, some (.r n), some (.d (encAL (allA one other))), some (.d (fnd one other)), some (.d (.int (i : Nat))), some (.d (encT one)), some (.d (encT other)), some (.d (.int (r : Nat))), some (.d (nT w)), some (.d (.bool bb)), some (.r h2.length), a11, a12, a13, a14, some (.d (encA a)), some (.d (nT (cnt one other a))), a17, a18] (h2 ++ [.lst []]) = .nx [a0, some (.r n), some (.d (encAL (allA one other))), some (.d (fnd one other)), some (.d (.int (i : Nat))), some (.d (encT one)), some (.d (encT other)), some (.d (.int (r : Nat))), some (.d (nT w)), some (.d (.bool bb)), some (.r h2.length), x11, a12, a13, a14, some (.d (encA a)), some (.d (nT (cnt one other a))), a17, a18] (h4 ++ [.lst (xs.map encS)]) := by
    have e6 : nth (t14 F) 6 = .for_ (.nm 11) (.rng (.bin .add (.con (.int 1)) (.call F.f__law_roll (.cons (.var 1) (.cons (.con (.int 3)) .nil))))) (inB (nth (t14 F) 6)) := rfl
    have e3' : call Ds wf (k + 10) F.f__law_roll [.r n, .d (.int 3)] (h2 ++ [.lst []]) = .ok (.d (.int (r3 : Nat))) (h3 ++ [.lst []]) := e3
    have c1 : (1 : Int) + (r3 : Int) = ((r3 + 1 : Nat) : Int) := by omega
    have rg3 := fun h => rngV_n (h := h) (r3 + 1) (by omega)
    rw [e6]
    simp only [ex_for, evi_rng, ev_bin, ev_con, bnd_ok, ev_call, evs_cons, evs_nil, ev_var, List.getElem?_cons_succ, List.getElem?_cons_zero, e3', op2_d, binD_add, addD_i, c1, Option.map_some, opt_some, rg3, rb_ok]
    exact e4
  have so : ShOk xs := ⟨by omega, fun x hx => by
    obtain ⟨q1, q2, q3⟩ := qx x hx
    exact ⟨len_allC q1, by omega⟩⟩
  have sm := fun h => support_mix (wf := wf) (k := k) (h := h) o.o_is_support t1 t2 ha so (by intro e; rw [e] at lx4; simp at lx4) (fun x hx => ⟨(qx x hx).2.1, (qx x hx).1⟩)
  have lb := law_better_ok (wf := wf) (k := k + 9) (h := h4 ++ [.lst (xs.map encS)]) o.o__law_better (own := cnt one other a) rfl so (n := h2.length) (by rw [hep_at l4]; rfl)
  rw [hep_set l4] at lb
  have eb2 := eqD_bb (betB (cnt one other a) xs)
  have x7 : exec ⟨call Ds wf (k + 10), wf⟩ (nth (t14 F) 7) [a0, some (.r n), some (.d (encAL (allA one other))), some (.d (fnd one other)), some (.d (.int (i : Nat))), some (.d (encT one)), some (.d (encT other)), some (.d (.int (r : Nat))), some (.d (nT w)), some (.d (.bool bb)), some (.r h2.length), x11, a12, a13, a14, some (.d (encA a)), some (.d (nT (cnt one other a))), a17, a18] (h4 ++ [.lst (xs.map encS)]) = .nx [a0, some (.r n), some (.d (encAL (allA one other))), some (.d (fnd one other)), some (.d (.int (i : Nat))), some (.d (encT one)), some (.d (encT other)), some (.d (.int (r : Nat))), some (.d (nT w)), some (.d (.bool bb)), some (.r h2.length), x11, a12, a13, a14, some (.d (encA a)), some (.d (nT (cnt one other a))), a17, a18] (h4 ++ [.fz (xs.map encS)]) := by
    have z2 : szOk 2 = true := by rfl
    generalize betB (cnt one other a) xs = b2 at sm lb eb2
    simp [t14, b14, ir_law_k14, nth, inB, z2, peek, hep_at l4, sm, lb, eb2]
  have x8 : exec ⟨call Ds wf (k + 10), wf⟩ (nth (t14 F) 8) [a0, some (.r n), some (.d (encAL (allA one other))), some (.d (fnd one other)), some (.d (.int (i : Nat))), some (.d (encT one)), some (.d (encT other)), some (.d (.int (r : Nat))), some (.d (nT w)), some (.d (.bool bb)), some (.r h2.length), x11, a12, a13, a14, some (.d (encA a)), some (.d (nT (cnt one other a))), a17, a18] (h4 ++ [.fz (xs.map encS)]) = .nx [a0, some (.r n), some (.d (encAL (allA one other))), some (.d (fnd one other)), some (.d (.int (i : Nat))), some (.d (encT one)), some (.d (encT other)), some (.d (.int (r : Nat))), some (.d (nT w)), some (.d (.bool bb)), some (.r h2.length), x11, some (.d (nT ((cnt one other a).map (· + 1)))), a13, a14, some (.d (encA a)), some (.d (nT (cnt one other a))), a17, a18] (h4 ++ [.fz (xs.map encS)]) := by
    have lc5 : (cnt one other a).length = 5 := rfl
    simp [t14, b14, ir_law_k14, nth, inB, lc5, z5]
  have x9 := k14_cases (Ds := Ds) (wf := wf) (k := k + 10) (h := h4 ++ [.fz (xs.map encS)]) (F := F) (.seq (nth (t14 F) 15) .skip) (cnt one other a) w a0 (some (.r n)) (some (.d (encAL (allA one other)))) (some (.d (fnd one other))) (some (.d (.int (i : Nat)))) (some (.d (encT one))) (some (.d (encT other))) (some (.d (.int (r : Nat)))) (some (.d (.bool bb))) (some (.r h2.length)) x11 (some (.d (nT ((cnt one other a).map (· + 1))))) a13 a14 (some (.d (encA a))) a17 a18
  obtain ⟨x14, x15⟩ := k14_tries (Ds := Ds) (wf := wf) (k := k) (h := h4 ++ [.fz (xs.map encS)]) (F := F) o t1 t2 ha hw a0 (some (.r n)) (some (.d (encAL (allA one other)))) (some (.d (fnd one other))) (some (.d (.int (i : Nat)))) (some (.d (.int (r : Nat)))) (some (.d (.bool bb))) (some (.r h2.length)) x11 a14 a17 a18
  have et : t14 F = .seq (nth (t14 F) 0) (.seq (nth (t14 F) 1) (.seq (nth (t14 F) 2) (.seq (nth (t14 F) 3) (.seq (nth (t14 F) 4) (.seq (nth (t14 F) 5) (.seq (nth (t14 F) 6) (.seq (nth (t14 F) 7) (.seq (nth (t14 F) 8) (.seq (nth (t14 F) 9) (.seq (nth (t14 F) 10) (.seq (nth (t14 F) 11) (.seq (nth (t14 F) 12) (.seq (nth (t14 F) 13) (.seq (nth (t14 F) 14) (.seq (nth (t14 F) 15) .skip))))))))))))))) := rfl
  have xe := et
  generalize nth (t14 F) 0 = q0 at x0 xe
  generalize nth (t14 F) 1 = q1 at x1 xe
  generalize nth (t14 F) 2 = q2 at x2 xe
  generalize nth (t14 F) 3 = q3 at x3 xe
  generalize nth (t14 F) 4 = q4 at x4 xe
  generalize nth (t14 F) 5 = q5 at x5 xe
  generalize nth (t14 F) 6 = q6 at x6 xe
  generalize nth (t14 F) 7 = q7 at x7 xe
  generalize nth (t14 F) 8 = q8 at x8 xe
  rw [ex_seq (nth (t14 F) 15) .skip, x15, sb_nx, ex_skip] at x9
  generalize (S.seq (nth (t14 F) 9) _) = q9 at x9 xe
  refine ⟨some (.d (.int (r : Nat))), some (.d (nT w)), some (.d (.bool bb)), some (.r h2.length), x11, some (.d (nT ((cnt one other a).map (· + 1)))), some (.d (.list (bads (cnt one other a) w))), x14, some (.d (encA a)), some (.d (nT (cnt one other a))), a17, a18, h4, [.fz (xs.map encS)], ?_, (((k1.trans k2).trans k3).trans k4)⟩
  rw [xe]
  simp only [ex_seq, x0, x1, x2, x3, x4, x5, x6, x7, x8, sb_nx]
  exact x9

theorem k14_turns (o : Ok_law_k14 Ds F) (t1 : TOk one) (t2 : TOk other) {n : Nat} (hd : Dice h n) (a0 a4 a7 a8 a9 a10 a11 a12 a13 a14 a15 a16 a17 a18 : Option Vl) :
    ∃ (s' : Env) (h1 t : Hep), exec ⟨call Ds wf (k + 10), wf⟩ (nth (b14 F) 3) [a0, some (.r n), some (.d (encAL (allA one other))), some (.d (fnd one other)), a4, some (.d (encT one)), some (.d (encT other)), a7, a8, a9, a10, a11, a12, a13, a14, a15, a16, a17, a18] h = .nx s' (h1 ++ t) ∧ Dk n h h1 ∧ s'.length = 19 := by
  obtain ⟨s', h', e, x4, x7, x8, x9, x10, x11, x12, x13, x14, x15, x16, x17, x18, h1, t, rfl, rfl, k1⟩ := forL_inv (α := Nat) (tg := .nm 4) (body := exec ⟨call Ds wf (k + 10), wf⟩ (t14 F))
    (fun pre s hh => ∃ (x4 x7 x8 x9 x10 x11 x12 x13 x14 x15 x16 x17 x18 : Option Vl) (h1 t : Hep), s = [a0, some (.r n), some (.d (encAL (allA one other))), some (.d (fnd one other)), x4, some (.d (encT one)), some (.d (encT other)), x7, x8, x9, x10, x11, x12, x13, x14, x15, x16, x17, x18] ∧ hh = h1 ++ t ∧ Dk n h h1) (fun i : Nat => PyData.int (i : Int)) (l := List.range 5)
    (s := [a0, some (.r n), some (.d (encAL (allA one other))), some (.d (fnd one other)), a4, some (.d (encT one)), some (.d (encT other)), a7, a8, a9, a10, a11, a12, a13, a14, a15, a16, a17, a18]) (h := h) ⟨a4, a7, a8, a9, a10, a11, a12, a13, a14, a15, a16, a17, a18, h, [], rfl, by simp, hd.refl⟩ (by
      rintro pre i post s hh el ⟨x4, x7, x8, x9, x10, x11, x12, x13, x14, x15, x16, x17, x18, h1, t, rfl, rfl, k1⟩
      obtain ⟨y7, y8, y9, y10, y11, y12, y13, y14, y15, y16, y17, y18, h2, t2', e2, k2⟩ := k14_turn (wf := wf) (k := k) (h := h1 ++ t) o t1 t2 ((k1.dice hd).app _) i a0 x7 x8 x9 x10 x11 x12 x13 x14 x15 x16 x17 x18
      obtain ⟨h3, rfl, k3⟩ := Dk.split (k1.dice hd) k2
      exact ⟨_, _, _, rfl, e2, _, y7, y8, y9, y10, y11, y12, y13, y14, y15, y16, y17, y18, h3, t ++ t2', rfl, by simp, k1.trans k3⟩)
  refine ⟨[a0, some (.r n), some (.d (encAL (allA one other))), some (.d (fnd one other)), x4, some (.d (encT one)), some (.d (encT other)), x7, x8, x9, x10, x11, x12, x13, x14, x15, x16, x17, x18], h1, t, ?_, k1, rfl⟩
  have rg : ∀ h, rngV (.d (.int 5)) h = _ := fun h => rngV_n (h := h) 5 (by decide)
  have e3 : nth (b14 F) 3 = .for_ (.nm 4) (.rng (.con (.int 5))) (t14 F) := rfl
  rw [e3]
  simp only [ex_for, evi_rng, ev_con, bnd_ok, rg, rb_ok]
  exact e
theorem k14_step (o : Ok_law_k14 Ds F) (hwf : 4 < wf) : ∀ s h n, s.length = 19 → Dice h n → s[1]? = some (some (.r n)) → ∃ s' h1 t, exec ⟨call Ds wf (k + 10), wf⟩ (inB (nth (ir_law_k14 F).body 0)) s h = .nx s' (h1 ++ t) ∧ s'.length = 19 ∧ Dk n h h1 := by
  intro s h n hs hd hn
  obtain ⟨a0, a1, a2, a3, a4, a5, a6, a7, a8, a9, a10, a11, a12, a13, a14, a15, a16, a17, a18, rfl⟩ : ∃ a0 a1 a2 a3 a4 a5 a6 a7 a8 a9 a10 a11 a12 a13 a14 a15 a16 a17 a18 : Option Vl, s = [a0, a1, a2, a3, a4, a5, a6, a7, a8, a9, a10, a11, a12, a13, a14, a15, a16, a17, a18] := by
    match s, hs with
    | [a0, a1, a2, a3, a4, a5, a6, a7, a8, a9, a10, a11, a12, a13, a14, a15, a16, a17, a18], _ => exact ⟨a0, a1, a2, a3, a4, a5, a6, a7, a8, a9, a10, a11, a12, a13, a14, a15, a16, a17, a18, rfl⟩
  have ea : a1 = some (.r n) := by simpa using hn
  subst ea
  obtain ⟨one, other, h1, e1, k1, t1, t2, w1, r1, w2, r2⟩ := any_two_ok (wf := wf) (k := k + 4) o.o__law_any_two (wide := 3) (tall := 2) hd (by decide) (by decide) (by decide) hwf
  have e1' : call Ds wf (k + 10) F.f__law_any_two [.r n, .d (.int 3), .d (.int 2)] h = .ok (.d (encTT one other)) h1 := e1
  have nl := len_allA t1 t2
  have z := sOk (show (allA one other).length ≤ 16777216 by omega)
  have la := fun h => law_alignments_ok (wf := wf) (k := k + 8) (h := h) o.o__law_alignments t1 t2
  have lc : ∀ c ∈ allA one other, ∀ h, call Ds wf (k + 10) F.f__law_counts [.d (encT one), .d (encT other), .d (encA c)] h = .ok (.d (nT (cnt one other c))) h := fun c hc h => law_counts_ok (wf := wf) (k := k + 7) (h := h) o.o__law_counts t1 t2 (mem_allA.mp hc)
  obtain ⟨s', h2, t, e3, k3, l3⟩ := k14_turns (wf := wf) (k := k) (h := h1) o t1 t2 (k1.dice hd) a0 a4 a7 a8 a9 a10 a11 a12 a13 a14 a15 a16 a17 a18
  refine ⟨s', h2, t, ?_, l3, k1.trans k3⟩
  have eb : inB (nth (ir_law_k14 F).body 0) = .seq (nth (b14 F) 0) (.seq (nth (b14 F) 1) (.seq (nth (b14 F) 2) (.seq (nth (b14 F) 3) .skip))) := rfl
  have x0 : exec ⟨call Ds wf (k + 10), wf⟩ (nth (b14 F) 0) [a0, some (.r n), a2, a3, a4, a5, a6, a7, a8, a9, a10, a11, a12, a13, a14, a15, a16, a17, a18] h = .nx [a0, some (.r n), a2, a3, a4, some (.d (encT one)), some (.d (encT other)), a7, a8, a9, a10, a11, a12, a13, a14, a15, a16, a17, a18] h1 := by
    simp [b14, ir_law_k14, nth, inB, e1', encTT]
  have x1 : exec ⟨call Ds wf (k + 10), wf⟩ (nth (b14 F) 1) [a0, some (.r n), a2, a3, a4, some (.d (encT one)), some (.d (encT other)), a7, a8, a9, a10, a11, a12, a13, a14, a15, a16, a17, a18] h1 = .nx [a0, some (.r n), some (.d (encAL (allA one other))), a3, a4, some (.d (encT one)), some (.d (encT other)), a7, a8, a9, a10, a11, a12, a13, a14, a15, a16, a17, a18] h1 := by
    simp [b14, ir_law_k14, nth, inB, la]
  have x2 : exec ⟨call Ds wf (k + 10), wf⟩ (nth (b14 F) 2) [a0, some (.r n), some (.d (encAL (allA one other))), a3, a4, some (.d (encT one)), some (.d (encT other)), a7, a8, a9, a10, a11, a12, a13, a14, a15, a16, a17, a18] h1 = .nx [a0, some (.r n), some (.d (encAL (allA one other))), some (.d (fnd one other)), a4, some (.d (encT one)), some (.d (encT other)), a7, a8, a9, a10, a11, a12, a13, a14, a15, a16, a17, a18] h1 := by
    simp [b14, ir_law_k14, nth, inB, encAL, fnd, z]
    rw [compG_at (g := fun a => nT (cnt one other a)) (fun a ha => by rw [lc a ha]; rfl)]
    simp
  rw [eb]
  simp only [ex_seq, x0, x1, x2, e3, sb_nx, ex_skip]
theorem k14_main (o : Ok_law_k14 Ds F) (hwf : 4 < wf) (ns : List Int) (hl : ns.length ≤ 63) : ∃ h', call Ds wf (k + 11) F.f_law [.r 0] [.ro (ns.map PyData.int)] = .ok (.d (.bool true)) h' := by
  rw [call_ir o.e rfl]
  obtain ⟨s', h', e⟩ := law_loop (wf := wf) (k := k + 8) o.o__law_rounds (i := 1) (N := 19) (most := 3) (b := inB (nth (ir_law_k14 F).body 0)) hl (by decide) (k14_step o hwf) (some (.r 0) :: List.replicate 18 none) rfl rfl
  refine ⟨h'.take 1, ?_⟩
  have e' : exec ⟨call Ds wf (k + 10), wf⟩ (nth (ir_law_k14 F).body 0) (some (.r 0) :: List.replicate 18 none) [.ro (ns.map PyData.int)] = .nx s' h' := e
  have eb : (ir_law_k14 F).body = .seq (nth (ir_law_k14 F).body 0) (.seq (.ret (.con (.bool true))) .skip) := rfl
  rw [eb, ex_seq]
  have es : List.map some [Vl.r 0] ++ List.replicate ((ir_law_k14 F).ns - (ir_law_k14 F).ps) none = some (.r 0) :: List.replicate 18 none := rfl
  rw [es, e']
  simp
end
end Z

set_option linter.all false
set_option maxRecDepth 100000
set_option maxHeartbeats 0
namespace HD
open PySem
def top (i : Nat) : Stmt := PySem.Challenge.pw_tablediffs_k14_whole_support_judge.main.body.getD i (.Pass ⟨0, 0, 0, 0⟩)
end HD
namespace HD
open PySem
def fns_0 : List Str := ["is_whole", "is_string", "is_name", "is_value", "is_row", "is_table", "need_table", "from_place", "all_pairings", "is_pair", "is_pairing", "longest_run", "moves_in", "fits", "need_two", "need_alignment", "misses_of", "unpaired", "counts_of", "cost_of", "rows_with", "all_counts", "beats", "front_of", "is_least", "is_positive", "is_share", "is_mixture", "is_support", "_law_cell"]
def fns_1 : List Str := ["_law_drawn", "_law_roll", "_law_rounds", "_law_any_value", "_law_any_row", "_law_any_names", "_law_any_table", "_law_shuffled", "_law_near", "_law_any_two", "_law_run", "_law_moves", "_law_counts", "_law_pairings", "_law_alignments", "_law_cost", "_law_better", "law"]
def tab : Z.Tab := ⟨["ValueError", "all", "any", "bool", "enumerate", "int", "isinstance", "len", "list", "max", "min", "range", "set", "sorted", "str", "sum", "tuple"], fns_0 ++ fns_1, ["InvalidTable", "InvalidAlignment"], [("SMALL", .str "abcdefghijklmnopqrstuvwxyz")], []⟩
def s_is_whole : Z.Src := ⟨top 6, ["value", "low", "high"], ["value", "low", "high"], []⟩
def s_is_string : Z.Src := ⟨top 7, ["value", "high", "signs", "sign"], ["value", "high", "signs"], []⟩
def s_is_name : Z.Src := ⟨top 8, ["value"], ["value"], []⟩
def s_is_value : Z.Src := ⟨top 9, ["value"], ["value"], []⟩
def s_is_row : Z.Src := ⟨top 10, ["value", "width", "one"], ["value", "width"], []⟩
def s_is_table : Z.Src := ⟨top 11, ["value", "names", "rows", "row", "name"], ["value"], []⟩
def s_need_table : Z.Src := ⟨top 12, ["table"], ["table"], []⟩
def s_from_place : Z.Src := ⟨top 14, ["i", "m", "others", "later", "found", "j", "rest", "one", "pairing"], ["i", "m", "others"], []⟩
def s_all_pairings : Z.Src := ⟨top 15, ["m", "n"], ["m", "n"], []⟩
def s_is_pair : Z.Src := ⟨top 16, ["value", "m", "n"], ["value", "m", "n"], []⟩
def s_is_pairing : Z.Src := ⟨top 17, ["value", "m", "n", "ends", "rising", "pair", "place"], ["value", "m", "n"], []⟩
def s_longest_run : Z.Src := ⟨top 18, ["ends", "runs", "longest", "run", "place", "end", "best", "other"], ["ends"], [1]⟩
def s_moves_in : Z.Src := ⟨top 19, ["pairing", "pair"], ["pairing"], []⟩
def s_fits : Z.Src := ⟨top 21, ["one", "other", "value"], ["one", "other", "value"], []⟩
def s_need_two : Z.Src := ⟨top 22, ["one", "other"], ["one", "other"], []⟩
def s_need_alignment : Z.Src := ⟨top 23, ["one", "other", "alignment"], ["one", "other", "alignment"], []⟩
def s_misses_of : Z.Src := ⟨top 24, ["one", "other", "columns", "found", "row", "twin", "i", "j"], ["one", "other", "columns"], [3]⟩
def s_unpaired : Z.Src := ⟨top 25, ["m", "n", "pairing"], ["m", "n", "pairing"], []⟩
def s_counts_of : Z.Src := ⟨top 26, ["one", "other", "alignment", "misses", "cells", "names", "lost", "gone", "columns", "rows", "i", "j"], ["one", "other", "alignment"], []⟩
def s_cost_of : Z.Src := ⟨top 27, ["some", "weights", "place", "count"], ["some", "weights"], []⟩
def s_rows_with : Z.Src := ⟨top 28, ["one", "other", "m", "n", "rows"], ["one", "other"], []⟩
def s_all_counts : Z.Src := ⟨top 30, ["one", "other", "found", "some_rows", "columns", "names", "lost", "misses", "moved", "rows", "gone", "moves", "cells", "i", "j"], ["one", "other"], [2, 1002]⟩
def s_beats : Z.Src := ⟨top 31, ["some", "others", "place", "count"], ["some", "others"], []⟩
def s_front_of : Z.Src := ⟨top 32, ["one", "other", "kept", "some", "earlier"], ["one", "other"], [2, 2002]⟩
def s_is_least : Z.Src := ⟨top 33, ["own", "others", "weights", "least", "some"], ["own", "others", "weights"], []⟩
def s_is_positive : Z.Src := ⟨top 34, ["value"], ["value"], []⟩
def s_is_share : Z.Src := ⟨top 35, ["value", "others", "some", "count"], ["value", "others"], []⟩
def s_is_mixture : Z.Src := ⟨top 36, ["own", "others", "shares", "whole", "gaps", "place", "some", "share"], ["own", "others", "shares"], []⟩
def s_is_support : Z.Src := ⟨top 37, ["one", "other", "alignment", "value", "own", "weights"], ["one", "other", "alignment", "value"], []⟩
def s__law_cell : Z.Src := ⟨top 39, ["script", "k"], ["script", "k"], []⟩
def s__law_drawn : Z.Src := ⟨top 40, ["cell", "k", "more"], ["cell", "k"], []⟩
def s__law_roll : Z.Src := ⟨top 41, ["dice", "many", "told"], ["dice", "many"], [0]⟩
def s__law_rounds : Z.Src := ⟨top 42, ["script", "most", "k"], ["script", "most"], []⟩
def s__law_any_value : Z.Src := ⟨top 43, ["dice", "act"], ["dice"], []⟩
def s__law_any_row : Z.Src := ⟨top 44, ["dice", "width", "place"], ["dice", "width"], []⟩
def s__law_any_names : Z.Src := ⟨top 45, ["dice", "width", "place", "left", "names", "name", "one"], ["dice", "width"], [4]⟩
def s__law_any_table : Z.Src := ⟨top 46, ["dice", "wide", "tall", "width", "row"], ["dice", "wide", "tall"], []⟩
def s__law_shuffled : Z.Src := ⟨top 47, ["dice", "many", "left", "found", "number", "one"], ["dice", "many"], [3]⟩
def s__law_near : Z.Src := ⟨top 48, ["dice", "table", "names", "rows", "columns", "order", "column", "row"], ["dice", "table"], [2, 3]⟩
def s__law_any_two : Z.Src := ⟨top 49, ["dice", "wide", "tall", "one"], ["dice", "wide", "tall"], []⟩
def s__law_run : Z.Src := ⟨top 50, ["ends", "long", "place", "end", "other"], ["ends"], [1]⟩
def s__law_moves : Z.Src := ⟨top 51, ["pairing", "pair"], ["pairing"], []⟩
def s__law_counts : Z.Src := ⟨top 52, ["one", "other", "alignment", "cells", "names", "lost", "gone", "columns", "rows", "row", "twin", "column", "mate", "i", "j"], ["one", "other", "alignment"], []⟩
def s__law_pairings : Z.Src := ⟨top 53, ["m", "n", "found", "i", "longer", "some", "used", "pair", "j"], ["m", "n"], []⟩
def s__law_alignments : Z.Src := ⟨top 54, ["one", "other", "found", "columns", "rows"], ["one", "other"], []⟩
def s__law_cost : Z.Src := ⟨top 55, ["some", "weights", "place", "count"], ["some", "weights"], []⟩
def s__law_better : Z.Src := ⟨top 56, ["own", "some", "place", "whole", "gaps", "twin", "share"], ["own", "some"], [4]⟩
def s_law : Z.Src := ⟨top 57, ["script", "dice", "rows", "found", "turn", "one", "other", "at", "weights", "due", "shares", "twin", "far", "cases", "bad", "some", "own", "place", "count"], ["script"], [10]⟩
def srcs_0 : List Z.Src := [s_is_whole, s_is_string, s_is_name, s_is_value, s_is_row, s_is_table, s_need_table, s_from_place, s_all_pairings, s_is_pair, s_is_pairing, s_longest_run, s_moves_in, s_fits, s_need_two, s_need_alignment, s_misses_of, s_unpaired, s_counts_of, s_cost_of, s_rows_with, s_all_counts, s_beats, s_front_of, s_is_least, s_is_positive, s_is_share, s_is_mixture, s_is_support, s__law_cell]
def srcs_1 : List Z.Src := [s__law_drawn, s__law_roll, s__law_rounds, s__law_any_value, s__law_any_row, s__law_any_names, s__law_any_table, s__law_shuffled, s__law_near, s__law_any_two, s__law_run, s__law_moves, s__law_counts, s__law_pairings, s__law_alignments, s__law_cost, s__law_better, s_law]
def srcs : List Z.Src := srcs_0 ++ srcs_1
abbrev f_is_whole : Nat := 0
abbrev f_is_string : Nat := 1
abbrev f_is_name : Nat := 2
abbrev f_is_value : Nat := 3
abbrev f_is_row : Nat := 4
abbrev f_is_table : Nat := 5
abbrev f_need_table : Nat := 6
abbrev f_from_place : Nat := 7
abbrev f_all_pairings : Nat := 8
abbrev f_is_pair : Nat := 9
abbrev f_is_pairing : Nat := 10
abbrev f_longest_run : Nat := 11
abbrev f_moves_in : Nat := 12
abbrev f_fits : Nat := 13
abbrev f_need_two : Nat := 14
abbrev f_need_alignment : Nat := 15
abbrev f_misses_of : Nat := 16
abbrev f_unpaired : Nat := 17
abbrev f_counts_of : Nat := 18
abbrev f_cost_of : Nat := 19
abbrev f_rows_with : Nat := 20
abbrev f_all_counts : Nat := 21
abbrev f_beats : Nat := 22
abbrev f_front_of : Nat := 23
abbrev f_is_least : Nat := 24
abbrev f_is_positive : Nat := 25
abbrev f_is_share : Nat := 26
abbrev f_is_mixture : Nat := 27
abbrev f_is_support : Nat := 28
abbrev f__law_cell : Nat := 29
abbrev f__law_drawn : Nat := 30
abbrev f__law_roll : Nat := 31
abbrev f__law_rounds : Nat := 32
abbrev f__law_any_value : Nat := 33
abbrev f__law_any_row : Nat := 34
abbrev f__law_any_names : Nat := 35
abbrev f__law_any_table : Nat := 36
abbrev f__law_shuffled : Nat := 37
abbrev f__law_near : Nat := 38
abbrev f__law_any_two : Nat := 39
abbrev f__law_run : Nat := 40
abbrev f__law_moves : Nat := 41
abbrev f__law_counts : Nat := 42
abbrev f__law_pairings : Nat := 43
abbrev f__law_alignments : Nat := 44
abbrev f__law_cost : Nat := 45
abbrev f__law_better : Nat := 46
abbrev f_law : Nat := 47
end HD
namespace HD
def F : Z.Fs := {
  f__law_alignments := 44,
  f__law_any_names := 35,
  f__law_any_row := 34,
  f__law_any_table := 36,
  f__law_any_two := 39,
  f__law_any_value := 33,
  f__law_better := 46,
  f__law_cell := 29,
  f__law_cost := 45,
  f__law_counts := 42,
  f__law_drawn := 30,
  f__law_moves := 41,
  f__law_near := 38,
  f__law_pairings := 43,
  f__law_roll := 31,
  f__law_rounds := 32,
  f__law_run := 40,
  f__law_shuffled := 37,
  f_all_counts := 21,
  f_all_pairings := 8,
  f_beats := 22,
  f_cost_of := 19,
  f_counts_of := 18,
  f_fits := 13,
  f_from_place := 7,
  f_front_of := 23,
  f_is_least := 24,
  f_is_mixture := 27,
  f_is_name := 2,
  f_is_pair := 9,
  f_is_pairing := 10,
  f_is_positive := 25,
  f_is_row := 4,
  f_is_share := 26,
  f_is_string := 1,
  f_is_support := 28,
  f_is_table := 5,
  f_is_value := 3,
  f_is_whole := 0,
  f_longest_run := 11,
  f_misses_of := 16,
  f_moves_in := 12,
  f_need_alignment := 15,
  f_need_table := 6,
  f_need_two := 14,
  f_rows_with := 20,
  f_unpaired := 17,
  f_law := 47,
  xInvalidAlignment := 1,
  xInvalidTable := 0 }
abbrev Ds : List Z.Dfn := srcs.map (Z.dfnOf tab)
theorem q__law_cell : Z.Ok__law_cell Ds F := ⟨by kernel_rfl⟩
theorem q__law_rounds : Z.Ok__law_rounds Ds F := ⟨by kernel_rfl, q__law_cell⟩
theorem q__law_drawn : Z.Ok__law_drawn Ds F := ⟨by kernel_rfl⟩
theorem q__law_roll : Z.Ok__law_roll Ds F := ⟨by kernel_rfl, q__law_drawn⟩
theorem q__law_any_names : Z.Ok__law_any_names Ds F := ⟨by kernel_rfl, q__law_roll⟩
theorem q__law_any_value : Z.Ok__law_any_value Ds F := ⟨by kernel_rfl, q__law_roll⟩
theorem q__law_any_row : Z.Ok__law_any_row Ds F := ⟨by kernel_rfl, q__law_any_value⟩
theorem q__law_any_table : Z.Ok__law_any_table Ds F := ⟨by kernel_rfl, q__law_roll, q__law_any_names, q__law_any_row⟩
theorem q__law_shuffled : Z.Ok__law_shuffled Ds F := ⟨by kernel_rfl, q__law_roll⟩
theorem q__law_near : Z.Ok__law_near Ds F := ⟨by kernel_rfl, q__law_shuffled, q__law_roll, q__law_any_value⟩
theorem q__law_any_two : Z.Ok__law_any_two Ds F := ⟨by kernel_rfl, q__law_any_table, q__law_roll, q__law_near⟩
theorem q__law_pairings : Z.Ok__law_pairings Ds F := ⟨by kernel_rfl⟩
theorem q__law_alignments : Z.Ok__law_alignments Ds F := ⟨by kernel_rfl, q__law_pairings⟩
theorem q__law_run : Z.Ok__law_run Ds F := ⟨by kernel_rfl⟩
theorem q__law_moves : Z.Ok__law_moves Ds F := ⟨by kernel_rfl, q__law_run⟩
theorem q__law_counts : Z.Ok__law_counts Ds F := ⟨by kernel_rfl, q__law_moves⟩
theorem q__law_cost : Z.Ok__law_cost Ds F := ⟨by kernel_rfl⟩
theorem q_is_string : Z.Ok_is_string Ds F := ⟨by kernel_rfl⟩
theorem q_is_name : Z.Ok_is_name Ds F := ⟨by kernel_rfl, q_is_string⟩
theorem q_is_whole : Z.Ok_is_whole Ds F := ⟨by kernel_rfl⟩
theorem q_is_value : Z.Ok_is_value Ds F := ⟨by kernel_rfl, q_is_whole, q_is_string⟩
theorem q_is_row : Z.Ok_is_row Ds F := ⟨by kernel_rfl, q_is_value⟩
theorem q_is_table : Z.Ok_is_table Ds F := ⟨by kernel_rfl, q_is_name, q_is_row⟩
theorem q_need_table : Z.Ok_need_table Ds F := ⟨by kernel_rfl, q_is_table⟩
theorem q_need_two : Z.Ok_need_two Ds F := ⟨by kernel_rfl, q_need_table⟩
theorem q_is_pair : Z.Ok_is_pair Ds F := ⟨by kernel_rfl, q_is_whole⟩
theorem q_is_pairing : Z.Ok_is_pairing Ds F := ⟨by kernel_rfl, q_is_pair⟩
theorem q_fits : Z.Ok_fits Ds F := ⟨by kernel_rfl, q_is_pairing⟩
theorem q_need_alignment : Z.Ok_need_alignment Ds F := ⟨by kernel_rfl, q_need_two, q_fits⟩
theorem q_misses_of : Z.Ok_misses_of Ds F := ⟨by kernel_rfl⟩
theorem q_unpaired : Z.Ok_unpaired Ds F := ⟨by kernel_rfl⟩
theorem q_longest_run : Z.Ok_longest_run Ds F := ⟨by kernel_rfl⟩
theorem q_moves_in : Z.Ok_moves_in Ds F := ⟨by kernel_rfl, q_longest_run⟩
theorem q_counts_of : Z.Ok_counts_of Ds F := ⟨by kernel_rfl, q_misses_of, q_unpaired, q_moves_in⟩
theorem q_is_positive : Z.Ok_is_positive Ds F := ⟨by kernel_rfl⟩
theorem q_is_share : Z.Ok_is_share Ds F := ⟨by kernel_rfl, q_is_positive⟩
theorem q_is_mixture : Z.Ok_is_mixture Ds F := ⟨by kernel_rfl, q_is_share⟩
theorem q_from_place : Z.Ok_from_place Ds F := ⟨by kernel_rfl⟩
theorem q_all_pairings : Z.Ok_all_pairings Ds F := ⟨by kernel_rfl, q_from_place⟩
theorem q_rows_with : Z.Ok_rows_with Ds F := ⟨by kernel_rfl, q_all_pairings, q_unpaired, q_moves_in⟩
theorem q_all_counts : Z.Ok_all_counts Ds F := ⟨by kernel_rfl, q_rows_with, q_all_pairings, q_counts_of, q_misses_of, q_moves_in⟩
theorem q_cost_of : Z.Ok_cost_of Ds F := ⟨by kernel_rfl⟩
theorem q_is_least : Z.Ok_is_least Ds F := ⟨by kernel_rfl, q_cost_of⟩
theorem q_beats : Z.Ok_beats Ds F := ⟨by kernel_rfl⟩
theorem q_front_of : Z.Ok_front_of Ds F := ⟨by kernel_rfl, q_all_counts, q_beats⟩
theorem q_is_support : Z.Ok_is_support Ds F := ⟨by kernel_rfl, q_need_alignment, q_counts_of, q_is_mixture, q_all_counts, q_is_positive, q_is_least, q_front_of⟩
theorem q__law_better : Z.Ok__law_better Ds F := ⟨by kernel_rfl⟩
theorem q_law_k14 : Z.Ok_law_k14 Ds F := ⟨by kernel_rfl, q__law_rounds, q__law_any_two, q__law_alignments, q__law_counts, q__law_roll, q__law_cost, q_is_support, q__law_better⟩
theorem main : ∀ ns : List Int, ns.length ≤ 63 → (∀ z ∈ ns, PySem.Builtin.Int.intBits z ≤ 1048576) → ∃ h', Z.call (HD.srcs.map (Z.dfnOf HD.tab)) 200 (39 + 1) HD.f_law [.r 0] [.ro (ns.map PySem.PyData.int)] = .ok (.d (.bool true)) h' :=
  fun ns hl hb => Z.k14_main (k := 29) q_law_k14 (by decide) ns hl
end HD
namespace HD
open PySem PySem.Spec PyProof.Rows L2
def loose_0 : List PySem.Str := ["DiffError", "InvalidTable", "InvalidAlignment", "SMALL", "is_whole", "is_string", "is_name", "is_value", "is_row", "is_table", "need_table", "from_place", "all_pairings", "is_pair", "is_pairing", "longest_run", "moves_in", "fits", "need_two", "need_alignment", "misses_of", "unpaired", "counts_of", "cost_of", "rows_with", "all_counts", "beats", "front_of", "is_least", "is_positive"]
def loose_1 : List PySem.Str := ["is_share", "is_mixture", "is_support", "_law_cell", "_law_drawn", "_law_roll", "_law_rounds", "_law_any_value", "_law_any_row", "_law_any_names", "_law_any_table", "_law_shuffled", "_law_near", "_law_any_two", "_law_run", "_law_moves", "_law_counts", "_law_pairings", "_law_alignments", "_law_cost", "_law_better"]
def loose : List PySem.Str := loose_0 ++ loose_1
abbrev R : PySem.W.OpenRow := PySem.W.OpenLaw.row PySem.Challenge.rw_tablediffs_k14_whole_support_judge
abbrev hk : PySem.W.Hook := He.hookX 5 (Z.faOf tab) (Z.fnOf tab srcs) [] [] (Z.exOf tab)
def ob (s : PySem.W.SharedT) : He.AlX := He.obsX 5 (Z.faOf tab) (Z.fnOf tab srcs) [] [] (Z.exOf tab) (HandSHeadRun.getT s)
theorem ob_eq (s : PySem.W.SharedT) : ob s = hk.obs s.abs := He.obsX_eq (HandSHeadRun.getT_eq s)
theorem run (w : World) : HandSHeadRun.RunEq R (PySem.W.view R.prog [57]) hk ob 4000 loose w := by
  intro os
  kernel_rfl
theorem ck : Z.tabB tab srcs = true := by kernel_rfl
end HD
open PySem PySem.W PySem.Calls PyProof.Rows
theorem PySem.Challenge.cw_tablediffs_k14_whole_support_judge_holds : PySem.Challenge.rw_tablediffs_k14_whole_support_judge.Holds := by
  w_on; o_law
  refine HandSHeadRun.head_any (r := OpenLaw.row PySem.Challenge.rw_tablediffs_k14_whole_support_judge) (q := view (OpenLaw.row PySem.Challenge.rw_tablediffs_k14_whole_support_judge).prog [57]) (H := HD.hk) (ob := HD.ob)
    (M := 4000) (loose := HD.loose) (d := HandSHeadRun.topDef (OpenLaw.row PySem.Challenge.rw_tablediffs_k14_whole_support_judge).prog 57) (kwd := []) HD.ob_eq
    (by kernel_rfl) (fun s => by kernel_rfl) HD.run (by kernel_rfl) (by kernel_rfl) (by kernel_rfl) (by rfl) (by decide +kernel)
    (by decide +kernel) ⟨rfl, rfl, rfl, rfl, rfl, by decide +kernel⟩ ?hw ?hc
  case hw => w_witness2
  case hc =>
    refine LamX.walk_ofTsE (l := PySem.Challenge.rw_tablediffs_k14_whole_support_judge) (n := 63) (k := 39 + 1) (x := "script")
      (CX := fun w => L2.CX (PySem.Challenge.rw_tablediffs_k14_whole_support_judge).prog w) rfl (by decide) (by kernel_rfl) ⟨rfl, by decide, by decide⟩ ?F (fun w H s e s' z => ?X)
    case X =>
      obtain ⟨_, _, _, _, _, _, _, _, _, _, _, _, zz⟩ := z
      exact zz
    intro w mg fa h Y G hmg0
    obtain ⟨K, KX, c⟩ := Y
    have hmg : mg ("law" : PySem.Str) = some (.ref fa) := by
      have e : (HandSHeadRun.topDef (OpenLaw.row PySem.Challenge.rw_tablediffs_k14_whole_support_judge).prog 57).name = ("law" : PySem.Str) := by kernel_rfl
      rw [← e]
      exact hmg0
    exact ⟨K, KX, Z.law_at (T := HD.tab) (srcs := HD.srcs) (wf := 200) (f := HD.f_law) (s := HD.s_law) KX G hmg c.t.d c.more HD.ck rfl rfl rfl HD.main⟩
