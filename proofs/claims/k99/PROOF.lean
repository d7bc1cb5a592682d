import PyProof.Rows.All
import Wide.All
import OpenK.AllK
import Wide.FinOn
import HandS.ForMost
import HandS.ExcInit
import HandS.Flow
import HandS.Style
import HandS.Wide
import HandS.IsInst
import HandS.CallSlots
import KE.DataEq
import HandS.Text
import HandS.Dict
import HandS.Star
import HandS.Property
import HandS.ClsMeth
import HandS.Conv
import KE.KExcIs
import HandS.Small
import HandS.Defaults
import HandS.HeadHook1
import HandS.Iter
import HandS.Comp
import HandS.HeadWalk
import HandS.Sort
import HandS.Head0
import HandS.Head1
import HandS.Head2
import HandS.HeadEnd
import HandS.HeadHook2
import HandS.More
import PySem.Challenge.RW_untilrows_k99_errors_made
/-! A small machine for the subset of Python that the program uses: values, cells, code, and a total evaluator. -/
set_option linter.all false
set_option maxRecDepth 100000
namespace Pm
open PySem

abbrev Key := L2.Key

/-- a value of the small machine: data that stands still, or a live cell -/
inductive D where
  | un | non
  | bl (b : Bool) | int (i : Int) | str (x : Str)
  | tup (xs : List D) | lst (xs : List D)
  | dic (ks : List Key) (vs : List D)
  | obj (c : Nat) (fs : List Nat) (vs : List D)
  | ref (n : Nat)
  | cls (c : Nat)
  | scr (ns : List Int)
  | xcp (c : Nat) (fs : List Nat) (vs : List D)
  deriving Inhabited

inductive Cell where
  | lst (xs : List D)
  | dic (ks : List Key) (vs : List D)
  | ins (c : Nat) (fs : List Nat) (vs : List D)
  deriving Inhabited

abbrev Hm := List Cell
abbrev Ev := List D

/-- the outcome of an expression -/
inductive Rs (α : Type) where
  | ok (a : α) (h : Hm)
  | exc (c : Nat) (fs : List Nat) (vs : List D) (h : Hm)
  | bad

def Rs.bind {α β : Type} (r : Rs α) (f : α → Hm → Rs β) : Rs β := match r with
  | .ok a h => f a h
  | .exc c fs vs h => .exc c fs vs h
  | .bad => .bad

/-- the outcome of a statement -/
inductive Out where
  | nx (e : Ev) (h : Hm)
  | rt (d : D) (h : Hm)
  | bk (e : Ev) (h : Hm)
  | ct (e : Ev) (h : Hm)
  | exc (c : Nat) (fs : List Nat) (vs : List D) (e : Ev) (h : Hm)
  | bad

inductive Bop where | add | sub | mul | fdiv | mod | pow
  deriving DecidableEq
inductive Cop where | eq | ne | lt | le | gt | ge | is | isnot | isin | notin
  deriving DecidableEq
/-- built-in functions -/
inductive Blt where | len | abs | int | str | bool | min | max | list | tuple | dict | all | any | sorted | iter
  deriving DecidableEq
/-- methods of built-in types -/
inductive Bm where | append | extend | pop | index | get | setdefault | split | join | count
  deriving DecidableEq

mutual
inductive E where
  | k (d : D)
  | v (i : Nat)
  | neg (a : E)
  | not (a : E)
  | bin (o : Bop) (a b : E)
  | cmp (o : Cop) (a b : E)
  | chn (o p : Cop) (a b c : E)
  | and (a b : E)
  | or (a b : E)
  | ife (c a b : E)
  | tup (es : Es)
  | lst (es : Es)
  | idx (a b : E)
  | sl (a : E) (lo hi : Oe)
  | fld (a : E) (f : Nat)
  | call (f : Nat) (es : Es)
  | mk (c : Nat) (es : Es)
  | mth (o : E) (m : Nat) (es : Es)
  | blt (b : Blt) (es : Es)
  | bm (o : E) (m : Bm) (es : Es)
  | isi (a : E) (cs : List D)
  | inr (a : E) (es : Es)
  | comp (elt : E) (tg : Tg) (it : I) (cond : Oe) (own : List Nat)
inductive Es where
  | nil
  | cons (e : E) (r : Es)
  | star (e : E) (r : Es)
inductive Oe where
  | none
  | some (e : E)
/-- what is walked -/
inductive I where
  | ex (e : E)
  | range (es : Es)
  | enum (e : E) (k : Int)
  | zip (a b : E)
/-- targets -/
inductive Tg where
  | v (i : Nat)
  | tup (is : List Nat)
end

inductive S where
  | set (i : Nat) (e : E)
  | unp (is : List Nat) (e : E)
  | par (is : List Nat) (es : Es)
  | fld (o : E) (f : Nat) (e : E)
  | sub (o i : E) (e : E)
  | aug (i : Nat) (o : Bop) (e : E)
  | augf (a : E) (f : Nat) (o : Bop) (e : E)
  | ex (e : E)
  | ite (c : E) (a b : List S)
  | for (tg : Tg) (it : I) (b : List S)
  | while (c : E) (b : List S)
  | ret (e : E)
  | brk
  | cnt
  | pass
  | raise (c : Nat) (es : Es)

end Pm

set_option linter.all false
set_option maxRecDepth 100000
namespace Pm
open PySem

structure Fn where
  np : Nat
  dfl : List D
  ar : List Nat
  ns : Nat
  body : List S
  keep : Bool

structure Cl where
  init : Option Nat
  keep : Bool
  flds : List Nat
  mths : List (Nat × Nat)
  cons : List (Nat × D)
  props : List (Nat × Nat)
  mro : List Nat
  exf : List Nat
  isx : Bool

structure Pr where
  fns : List Fn
  cls : List Cl

/-! ### data -/
mutual
def noRef : D → Bool
  | .ref _ => false
  | .tup xs => noRefs xs
  | .lst xs => noRefs xs
  | .dic _ vs => noRefs vs
  | .obj _ _ vs => noRefs vs
  | .xcp _ _ vs => noRefs vs
  | _ => true
def noRefs : List D → Bool
  | [] => true
  | x :: r => noRef x && noRefs r
end
mutual
/-- the references, by a map of one's own -/
def mapD (g : Nat → D) : D → D
  | .ref n => g n
  | .tup xs => .tup (mapDs g xs)
  | .lst xs => .lst (mapDs g xs)
  | .dic ks vs => .dic ks (mapDs g vs)
  | .obj c fs vs => .obj c fs (mapDs g vs)
  | .xcp c fs vs => .xcp c fs (mapDs g vs)
  | .un => .un
  | .non => .non
  | .bl b => .bl b
  | .int i => .int i
  | .str x => .str x
  | .cls c => .cls c
  | .scr ns => .scr ns
def mapDs (g : Nat → D) : List D → List D
  | [] => []
  | x :: r => mapD g x :: mapDs g r
end
def mapC (g : Nat → D) : Cell → Cell
  | .lst xs => .lst (mapDs g xs)
  | .dic ks vs => .dic ks (mapDs g vs)
  | .ins c fs vs => .ins c fs (mapDs g vs)
def cellD (g : Nat → D) : Cell → D
  | .lst xs => .lst (mapDs g xs)
  | .dic ks vs => .dic ks (mapDs g vs)
  | .ins c fs vs => .obj c fs (mapDs g vs)
/-- what the cells from n on hold, as data; fuel m -/
def deepN (n : Nat) (h : Hm) : Nat → Nat → D
  | 0, i => if i < n then .ref i else .un
  | m + 1, i => if i < n then .ref i else match h[i]? with
    | some c => cellD (deepN n h m) c
    | none => .un
def deep (n : Nat) (h : Hm) : D → D := mapD (deepN n h (h.length + 1))
/-- the cells below n, behind a call -/
def low (n : Nat) (h : Hm) : Hm := (h.take n).map (mapC (deepN n h (h.length + 1)))
/-- a call's boundary -/
def shut (n : Nat) : Rs D → Rs D
  | .ok d h => .ok (deep n h d) (low n h)
  | .exc c fs vs h => .exc c fs (mapDs (deepN n h (h.length + 1)) vs) (low n h)
  | .bad => .bad

/-- a call on no cell of the caller's -/
def aloneR (h : Hm) : Rs D → Rs D
  | .ok d h1 => .ok (deep 0 h1 d) h
  | .exc c fs vs h1 => .exc c fs (mapDs (deepN 0 h1 (h1.length + 1)) vs) h
  | .bad => .bad

mutual
def toP : D → Option PyData
  | .non => some .none
  | .bl b => some (.bool b)
  | .int i => some (.int i)
  | .str x => some (.str x)
  | .tup xs => (toPs xs).map .tuple
  | .lst xs => (toPs xs).map .list
  | _ => none
def toPs : List D → Option (List PyData)
  | [] => some []
  | x :: r => match toP x, toPs r with
    | some a, some b => some (a :: b)
    | _, _ => none
end

def LIM : Nat := 16777216

/-- a list's items, frozen or live -/
def items? (h : Hm) : D → Option (List D)
  | .lst xs => some xs
  | .ref n => match h[n]? with
    | some (.lst xs) => some xs
    | _ => none
  | _ => none
def seq? (h : Hm) : D → Option (List D)
  | .tup xs => some xs
  | d => items? h d
def dict? (h : Hm) : D → Option (List Key × List D)
  | .dic ks vs => some (ks, vs)
  | .ref n => match h[n]? with
    | some (.dic ks vs) => some (ks, vs)
    | _ => none
  | _ => none
def inst? (h : Hm) : D → Option (Nat × List Nat × List D)
  | .obj c fs vs => some (c, fs, vs)
  | .ref n => match h[n]? with
    | some (.ins c fs vs) => some (c, fs, vs)
    | _ => none
  | _ => none
def look (f : Nat) : List Nat → List D → Option D
  | g :: gs, x :: xs => if g = f then some x else look f gs xs
  | _, _ => none
def putF (f : Nat) (y : D) : List Nat → List D → List Nat × List D
  | g :: gs, x :: xs => if g = f then (g :: gs, y :: xs) else let r := putF f y gs xs; (g :: r.1, x :: r.2)
  | _, _ => ([f], [y])
def key? : D → Option Key
  | .int i => some (.inl i)
  | .str x => some (.inr x)
  | _ => none
def lookK (k : Key) : List Key → List D → Option D
  | g :: gs, x :: xs => if g = k then some x else lookK k gs xs
  | _, _ => none
def putK (k : Key) (y : D) (ks : List Key) (vs : List D) : List Key × List D :=
  if ks.any (fun g => decide (g = k)) then (ks, List.zipWith (fun g x => if g = k then y else x) ks vs) else (ks ++ [k], vs ++ [y])

def truth (h : Hm) : D → Option Bool
  | .non => some false
  | .bl b => some b
  | .int i => some (i != 0)
  | .str x => if x.length ≤ LIM then some ((x.length : Int) != 0) else none
  | d => match seq? h d with
    | some xs => some (!xs.isEmpty)
    | none => match dict? h d with
      | some (ks, _) => some (!ks.isEmpty)
      | none => none

def W64 : Int := 18446744073709551616
def W256 : Int := 115792089237316195423570985008687907853269984665640564039457584007913129639936
def ret {α : Type} (a : α) (h : Hm) : Rs α := .ok a h
def newL (xs : List D) (h : Hm) : Rs D := if xs.length ≤ LIM then .ok (.ref h.length) (h ++ [.lst xs]) else .bad
def binD (o : Bop) (x y : D) (h : Hm) : Rs D := match o, x, y with
  | .add, .int i, .int j => .ok (.int (i + j)) h
  | .sub, .int i, .int j => .ok (.int (i - j)) h
  | .mul, .int i, .int j => if (-W64 < i ∧ i < W64) ∨ (-W64 < j ∧ j < W64) then .ok (.int (i * j)) h else .bad
  | .fdiv, .int i, .int j => if 0 < j ∧ j < W256 then .ok (.int (i / j)) h else .bad
  | .mod, .int i, .int j => if 0 < j then .ok (.int (i % j)) h else .bad
  | .pow, .int i, .int j => if 0 ≤ j ∧ j ≤ 1000000 ∧ (-W64 < i ∧ i < W64) then .ok (.int (i ^ j.toNat)) h else .bad
  | .add, .str a, .str b => if a.length + b.length ≤ LIM then .ok (.str (a ++ b)) h else .bad
  | .add, x, y => match items? h x, items? h y with
    | some xs, some ys => newL (xs ++ ys) h
    | _, _ => .bad
  | .mul, x, .int k => match items? h x with
    | some xs => if -9223372036854775808 ≤ k ∧ k < 9223372036854775808 then newL (List.replicate k.toNat xs).flatten h else .bad
    | none => .bad
  | _, _, _ => .bad

def cmpI (o : Cop) (i j : Int) : Option Bool := match o with
  | .eq => some (decide (i = j))
  | .ne => some (!decide (i = j))
  | .lt => some (decide (i < j))
  | .le => some (decide (i ≤ j))
  | .gt => some (decide (j < i))
  | .ge => some (decide (j ≤ i))
  | _ => none



mutual
def plainD : D → Bool
  | .non => true
  | .bl _ => true
  | .int _ => true
  | .str _ => true
  | .tup xs => plainDs xs
  | .lst xs => plainDs xs
  | _ => false
def plainDs : List D → Bool
  | [] => true
  | x :: r => plainD x && plainDs r
end
mutual
def depD : D → Nat
  | .tup xs => depDs xs + 1
  | .lst xs => depDs xs + 1
  | _ => 0
def depDs : List D → Nat
  | [] => 0
  | x :: r => max (depD x) (depDs r)
end
mutual
def eqd : D → D → Bool
  | .non, .non => true
  | .bl a, .bl b => a == b
  | .bl a, .int j => (if a then 1 else 0) == j
  | .int i, .bl b => i == (if b then 1 else 0)
  | .int i, .int j => decide (i = j)
  | .str x, .str y => decide (x = y)
  | .lst xs, .lst ys => eqds xs ys
  | .tup xs, .tup ys => eqds xs ys
  | _, _ => false
def eqds : List D → List D → Bool
  | [], [] => true
  | x :: xs, y :: ys => eqd x y && eqds xs ys
  | _, _ => false
end
def eqP (a b : D) : Option Bool := if plainD a && plainD b && (decide (depD a ≤ 60) || decide (depD b ≤ 60)) then some (eqd a b) else none
def eqD (h : Hm) (x y : D) : Option Bool := eqP (deep 0 h x) (deep 0 h y)
def inP (d : D) (zs : List D) : Option Bool := if plainD d && decide (depD d ≤ 60) && plainDs zs then some (zs.any fun y => eqd y d) else none
def inD (h : Hm) (x c : D) : Option Bool := match seq? h c with
  | some ys => inP (deep 0 h x) (ys.map (deep 0 h))
  | none => match x, c with
    | .str a, .str b => if a.length = 1 then some (decide (a.cps.toList.headD 0 ∈ b.cps.toList)) else none
    | x, c => match key? x, dict? h c with
      | some k, some (ks, _) => some (ks.any fun g => decide (g = k))
      | _, _ => none

def strL (x y : Str) : Bool := decide (x.cps.toList < y.cps.toList)
def cmpD (h : Hm) (o : Cop) (x y : D) : Option Bool := match o with
  | .eq => eqD h x y
  | .ne => (eqD h x y).map not
  | .lt => match x, y with
    | .int i, .int j => some (decide (i < j))
    | .str i, .str j => some (strL i j)
    | _, _ => none
  | .le => match x, y with
    | .int i, .int j => some (decide (i ≤ j))
    | .str i, .str j => some (!strL j i)
    | _, _ => none
  | .gt => match x, y with
    | .int i, .int j => some (decide (j < i))
    | _, _ => none
  | .ge => match x, y with
    | .int i, .int j => some (decide (j ≤ i))
    | _, _ => none
  | .is => match x, y with
    | .non, .non => some true
    | .un, _ => none
    | _, .un => none
    | _, .non => some false
    | .bl a, .bl b => some (a == b)
    | _, _ => none
  | .isnot => match x, y with
    | .non, .non => some false
    | .un, _ => none
    | _, .un => none
    | _, .non => some true
    | .bl a, .bl b => some (!(a == b))
    | _, _ => none
  | .isin => inD h x y
  | .notin => (inD h x y).map not
def cmpR (h : Hm) (o : Cop) (x y : D) : Rs D := match cmpD h o x y with
  | some b => .ok (.bl b) h
  | none => .bad

def cut {α : Type} (xs : List α) (lo hi : Option Int) : List α :=
  let a := HT.sIx xs.length 0 lo
  let b := HT.sIx xs.length xs.length hi
  (xs.drop a).take (b - a)
def idxS (xs : List D) (y : D) (h : Hm) : Rs D := match y with
  | .int i => match L2.atI xs i with
    | some v => .ok v h
    | none => .bad
  | _ => .bad
def idxK (ks : List Key) (vs : List D) (y : D) (h : Hm) : Rs D := match key? y with
  | some k => match lookK k ks vs with
    | some v => .ok v h
    | none => .bad
  | none => .bad
def idxN (ns : List Int) (y : D) (h : Hm) : Rs D := match y with
  | .int i => match L2.atI ns i with
    | some v => .ok (.int v) h
    | none => .bad
  | _ => .bad
def idxT (s : Str) (y : D) (h : Hm) : Rs D := match y with
  | .int i => if s.length ≤ LIM then match L2.atI s.cps.toList i with
    | some c => .ok (.str ⟨#[c]⟩) h
    | none => .bad else .bad
  | _ => .bad
def idxD (h : Hm) (x y : D) : Rs D := match x with
  | .scr ns => idxN ns y h
  | .str s => idxT s y h
  | x => match seq? h x with
    | some xs => idxS xs y h
    | none => match dict? h x with
      | some (ks, vs) => idxK ks vs y h
      | none => .bad
def part? : D → Option (Option Int)
  | .non => some none
  | .int i => some (some i)
  | _ => none
def slD (h : Hm) (x lo hi : D) : Rs D := match part? lo, part? hi with
  | some l, some u => match items? h x with
    | some xs => newL (cut xs l u) h
    | none => match x with
      | .str s => if s.length ≤ LIM then .ok (.str ⟨(cut s.cps.toList l u).toArray⟩) h else .bad
      | _ => .bad
  | _, _ => .bad

/-- a def's parameters from what is written: the defaults behind -/
def fillD (pr : Pr) (f : Nat) (ds : List D) : Option (List D) := match pr.fns[f]? with
  | some fn => if fn.ar.contains ds.length then some (ds ++ fn.dfl.drop (ds.length + fn.dfl.length - fn.np)) else none
  | none => none
/-- a field's value, or a property's getter -/
def fldD (pr : Pr) (h : Hm) (x : D) (f : Nat) : Option (D ⊕ Nat) := match x with
  | .xcp c fs vs => match pr.cls[c]? with
    | some cl => if cl.isx && fs.contains f && decide (cl.exf = fs) then (look f fs vs).map .inl else none
    | none => none
  | x => match inst? h x with
  | some (c, fs, vs) => match pr.cls[c]? with
    | some cl => match look f fs vs with
      | some v => if cl.flds.contains f then some (.inl v) else none
      | none => (cl.props.lookup f).map .inr
    | none => none
  | none => none

def bind0 {α : Type} (o : Option α) (h : Hm) : Rs α := match o with
  | some a => .ok a h
  | none => .bad

/-- a new instance, its __init__ run -/
def mkRun (φ : Nat → List D → Hm → Rs D) (c f : Nat) (all : List D) (h : Hm) : Rs D :=
  (φ f (.ref h.length :: all) (h ++ [.ins c [] []])).bind fun r h1 => match r with
    | .non => .ok (.ref h.length) h1
    | _ => .bad
/-- C(..) -/
def mkD (pr : Pr) (φ : Nat → List D → Hm → Rs D) (c : Nat) (ds : List D) (h : Hm) : Rs D := match pr.cls[c]? with
  | none => .bad
  | some cl => if cl.isx then if ds.length = cl.exf.length ∧ ds.length ≤ 900 then .ok (.xcp c cl.exf ds) h else .bad else match cl.init with
    | none => .bad
    | some f => match fillD pr f (.un :: ds) with
      | some (_ :: all) => if cl.keep then mkRun φ c f all h
          else if noRefs all then aloneR h (mkRun φ c f all [])
          else shut h.length (mkRun φ c f all h)
      | _ => .bad
/-- which def a method is -/
def mthF (pr : Pr) (h : Hm) (x : D) (m : Nat) : Option (Nat × Nat) := match inst? h x with
  | some (c, fs, vs) => match look m fs vs with
    | some _ => none
    | none => match pr.cls[c]? with
      | some cl => (cl.mths.lookup m).map fun g => (c, g)
      | none => none
  | none => none

def isiT (pr : Pr) (h : Hm) (x : D) : Option D := match x with
  | .non => some .non
  | .bl _ => some (.bl true)
  | .int _ => some (.int 0)
  | .str _ => some (.str ⟨#[]⟩)
  | .tup _ => some (.tup [])
  | .xcp c _ _ => match pr.cls[c]? with
    | some cl => if cl.isx then some (.cls c) else none
    | none => none
  | x => match items? h x with
    | some _ => some (.lst [])
    | none => match dict? h x with
      | some _ => some (.dic [] [])
      | none => match inst? h x with
        | some (c, _, _) => match pr.cls[c]? with
          | some cl => if cl.isx then none else some (.cls c)
          | none => none
        | none => none
/-- types by samples: int 0, str '', tup [], lst [], bl true, cls c -/
def isi1 (pr : Pr) (t c : D) : Option Bool := match t, c with
  | .cls a, .cls b => (pr.cls[a]?).map fun cl => decide (b ∈ cl.mro)
  | .cls a, .un => (pr.cls[a]?).map fun cl => cl.isx
  | _, .un => none
  | .un, _ => none
  | .cls _, _ => some false
  | .int _, .int _ => some true
  | .bl _, .int _ => some true
  | .bl _, .bl _ => some true
  | .str _, .str _ => some true
  | .tup _, .tup _ => some true
  | .lst _, .lst _ => some true
  | .dic _ _, .dic _ _ => some true
  | _, .cls _ => some false
  | _, .int _ => some false
  | _, .bl _ => some false
  | _, .str _ => some false
  | _, .tup _ => some false
  | _, .lst _ => some false
  | _, .dic _ _ => some false
  | _, _ => none
def isiD (pr : Pr) (t : D) : List D → Option Bool
  | [] => some false
  | c :: r => match isi1 pr t c with
    | some true => some true
    | some false => isiD pr t r
    | none => none

def allB : List D → Option (List Bool)
  | [] => some []
  | .bl b :: r => (allB r).map (b :: ·)
  | _ :: _ => none
def bltD (h : Hm) (b : Blt) (ds : List D) : Rs D := match b, ds with
  | .len, [.scr ns] => .ok (.int ns.length) h
  | .len, [.str x] => if x.length ≤ LIM then .ok (.int x.length) h else .bad
  | .len, [x] => match seq? h x with
    | some xs => .ok (.int xs.length) h
    | none => .bad
  | .abs, [.int i] => .ok (.int (if i < 0 then -i else i)) h
  | .int, [.int i] => .ok (.int i) h
  | .int, [.bl k] => .ok (.int (if k then 1 else 0)) h
  | .max, [.int i, .int j] => .ok (.int (if j > i then j else i)) h
  | .min, [.int i, .int j] => .ok (.int (if j < i then j else i)) h
  | .str, [.int i] => if i.natAbs.log2 < 1920 then .ok (.str (toString i)) h else .bad
  | .all, [x] => match (items? h x).bind allB with
    | some bs => .ok (.bl (bs.all id)) h
    | none => .bad
  | .any, [x] => match (items? h x).bind allB with
    | some bs => .ok (.bl (bs.any id)) h
    | none => .bad
  | .list, [x] => match seq? h x with
    | some xs => newL xs h
    | none => .bad
  | .tuple, [x] => match items? h x with
    | some xs => .ok (.tup xs) h
    | none => match x with
      | .tup xs => .ok (.tup xs) h
      | _ => .bad
  | _, _ => .bad

/-- what is walked: the items; the live lists' cells -/
structure Wk where
  its : List D
  src : List (Nat × List D)
mutual
def beqD : D → D → Bool
  | .un, .un => true
  | .non, .non => true
  | .bl a, .bl b => a == b
  | .int a, .int b => decide (a = b)
  | .str a, .str b => decide (a = b)
  | .tup a, .tup b => beqDs a b
  | .lst a, .lst b => beqDs a b
  | .dic a b, .dic c d => decide (a = c) && beqDs b d
  | .obj a b c, .obj d e f => decide (a = d) && decide (b = e) && beqDs c f
  | .xcp a b c, .xcp d e f => decide (a = d) && decide (b = e) && beqDs c f
  | .ref a, .ref b => decide (a = b)
  | .cls a, .cls b => decide (a = b)
  | .scr a, .scr b => decide (a = b)
  | _, _ => false
def beqDs : List D → List D → Bool
  | [], [] => true
  | x :: xs, y :: ys => beqD x y && beqDs xs ys
  | _, _ => false
end
def srcOk (h : Hm) (q : Nat × List D) : Bool := match h[q.1]? with
  | some (.lst ys) => beqDs ys q.2
  | _ => false
def Wk.ok (w : Wk) (h : Hm) : Bool := w.src.all (srcOk h)
def rangeD (i j : Int) : List D := (List.range (j - i).toNat).map fun (k : Nat) => D.int (i + k)
def W62 : Int := 4611686018427387904
def signs (s : Str) : List D := s.cps.toList.map fun c => .str ⟨#[c]⟩
/-- a list to walk -/
def lwalk (h : Hm) (d : D) : Option (List D × List (Nat × List D)) := match d with
  | .lst xs => some (xs, [])
  | .ref n => match h[n]? with
    | some (.lst xs) => some (xs, [(n, xs)])
    | _ => none
  | _ => none
def walkD (h : Hm) (d : D) : Rs Wk := match d with
  | .tup xs => .ok ⟨xs, []⟩ h
  | .str s => .ok ⟨signs s, []⟩ h
  | d => match lwalk h d with
    | some (xs, q) => .ok ⟨xs, q⟩ h
    | none => .bad
def walkR (h : Hm) (ds : List D) : Rs Wk := match ds with
  | [.int j] => if -W62 ≤ j ∧ j < W62 then .ok ⟨rangeD 0 j, []⟩ h else .bad
  | [.int i, .int j] => if -W62 ≤ i ∧ i < W62 ∧ -W62 ≤ j ∧ j < W62 then .ok ⟨rangeD i j, []⟩ h else .bad
  | _ => .bad
def numb (k : Int) (xs : List D) : List D := xs.zipIdx.map fun q => .tup [.int (k + q.2), q.1]
def walkEn (k : Int) (h : Hm) (d : D) : Rs Wk := match lwalk h d with
  | some (xs, q) => .ok ⟨numb k xs, q⟩ h
  | none => .bad
def walkZ (h : Hm) (a b : D) : Rs Wk := match lwalk h a, lwalk h b with
  | some (xs, q), some (ys, r) => .ok ⟨(xs.zip ys).map fun p => .tup [p.1, p.2], q ++ r⟩ h
  | _, _ => .bad

def stores (is : List Nat) (ds : List D) (e : Ev) : Option Ev := match is, ds with
  | [], [] => some e
  | i :: is, d :: ds => stores is ds (e.set i d)
  | _, _ => none
def wipeE (own : List Nat) (e : Ev) : Ev := own.foldr (fun i e => e.set i .un) e
def storeT (t : Tg) (d : D) (e : Ev) : Option Ev := match t with
  | .v i => some (e.set i d)
  | .tup is => match d with
    | .tup ds => stores is ds e
    | _ => none

/-- a comprehension's turns -/
def compGo (step : D → Hm → Rs (Option D)) (w : Wk) : List D → List D → Hm → Rs (List D)
  | [], acc, h => if w.ok h then .ok acc h else .bad
  | x :: r, acc, h => if w.ok h then match step x h with
      | .ok (some d) h1 => if acc.length < LIM then compGo step w r (acc ++ [d]) h1 else .bad
      | .ok none h1 => compGo step w r acc h1
      | _ => .bad
    else .bad

def strsD : List D → Option (List Str)
  | [] => some []
  | .str x :: r => (strsD r).map (x :: ·)
  | _ :: _ => none
def findD (d : D) : List D → Nat → Option Nat
  | [], _ => none
  | x :: r, i => if eqd x d then some i else findD d r (i + 1)
/-- the type of a method's receiver -/
def tyOk (m : Bm) (h : Hm) (x : D) : Bool := match m with
  | .split => match x with | .str _ => true | _ => false
  | .join => match x with | .str _ => true | _ => false
  | .count => match x with | .str _ => true | _ => false
  | .append => (items? h x).isSome
  | .pop => (items? h x).isSome
  | .index => (items? h x).isSome
  | _ => false
def appL (h : Hm) (o d : D) : Rs D := match o with
  | .ref n => match h[n]? with
    | some (.lst xs) => if xs.length < LIM then .ok .non (h.set n (.lst (xs ++ [d]))) else .bad
    | _ => .bad
  | _ => .bad
def popL (h : Hm) (o : D) : Rs D := match o with
  | .ref n => match h[n]? with
    | some (.lst xs) => match xs[xs.length - 1]? with
      | some y => .ok y (h.set n (.lst xs.dropLast))
      | none => .bad
    | _ => .bad
  | _ => .bad
def strsL (xs : List Str) (h : Hm) : Rs D := newL (xs.map D.str) h
def flatB : D → Bool
  | .non => true
  | .bl _ => true
  | .int _ => true
  | .str _ => true
  | _ => false
def bmD (h : Hm) (m : Bm) (x : D) (ds : List D) : Rs D := match m, ds with
  | .append, [d] => appL h x d
  | .pop, [] => popL h x
  | .index, [d] => match items? h x with
    | some xs => if flatB d && xs.all flatB then match findD d xs 0 with
      | some j => .ok (.int j) h
      | none => .bad else .bad
    | none => .bad
  | .split, [.str b] => match x with
    | .str a => if b.length ≠ 0 ∧ a.length + 2 ≤ LIM then strsL (PySem.Txt.split a b) h else .bad
    | _ => .bad
  | .count, [.str b] => match x with
    | .str a => .ok (.int (PySem.Txt.count a b)) h
    | _ => .bad
  | .join, [l] => match x, (seq? h l).bind strsD with
    | .str a, some ys => if (ys.map (·.length)).sum + ys.length * a.length ≤ 16777216 then .ok (.str (PySem.Txt.join a ys)) h else .bad
    | _, _ => .bad
  | _, _ => .bad
/-- how many arguments are written -/
def Es.cnt : Es → Option Nat
  | .nil => some 0
  | .cons _ r => r.cnt.map (· + 1)
  | .star _ _ => none
/-- does the def take so many -/
def takesN (pr : Pr) (f : Nat) (n : Option Nat) : Bool := match pr.fns[f]?, n with
  | some fn, some n => fn.ar.contains n
  | _, _ => false

section
variable (pr : Pr) (φ : Nat → List D → Hm → Rs D)
mutual
def evE : E → Ev → Hm → Rs D
  | .k d, _, h => .ok d h
  | .v i, e, h => match e[i]? with
    | some .un => .bad
    | some d => .ok d h
    | none => .bad
  | .neg a, e, h => (evE a e h).bind fun x h => match x with
    | .int i => .ok (.int (-i)) h
    | _ => .bad
  | .not a, e, h => (evE a e h).bind fun x h => match truth h x with
    | some b => .ok (.bl (!b)) h
    | none => .bad
  | .bin o a b, e, h => (evE a e h).bind fun x h => (evE b e h).bind fun y h => binD o x y h
  | .cmp o a b, e, h => (evE a e h).bind fun x h => (evE b e h).bind fun y h => cmpR h o x y
  | .chn o p a b c, e, h => (evE a e h).bind fun x h => (evE b e h).bind fun y h => match cmpD h o x y with
    | some true => (evE c e h).bind fun z h => cmpR h p y z
    | some false => .ok (.bl false) h
    | none => .bad
  | .and a b, e, h => (evE a e h).bind fun x h => match truth h x with
    | some true => evE b e h
    | some false => .ok x h
    | none => .bad
  | .or a b, e, h => (evE a e h).bind fun x h => match truth h x with
    | some true => .ok x h
    | some false => evE b e h
    | none => .bad
  | .ife c a b, e, h => (evE c e h).bind fun x h => match truth h x with
    | some true => evE a e h
    | some false => evE b e h
    | none => .bad
  | .tup es, e, h => (evEs es e h).bind fun ds h => if ds.length ≤ LIM then .ok (.tup ds) h else .bad
  | .lst es, e, h => (evEs es e h).bind fun ds h => newL ds h
  | .idx a b, e, h => (evE a e h).bind fun x h => (evE b e h).bind fun y h => idxD h x y
  | .sl a lo hi, e, h => (evE a e h).bind fun x h => (evO lo e h).bind fun l h => (evO hi e h).bind fun u h => slD h x l u
  | .fld a f, e, h => (evE a e h).bind fun x h => match fldD pr h x f with
    | some (.inl d) => .ok d h
    | some (.inr g) => φ g [x] h
    | none => .bad
  | .call f es, e, h => (evEs es e h).bind fun ds h => match fillD pr f ds with
    | some all => φ f all h
    | none => .bad
  | .mk c es, e, h => (evEs es e h).bind fun ds h => mkD pr φ c ds h
  | .mth o m es, e, h => (evE o e h).bind fun x h => match mthF pr h x m with
    | some (_, f) => if takesN pr f (es.cnt.map (· + 1)) then (evEs es e h).bind fun ds h => match fillD pr f (x :: ds) with
        | some all => φ f all h
        | none => .bad
      else .bad
    | none => .bad
  | .blt b es, e, h => (evEs es e h).bind fun ds h => bltD h b ds
  | .bm o m es, e, h => (evE o e h).bind fun x h => if tyOk m h x then (evEs es e h).bind fun ds h => bmD h m x ds else .bad
  | .isi a cs, e, h => (evE a e h).bind fun x h => match (isiT pr h x).bind fun t => isiD pr t cs with
    | some b => .ok (.bl b) h
    | none => .bad
  | .inr a es, e, h => (evE a e h).bind fun x h => (evEs es e h).bind fun ds h => match x, ds with
    | .int i, [.int j] => .ok (.bl (decide (0 ≤ i ∧ i < j))) h
    | _, _ => .bad
  | .comp elt tg it cond own, e, h => (evI it e h).bind fun w h =>
      (compGo (fun x h => match storeT tg x (wipeE own e) with
        | some e' => match cond with
          | .none => (evE elt e' h).bind fun d h => .ok (some d) h
          | .some c => (evE c e' h).bind fun b h => match truth h b with
            | some true => (evE elt e' h).bind fun d h => .ok (some d) h
            | some false => .ok none h
            | none => .bad
        | none => .bad) w w.its [] h).bind fun xs h => newL xs h
def evO : Oe → Ev → Hm → Rs D
  | .none, _, h => .ok .non h
  | .some a, e, h => (evE a e h).bind fun x h => match x with
    | .int i => .ok (.int i) h
    | _ => .bad
def evEs : Es → Ev → Hm → Rs (List D)
  | .nil, _, h => .ok [] h
  | .cons a r, e, h => (evE a e h).bind fun x h => (evEs r e h).bind fun xs h => .ok (x :: xs) h
  | .star a r, e, h => (evE a e h).bind fun x h => match seq? h x with
    | some ys => (evEs r e h).bind fun xs h => .ok (ys ++ xs) h
    | none => .bad
def evI : I → Ev → Hm → Rs Wk
  | .ex a, e, h => (evE a e h).bind fun x h => walkD h x
  | .range es, e, h => (evEs es e h).bind fun ds h => walkR h ds
  | .enum a k, e, h => (evE a e h).bind fun x h => walkEn k h x
  | .zip a b, e, h => (evE a e h).bind fun x h => (evE b e h).bind fun y h => walkZ h x y
end
end
end Pm

set_option linter.all false
set_option maxRecDepth 100000
namespace Pm
open PySem

def Rs.out {α : Type} (e : Ev) (r : Rs α) (f : α → Hm → Out) : Out := match r with
  | .ok a h => f a h
  | .exc c fs vs h => .exc c fs vs e h
  | .bad => .bad
def outOf (o : Option Ev) (h : Hm) : Out := match o with
  | some e => .nx e h
  | none => .bad

def forGo (step : D → Ev → Hm → Out) (w : Wk) : List D → Ev → Hm → Out
  | [], e, h => if w.ok h then .nx e h else .bad
  | x :: r, e, h => if w.ok h then match step x e h with
      | .nx e h => forGo step w r e h
      | .ct e h => forGo step w r e h
      | .bk e h => .nx e h
      | o => o
    else .bad
def whileGo (c : Ev → Hm → Rs D) (b : Ev → Hm → Out) : Nat → Ev → Hm → Out
  | 0, _, _ => .bad
  | n + 1, e, h => (c e h).out e fun d h => match truth h d with
    | some true => match b e h with
      | .nx e h => whileGo c b n e h
      | .ct e h => whileGo c b n e h
      | .bk e h => .nx e h
      | o => o
    | some false => .nx e h
    | none => .bad
def WF : Nat := 1000000000

def setFld (pr : Pr) (h : Hm) (o : D) (f : Nat) (d : D) : Option Hm := match o with
  | .ref n => match h[n]? with
    | some (.ins c fs vs) => match pr.cls[c]? with
      | some cl => if fs.length < 900 ∧ cl.flds.contains f = true then some (h.set n (.ins c (putF f d fs vs).1 (putF f d fs vs).2)) else none
      | none => none
    | _ => none
  | _ => none
/-- the class of an instance -/
def clsOf (h : Hm) (x : D) : Option Nat := (inst? h x).map (·.1)
def setSub (h : Hm) (o i d : D) : Option Hm := match o with
  | .ref n => match h[n]? with
    | some (.lst xs) => match i with
      | .int k => (L2.ixN xs.length k).map fun j => h.set n (.lst (xs.set j d))
      | _ => none
    | some (.dic ks vs) => match key? i with
      | some k => if ks.length < 100000 then some (h.set n (.dic (putK k d ks vs).1 (putK k d ks vs).2)) else none
      | none => none
    | _ => none
  | _ => none
section
variable (pr : Pr) (φ : Nat → List D → Hm → Rs D)
mutual
def exS : S → Ev → Hm → Out
  | .set i a, e, h => (evE pr φ a e h).out e fun d h => .nx (e.set i d) h
  | .unp is a, e, h => (evE pr φ a e h).out e fun d h => outOf (storeT (.tup is) d e) h
  | .par is es, e, h => (evEs pr φ es e h).out e fun ds h => outOf (stores is ds e) h
  | .fld o f a, e, h => (evE pr φ a e h).out e fun d h => (evE pr φ o e h).out e fun x h => match setFld pr h x f d with
    | some h => .nx e h
    | none => .bad
  | .sub o i a, e, h => (evE pr φ a e h).out e fun d h => (evE pr φ o e h).out e fun x h => (evE pr φ i e h).out e fun y h => match setSub h x y d with
    | some h => .nx e h
    | none => .bad
  | .aug i o a, e, h => match e[i]? with
    | some (.int n) => (evE pr φ a e h).out e fun y h => (binD o (.int n) y h).out e fun z h => .nx (e.set i z) h
    | _ => .bad
  | .augf a f o b, e, h => (evE pr φ a e h).out e fun x h => if (inst? h x).isNone then .bad else match fldD pr h x f with
    | some (.inl (.int n)) => (evE pr φ b e h).out e fun y h2 => if clsOf h2 x = clsOf h x then (binD o (.int n) y h2).out e fun z h => match setFld pr h x f z with
        | some h => .nx e h
        | none => .bad
      else .bad
    | _ => .bad
  | .ex a, e, h => (evE pr φ a e h).out e fun _ h => .nx e h
  | .ite c a b, e, h => (evE pr φ c e h).out e fun d h => match truth h d with
    | some true => exB a e h
    | some false => exB b e h
    | none => .bad
  | .for tg it b, e, h => (evI pr φ it e h).out e fun w h => forGo (fun x e h => match storeT tg x e with
      | some e => exB b e h
      | none => .bad) w w.its e h
  | .while c b, e, h => whileGo (fun e h => evE pr φ c e h) (fun e h => exB b e h) WF e h
  | .ret a, e, h => (evE pr φ a e h).out e fun d h => .rt d h
  | .brk, e, h => .bk e h
  | .cnt, e, h => .ct e h
  | .pass, e, h => .nx e h
  | .raise c es, e, h => (evEs pr φ es e h).out e fun ds h => match pr.cls[c]? with
    | some cl => if ds.length = cl.exf.length then .exc c cl.exf ds e h else .bad
    | none => .bad
def exB : List S → Ev → Hm → Out
  | [], e, h => .nx e h
  | s :: r, e, h => match exS s e h with
    | .nx e h => exB r e h
    | o => o
end
end

def fin : Out → Rs D
  | .nx _ h => .ok .non h
  | .rt d h => .ok d h
  | .exc c fs vs _ h => .exc c fs vs h
  | _ => .bad
/-- a def's body on its arguments -/
def runF (pr : Pr) (φ : Nat → List D → Hm → Rs D) (f : Fn) (all : List D) (h : Hm) : Rs D :=
  fin (exB pr φ f.body (all ++ List.replicate (f.ns - f.np) .un) h)
/-- a call of a def on all its parameters, with its boundary; k: how deep calls may go -/
def callF (pr : Pr) : Nat → Nat → List D → Hm → Rs D
  | 0, _, _, _ => .bad
  | k + 1, f, all, h => match pr.fns[f]? with
    | none => .bad
    | some fn => if all.length = fn.np then
        if fn.keep then runF pr (callF pr k) fn all h
        else if noRefs all then aloneR h (runF pr (callF pr k) fn all [])
        else shut h.length (runF pr (callF pr k) fn all h)
      else .bad
end Pm

set_option linter.all false
set_option maxRecDepth 100000
namespace Pm
open PySem L2

structure Wd where
  K : PySem.W.Frag
  ca : Nat → Addr
  nm : Nat → Str

def Le (S S' : Hp) : Prop := ∀ a o, S a = some o → S' a = some o
theorem Le.refl {S : Hp} : Le S S := fun _ _ h => h
theorem Le.trans {S S' S2 : Hp} (a : Le S S') (b : Le S' S2) : Le S S2 := fun x o h => b x o (a x o h)
def Pre (α β : List Addr) : Prop := ∀ (n : Nat) (a : Addr), α[n]? = some a → β[n]? = some a
theorem Pre.refl {α : List Addr} : Pre α α := fun _ _ h => h
theorem Pre.trans {α β γ : List Addr} (a : Pre α β) (b : Pre β γ) : Pre α γ := fun n x h => b n x (a n x h)
theorem Pre.app {α β : List Addr} : Pre α (α ++ β) := fun n a h => by
  have := (List.getElem?_eq_some_iff.mp h).1
  rw [List.getElem?_append_left this]; exact h

theorem sqT_le {K : PySem.W.Frag} {S S' : Hp} (l : Le S S') {a : Addr} {xs : List V} (h : SqT K S a xs) : SqT K S' a xs := by
  rcases h with (h | ⟨o, h⟩) | h
  · exact .inl (.inl (l _ _ h))
  · exact .inl (.inr ⟨o, l _ _ h⟩)
  · exact .inr h
theorem sqL_le {K : PySem.W.Frag} {S S' : Hp} (l : Le S S') {a : Addr} {xs : List V} (h : SqL K S a xs) : SqL K S' a xs := by
  rcases h with (h | ⟨o, h⟩) | h
  · exact .inl (.inl (l _ _ h))
  · exact .inl (.inr ⟨o, l _ _ h⟩)
  · exact .inr h

mutual
def Rl (W : Wd) (S : Hp) (α : List Addr) : D → V → Prop
  | .un, _ => True
  | .non, v => v = .non
  | .bl b, v => v = .bl b
  | .int i, v => v = .int i
  | .str x, v => v = .str x
  | .tup xs, v => ∃ a us, v = .ref a ∧ SqT W.K S a us ∧ Rls W S α xs us
  | .lst xs, v => ∃ a us, v = .ref a ∧ S a = some (.lst us) ∧ Rls W S α xs us
  | .dic ks vs, v => ∃ a us, v = .ref a ∧ S a = some (.dK (ks.zip us)) ∧ ks.length = us.length ∧ Rls W S α vs us
  | .obj c fs vs, v => ∃ a dx us, v = .ref a ∧ S a = some (.ins (W.ca c) dx ((fs.map W.nm).zip us)) ∧ fs.length = us.length ∧ Rls W S α vs us
  | .ref n, v => ∃ a, v = .ref a ∧ α[n]? = some a
  | .cls c, v => v = .ref (W.ca c)
  | .scr ns, v => ∃ a, v = .ref a ∧ SqL W.K S a (ns.map V.int)
  | .xcp c fs vs, v => ∃ a us, v = .ref a ∧ Rls W S α vs us ∧ fs.length = us.length ∧ ((fs = [] ∧ S a = some (exo a (W.ca c) none)) ∨ ∃ dx l, S a = some (exo a (W.ca c) (some dx)) ∧ S dx = some (exd dx l) ∧ ∀ p ∈ fs.zip us, l.lookup (W.nm p.1) = some p.2)
def Rls (W : Wd) (S : Hp) (α : List Addr) : List D → List V → Prop
  | [], us => us = []
  | x :: xs, us => ∃ u r, us = u :: r ∧ Rl W S α x u ∧ Rls W S α xs r
end

section
variable {W : Wd} {S S' : Hp} {α β : List Addr}
mutual
theorem Rl.map (l : Le S S') (g : Nat → D) (hg : ∀ i v, Rl W S α (.ref i) v → Rl W S' β (g i) v) : ∀ (d : D) (v : V), Rl W S α d v → Rl W S' β (mapD g d) v
  | .un, v, h => by simp only [mapD, Rl]
  | .non, v, h => by simpa only [mapD, Rl] using h
  | .bl _, v, h => by simpa only [mapD, Rl] using h
  | .int _, v, h => by simpa only [mapD, Rl] using h
  | .str _, v, h => by simpa only [mapD, Rl] using h
  | .tup xs, v, h => by
    simp only [mapD, Rl] at h ⊢
    obtain ⟨a, us, e, q, r⟩ := h
    exact ⟨a, us, e, sqT_le l q, Rls.map l g hg xs us r⟩
  | .lst xs, v, h => by
    simp only [mapD, Rl] at h ⊢
    obtain ⟨a, us, e, q, r⟩ := h
    exact ⟨a, us, e, l _ _ q, Rls.map l g hg xs us r⟩
  | .dic ks xs, v, h => by
    simp only [mapD, Rl] at h ⊢
    obtain ⟨a, us, e, q, z, r⟩ := h
    exact ⟨a, us, e, l _ _ q, z, Rls.map l g hg xs us r⟩
  | .obj c fs xs, v, h => by
    simp only [mapD, Rl] at h ⊢
    obtain ⟨a, dx, us, e, q, z, r⟩ := h
    exact ⟨a, dx, us, e, l _ _ q, z, Rls.map l g hg xs us r⟩
  | .ref n, v, h => by
    simp only [mapD]
    exact hg n v h
  | .cls _, v, h => by simpa only [mapD, Rl] using h
  | .scr ns, v, h => by
    simp only [mapD, Rl] at h ⊢
    obtain ⟨a, e, q⟩ := h
    exact ⟨a, e, sqL_le l q⟩
  | .xcp c fs xs, v, h => by
    simp only [mapD, Rl] at h ⊢
    obtain ⟨a, us, e, r, z, q⟩ := h
    refine ⟨a, us, e, Rls.map l g hg xs us r, z, ?_⟩
    rcases q with ⟨q1, q2⟩ | ⟨dx, m, q1, q2, q3⟩
    · exact .inl ⟨q1, l _ _ q2⟩
    · exact .inr ⟨dx, m, l _ _ q1, l _ _ q2, q3⟩
theorem Rls.map (l : Le S S') (g : Nat → D) (hg : ∀ i v, Rl W S α (.ref i) v → Rl W S' β (g i) v) : ∀ (ds : List D) (vs : List V), Rls W S α ds vs → Rls W S' β (mapDs g ds) vs
  | [], vs, h => by simpa only [mapDs, Rls] using h
  | x :: xs, vs, h => by
    simp only [mapDs, Rls] at h ⊢
    obtain ⟨u, r, e, h1, h2⟩ := h
    exact ⟨u, r, e, Rl.map l g hg x u h1, Rls.map l g hg xs r h2⟩
end
mutual
theorem mapD_id : ∀ d : D, mapD D.ref d = d
  | .un | .non | .bl _ | .int _ | .str _ | .cls _ | .scr _ | .ref _ => by simp only [mapD]
  | .tup xs => by simp only [mapD, mapDs_id xs]
  | .lst xs => by simp only [mapD, mapDs_id xs]
  | .dic ks xs => by simp only [mapD, mapDs_id xs]
  | .obj c fs xs => by simp only [mapD, mapDs_id xs]
  | .xcp c fs xs => by simp only [mapD, mapDs_id xs]
theorem mapDs_id : ∀ ds : List D, mapDs D.ref ds = ds
  | [] => by simp only [mapDs]
  | x :: xs => by simp only [mapDs, mapD_id x, mapDs_id xs]
end
theorem Rl.mono (l : Le S S') (p : Pre α β) {d : D} {v : V} (h : Rl W S α d v) : Rl W S' β d v := by
  have := Rl.map (W := W) (S := S) (S' := S') (α := α) (β := β) l D.ref (fun i v q => by
    simp only [Rl] at q ⊢
    obtain ⟨a, e, q⟩ := q
    exact ⟨a, e, p _ _ q⟩) d v h
  rwa [mapD_id] at this
theorem Rls.mono (l : Le S S') (p : Pre α β) {d : List D} {v : List V} (h : Rls W S α d v) : Rls W S' β d v := by
  have := Rls.map (W := W) (S := S) (S' := S') (α := α) (β := β) l D.ref (fun i v q => by
    simp only [Rl] at q ⊢
    obtain ⟨a, e, q⟩ := q
    exact ⟨a, e, p _ _ q⟩) d v h
  rwa [mapDs_id] at this
theorem Rls.length : ∀ {ds : List D} {vs : List V}, Rls W S α ds vs → ds.length = vs.length
  | [], vs, h => by simp only [Rls] at h; subst h; rfl
  | x :: xs, vs, h => by
    simp only [Rls] at h
    obtain ⟨u, r, e, _, h2⟩ := h
    subst e
    simp only [List.length_cons, Rls.length h2]
theorem Rls.app : ∀ {ds es : List D} {vs ws : List V}, Rls W S α ds vs → Rls W S α es ws → Rls W S α (ds ++ es) (vs ++ ws)
  | [], es, vs, ws, h, k => by simp only [Rls] at h; subst h; exact k
  | x :: xs, es, vs, ws, h, k => by
    simp only [Rls] at h
    obtain ⟨u, r, e, h1, h2⟩ := h
    subst e
    simp only [List.cons_append, Rls]
    exact ⟨u, _, rfl, h1, Rls.app h2 k⟩
theorem Rls.get : ∀ {ds : List D} {vs : List V} {i : Nat} {d : D}, Rls W S α ds vs → ds[i]? = some d → ∃ v, vs[i]? = some v ∧ Rl W S α d v
  | [], _, _, _, _, e => by simp at e
  | x :: xs, vs, 0, d, h, e => by
    simp only [Rls] at h
    obtain ⟨u, r, e', h1, h2⟩ := h
    subst e'
    simp at e; subst e
    exact ⟨u, rfl, h1⟩
  | x :: xs, vs, i + 1, d, h, e => by
    simp only [Rls] at h
    obtain ⟨u, r, e', h1, h2⟩ := h
    subst e'
    obtain ⟨v, a, b⟩ := Rls.get (i := i) h2 (by simpa using e)
    exact ⟨v, by simpa using a, b⟩
theorem Rls.set : ∀ {ds : List D} {vs : List V} {d : D} {v : V} (i : Nat), Rls W S α ds vs → Rl W S α d v → Rls W S α (ds.set i d) (vs.set i v)
  | [], vs, _, _, _, h, _ => by simp only [Rls] at h; subst h; simp [Rls]
  | x :: xs, vs, d, v, 0, h, k => by
    simp only [Rls] at h
    obtain ⟨u, r, e', h1, h2⟩ := h
    subst e'
    simp only [List.set_cons_zero, Rls]
    exact ⟨v, r, rfl, k, h2⟩
  | x :: xs, vs, d, v, i + 1, h, k => by
    simp only [Rls] at h
    obtain ⟨u, r, e', h1, h2⟩ := h
    subst e'
    simp only [List.set_cons_succ, Rls]
    exact ⟨u, _, rfl, h1, Rls.set i h2 k⟩
theorem Rls.drop : ∀ {ds : List D} {vs : List V} (n : Nat), Rls W S α ds vs → Rls W S α (ds.drop n) (vs.drop n)
  | ds, vs, 0, h => by simpa using h
  | [], vs, n + 1, h => by simp only [Rls] at h; subst h; simp [Rls]
  | x :: xs, vs, n + 1, h => by
    simp only [Rls] at h
    obtain ⟨u, r, e', h1, h2⟩ := h
    subst e'
    simpa using Rls.drop n h2
theorem Rls.take : ∀ {ds : List D} {vs : List V} (n : Nat), Rls W S α ds vs → Rls W S α (ds.take n) (vs.take n)
  | ds, vs, 0, h => by simp [Rls]
  | [], vs, n + 1, h => by simp only [Rls] at h; subst h; simp [Rls]
  | x :: xs, vs, n + 1, h => by
    simp only [Rls] at h
    obtain ⟨u, r, e', h1, h2⟩ := h
    subst e'
    simp only [List.take_succ_cons, Rls]
    exact ⟨u, _, rfl, h1, Rls.take n h2⟩
theorem Rls.rep {ds : List D} {vs : List V} (h : Rls W S α ds vs) : ∀ k : Nat, Rls W S α (List.replicate k ds).flatten (List.replicate k vs).flatten
  | 0 => by simp [Rls]
  | k + 1 => by
    simp only [List.replicate_succ, List.flatten_cons]
    exact h.app (h.rep k)
theorem Rls.one {d : D} {v : V} (h : Rl W S α d v) : Rls W S α [d] [v] := by
  simp only [Rls]; exact ⟨v, [], rfl, h, rfl⟩

def CellOk (W : Wd) (S : Hp) (α : List Addr) : Cell → HO → Prop
  | .lst xs, o => ∃ us, o = .lst us ∧ Rls W S α xs us
  | .dic ks xs, o => ∃ us, o = .dK (ks.zip us) ∧ ks.length = us.length ∧ Rls W S α xs us
  | .ins c fs xs, o => ∃ dx us, o = .ins (W.ca c) dx ((fs.map W.nm).zip us) ∧ fs.length = us.length ∧ Rls W S α xs us
theorem CellOk.mono (l : Le S S') (p : Pre α β) {c : Cell} {o : HO} (h : CellOk W S α c o) : CellOk W S' β c o := by
  cases c with
  | lst xs => obtain ⟨us, e, r⟩ := h; exact ⟨us, e, r.mono l p⟩
  | dic ks xs => obtain ⟨us, e, z, r⟩ := h; exact ⟨us, e, z, r.mono l p⟩
  | ins c fs xs => obtain ⟨dx, us, e, z, r⟩ := h; exact ⟨dx, us, e, z, r.mono l p⟩
theorem CellOk.map (l : Le S S') (g : Nat → D) (hg : ∀ i v, Rl W S α (.ref i) v → Rl W S' β (g i) v) {c : Cell} {o : HO} (h : CellOk W S α c o) : CellOk W S' β (mapC g c) o := by
  cases c with
  | lst xs => obtain ⟨us, e, r⟩ := h; exact ⟨us, e, Rls.map l g hg _ _ r⟩
  | dic ks xs => obtain ⟨us, e, z, r⟩ := h; exact ⟨us, e, z, Rls.map l g hg _ _ r⟩
  | ins c fs xs => obtain ⟨dx, us, e, z, r⟩ := h; exact ⟨dx, us, e, z, Rls.map l g hg _ _ r⟩

structure Sim (W : Wd) (S : Hp) (α : List Addr) (h : Hm) (H : Hp) : Prop where
  le : Le S H
  len : α.length = h.length
  nd : α.Nodup
  cell : ∀ (i : Nat) c a, h[i]? = some c → α[i]? = some a → S a = none ∧ ∃ o, H a = some o ∧ CellOk W S α c o

/-- from one state to a later one -/
structure Step (W : Wd) (S : Hp) (α : List Addr) (H : Hp) (S' : Hp) (α' : List Addr) (h' : Hm) (H' : Hp) : Prop where
  sim : Sim W S' α' h' H'
  le : Le S S'
  pre : Pre α α'
  frame : ∀ a o, H a = some o → a ∉ α → H' a = some o
  freshS : ∀ a, S' a ≠ S a → H a = none
  freshA : ∀ a, a ∈ α' → a ∉ α → H a = none

theorem Sim.at (s : Sim W S α h H) {i : Nat} {a : Addr} (e : α[i]? = some a) : ∃ c, h[i]? = some c ∧ S a = none ∧ ∃ o, H a = some o ∧ CellOk W S α c o := by
  have hi := (List.getElem?_eq_some_iff.mp e).1
  rw [s.len] at hi
  exact ⟨h[i], List.getElem?_eq_getElem hi, s.cell i _ a (List.getElem?_eq_getElem hi) e⟩
theorem Sim.mem (s : Sim W S α h H) {a : Addr} (m : a ∈ α) : S a = none ∧ ∃ o, H a = some o := by
  obtain ⟨i, e⟩ := List.mem_iff_getElem?.mp m
  obtain ⟨c, _, q, o, q2, _⟩ := s.at e
  exact ⟨q, o, q2⟩
theorem Step.refl {h : Hm} {H : Hp} (s : Sim W S α h H) : Step W S α H S α h H :=
  ⟨s, .refl, .refl, fun _ _ e _ => e, fun _ e => absurd rfl e, fun _ m n => absurd m n⟩
/-- what was there is there -/
theorem Step.there {h : Hm} {H S' H' : Hp} {α' : List Addr} {h' : Hm} (s : Sim W S α h H) (t : Step W S α H S' α' h' H') {a : Addr} {o : HO} (e : H a = some o) : ∃ o', H' a = some o' := by
  by_cases m : a ∈ α
  · obtain ⟨i, q⟩ := List.mem_iff_getElem?.mp m
    exact (t.sim.mem (List.mem_iff_getElem?.mpr ⟨i, t.pre _ _ q⟩)).2
  · exact ⟨o, t.frame a o e m⟩
theorem Step.back {h : Hm} {H S' H' : Hp} {α' : List Addr} {h' : Hm} (s : Sim W S α h H) (t : Step W S α H S' α' h' H') {a : Addr} (e : H' a = none) : H a = none := by
  cases q : H a with
  | none => rfl
  | some o =>
    obtain ⟨o', z⟩ := t.there s q
    rw [e] at z; cases z
theorem Step.trans {h : Hm} {H S1 H1 S2 H2 : Hp} {α1 α2 : List Addr} {h1 h2 : Hm} (s : Sim W S α h H) (t : Step W S α H S1 α1 h1 H1) (u : Step W S1 α1 H1 S2 α2 h2 H2) : Step W S α H S2 α2 h2 H2 where
  sim := u.sim
  le := t.le.trans u.le
  pre := t.pre.trans u.pre
  frame := fun a o e n => by
    refine u.frame a o (t.frame a o e n) fun m => ?_
    have := t.freshA a m n
    rw [this] at e; cases e
  freshS := fun a ne => by
    by_cases q : S1 a = S a
    · exact t.back s (u.freshS a fun z => ne (z.trans q))
    · exact t.freshS a q
  freshA := fun a m n => by
    by_cases q : a ∈ α1
    · exact t.freshA a q n
    · exact t.back s (u.freshA a m q)

/-! ### a new thing that stands still -/
theorem Sim.tup {h : Hm} {H : Hp} (s : Sim W S α h H) {p : Addr} {o : HO} (n : H p = none) : Step W S α H (upd S p o) α h (upd H p o) := by
  have sp : S p = none := by
    cases q : S p with
    | none => rfl
    | some z => rw [s.le _ _ q] at n; cases n
  have np : ∀ a ∈ α, a ≠ p := fun a m e => by
    obtain ⟨_, z, q⟩ := s.mem m
    rw [e, n] at q; cases q
  have l : Le S (upd S p o) := fun a z q => by rw [upd_ne (ne_of_none q sp)]; exact q
  refine ⟨⟨fun a z q => ?_, s.len, s.nd, fun i c a hc ha => ?_⟩, l, .refl, fun a z q _ => by rw [upd_ne (ne_of_none q n)]; exact q, fun a q => ?_, fun a m k => absurd m k⟩
  · by_cases e : a = p
    · subst e; rw [upd_same] at q ⊢; exact q
    · rw [upd_ne e] at q ⊢; exact s.le a z q
  · obtain ⟨q, z, k, r⟩ := s.cell i c a hc ha
    have ne := np a (List.mem_iff_getElem?.mpr ⟨i, ha⟩)
    exact ⟨by rw [upd_ne ne]; exact q, z, by rw [upd_ne ne]; exact k, r.mono l .refl⟩
  · by_cases e : a = p
    · subst e; exact n
    · rw [upd_ne e] at q; exact absurd rfl q
/-- a new cell -/
theorem Sim.new {h : Hm} {H : Hp} (s : Sim W S α h H) {p : Addr} {c : Cell} {o : HO} (n : H p = none) (r : CellOk W S α c o) : Step W S α H S (α ++ [p]) (h ++ [c]) (upd H p o) := by
  have sp : S p = none := by
    cases q : S p with
    | none => rfl
    | some z => rw [s.le _ _ q] at n; cases n
  have np : ∀ a ∈ α, a ≠ p := fun a m e => by
    obtain ⟨_, z, q⟩ := s.mem m
    rw [e, n] at q; cases q
  refine ⟨⟨fun a z q => by rw [upd_ne (ne_of_none q sp)]; exact s.le a z q, by simp [s.len], ?_, fun i d a hc ha => ?_⟩, .refl, .app, fun a z q _ => by rw [upd_ne (ne_of_none q n)]; exact q, fun a q => absurd rfl q, fun a m k => ?_⟩
  · rw [List.nodup_append]
    refine ⟨s.nd, by simp, fun a m b m2 => ?_⟩
    simp at m2; subst m2
    exact np a m
  · by_cases hi : i < h.length
    · rw [List.getElem?_append_left hi] at hc
      rw [List.getElem?_append_left (by rw [s.len]; exact hi)] at ha
      obtain ⟨q, z, k, r⟩ := s.cell i d a hc ha
      have ne := np a (List.mem_iff_getElem?.mpr ⟨i, ha⟩)
      exact ⟨q, z, by rw [upd_ne ne]; exact k, r.mono .refl .app⟩
    · have hi2 : i = h.length := by
        have := (List.getElem?_eq_some_iff.mp hc).1
        simp at this; omega
      subst hi2
      have e1 : d = c := by simpa using hc.symm
      have e2 : a = p := by
        rw [← s.len] at ha
        simpa using ha.symm
      subst e1 e2
      exact ⟨sp, o, upd_same, r.mono .refl .app⟩
  · have : a = p := by
      rcases List.mem_append.mp m with z | z
      · exact absurd z k
      · simpa using z
    subst this; exact n
theorem Sim.atEnd {h : Hm} {H : Hp} (s : Sim W S α h H) {p : Addr} : (α ++ [p])[h.length]? = some p := by
  rw [← s.len]; simp
/-- a cell is written -/
theorem Sim.set {h : Hm} {H : Hp} (s : Sim W S α h H) {i : Nat} {a : Addr} {c : Cell} {o : HO} (ha : α[i]? = some a) (r : CellOk W S α c o) : Step W S α H S α (h.set i c) (upd H a o) := by
  obtain ⟨c0, hc0, sa, o0, ho0, _⟩ := s.at ha
  have ma : a ∈ α := List.mem_iff_getElem?.mpr ⟨i, ha⟩
  refine ⟨⟨fun b z q => by rw [upd_ne (ne_of_none q sa)]; exact s.le b z q, by simp [s.len], s.nd, fun j d b hd hb => ?_⟩, .refl, .refl, fun b z q n => by rw [upd_ne (fun e => n (by rw [e]; exact ma))]; exact q, fun b q => absurd rfl q, fun b m k => absurd m k⟩
  by_cases e : j = i
  · subst e
    rw [ha] at hb; cases hb
    have hj := (List.getElem?_eq_some_iff.mp hc0).1
    rw [List.getElem?_set_self hj] at hd; cases hd
    exact ⟨sa, o, upd_same, r⟩
  · rw [List.getElem?_set_ne (Ne.symm e)] at hd
    obtain ⟨q, z, k, r⟩ := s.cell j d b hd hb
    have ne : b ≠ a := fun z => e (by
      subst z
      obtain ⟨h1, e1⟩ := List.getElem?_eq_some_iff.mp hb
      obtain ⟨h2, e2⟩ := List.getElem?_eq_some_iff.mp ha
      exact (List.getElem_inj s.nd).mp (e1.trans e2.symm))
    exact ⟨q, z, by rw [upd_ne ne]; exact k, r⟩

/-! ### a call's boundary -/
/-- the cells from n on stand still from now -/
def frz (S : Hp) (α : List Addr) (n : Nat) (H : Hp) : Hp := fun a => if a ∈ α.drop n then H a else S a
theorem Sim.frzLe {h : Hm} {H : Hp} (s : Sim W S α h H) (n : Nat) : Le S (frz S α n H) := fun a o q => by
  unfold frz
  split
  · rename_i m
    have := (s.mem (List.mem_of_mem_drop m)).1
    rw [this] at q; cases q
  · exact q
theorem Sim.deepN {h : Hm} {H : Hp} (s : Sim W S α h H) (n : Nat) : ∀ (m : Nat) (i : Nat) (v : V), Rl W S α (.ref i) v → Rl W (frz S α n H) (α.take n) (deepN n h m i) v
  | m, i, v, q => by
    have q0 := q
    simp only [Rl] at q
    obtain ⟨a, rfl, ha⟩ := q
    by_cases hi : i < n
    · have : Pm.deepN n h m i = .ref i := by cases m <;> simp [Pm.deepN, hi]
      rw [this]
      simp only [Rl]
      exact ⟨a, rfl, by rw [List.getElem?_take_of_lt hi]; exact ha⟩
    · cases m with
      | zero => simp only [Pm.deepN, hi, if_false, Rl]
      | succ m =>
        obtain ⟨c, hc, sa, o, ho, r⟩ := s.at ha
        simp only [Pm.deepN, hi, if_false, hc]
        have ma : a ∈ α.drop n := List.mem_iff_getElem?.mpr ⟨i - n, by rw [List.getElem?_drop]; rw [show n + (i - n) = i by omega]; exact ha⟩
        have fa : frz S α n H a = H a := by unfold frz; rw [if_pos ma]
        have ih := fun i v q => Sim.deepN s n m i v q
        cases c with
        | lst xs =>
          obtain ⟨us, e, r⟩ := r
          subst e
          simp only [cellD, Rl]
          exact ⟨a, us, rfl, fa.trans ho, Rls.map (s.frzLe n) _ ih _ _ r⟩
        | dic ks xs =>
          obtain ⟨us, e, z, r⟩ := r
          subst e
          simp only [cellD, Rl]
          exact ⟨a, us, rfl, fa.trans ho, z, Rls.map (s.frzLe n) _ ih _ _ r⟩
        | ins c fs xs =>
          obtain ⟨dx, us, e, z, r⟩ := r
          subst e
          simp only [cellD, Rl]
          exact ⟨a, dx, us, rfl, fa.trans ho, z, Rls.map (s.frzLe n) _ ih _ _ r⟩
theorem Sim.deep {h : Hm} {H : Hp} (s : Sim W S α h H) (n : Nat) {d : D} {v : V} (q : Rl W S α d v) : Rl W (frz S α n H) (α.take n) (Pm.deep n h d) v :=
  Rl.map (s.frzLe n) _ (fun i v q => s.deepN n _ i v q) d v q
theorem Sim.low {h : Hm} {H : Hp} (s : Sim W S α h H) (n : Nat) : Sim W (frz S α n H) (α.take n) (Pm.low n h) H := by
  refine ⟨fun a o q => ?_, by simp [Pm.low, s.len], s.nd.sublist (List.take_sublist _ _), fun i c a hc ha => ?_⟩
  · unfold frz at q
    split at q
    · exact q
    · exact s.le a o q
  · have hi : i < n := by
      have := (List.getElem?_eq_some_iff.mp ha).1
      simp at this; omega
    rw [List.getElem?_take_of_lt hi] at ha
    unfold Pm.low at hc
    rw [List.getElem?_map, List.getElem?_take_of_lt hi] at hc
    cases e : h[i]? with
    | none => rw [e] at hc; cases hc
    | some c0 =>
      rw [e] at hc
      simp only [Option.map_some, Option.some.injEq] at hc
      subst hc
      obtain ⟨sa, o, ho, r⟩ := s.cell i c0 a e ha
      refine ⟨?_, o, ho, r.map (s.frzLe n) _ fun i v q => s.deepN n _ i v q⟩
      unfold frz
      rw [if_neg fun m => ?_]
      · exact sa
      · obtain ⟨j, hj⟩ := List.mem_iff_getElem?.mp m
        rw [List.getElem?_drop] at hj
        obtain ⟨h1, e1⟩ := List.getElem?_eq_some_iff.mp hj
        obtain ⟨h2, e2⟩ := List.getElem?_eq_some_iff.mp ha
        have := (List.getElem_inj s.nd).mp (e1.trans e2.symm)
        omega
/-- behind a call that ran on the caller's cells -/
theorem Step.shut {h : Hm} {H S1 H1 : Hp} {α1 : List Addr} {h1 : Hm} (s : Sim W S α h H) (t : Step W S α H S1 α1 h1 H1) : Step W S α H (frz S1 α1 h.length H1) α (Pm.low h.length h1) H1 := by
  have e : α1.take h.length = α := by
    rw [← s.len]
    refine List.ext_getElem? fun i => ?_
    by_cases hi : i < α.length
    · rw [List.getElem?_take_of_lt hi]
      rw [List.getElem?_eq_getElem hi]
      exact t.pre i _ (List.getElem?_eq_getElem hi)
    · rw [List.getElem?_eq_none (by simp; omega), List.getElem?_eq_none (by omega)]
  have l := t.sim.low h.length
  rw [e] at l
  refine ⟨l, t.le.trans (t.sim.frzLe _), .refl, t.frame, fun a ne => ?_, fun a m n => absurd m n⟩
  unfold frz at ne
  split at ne
  · rename_i m
    have ma := List.mem_of_mem_drop m
    by_cases q : a ∈ α
    · obtain ⟨j, hj⟩ := List.mem_iff_getElem?.mp m
      rw [List.getElem?_drop] at hj
      obtain ⟨i, hi⟩ := List.mem_iff_getElem?.mp q
      have hi1 := t.pre i a hi
      obtain ⟨z1, e1⟩ := List.getElem?_eq_some_iff.mp hj
      obtain ⟨z2, e2⟩ := List.getElem?_eq_some_iff.mp hi1
      have := (List.getElem_inj t.sim.nd).mp (e1.trans e2.symm)
      have z3 := (List.getElem?_eq_some_iff.mp hi).1
      rw [s.len] at z3
      omega
    · exact t.freshA a ma q
  · exact t.freshS a ne
theorem Step.shutE {h : Hm} {H S1 H1 : Hp} {α1 : List Addr} {h1 : Hm} (s : Sim W S α h H) (t : Step W S α H S1 α1 h1 H1) : α1.take h.length = α := by
  rw [← s.len]
  refine List.ext_getElem? fun i => ?_
  by_cases hi : i < α.length
  · rw [List.getElem?_take_of_lt hi]
    rw [List.getElem?_eq_getElem hi]
    exact t.pre i _ (List.getElem?_eq_getElem hi)
  · rw [List.getElem?_eq_none (by simp; omega), List.getElem?_eq_none (by omega)]
/-- the callee sees no cell of the caller's -/
theorem Sim.alone {h : Hm} {H : Hp} (s : Sim W S α h H) : Sim W S [] [] H := ⟨s.le, rfl, List.nodup_nil, fun i c a hc => by simp at hc⟩
mutual
theorem Rl.alone : ∀ {d : D} {v : V}, noRef d = true → Rl W S α d v → Rl W S β d v
  | .un, _, _, _ => by simp only [Rl]
  | .non, _, _, h | .bl _, _, _, h | .int _, _, _, h | .str _, _, _, h | .cls _, _, _, h | .scr _, _, _, h => by simpa only [Rl] using h
  | .tup xs, v, n, h => by
    simp only [Rl] at h ⊢
    obtain ⟨a, us, e, q, r⟩ := h
    exact ⟨a, us, e, q, Rls.alone (by simpa only [noRef] using n) r⟩
  | .lst xs, v, n, h => by
    simp only [Rl] at h ⊢
    obtain ⟨a, us, e, q, r⟩ := h
    exact ⟨a, us, e, q, Rls.alone (by simpa only [noRef] using n) r⟩
  | .dic ks xs, v, n, h => by
    simp only [Rl] at h ⊢
    obtain ⟨a, us, e, q, z, r⟩ := h
    exact ⟨a, us, e, q, z, Rls.alone (by simpa only [noRef] using n) r⟩
  | .obj c fs xs, v, n, h => by
    simp only [Rl] at h ⊢
    obtain ⟨a, dx, us, e, q, z, r⟩ := h
    exact ⟨a, dx, us, e, q, z, Rls.alone (by simpa only [noRef] using n) r⟩
  | .ref _, _, n, _ => by simp [noRef] at n
  | .xcp c fs xs, v, n, h => by
    simp only [Rl] at h ⊢
    obtain ⟨a, us, e, r, z, q⟩ := h
    exact ⟨a, us, e, Rls.alone (by simpa only [noRef] using n) r, z, q⟩
theorem Rls.alone : ∀ {ds : List D} {vs : List V}, noRefs ds = true → Rls W S α ds vs → Rls W S β ds vs
  | [], _, _, h => by simpa only [Rls] using h
  | x :: xs, vs, n, h => by
    simp only [noRefs, Bool.and_eq_true] at n
    simp only [Rls] at h ⊢
    obtain ⟨u, r, e, h1, h2⟩ := h
    exact ⟨u, r, e, Rl.alone n.1 h1, Rls.alone n.2 h2⟩
end
/-- behind a call that ran on no cell -/
theorem Step.aloneS {h : Hm} {H S1 H1 : Hp} {α1 : List Addr} {h1 : Hm} (s : Sim W S α h H) (t : Step W S [] H S1 α1 h1 H1) : Step W S α H (frz S1 α1 0 H1) α h H1 := by
  have l := t.sim.frzLe 0
  have le := t.le.trans l
  refine ⟨⟨fun a o q => ?_, s.len, s.nd, fun i c a hc ha => ?_⟩, le, .refl, fun a o q _ => t.frame a o q (by simp), fun a ne => ?_, fun a m n => absurd m n⟩
  · unfold frz at q
    split at q
    · exact q
    · exact t.sim.le a o q
  · obtain ⟨sa, o, ho, r⟩ := s.cell i c a hc ha
    have ho1 := t.frame a o ho (by simp)
    refine ⟨?_, o, ho1, r.mono le .refl⟩
    have n1 : a ∉ α1 := fun m => by
      have := t.freshA a m (by simp)
      rw [this] at ho; cases ho
    unfold frz
    rw [if_neg (by simpa using n1)]
    cases q : S1 a with
    | none => rfl
    | some z =>
      have := t.freshS a (by rw [q, sa]; simp)
      rw [this] at ho; cases ho
  · unfold frz at ne
    split at ne
    · rename_i m
      exact t.freshA a (by simpa using m) (by simp)
    · exact t.freshS a ne
end
end Pm

set_option linter.all false
set_option maxRecDepth 100000
set_option maxHeartbeats 1000000
namespace Pm
open PySem PySem.Spec L2

def REv (W : Wd) (S : Hp) (α : List Addr) (e : Ev) (σ : St) : Prop :=
  e.length = σ.length ∧ ∀ (i : Nat) d, e[i]? = some d → d ≠ .un → ∃ v, σ[i]? = some (some v) ∧ Rl W S α d v
theorem REv.mono {W : Wd} {S S' : Hp} {α β : List Addr} {e : Ev} {σ : St} (l : Le S S') (p : Pre α β) (h : REv W S α e σ) : REv W S' β e σ :=
  ⟨h.1, fun i d q n => let ⟨v, a, b⟩ := h.2 i d q n; ⟨v, a, b.mono l p⟩⟩

structure XOk (W : Wd) (S : Hp) (α : List Addr) (c : Nat) (fs : List Nat) (vs : List D) (C : Value) (dd : Option Addr) (H : Hp) : Prop where
  cls : C = .ref (W.ca c)
  dict : (fs = [] ∧ dd = none) ∨ ∃ a l, dd = some a ∧ H a = some (.xd l) ∧ ∀ f d, look f fs vs = some d → ∃ v, l.lookup (W.nm f) = some v ∧ Rl W S α d v

/-- what is wanted of an outcome -/
def PostG {A B : Type} (R : Hp → List Addr → A → B → Prop) (W : Wd) (S : Hp) (α : List Addr) (H : Hp) (r : Rs A) (Q : B → Hp → Prop) (X : Value → Option Addr → Hp → Prop) : Prop := match r with
  | .bad => False
  | .ok a h' => ∀ S' α' H' b, Step W S α H S' α' h' H' → R S' α' a b → Q b H'
  | .exc c fs vs h' => ∀ S' α' H' C dd, Step W S α H S' α' h' H' → XOk W S' α' c fs vs C dd H' → X C dd H'
abbrev PostE (W : Wd) := PostG (Rl W) W
abbrev PostL (W : Wd) := PostG (Rls W) W
def RB (_ : Hp) (_ : List Addr) (a b : Bool) : Prop := a = b

section
variable {A B A' B' : Type} {R : Hp → List Addr → A → B → Prop} {R' : Hp → List Addr → A' → B' → Prop} {W : Wd} {S S1 : Hp} {α α1 : List Addr} {H H1 : Hp} {h h1 : Hm} {X : Value → Option Addr → Hp → Prop}
theorem PostG.after {r : Rs A} {Q : B → Hp → Prop} (s : Sim W S α h H) (t : Step W S α H S1 α1 h1 H1) (p : PostG R W S α H r Q X) : PostG R W S1 α1 H1 r Q X := by
  cases r with
  | bad => exact p
  | ok a h' => exact fun S' α' H' b u q => p S' α' H' b (t.trans s u) q
  | exc c fs vs h' => exact fun S' α' H' C dd u q => p S' α' H' C dd (t.trans s u) q
theorem PostG.bind {r : Rs A} {f : A → Hm → Rs A'} {Q : B' → Hp → Prop} {Q1 : B → Hp → Prop} (s : Sim W S α h H)
    (k : ∀ a h1 S1 α1 H1 b, Step W S α H S1 α1 h1 H1 → R S1 α1 a b → PostG R' W S1 α1 H1 (f a h1) Q X → Q1 b H1) (p : PostG R' W S α H (r.bind f) Q X) : PostG R W S α H r Q1 X := by
  cases r with
  | bad => exact p
  | ok a h' => exact fun S' α' H' b u q => k a h' S' α' H' b u q (PostG.after s u p)
  | exc c fs vs h' => exact p
theorem PostG.imp {r : Rs A} {Q Q' : B → Hp → Prop} (k : ∀ b H', Q b H' → Q' b H') (p : PostG R W S α H r Q X) : PostG R W S α H r Q' X := by
  cases r with
  | bad => exact p
  | ok a h' => exact fun S' α' H' b u q => k _ _ (p S' α' H' b u q)
  | exc c fs vs h' => exact p
/-- the end: nothing more runs -/
theorem PostG.here {a : A} {Q : B → Hp → Prop} {b : B} (s : Sim W S α h H) (p : PostG R W S α H (.ok a h) Q X) (r : R S α a b) : Q b H := p S α H b (.refl s) r
end

/-- a reading by the machine -/
def tG {A B : Type} (R : Wd → Hp → List Addr → A → B → Prop) (W : Wd) (Wx : WX) (run : Ev → Hm → Rs A) : St → Hp → (B → Hp → Prop) → Prop := fun σ H Q =>
  ∃ S α h e, Sim W S α h H ∧ REv W S α e σ ∧ PostG (R W) W S α H (run e h) Q fun C dd H' => Wx C dd σ H'
abbrev tE (W : Wd) (Wx : WX) (run : Ev → Hm → Rs D) : TE := tG Rl W Wx run
abbrev tL (W : Wd) (Wx : WX) (run : Ev → Hm → Rs (List D)) : TA := tG Rls W Wx run
def truR (r : Ev → Hm → Rs D) : Ev → Hm → Rs Bool := fun e h => (r e h).bind fun x h => match truth h x with
  | some b => .ok b h
  | none => .bad
abbrev tT (W : Wd) (Wx : WX) (run : Ev → Hm → Rs D) : TT := tG (fun _ => RB) W Wx (truR run)

theorem _root_.L2.PE.weak {X : Cx} {e : Expr} {t t' : TE} (h : PE X e t) (k : ∀ σ H Q, t' σ H Q → t σ H Q) : PE X e t' := ⟨fun pins s σ H Q I q => h.run pins s σ H Q I (k σ H Q q)⟩
theorem _root_.L2.PT.weak {X : Cx} {e : Expr} {t t' : TT} (h : PT X e t) (k : ∀ σ H Q, t' σ H Q → t σ H Q) : PT X e t' := ⟨fun pins s σ H Q I q => h.run pins s σ H Q I (k σ H Q q)⟩
theorem _root_.L2.PW.weak {X : Cx} {e : Expr} {t t' : TT} (h : PW X e t) (k : ∀ σ H Q, t' σ H Q → t σ H Q) : PW X e t' := ⟨fun wh pins s σ H Q I q => h.run wh pins s σ H Q I (k σ H Q q)⟩
theorem _root_.L2.PA.weak {X : Cx} {e : List Expr} {t t' : TA} (h : PA X e t) (k : ∀ σ H Q, t' σ H Q → t σ H Q) : PA X e t' := ⟨fun pos pins s σ H Q I q => h.run pos pins s σ H Q I (k σ H Q q)⟩
theorem _root_.L2.PS.weak {X : Cx} {e : Stmt} {t t' : TS} (h : PS X e t) (k : ∀ D σ H, t' D σ H → t D σ H) : PS X e t' := ⟨fun pins s σ H D I q => h.run pins s σ H D I (k D σ H q)⟩
theorem _root_.L2.PSs.weak {X : Cx} {e : List Stmt} {t t' : TS} (h : PSs X e t) (k : ∀ D σ H, t' D σ H → t D σ H) : PSs X e t' := ⟨fun pins s σ H D I q => h.run pins s σ H D I (k D σ H q)⟩

section
variable {W : Wd} {Wx : WX} {A B A' B' : Type} {R : Wd → Hp → List Addr → A → B → Prop} {R' : Wd → Hp → List Addr → A' → B' → Prop}
theorem tG.intro {run : Ev → Hm → Rs A} {σ : St} {H S : Hp} {α : List Addr} {h : Hm} {e : Ev} {Q : B → Hp → Prop} (s : Sim W S α h H) (r : REv W S α e σ) (p : PostG (R W) W S α H (run e h) Q fun C dd H' => Wx C dd σ H') : tG R W Wx run σ H Q := ⟨S, α, h, e, s, r, p⟩
/-- one behind another -/
theorem tG.seq {run : Ev → Hm → Rs A} {f : Ev → A → Hm → Rs A'} {σ : St} {H : Hp} {Q : B' → Hp → Prop} {Q1 : B → Hp → Prop}
    (k : ∀ e a h1 S1 α1 H1 b, Sim W S1 α1 h1 H1 → REv W S1 α1 e σ → R W S1 α1 a b → PostG (R' W) W S1 α1 H1 (f e a h1) Q (fun C dd H' => Wx C dd σ H') → Q1 b H1)
    (p : tG R' W Wx (fun e h => (run e h).bind (f e)) σ H Q) : tG R W Wx run σ H Q1 := by
  obtain ⟨S, α, h, e, s, r, p⟩ := p
  exact ⟨S, α, h, e, s, r, p.bind s fun a h1 S1 α1 H1 b t q p1 => k e a h1 S1 α1 H1 b t.sim (r.mono t.le t.pre) q p1⟩
end

/-! ### values -/
section
variable {X : Cx} {W : Wd} {Wx : WX} {pr : Pr} {φ : Nat → List D → Hm → Rs D}
def flatD : D → Option V
  | .non => some .non
  | .bl b => some (.bl b)
  | .int i => some (.int i)
  | .str x => some (.str x)
  | _ => none
theorem flatD_rl {S : Hp} {α : List Addr} {d : D} {v : V} (h : flatD d = some v) : Rl W S α d v := by
  cases d <;> simp [flatD] at h <;> subst h <;> simp only [Rl]
theorem m_k {d : D} {v : V} {e : Expr} (hp : PE X e (tC v)) (hd : flatD d = some v) : PE X e (tE W Wx (evE pr φ (.k d))) := hp.weak fun σ H Q ⟨S, α, h, e, s, r, p⟩ => by
  simp only [evE] at p
  exact PostG.here s p (flatD_rl hd)
theorem m_v {i : Nat} {e : Expr} (hp : PE X e (tVar i)) : PE X e (tE W Wx (evE pr φ (.v i))) := hp.weak fun σ H Q ⟨S, α, h, e, s, r, p⟩ => by
  simp only [evE] at p
  cases q : e[i]? with
  | none => rw [q] at p; exact p.elim
  | some d =>
    rw [q] at p
    by_cases hu : d = .un
    · subst hu; exact p.elim
    · obtain ⟨v, hv, rv⟩ := r.2 i d q hu
      refine ⟨v, hv, ?_⟩
      have p' : PostE W S α H (.ok d h) Q fun C dd H' => Wx C dd σ H' := by
        cases d <;> first | exact absurd rfl hu | exact p
      exact PostG.here s p' rv
end
/-! ### what a value says of the heap -/
section
variable {X : Cx} {W : Wd} {Wx : WX} {S : Hp} {α : List Addr} {h : Hm} {H : Hp}
theorem items_ok (s : Sim W S α h H) {d : D} {v : V} {xs : List D} (e : items? h d = some xs) (r : Rl W S α d v) : ∃ a us, v = .ref a ∧ H a = some (.lst us) ∧ Rls W S α xs us := by
  cases d with
  | lst ys =>
    simp only [items?, Option.some.injEq] at e
    subst e
    simp only [Rl] at r
    obtain ⟨a, us, e1, q, r⟩ := r
    exact ⟨a, us, e1, s.le _ _ q, r⟩
  | ref n =>
    simp only [Rl] at r
    obtain ⟨a, e1, ha⟩ := r
    obtain ⟨c, hc, _, o, ho, rc⟩ := s.at ha
    simp only [items?, hc] at e
    cases c with
    | lst ys =>
      simp only [Option.some.injEq] at e
      subst e
      obtain ⟨us, e2, rc⟩ := rc
      subst e2
      exact ⟨a, us, e1, ho, rc⟩
    | _ => simp at e
  | _ => simp [items?] at e
theorem seq_ok (s : Sim W S α h H) {d : D} {v : V} {xs : List D} (e : seq? h d = some xs) (r : Rl W S α d v) : ∃ a us, v = .ref a ∧ (SqT W.K H a us ∨ H a = some (.lst us)) ∧ Rls W S α xs us := by
  cases d with
  | tup ys =>
    simp only [seq?, Option.some.injEq] at e
    subst e
    simp only [Rl] at r
    obtain ⟨a, us, e1, q, r⟩ := r
    exact ⟨a, us, e1, .inl (sqT_le s.le q), r⟩
  | lst ys =>
    obtain ⟨a, us, e1, q, r⟩ := items_ok s (show items? h (.lst ys) = some xs from e) r
    exact ⟨a, us, e1, .inr q, r⟩
  | ref n =>
    obtain ⟨a, us, e1, q, r⟩ := items_ok s (show items? h (.ref n) = some xs from e) r
    exact ⟨a, us, e1, .inr q, r⟩
  | _ => simp [seq?, items?] at e
theorem dict_ok (s : Sim W S α h H) {d : D} {v : V} {ks : List Key} {xs : List D} (e : dict? h d = some (ks, xs)) (r : Rl W S α d v) : ∃ a us, v = .ref a ∧ H a = some (.dK (ks.zip us)) ∧ ks.length = us.length ∧ Rls W S α xs us := by
  cases d with
  | dic k2 ys =>
    simp only [dict?, Option.some.injEq, Prod.mk.injEq] at e
    obtain ⟨rfl, rfl⟩ := e
    simp only [Rl] at r
    obtain ⟨a, us, e1, q, z, r⟩ := r
    exact ⟨a, us, e1, s.le _ _ q, z, r⟩
  | ref n =>
    simp only [Rl] at r
    obtain ⟨a, e1, ha⟩ := r
    obtain ⟨c, hc, _, o, ho, rc⟩ := s.at ha
    simp only [dict?, hc] at e
    cases c with
    | dic k2 ys =>
      simp only [Option.some.injEq, Prod.mk.injEq] at e
      obtain ⟨rfl, rfl⟩ := e
      obtain ⟨us, e2, z, rc⟩ := rc
      subst e2
      exact ⟨a, us, e1, ho, z, rc⟩
    | _ => simp at e
  | _ => simp [dict?] at e
theorem inst_ok (s : Sim W S α h H) {d : D} {v : V} {c : Nat} {fs : List Nat} {xs : List D} (e : inst? h d = some (c, fs, xs)) (r : Rl W S α d v) :
    ∃ a dx us, v = .ref a ∧ H a = some (.ins (W.ca c) dx ((fs.map W.nm).zip us)) ∧ fs.length = us.length ∧ Rls W S α xs us := by
  cases d with
  | obj c2 f2 ys =>
    simp only [inst?, Option.some.injEq, Prod.mk.injEq] at e
    obtain ⟨rfl, rfl, rfl⟩ := e
    simp only [Rl] at r
    obtain ⟨a, dx, us, e1, q, z, r⟩ := r
    exact ⟨a, dx, us, e1, s.le _ _ q, z, r⟩
  | ref n =>
    simp only [Rl] at r
    obtain ⟨a, e1, ha⟩ := r
    obtain ⟨c0, hc, _, o, ho, rc⟩ := s.at ha
    simp only [inst?, hc] at e
    cases c0 with
    | ins c2 f2 ys =>
      simp only [Option.some.injEq, Prod.mk.injEq] at e
      obtain ⟨rfl, rfl, rfl⟩ := e
      obtain ⟨dx, us, e2, z, rc⟩ := rc
      subst e2
      exact ⟨a, dx, us, e1, ho, z, rc⟩
    | _ => simp at e
  | _ => simp [inst?] at e
theorem lim : sizeLine = LIM := sizeLine_eq
theorem newL_ok {xs : List D} {us : List V} {Q : VK} {E : Value → Option Addr → Hp → Prop} (s : Sim W S α h H) (r : Rls W S α xs us) (p : PostE W S α H (newL xs h) Q E) :
    us.length ≤ sizeLine ∧ ∀ q, H q = none → Q (.ref q) (upd H q (.lst us)) := by
  unfold newL at p
  split at p
  · rename_i hl
    refine ⟨by rw [lim, ← r.length]; exact hl, fun q n => ?_⟩
    refine p _ _ _ _ (s.new n (c := .lst xs) (o := .lst us) ⟨us, rfl, r⟩) ?_
    simp only [Rl]
    exact ⟨q, rfl, s.atEnd⟩
  · exact p.elim
end

/-! ### operators -/
section
variable {X : Cx} {W : Wd} {Wx : WX} {pr : Pr} {φ : Nat → List D → Hm → Rs D}
/-- a two-place operation by the machine -/
def rOp (W : Wd) (f : D → D → Hm → Rs D) : R2 := fun x y H Q => ∃ S α h dx dy, Sim W S α h H ∧ Rl W S α dx x ∧ Rl W S α dy y ∧ PostE W S α H (f dx dy h) Q fun _ _ _ => False
def Quiet {A : Type} (r : Rs A) : Prop := match r with
  | .exc _ _ _ _ => False
  | _ => True
theorem PostG.quiet {A B : Type} {R : Hp → List Addr → A → B → Prop} {S : Hp} {α : List Addr} {H : Hp} {r : Rs A} {Q : B → Hp → Prop} {E E' : Value → Option Addr → Hp → Prop} (q : Quiet r) (p : PostG R W S α H r Q E) : PostG R W S α H r Q E' := by
  cases r with
  | bad => exact p
  | ok a h' => exact p
  | exc c fs vs h' => exact q.elim
def boP : Bop → Operator
  | .add => .Add | .sub => .Sub | .mul => .Mult | .fdiv => .FloorDiv | .mod => .Mod | .pow => .Pow
theorem newL_quiet (xs : List D) (h : Hm) : Quiet (newL xs h) := by unfold newL; split <;> exact trivial
theorem binD_quiet (o : Bop) (x y : D) (h : Hm) : Quiet (binD o x y h) := by
  unfold binD
  split <;> (try split) <;> (try split) <;> first | exact trivial | exact newL_quiet _ _
theorem log2_lt {n : Nat} (h : n < 2 ^ 256) : n.log2 < 9000 := by
  by_cases z : n = 0
  · subst z; decide
  · rw [Nat.log2_lt z]
    exact Nat.lt_trans h (Nat.pow_lt_pow_right (by decide) (by decide))
theorem w64 : W64 = 2 ^ 64 := by decide
theorem op_binD (hK : W.K = X.K) (o : Bop) : OpR X (binaryOp (boP o)) (rOp W (binD o)) := by
  intro pins s σ H x y v u Q I rx ry ⟨S, α, h, dx, dy, sm, lx, ly, p⟩
  have cat : ∀ {xs ys : List D}, o = .add → items? h dx = some xs → items? h dy = some ys → PostE W S α H (newL (xs ++ ys) h) Q (fun _ _ _ => False) → wpAny (model X.prog X.w) X.A (binaryOp (boP o) v u) (EP X pins σ Q) X.xe s := by
    intro xs ys ho e1 e2 p2
    subst ho
    obtain ⟨a, us, rfl, q1, r1⟩ := items_ok sm e1 lx
    obtain ⟨b, ws, rfl, q2, r2⟩ := items_ok sm e2 ly
    obtain ⟨z, k⟩ := newL_ok sm (r1.app r2) p2
    exact op_cat pins s σ H _ _ v u Q I rx ry ⟨a, b, us, ws, rfl, rfl, q1, q2, by simpa using z, k⟩
  cases o with
  | add =>
    cases dx <;> cases dy <;> simp only [binD] at p <;>
      first
      | (split at p <;> first | exact p.elim | (rename_i e1 e2; exact cat rfl e1 e2 p))
      | (simp only [Rl] at lx ly; subst lx ly; exact op_add pins s σ H _ _ v u Q I rx ry ⟨_, _, rfl, rfl, PostG.here sm p (by simp only [Rl])⟩)
      | skip
    · rename_i a b
      simp only [Rl] at lx ly
      subst lx ly
      split at p
      · rename_i hl
        exact op_add_str pins s σ H _ _ v u Q I rx ry ⟨_, _, rfl, rfl, by rw [lim]; exact hl, PostG.here sm p (by simp only [Rl])⟩
      · exact p.elim
  | sub =>
    cases dx <;> cases dy <;> simp only [binD] at p <;> first | exact p.elim | skip
    simp only [Rl] at lx ly
    subst lx ly
    exact op_sub pins s σ H _ _ v u Q I rx ry ⟨_, _, rfl, rfl, PostG.here sm p (by simp only [Rl])⟩
  | mul =>
    cases dy <;> try (cases dx <;> exact p.elim)
    rename_i k
    have rep : ∀ {xs : List D}, items? h dx = some xs → (if -9223372036854775808 ≤ k ∧ k < 9223372036854775808 then newL (List.replicate k.toNat xs).flatten h else .bad) = binD .mul dx (.int k) h →
        wpAny (model X.prog X.w) X.A (binaryOp (boP .mul) v u) (EP X pins σ Q) X.xe s := by
      intro xs e1 e2
      rw [← e2] at p
      split at p
      · rename_i hk
        obtain ⟨a, us, rfl, q1, r1⟩ := items_ok sm e1 lx
        simp only [Rl] at ly
        subst ly
        obtain ⟨z, kk⟩ := newL_ok sm (r1.rep k.toNat) p
        refine op_rep pins s σ H _ _ v u Q I rx ry ⟨a, k, us, rfl, rfl, q1, hk.1, hk.2, ?_, kk⟩
        simpa [List.length_flatten, Nat.mul_comm] using z
      · exact p.elim
    cases dx <;> first
      | (simp only [binD, items?] at p; exact p.elim)
      | (rename_i xs; exact rep (xs := xs) rfl (by simp only [binD, items?]))
      | skip
    · rename_i i
      simp only [Rl] at lx ly
      subst lx ly
      simp only [binD] at p
      split at p
      · rename_i hk
        rw [w64] at hk
        exact op_mul pins s σ H _ _ v u Q I rx ry ⟨_, _, rfl, rfl, hk, PostG.here sm p (by simp only [Rl])⟩
      · exact p.elim
    · rename_i n
      cases e : items? h (.ref n) with
      | none => simp only [binD, e] at p; exact p.elim
      | some xs => exact rep e (by simp only [binD, e])
  | fdiv =>
    cases dx <;> cases dy <;> simp only [binD] at p <;> first | exact p.elim | skip
    rename_i i j
    simp only [Rl] at lx ly
    subst lx ly
    split at p
    · rename_i hk
      refine op_fdivW pins s σ H _ _ v u Q I rx ry ⟨_, _, rfl, rfl, ⟨hk.1, ?_⟩, PostG.here sm p (by simp only [Rl])⟩
      have h2 := hk.2
      have h1 := hk.1
      refine log2_lt ?_
      have e : W256 = ((2 ^ 256 : Nat) : Int) := by decide +kernel
      rw [e] at h2
      omega
    · exact p.elim
  | mod =>
    cases dx <;> cases dy <;> simp only [binD] at p <;> first | exact p.elim | skip
    simp only [Rl] at lx ly
    subst lx ly
    split at p
    · rename_i hk
      exact op_mod pins s σ H _ _ v u Q I rx ry ⟨_, _, rfl, rfl, hk, PostG.here sm p (by simp only [Rl])⟩
    · exact p.elim
  | pow =>
    cases dx <;> cases dy <;> simp only [binD] at p <;> first | exact p.elim | skip
    simp only [Rl] at lx ly
    subst lx ly
    split at p
    · rename_i hk
      refine op_pow pins s σ H _ _ v u Q I rx ry ⟨_, _, rfl, rfl, ⟨hk.1, hk.2.1, ?_⟩, PostG.here sm p (by simp only [Rl])⟩
      have := hk.2.2
      rw [w64] at this
      omega
    · exact p.elim
end
end Pm

set_option linter.all false
set_option maxRecDepth 100000
set_option maxHeartbeats 1000000
namespace Pm
open PySem PySem.Spec L2

/-! ### data -/
mutual
def pyD : D → PyData
  | .bl b => .bool b
  | .int i => .int i
  | .str x => .str x
  | .tup xs => .tuple (pyDs xs)
  | .lst xs => .list (pyDs xs)
  | _ => .none
def pyDs : List D → List PyData
  | [] => []
  | x :: r => pyD x :: pyDs r
end
mutual
theorem plain_py : ∀ d : D, (pyD d).plain = true
  | .un | .non | .bl _ | .int _ | .str _ | .dic _ _ | .obj _ _ _ | .ref _ | .cls _ | .scr _ | .xcp _ _ _ => by simp only [pyD, PyData.plain]
  | .tup xs => by simp only [pyD, PyData.plain, plain_pys xs]
  | .lst xs => by simp only [pyD, PyData.plain, plain_pys xs]
theorem plain_pys : ∀ ds : List D, PyData.plainAll (pyDs ds) = true
  | [] => by simp only [pyDs, PyData.plainAll]
  | x :: xs => by simp only [pyDs, PyData.plainAll, plain_py x, plain_pys xs, Bool.and_self]
end
mutual
theorem dep_py : ∀ d : D, (pyD d).depth = depD d
  | .un | .non | .bl _ | .int _ | .str _ | .dic _ _ | .obj _ _ _ | .ref _ | .cls _ | .scr _ | .xcp _ _ _ => by simp only [pyD, PyData.depth, depD]
  | .tup xs => by simp only [pyD, PyData.depth, depD, dep_pys xs]
  | .lst xs => by simp only [pyD, PyData.depth, depD, dep_pys xs]
theorem dep_pys : ∀ ds : List D, PyData.depthAll (pyDs ds) = depDs ds
  | [] => by simp only [pyDs, PyData.depthAll, depDs]
  | x :: xs => by simp only [pyDs, PyData.depthAll, depDs, dep_py x, dep_pys xs]
end
mutual
theorem eqv_py : ∀ a b : D, plainD a = true → plainD b = true → PyData.eqv (pyD a) (pyD b) = eqd a b
  | .un, b, h, _ => by simp [plainD] at h
  | .dic _ _, b, h, _ => by simp [plainD] at h
  | .obj _ _ _, b, h, _ => by simp [plainD] at h
  | .ref _, b, h, _ => by simp [plainD] at h
  | .cls _, b, h, _ => by simp [plainD] at h
  | .scr _, b, h, _ => by simp [plainD] at h
  | .xcp _ _ _, b, h, _ => by simp [plainD] at h
  | .non, b, _, hb => by cases b <;> first | (simp [plainD] at hb; done) | simp [pyD, PyData.eqv, eqd]
  | .bl x, b, _, hb => by cases b <;> first | (simp [plainD] at hb; done) | simp [pyD, PyData.eqv, eqd]
  | .int x, b, _, hb => by cases b <;> first | (simp [plainD] at hb; done) | (simp [pyD, PyData.eqv, eqd]; try rfl)
  | .str x, b, _, hb => by cases b <;> first | (simp [plainD] at hb; done) | (simp [pyD, PyData.eqv, eqd]; try rfl)
  | .tup xs, b, h, hb => by
    cases b <;> first | (simp [plainD] at hb; done) | skip
    case tup ys => simp only [pyD, PyData.eqv, eqd]; exact eqv_pys xs ys (by simpa only [plainD] using h) (by simpa only [plainD] using hb)
    all_goals simp [pyD, PyData.eqv, eqd]
  | .lst xs, b, h, hb => by
    cases b <;> first | (simp [plainD] at hb; done) | skip
    case lst ys => simp only [pyD, PyData.eqv, eqd]; exact eqv_pys xs ys (by simpa only [plainD] using h) (by simpa only [plainD] using hb)
    all_goals simp [pyD, PyData.eqv, eqd]
theorem eqv_pys : ∀ a b : List D, plainDs a = true → plainDs b = true → PyData.eqvAll (pyDs a) (pyDs b) = eqds a b
  | [], [], _, _ => by simp only [pyDs, PyData.eqvAll, eqds]
  | [], _ :: _, _, _ => by simp only [pyDs, PyData.eqvAll, eqds]
  | _ :: _, [], _, _ => by simp only [pyDs, PyData.eqvAll, eqds]
  | x :: xs, y :: ys, h, k => by
    simp only [plainDs, Bool.and_eq_true] at h k
    simp only [pyDs, PyData.eqvAll, eqds, eqv_py x y h.1 k.1, eqv_pys xs ys h.2 k.2]
end
section
variable {W : Wd} {S H : Hp} {α : List Addr}
mutual
theorem dp_of (l : Le S H) : ∀ (d : D) (v : V), plainD d = true → Rl W S α d v → Dp W.K H v (pyD d)
  | .un, _, h, _ | .dic _ _, _, h, _ | .obj _ _ _, _, h, _ | .ref _, _, h, _ | .cls _, _, h, _ | .scr _, _, h, _ | .xcp _ _ _, _, h, _ => by simp [plainD] at h
  | .non, v, _, r => by simp only [Rl] at r; subst r; exact .non
  | .bl b, v, _, r => by simp only [Rl] at r; subst r; exact .bl b
  | .int b, v, _, r => by simp only [Rl] at r; subst r; exact .int b
  | .str b, v, _, r => by simp only [Rl] at r; subst r; exact .str b
  | .tup xs, v, h, r => by
    simp only [Rl] at r
    obtain ⟨a, us, e, q, r⟩ := r
    subst e
    exact .tup (sqT_le l q) (dps_of l xs us (by simpa only [plainD] using h) r)
  | .lst xs, v, h, r => by
    simp only [Rl] at r
    obtain ⟨a, us, e, q, r⟩ := r
    subst e
    exact .lst (SqL.of (l _ _ q)) (dps_of l xs us (by simpa only [plainD] using h) r)
theorem dps_of (l : Le S H) : ∀ (ds : List D) (vs : List V), plainDs ds = true → Rls W S α ds vs → DpAll W.K H vs (pyDs ds)
  | [], vs, _, r => by simp only [Rls] at r; subst r; exact .nil
  | x :: xs, vs, h, r => by
    simp only [Rls] at r
    simp only [plainDs, Bool.and_eq_true] at h
    obtain ⟨u, t, e, r1, r2⟩ := r
    subst e
    exact .cons (dp_of l x u h.1 r1) (dps_of l xs t h.2 r2)
end
end

section
variable {X : Cx} {W : Wd} {Wx : WX} {pr : Pr} {φ : Nat → List D → Hm → Rs D}
variable {pins : List (Addr × Obj)} {s : Shared} {σ : L2.St} {H S : Hp} {α : List Addr} {h : Hm}
theorem reads_of (hK : W.K = X.K) (I : Inv X pins σ H s) (sm : Sim W S α h H) {d : D} {v : V} {u : Value} (r : Rl W S α d v) (ru : RelV v u) (p : plainD (deep 0 h d) = true) : ∃ as, Reads s.heap u (pyD (deep 0 h d)) as := by
  have q := sm.deep 0 r
  have l := (sm.low 0).le
  exact Dp.reads I _ v u (hK ▸ dp_of l _ _ p q) ru
theorem eqD_some {x y : D} {b : Bool} (e : eqD h x y = some b) : plainD (deep 0 h x) = true ∧ plainD (deep 0 h y) = true ∧ (depD (deep 0 h x) ≤ 60 ∨ depD (deep 0 h y) ≤ 60) ∧ b = eqd (deep 0 h x) (deep 0 h y) := by
  unfold eqD eqP at e
  split at e
  · rename_i c
    simp only [Bool.and_eq_true, Bool.or_eq_true, decide_eq_true_eq] at c
    exact ⟨c.1.1, c.1.2, c.2, (Option.some.inj e).symm⟩
  · cases e
theorem op_eqM (hK : W.K = X.K) (hu : X.A.units + 64 < cLine) : OpR X (compareOp .Eq) (rOp W (fun x y h => cmpR h .eq x y)) := by
  intro pins s σ H x y v u Q I rx ry ⟨S, α, h, dx, dy, sm, lx, ly, p⟩
  simp only [cmpR, cmpD] at p
  cases e : eqD h dx dy with
  | none => rw [e] at p; exact p.elim
  | some b =>
    rw [e] at p
    obtain ⟨p1, p2, dd, rfl⟩ := eqD_some e
    obtain ⟨as, r1⟩ := reads_of hK I sm lx rx p1
    obtain ⟨bs, r2⟩ := reads_of hK I sm ly ry p2
    refine SeqAt.eq_plain r1 r2 (plain_py _) (plain_py _) (by rw [dep_py, dep_py]; omega) ?_
    rw [eqv_py _ _ p1 p2]
    exact ⟨.bl _, H, I, rfl, PostG.here sm p (by simp only [Rl])⟩
theorem op_neM (hK : W.K = X.K) (hu : X.A.units + 64 < cLine) : OpR X (compareOp .NotEq) (rOp W (fun x y h => cmpR h .ne x y)) := by
  intro pins s σ H x y v u Q I rx ry ⟨S, α, h, dx, dy, sm, lx, ly, p⟩
  simp only [cmpR, cmpD] at p
  cases e : eqD h dx dy with
  | none => rw [e] at p; exact p.elim
  | some b =>
    rw [e] at p
    obtain ⟨p1, p2, dd, rfl⟩ := eqD_some e
    obtain ⟨as, r1⟩ := reads_of hK I sm lx rx p1
    obtain ⟨bs, r2⟩ := reads_of hK I sm ly ry p2
    refine SeqAt.ne_plain r1 r2 (plain_py _) (plain_py _) (by rw [dep_py, dep_py]; omega) ?_
    rw [eqv_py _ _ p1 p2]
    exact ⟨.bl _, H, I, rfl, PostG.here sm p (by simp only [Rl])⟩
theorem rl_int {i : Int} {v : V} (r : Rl W S α (.int i) v) : v = .int i := by simpa only [Rl] using r
theorem rl_str {i : Str} {v : V} (r : Rl W S α (.str i) v) : v = .str i := by simpa only [Rl] using r
theorem rl_bl {i : Bool} {v : V} (r : Rl W S α (.bl i) v) : v = .bl i := by simpa only [Rl] using r
theorem rl_non {v : V} (r : Rl W S α .non v) : v = .non := by simpa only [Rl] using r
theorem op_ltM : OpR X (compareOp .Lt) (rOp W (fun x y h => cmpR h .lt x y)) := by
  intro pins s σ H x y v u Q I rx ry ⟨S, α, h, dx, dy, sm, lx, ly, p⟩
  cases dx <;> cases dy <;> simp only [cmpR, cmpD] at p <;> first | exact p.elim | skip
  · obtain rfl := rl_int lx; obtain rfl := rl_int ly
    exact op_lt pins s σ H _ _ v u Q I rx ry ⟨_, _, rfl, rfl, PostG.here sm p (by simp only [Rl])⟩
  · obtain rfl := rl_str lx; obtain rfl := rl_str ly
    exact op_lt_str pins s σ H _ _ v u Q I rx ry ⟨_, _, rfl, rfl, PostG.here sm p (by simp only [Rl, strL])⟩
theorem op_leM : OpR X (compareOp .LtE) (rOp W (fun x y h => cmpR h .le x y)) := by
  intro pins s σ H x y v u Q I rx ry ⟨S, α, h, dx, dy, sm, lx, ly, p⟩
  cases dx <;> cases dy <;> simp only [cmpR, cmpD] at p <;> first | exact p.elim | skip
  · obtain rfl := rl_int lx; obtain rfl := rl_int ly
    exact op_le pins s σ H _ _ v u Q I rx ry ⟨_, _, rfl, rfl, PostG.here sm p (by simp only [Rl])⟩
  · obtain rfl := rl_str lx; obtain rfl := rl_str ly
    exact op_le_str pins s σ H _ _ v u Q I rx ry ⟨_, _, rfl, rfl, PostG.here sm p (by simp only [Rl, strL])⟩
theorem op_gtM : OpR X (compareOp .Gt) (rOp W (fun x y h => cmpR h .gt x y)) := by
  intro pins s σ H x y v u Q I rx ry ⟨S, α, h, dx, dy, sm, lx, ly, p⟩
  cases dx <;> cases dy <;> simp only [cmpR, cmpD] at p <;> first | exact p.elim | skip
  obtain rfl := rl_int lx; obtain rfl := rl_int ly
  exact op_gt pins s σ H _ _ v u Q I rx ry ⟨_, _, rfl, rfl, PostG.here sm p (by simp only [Rl])⟩
theorem op_geM : OpR X (compareOp .GtE) (rOp W (fun x y h => cmpR h .ge x y)) := by
  intro pins s σ H x y v u Q I rx ry ⟨S, α, h, dx, dy, sm, lx, ly, p⟩
  cases dx <;> cases dy <;> simp only [cmpR, cmpD] at p <;> first | exact p.elim | skip
  obtain rfl := rl_int lx; obtain rfl := rl_int ly
  exact op_ge pins s σ H _ _ v u Q I rx ry ⟨_, _, rfl, rfl, PostG.here sm p (by simp only [Rl])⟩
/-- what is not None -/
theorem rl_notnon : ∀ {d : D} {v : V}, d ≠ .un → d ≠ .non → Rl W S α d v → v ≠ .non
  | .un, _, h, _, _ => absurd rfl h
  | .non, _, _, h, _ => absurd rfl h
  | .bl _, _, _, _, r | .int _, _, _, _, r | .str _, _, _, _, r | .cls _, _, _, _, r => by simp only [Rl] at r; subst r; simp
  | .tup _, _, _, _, r | .lst _, _, _, _, r | .dic _ _, _, _, _, r | .ref _, _, _, _, r | .scr _, _, _, _, r => by
    simp only [Rl] at r
    obtain ⟨a, r⟩ := r
    first
    | (obtain ⟨us, e, _⟩ := r; subst e; simp)
    | (obtain ⟨e, _⟩ := r; subst e; simp)
  | .obj _ _ _, _, _, _, r => by
    simp only [Rl] at r
    obtain ⟨a, dx, us, e, _⟩ := r
    subst e; simp
  | .xcp _ _ _, _, _, _, r => by
    simp only [Rl] at r
    obtain ⟨a, us, e, _⟩ := r
    rw [e]; exact fun z => nomatch z
theorem op_isM : OpR X (compareOp .Is) (rOp W (fun x y h => cmpR h .is x y)) := by
  intro pins s σ H x y v u Q I rx ry ⟨S, α, h, dx, dy, sm, lx, ly, p⟩
  cases dy <;> cases dx <;> simp only [cmpR, cmpD] at p <;> first | exact p.elim | skip
  case bl.bl =>
    obtain rfl := rl_bl lx; obtain rfl := rl_bl ly
    exact op_isBl pins s σ H _ _ v u Q I rx ry ⟨_, _, rfl, rfl, by
      have := PostG.here (b := V.bl (decide (_ = _))) sm p (by simp only [Rl, V.bl.injEq]; first | rfl | (rw [Bool.beq_eq_decide_eq]))
      exact this⟩
  case non.non =>
    obtain rfl := rl_non lx; obtain rfl := rl_non ly
    exact op_isN pins s σ H _ _ v u Q I rx ry ⟨rfl, PostG.here sm p (by simp [Rl])⟩
  all_goals
    obtain rfl := rl_non ly
    have ne := rl_notnon (by simp) (by simp) lx
    exact op_isN pins s σ H _ _ v u Q I rx ry ⟨rfl, PostG.here sm p (by simp [Rl, ne])⟩
theorem op_isnotM : OpR X (compareOp .IsNot) (rOp W (fun x y h => cmpR h .isnot x y)) := by
  intro pins s σ H x y v u Q I rx ry ⟨S, α, h, dx, dy, sm, lx, ly, p⟩
  cases dy <;> cases dx <;> simp only [cmpR, cmpD] at p <;> first | exact p.elim | skip
  case bl.bl =>
    obtain rfl := rl_bl lx; obtain rfl := rl_bl ly
    exact op_notBl pins s σ H _ _ v u Q I rx ry ⟨_, _, rfl, rfl, by
      have := PostG.here (b := V.bl (!decide (_ = _))) sm p (by simp only [Rl, V.bl.injEq]; first | rfl | (rw [Bool.beq_eq_decide_eq]))
      exact this⟩
  case non.non =>
    obtain rfl := rl_non lx; obtain rfl := rl_non ly
    exact op_notN pins s σ H _ _ v u Q I rx ry ⟨rfl, PostG.here sm p (by simp [Rl])⟩
  all_goals
    obtain rfl := rl_non ly
    have ne := rl_notnon (by simp) (by simp) lx
    exact op_notN pins s σ H _ _ v u Q I rx ry ⟨rfl, PostG.here sm p (by simp [Rl, ne])⟩
end
end Pm

set_option linter.all false
set_option maxRecDepth 100000
set_option maxHeartbeats 1000000
namespace Pm
open PySem PySem.Spec L2

theorem mapDs_map (g : Nat → D) : ∀ ds : List D, mapDs g ds = ds.map (mapD g)
  | [] => by simp only [mapDs, List.map_nil]
  | x :: xs => by simp only [mapDs, mapDs_map g xs, List.map_cons]
theorem pyDs_map : ∀ ds : List D, pyDs ds = ds.map pyD
  | [] => by simp only [pyDs, List.map_nil]
  | x :: xs => by simp only [pyDs, pyDs_map xs, List.map_cons]
theorem plainDs_all : ∀ {ds : List D}, plainDs ds = true → ∀ d ∈ ds, plainD d = true
  | [], _, _, m => by simp at m
  | x :: xs, h, d, m => by
    simp only [plainDs, Bool.and_eq_true] at h
    rcases List.mem_cons.mp m with e | m
    · rw [e]; exact h.1
    · exact plainDs_all h.2 d m
theorem any_py {d : D} (hd : plainD d = true) : ∀ {ds : List D}, plainDs ds = true → (pyDs ds).any (fun y => PyData.eqv y (pyD d)) = ds.any fun y => eqd y d
  | [], _ => by simp [pyDs]
  | x :: xs, h => by
    simp only [plainDs, Bool.and_eq_true] at h
    simp only [pyDs, List.any_cons, eqv_py x d h.1 hd, any_py hd h.2]

/-! ### dicts by keys and values -/
theorem lookK_val {W : Wd} {S : Hp} {α : List Addr} (k : Key) : ∀ {ks : List Key} {vs : List D} {us : List V}, ks.length = us.length → Rls W S α vs us →
    (∀ d, lookK k ks vs = some d → ∃ v, valV (ks.zip us) k = some v ∧ Rl W S α d v) ∧ (lookK k ks vs = none → valV (ks.zip us) k = none)
  | [], vs, us, _, _ => ⟨fun d e => by simp [lookK] at e, fun _ => by simp [valV]⟩
  | g :: gs, [], us, hl, r => by simp only [Rls] at r; subst r; simp at hl
  | g :: gs, x :: xs, us, hl, r => by
    simp only [Rls] at r
    obtain ⟨u, t, e, r1, r2⟩ := r
    subst e
    have hl' : gs.length = t.length := by simpa using hl
    obtain ⟨i1, i2⟩ := lookK_val k hl' r2
    simp only [lookK, List.zip_cons_cons]
    by_cases h : g = k
    · rw [if_pos h]
      refine ⟨fun d e => ⟨u, valV_pos h, by cases e; exact r1⟩, fun e => by cases e⟩
    · rw [if_neg h]
      exact ⟨fun d e => by rw [valV_neg (p := (g, u)) h]; exact i1 d e, fun e => by rw [valV_neg (p := (g, u)) h]; exact i2 e⟩
theorem any_zip (k : Key) : ∀ {ks : List Key} {us : List V}, ks.length = us.length → (ks.zip us).any (fun kv => decide (kv.1 = k)) = ks.any fun g => decide (g = k)
  | [], _, _ => by simp
  | g :: gs, [], h => by simp at h
  | g :: gs, u :: us, h => by simp only [List.zip_cons_cons, List.any_cons]; rw [any_zip k (by simpa using h)]
theorem key_kV {W : Wd} {S : Hp} {α : List Addr} {d : D} {v : V} {k : Key} (e : key? d = some k) (r : Rl W S α d v) : v = kV k := by
  cases d <;> simp [key?] at e <;> subst e
  · exact rl_int r
  · exact rl_str r

section
variable {X : Cx} {W : Wd} {Wx : WX} {pr : Pr} {φ : Nat → List D → Hm → Rs D}
variable {pins : List (Addr × Obj)} {s : Shared} {σ : L2.St} {H S : Hp} {α : List Addr} {h : Hm}
theorem one_sign {a : Str} (e : a.length = 1) : a = ⟨#[a.cps.toList.headD 0]⟩ := by
  obtain ⟨⟨l⟩⟩ := a
  have e' : l.length = 1 := e
  match l, e' with
  | [c], _ => rfl
/-- x in c -/
theorem in_core (hK : W.K = X.K) (hu : X.A.units + 64 < cLine) {neg : Bool} {x y : V} {v u : Value} {Q : VK} {dx dy : D} (I : Inv X pins σ H s) (rx : RelV x v) (ry : RelV y u) (sm : Sim W S α h H) (lx : Rl W S α dx x) (ly : Rl W S α dy y) {b : Bool}
    (e : inD h dx dy = some b) (q : Q (.bl (if neg then !b else b)) H) : wpAny (model X.prog X.w) X.A (compareOp (if neg then .NotIn else .In) v u) (EP X pins σ Q) X.xe s := by
  unfold inD at e
  split at e
  · rename_i ys es
    unfold inP at e
    split at e
    · rename_i c
      simp only [Bool.and_eq_true, decide_eq_true_eq] at c
      obtain ⟨⟨c1, c2⟩, c3⟩ := c
      cases e
      obtain ⟨a, us, rfl, hq, r⟩ := seq_ok sm es ly
      cases ry
      obtain ⟨as, r1⟩ := reads_of hK I sm lx rx c1
      have rz : Rls W (frz S α 0 H) (α.take 0) (ys.map (deep 0 h)) us := by
        have := Rls.map (sm.frzLe 0) _ (fun i v q => sm.deepN 0 (h.length + 1) i v q) ys us r
        rwa [mapDs_map] at this
      have dps := dps_of (sm.low 0).le _ us c3 rz
      rw [hK] at dps
      rcases hq with hq | hq
      · obtain ⟨bs, r2⟩ := Dp.reads I _ _ (.ref a) (.tup (hK ▸ hq) dps) rfl
        have fin : ∀ k : Bool, k = (ys.map (deep 0 h)).any (fun y => eqd y (deep 0 h dx)) → k = (pyDs (ys.map (deep 0 h))).any (fun y => PyData.eqv y (pyD (deep 0 h dx))) := fun k e => by rw [e, any_py c1 c3]
        cases neg
        · refine SeqAt.in_tuple_data r2 r1 (plain_pys _) (plain_py _) (by rw [dep_py]; omega) ?_
          exact ⟨.bl _, H, I, rfl, by rw [any_py c1 c3]; exact q⟩
        · refine SeqAt.notIn_tuple_data r2 r1 (plain_pys _) (plain_py _) (by rw [dep_py]; omega) ?_
          exact ⟨.bl _, H, I, rfl, by rw [any_py c1 c3]; exact q⟩
      · obtain ⟨bs, r2⟩ := Dp.reads I _ _ (.ref a) (.lst (SqL.of hq) dps) rfl
        cases neg
        · refine SeqAt.in_list_data r2 r1 (plain_pys _) (plain_py _) (by rw [dep_py]; omega) ?_
          exact ⟨.bl _, H, I, rfl, by rw [any_py c1 c3]; exact q⟩
        · refine SeqAt.notIn_list_data r2 r1 (plain_pys _) (plain_py _) (by rw [dep_py]; omega) ?_
          exact ⟨.bl _, H, I, rfl, by rw [any_py c1 c3]; exact q⟩
    · cases e
  · rename_i es
    split at e
    · rename_i a c
      split at e
      · rename_i hl
        cases e
        obtain rfl := rl_str lx
        obtain rfl := rl_str ly
        rw [one_sign hl] at rx
        cases neg
        · exact op_in_sign pins s σ H _ _ v u Q I rx ry ⟨_, _, rfl, rfl, q⟩
        · exact op_notIn_sign pins s σ H _ _ v u Q I rx ry ⟨_, _, rfl, rfl, q⟩
      · cases e
    · split at e
      · rename_i k ks vs ek ed
        cases e
        obtain ⟨a, us, rfl, hq, z, r⟩ := dict_ok sm ed ly
        obtain rfl := key_kV ek lx
        cases ry
        have g := DGet.k (H := H) (a := a) (k := k) hq
        have ev : (valV (ks.zip us) k).isSome = ks.any fun g => decide (g = k) := by rw [← valV_any, any_zip k z]
        cases neg
        · exact d_in (by omega) I g rx fun s' I' => ⟨.bl _, H, I', rfl, by rw [ev]; exact q⟩
        · exact d_notIn (by omega) I g rx fun s' I' => ⟨.bl _, H, I', rfl, by rw [ev]; exact q⟩
      · cases e
theorem op_inM (hK : W.K = X.K) (hu : X.A.units + 64 < cLine) : OpR X (compareOp .In) (rOp W (fun x y h => cmpR h .isin x y)) := by
  intro pins s σ H x y v u Q I rx ry ⟨S, α, h, dx, dy, sm, lx, ly, p⟩
  simp only [cmpR, cmpD] at p
  cases e : inD h dx dy with
  | none => rw [e] at p; exact p.elim
  | some b =>
    rw [e] at p
    exact in_core (neg := false) hK hu I rx ry sm lx ly e (PostG.here sm p (by simp only [Rl]; rfl))
theorem op_notinM (hK : W.K = X.K) (hu : X.A.units + 64 < cLine) : OpR X (compareOp .NotIn) (rOp W (fun x y h => cmpR h .notin x y)) := by
  intro pins s σ H x y v u Q I rx ry ⟨S, α, h, dx, dy, sm, lx, ly, p⟩
  simp only [cmpR, cmpD] at p
  cases e : inD h dx dy with
  | none => rw [e] at p; exact p.elim
  | some b =>
    rw [e] at p
    exact in_core (neg := true) hK hu I rx ry sm lx ly e (PostG.here sm p (by simp only [Rl]; rfl))
def coP : Cop → CmpOp
  | .eq => .Eq | .ne => .NotEq | .lt => .Lt | .le => .LtE | .gt => .Gt | .ge => .GtE | .is => .Is | .isnot => .IsNot | .isin => .In | .notin => .NotIn
theorem op_cmpM (hK : W.K = X.K) (hu : X.A.units + 64 < cLine) (o : Cop) : OpR X (compareOp (coP o)) (rOp W (fun x y h => cmpR h o x y)) := by
  cases o
  · exact op_eqM hK hu
  · exact op_neM hK hu
  · exact op_ltM
  · exact op_leM
  · exact op_gtM
  · exact op_geM
  · exact op_isM
  · exact op_isnotM
  · exact op_inM hK hu
  · exact op_notinM hK hu

/-! ### expressions over operators -/
theorem m_op {f : Value → Value → Sem Value} {g : D → D → Hm → Rs D} {ra rb : Ev → Hm → Rs D} (hq : ∀ x y h, Quiet (g x y h)) {σ : L2.St} {H : Hp} {Q : VK}
    (p : tE W Wx (fun e h => (ra e h).bind fun x h => (rb e h).bind fun y h => g x y h) σ H Q) : tOp (rOp W g) (tE W Wx ra) (tE W Wx rb) σ H Q := by
  refine tG.seq (R := Rl) (R' := Rl) (f := fun e x h => (rb e h).bind fun y h => g x y h) (fun e x h1 S1 α1 H1 vx s1 r1 lx p1 => ?_) p
  refine ⟨S1, α1, h1, e, s1, r1, p1.bind s1 fun y h2 S2 α2 H2 vy t2 ly p2 => ?_⟩
  exact ⟨S2, α2, h2, x, y, t2.sim, lx.mono t2.le t2.pre, ly, p2.quiet (hq _ _ _)⟩
theorem cmpR_quiet (o : Cop) (x y : D) (h : Hm) : Quiet (cmpR h o x y) := by unfold cmpR; split <;> exact trivial
theorem m_bin (hK : W.K = X.K) {o : Bop} {a b : Expr} {ca cb : E} {pos : Pos} (ha : PE X a (tE W Wx (evE pr φ ca))) (hb : PE X b (tE W Wx (evE pr φ cb))) : PE X (.BinOp a (boP o) b pos) (tE W Wx (evE pr φ (.bin o ca cb))) :=
  (pe_op (op_binD hK o) ha hb).weak fun σ H Q p => by
    simp only [evE] at p
    exact m_op (f := fun _ _ => pure .none) (binD_quiet o) p
theorem m_cmp (hK : W.K = X.K) (hu : X.A.units + 64 < cLine) {o : Cop} {a b : Expr} {ca cb : E} {pos : Pos} (ha : PE X a (tE W Wx (evE pr φ ca))) (hb : PE X b (tE W Wx (evE pr φ cb))) (hm : behindInMarks (coP o) b = false) :
    PE X (.Compare a [coP o] [b] pos) (tE W Wx (evE pr φ (.cmp o ca cb))) :=
  (pe_cmpR (op_cmpM hK hu o) ha hb hm).weak fun σ H Q p => by
    simp only [evE] at p
    exact m_op (f := fun _ _ => pure .none) (fun x y h => cmpR_quiet o x y h) p
end
end Pm

set_option linter.all false
set_option maxRecDepth 100000
set_option maxHeartbeats 1000000
namespace Pm
open PySem PySem.Spec L2

section
variable {X : Cx} {W : Wd} {Wx : WX} {pr : Pr} {φ : Nat → List D → Hm → Rs D}
variable {S H : Hp} {α : List Addr} {h : Hm}
theorem rls_empty {xs : List D} {us : List V} (r : Rls W S α xs us) : (!xs.isEmpty) = !us.isEmpty := by
  cases xs with
  | nil => simp only [Rls] at r; subst r; rfl
  | cons x xs => simp only [Rls] at r; obtain ⟨u, t, e, _⟩ := r; subst e; rfl
theorem truth_ok (hK : W.K = X.K) (sm : Sim W S α h H) {x : D} {v : V} {b : Bool} (e : truth h x = some b) (r : Rl W S α x v) : TruV X.K v H b := by
  have sq : ∀ {xs : List D}, seq? h x = some xs → b = !xs.isEmpty → TruV X.K v H b := fun {xs} es eb => by
    obtain ⟨a, us, rfl, hq, r⟩ := seq_ok sm es r
    rw [rls_empty r] at eb
    rcases hq with hq | hq
    · exact .inr (.inl ⟨us, hK ▸ hq, eb⟩)
    · exact .inl ⟨us, SqL.of hq, eb⟩
  have dc : ∀ {ks : List Key} {vs : List D}, dict? h x = some (ks, vs) → b = !ks.isEmpty → TruV X.K v H b := fun {ks vs} es eb => by
    obtain ⟨a, us, rfl, hq, z, r⟩ := dict_ok sm es r
    refine .inr (.inr ⟨_, hq, ?_⟩)
    rw [eb]
    cases ks with
    | nil => simp
    | cons k ks =>
      cases us with
      | nil => simp at z
      | cons u us => simp
  cases x with
  | non => cases e; obtain rfl := rl_non r; exact rfl
  | bl c => cases e; obtain rfl := rl_bl r; exact rfl
  | int i => cases e; obtain rfl := rl_int r; exact rfl
  | str s =>
    obtain rfl := rl_str r
    simp only [truth] at e
    split at e
    · rename_i hl
      cases e
      exact ⟨by rw [lim]; exact hl, rfl⟩
    · cases e
  | tup xs => exact sq (xs := xs) rfl (by simp only [truth, seq?] at e; cases e; rfl)
  | lst xs => exact sq (xs := xs) rfl (by simp only [truth, seq?, items?] at e; cases e; rfl)
  | dic ks vs => exact dc (ks := ks) (vs := vs) rfl (by simp only [truth, seq?, items?, dict?] at e; cases e; rfl)
  | ref n =>
    simp only [truth] at e
    cases es : seq? h (.ref n) with
    | some xs => rw [es] at e; cases e; exact sq es rfl
    | none =>
      rw [es] at e
      cases ed : dict? h (.ref n) with
      | some p => obtain ⟨ks, vs⟩ := p; rw [ed] at e; cases e; exact dc ed rfl
      | none => rw [ed] at e; cases e
  | un => simp [truth, seq?, items?, dict?] at e
  | obj c fs vs => simp [truth, seq?, items?, dict?] at e
  | cls c => simp [truth, seq?, items?, dict?] at e
  | scr ns => simp [truth, seq?, items?, dict?] at e
  | xcp c fs vs => simp [truth, seq?, items?, dict?] at e

/-- a value, then its truth -/
def byT {A : Type} (f : Bool → D → Hm → Rs A) (x : D) (h : Hm) : Rs A := match truth h x with
  | some b => f b x h
  | none => .bad
theorem tE_truth {A B : Type} {R : Wd → Hp → List Addr → A → B → Prop} (hK : W.K = X.K) {run : Ev → Hm → Rs D} {f : Ev → D → Hm → Rs A} {g : Ev → Bool → D → Hm → Rs A} {σ : L2.St} {H : Hp} {Q : B → Hp → Prop}
    {Q1 : V → Bool → Hp → Prop} (hf : ∀ e x h, f e x h = match truth h x with | some b => g e b x h | none => .bad)
    (k : ∀ e x b h1 S1 α1 H1 v, Sim W S1 α1 h1 H1 → REv W S1 α1 e σ → Rl W S1 α1 x v → truth h1 x = some b → PostG (R W) W S1 α1 H1 (g e b x h1) Q (fun C dd H' => Wx C dd σ H') → Q1 v b H1)
    (p : tG R W Wx (fun e h => (run e h).bind (f e)) σ H Q) : tE W Wx run σ H fun v H1 => ∃ b, TruV X.K v H1 b ∧ Q1 v b H1 := by
  refine tG.seq (R := Rl) (R' := R) (f := f) (fun e x h1 S1 α1 H1 v s1 r1 lx p1 => ?_) p
  rw [hf] at p1
  cases et : truth h1 x with
  | none => rw [et] at p1; exact p1.elim
  | some b =>
    rw [et] at p1
    exact ⟨b, truth_ok hK s1 et lx, k e x b h1 S1 α1 H1 v s1 r1 lx et p1⟩

theorem m_neg {a : Expr} {ca : E} {pos : Pos} (ha : PE X a (tE W Wx (evE pr φ ca))) : PE X (.UnaryOp .USub a pos) (tE W Wx (evE pr φ (.neg ca))) := (pe_un un_neg ha).weak fun σ H Q p => by
  simp only [evE] at p
  refine tG.seq (R := Rl) (R' := Rl) (f := fun _ x h => match x with | .int i => .ok (.int (-i)) h | _ => .bad) (fun e x h1 S1 α1 H1 v s1 r1 lx p1 => ?_) p
  cases x <;> first | exact p1.elim | skip
  obtain rfl := rl_int lx
  exact ⟨_, rfl, PostG.here s1 p1 (by simp only [Rl])⟩
theorem m_not (hK : W.K = X.K) {a : Expr} {ca : E} {pos : Pos} (ha : PE X a (tE W Wx (evE pr φ ca))) : PE X (.UnaryOp .Not a pos) (tE W Wx (evE pr φ (.not ca))) := (pe_notT ha).weak fun σ H Q p => by
  simp only [evE] at p
  exact tE_truth (R := Rl) (Q1 := fun _ b H1 => Q (.bl (!b)) H1) (f := fun _ x h => match truth h x with | some b => .ok (.bl (!b)) h | none => .bad) (g := fun _ b _ h => .ok (.bl (!b)) h) hK (fun _ _ _ => rfl)
    (fun e x b h1 S1 α1 H1 v s1 r1 lx et p1 => PostG.here s1 p1 (by simp only [Rl])) p
/-- a test: the value's own truth -/
theorem m_test (hK : W.K = X.K) {a : Expr} {ca : E} (ha : PE X a (tE W Wx (evE pr φ ca))) (he : ∀ whole, isTrue a X.env whole = (do let v ← whole; standAt a.pos; holding [v] (truthy v))) : PT X a (tT W Wx (evE pr φ ca)) :=
  (pt_truth ha he).weak fun σ H Q p =>
    tE_truth (R := fun _ => RB) (Q1 := fun _ b H1 => Q b H1) (f := fun _ x h => match truth h x with | some b => .ok b h | none => .bad) (g := fun _ b _ h => .ok b h) hK (fun _ _ _ => rfl)
      (fun e x b h1 S1 α1 H1 v s1 r1 lx et p1 => PostG.here s1 p1 rfl) p
theorem t_not (hK : W.K = X.K) {a : Expr} {ca : E} {pos : Pos} (ha : PT X a (tT W Wx (evE pr φ ca))) : PT X (.UnaryOp .Not a pos) (tT W Wx (evE pr φ (.not ca))) := (pt_not ha).weak fun σ H Q p => by
  have p' : tG (fun _ => RB) W Wx (fun e h => (truR (evE pr φ ca) e h).bind fun b h => (.ok (!b) h : Rs Bool)) σ H Q := by
    obtain ⟨S, α, h, e, s, r, p⟩ := p
    refine ⟨S, α, h, e, s, r, ?_⟩
    have y : truR (evE pr φ (.not ca)) e h = (truR (evE pr φ ca) e h).bind fun b h => (.ok (!b) h : Rs Bool) := by
      unfold truR
      simp only [evE]
      cases evE pr φ ca e h with
      | ok x h1 =>
        simp only [Rs.bind]
        cases truth h1 x with
        | none => rfl
        | some b => simp only [truth]
      | exc c fs vs h1 => rfl
      | bad => rfl
    rw [y] at p
    exact p
  exact tG.seq (R := fun _ => RB) (R' := fun _ => RB) (f := fun _ b h => .ok (!b) h) (fun e b h1 S1 α1 H1 v s1 r1 lx p1 => by
    have lx : b = v := lx
    subst lx
    exact PostG.here s1 p1 rfl) p'

theorem m_one {op : BoolOp} {a : Expr} {ca : E} {pos : Pos} (ha : PE X a (tE W Wx (evE pr φ ca))) : PE X (.BoolOp op [a] pos) (tE W Wx (evE pr φ ca)) := pe_one ha
theorem m_and (hK : W.K = X.K) {a b : Expr} {rest : List Expr} {ca cb : E} {pos : Pos} (ha : PE X a (tE W Wx (evE pr φ ca))) (hb : PE X (.BoolOp .And (b :: rest) pos) (tE W Wx (evE pr φ cb))) :
    PE X (.BoolOp .And (a :: b :: rest) pos) (tE W Wx (evE pr φ (.and ca cb))) := (pe_andT ha hb).weak fun σ H Q p => by
  simp only [evE] at p
  exact tE_truth (R := Rl) (Q1 := fun v k H1 => if k = true then tE W Wx (evE pr φ cb) σ H1 Q else Q v H1) (f := fun e x h => match truth h x with | some true => evE pr φ cb e h | some false => .ok x h | none => .bad)
    (g := fun e k x h => match k with | true => evE pr φ cb e h | false => .ok x h) hK (fun e x h => by cases truth h x with | none => rfl | some b => cases b <;> rfl)
    (fun e x k h1 S1 α1 H1 v s1 r1 lx et p1 => by
      cases k with
      | true => rw [if_pos rfl]; exact ⟨S1, α1, h1, e, s1, r1, p1⟩
      | false => rw [if_neg (by simp)]; exact PostG.here s1 p1 lx) p
theorem m_or (hK : W.K = X.K) {a b : Expr} {rest : List Expr} {ca cb : E} {pos : Pos} (ha : PE X a (tE W Wx (evE pr φ ca))) (hb : PE X (.BoolOp .Or (b :: rest) pos) (tE W Wx (evE pr φ cb))) :
    PE X (.BoolOp .Or (a :: b :: rest) pos) (tE W Wx (evE pr φ (.or ca cb))) := (pe_orT ha hb).weak fun σ H Q p => by
  simp only [evE] at p
  exact tE_truth (R := Rl) (Q1 := fun v k H1 => if k = true then Q v H1 else tE W Wx (evE pr φ cb) σ H1 Q) (f := fun e x h => match truth h x with | some true => .ok x h | some false => evE pr φ cb e h | none => .bad)
    (g := fun e k x h => match k with | true => .ok x h | false => evE pr φ cb e h) hK (fun e x h => by cases truth h x with | none => rfl | some b => cases b <;> rfl)
    (fun e x k h1 S1 α1 H1 v s1 r1 lx et p1 => by
      cases k with
      | false => rw [if_neg (by simp)]; exact ⟨S1, α1, h1, e, s1, r1, p1⟩
      | true => rw [if_pos rfl]; exact PostG.here s1 p1 lx) p
/-! tests: and, or -/
theorem truR_bind (ra : Ev → Hm → Rs D) (f : Bool → D → Ev → Hm → Rs D) (g : Bool → Ev → Hm → Rs Bool) (hg : ∀ x h e, truth h x ≠ none → ∀ b, truth h x = some b → ((f b x e h).bind fun y h => match truth h y with | some k => (.ok k h : Rs Bool) | none => .bad) = g b e h) (e : Ev) (h : Hm) :
    ((ra e h).bind fun x h => match truth h x with | some b => f b x e h | none => .bad).bind (fun y h => match truth h y with | some k => (.ok k h : Rs Bool) | none => .bad) = (truR ra e h).bind fun b h => g b e h := by
  unfold truR
  cases ra e h with
  | ok x h1 =>
    simp only [Rs.bind]
    cases q : truth h1 x with
    | none => rfl
    | some b => exact hg x h1 e (by rw [q]; simp) b q
  | exc c fs vs h1 => rfl
  | bad => rfl
theorem w_and1 {a : Expr} {ca : E} {pos : Pos} (ha : PT X a (tT W Wx (evE pr φ ca))) : PW X (.BoolOp .And [a] pos) (tT W Wx (evE pr φ ca)) := pw_and1 ha
theorem w_or1 {a : Expr} {ca : E} {pos : Pos} (ha : PT X a (tT W Wx (evE pr φ ca))) : PW X (.BoolOp .Or [a] pos) (tT W Wx (evE pr φ ca)) := pw_or1 ha
theorem w_and {a b : Expr} {rest : List Expr} {ca cb : E} {pos : Pos} (ha : PT X a (tT W Wx (evE pr φ ca))) (hb : PW X (.BoolOp .And (b :: rest) pos) (tT W Wx (evE pr φ cb))) :
    PW X (.BoolOp .And (a :: b :: rest) pos) (tT W Wx (evE pr φ (.and ca cb))) := (pw_and ha hb).weak fun σ H Q p => by
  have p' : tG (fun _ => RB) W Wx (fun e h => (truR (evE pr φ ca) e h).bind fun b h => (match b with | true => truR (evE pr φ cb) e h | false => .ok false h : Rs Bool)) σ H Q := by
    obtain ⟨S, α, h, e, s, r, p⟩ := p
    refine ⟨S, α, h, e, s, r, ?_⟩
    have z := truR_bind (evE pr φ ca) (fun b x e h => match b with | true => evE pr φ cb e h | false => .ok x h) (fun b e h => match b with | true => truR (evE pr φ cb) e h | false => .ok false h)
      (fun x h e _ b q => by cases b with | true => rfl | false => simp only [Rs.bind, q]) e h
    have y : truR (evE pr φ (.and ca cb)) e h = (truR (evE pr φ ca) e h).bind fun b h => (match b with | true => truR (evE pr φ cb) e h | false => .ok false h : Rs Bool) := by
      rw [← z]
      unfold truR
      simp only [evE]
      congr 1
      congr 1
      funext x h
      cases truth h x with
      | none => rfl
      | some b => cases b <;> rfl
    rw [y] at p
    exact p
  exact tG.seq (R := fun _ => RB) (R' := fun _ => RB) (f := fun e b h => match b with | true => truR (evE pr φ cb) e h | false => .ok false h) (fun e b h1 S1 α1 H1 v s1 r1 lx p1 => by
    have lx : b = v := lx
    subst lx
    cases b with
    | true => rw [if_pos rfl]; exact ⟨S1, α1, h1, e, s1, r1, p1⟩
    | false => rw [if_neg (by simp)]; exact PostG.here s1 p1 rfl) p'
theorem w_or {a b : Expr} {rest : List Expr} {ca cb : E} {pos : Pos} (ha : PT X a (tT W Wx (evE pr φ ca))) (hb : PW X (.BoolOp .Or (b :: rest) pos) (tT W Wx (evE pr φ cb))) :
    PW X (.BoolOp .Or (a :: b :: rest) pos) (tT W Wx (evE pr φ (.or ca cb))) := (pw_or ha hb).weak fun σ H Q p => by
  have p' : tG (fun _ => RB) W Wx (fun e h => (truR (evE pr φ ca) e h).bind fun b h => (match b with | true => .ok true h | false => truR (evE pr φ cb) e h : Rs Bool)) σ H Q := by
    obtain ⟨S, α, h, e, s, r, p⟩ := p
    refine ⟨S, α, h, e, s, r, ?_⟩
    have z := truR_bind (evE pr φ ca) (fun b x e h => match b with | true => .ok x h | false => evE pr φ cb e h) (fun b e h => match b with | true => .ok true h | false => truR (evE pr φ cb) e h)
      (fun x h e _ b q => by cases b with | false => rfl | true => simp only [Rs.bind, q]) e h
    have y : truR (evE pr φ (.or ca cb)) e h = (truR (evE pr φ ca) e h).bind fun b h => (match b with | true => .ok true h | false => truR (evE pr φ cb) e h : Rs Bool) := by
      rw [← z]
      unfold truR
      simp only [evE]
      congr 1
      congr 1
      funext x h
      cases truth h x with
      | none => rfl
      | some b => cases b <;> rfl
    rw [y] at p
    exact p
  exact tG.seq (R := fun _ => RB) (R' := fun _ => RB) (f := fun e b h => match b with | true => .ok true h | false => truR (evE pr φ cb) e h) (fun e b h1 S1 α1 H1 v s1 r1 lx p1 => by
    have lx : b = v := lx
    subst lx
    cases b with
    | false => rw [if_neg (by simp)]; exact ⟨S1, α1, h1, e, s1, r1, p1⟩
    | true => rw [if_pos rfl]; exact PostG.here s1 p1 rfl) p'
/-! a if c else b -/
theorem m_ife {c a b : Expr} {cc ca cb : E} {pos : Pos} (hc : PT X c (tT W Wx (evE pr φ cc))) (ha : PE X a (tE W Wx (evE pr φ ca))) (hb : PE X b (tE W Wx (evE pr φ cb))) : PE X (.IfExp c a b pos) (tE W Wx (evE pr φ (.ife cc ca cb))) := (pe_ifExp hc ha hb).weak fun σ H Q p => by
  have p' : tG Rl W Wx (fun e h => (truR (evE pr φ cc) e h).bind fun b h => (match b with | true => evE pr φ ca e h | false => evE pr φ cb e h : Rs D)) σ H Q := by
    obtain ⟨S, α, h, e, s, r, p⟩ := p
    refine ⟨S, α, h, e, s, r, ?_⟩
    have y : evE pr φ (.ife cc ca cb) e h = (truR (evE pr φ cc) e h).bind fun b h => (match b with | true => evE pr φ ca e h | false => evE pr φ cb e h : Rs D) := by
      unfold truR
      simp only [evE]
      cases evE pr φ cc e h with
      | ok x h1 =>
        simp only [Rs.bind]
        cases truth h1 x with
        | none => rfl
        | some b => cases b <;> rfl
      | exc c fs vs h1 => rfl
      | bad => rfl
    rw [y] at p
    exact p
  exact tG.seq (R := fun _ => RB) (R' := Rl) (f := fun e b h => match b with | true => evE pr φ ca e h | false => evE pr φ cb e h) (fun e b h1 S1 α1 H1 v s1 r1 lx p1 => by
    have lx : b = v := lx
    subst lx
    cases b with
    | true => rw [if_pos rfl]; exact ⟨S1, α1, h1, e, s1, r1, p1⟩
    | false => rw [if_neg (by simp)]; exact ⟨S1, α1, h1, e, s1, r1, p1⟩) p'
/-! a < b < c -/
theorem chn_run {X : Cx} {o o' : Cop} {ca cb cc : E} {σ : L2.St} {H : Hp} {Q : VK} (p : tE W Wx (evE pr φ (.chn o o' ca cb cc)) σ H Q) :
    tChain (rOp W fun x y h => cmpR h o x y) (rOp W fun x y h => cmpR h o' x y) (tE W Wx (evE pr φ ca)) (tE W Wx (evE pr φ cb)) (tE W Wx (evE pr φ cc)) σ H Q := by
  simp only [evE] at p
  refine tG.seq (R := Rl) (R' := Rl) (f := fun e x h => (evE pr φ cb e h).bind fun y h => match cmpD h o x y with
    | some true => (evE pr φ cc e h).bind fun z h => cmpR h o' y z
    | some false => .ok (.bl false) h
    | none => .bad) (fun e x h1 S1 α1 H1 vx s1 r1 lx p1 => ?_) p
  refine ⟨S1, α1, h1, e, s1, r1, p1.bind s1 fun y h2 S2 α2 H2 vy t2 ly p2 => ?_⟩
  have lx2 := lx.mono t2.le t2.pre
  have r2 := r1.mono t2.le t2.pre
  refine ⟨S2, α2, h2, x, y, t2.sim, lx2, ly, ?_⟩
  cases q : cmpD h2 o x y with
  | none => rw [q] at p2; exact p2.elim
  | some k =>
    rw [q] at p2
    simp only [cmpR, q]
    intro S3 α3 H3 v t3 lv
    have p3 := PostG.after t2.sim t3 p2
    obtain rfl := rl_bl lv
    refine ⟨k, rfl, ?_⟩
    cases k with
    | false => rw [if_neg (by simp)]; exact PostG.here t3.sim p3 (by simp only [Rl])
    | true =>
      rw [if_pos rfl]
      refine ⟨S3, α3, h2, e, t3.sim, r2.mono t3.le t3.pre, p3.bind t3.sim fun z h4 S4 α4 H4 vz t4 lz p4 => ?_⟩
      exact ⟨S4, α4, h4, y, z, t4.sim, (ly.mono t3.le t3.pre).mono t4.le t4.pre, lz, p4.quiet (cmpR_quiet _ _ _ _)⟩
theorem m_chn (hK : W.K = X.K) (hu : X.A.units + 64 < cLine) {o o' : Cop} {a b c : Expr} {ca cb cc : E} {pos : Pos} (ha : PE X a (tE W Wx (evE pr φ ca))) (hb : PE X b (tE W Wx (evE pr φ cb))) (hc : PE X c (tE W Wx (evE pr φ cc))) (hm : lastMarks [coP o, coP o'] [b, c] = false) :
    PE X (.Compare a [coP o, coP o'] [b, c] pos) (tE W Wx (evE pr φ (.chn o o' ca cb cc))) := (pe_chain (op_cmpM hK hu o) (op_cmpM hK hu o') ha hb hc hm).weak fun σ H Q p => chn_run (X := X) p
end
end Pm

set_option linter.all false
set_option maxRecDepth 100000
set_option maxHeartbeats 1000000
namespace Pm
open PySem PySem.Spec L2

section
variable {X : Cx} {W : Wd} {Wx : WX} {pr : Pr} {φ : Nat → List D → Hm → Rs D}
variable {S H : Hp} {α : List Addr} {h : Hm}
/-! ### argument lists, displays -/
theorem l_nil : PA X [] (tL W Wx (evEs pr φ .nil)) := pa_nil.weak fun σ H Q ⟨S, α, h, e, s, r, p⟩ => by
  simp only [evEs] at p
  exact PostG.here s p (by simp only [Rls])
theorem l_cons {a : Expr} {es : List Expr} {ca : E} {cs : Es} (ha : PE X a (tE W Wx (evE pr φ ca))) (hr : PA X es (tL W Wx (evEs pr φ cs))) (hs : starEach (a :: es) X.env = (false, eval a X.env) :: starEach es X.env) :
    PA X (a :: es) (tL W Wx (evEs pr φ (.cons ca cs))) := (pa_cons ha hr hs).weak fun σ H Q p => by
  simp only [evEs] at p
  refine tG.seq (R := Rl) (R' := Rls) (f := fun e x h => (evEs pr φ cs e h).bind fun xs h => .ok (x :: xs) h) (fun e x h1 S1 α1 H1 v s1 r1 lx p1 => ?_) p
  refine ⟨S1, α1, h1, e, s1, r1, p1.bind s1 fun xs h2 S2 α2 H2 vs t2 ls p2 => ?_⟩
  exact PostG.here t2.sim p2 (by simp only [Rls]; exact ⟨v, vs, rfl, lx.mono t2.le t2.pre, ls⟩)
theorem l_star (hK : W.K = X.K) {a : Expr} {es : List Expr} {ca : E} {cs : Es} {pp : Pos} (ha : PE X a (tE W Wx (evE pr φ ca))) (hr : PA X es (tL W Wx (evEs pr φ cs))) (hs : starEach (.Starred a pp :: es) X.env = (true, eval a X.env) :: starEach es X.env) :
    PA X (.Starred a pp :: es) (tL W Wx (evEs pr φ (.star ca cs))) := (StX.pa_star ha hr hs).weak fun σ H Q p => by
  simp only [evEs] at p
  refine tG.seq (R := Rl) (R' := Rls) (f := fun e x h => match seq? h x with | some ys => (evEs pr φ cs e h).bind fun xs h => .ok (ys ++ xs) h | none => .bad) (fun e x h1 S1 α1 H1 v s1 r1 lx p1 => ?_) p
  cases q : seq? h1 x with
  | none => rw [q] at p1; exact p1.elim
  | some ys =>
    rw [q] at p1
    obtain ⟨a, us, rfl, hq, r⟩ := seq_ok s1 q lx
    refine ⟨a, us, rfl, hq.imp (fun z => hK ▸ z) SqL.of, S1, α1, h1, e, s1, r1, p1.bind s1 fun xs h2 S2 α2 H2 vs t2 ls p2 => ?_⟩
    exact PostG.here t2.sim p2 ((r.mono t2.le t2.pre).app ls)
theorem m_tup {es : List Expr} {cs : Es} {k : Nat} {pos : Pos} (ha : PA X es (tL W Wx (evEs pr φ cs))) : PE X (.Tuple es k pos) (tE W Wx (evE pr φ (.tup cs))) := (pe_tup ha).weak fun σ H Q p => by
  simp only [evE] at p
  refine tG.seq (R := Rls) (R' := Rl) (f := fun _ ds h => if ds.length ≤ LIM then .ok (.tup ds) h else .bad) (fun e ds h1 S1 α1 H1 vs s1 r1 ls p1 => ?_) p
  split at p1
  · rename_i hl
    refine ⟨by rw [lim, ← ls.length]; exact hl, fun q n => ?_⟩
    have t := s1.tup (o := .tup vs) n
    refine p1 _ _ _ _ t ?_
    simp only [Rl]
    exact ⟨q, vs, rfl, SqT.of upd_same, ls.mono t.le t.pre⟩
  · exact p1.elim
theorem m_lst {es : List Expr} {cs : Es} {pos : Pos} (ha : PA X es (tL W Wx (evEs pr φ cs))) : PE X (.List es pos) (tE W Wx (evE pr φ (.lst cs))) := (pe_lst ha).weak fun σ H Q p => by
  simp only [evE] at p
  exact tG.seq (R := Rls) (R' := Rl) (f := fun _ ds h => newL ds h) (fun e ds h1 S1 α1 H1 vs s1 r1 ls p1 => newL_ok s1 ls p1) p

/-! ### subscripts -/
theorem _root_.L2.PE.or {e : Expr} {t t' : TE} (a : PE X e t) (b : PE X e t') : PE X e (fun σ H Q => t σ H Q ∨ t' σ H Q) := ⟨fun pins s σ H Q I q => q.elim (a.run pins s σ H Q I) (b.run pins s σ H Q I)⟩
theorem atI_rls {xs : List D} {us : List V} {i : Int} {d : D} (r : Rls W S α xs us) (e : L2.atI xs i = some d) : ∃ v, L2.atI us i = some v ∧ Rl W S α d v := by
  unfold L2.atI at e ⊢
  rw [← r.length]
  cases q : L2.ixN xs.length i with
  | none => rw [q] at e; cases e
  | some j =>
    rw [q] at e
    exact r.get e
/-- by a place, or by a key -/
def byKey (h : Hm) (x : D) : Bool := (dict? h x).isSome && (seq? h x).isNone
theorem tE_cases {ra rb : Ev → Hm → Rs D} {f : D → D → Hm → Rs D} {σ : L2.St} {H : Hp} {Q : VK} {t1 t2 : Prop}
    (p : tE W Wx (fun e h => (ra e h).bind fun x h => (rb e h).bind fun y h => f x y h) σ H Q)
    (k : ∀ S α h e, Sim W S α h H → REv W S α e σ → PostE W S α H ((ra e h).bind fun x h => (rb e h).bind fun y h => f x y h) Q (fun C dd H' => Wx C dd σ H') → t1 ∨ t2) : t1 ∨ t2 := by
  obtain ⟨S, α, h, e, s, r, p⟩ := p
  exact k S α h e s r p
theorem m_idx (hK : W.K = X.K) (hu : X.A.units + 64 < cLine) {a b : Expr} {ca cb : E} {pos : Pos} (ha : PE X a (tE W Wx (evE pr φ ca))) (hb : PE X b (tE W Wx (evE pr φ cb))) (hs : PlainIx b) : PE X (.Subscript a b pos) (tE W Wx (evE pr φ (.idx ca cb))) :=
  ((pe_ix ix_seq ha hb hs).or (pe_dget (by omega) ha hb hs)).weak fun σ H Q p => by
  simp only [evE] at p
  obtain ⟨S, α, h, e, s, r, p⟩ := p
  dsimp only at p
  by_cases road : ∃ x h1 y h2, evE pr φ ca e h = .ok x h1 ∧ evE pr φ cb e h1 = .ok y h2 ∧ byKey h2 x = true
  · obtain ⟨x, h1, y, h2, ea, eb, hd⟩ := road
    refine .inr ⟨S, α, h, e, s, r, ?_⟩
    rw [ea] at p ⊢
    intro S1 α1 H1 vx t1 lx
    have p1 := PostG.after s t1 p
    have r1 := r.mono t1.le t1.pre
    refine ⟨S1, α1, h1, e, t1.sim, r1, ?_⟩
    simp only [Rs.bind] at p1
    rw [eb] at p1 ⊢
    intro S2 α2 H2 vy t2 ly
    have p2 := PostG.after t1.sim t2 p1
    simp only [Rs.bind] at p2
    have lx2 := lx.mono t2.le t2.pre
    simp only [byKey, Bool.and_eq_true, Option.isSome_iff_exists, Option.isNone_iff_eq_none] at hd
    obtain ⟨⟨⟨ks, vs⟩, hd⟩, hn⟩ := hd
    obtain ⟨a, us, rfl, hq, z, ru⟩ := dict_ok t2.sim hd lx2
    have e2 : idxD h2 x y = idxK ks vs y h2 := by
      cases x <;> simp only [idxD] <;> first | (simp [dict?] at hd; done) | (simp only [hn, hd])
    rw [e2] at p2
    unfold idxK at p2
    cases ek : key? y with
    | none => simp only [ek] at p2; exact p2.elim
    | some k =>
      simp only [ek] at p2
      cases el : lookK k ks vs with
      | none => simp only [el] at p2; exact p2.elim
      | some d =>
        simp only [el] at p2
        obtain ⟨v, hv, lv⟩ := (lookK_val k z ru).1 d el
        obtain rfl := key_kV ek ly
        refine ⟨a, v, rfl, ?_, PostG.here t2.sim p2 lv⟩
        rw [← hv]
        exact DGet.k hq
  · refine .inl ⟨S, α, h, e, s, r, ?_⟩
    cases ea : evE pr φ ca e h with
    | bad => rw [ea] at p; exact p
    | exc c fs vs h1 => rw [ea] at p; exact p
    | ok x h1 =>
      rw [ea] at p
      intro S1 α1 H1 vx t1 lx
      have p1 := PostG.after s t1 p
      have r1 := r.mono t1.le t1.pre
      refine ⟨S1, α1, h1, e, t1.sim, r1, ?_⟩
      simp only [Rs.bind] at p1
      cases eb : evE pr φ cb e h1 with
      | bad => rw [eb] at p1; exact p1
      | exc c fs vs h2 => rw [eb] at p1; exact p1
      | ok y h2 =>
        rw [eb] at p1
        intro S2 α2 H2 vy t2 ly
        have p2 := PostG.after t1.sim t2 p1
        simp only [Rs.bind] at p2
        have lx2 := lx.mono t2.le t2.pre
        have hk : ¬ byKey h2 x = true := fun z => road ⟨x, h1, y, h2, ea, eb, z⟩
        have sq : ∀ {xs : List D}, seq? h2 x = some xs → idxD h2 x y = idxS xs y h2 → rIx X.K vx vy H2 Q := by
          intro xs es ei
          rw [ei] at p2
          unfold idxS at p2
          cases y <;> first | exact p2.elim | skip
          rename_i i
          obtain rfl := rl_int ly
          obtain ⟨a, us, rfl, hq, ru⟩ := seq_ok t2.sim es lx2
          cases el : L2.atI xs i with
          | none => simp only [el] at p2; exact p2.elim
          | some d =>
            simp only [el] at p2
            obtain ⟨v, hv, lv⟩ := atI_rls ru el
            rcases hq with hq | hq
            · exact .inr (.inl ⟨a, us, i, v, rfl, rfl, hK ▸ hq, hv, PostG.here t2.sim p2 lv⟩)
            · exact .inl ⟨a, us, i, v, rfl, rfl, SqL.of hq, hv, PostG.here t2.sim p2 lv⟩
        cases x with
        | tup xs => exact sq (xs := xs) rfl (by simp only [idxD, seq?])
        | lst xs => exact sq (xs := xs) rfl (by simp only [idxD, seq?, items?])
        | ref n =>
          cases es : seq? h2 (.ref n) with
          | some xs => exact sq es (by simp only [idxD, es])
          | none =>
            cases ed : dict? h2 (.ref n) with
            | some q => exact absurd (by simp [byKey, es, ed]) hk
            | none => simp only [idxD, es, ed] at p2; exact p2.elim
        | dic ks vs => exact absurd (by simp [byKey, dict?, seq?, items?]) hk
        | scr ns =>
          cases y <;> simp only [idxD, idxN] at p2 <;> first | exact p2.elim | skip
          rename_i i
          obtain rfl := rl_int ly
          simp only [Rl] at lx2
          obtain ⟨a, rfl, hq⟩ := lx2
          cases el : L2.atI ns i with
          | none => rw [el] at p2; exact p2.elim
          | some z =>
            rw [el] at p2
            refine .inl ⟨a, _, i, .int z, rfl, rfl, hK ▸ sqL_le t2.sim.le hq, ?_, PostG.here t2.sim p2 (by simp only [Rl])⟩
            unfold L2.atI at el ⊢
            rw [List.length_map]
            cases q : L2.ixN ns.length i with
            | none => rw [q] at el; cases el
            | some j => rw [q] at el; simp only [Option.bind_some] at el ⊢; rw [List.getElem?_map, el]; rfl
        | str z =>
          cases y <;> simp only [idxD, idxT] at p2 <;> first | exact p2.elim | skip
          rename_i i
          obtain rfl := rl_int ly
          obtain rfl := rl_str lx2
          split at p2
          · rename_i hl
            cases el : L2.atI z.cps.toList i with
            | none => rw [el] at p2; exact p2.elim
            | some c =>
              rw [el] at p2
              exact .inr (.inr ⟨z, i, c, rfl, rfl, by rw [lim]; exact hl, el, PostG.here t2.sim p2 (by simp only [Rl])⟩)
          · exact p2.elim
        | _ => simp only [idxD, seq?, items?, dict?] at p2; exact p2.elim
end
end Pm

set_option linter.all false
set_option maxRecDepth 100000
set_option maxHeartbeats 1000000
namespace Pm
open PySem PySem.Spec L2

section
variable {X : Cx} {W : Wd} {Wx : WX} {pr : Pr} {φ : Nat → List D → Hm → Rs D}
variable {S H : Hp} {α : List Addr} {h : Hm}
/-! ### slices -/
def RP (_ : Wd) (_ : Hp) (_ : List Addr) (d : D) (o : Option Int) : Prop := part? d = some o
theorem _root_.L2.PO.weak {X : Cx} {e : Option Expr} {t t' : TO} (h : PO X e t) (k : ∀ σ H Q, t' σ H Q → t σ H Q) : PO X e t' := ⟨fun pins s σ H Q I q => h.run pins s σ H Q I (k σ H Q q)⟩
theorem o_none : PO X none (tG RP W Wx (evO pr φ .none)) := po_none.weak fun σ H Q ⟨S, α, h, e, s, r, p⟩ => by
  simp only [evO] at p
  exact PostG.here s p rfl
theorem o_some {a : Expr} {ca : E} (ha : PE X a (tE W Wx (evE pr φ ca))) : PO X (some a) (tG RP W Wx (evO pr φ (.some ca))) := (po_some ha).weak fun σ H Q p => by
  simp only [evO] at p
  refine tG.seq (R := Rl) (R' := RP) (f := fun _ x h => match x with | .int i => .ok (.int i) h | _ => .bad) (fun e x h1 S1 α1 H1 v s1 r1 lx p1 => ?_) p
  cases x <;> first | exact p1.elim | skip
  obtain rfl := rl_int lx
  exact ⟨_, rfl, PostG.here s1 p1 rfl⟩
theorem rls_cut {xs : List D} {us : List V} (r : Rls W S α xs us) (l u : Option Int) : Rls W S α (cut xs l u) (cutV us l u) := by
  unfold cut cutV
  rw [r.length]
  exact (r.drop _).take _
theorem m_sl {a : Expr} {ca : E} {lo hi : Option Expr} {cl ch : Oe} {pos p2 : Pos} (ha : PE X a (tE W Wx (evE pr φ ca))) (hl : PO X lo (tG RP W Wx (evO pr φ cl))) (hh : PO X hi (tG RP W Wx (evO pr φ ch))) :
    PE X (.Subscript a (.Slice lo hi none p2) pos) (tE W Wx (evE pr φ (.sl ca cl ch))) := (pe_slice (sl_list.or sl_str) ha hl hh).weak fun σ H Q p => by
  simp only [evE] at p
  refine tG.seq (R := Rl) (R' := Rl) (f := fun e x h => (evO pr φ cl e h).bind fun l h => (evO pr φ ch e h).bind fun u h => slD h x l u) (fun e x h1 S1 α1 H1 vx s1 r1 lx p1 => ?_) p
  refine ⟨S1, α1, h1, e, s1, r1, p1.bind s1 fun dl h2 S2 α2 H2 l t2 ll p2 => ?_⟩
  refine ⟨S2, α2, h2, e, t2.sim, r1.mono t2.le t2.pre, p2.bind t2.sim fun du h3 S3 α3 H3 u t3 lu p3 => ?_⟩
  have lx3 := (lx.mono t2.le t2.pre).mono t3.le t3.pre
  simp only [slD, show part? dl = some l from ll, show part? du = some u from lu] at p3
  cases es : items? h3 x with
  | some xs =>
    simp only [es] at p3
    obtain ⟨a, us, rfl, hq, ru⟩ := items_ok t3.sim es lx3
    exact .inl ⟨a, us, rfl, SqL.of hq, (newL_ok t3.sim (rls_cut ru l u) p3).2⟩
  | none =>
    simp only [es] at p3
    cases x <;> first | exact p3.elim | skip
    rename_i z
    obtain rfl := rl_str lx3
    simp only at p3
    split at p3
    · rename_i hz
      exact .inr ⟨z, rfl, by rw [lim]; exact hz, PostG.here t3.sim p3 (by simp only [Rl]; rfl)⟩
    · exact p3.elim

/-- what an exception class must say for isinstance, for its fields -/
structure ExcF (K : PySem.W.Frag) (C : Addr) : Prop where
  cl : (PySem.W.clsIn K C).isSome = true
  ga : PySem.W.findIn K (.ref C) "__getattribute__" = some (some (.builtin "BaseException.__getattribute__"))
  gt : PySem.W.findIn K (.ref C) "__getattr__" = some none
  sub : PySem.W.subIn K (.ref C) (.type "BaseException") = some true
  ca : PySem.W.findIn K (.ref C) "__class__" = some (some (.builtin "object.__class__"))
  hd : PySem.W.hasDictIn K C = true
  hm : PySem.W.mroIn K C (.type "object") = some true
/-- the object and the dict of an exception that is being held -/
theorem exo_inst {X : Cx} {pins : List (Addr × Obj)} {σ : L2.St} {H : Hp} {s : Shared} {a C : Addr} {d : Option Addr} (I : Inv X pins σ H s) (ea : H a = some (exo a C d)) (ed : ∀ dx, d = some dx → ∃ l, H dx = some (exd dx l)) : ∃ ox od, PySem.W.InstAt s.heap a ox C od := by
  obtain ⟨t1, he⟩ := exo_at I.hok ea
  cases d with
  | none => exact ⟨_, none, he, rfl, rfl, trivial⟩
  | some dx =>
    obtain ⟨l, hl⟩ := ed dx rfl
    obtain ⟨mA, hn, _⟩ := exd_at I.hok hl
    obtain ⟨o, es, ep, e1, _⟩ := hn
    exact ⟨_, some o, he, rfl, rfl, e1⟩
/-- e.f, e an exception that is being held -/
def tXf (K : PySem.W.Frag) (ta : TE) (f : Str) : TE := fun σ H Q => ta σ H fun x H1 => ∃ (a C dx : Addr) (l : List (Str × V)) (v : V), x = .ref a ∧ H1 a = some (exo a C (some dx)) ∧ H1 dx = some (exd dx l) ∧ ExcF K C ∧ PySem.W.findIn K (.ref C) f = some none ∧ l.lookup f = some v ∧ Q v H1
theorem pe_xf {X : Cx} {e : Expr} {ta : TE} {f : Str} {pos : Pos} (he : PE X e ta) (hb : attributeBase e f X.env (eval e X.env) = eval e X.env) : PE X (.Attribute e f pos) (tXf X.K ta f) := by
  constructor
  intro pins s σ H Q I h
  refine attr_of hb (thn (he.run pins s σ H _ I h) ?_)
  rintro u s1 ⟨x, H1, I1, rx, a, C, dx, l, v, ex, ea, ed, F, hno, hl, q⟩
  subst ex
  obtain rfl : u = Value.ref a := rx
  obtain ⟨t1, hobj⟩ := exo_at I1.hok ea
  obtain ⟨mA, hns, hr⟩ := exd_at I1.hok ed
  obtain ⟨od, hod, hlk⟩ := lookIn_ns hns
  have rf := hr f
  rw [hl] at rf
  obtain ⟨w, hw, rw_⟩ := rf.some_of
  refine PySem.HandSPX.exc_get I1.kIn (od := some od) (ox := _) ⟨hobj, rfl, rfl, hod⟩ F.ga F.gt F.sub (PySem.W.findObj_own F.hd hno rfl (by rw [hlk, hw])) (handed_of rw_) ?_
  exact ⟨v, H1, I1.tok _, rw_, q⟩
/-! ### the facts of the text -/
structure Facts (W : Wd) (pr : Pr) : Prop where
  inj : ∀ f g, W.nm f = W.nm g → f = g
  cls : ∀ (c : Nat) cl, pr.cls[c]? = some cl → cl.isx = false → Cls W.K (W.ca c)
  isx : ∀ (c : Nat) cl, pr.cls[c]? = some cl → cl.isx = false ∨ cl.flds = []
  fld : ∀ (c : Nat) cl f, pr.cls[c]? = some cl → cl.flds.contains f = true → NoAttr W.K (W.ca c) (W.nm f)
  xf : ∀ (c : Nat) cl, pr.cls[c]? = some cl → cl.isx = true → ExcF W.K (W.ca c) ∧ ∀ f, cl.exf.contains f = true → PySem.W.findIn W.K (.ref (W.ca c)) (W.nm f) = some none

theorem look_lookup (inj : ∀ f g, W.nm f = W.nm g → f = g) (f : Nat) : ∀ {fs : List Nat} {vs : List D} {us : List V}, fs.length = us.length → Rls W S α vs us →
    (∀ d, look f fs vs = some d → ∃ v, ((fs.map W.nm).zip us).lookup (W.nm f) = some v ∧ Rl W S α d v) ∧ (look f fs vs = none → ((fs.map W.nm).zip us).lookup (W.nm f) = none)
  | [], vs, us, _, _ => ⟨fun d e => by simp [look] at e, fun _ => by simp⟩
  | g :: gs, [], us, hl, r => by simp only [Rls] at r; subst r; simp at hl
  | g :: gs, x :: xs, us, hl, r => by
    simp only [Rls] at r
    obtain ⟨u, t, e, r1, r2⟩ := r
    subst e
    have hl' : gs.length = t.length := by simpa using hl
    obtain ⟨i1, i2⟩ := look_lookup inj f hl' r2
    simp only [look, List.map_cons, List.zip_cons_cons, List.lookup_cons]
    by_cases h : g = f
    · subst h
      rw [if_pos rfl, beq_self_eq_true]
      exact ⟨fun d e => ⟨u, rfl, by cases e; exact r1⟩, fun e => by cases e⟩
    · have hb : (W.nm f == W.nm g) = false := beq_eq_false_iff_ne.mpr fun e => h (inj _ _ e).symm
      rw [if_neg h, hb]
      exact ⟨i1, i2⟩
/-- a property's getter -/
structure PropFact (W : Wd) (X : Cx) (pr : Pr) (φ : Nat → List D → Hm → Rs D) (c f g : Nat) : Prop where
  pe : ∀ {e : Expr} {pos : Pos} {ta : TE}, PE X e ta → attributeBase e (W.nm f) X.env (eval e X.env) = eval e X.env →
    PE X (.Attribute e (W.nm f) pos) (fun σ H Q => ta σ H fun x H1 => ∃ a dx fs, x = .ref a ∧ H1 a = some (.ins (W.ca c) dx fs) ∧ ∃ S α h d, Sim W S α h H1 ∧ Rl W S α d x ∧ PostE W S α H1 (φ g [d] h) Q fun _ _ _ => False)
theorem look_zip (f : Nat) : ∀ {fs : List Nat} {vs : List D} {us : List V} {d : D}, fs.length = us.length → Rls W S α vs us → look f fs vs = some d → ∃ u, (f, u) ∈ fs.zip us ∧ Rl W S α d u
  | [], vs, us, d, _, _, e => by simp [look] at e
  | g :: gs, [], us, d, hl, r, e => by simp [look] at e
  | g :: gs, x :: xs, us, d, hl, r, e => by
    simp only [Rls] at r
    obtain ⟨u, t, e1, r1, r2⟩ := r
    subst e1
    simp only [look] at e
    by_cases h : g = f
    · rw [if_pos h] at e; cases e
      subst h
      exact ⟨u, by simp, r1⟩
    · rw [if_neg h] at e
      obtain ⟨w, h1, h2⟩ := look_zip f (show gs.length = t.length by simpa using hl) r2 e
      exact ⟨w, by simp [h1], h2⟩
theorem m_fld (hK : W.K = X.K) (F : Facts W pr) {a : Expr} {ca : E} {f : Nat} {pos : Pos} (ha : PE X a (tE W Wx (evE pr φ ca))) (hb : attributeBase a (W.nm f) X.env (eval a X.env) = eval a X.env)
    (hpr : ∀ (c : Nat) cl g, pr.cls[c]? = some cl → cl.props.lookup f = some g → False) : PE X (.Attribute a (W.nm f) pos) (tE W Wx (evE pr φ (.fld ca f))) := ((pe_fld ha hb).or (pe_xf ha hb)).weak fun σ H Q p => by
  obtain ⟨S, α, h, e, s, r, p⟩ := p
  simp only [evE] at p
  cases ev : evE pr φ ca e h with
  | bad => rw [ev] at p; exact p.elim
  | exc c fs vs h1 => exact .inl ⟨S, α, h, e, s, r, by rw [ev] at p ⊢; exact p⟩
  | ok x h1 =>
    rw [ev] at p
    simp only [Rs.bind] at p
    by_cases hx : ∃ c fs vs, x = .xcp c fs vs
    · obtain ⟨c, fs, vs, rfl⟩ := hx
      refine .inr ⟨S, α, h, e, s, r, ?_⟩
      rw [ev]
      intro S1 α1 H1 vx t1 lx
      have p1 := PostG.after s t1 p
      simp only [fldD] at p1
      cases ec : pr.cls[c]? with
      | none => rw [ec] at p1; exact p1.elim
      | some cl =>
        rw [ec] at p1
        simp only at p1
        split at p1
        · rename_i hc
          split at hc
          · rename_i hcc
            simp only [Bool.and_eq_true, decide_eq_true_eq] at hcc
            obtain ⟨⟨hi, hf⟩, hex⟩ := hcc
            cases el : look f fs vs with
            | none => rw [el] at hc; cases hc
            | some d =>
              rw [el] at hc
              cases hc
              simp only [Rl] at lx
              obtain ⟨a, us, rfl, ru, hl, q⟩ := lx
              obtain ⟨u, hm, lu⟩ := look_zip f hl ru el
              rcases q with ⟨q, _⟩ | ⟨dx, l, q1, q2, q3⟩
              · subst q; simp at hf
              · obtain ⟨x1, x2⟩ := F.xf c cl ec hi
                exact ⟨a, W.ca c, dx, l, u, rfl, t1.sim.le _ _ q1, t1.sim.le _ _ q2, hK ▸ x1, hK ▸ x2 f (by rw [hex]; exact hf), q3 _ hm, PostG.here t1.sim p1 lu⟩
          · cases hc
        · rename_i hc
          split at hc
          · cases el : look f fs vs with
            | none => rw [el] at hc; cases hc
            | some d => rw [el] at hc; cases hc
          · cases hc
        · exact p1.elim
    · refine .inl ⟨S, α, h, e, s, r, ?_⟩
      rw [ev]
      intro S1 α1 H1 vx t1 lx
      have p1 := PostG.after s t1 p
      have s1 := t1.sim
      have e0 : fldD pr h1 x f = (match inst? h1 x with
        | some (c, fs, vs) => match pr.cls[c]? with
          | some cl => match look f fs vs with
            | some v => if cl.flds.contains f then some (.inl v) else none
            | none => (cl.props.lookup f).map .inr
          | none => none
        | none => none) := by
        cases x <;> first | rfl | exact absurd ⟨_, _, _, rfl⟩ hx
      rw [e0] at p1
      cases ei : inst? h1 x with
      | none => simp only [ei] at p1; exact p1.elim
      | some q =>
        obtain ⟨c, fs, vs⟩ := q
        simp only [ei] at p1
        obtain ⟨a, dx, us, rfl, hq, hl, ru⟩ := inst_ok s1 ei lx
        cases ec : pr.cls[c]? with
        | none => simp only [ec] at p1; exact p1.elim
        | some cl =>
          simp only [ec] at p1
          obtain ⟨k1, k2⟩ := look_lookup F.inj f hl ru
          cases el : look f fs vs with
          | some d =>
            simp only [el] at p1
            by_cases hc : cl.flds.contains f = true
            · simp only [hc, if_true] at p1
              obtain ⟨v, hv, lv⟩ := k1 d el
              have he : cl.isx = false := by
                rcases F.isx c cl ec with z | z
                · exact z
                · rw [z] at hc; simp at hc
              exact ⟨a, W.ca c, dx, _, v, rfl, hq, hK ▸ F.cls c cl ec he, hK ▸ F.fld c cl f ec hc, hv, PostG.here s1 p1 lv⟩
            · simp only [hc] at p1; exact p1.elim
          | none =>
            simp only [el] at p1
            cases eg : cl.props.lookup f with
            | none => simp only [eg, Option.map_none] at p1; exact p1.elim
            | some g => exact (hpr c cl g ec eg).elim
end
end Pm

set_option linter.all false
set_option maxRecDepth 100000
set_option maxHeartbeats 1000000
namespace Pm
open PySem PySem.Spec L2

/-- where the defs stand -/
structure Df where
  fa : Nat → Addr
  fd : Nat → FuncData
  ps : Nat → List Str
def flats : List D → Option (List V)
  | [] => some []
  | d :: r => match flatD d, flats r with
    | some v, some vs => some (v :: vs)
    | _, _ => none
theorem flats_rl {W : Wd} {S : Hp} {α : List Addr} : ∀ {ds : List D} {vs : List V}, flats ds = some vs → Rls W S α ds vs
  | [], vs, e => by cases e; simp only [Rls]
  | d :: r, vs, e => by
    simp only [flats] at e
    cases h1 : flatD d with
    | none => rw [h1] at e; cases e
    | some v =>
      cases h2 : flats r with
      | none => rw [h1, h2] at e; cases e
      | some ws =>
        rw [h1, h2] at e; cases e
        simp only [Rls]
        exact ⟨v, ws, rfl, flatD_rl h1, flats_rl h2⟩
def spM (W : Wd) (pr : Pr) (k f : Nat) : Sp := fun vs H Q E => ∃ S α h ds, Sim W S α h H ∧ Rls W S α ds vs ∧ PostE W S α H (callF pr k f ds h) Q E
/-- the defs keep what the machine says, to the depth k -/
structure Calls (W : Wd) (pr : Pr) (F : Df) (X : Cx) (k : Nat) : Prop where
  ok : ∀ (f : Nat) fn, pr.fns[f]? = some fn → FnOk X.prog X.w X.K X.mg X.base (L2.CX X.prog X.w) (3 * k) (F.fa f) (F.fd f) (F.ps f) (spM W pr k f)
/-- what the text says of the defs -/
structure FnFacts (K : PySem.W.Frag) (pr : Pr) (F : Df) : Prop where
  keep : ∀ (f : Nat) fn, pr.fns[f]? = some fn → PySem.W.keepIn K (.ref (F.fa f)) = true
  bnd : ∀ (f : Nat) fn n, pr.fns[f]? = some fn → fn.ar.contains n = true → ∃ dvs ds, flats (fn.dfl.drop (n + fn.dfl.length - fn.np)) = some dvs ∧ Vals dvs ds ∧ Binds K (F.fd f) (F.ps f) ds
theorem cnt_len {pr : Pr} {φ : Nat → List D → Hm → Rs D} : ∀ {cs : Es} {n : Nat} {e : Ev} {h h1 : Hm} {ds : List D}, cs.cnt = some n → evEs pr φ cs e h = .ok ds h1 → ds.length = n
  | .nil, n, e, h, h1, ds, c, q => by
    simp only [Es.cnt] at c; cases c
    simp only [evEs] at q; cases q; rfl
  | .cons a r, n, e, h, h1, ds, c, q => by
    simp only [Es.cnt] at c
    cases cr : r.cnt with
    | none => rw [cr] at c; cases c
    | some m =>
      rw [cr] at c; cases c
      simp only [evEs] at q
      cases q1 : evE pr φ a e h with
      | bad => rw [q1] at q; cases q
      | exc _ _ _ _ => rw [q1] at q; cases q
      | ok x h2 =>
        rw [q1] at q
        simp only [Rs.bind] at q
        cases q2 : evEs pr φ r e h2 with
        | bad => rw [q2] at q; cases q
        | exc _ _ _ _ => rw [q2] at q; cases q
        | ok xs h3 =>
          rw [q2] at q; cases q
          simp only [List.length_cons, cnt_len cr q2]
  | .star _ _, _, _, _, _, _, c, _ => by simp [Es.cnt] at c
theorem fillD_some {pr : Pr} {f : Nat} {ds all : List D} (e : fillD pr f ds = some all) : ∃ fn, pr.fns[f]? = some fn ∧ fn.ar.contains ds.length = true ∧ all = ds ++ fn.dfl.drop (ds.length + fn.dfl.length - fn.np) := by
  unfold fillD at e
  cases h : pr.fns[f]? with
  | none => rw [h] at e; cases e
  | some fn =>
    rw [h] at e
    simp only at e
    split at e
    · rename_i c
      exact ⟨fn, rfl, c, (Option.some.inj e).symm⟩
    · cases e

section
variable {X : Cx} {W : Wd} {Wx : WX} {pr : Pr} {F : Df} {k : Nat}
/-- f(a, ..) -/
theorem m_call (FF : FnFacts X.K pr F) (C : Calls W pr F X k) (hr : Room (3 * k) X.A) (tk : Takes X Wx) {x : Str} {a : Expr} {es : List Expr} {cs : Es} {p pos : Pos} {f n : Nat} {fn : Fn} (hf : pr.fns[f]? = some fn) (hn : cs.cnt = some n) (har : fn.ar.contains n = true)
    (hg : Gl X x) (hm : X.mg x = some (.ref (F.fa f))) (ha : PA X (a :: es) (tL W Wx (evEs pr (callF pr k) cs))) (hdb : (x == ("__debug__" : Str)) = false) (he : starEach (a :: es) X.env = (false, eval a X.env) :: starEach es X.env)
    (hpl : (backTo pos (starEach es X.env)).any (·.1) = false) : PE X (.Call (.Name x p) (a :: es) [] pos) (tE W Wx (evE pr (callF pr k) (.call f cs))) := by
  obtain ⟨dvs, ds, hd, hv, hb⟩ := FF.bnd f fn n hf har
  refine (pe_callSD (E := WE Wx) (C.ok f fn hf) hr hg hm (FF.keep f fn hf) hb hv (passAt tk) ha hdb he hpl).weak fun σ H Q q => ?_
  obtain ⟨S, α, h, e, s, r, q⟩ := q
  refine ⟨S, α, h, e, s, r, ?_⟩
  simp only [evE] at q
  cases ev : evEs pr (callF pr k) cs e h with
  | bad => rw [ev] at q; exact q
  | exc c fs vs h1 => rw [ev] at q; exact q
  | ok xs h1 =>
    rw [ev] at q
    intro S1 α1 H1 vs t1 lv
    have q1 := PostG.after s t1 q
    simp only [Rs.bind] at q1
    have hl := cnt_len hn ev
    have hfill : fillD pr f xs = some (xs ++ fn.dfl.drop (n + fn.dfl.length - fn.np)) := by
      unfold fillD
      rw [hf]
      simp only [hl, har, if_true]
    rw [hfill] at q1
    exact ⟨S1, α1, h1, _, t1.sim, lv.app (flats_rl hd), q1⟩
end

section
variable {X : Cx} {CX : CXT} {k : Nat} {f C : Addr} {fd : FuncData} {ps : List Str} {sp : Sp} {dvs : List V} {ds : List Value} {E : St → XK} {x m : Str} {p pos apos : Pos} {e o : Expr} {es : List Expr} {ta : TE} {t : TA}
/-- o.m(..), an exception wished for at the slots -/
def tMethS (C : Addr) (m : Str) (sp : Sp) (dvs : List V) (E : St → XK) (ta : TE) (t : TA) : TE := fun σ H Q => ta σ H fun x H1 => ∃ a dx fs, x = .ref a ∧ H1 a = some (.ins C dx fs) ∧ fs.lookup m = none ∧
  t σ H1 fun vs H2 => sp (x :: (vs ++ dvs)) H2 Q (E σ)
theorem pe_methSD {pl : Sem Bool} (he : PE X o ta) (c : Cls X.K C) (hm : Meth X.K C m f) (F : FnOk X.prog X.w X.K X.mg X.base CX k f fd ps sp) (hr : Room k X.A) (hb : Binds X.K fd ps ds) (hd : Vals dvs ds)
    (hx : ∀ σ, PassesAt CX X σ (E σ)) (ha : (es = [] ∧ t = tNil) ∨ (PA X es t ∧ ∃ e r, es = e :: r ∧ starEach (e :: r) X.env = (false, eval e X.env) :: starEach r X.env ∧ (backTo pos (starEach r X.env)).any (·.1) = false))
    (ht : eval (.Call (.Attribute o m apos) es [] pos) X.env = (do
      let w ← eval o X.env
      standAt apos.atName
      let (g, first) ← holding [w] (getMethod w m pl)
      callWith pos g first (backTo pos (starEach es X.env)) (backToKw pos (keywordEach [] X.env)))) :
    PE X (.Call (.Attribute o m apos) es [] pos) (tMethS C m sp dvs E ta t) := by
  constructor
  intro pins s σ H Q I h
  apply PySem.W.methodCall_KW (pl := pl) _ ht
  refine thn (he.run pins s σ H _ I h) ?_
  rintro u s1 ⟨x, H1, I1, rx, a, dx, fs, ex, ea, l, q⟩
  subst ex
  obtain rfl : u = Value.ref a := rx
  refine getmeth_ok I1 ea c hm l ?_
  rcases ha with ⟨e0, e1⟩ | ⟨ha, e, r, e0, h1, h2⟩
  · subst e0 e1
    refine PySem.W.callWith_K0 (first := [.ref a]) I1.kIn hm.kp ?_
    exact run_fnSD (us := [.ref a]) (vs := [.ref a]) F hr hb hd (hx σ) I1 (.cons rfl .nil) q
  · subst e0
    refine PySem.W.callWith_K (first := [.ref a]) (h₀ := X.base) I.ok.mod.kin hm.kp ?_ h1 h2
    refine thn (ha.run pos pins s1 σ H1 _ I1 q) ?_
    rintro us s2 ⟨vs, H2, I2, rv, q2⟩
    exact ⟨I2.kIn, run_fnSD (us := .ref a :: us) (vs := .ref a :: vs) F hr hb hd (hx σ) I2 (.cons rfl rv) q2⟩
/-- C(..), an exception wished for at the slots -/
def tMakeS (C : Addr) (sp : Sp) (dvs : List V) (E : St → XK) (t : TA) : TE := fun σ H Q => t σ H fun vs H1 => ∀ x dx, H1 x = none → H1 dx = none → dx ≠ x →
  sp (.ref x :: (vs ++ dvs)) (upd (upd H1 dx (.own x)) x (.ins C dx [])) (fun v H2 => v = .non ∧ Q (.ref x) H2) (E σ)
theorem run_makeS {pins : List (Addr × Obj)} {σ : L2.St} {H : Hp} {s : Shared} {Q : VK} {us : List Value} {vs : List V} (M : Mk X.K C f) (F : FnOk X.prog X.w X.K X.mg X.base CX k f fd ps sp) (hr : Room (k + 1) X.A) (hb : Binds X.K fd ps ds) (hd : Vals dvs ds)
    (hx : PassesAt CX X σ (E σ)) (I : L2.Inv X pins σ H s) (r : Vals vs us)
    (h : ∀ x dx, H x = none → H dx = none → dx ≠ x → sp (.ref x :: (vs ++ dvs)) (upd (upd H dx (.own x)) x (.ins C dx [])) (fun v H2 => v = .non ∧ Q (.ref x) H2) (E σ)) :
    wpAny (model X.prog X.w) X.A (call (.ref C) us) (EP X pins σ Q) X.xe s := by
  have n1 : s.heap.objs.size ≠ s.heap.objs.size + 1 := Nat.ne_of_lt (Nat.lt_succ_self _)
  have q := h (s.heap.objs.size + 1) s.heap.objs.size (I.hok.fresh (Nat.le_succ _)) (I.hok.fresh (Nat.le_refl _)) n1
  have J := Inv.made (C := C) I
  have rv : Vals (V.ref (s.heap.objs.size + 1) :: (vs ++ dvs)) (Value.ref (s.heap.objs.size + 1) :: (us ++ ds)) := .cons rfl (r.append hd)
  have hl : (Value.ref (s.heap.objs.size + 1) :: us ++ ds).length = ps.length := (rv.length.symm.trans (F.len _ _ _ _ q))
  apply wpAny_call
  apply make_map (f := f) I.kIn M.makes M.init (beq_iff_eq.mp M.fn)
  refine codeAny_mono (F.run _ X.stack _ _ ⟨Value.ref (s.heap.objs.size + 1) :: us, []⟩ (Value.ref (s.heap.objs.size + 1) :: (us ++ ds)) _ _ (E σ) (hr.make C us []) (J.env0.make C us []) (hb _ (Value.ref (s.heap.objs.size + 1) :: us) J.kIn hl) rv q) ?_
  intro z s' hz
  cases z with
  | error e => exact hx pins _ _ e s' J hz
  | ok fl =>
    cases fl with
    | ret u =>
      obtain ⟨v, H', J2, rr, ev, q3⟩ := J.after hz
      subst ev
      exact ⟨rr, V.ref (s.heap.objs.size + 1), H', J2, rfl, q3⟩
    | _ => exact False.elim hz
theorem pe_makeS (M : Mk X.K C f) (F : FnOk X.prog X.w X.K X.mg X.base CX k f fd ps sp) (hr : Room (k + 1) X.A) (hg : Gl X x) (hm : X.mg x = some (.ref C)) (hb : Binds X.K fd ps ds) (hd : Vals dvs ds) (hx : ∀ σ, PassesAt CX X σ (E σ))
    (ha : (es = [] ∧ t = tNil) ∨ (PA X es t ∧ ∃ e r, es = e :: r ∧ starEach (e :: r) X.env = (false, eval e X.env) :: starEach r X.env ∧ (backTo pos (starEach r X.env)).any (·.1) = false)) (hdb : (x == ("__debug__" : Str)) = false) :
    PE X (.Call (.Name x p) es [] pos) (tMakeS C sp dvs E t) := by
  constructor
  intro pins s σ H Q I h
  apply wpAny_Call_Name_kw
  refine ld_glob I hg hm ?_ hdb
  rcases ha with ⟨e0, e1⟩ | ⟨ha, e, r, e0, h1, h2⟩
  · subst e0 e1
    exact PySem.W.callWith_K0 I.kIn M.kp (run_makeS (us := []) M F hr hb hd (hx σ) I .nil h)
  · subst e0
    refine PySem.W.callWith_K (h₀ := X.base) I.ok.mod.kin M.kp ?_ h1 h2
    refine thn (ha.run pos pins s σ H _ I h) ?_
    rintro us s1 ⟨vs, H1, I1, rv, q⟩
    exact ⟨I1.kIn, run_makeS M F hr hb hd (hx σ) I1 rv q⟩
end
end Pm

set_option linter.all false
set_option maxRecDepth 100000
set_option maxHeartbeats 1000000
namespace Pm
open PySem PySem.Spec L2

theorem _root_.L2.PE.any {X : Cx} {e : Expr} {ι : Type} {t : ι → TE} (h : ∀ i, PE X e (t i)) : PE X e (fun σ H Q => ∃ i, t i σ H Q) := ⟨fun pins s σ H Q I ⟨i, q⟩ => (h i).run pins s σ H Q I q⟩
/-- arguments without a star -/
def ArgsOk (X : Cx) (pos : Pos) (es : List Expr) (cs : Es) (t : TA) : Prop :=
  (es = [] ∧ cs = .nil) ∨ (PA X es t ∧ ∃ e r, es = e :: r ∧ starEach (e :: r) X.env = (false, eval e X.env) :: starEach r X.env ∧ (backTo pos (starEach r X.env)).any (·.1) = false)

section
variable {X : Cx} {W : Wd} {Wx : WX} {pr : Pr} {F : Df} {k : Nat}
structure MthFacts (W : Wd) (K : PySem.W.Frag) (pr : Pr) (F : Df) : Prop where
  mth : ∀ (c : Nat) cl m g, pr.cls[c]? = some cl → cl.mths.lookup m = some g → Cls K (W.ca c) ∧ Meth K (W.ca c) (W.nm m) (F.fa g)
  made : ∀ (c : Nat) cl f, pr.cls[c]? = some cl → cl.isx = false → cl.init = some f → Mk K (W.ca c) (F.fa f)
abbrev MthIx (pr : Pr) (m n : Nat) : Type := { p : Nat × Nat // ∃ cl fn, pr.cls[p.1]? = some cl ∧ cl.mths.lookup m = some p.2 ∧ pr.fns[p.2]? = some fn ∧ fn.ar.contains (n + 1) = true }
theorem mthF_some {h : Hm} {x : D} {m c g : Nat} (e : mthF pr h x m = some (c, g)) : ∃ fs vs cl, inst? h x = some (c, fs, vs) ∧ look m fs vs = none ∧ pr.cls[c]? = some cl ∧ cl.mths.lookup m = some g := by
  unfold mthF at e
  cases ei : inst? h x with
  | none => rw [ei] at e; cases e
  | some q =>
    obtain ⟨c0, fs, vs⟩ := q
    rw [ei] at e
    simp only at e
    cases el : look m fs vs with
    | some _ => rw [el] at e; cases e
    | none =>
      rw [el] at e
      simp only at e
      cases ec : pr.cls[c0]? with
      | none => rw [ec] at e; cases e
      | some cl =>
        rw [ec] at e
        simp only at e
        cases eg : cl.mths.lookup m with
        | none => rw [eg] at e; cases e
        | some g0 =>
          rw [eg] at e
          simp only [Option.map_some, Option.some.injEq, Prod.mk.injEq] at e
          obtain ⟨rfl, rfl⟩ := e
          exact ⟨fs, vs, cl, rfl, el, ec, eg⟩
/-- the arguments by the machine, or none of them -/
theorem argsOk_le {pos : Pos} {es : List Expr} {cs : Es} {t : TA} (ha : ArgsOk X pos es cs t) : ∃ t' : TA, ((es = [] ∧ t' = tNil) ∨ (PA X es t' ∧ ∃ e r, es = e :: r ∧ starEach (e :: r) X.env = (false, eval e X.env) :: starEach r X.env ∧ (backTo pos (starEach r X.env)).any (·.1) = false)) ∧ ((t' = t) ∨ (cs = .nil ∧ t' = tNil)) := by
  rcases ha with ⟨h1, h2⟩ | ⟨h1, h2⟩
  · exact ⟨tNil, .inl ⟨h1, rfl⟩, .inr ⟨h2, rfl⟩⟩
  · exact ⟨t, .inr ⟨h1, h2⟩, .inl rfl⟩
/-- what follows the arguments -/
theorem args_run {φ : Nat → List D → Hm → Rs D} {cs : Es} {t' : TA} (ht : t' = tL W Wx (evEs pr φ cs) ∨ (cs = .nil ∧ t' = tNil)) {σ : L2.St} {S H : Hp} {α : List Addr} {h : Hm} {e : Ev} {f : List D → Hm → Rs D} {Q : VK} {Q1 : List V → Hp → Prop} {n : Nat} (hn : cs.cnt = some n)
    (s : Sim W S α h H) (r : REv W S α e σ) (p : PostE W S α H ((evEs pr φ cs e h).bind f) Q fun C dd H' => Wx C dd σ H')
    (k : ∀ ds h1 S1 α1 H1 vs, Step W S α H S1 α1 h1 H1 → Rls W S1 α1 ds vs → ds.length = n → PostE W S1 α1 H1 (f ds h1) Q (fun C dd H' => Wx C dd σ H') → Q1 vs H1) : t' σ H Q1 := by
  rcases ht with ht | ⟨h1, h2⟩
  · subst ht
    refine ⟨S, α, h, e, s, r, ?_⟩
    cases ev : evEs pr φ cs e h with
    | bad => rw [ev] at p; exact p
    | exc c fs vs h1 => rw [ev] at p; exact p
    | ok xs h1 =>
      rw [ev] at p
      exact fun S1 α1 H1 vs t1 lv => k xs h1 S1 α1 H1 vs t1 lv (cnt_len hn ev) (PostG.after s t1 p)
  · subst h1 h2
    simp only [Es.cnt] at hn; cases hn
    simp only [evEs, Rs.bind] at p
    exact k [] h S α H [] (.refl s) (by simp only [Rls]) rfl p
/-- o.m(a, ..) -/
theorem m_mth (FF : FnFacts X.K pr F) (MF : MthFacts W X.K pr F) (FA : Facts W pr) (C : Calls W pr F X k) (hr : Room (3 * k) X.A) (tk : Takes X Wx) {o : Expr} {co : E} {es : List Expr} {cs : Es} {apos pos : Pos} {m n : Nat} {pl : Sem Bool} (hn : cs.cnt = some n) (i0 : MthIx pr m n)
    (ho : PE X o (tE W Wx (evE pr (callF pr k) co))) (ha : ArgsOk X pos es cs (tL W Wx (evEs pr (callF pr k) cs)))
    (ht : eval (.Call (.Attribute o (W.nm m) apos) es [] pos) X.env = (do
      let w ← eval o X.env
      standAt apos.atName
      let (g, first) ← holding [w] (getMethod w (W.nm m) pl)
      callWith pos g first (backTo pos (starEach es X.env)) (backToKw pos (keywordEach [] X.env)))) :
    PE X (.Call (.Attribute o (W.nm m) apos) es [] pos) (tE W Wx (evE pr (callF pr k) (.mth co m cs))) := by
  obtain ⟨t', ha1, ha2⟩ := argsOk_le ha
  have fam : ∀ i : MthIx pr m n, ∃ dvs, (∀ fn, pr.fns[i.1.2]? = some fn → flats (fn.dfl.drop ((n + 1) + fn.dfl.length - fn.np)) = some dvs) ∧
      PE X (.Call (.Attribute o (W.nm m) apos) es [] pos) (tMethS (W.ca i.1.1) (W.nm m) (spM W pr k i.1.2) dvs (WE Wx) (tE W Wx (evE pr (callF pr k) co)) t') := by
    rintro ⟨⟨c, g⟩, cl, fn, h1, h2, h3, h4⟩
    obtain ⟨dvs, ds, hd, hv, hb⟩ := FF.bnd g fn (n + 1) h3 h4
    obtain ⟨c1, c2⟩ := MF.mth c cl m g h1 h2
    exact ⟨dvs, fun fn' e => by rw [h3] at e; cases e; exact hd, pe_methSD ho c1 c2 (C.ok g fn h3) hr hb hv (passAt tk) ha1 ht⟩
  refine (PE.any (t := fun i => tMethS (W.ca i.1.1) (W.nm m) (spM W pr k i.1.2) (Classical.choose (fam i)) (WE Wx) (tE W Wx (evE pr (callF pr k) co)) t') fun i => (Classical.choose_spec (fam i)).2).weak fun σ H Q q => ?_
  obtain ⟨S, α, h, e, s, r, q⟩ := q
  simp only [evE] at q
  cases ev : evE pr (callF pr k) co e h with
  | bad => rw [ev] at q; exact q.elim
  | exc c fs vs h1 =>
    refine ⟨i0, S, α, h, e, s, r, ?_⟩
    rw [ev] at q ⊢
    exact q
  | ok x h1 =>
    rw [ev] at q
    simp only [Rs.bind] at q
    cases em : mthF pr h1 x m with
    | none => rw [em] at q; exact q.elim
    | some p =>
      obtain ⟨c, g⟩ := p
      rw [em] at q
      simp only at q
      obtain ⟨fs, vs, cl, ei, el, ec, eg⟩ := mthF_some em
      cases et : takesN pr g (cs.cnt.map (· + 1)) with
      | false => rw [et] at q; exact q.elim
      | true =>
        rw [et] at q
        simp only [if_true] at q
        rw [hn] at et
        unfold takesN at et
        cases h3 : pr.fns[g]? with
        | none => rw [h3] at et; simp at et
        | some fn =>
          rw [h3] at et
          have h4 : fn.ar.contains (n + 1) = true := et
          refine ⟨⟨(c, g), cl, fn, ec, eg, h3, h4⟩, S, α, h, e, s, r, ?_⟩
          rw [ev]
          intro S1 α1 H1 vx t1 lx
          have q1 := PostG.after s t1 q
          obtain ⟨a, dx, us, rfl, hq, hl, ru⟩ := inst_ok t1.sim ei lx
          refine ⟨a, dx, _, rfl, hq, (look_lookup FA.inj m hl ru).2 el, ?_⟩
          refine args_run ha2 hn t1.sim (r.mono t1.le t1.pre) q1 fun ds h2 S2 α2 H2 ws t2 ls ln q2 => ?_
          have hd := (Classical.choose_spec (fam ⟨(c, g), cl, fn, ec, eg, h3, h4⟩)).1 fn h3
          have hfill : fillD pr g (x :: ds) = some (x :: (ds ++ fn.dfl.drop ((n + 1) + fn.dfl.length - fn.np))) := by
            unfold fillD
            rw [h3]
            simp only [List.length_cons, ln, h4, if_true, List.cons_append]
          simp only [hfill] at q2
          refine ⟨S2, α2, h2, _, t2.sim, ?_, q2⟩
          simp only [Rls]
          exact ⟨_, _, rfl, lx.mono t2.le t2.pre, ls.app (flats_rl hd)⟩
end
end Pm

set_option linter.all false
set_option maxRecDepth 100000
set_option maxHeartbeats 1000000
namespace Pm
open PySem PySem.Spec L2

section
variable {W : Wd} {S H : Hp} {α : List Addr} {h : Hm}
theorem look_map (g : Nat → D) (f : Nat) : ∀ (fs : List Nat) (vs : List D), look f fs (mapDs g vs) = (look f fs vs).map (mapD g)
  | [], _ => by simp [look]
  | _ :: _, [] => by simp [look, mapDs]
  | a :: fs, x :: vs => by
    simp only [look, mapDs]
    by_cases e : a = f
    · rw [if_pos e, if_pos e]; rfl
    · rw [if_neg e, if_neg e]; exact look_map g f fs vs
theorem XOk.map {S' : Hp} {β : List Addr} (g : Nat → D) (l : Le S S') (hg : ∀ i v, Rl W S α (.ref i) v → Rl W S' β (g i) v) {c : Nat} {fs : List Nat} {vs : List D} {C : Value} {dd : Option Addr} (x : XOk W S α c fs vs C dd H) : XOk W S' β c fs (mapDs g vs) C dd H := by
  refine ⟨x.cls, ?_⟩
  rcases x.dict with z | ⟨a, k, e1, e2, q⟩
  · exact .inl z
  · refine .inr ⟨a, k, e1, e2, fun f d e => ?_⟩
    rw [look_map] at e
    cases e3 : look f fs vs with
    | none => rw [e3] at e; cases e
    | some d0 =>
      rw [e3] at e
      simp only [Option.map_some, Option.some.injEq] at e
      subst e
      obtain ⟨v, hv, r⟩ := q f d0 e3
      exact ⟨v, hv, Rl.map l g hg _ _ r⟩
/-- an object that the machine does not see -/
theorem Sim.other (s : Sim W S α h H) {p : Addr} {o : HO} (n : H p = none) : Step W S α H S α h (upd H p o) := by
  have np : ∀ a ∈ α, a ≠ p := fun a m e => by
    obtain ⟨_, z, q⟩ := s.mem m
    rw [e, n] at q; cases q
  refine ⟨⟨fun a z q => ?_, s.len, s.nd, fun i c a hc ha => ?_⟩, .refl, .refl, fun a z q _ => by rw [upd_ne (ne_of_none q n)]; exact q, fun a q => absurd rfl q, fun a m k => absurd m k⟩
  · have : a ≠ p := fun e => by subst e; rw [s.le _ _ q] at n; cases n
    rw [upd_ne this]; exact s.le a z q
  · obtain ⟨q, z, k, r⟩ := s.cell i c a hc ha
    exact ⟨q, z, by rw [upd_ne (np a (List.mem_iff_getElem?.mpr ⟨i, ha⟩))]; exact k, r⟩
theorem PostE.shut {r : Rs D} {Q : VK} {E : XK} (s : Sim W S α h H) (p : PostE W S α H (shut h.length r) Q E) : PostE W S α H r Q E := by
  cases r with
  | bad => exact p
  | ok d h1 =>
    intro S1 α1 H1 b t q
    have e := t.shutE s
    have := t.sim.deep h.length q
    rw [e] at this
    exact p _ _ _ _ (t.shut s) this
  | exc c fs vs h1 =>
    intro S1 α1 H1 C dd t x
    have e := t.shutE s
    have x2 := x.map _ (t.sim.frzLe h.length) fun i v q => t.sim.deepN h.length (h1.length + 1) i v q
    rw [e] at x2
    exact p _ _ _ _ _ (t.shut s) x2
theorem XOk.mono {S' : Hp} {β : List Addr} (l : Le S S') (p : Pre α β) {c : Nat} {fs : List Nat} {vs : List D} {C : Value} {dd : Option Addr} (x : XOk W S α c fs vs C dd H) : XOk W S' β c fs vs C dd H := by
  refine ⟨x.cls, ?_⟩
  rcases x.dict with z | ⟨a, k, e1, e2, q⟩
  · exact .inl z
  · exact .inr ⟨a, k, e1, e2, fun f d e => let ⟨v, hv, r⟩ := q f d e; ⟨v, hv, r.mono l p⟩⟩
theorem Pre.nil {β : List Addr} : Pre [] β := fun n a e => by simp at e
theorem PostE.alone {r : Rs D} {Q : VK} {E : XK} (s : Sim W S α h H) (p : PostE W S α H (aloneR h r) Q E) : PostE W S [] H r Q E := by
  cases r with
  | bad => exact p
  | ok d h1 =>
    intro S1 α1 H1 b t q
    have := t.sim.deep 0 q
    rw [List.take_zero] at this
    exact p _ _ _ _ (t.aloneS s) (this.mono .refl .nil)
  | exc c fs vs h1 =>
    intro S1 α1 H1 C dd t x
    have x2 := x.map _ (t.sim.frzLe 0) fun i v q => t.sim.deepN 0 (h1.length + 1) i v q
    rw [List.take_zero] at x2
    exact p _ _ _ _ _ (t.aloneS s) (x2.mono .refl .nil)
end

section
variable {X : Cx} {W : Wd} {Wx : WX} {pr : Pr} {F : Df} {k : Nat}
/-- __init__ on a new instance -/
theorem mkRun_ok {S H : Hp} {α : List Addr} {h : Hm} {Q : VK} {E : XK} {c f : Nat} {all : List D} {ws : List V} (s : Sim W S α h H) (ls : Rls W S α all ws) (p : PostE W S α H (mkRun (callF pr k) c f all h) Q E) {x dx : Addr} (n1 : H x = none) (n2 : H dx = none) (n3 : dx ≠ x) :
    spM W pr k f (.ref x :: ws) (upd (upd H dx (.own x)) x (.ins (W.ca c) dx [])) (fun v H2 => v = .non ∧ Q (.ref x) H2) E := by
  have t1 := s.other (o := .own x) n2
  have n4 : upd H dx (.own x) x = none := by rw [upd_ne (Ne.symm n3)]; exact n1
  have t2 := t1.sim.new (p := x) (c := .ins c [] []) (o := .ins (W.ca c) dx []) n4 ⟨dx, [], rfl, rfl, by simp only [Rls]⟩
  have t := t1.trans s t2
  refine ⟨S, α ++ [x], h ++ [.ins c [] []], .ref h.length :: all, t.sim, ?_, ?_⟩
  · simp only [Rls]
    refine ⟨_, _, rfl, ?_, ls.mono .refl .app⟩
    simp only [Rl]
    exact ⟨x, rfl, s.atEnd⟩
  · have p1 := PostG.after s t (p := p) 
    refine p1.bind (R := Rl W) (R' := Rl W) t.sim fun d h1 S1 α1 H1 b u q p2 => ?_
    cases d <;> first | exact p2.elim | skip
    have hb : b = .non := by simpa only [Rl] using q
    refine ⟨hb, PostG.here u.sim p2 ?_⟩
    simp only [Rl]
    exact ⟨x, rfl, u.pre _ _ s.atEnd⟩
theorem mkD_some {c : Nat} {cl : Cl} (hc : pr.cls[c]? = some cl) (hx : cl.isx = false) {ds : List D} {h : Hm} {S H : Hp} {α : List Addr} {Q : VK} {E : XK} (p : PostE W S α H (mkD pr (callF pr k) c ds h) Q E) :
    ∃ cl f fn, pr.cls[c]? = some cl ∧ cl.init = some f ∧ pr.fns[f]? = some fn ∧ fn.ar.contains (ds.length + 1) = true ∧
      ∀ all, all = ds ++ fn.dfl.drop (ds.length + 1 + fn.dfl.length - fn.np) → PostE W S α H (if cl.keep then mkRun (callF pr k) c f all h else if noRefs all then aloneR h (mkRun (callF pr k) c f all []) else shut h.length (mkRun (callF pr k) c f all h)) Q E := by
  unfold mkD at p
  rw [hc] at p
  simp only [hx, Bool.false_eq_true, if_false] at p
  cases ei : cl.init with
  | none => rw [ei] at p; exact p.elim
  | some f =>
    rw [ei] at p
    simp only at p
    cases ef : fillD pr f (.un :: ds) with
    | none => rw [ef] at p; exact p.elim
    | some q =>
      rw [ef] at p
      obtain ⟨fn, h3, h4, e⟩ := fillD_some ef
      simp only [List.length_cons, List.cons_append] at e h4
      subst e
      refine ⟨cl, f, fn, hc, ei, h3, h4, fun all e => ?_⟩
      subst e
      exact p
/-- C(a, ..) -/
theorem m_mk (FF : FnFacts X.K pr F) (MF : MthFacts W X.K pr F) (C : Calls W pr F X k) (hr : Room (3 * k + 1) X.A) (tk : Takes X Wx) {x : Str} {es : List Expr} {cs : Es} {p pos : Pos} {c f n : Nat} {cl : Cl} {fn : Fn} (hc : pr.cls[c]? = some cl) (hx : cl.isx = false) (hi : cl.init = some f) (hf : pr.fns[f]? = some fn)
    (hn : cs.cnt = some n) (har : fn.ar.contains (n + 1) = true) (hg : Gl X x) (hm : X.mg x = some (.ref (W.ca c))) (ha : ArgsOk X pos es cs (tL W Wx (evEs pr (callF pr k) cs))) (hdb : (x == ("__debug__" : Str)) = false) :
    PE X (.Call (.Name x p) es [] pos) (tE W Wx (evE pr (callF pr k) (.mk c cs))) := by
  obtain ⟨t', ha1, ha2⟩ := argsOk_le ha
  obtain ⟨dvs, ds, hd, hv, hb⟩ := FF.bnd f fn (n + 1) hf har
  refine (pe_makeS (E := WE Wx) (MF.made c cl f hc hx hi) (C.ok f fn hf) hr hg hm hb hv (passAt tk) ha1 hdb).weak fun σ H Q q => ?_
  obtain ⟨S, α, h, e, s, r, q⟩ := q
  simp only [evE] at q
  refine args_run ha2 hn s r q fun ds h1 S1 α1 H1 vs t1 lv ln q1 => ?_
  intro x dx n1 n2 n3
  obtain ⟨cl', f', fn', e1, e2, e3, e4, k1⟩ := mkD_some hc hx q1
  rw [hc] at e1; cases e1
  rw [hi] at e2; cases e2
  rw [hf] at e3; cases e3
  have q2 := k1 _ rfl
  rw [ln] at q2
  have lall : Rls W S1 α1 (ds ++ fn.dfl.drop (n + 1 + fn.dfl.length - fn.np)) (vs ++ dvs) := lv.app (flats_rl hd)
  split at q2
  · exact mkRun_ok t1.sim lall q2 n1 n2 n3
  · split at q2
    · rename_i hno
      exact mkRun_ok t1.sim.alone (Rls.alone hno lall) (PostE.alone t1.sim q2) n1 n2 n3
    · exact mkRun_ok t1.sim lall (PostE.shut t1.sim q2) n1 n2 n3
end
end Pm

set_option linter.all false
set_option maxRecDepth 100000
set_option maxHeartbeats 1000000
namespace Pm
open PySem PySem.Spec L2

section
variable {X : Cx} {W : Wd} {Wx : WX} {pr : Pr} {F : Df} {k : Nat}
/-- f(a, ..) on any arguments -/
theorem m_callA (FF : FnFacts X.K pr F) (C : Calls W pr F X k) (hr : Room (3 * k) X.A) (tk : Takes X Wx) {x : Str} {es : List Expr} {cs : Es} {p pos : Pos} {f n : Nat} {fn : Fn} (hf : pr.fns[f]? = some fn) (hn : cs.cnt = some n) (har : fn.ar.contains n = true)
    (hg : Gl X x) (hm : X.mg x = some (.ref (F.fa f))) (ha : ArgsOk X pos es cs (tL W Wx (evEs pr (callF pr k) cs))) (hdb : (x == ("__debug__" : Str)) = false) : PE X (.Call (.Name x p) es [] pos) (tE W Wx (evE pr (callF pr k) (.call f cs))) := by
  rcases ha with ⟨h1, h2⟩ | ⟨h1, e, r, h2, h3, h4⟩
  · subst h1 h2
    obtain ⟨dvs, ds, hd, hv, hb⟩ := FF.bnd f fn n hf har
    constructor
    intro pins s σ H Q I q
    obtain ⟨S, α, h, e, sm, r, q⟩ := q
    simp only [evE, evEs, Rs.bind] at q
    refine wpAny_Call_Name_kw (ld_glob I hg hm ?_ hdb)
    refine PySem.W.callWith_K0 I.kIn (FF.keep f fn hf) ?_
    simp only [Es.cnt] at hn; cases hn
    have hfill : fillD pr f [] = some (fn.dfl.drop (0 + fn.dfl.length - fn.np)) := by
      unfold fillD
      rw [hf]
      simp only [List.length_nil, har, if_true, List.nil_append]
    rw [hfill] at q
    exact run_fnSD (us := []) (vs := []) (C.ok f fn hf) hr hb hv (passAt tk σ) I .nil ⟨S, α, h, _, sm, flats_rl hd, q⟩
  · subst h2
    exact m_call FF C hr tk hf hn har hg hm h1 hdb h3 h4
end

/-! ### built-in functions -/
def rBlt (W : Wd) (b : Blt) : List V → Hp → VK → Prop := fun vs H Q => ∃ S α h ds, Sim W S α h H ∧ Rls W S α ds vs ∧ PostE W S α H (bltD h b ds) Q fun _ _ _ => False
section
variable {X : Cx} {W : Wd} {Wx : WX} {pr : Pr} {φ : Nat → List D → Hm → Rs D} {S H : Hp} {α : List Addr} {h : Hm}
theorem rls_nil {vs : List V} (r : Rls W S α [] vs) : vs = [] := by simpa only [Rls] using r
theorem rls_one {d : D} {vs : List V} (r : Rls W S α [d] vs) : ∃ v, vs = [v] ∧ Rl W S α d v := by
  simp only [Rls] at r
  obtain ⟨v, t, e, r, e2⟩ := r
  exact ⟨v, by rw [e, e2], r⟩
theorem rls_two {d d' : D} {vs : List V} (r : Rls W S α [d, d'] vs) : ∃ v v', vs = [v, v'] ∧ Rl W S α d v ∧ Rl W S α d' v' := by
  simp only [Rls] at r
  obtain ⟨v, t, e, r, v', t', e2, r2, e3⟩ := r
  exact ⟨v, v', by rw [e, e2, e3], r, r2⟩
theorem allB_rl : ∀ {xs : List D} {us : List V} {bs : List Bool}, allB xs = some bs → Rls W S α xs us → us = bs.map V.bl
  | [], us, bs, e, r => by
    simp only [allB] at e; cases e
    rw [rls_nil r]; rfl
  | x :: xs, us, bs, e, r => by
    simp only [Rls] at r
    obtain ⟨u, t, e1, r1, r2⟩ := r
    subst e1
    cases x <;> simp only [allB] at e <;> first | cases e | skip
    cases e2 : allB xs with
    | none => rw [e2] at e; cases e
    | some cs =>
      rw [e2] at e
      simp only [Option.map_some, Option.some.injEq] at e
      subst e
      rw [allB_rl e2 r2, rl_bl r1]; rfl
theorem bltD_quiet (b : Blt) (ds : List D) : Quiet (bltD h b ds) := by
  unfold bltD
  split <;> (try split) <;> (try split) <;> first | exact trivial | exact newL_quiet _ _
theorem len_one {x : D} {v : V} (hK : W.K = X.K) (s : Sim W S α h H) (lx : Rl W S α x v) {xs : List D} (e : seq? h x = some xs) : LenV X.K v H xs.length := by
  obtain ⟨a, us, rfl, q, r⟩ := seq_ok s e lx
  rw [r.length]
  rcases q with q | q
  · exact .inr ⟨us, hK ▸ q, rfl⟩
  · exact .inl ⟨us, SqL.of q, rfl⟩
theorem blt_len (hK : W.K = X.K) : CallR X (.builtin "len") (rBlt W .len) := by
  intro pins s σ H vs us Q I r ⟨S, α, h, ds, sm, ls, p⟩
  refine call_len pins s σ H vs us Q I r ?_
  have gen : ∀ x, ds = [x] → (match seq? h x with | some xs => (Rs.ok (.int xs.length) h : Rs D) | none => .bad) = bltD h .len ds → ∃ x n, vs = [x] ∧ LenV X.K x H n ∧ Q (.int n) H := by
    intro x e e2
    rw [← e2] at p
    subst e
    obtain ⟨v, rfl, lx⟩ := rls_one ls
    cases es : seq? h x with
    | none => rw [es] at p; exact p.elim
    | some xs =>
      rw [es] at p
      exact ⟨v, _, rfl, len_one hK sm lx es, PostG.here sm p (by simp only [Rl])⟩
  match ds, ls, p, gen with
  | [], _, p, _ => exact p.elim
  | [.scr ns], ls, p, _ =>
    obtain ⟨v, rfl, lx⟩ := rls_one ls
    simp only [Rl] at lx
    obtain ⟨a, rfl, q⟩ := lx
    refine ⟨_, ns.length, rfl, .inl ⟨_, hK ▸ sqL_le sm.le q, by simp⟩, PostG.here sm p (by simp only [Rl])⟩
  | [.str x], ls, p, _ =>
    obtain ⟨v, rfl, lx⟩ := rls_one ls
    obtain rfl := rl_str lx
    simp only [bltD] at p
    split at p
    · rename_i hz
      exact ⟨_, x.length, rfl, ⟨by rw [lim]; exact hz, rfl⟩, PostG.here sm p (by simp only [Rl])⟩
    · exact p.elim
  | [.tup xs], ls, p, gen => exact gen _ rfl rfl
  | [.lst xs], ls, p, gen => exact gen _ rfl rfl
  | [.ref n], ls, p, gen => exact gen _ rfl rfl
  | [.un], _, p, _ | [.non], _, p, _ | [.bl _], _, p, _ | [.int _], _, p, _ | [.dic _ _], _, p, _ | [.obj _ _ _], _, p, _ | [.cls _], _, p, _ | [.xcp _ _ _], _, p, _ => exact p.elim
  | x :: y :: r, _, p, _ => cases x <;> exact p.elim
theorem blt_abs : CallR X (.builtin "abs") (rBlt W .abs) := by
  intro pins s σ H vs us Q I r ⟨S, α, h, ds, sm, ls, p⟩
  refine call_abs pins s σ H vs us Q I r ?_
  match ds, ls, p with
  | [.int i], ls, p =>
    obtain ⟨v, rfl, lx⟩ := rls_one ls
    obtain rfl := rl_int lx
    exact ⟨i, rfl, PostG.here sm p (by simp only [Rl])⟩
  | [], _, p => exact p.elim
  | x :: y :: r, _, p => cases x <;> exact p.elim
  | [.un], _, p | [.non], _, p | [.bl _], _, p | [.str _], _, p | [.tup _], _, p | [.lst _], _, p | [.dic _ _], _, p | [.obj _ _ _], _, p | [.ref _], _, p | [.cls _], _, p | [.scr _], _, p | [.xcp _ _ _], _, p => exact p.elim
theorem blt_int : CallR X (.type "int") (rBlt W .int) := by
  intro pins s σ H vs us Q I r ⟨S, α, h, ds, sm, ls, p⟩
  refine call_int1 pins s σ H vs us Q I r ?_
  match ds, ls, p with
  | [.int i], ls, p =>
    obtain ⟨v, rfl, lx⟩ := rls_one ls
    obtain rfl := rl_int lx
    exact .inl ⟨i, rfl, PostG.here sm p (by simp only [Rl])⟩
  | [.bl i], ls, p =>
    obtain ⟨v, rfl, lx⟩ := rls_one ls
    obtain rfl := rl_bl lx
    exact .inr ⟨i, rfl, PostG.here sm p (by simp only [Rl])⟩
  | [], _, p => exact p.elim
  | x :: y :: r, _, p => cases x <;> exact p.elim
  | [.un], _, p | [.non], _, p | [.str _], _, p | [.tup _], _, p | [.lst _], _, p | [.dic _ _], _, p | [.obj _ _ _], _, p | [.ref _], _, p | [.cls _], _, p | [.scr _], _, p | [.xcp _ _ _], _, p => exact p.elim
theorem blt_str : CallR X (.type "str") (rBlt W .str) := by
  intro pins s σ H vs us Q I r ⟨S, α, h, ds, sm, ls, p⟩
  refine call_str_int pins s σ H vs us Q I r ?_
  match ds, ls, p with
  | [.int i], ls, p =>
    obtain ⟨v, rfl, lx⟩ := rls_one ls
    obtain rfl := rl_int lx
    simp only [bltD] at p
    split at p
    · rename_i hl
      exact ⟨i, rfl, hl, PostG.here sm p (by simp only [Rl])⟩
    · exact p.elim
  | [], _, p => exact p.elim
  | x :: y :: r, _, p => cases x <;> exact p.elim
  | [.un], _, p | [.non], _, p | [.bl _], _, p | [.str _], _, p | [.tup _], _, p | [.lst _], _, p | [.dic _ _], _, p | [.obj _ _ _], _, p | [.ref _], _, p | [.cls _], _, p | [.scr _], _, p | [.xcp _ _ _], _, p => exact p.elim
theorem bltD_two {b : Blt} {ds : List D} {Q : VK} {E : XK} (hb : b = .max ∨ b = .min) (p : PostE W S α H (bltD h b ds) Q E) : ∃ i j, ds = [.int i, .int j] := by
  rcases hb with rfl | rfl <;>
  · unfold bltD at p
    split at p <;> first
      | exact p.elim
      | exact ⟨_, _, rfl⟩
      | (exfalso; rename_i hh; cases hh; done)
      | (exfalso; rename_i hh _; cases hh; done)
      | (exfalso; rename_i hh _ _; cases hh; done)
theorem blt_max (hc : X.calm = true) : CallR X (.builtin "max") (rBlt W .max) := by
  intro pins s σ H vs us Q I r ⟨S, α, h, ds, sm, ls, p⟩
  obtain ⟨i, j, rfl⟩ := bltD_two (.inl rfl) p
  obtain ⟨v, v', rfl, l1, l2⟩ := rls_two ls
  obtain rfl := rl_int l1
  obtain rfl := rl_int l2
  exact call_max2 hc pins s σ H _ us Q I r ⟨i, j, rfl, PostG.here sm p (by simp only [Rl])⟩
theorem blt_min (hc : X.calm = true) : CallR X (.builtin "min") (rBlt W .min) := by
  intro pins s σ H vs us Q I r ⟨S, α, h, ds, sm, ls, p⟩
  obtain ⟨i, j, rfl⟩ := bltD_two (.inr rfl) p
  obtain ⟨v, v', rfl, l1, l2⟩ := rls_two ls
  obtain rfl := rl_int l1
  obtain rfl := rl_int l2
  exact call_min2 hc pins s σ H _ us Q I r ⟨i, j, rfl, PostG.here sm p (by simp only [Rl])⟩
theorem aa_ok {x : D} {vs : List V} {g : List Bool → Bool} {Q : VK} {E : XK} (s : Sim W S α h H) (ls : Rls W S α [x] vs) (p : PostE W S α H (match (items? h x).bind allB with | some bs => (Rs.ok (.bl (g bs)) h : Rs D) | none => .bad) Q E) :
    ∃ (a : Addr) (bs : List Bool), vs = [.ref a] ∧ SqL X.K H a (bs.map V.bl) ∧ Q (.bl (g bs)) H := by
  obtain ⟨v, rfl, lx⟩ := rls_one ls
  cases e : items? h x with
  | none => rw [e] at p; exact p.elim
  | some xs =>
    rw [e] at p
    simp only [Option.bind_some] at p
    cases e2 : allB xs with
    | none => rw [e2] at p; exact p.elim
    | some bs =>
      rw [e2] at p
      obtain ⟨a, us, rfl, hq, ru⟩ := items_ok s e lx
      obtain rfl := allB_rl e2 ru
      exact ⟨a, bs, rfl, SqL.of hq, PostG.here s p (by simp only [Rl])⟩
theorem blt_all (hc : X.calm = true) : CallR X (.builtin "all") (rBlt W .all) := by
  intro pins s σ H vs us Q I r ⟨S, α, h, ds, sm, ls, p⟩
  refine cr_all hc pins s σ H vs us Q I r ?_
  match ds, ls, p with
  | [x], ls, p => exact aa_ok sm ls (by cases x <;> exact p)
  | [], _, p => exact p.elim
  | x :: y :: r, _, p => cases x <;> exact p.elim
theorem blt_any (hc : X.calm = true) : CallR X (.builtin "any") (rBlt W .any) := by
  intro pins s σ H vs us Q I r ⟨S, α, h, ds, sm, ls, p⟩
  refine cr_any hc pins s σ H vs us Q I r ?_
  match ds, ls, p with
  | [x], ls, p => exact aa_ok sm ls (by cases x <;> exact p)
  | [], _, p => exact p.elim
  | x :: y :: r, _, p => cases x <;> exact p.elim
theorem blt_list (hK : W.K = X.K) : CallR X (.type "list") (rBlt W .list) := by
  intro pins s σ H vs us Q I r ⟨S, α, h, ds, sm, ls, p⟩
  refine call_list_of pins s σ H vs us Q I r ?_
  match ds, ls, p with
  | [x], ls, p =>
    obtain ⟨v, rfl, lx⟩ := rls_one ls
    have p' : PostE W S α H (match seq? h x with | some xs => newL xs h | none => .bad) Q fun _ _ _ => False := by cases x <;> exact p
    cases e : seq? h x with
    | none => rw [e] at p'; exact p'.elim
    | some xs =>
      rw [e] at p'
      obtain ⟨a, ws, rfl, q, ru⟩ := seq_ok sm e lx
      exact ⟨a, ws, rfl, q.elim (fun z => .inr (hK ▸ z)) (fun z => .inl (SqL.of z)), (newL_ok sm ru p').2⟩
  | [], _, p => exact p.elim
  | x :: y :: r, _, p => cases x <;> exact p.elim
theorem blt_tuple (hK : W.K = X.K) : CallR X (.type "tuple") (rBlt W .tuple) := by
  intro pins s σ H vs us Q I r ⟨S, α, h, ds, sm, ls, p⟩
  refine call_tuple_of pins s σ H vs us Q I r ?_
  match ds, ls, p with
  | [x], ls, p =>
    obtain ⟨v, rfl, lx⟩ := rls_one ls
    have p' : PostE W S α H (match items? h x with | some xs => (Rs.ok (.tup xs) h : Rs D) | none => match x with | .tup xs => .ok (.tup xs) h | _ => .bad) Q fun _ _ _ => False := by cases x <;> exact p
    cases e : items? h x with
    | some xs =>
      rw [e] at p'
      obtain ⟨a, ws, rfl, q, ru⟩ := items_ok sm e lx
      refine ⟨a, ws, rfl, .inl ⟨SqL.of q, fun l n => ?_⟩⟩
      have t := sm.tup (o := .tup ws) n
      refine p' _ _ _ _ t ?_
      simp only [Rl]
      exact ⟨l, ws, rfl, SqT.of upd_same, ru.mono t.le t.pre⟩
    | none =>
      rw [e] at p'
      cases x <;> first | exact p'.elim | skip
      have lx0 := lx
      simp only [Rl] at lx
      obtain ⟨a, ws, rfl, q, ru⟩ := lx
      exact ⟨a, ws, rfl, .inr ⟨hK ▸ sqT_le sm.le q, PostG.here sm p' lx0⟩⟩
  | [], _, p => exact p.elim
  | x :: y :: r, _, p => cases x <;> exact p.elim
/-- a built-in function called -/
theorem m_blt {f : Value} {b : Blt} {x : Str} {a : Expr} {es : List Expr} {cs : Es} {p pos : Pos} (hc : CallR X f (rBlt W b)) (hf : (∃ id, f = .builtin id) ∨ ∃ T, f = .type T) (hg : Gl X x) (hm : X.mg x = none) (hv : bootBuiltins x = some f)
    (ha : PA X (a :: es) (tL W Wx (evEs pr φ cs))) (hn : x ≠ "__name__") (hdb : (x == ("__debug__" : Str)) = false) (he : starEach (a :: es) X.env = (false, eval a X.env) :: starEach es X.env) (hpl : (backTo pos (starEach es X.env)).any (·.1) = false) :
    PE X (.Call (.Name x p) (a :: es) [] pos) (tE W Wx (evE pr φ (.blt b cs))) := by
  have main : PE X (.Call (.Name x p) (a :: es) [] pos) (tCB (rBlt W b) (tL W Wx (evEs pr φ cs))) := by
    rcases hf with ⟨id, rfl⟩ | ⟨T, rfl⟩
    · exact pe_callB hc hg hm hv ha hn hdb he hpl
    · exact pe_callTy hc hg hm hv ha hn hdb he hpl
  refine main.weak fun σ H Q p => ?_
  simp only [evE] at p
  exact tG.seq (R := Rls) (R' := Rl) (f := fun _ ds h => bltD h b ds) (fun e ds h1 S1 α1 H1 vs s1 r1 ls p1 => ⟨S1, α1, h1, ds, s1, ls, p1.quiet (bltD_quiet b ds)⟩) p
end
end Pm

set_option linter.all false
set_option maxRecDepth 100000
set_option maxHeartbeats 1000000
namespace Pm
open PySem PySem.Spec L2

/-- a type by its sample -/
def tyn : D → Option String
  | .non => some "NoneType"
  | .bl _ => some "bool"
  | .int _ => some "int"
  | .str _ => some "str"
  | .tup _ => some "tuple"
  | .lst _ => some "list"
  | .dic _ _ => some "dict"
  | _ => none
inductive TyD (W : Wd) : D → Value → V → Prop where
  | ty {d : D} {n : String} (e : tyn d = some n) : TyD W d (.type n) (.ty n)
  | own (c : Nat) : TyD W (.cls c) (.ref (W.ca c)) (.ref (W.ca c))
  | ve : TyD W .un (.type "ValueError") (.ty "ValueError")
/-- a value's type, an exception's too -/
inductive TyG (K : PySem.W.Frag) (H : Hp) : V → Value → Prop where
  | base {v : V} {t : Value} (h : TyX K H v t) : TyG K H v t
  | exc {a C : Addr} {d : Option Addr} (ea : H a = some (exo a C d)) (ed : ∀ dx, d = some dx → ∃ l, H dx = some (exd dx l)) (F : ExcF K C) : TyG K H (.ref a) (.ref C)
structure IsiFacts (W : Wd) (K : PySem.W.Frag) (pr : Pr) : Prop where
  ins : ∀ (c : Nat) cl, pr.cls[c]? = some cl → cl.isx = false → Cls K (W.ca c) ∧ PySem.W.findIn K (.ref (W.ca c)) "__class__" = some (some (.builtin "object.__class__")) ∧ PySem.W.mroIn K (W.ca c) (.type "object") = some true
  get : PySem.W.specialIn K (.builtin "object.__class__") "__get__" = some (some (.builtin "getset_descriptor.__get__"))
  tk : PySem.W.takesIn K (.builtin "object.__class__") = some true
  own : ∀ (c : Nat) cl, pr.cls[c]? = some cl → ∀ (c2 : Nat) cl2, pr.cls[c2]? = some cl2 → PySem.W.kitOne K (.ref (W.ca c)) (.ref (W.ca c2)) = some (decide (c2 ∈ cl.mro))
  ob : ∀ (c : Nat) cl, pr.cls[c]? = some cl → ∀ d n, tyn d = some n → PySem.W.kitOne K (.ref (W.ca c)) (.type n) = some false
  bo : ∀ (c : Nat) cl, pr.cls[c]? = some cl → ∀ d n, tyn d = some n → PySem.W.kitOne K (.type n) (.ref (W.ca c)) = some false
  exc : ∀ (c : Nat) cl, pr.cls[c]? = some cl → cl.isx = true → ExcF K (W.ca c)
  ve : ∀ (c : Nat) cl, pr.cls[c]? = some cl → PySem.W.kitOne K (.ref (W.ca c)) (.type "ValueError") = some cl.isx
def rIsiG (K : PySem.W.Frag) : List V → Hp → VK → Prop := fun xs H Q => ∃ (x c : V) (t u : Value) (b : Bool), xs = [x, c] ∧ ClsV c u ∧ TyG K H x t ∧ PySem.W.kitOne K t u = some b ∧ Q (.bl b) H
theorem call_isiG {X : Cx} (hn : PySem.W.specialIn X.K (.builtin "object.__class__") "__get__" = some (some (.builtin "getset_descriptor.__get__"))) (ht : PySem.W.takesIn X.K (.builtin "object.__class__") = some true) : CallR X (.builtin "isinstance") (rIsiG X.K) := by
  intro pins s σ H xs us Q I r ⟨x, c, t, u, b, e, hc, ty, hk, q⟩
  cases ty with
  | base h => exact call_isi pins s σ H xs us Q I r ⟨x, c, t, u, b, e, hc, h, hk, q⟩
  | exc ea ed F =>
    subst e
    obtain ⟨w1, w2, rfl, r1, r2⟩ := vals2 r
    obtain rfl : w1 = Value.ref _ := r1
    obtain rfl := hc.eq r2
    obtain ⟨ox, od, ins⟩ := exo_inst I ea ed
    exact PySem.W.kia_one (PySem.W.kitx_exc F.cl F.ga F.gt F.sub F.ca hn ht F.hm) I.kIn ins hk (fun z => nomatch z) fun tk => ⟨.bl b, H, I.tok tk, rfl, q⟩
section
variable {X : Cx} {W : Wd} {Wx : WX} {pr : Pr} {φ : Nat → List D → Hm → Rs D} {S H : Hp} {α : List Addr} {h : Hm}
theorem kit_bb {K : PySem.W.Frag} {t c : D} {m n : String} {b : Bool} (e1 : tyn t = some m) (e2 : tyn c = some n) (e : isi1 pr t c = some b) : PySem.W.kitOne K (.type m) (.type n) = some b := by
  cases t <;> simp only [tyn, Option.some.injEq, reduceCtorEq] at e1 <;> subst e1 <;> cases c <;> simp only [tyn, Option.some.injEq, reduceCtorEq] at e2 <;> subst e2 <;>
    simp only [isi1, Option.some.injEq, reduceCtorEq] at e <;> subst e <;> exact kit_ty (by decide +kernel)
theorem kit1 {K : PySem.W.Frag} (F : IsiFacts W K pr) {t c : D} {tv cv : Value} {tu cu : V} {b : Bool} (ht : TyD W t tv tu) (hc : TyD W c cv cu) (hcls : ∀ a, c = .cls a → ∃ cl, pr.cls[a]? = some cl) (htls : ∀ a, t = .cls a → ∃ cl, pr.cls[a]? = some cl) (e : isi1 pr t c = some b) : PySem.W.kitOne K tv cv = some b := by
  cases ht with
  | ty e1 =>
    cases hc with
    | ty e2 => exact kit_bb e1 e2 e
    | ve => cases t <;> simp only [tyn, reduceCtorEq] at e1 <;> simp only [isi1, reduceCtorEq] at e
    | own a =>
      obtain ⟨cl, h1⟩ := hcls a rfl
      have : b = false := by
        cases t <;> simp only [tyn, reduceCtorEq] at e1 <;> simp only [isi1, Option.some.injEq, reduceCtorEq] at e <;> exact e.symm
      rw [this]
      exact F.bo a cl h1 t _ e1
  | own a =>
    obtain ⟨cl, h1⟩ := htls a rfl
    cases hc with
    | ty e2 =>
      have : b = false := by
        cases c <;> simp only [tyn, reduceCtorEq] at e2 <;> simp only [isi1, Option.some.injEq] at e <;> exact e.symm
      rw [this]
      exact F.ob a cl h1 c _ e2
    | ve =>
      simp only [isi1, h1, Option.map_some, Option.some.injEq] at e
      rw [← e]
      exact F.ve a cl h1
    | own a2 =>
      obtain ⟨cl2, h2⟩ := hcls a2 rfl
      simp only [isi1, h1, Option.map_some, Option.some.injEq] at e
      rw [← e]
      exact F.own a cl h1 a2 cl2 h2
  | ve => cases c <;> simp only [isi1, reduceCtorEq] at e
theorem tyx (F : IsiFacts W X.K pr) (hK : W.K = X.K) (s : Sim W S α h H) {x t : D} {v : V} (lx : Rl W S α x v) (e : isiT pr h x = some t) : ∃ tv tu, TyD W t tv tu ∧ TyG X.K H v tv ∧ ∀ a, t = .cls a → ∃ cl, pr.cls[a]? = some cl := by
  have gen : ∀ {t : D}, (match items? h x with | some _ => some (D.lst []) | none => match dict? h x with
      | some _ => some (.dic [] [])
      | none => match inst? h x with
        | some (c, _, _) => match pr.cls[c]? with
          | some cl => if cl.isx then none else some (.cls c)
          | none => none
        | none => none) = some t → ∃ tv tu, TyD W t tv tu ∧ TyG X.K H v tv ∧ ∀ a, t = .cls a → ∃ cl, pr.cls[a]? = some cl := by
    intro t e
    cases e1 : items? h x with
    | some xs =>
      rw [e1] at e; cases e
      obtain ⟨a, us, rfl, q, _⟩ := items_ok s e1 lx
      exact ⟨_, _, .ty (n := "list") rfl, .base (.base (.lst q)), fun a e => by cases e⟩
    | none =>
      rw [e1] at e
      simp only at e
      cases e2 : dict? h x with
      | some p =>
        obtain ⟨ks, xs⟩ := p
        rw [e2] at e; cases e
        obtain ⟨a, us, rfl, q, _⟩ := dict_ok s e2 lx
        exact ⟨_, _, .ty (n := "dict") rfl, .base (.base (.dK q)), fun a e => by cases e⟩
      | none =>
        rw [e2] at e
        simp only at e
        cases e3 : inst? h x with
        | none => rw [e3] at e; cases e
        | some p =>
          obtain ⟨c, fs, vs⟩ := p
          rw [e3] at e
          simp only at e
          obtain ⟨a, dx, us, rfl, q, _⟩ := inst_ok s e3 lx
          cases e4 : pr.cls[c]? with
          | none => rw [e4] at e; cases e
          | some cl =>
            rw [e4] at e
            simp only at e
            cases e5 : cl.isx with
            | true => rw [e5] at e; cases e
            | false =>
              rw [e5] at e; cases e
              obtain ⟨i1, i2, i3⟩ := F.ins c cl e4 e5
              exact ⟨_, _, .own c, .base (.base (.ins q i1 i2 F.get F.tk i3)), fun a e => by cases e; exact ⟨cl, e4⟩⟩
  cases x with
  | non => cases e; obtain rfl := rl_non lx; exact ⟨_, _, .ty (n := "NoneType") rfl, .base (.base .non), fun a e => by cases e⟩
  | bl b => cases e; obtain rfl := rl_bl lx; exact ⟨_, _, .ty (n := "bool") rfl, .base (.base (.bl _)), fun a e => by cases e⟩
  | int b => cases e; obtain rfl := rl_int lx; exact ⟨_, _, .ty (n := "int") rfl, .base (.base (.int _)), fun a e => by cases e⟩
  | str b => cases e; obtain rfl := rl_str lx; exact ⟨_, _, .ty (n := "str") rfl, .base (.base (.str _)), fun a e => by cases e⟩
  | tup xs =>
    cases e
    simp only [Rl] at lx
    obtain ⟨a, us, rfl, q, _⟩ := lx
    have q2 := sqT_le s.le q
    refine ⟨_, _, .ty (n := "tuple") rfl, ?_, fun a e => by cases e⟩
    rcases q2 with (q2 | ⟨o, q2⟩) | ⟨o, its, n, k1, k2, _⟩
    · exact .base (.base (.tup q2))
    · exact .base (.fTuple q2)
    · exact .base (.kTuple (hK ▸ k1) k2)
  | un => exact gen e
  | lst xs => exact gen e
  | dic ks vs => exact gen e
  | obj c fs vs => exact gen e
  | ref n => exact gen e
  | cls c => exact gen e
  | scr ns => exact gen e
  | xcp c fs vs =>
    simp only [isiT] at e
    cases e4 : pr.cls[c]? with
    | none => rw [e4] at e; cases e
    | some cl =>
      rw [e4] at e
      simp only at e
      cases e5 : cl.isx with
      | false => rw [e5] at e; cases e
      | true =>
        rw [e5] at e; cases e
        simp only [Rl] at lx
        obtain ⟨a, us, rfl, _, _, q⟩ := lx
        refine ⟨_, _, .own c, ?_, fun a e => by cases e; exact ⟨cl, e4⟩⟩
        rcases q with ⟨_, q⟩ | ⟨dx, l, q1, q2, _⟩
        · exact .exc (s.le _ _ q) (fun dx z => by cases z) (F.exc c cl e4 e5)
        · exact .exc (s.le _ _ q1) (fun dx' z => by cases z; exact ⟨l, s.le _ _ q2⟩) (F.exc c cl e4 e5)
/-- isinstance(a, C) -/
theorem m_isi (F : IsiFacts W X.K pr) (hK : W.K = X.K) {a c : Expr} {ca : E} {dc : D} {cv : Value} {cu : V} {x : Str} {p pos : Pos} (hx : x = "isinstance") (hg : Gl X x) (hm : X.mg x = none) (ha : PE X a (tE W Wx (evE pr φ ca))) (hc : PE X c (tC cu)) (ty : TyD W dc cv cu) (hcls : ∀ n, dc = .cls n → ∃ cl, pr.cls[n]? = some cl)
    (hs1 : starEach [a, c] X.env = (false, eval a X.env) :: starEach [c] X.env) (hs2 : starEach [c] X.env = (false, eval c X.env) :: starEach [] X.env) (hpl : (backTo pos (starEach [c] X.env)).any (·.1) = false) :
    PE X (.Call (.Name x p) [a, c] [] pos) (tE W Wx (evE pr φ (.isi ca [dc]))) := by
  subst hx
  refine (pe_callB (call_isiG F.get F.tk) hg hm rfl (pa_cons ha (pa_cons hc pa_nil hs2) hs1) (by decide) (by decide) hs1 hpl).weak fun σ H Q p => ?_
  simp only [evE] at p
  refine tG.seq (R := Rl) (R' := Rl) (f := fun _ x h => match (isiT pr h x).bind fun t => isiD pr t [dc] with | some b => .ok (.bl b) h | none => .bad) (fun e x h1 S1 α1 H1 v s1 r1 lx p1 => ?_) p
  cases e1 : isiT pr h1 x with
  | none => rw [e1] at p1; exact p1.elim
  | some t =>
    rw [e1] at p1
    simp only [Option.bind_some] at p1
    obtain ⟨tv, tu, h1, h2, h3⟩ := tyx F hK s1 lx e1
    cases e2 : isi1 pr t dc with
    | none => simp only [isiD, e2] at p1; exact p1.elim
    | some b =>
      have k := kit1 F h1 ty hcls h3 e2
      have e3 : isiD pr t [dc] = some b := by cases b <;> simp only [isiD, e2]
      rw [e3] at p1
      have hcv : ClsV cu cv := by
        cases ty with
        | ty e => exact .ty _
        | own c => exact .own _
        | ve => exact .ty _
      exact ⟨v, cu, tv, cv, b, rfl, hcv, h2, k, PostG.here s1 p1 (by simp only [Rl])⟩
end
end Pm

set_option linter.all false
set_option maxRecDepth 100000
set_option maxHeartbeats 1000000
namespace Pm
open PySem PySem.Spec L2
/-! ### exceptions made -/
/-- is it an exception class whose own __init__ may be walked -/
def oexB (K : PySem.W.Frag) (C : Addr) : Bool := match K.lookup C with
  | some ⟨.type "type", _, .cls cd, sl⟩ => (match cd.mro, sl.toList with
    | .ref c :: bm, [_, _, _, _, some (.builtin n), _] => decide (c = C) && (decide (n = "ValueError.__new__") && (!cd.hasDel && (cd.hasDict && PySem.HandSPX.refsVE bm)))
    | _, _ => false)
  | _ => false
theorem oex_of {K : PySem.W.Frag} {C : Addr} (b : oexB K C = true) (sa : PySem.W.findIn K (.ref C) "__setattr__" = some (some (.builtin "object.__setattr__"))) (eC : PySem.W.subIn K (.ref C) (.type "BaseException") = some true)
    (tC : PySem.W.typeIn K (.ref C) = some (.type "type")) (kC : PySem.W.keepIn K (.ref C) = true) : OexC K C := by
  refine ⟨?_, sa, eC, tC, kC⟩
  unfold oexB at b
  split at b
  · rename_i dd cd sl ho
    split at b
    · rename_i c bm k0 k1 k2 k3 n k5 hm hs
      simp only [Bool.and_eq_true, decide_eq_true_eq, Bool.not_eq_true'] at b
      obtain ⟨b1, b2, b3, b4, b5⟩ := b
      subst b1 b2
      obtain ⟨f1, f2, f3, f4, f5, f6, f7, f8, f9, f10, f11⟩ := cd
      dsimp only at hm b3 b4
      subst hm b3 b4
      have e : sl = #[k0, k1, k2, k3, some (.builtin "ValueError.__new__"), k5] := by
        cases sl
        simp only at hs
        rw [hs]
      subst e
      exact ⟨f1, f5, f4, f2, bm, f7, f8, f9, f10, dd, k0, k1, k2, k3, k5, ho, b5⟩
    · cases b
  · cases b
/-- what such an __init__ promises: its fields are laid -/
def spX (C : Addr) (fs : List Str) : Sp := fun vs H Q _ => ∃ (a : Addr) (ws : List V), vs = .ref a :: ws ∧ ws.length = fs.length ∧ H a = some (exo a C none) ∧
  ∀ (dx : Addr) (l : List (Str × V)), H dx = none → dx ≠ a → (∀ p ∈ fs.zip ws, l.lookup p.1 = some p.2) → Q .non (upd (upd H dx (exd dx l)) a (exo a C (some dx)))
def tMkX (C : Addr) (fs : List Str) (t : TA) : TE := fun σ H Q => t σ H fun vs H1 => vs.length = fs.length ∧ vs.length ≤ 1000 ∧
  ∀ (a dx : Addr) (l : List (Str × V)), H1 a = none → H1 dx = none → dx ≠ a → (∀ p ∈ fs.zip vs, l.lookup p.1 = some p.2) → Q (.ref a) (upd (upd H1 dx (exd dx l)) a (exo a C (some dx)))
theorem upd_swap3 {H : Hp} {a dx : Addr} {o1 o2 o3 : HO} (h : dx ≠ a) : upd (upd (upd H a o1) dx o2) a o3 = upd (upd H dx o2) a o3 := by
  funext b
  unfold upd
  by_cases e : b = a
  · simp [e]
  · by_cases e2 : b = dx
    · simp [e, e2]
    · simp [e, e2]
section
variable {X : Cx} {CX : CXT} {x : Str} {C fI : Addr} {k : Nat} {fd : FuncData} {ps : List Str} {fs : List Str} {p pos : Pos} {es : List Expr} {t : TA}
theorem run_makeX {pins : List (Addr × Obj)} {σ : L2.St} {H1 : Hp} {s1 : Shared} {Q : VK} {us : List Value} {vs : List V} (T : OexC X.K C) (iC : PySem.W.findIn X.K (.ref C) "__init__" = some (some (.ref fI))) (tI : PySem.W.typeIn X.K (.ref fI) = some (.type "function"))
    (F1 : FnOk X.prog X.w X.K X.mg X.base CX k fI fd ps (spX C fs)) (hr : Room (k + 1) X.A) (hb : Binds X.K fd ps []) (hx : Passes CX X fun _ _ _ => False) (I1 : Inv X pins σ H1 s1) (r1 : Vals vs us) (hn : vs.length = fs.length) (hz : vs.length ≤ 1000)
    (q : ∀ (a dx : Addr) (l : List (Str × V)), H1 a = none → H1 dx = none → dx ≠ a → (∀ p ∈ fs.zip vs, l.lookup p.1 = some p.2) → Q (.ref a) (upd (upd H1 dx (exd dx l)) a (exo a C (some dx)))) :
    wpAny (model X.prog X.w) X.A (call (.ref C) us) (EP X pins σ Q) X.xe s1 := by
  obtain ⟨c1, c2, c3, c4, c5, c6, c7, c8, c9, c10, c11, c12, c13, c14, c15, hC, hbm⟩ := T.cls
  obtain ⟨hp, g, dr, tk, os⟩ := s1
  let e : Addr := hp.objs.size + 1
  have hsz : hp.objs.size ≤ e := Nat.le_succ _
  have hne : H1 e = none := I1.hok.fresh hsz
  let hp2 : Heap := (hp.push (PySem.W.kdv_tup us)).push (PySem.HandSPX.excO C hp.objs.size)
  have kk : ∀ b o, hp.get? b = some o → hp2.get? b = some o := fun b o z => Heap.get?_push_of_some _ (Heap.get?_push_of_some _ z)
  have hget : hp2.get? e = some (PySem.HandSPX.excO C hp.objs.size) := by
    show ((hp.push (PySem.W.kdv_tup us)).push (PySem.HandSPX.excO C hp.objs.size)).get? (hp.objs.size + 1) = _
    heap_get
  have I2 : Inv X pins σ (upd H1 e (exo e C none)) ⟨hp2, g, dr, tk, os⟩ := I1.laid (t' := tk) (a := e) (o := exo e C none) (h' := hp2) kk hsz (exo_ok hget)
  have hsp : spX C fs (.ref e :: vs) (upd H1 e (exo e C none)) (fun v H2 => v = .non ∧ Q (.ref e) H2) fun _ _ _ => False := by
    refine ⟨e, vs, rfl, hn, upd_same, fun dx l hdx hda hl => ⟨rfl, ?_⟩⟩
    rw [upd_swap3 hda]
    rw [upd_ne hda] at hdx
    exact q e dx l hne hdx hda hl
  have r2 : Vals (V.ref e :: vs) (Value.ref e :: us) := .cons rfl r1
  have hlen : (Value.ref e :: us ++ []).length = ps.length := by
    rw [List.append_nil, ← r2.length]
    exact F1.len _ _ _ _ hsp
  have hus : us.length ≤ sizeLine := by
    rw [← r1.length, sizeLine_eq]; omega
  have hbb := hb ⟨hp2, g, dr, tk, os⟩ (Value.ref e :: us) I2.kIn hlen
  rw [List.append_nil] at hbb
  refine wpAny_call (PySem.HandSPX.call_own F.excBase_ValueError (fun Y => PySem.HandSPX.refsVE_contains Y _ hbm) (I1.kIn _ _ hC) (PySem.W.looks_findIn I1.kIn iC) (fun self => PySem.W.bind_fn I1.kIn self tI) hus (codeAny_mono (F1.run _ X.stack _ _ ⟨Value.ref e :: us, []⟩ (Value.ref e :: us) _ _ _ (hr.make C us []) (I2.env0.make C us []) hbb r2 hsp) ?_))
  intro z s' hz'
  cases z with
  | error er => exact hx pins σ _ _ er s' I2 hz'
  | ok fl =>
    cases fl with
    | ret u =>
      obtain ⟨v, H2, J2, rv, ev, q2⟩ := I2.after hz'
      subst ev
      exact ⟨rv, V.ref e, H2, J2, rfl, q2⟩
    | next => exact hz'.elim
    | brk => exact hz'.elim
    | cont => exact hz'.elim
theorem pe_mkx (T : OexC X.K C) (iC : PySem.W.findIn X.K (.ref C) "__init__" = some (some (.ref fI))) (tI : PySem.W.typeIn X.K (.ref fI) = some (.type "function")) (F1 : FnOk X.prog X.w X.K X.mg X.base CX k fI fd ps (spX C fs)) (hr : Room (k + 1) X.A) (hb : Binds X.K fd ps [])
    (hx : Passes CX X fun _ _ _ => False) (hg : Gl X x) (hm : X.mg x = some (.ref C)) (hdb : (x == ("__debug__" : Str)) = false)
    (ha : (es = [] ∧ t = tNil) ∨ (PA X es t ∧ ∃ e r, es = e :: r ∧ starEach (e :: r) X.env = (false, eval e X.env) :: starEach r X.env ∧ (backTo pos (starEach r X.env)).any (·.1) = false)) : PE X (.Call (.Name x p) es [] pos) (tMkX C fs t) := by
  constructor
  intro pins s σ H Q I h
  refine wpAny_Call_Name_kw (ld_glob I hg hm ?_ hdb)
  rcases ha with ⟨e0, e1⟩ | ⟨ha, e, r, e0, h1, h2⟩
  · subst e0 e1
    obtain ⟨z1, z2, z3⟩ := h
    exact PySem.W.callWith_K0 I.kIn T.kC (run_makeX (us := []) T iC tI F1 hr hb hx I .nil z1 z2 z3)
  · subst e0
    refine PySem.W.callWith_K (h₀ := X.base) I.ok.mod.kin T.kC (thn (ha.run pos pins s σ H _ I h) ?_) h1 h2
    rintro us s1 ⟨vs, H1, I1, rv, z1, z2, z3⟩
    exact ⟨I1.kIn, run_makeX T iC tI F1 hr hb hx I1 rv z1 z2 z3⟩
/-- a new object is laid and tracked, wherever it stands -/
theorem Inv.layN {pins : List (Addr × Obj)} {σ : L2.St} {H : Hp} {s : Shared} {a : Addr} {o : HO} {h' : Heap} {t' : Nat} (I : Inv X pins σ H s) (k : ∀ b u, s.heap.get? b = some u → h'.get? b = some u) (hn : s.heap.get? a = none) (na : H a = none) (new : ObjOk X.prog X.w (upd H a o) h' a o) :
    Inv X pins σ (upd H a o) { s with heap := h', toks := t' } := by
  have ne : ∀ {b : Addr} {u : Obj}, s.heap.get? b = some u → b ≠ a := fun {b u} e z => by rw [z, hn] at e; cases e
  have ne2 : ∀ {b : Addr} {u : HO}, H b = some u → b ≠ a := fun {b u} e z => by rw [z, na] at e; cases e
  refine I.un ⟨fun b u e _ _ _ => k b u e, fun b u e _ _ _ => ⟨u.slots, k b u e⟩, fun b u e n _ => by rw [upd_ne (ne e)]; exact n, fun b u e _ => ⟨u, k b u e⟩, fun b xs e => by rw [upd_ne (ne2 e)]; exact e, fun b o u e => by rw [upd_ne (ne2 e)]; exact e,
    fun b ps e => ⟨#[], by rw [upd_ne (ne2 e), Array.append_empty]; exact e⟩⟩ fun b u e => ?_
  by_cases z : b = a
  · subst z
    rw [upd_same] at e; cases e
    exact new
  · rw [upd_ne z] at e
    exact (I.hok b u e).stay (fun c v _ q => k c v q) (fun c q => by rw [upd_ne (ne2 q)]; exact q) fun c xs q => by rw [upd_ne (ne2 q)]; exact q
/-- a class without an own __init__, called with nothing -/
theorem pe_mkx0 {bmB : List Value} {B newId initId : String} (Fx : ExcBaseFacts B newId initId bmB) (q : PySem.W.excIn X.K C bmB newId = true) (kC : PySem.W.keepIn X.K (.ref C) = true) (hg : Gl X x) (hm : X.mg x = some (.ref C)) (hdb : (x == ("__debug__" : Str)) = false) :
    PE X (.Call (.Name x p) [] [] pos) (fun _ H Q => ∀ a, H a = none → Q (.ref a) (upd H a (exo a C none))) := by
  constructor
  intro pins s σ H Q I h
  refine wpAny_Call_Name_kw (ld_glob I hg hm ?_ hdb)
  refine PySem.W.callWith_K0 I.kIn kC ?_
  obtain ⟨hp, g, dr, tk, os⟩ := s
  obtain ⟨bm, N, nm, qn, bs, hdct, sn, sub, ab, col, dd, k0, k1, k2, k3, k5, mN, hC, hN, hni, T⟩ := exc_obj I.kIn q
  refine wpAny_call_exc_subT Fx T hC hN hni (fun h' e hm => ?_) (by simp)
  obtain ⟨t1, he, _, _⟩ := hm.there
  have na : H e = none := I.hok.gone hm.new
  have J : Inv X pins σ (upd H e (exo e C none)) ⟨h', g, dr, tk, os⟩ := Inv.layN (t' := tk) I hm.keeps hm.new na (exo_ok he)
  exact ⟨.ref e, _, J, rfl, h e na⟩
end
end Pm

set_option linter.all false
set_option maxRecDepth 100000
set_option maxHeartbeats 1000000
namespace Pm
open PySem PySem.Spec L2
/-! ### an __init__ that lays its fields -/
def xst : Stmt → Option (Str × Str × Str)
  | .Assign [.Attribute (.Name s _) g _] (.Name q _) _ => some (s, g, q)
  | _ => none
theorem xst_some {st : Stmt} {s g q : Str} (h : xst st = some (s, g, q)) : ∃ p1 p2 p3 p4, st = .Assign [.Attribute (.Name s p1) g p2] (.Name q p3) p4 := by
  unfold xst at h
  split at h
  · cases h; exact ⟨_, _, _, _, rfl⟩
  · cases h
def xinitB (me : Str) : List Str → List Str → List Stmt → Bool
  | [], ps, b => ps.isEmpty && b.isEmpty
  | _ :: _, [], _ => false
  | _ :: _, _ :: _, [] => false
  | f :: fs, p :: ps, st :: r => decide (xst st = some (me, f, p)) && (!(p == ("__debug__" : Str)) && (!(p == ("__classdict__" : Str)) && xinitB me fs ps r))
def rXs (K : PySem.W.Frag) : List Str → Nat → TS
  | [], _ => tNext
  | f :: fs, i => tSeq (tOst K f (tVar 0) (tVar i)) (rXs K fs (i + 1))
section
variable {X : Cx} {W : Wd}
theorem xinit_ps {me : Str} (h0 : X.N[0]? = some me) (v0 : Vis X.env.scope me) (d0 : (me == ("__debug__" : Str)) = false) (d1 : (me == ("__classdict__" : Str)) = false) : ∀ (fs ps : List Str) (body : List Stmt) (i : Nat), xinitB me fs ps body = true → (∀ (j : Nat) p, ps[j]? = some p → X.N[i + j]? = some p ∧ Vis X.env.scope p) → PSs X body (rXs X.K fs i)
  | [], ps, b, i, h, _ => by
    simp only [xinitB, Bool.and_eq_true, List.isEmpty_iff] at h
    rw [h.2]
    exact pss_nil
  | _ :: _, [], _, _, h, _ => by simp [xinitB] at h
  | _ :: _, _ :: _, [], _, h, _ => by simp [xinitB] at h
  | f :: fs, p :: ps, st :: r, i, h, hp => by
    simp only [xinitB, Bool.and_eq_true, decide_eq_true_eq, Bool.not_eq_true'] at h
    obtain ⟨e1, e4, e5, h⟩ := h
    obtain ⟨p1, p2, p3, p4, rfl⟩ := xst_some e1
    obtain ⟨a1, a2⟩ := hp 0 p rfl
    refine pss_cons (ps_ost (pe_var h0 v0 d0 d1) (pe_var a1 a2 e4 e5) rfl) (xinit_ps h0 v0 d0 d1 fs ps r (i + 1) h fun j p' hj => ?_)
    have := hp (j + 1) p' (by simpa using hj)
    rw [show i + 1 + j = i + (j + 1) by omega]
    exact this
theorem upd_in {H : Hp} {a dx : Addr} {o1 o2 o3 : HO} (h : dx ≠ a) : upd (upd (upd H dx o1) a o2) dx o3 = upd (upd H dx o3) a o2 := by
  funext b
  unfold upd
  by_cases e : b = a
  · subst e; simp [Ne.symm h]
  · by_cases e2 : b = dx
    · simp [e2, h]
    · simp [e, e2]
/-- the fields that follow the first -/
theorem rXs_more {K : PySem.W.Frag} {C a dx : Addr} {T : Ends} {σ : L2.St} (O : OexC K C) (ha : σ[0]? = some (some (.ref a))) (hda : dx ≠ a) {H : Hp} : ∀ (fs : List Str) (ws : List V) (i : Nat) (l : List (Str × V)), fs.length = ws.length → (∀ f ∈ fs, PySem.W.findIn K (.ref C) f = some none) → l.length + fs.length ≤ 900 →
    (∀ (j : Nat) w, ws[j]? = some w → σ[i + j]? = some (some w)) → T.nx σ (upd (upd H dx (exd dx ((fs.zip ws).reverse ++ l))) a (exo a C (some dx))) → rXs K fs i T σ (upd (upd H dx (exd dx l)) a (exo a C (some dx)))
  | [], [], i, l, _, _, _, _, q => q
  | f :: fs, w :: ws, i, l, hl, hno, hz, hw, q => by
    refine ⟨w, by simpa using hw 0 w rfl, .ref a, ha, a, C, rfl, O, hno f List.mem_cons_self, .inr ⟨dx, l, upd_same, ?_, by simp at hz; omega, ?_⟩⟩
    · rw [upd_ne hda, upd_same]
    · rw [upd_in hda]
      refine rXs_more O ha hda fs ws (i + 1) ((f, w) :: l) (by simpa using hl) (fun g hg => hno g (List.mem_cons_of_mem _ hg)) (by simp at hz ⊢; omega) (fun j w' hj => ?_) ?_
      · have := hw (j + 1) w' (by simpa using hj)
        rw [show i + 1 + j = i + (j + 1) by omega]
        exact this
      · simpa using q
  | [], _ :: _, _, _, hl, _, _, _, _ => by simp at hl
  | _ :: _, [], _, _, hl, _, _, _, _ => by simp at hl
theorem lookup_rev : ∀ {fs : List Str} {ws : List V} {l : List (Str × V)}, fs.Nodup → fs.length = ws.length → (∀ p ∈ fs.zip ws, ((fs.zip ws).reverse ++ l).lookup p.1 = some p.2) := by
  intro fs ws l hn hl p hp
  obtain ⟨f, w⟩ := p
  have key : ∀ (m : List (Str × V)), (m.map (·.1)).Nodup → (f, w) ∈ m → (m ++ l).lookup f = some w := by
    intro m hm hf
    induction m with
    | nil => simp at hf
    | cons q r ih =>
      obtain ⟨g, u⟩ := q
      simp only [List.cons_append, List.lookup_cons]
      simp only [List.map_cons, List.nodup_cons] at hm
      rcases List.mem_cons.mp hf with e | e
      · cases e; simp
      · have : (f == g) = false := by
          refine beq_eq_false_iff_ne.mpr fun z => hm.1 ?_
          rw [← z]
          exact List.mem_map_of_mem e
        rw [this]
        exact ih hm.2 e
  refine key _ ?_ (by simpa using hp)
  rw [List.map_reverse, List.map_fst_zip (by omega)]
  exact List.pairwise_reverse.mpr (hn.imp fun h => Ne.symm h)
theorem xinit_ok {P : Program} {w : World} {K : PySem.W.Frag} {mg : Str → Option Value} {base : Heap} {CX : CXT} {x qual : Str} {params : Arguments} {body : List Stmt} {scope : Scope} {dvs : List V} {kws : List (Str × V)} {f C : Addr} {fd : FuncData} {N ps qs fs : List Str} {me : Str}
    (hF : FunD K x qual params body scope dvs kws f fd) (hS : FnScope N ps scope) (hp : ps = me :: qs) (hb : xinitB me fs qs body = true) (hl : fs.length = qs.length) (hnd : fs.Nodup) (hz : fs.length ≤ 800) (hfs : fs ≠ []) (O : OexC K C) (hno : ∀ g ∈ fs, PySem.W.findIn K (.ref C) g = some none)
    (d0 : (me == ("__debug__" : Str)) = false) (d1 : (me == ("__classdict__" : Str)) = false) : FnOk P w K mg base CX 1 f fd ps (spX C fs) := by
  subst hp
  have hlen : ∀ vs H Q E, spX C fs vs H Q E → vs.length = (me :: qs).length := by
    rintro vs H Q E ⟨a, ws, rfl, h1, _⟩
    simp [h1, hl]
  have hN : ∀ (j : Nat) p, (me :: qs)[j]? = some p → N[j]? = some p := fun j p e => by
    have hj := (List.getElem?_eq_some_iff.mp e).1
    have := hS.pre
    have h2 : (N.take (me :: qs).length)[j]? = some p := by rw [this]; exact e
    rwa [List.getElem?_take_of_lt hj] at h2
  refine FunD.ok (k := 0) hF hS hlen fun cdv A outer s H vs Q E hr hsp => ⟨rXs K fs 1, ?_, ?_⟩
  · have vis : ∀ (j : Nat) p, (me :: qs)[j]? = some p → Vis scope p := fun j p e => (hS.par p (List.mem_of_getElem? e)).imp id .inl
    exact xinit_ps (X := cxOf CX P w K mg base N qual scope f cdv A outer s H E) (hN 0 me rfl) (vis 0 me rfl) d0 d1 fs qs body 1 hb fun j p e => ⟨hN (1 + j) p (by rw [Nat.add_comm]; simpa using e), vis (1 + j) p (by rw [Nat.add_comm]; simpa using e)⟩
  · obtain ⟨a, ws, rfl, h1, h2, q⟩ := hsp
    have at_ : ∀ (j : Nat) v, (V.ref a :: ws)[j]? = some v → (L2.start N (V.ref a :: ws))[j]? = some (some v) := fun j v e => by
      have hj := (List.getElem?_eq_some_iff.mp e).1
      unfold L2.start
      rw [List.getElem?_append_left (by simpa using hj), List.getElem?_map, e]
      rfl
    cases fs with
    | nil => exact absurd rfl hfs
    | cons g gs =>
      cases ws with
      | nil => simp at h1
      | cons y ys =>
        refine ⟨y, at_ 1 y rfl, .ref a, at_ 0 _ rfl, a, C, rfl, O, hno g List.mem_cons_self, .inl ⟨h2, fun dx ndx nea => ?_⟩⟩
        refine rXs_more O (at_ 0 _ rfl) nea gs ys 2 [(g, y)] (by simpa using h1.symm) (fun f hf => hno f (List.mem_cons_of_mem _ hf)) (by simp at hz ⊢; omega) (fun j v e => ?_) ?_
        · have := at_ (2 + j) v (by rw [show 2 + j = (j + 1) + 1 by omega]; simpa using e)
          exact this
        · refine q dx _ ndx nea fun p hp => ?_
          have := lookup_rev (l := []) hnd h1.symm p hp
          simpa using this
end
end Pm

set_option linter.all false
set_option maxRecDepth 100000
set_option maxHeartbeats 1000000
namespace Pm
open PySem PySem.Spec L2
/-- what the text says of the exception classes -/
structure XFx (W : Wd) (pr : Pr) (F : Df) (K : PySem.W.Frag) : Prop where
  nil : ∀ (c : Nat) cl, pr.cls[c]? = some cl → cl.isx = true → cl.exf = [] → PySem.W.excIn K (W.ca c) He.veBase "ValueError.__new__" = true ∧ PySem.W.keepIn K (.ref (W.ca c)) = true
  ini : ∀ (c : Nat) cl, pr.cls[c]? = some cl → cl.isx = true → cl.exf ≠ [] → ∃ f, cl.init = some f ∧ OexC K (W.ca c) ∧ PySem.W.findIn K (.ref (W.ca c)) "__init__" = some (some (.ref (F.fa f))) ∧ PySem.W.typeIn K (.ref (F.fa f)) = some (.type "function") ∧ Binds K (F.fd f) (F.ps f) []
/-- their __init__ keep what they promise -/
structure XCalls (W : Wd) (pr : Pr) (F : Df) (X : Cx) : Prop where
  ok : ∀ (c : Nat) cl f, pr.cls[c]? = some cl → cl.isx = true → cl.exf ≠ [] → cl.init = some f → FnOk X.prog X.w X.K X.mg X.base (L2.CX X.prog X.w) 1 (F.fa f) (F.fd f) (F.ps f) (spX (W.ca c) (cl.exf.map W.nm))
theorem passF {X : Cx} : Passes (L2.CX X.prog X.w) X fun _ _ _ => False := fun pins σ H s e s' I ⟨a, B, H', cls, d, _, _, _, _, _, _, _, q⟩ => q.elim
section
variable {X : Cx} {W : Wd} {Wx : WX} {pr : Pr} {F : Df} {φ : Nat → List D → Hm → Rs D}
theorem mem_zip_map {nm : Nat → Str} : ∀ {fs : List Nat} {vs : List V} {p : Nat × V}, p ∈ fs.zip vs → (nm p.1, p.2) ∈ (fs.map nm).zip vs
  | [], _, _, h => by simp at h
  | _ :: _, [], _, h => by simp at h
  | f :: fs, v :: vs, p, h => by
    simp only [List.zip_cons_cons, List.mem_cons, List.map_cons] at h ⊢
    rcases h with rfl | h
    · exact .inl rfl
    · exact .inr (mem_zip_map h)
/-- C(a, ..), an exception that is held -/
theorem m_mkx (XF : XFx W pr F X.K) (C : XCalls W pr F X) (hr : Room 2 X.A) {x : Str} {es : List Expr} {cs : Es} {p pos : Pos} {c n : Nat} {cl : Cl} (hc : pr.cls[c]? = some cl) (hx : cl.isx = true) (hn : cs.cnt = some n) (hnil : cl.exf = [] → es = [] ∧ cs = .nil)
    (hg : Gl X x) (hm : X.mg x = some (.ref (W.ca c))) (ha : ArgsOk X pos es cs (tL W Wx (evEs pr φ cs))) (hdb : (x == ("__debug__" : Str)) = false) : PE X (.Call (.Name x p) es [] pos) (tE W Wx (evE pr φ (.mk c cs))) := by
  have mk : ∀ ds h, mkD pr φ c ds h = if ds.length = cl.exf.length ∧ ds.length ≤ 900 then .ok (.xcp c cl.exf ds) h else .bad := fun ds h => by
    unfold mkD
    rw [hc]
    simp only [hx, if_true]
  by_cases he : cl.exf = []
  · obtain ⟨e1, e2⟩ := hnil he
    subst e1 e2
    obtain ⟨q1, q2⟩ := XF.nil c cl hc hx he
    refine (pe_mkx0 PySem.F.excBase_ValueError q1 q2 hg hm hdb).weak fun σ H Q ⟨S, α, h, e, s, r, q⟩ => ?_
    simp only [evE, evEs, Rs.bind, mk, he, List.length_nil, Nat.zero_le, and_self, if_true] at q
    intro a na
    have t := s.tup (o := exo a (W.ca c) none) na
    refine q _ _ _ _ t ?_
    simp only [Rl]
    exact ⟨a, [], rfl, by simp only [Rls], rfl, .inl ⟨trivial, upd_same⟩⟩
  · obtain ⟨f, hi, O, iC, tI, hb⟩ := XF.ini c cl hc hx he
    obtain ⟨t', ha1, ha2⟩ := argsOk_le ha
    refine (pe_mkx O iC tI (C.ok c cl f hc hx he hi) hr hb passF hg hm hdb ha1).weak fun σ H Q ⟨S, α, h, e, s, r, q⟩ => ?_
    simp only [evE] at q
    refine args_run ha2 hn s r q fun ds h1 S1 α1 H1 vs t1 lv ln q1 => ?_
    rw [mk] at q1
    split at q1
    · rename_i hl
      have hv : vs.length = cl.exf.length := by rw [← lv.length]; exact hl.1
      refine ⟨by simpa using hv, by rw [← lv.length]; omega, fun a dx l na nd ne hlk => ?_⟩
      have s1 := t1.sim
      have t2 := s1.tup (o := exd dx l) nd
      have na2 : upd H1 dx (exd dx l) a = none := by rw [upd_ne (Ne.symm ne)]; exact na
      have t3 := t2.sim.tup (o := exo a (W.ca c) (some dx)) na2
      have t := t2.trans s1 t3
      refine q1 _ _ _ _ t ?_
      simp only [Rl]
      refine ⟨a, vs, rfl, lv.mono t.le t.pre, hv.symm, .inr ⟨dx, l, upd_same, ?_, fun p hp => ?_⟩⟩
      · rw [upd_ne ne, upd_same]
      · exact hlk _ (mem_zip_map hp)
    · exact q1.elim
end
end Pm

set_option linter.all false
set_option maxRecDepth 100000
set_option maxHeartbeats 1000000
namespace Pm
open PySem PySem.Spec L2

/-- what is wanted of a statement's outcome -/
def PostS (W : Wd) (S : Hp) (α : List Addr) (H : Hp) (o : Out) (T : Ends) (Wx : WX) : Prop := match o with
  | .bad => False
  | .nx e h => ∀ S' α' H' σ', Step W S α H S' α' h H' → REv W S' α' e σ' → T.nx σ' H'
  | .bk e h => ∀ S' α' H' σ', Step W S α H S' α' h H' → REv W S' α' e σ' → T.bk σ' H'
  | .ct e h => ∀ S' α' H' σ', Step W S α H S' α' h H' → REv W S' α' e σ' → T.ct σ' H'
  | .rt d h => ∀ S' α' H' v, Step W S α H S' α' h H' → Rl W S' α' d v → T.rt v H'
  | .exc c fs vs e h => ∀ S' α' H' C dd σ', Step W S α H S' α' h H' → REv W S' α' e σ' → XOk W S' α' c fs vs C dd H' → Wx C dd σ' H'
/-- a statement's reading by the machine -/
def tS (W : Wd) (Wx : WX) (run : Ev → Hm → Out) : TS := fun T σ H => ∃ S α h e, Sim W S α h H ∧ REv W S α e σ ∧ PostS W S α H (run e h) T Wx

section
variable {X : Cx} {W : Wd} {Wx : WX} {S S1 H H1 : Hp} {α α1 : List Addr} {h h1 : Hm} {T : Ends}
theorem PostS.after {o : Out} (s : Sim W S α h H) (t : Step W S α H S1 α1 h1 H1) (p : PostS W S α H o T Wx) : PostS W S1 α1 H1 o T Wx := by
  cases o with
  | bad => exact p
  | nx e h => exact fun S' α' H' σ' u r => p S' α' H' σ' (t.trans s u) r
  | bk e h => exact fun S' α' H' σ' u r => p S' α' H' σ' (t.trans s u) r
  | ct e h => exact fun S' α' H' σ' u r => p S' α' H' σ' (t.trans s u) r
  | rt d h => exact fun S' α' H' v u r => p S' α' H' v (t.trans s u) r
  | exc c fs vs e h => exact fun S' α' H' C dd σ' u r x => p S' α' H' C dd σ' (t.trans s u) r x
/-- an expression ahead -/
theorem PostS.out {A B : Type} {R : Hp → List Addr → A → B → Prop} {r : Rs A} {e : Ev} {f : A → Hm → Out} {σ : St} {Q1 : B → Hp → Prop} (s : Sim W S α h H) (re : REv W S α e σ)
    (k : ∀ a h1 S1 α1 H1 b, Step W S α H S1 α1 h1 H1 → R S1 α1 a b → PostS W S1 α1 H1 (f a h1) T Wx → Q1 b H1) (p : PostS W S α H (r.out e f) T Wx) : PostG R W S α H r Q1 fun C dd H' => Wx C dd σ H' := by
  cases r with
  | bad => exact p
  | ok a h' => exact fun S' α' H' b u q => k a h' S' α' H' b u q (PostS.after s u p)
  | exc c fs vs h' => exact fun S' α' H' C dd u x => p S' α' H' C dd σ u (re.mono u.le u.pre) x
theorem tG.out {A B : Type} {R : Wd → Hp → List Addr → A → B → Prop} {run : Ev → Hm → Rs A} {f : Ev → A → Hm → Out} {σ : St} {Q1 : B → Hp → Prop}
    (k : ∀ e a h1 S1 α1 H1 b, Sim W S1 α1 h1 H1 → REv W S1 α1 e σ → R W S1 α1 a b → PostS W S1 α1 H1 (f e a h1) T Wx → Q1 b H1) (p : tS W Wx (fun e h => (run e h).out e (f e)) T σ H) : tG R W Wx run σ H Q1 := by
  obtain ⟨S, α, h, e, s, r, p⟩ := p
  exact ⟨S, α, h, e, s, r, PostS.out s r (fun a h1 S1 α1 H1 b t q p1 => k e a h1 S1 α1 H1 b t.sim (r.mono t.le t.pre) q p1) p⟩
theorem PostS.nxt {e : Ev} {σ : St} (s : Sim W S α h H) (r : REv W S α e σ) (p : PostS W S α H (.nx e h) T Wx) : T.nx σ H := p S α H σ (.refl s) r
theorem REv.put {e : Ev} {σ : St} {d : D} {v : V} (r : REv W S α e σ) (i : Nat) (q : Rl W S α d v) : REv W S α (e.set i d) (σ.set i (some v)) := by
  refine ⟨by simp [r.1], fun j d' hd n => ?_⟩
  by_cases hij : j = i
  · subst hij
    by_cases hl : j < e.length
    · rw [List.getElem?_set_self hl] at hd; cases hd
      exact ⟨v, by rw [List.getElem?_set_self (by rw [← r.1]; exact hl)], q⟩
    · rw [List.getElem?_eq_none (by simpa using hl)] at hd; cases hd
  · rw [List.getElem?_set_ne (Ne.symm hij)] at hd
    obtain ⟨v', a, b⟩ := r.2 j d' hd n
    exact ⟨v', by rw [List.getElem?_set_ne (Ne.symm hij)]; exact a, b⟩

variable {pr : Pr} {φ : Nat → List D → Hm → Rs D}
/-! ### blocks -/
theorem b_nil : PSs X [] (tS W Wx (exB pr φ [])) := pss_nil.weak fun T σ H ⟨S, α, h, e, s, r, p⟩ => by
  simp only [exB] at p
  exact PostS.nxt s r p
theorem b_cons {st : Stmt} {rest : List Stmt} {c : Pm.S} {cs : List Pm.S} (h1 : PS X st (tS W Wx (exS pr φ c))) (h2 : PSs X rest (tS W Wx (exB pr φ cs))) : PSs X (st :: rest) (tS W Wx (exB pr φ (c :: cs))) :=
  (pss_cons h1 h2).weak fun T σ H ⟨S, α, h, e, s, r, p⟩ => by
    refine ⟨S, α, h, e, s, r, ?_⟩
    simp only [exB] at p
    cases q : exS pr φ c e h with
    | bad => rw [q] at p; exact p
    | nx e1 h1 =>
      rw [q] at p
      exact fun S1 α1 H1 σ1 t r1 => ⟨S1, α1, h1, e1, t.sim, r1, PostS.after s t p⟩
    | bk e1 h1 => rw [q] at p; exact p
    | ct e1 h1 => rw [q] at p; exact p
    | rt d h1 => rw [q] at p; exact p
    | exc c fs vs e1 h1 => rw [q] at p; exact p
theorem s_pass {pos : Pos} : PS X (.Pass pos) (tS W Wx (exS pr φ .pass)) := ps_pass.weak fun T σ H ⟨S, α, h, e, s, r, p⟩ => by
  simp only [exS] at p
  exact PostS.nxt s r p
theorem s_brk {pos : Pos} : PS X (.Break pos) (tS W Wx (exS pr φ .brk)) := ps_break.weak fun T σ H ⟨S, α, h, e, s, r, p⟩ => by
  simp only [exS] at p
  exact p S α H σ (.refl s) r
theorem s_cnt {pos : Pos} : PS X (.Continue pos) (tS W Wx (exS pr φ .cnt)) := ps_continue.weak fun T σ H ⟨S, α, h, e, s, r, p⟩ => by
  simp only [exS] at p
  exact p S α H σ (.refl s) r
theorem s_ret {a : Expr} {ca : E} {pos : Pos} (ha : PE X a (tE W Wx (evE pr φ ca))) : PS X (.Return (some a) pos) (tS W Wx (exS pr φ (.ret ca))) := (ps_ret ha).weak fun T σ H p => by
  simp only [exS] at p
  exact tG.out (R := Rl) (f := fun e d h => .rt d h) (fun e d h1 S1 α1 H1 v s1 r1 lv p1 => p1 S1 α1 H1 v (.refl s1) lv) p
theorem s_retN {pos : Pos} : PS X (.Return none pos) (tS W Wx (exS pr φ (.ret (.k .non)))) := ps_retN.weak fun T σ H ⟨S, α, h, e, s, r, p⟩ => by
  simp only [exS, evE, Rs.out] at p
  exact p S α H .non (.refl s) (by simp only [Rl])
theorem s_ite {c : Expr} {a b : List Stmt} {cc : E} {ca cb : List Pm.S} {pos : Pos} (hc : PT X c (tT W Wx (evE pr φ cc))) (ha : PSs X a (tS W Wx (exB pr φ ca))) (hb : PSs X b (tS W Wx (exB pr φ cb))) : PS X (.If c a b pos) (tS W Wx (exS pr φ (.ite cc ca cb))) :=
  (ps_if hc ha hb).weak fun T σ H ⟨S, α, h, e, s, r, p⟩ => by
    simp only [exS] at p
    refine ⟨S, α, h, e, s, r, ?_⟩
    unfold truR
    cases q : evE pr φ cc e h with
    | bad => rw [q] at p; exact p
    | exc c fs vs h1 => rw [q] at p; exact fun S' α' H' C dd u x => p S' α' H' C dd σ u (r.mono u.le u.pre) x
    | ok d h1 =>
      rw [q] at p
      simp only [Rs.out] at p
      simp only [Rs.bind]
      cases q2 : truth h1 d with
      | none => rw [q2] at p; exact p
      | some b =>
        rw [q2] at p
        intro S1 α1 H1 b' t hb'
        obtain rfl : b = b' := hb'
        have r1 := r.mono t.le t.pre
        cases b with
        | true => exact ⟨S1, α1, h1, e, t.sim, r1, PostS.after s t p⟩
        | false => exact ⟨S1, α1, h1, e, t.sim, r1, PostS.after s t p⟩
/-! ### stores -/
theorem s_set {i : Nat} {x : Str} {a : Expr} {ca : E} {pos pos' : Pos} (hN : X.N.Nodup) (hi : X.N[i]? = some x) (hx : Loc X.env.scope x) (hf : X.fn x = true ∨ X.env.scope.names.lookup x = some .local) (ha : PE X a (tE W Wx (evE pr φ ca))) (hs : swapsWith a (some (.Name x pos')) pos.line X.env = pure false) :
    PS X (.Assign [.Name x pos'] a pos) (tS W Wx (exS pr φ (.set i ca))) := (ps_set hN hi hx ha hs hf).weak fun T σ H p => by
  simp only [exS] at p
  exact tG.out (R := Rl) (f := fun e d h => .nx (e.set i d) h) (fun e d h1 S1 α1 H1 v s1 r1 lv p1 => PostS.nxt s1 (r1.put i lv) p1) p
theorem s_ex {a : Expr} {ca : E} {pos : Pos} (ha : PE X a (tE W Wx (evE pr φ ca))) (hs : swapsWith a none pos.line X.env = pure false) : PS X (.Expr a pos) (tS W Wx (exS pr φ (.ex ca))) := (ps_expr ha hs).weak fun T σ H p => by
  simp only [exS] at p
  exact tG.out (R := Rl) (f := fun e _ h => .nx e h) (fun e d h1 S1 α1 H1 v s1 r1 lv p1 => PostS.nxt s1 r1 p1) p
/-! ### attributes -/
theorem putF_ok (inj : ∀ f g, W.nm f = W.nm g → f = g) (f : Nat) {d : D} {y : V} (ly : Rl W S α d y) : ∀ {fs : List Nat} {vs : List D} {us : List V}, fs.length = us.length → Rls W S α vs us →
    ∃ ws, L2.putF (W.nm f) y ((fs.map W.nm).zip us) = ((Pm.putF f d fs vs).1.map W.nm).zip ws ∧ (Pm.putF f d fs vs).1.length = ws.length ∧ Rls W S α (Pm.putF f d fs vs).2 ws
  | [], vs, us, hl, r => by
    have : us = [] := List.length_eq_zero_iff.mp hl.symm
    subst this
    exact ⟨[y], by simp [L2.putF, Pm.putF], by simp [Pm.putF], by simp only [Pm.putF, Rls]; exact ⟨y, [], rfl, ly, rfl⟩⟩
  | g :: gs, [], us, hl, r => by simp only [Rls] at r; subst r; simp at hl
  | g :: gs, x :: xs, us, hl, r => by
    simp only [Rls] at r
    obtain ⟨u, t, e, r1, r2⟩ := r
    subst e
    have hl' : gs.length = t.length := by simpa using hl
    simp only [Pm.putF, List.map_cons, List.zip_cons_cons, L2.putF]
    by_cases hh : g = f
    · subst hh
      rw [if_pos rfl, if_pos rfl]
      exact ⟨y :: t, by simp, by simp [hl'], by simp only [Rls]; exact ⟨y, t, rfl, ly, r2⟩⟩
    · obtain ⟨ws, e1, e2, e3⟩ := putF_ok inj f ly hl' r2
      rw [if_neg hh, if_neg fun e => hh (inj _ _ e)]
      refine ⟨u :: ws, by simp [e1], by simp [e2], ?_⟩
      simp only [Rls]
      exact ⟨u, ws, rfl, r1, e3⟩
end
end Pm

set_option linter.all false
set_option maxRecDepth 100000
set_option maxHeartbeats 1000000
namespace Pm
open PySem PySem.Spec L2
section
variable {X : Cx} {W : Wd} {Wx : WX} {S S1 H H1 : Hp} {α α1 : List Addr} {h h1 : Hm} {T : Ends} {pr : Pr} {φ : Nat → List D → Hm → Rs D}
/-- o.f = d on the machine and on the heap -/
theorem setFld_ok (F : Facts W pr) (s : Sim W S α h H) {x d : D} {f : Nat} {vx v : V} {h2 : Hm} (e : setFld pr h x f d = some h2) (lx : Rl W S α x vx) (ld : Rl W S α d v) :
    ∃ a c dx fs, vx = .ref a ∧ H a = some (.ins (W.ca c) dx fs) ∧ Cls W.K (W.ca c) ∧ NoAttr W.K (W.ca c) (W.nm f) ∧ fs.length < 1000 ∧ clsOf h x = some c ∧ Step W S α H S α h2 (upd H a (.ins (W.ca c) dx (L2.putF (W.nm f) v fs))) := by
  cases x <;> try (simp only [setFld] at e; cases e; done)
  rename_i n
  simp only [setFld] at e
  cases hc : h[n]? with
  | none => rw [hc] at e; cases e
  | some cell =>
    rw [hc] at e
    cases cell with
    | ins c fs vs =>
      simp only at e
      cases ec : pr.cls[c]? with
      | none => rw [ec] at e; cases e
      | some cl =>
        rw [ec] at e
        simp only at e
        split at e
        · rename_i hl
          cases e
          simp only [Rl] at lx
          obtain ⟨a, e1, ha⟩ := lx
          obtain ⟨c0, hc0, _, o, ho, rc⟩ := s.at ha
          rw [hc] at hc0; cases hc0
          obtain ⟨dx, us, e2, hz, ru⟩ := rc
          subst e2
          have hisx : cl.isx = false := by
            rcases F.isx c cl ec with z | z
            · exact z
            · have := hl.2; rw [z] at this; simp at this
          obtain ⟨ws, w1, w2, w3⟩ := putF_ok F.inj f ld hz ru
          refine ⟨a, c, dx, _, e1, ho, F.cls c cl ec hisx, F.fld c cl f ec hl.2, ?_, by simp only [clsOf, inst?, hc, Option.map_some], ?_⟩
          · have := hl.1
            simp only [List.length_zip, List.length_map]
            omega
          · rw [w1]
            exact s.set ha ⟨dx, ws, rfl, w2, w3⟩
        · cases e
    | _ => simp at e
theorem s_fld (hK : W.K = X.K) (F : Facts W pr) {o a : Expr} {co ca : E} {f : Nat} {pos pos' : Pos} (ho : PE X o (tE W Wx (evE pr φ co))) (ha : PE X a (tE W Wx (evE pr φ ca))) (hs : swapsWith a (some (.Attribute o (W.nm f) pos')) pos.line X.env = pure false) :
    PS X (.Assign [.Attribute o (W.nm f) pos'] a pos) (tS W Wx (exS pr φ (.fld co f ca))) := (ps_fld ho ha hs).weak fun T σ H p => by
  simp only [exS] at p
  refine tG.out (R := Rl) (f := fun e d h => (evE pr φ co e h).out e fun x h => match setFld pr h x f d with | some h => .nx e h | none => .bad) (fun e d h1 S1 α1 H1 v s1 r1 lv p1 => ?_) p
  refine ⟨S1, α1, h1, e, s1, r1, PostS.out s1 r1 (fun x h2 S2 α2 H2 vx t2 lx p2 => ?_) p1⟩
  cases es : setFld pr h2 x f d with
  | none => rw [es] at p2; exact p2.elim
  | some h3 =>
    rw [es] at p2
    obtain ⟨a, c, dx, fs, e1, e2, e3, e4, e5, _, t3⟩ := setFld_ok F t2.sim es lx (lv.mono t2.le t2.pre)
    have r3 := (r1.mono t2.le t2.pre).mono t3.le t3.pre
    exact ⟨a, W.ca c, dx, fs, e1, e2, hK ▸ e3, hK ▸ e4, e5, PostS.nxt t3.sim r3 (PostS.after t2.sim t3 p2)⟩
/-! ### op= -/
def augT : Bop → Option (Int → Int → Int)
  | .add => some fun i j => i + j
  | .sub => some fun i j => i - j
  | _ => none
theorem binD_aug {o : Bop} {g : Int → Int → Int} (e : augT o = some g) (i j : Int) (h : Hm) : binD o (.int i) (.int j) h = .ok (.int (g i j)) h := by
  cases o <;> simp only [augT, Option.some.injEq, reduceCtorEq] at e <;> subst e <;> rfl
theorem binD_augI {o : Bop} {g : Int → Int → Int} (e : augT o = some g) (i : Int) {y : D} {h : Hm} {Q : D → Hm → Out} {ev : Ev} (p : PostS W S α H ((binD o (.int i) y h).out ev Q) T Wx) : ∃ j, y = .int j := by
  cases o <;> simp only [augT, reduceCtorEq] at e <;> cases y <;> first | exact ⟨_, rfl⟩ | (exfalso; simp only [binD, items?] at p; exact p)
theorem pip_of {o : Bop} {g : Int → Int → Int} (e : augT o = some g) : PIp X (boP o) (ipI g) := by
  cases o <;> simp only [augT, Option.some.injEq, reduceCtorEq] at e <;> subst e
  · exact ip_add
  · exact ip_sub
theorem s_aug {i : Nat} {x : Str} {a : Expr} {ca : E} {o : Bop} {g : Int → Int → Int} {pos pos' : Pos} (hN : X.N.Nodup) (hi : X.N[i]? = some x) (hx : Loc X.env.scope x) (hf : X.fn x = true ∨ X.env.scope.names.lookup x = some .local) (ha : PE X a (tE W Wx (evE pr φ ca))) (hg : augT o = some g) :
    PS X (.AugAssign (.Name x pos') (boP o) a pos) (tS W Wx (exS pr φ (.aug i o ca))) := (ps_aug hN hi hx ha (pip_of hg) hf).weak fun T σ H ⟨S, α, h, e, s, r, p⟩ => by
  simp only [exS] at p
  cases he : e[i]? with
  | none => rw [he] at p; exact p.elim
  | some dx =>
    rw [he] at p
    cases dx <;> try exact p.elim
    rename_i n
    simp only at p
    obtain ⟨vx, hvx, lx⟩ := r.2 i _ he (by intro z; cases z)
    refine ⟨vx, hvx, S, α, h, e, s, r, PostS.out s r (fun y h2 S2 α2 H2 vy t2 ly p2 => ?_) p⟩
    obtain ⟨m, rfl⟩ := binD_augI hg n p2
    obtain rfl := rl_int lx
    obtain rfl := rl_int ly
    simp only [binD_aug hg, Rs.out] at p2
    exact ⟨n, m, rfl, rfl, PostS.nxt t2.sim ((r.mono t2.le t2.pre).put i (by simp only [Rl])) p2⟩
theorem inop_of {o : Bop} {g : Int → Int → Int} (e : augT o = some g) : InOp X (boP o) (fun x y H Q => ∃ i j, x = .int i ∧ y = .int j ∧ Q (.int (g i j)) H) := by
  cases o <;> simp only [augT, Option.some.injEq, reduceCtorEq] at e <;> subst e
  · exact in_add
  · exact in_sub
/-- a plain field of an instance -/
theorem fldD_inl (F : Facts W pr) (s : Sim W S α h H) {x d : D} {f : Nat} {vx : V} (e : fldD pr h x f = some (.inl d)) (lx : Rl W S α x vx) :
    (∃ c fs vs, x = .xcp c fs vs) ∨ ∃ a c dx fs v, vx = .ref a ∧ H a = some (.ins (W.ca c) dx fs) ∧ Cls W.K (W.ca c) ∧ NoAttr W.K (W.ca c) (W.nm f) ∧ fs.lookup (W.nm f) = some v ∧ Rl W S α d v ∧ clsOf h x = some c := by
  by_cases hx : ∃ c fs vs, x = .xcp c fs vs
  · exact .inl hx
  refine .inr ?_
  have e0 : fldD pr h x f = (match inst? h x with
    | some (c, fs, vs) => match pr.cls[c]? with
      | some cl => match look f fs vs with
        | some v => if cl.flds.contains f then some (.inl v) else none
        | none => (cl.props.lookup f).map .inr
      | none => none
    | none => none) := by
    cases x <;> first | rfl | exact absurd ⟨_, _, _, rfl⟩ hx
  rw [e0] at e
  cases ei : inst? h x with
  | none => rw [ei] at e; cases e
  | some q =>
    obtain ⟨c, fs, vs⟩ := q
    rw [ei] at e
    simp only at e
    obtain ⟨a, dx, us, e1, hq, hl, ru⟩ := inst_ok s ei lx
    cases ec : pr.cls[c]? with
    | none => rw [ec] at e; cases e
    | some cl =>
      rw [ec] at e
      simp only at e
      cases el : look f fs vs with
      | none =>
        rw [el] at e
        simp only at e
        cases eg : cl.props.lookup f with
        | none => rw [eg] at e; cases e
        | some g => rw [eg] at e; cases e
      | some d' =>
        rw [el] at e
        simp only at e
        split at e
        · rename_i hc
          cases e
          obtain ⟨v, hv, lv⟩ := (look_lookup F.inj f hl ru).1 d el
          have hisx : cl.isx = false := by
            rcases F.isx c cl ec with z | z
            · exact z
            · rw [z] at hc; simp at hc
          exact ⟨a, c, dx, _, v, e1, hq, F.cls c cl ec hisx, F.fld c cl f ec hc, hv, lv, by simp only [clsOf, ei, Option.map_some]⟩
        · cases e
theorem s_augf (hK : W.K = X.K) (F : Facts W pr) {o a : Expr} {co ca : E} {f : Nat} {op : Bop} {g : Int → Int → Int} {pos tpos : Pos} (ho : PE X o (tE W Wx (evE pr φ co))) (ha : PE X a (tE W Wx (evE pr φ ca))) (hg : augT op = some g) :
    PS X (.AugAssign (.Attribute o (W.nm f) tpos) (boP op) a pos) (tS W Wx (exS pr φ (.augf co f op ca))) := (ps_fldaug ho ha (inop_of hg)).weak fun T σ H p => by
  simp only [exS] at p
  refine tG.out (R := Rl) (f := fun e x h => if (inst? h x).isNone then .bad else match fldD pr h x f with
    | some (.inl (.int n)) => (evE pr φ ca e h).out e fun y h2 => if clsOf h2 x = clsOf h x then (binD op (.int n) y h2).out e fun z h => match setFld pr h x f z with
        | some h => .nx e h
        | none => .bad
      else .bad
    | _ => .bad) (fun e x h1 S1 α1 H1 vx s1 r1 lx p1 => ?_) p
  split at p1
  · exact p1.elim
  rename_i hin
  cases ef : fldD pr h1 x f with
  | none => rw [ef] at p1; exact p1.elim
  | some q =>
    cases q with
    | inr _ => rw [ef] at p1; exact p1.elim
    | inl d =>
      rw [ef] at p1
      cases d <;> try exact p1.elim
      rename_i n
      rcases fldD_inl F s1 ef lx with ⟨c, fs, vs, rfl⟩ | ⟨a, c, dx, fs, v, e1, e2, e3, e4, e5, lv, ecl⟩
      · exact absurd rfl hin
      subst e1
      obtain rfl := rl_int lv
      refine ⟨a, W.ca c, dx, fs, _, rfl, e2, hK ▸ e3, hK ▸ e4, e5, S1, α1, h1, e, s1, r1, PostS.out s1 r1 (fun y h2 S2 α2 H2 vy t2 ly p2 => ?_) p1⟩
      split at p2
      · rename_i hcl
        obtain ⟨m, rfl⟩ := binD_augI (Q := fun z h => match setFld pr h x f z with | some h => .nx e h | none => .bad) hg n p2
        obtain rfl := rl_int ly
        simp only [binD_aug hg, Rs.out] at p2
        refine ⟨n, m, rfl, rfl, ?_⟩
        cases es : setFld pr h2 x f (.int (g n m)) with
        | none => rw [es] at p2; exact p2.elim
        | some h3 =>
          rw [es] at p2
          obtain ⟨a', c', dx', fs', e1', e2', e3', e4', e5', ecl', t3⟩ := setFld_ok F t2.sim es (lx.mono t2.le t2.pre) (v := .int (g n m)) (by simp only [Rl])
          cases e1'
          rw [hcl, ecl] at ecl'
          cases ecl'
          exact ⟨dx', fs', e2', e5', PostS.nxt t3.sim ((r1.mono t2.le t2.pre).mono t3.le t3.pre) (PostS.after t2.sim t3 p2)⟩
      · exact p2.elim
/-! ### o[i] = .. -/
theorem key_rl {y : D} {k : Key} {v : V} (e : key? y = some k) (l : Rl W S α y v) : v = kV k := by
  cases y <;> simp only [key?, Option.some.injEq, reduceCtorEq] at e <;> subst e
  · exact rl_int l
  · exact rl_str l
theorem any_zipK (k : Key) : ∀ {ks : List Key} {us : List V}, ks.length = us.length → ((ks.zip us).any fun kv => decide (kv.1 = k)) = ks.any fun g => decide (g = k)
  | [], us, _ => by simp
  | g :: gs, [], e => by simp at e
  | g :: gs, u :: us, e => by simp only [List.zip_cons_cons, List.any_cons, any_zipK k (by simpa using e)]
theorem map_zip (k : Key) (v : V) : ∀ {ks : List Key} {us : List V}, ks.length = us.length → ((ks.zip us).map fun kv => if kv.1 = k then (kv.1, v) else kv) = ks.zip (List.zipWith (fun g x => if g = k then v else x) ks us)
  | [], us, _ => by simp
  | g :: gs, [], e => by simp at e
  | g :: gs, u :: us, e => by
    simp only [List.zip_cons_cons, List.map_cons, List.zipWith_cons_cons, map_zip k v (show gs.length = us.length by simpa using e)]
    by_cases h : g = k <;> simp [h]
theorem zipWith_rl (k : Key) {y : D} {v : V} (ly : Rl W S α y v) : ∀ {ks : List Key} {vs : List D} {us : List V}, Rls W S α vs us → Rls W S α (List.zipWith (fun g x => if g = k then y else x) ks vs) (List.zipWith (fun g x => if g = k then v else x) ks us)
  | [], vs, us, _ => by simp [Rls]
  | g :: gs, [], us, r => by simp only [Rls] at r; subst r; simp [Rls]
  | g :: gs, x :: xs, us, r => by
    simp only [Rls] at r
    obtain ⟨u, t, e, r1, r2⟩ := r
    subst e
    simp only [List.zipWith_cons_cons, Rls]
    refine ⟨_, _, rfl, ?_, zipWith_rl k ly r2⟩
    by_cases h : g = k <;> simp only [h, if_true, if_false] <;> assumption
theorem zw_len (k : Key) (v : V) (ks : List Key) (us : List V) (e : ks.length = us.length) : ks.length = (List.zipWith (fun g x => if g = k then v else x) ks us).length := by simp [e]
theorem putK_ok (k : Key) {y : D} {v : V} (ly : Rl W S α y v) {ks : List Key} {vs : List D} {us : List V} (hl : ks.length = us.length) (r : Rls W S α vs us) :
    ∃ ws, L2.putK (ks.zip us) k v = (Pm.putK k y ks vs).1.zip ws ∧ (Pm.putK k y ks vs).1.length = ws.length ∧ Rls W S α (Pm.putK k y ks vs).2 ws := by
  unfold L2.putK Pm.putK
  rw [any_zipK k hl]
  by_cases h : (ks.any fun g => decide (g = k)) = true
  · rw [if_pos h, if_pos h]
    exact ⟨_, map_zip k v hl, zw_len k v ks us hl, zipWith_rl k ly r⟩
  · rw [if_neg h, if_neg h]
    refine ⟨us ++ [v], ?_, by simp [hl], r.app (.one ly)⟩
    rw [List.zip_append hl]
    rfl
theorem setSub_ok (s : Sim W S α h H) {x y d : D} {vx vy v : V} {h2 : Hm} (e : setSub h x y d = some h2) (lx : Rl W S α x vx) (ly : Rl W S α y vy) (ld : Rl W S α d v) :
    (∃ p xs k j, vx = .ref p ∧ vy = .int k ∧ H p = some (.lst xs) ∧ ixN xs.length k = some j ∧ Step W S α H S α h2 (upd H p (.lst (xs.set j v)))) ∨ ∃ a H', vx = .ref a ∧ DPut H a vy v H' ∧ Step W S α H S α h2 H' := by
  cases x <;> try (simp only [setSub] at e; cases e; done)
  rename_i n
  simp only [setSub] at e
  simp only [Rl] at lx
  obtain ⟨a, e1, ha⟩ := lx
  obtain ⟨c0, hc, _, o, ho, rc⟩ := s.at ha
  rw [hc] at e
  cases c0 with
  | lst xs =>
    simp only at e
    cases y <;> try (cases e; done)
    rename_i k
    simp only at e
    cases ej : ixN xs.length k with
    | none => rw [ej] at e; cases e
    | some j =>
      rw [ej] at e
      simp only [Option.map_some, Option.some.injEq] at e
      subst e
      obtain ⟨us, e2, ru⟩ := rc
      subst e2
      exact .inl ⟨a, us, k, j, e1, rl_int ly, ho, by rw [← ru.length]; exact ej, s.set ha ⟨_, rfl, ru.set j ld⟩⟩
  | dic ks vs =>
    simp only at e
    cases ek : key? y with
    | none => rw [ek] at e; cases e
    | some k =>
      rw [ek] at e
      simp only at e
      split at e
      · rename_i hz
        cases e
        obtain ⟨us, e2, hl, ru⟩ := rc
        subst e2
        obtain ⟨ws, w1, w2, w3⟩ := putK_ok k ld hl ru
        refine .inr ⟨a, _, e1, .inl ⟨_, k, ho, key_rl ek ly, ?_, rfl⟩, ?_⟩
        · simp only [List.length_zip, ← hl, Nat.min_self, sizeLine_eq]
          omega
        · rw [w1]
          exact s.set ha ⟨ws, rfl, w2, w3⟩
      · cases e
  | ins c fs vs => simp only at e; cases e
theorem _root_.L2.PSet.or {t t' : TSet} (a : PSet X t) (b : PSet X t') : PSet X (fun o i v H Q => t o i v H Q ∨ t' o i v H Q) := fun pins s σ H o i v ov iv u Q I ro ri rv q => q.elim (a pins s σ H o i v ov iv u Q I ro ri rv) (b pins s σ H o i v ov iv u Q I ro ri rv)
theorem s_sub (hu : X.A.units + 1 < cLine) {o i a : Expr} {co ci ca : E} {pos pos' : Pos} (ho : PE X o (tE W Wx (evE pr φ co))) (hi : PE X i (tE W Wx (evE pr φ ci))) (ha : PE X a (tE W Wx (evE pr φ ca)))
    (hp : ∀ v, assign (.Subscript o i pos') X.env v = (do
      let ov ← holding [v] (eval o X.env)
      let iv ← holding [v, ov] (eval i X.env)
      standAt pos'
      holding [v, ov, iv] (setItem ov iv v)
      release [v, ov, iv] []))
    (hs : swapsWithSole [.Subscript o i pos'] a pos.line X.env = pure false) (hw : swappedStores [.Subscript o i pos'] a X.env = pure none) (h1 : (assignEach [.Subscript o i pos'] X.env).map (·.2) = [assign (.Subscript o i pos') X.env]) :
    PS X (.Assign [.Subscript o i pos'] a pos) (tS W Wx (exS pr φ (.sub co ci ca))) := (ps_asg ha (pg_sub ho hi (set_list.or (set_dict hu)) hp) hs hw h1).weak fun T σ H p => by
  simp only [exS] at p
  refine tG.out (R := Rl) (f := fun e d h => (evE pr φ co e h).out e fun x h => (evE pr φ ci e h).out e fun y h => match setSub h x y d with | some h => .nx e h | none => .bad) (fun e d h1 S1 α1 H1 v s1 r1 lv p1 => ?_) p
  refine ⟨S1, α1, h1, e, s1, r1, PostS.out s1 r1 (fun x h2 S2 α2 H2 vx t2 lx p2 => ?_) p1⟩
  have r2 := r1.mono t2.le t2.pre
  refine ⟨S2, α2, h2, e, t2.sim, r2, PostS.out t2.sim r2 (fun y h3 S3 α3 H3 vy t3 ly p3 => ?_) p2⟩
  have r3 := r2.mono t3.le t3.pre
  cases es : setSub h3 x y d with
  | none => rw [es] at p3; exact p3.elim
  | some h4 =>
    rw [es] at p3
    rcases setSub_ok t3.sim es (lx.mono t3.le t3.pre) ly ((lv.mono t2.le t2.pre).mono t3.le t3.pre) with ⟨p, xs, k, j, e1, e2, e3, e4, t4⟩ | ⟨a, H', e1, e2, t4⟩
    · exact .inl ⟨p, xs, k, j, e1, e2, e3, e4, PostS.nxt t4.sim (r3.mono t4.le t4.pre) (PostS.after t3.sim t4 p3)⟩
    · exact .inr ⟨a, H', e1, e2, PostS.nxt t4.sim (r3.mono t4.le t4.pre) (PostS.after t3.sim t4 p3)⟩
end
end Pm

set_option linter.all false
set_option maxRecDepth 100000
set_option maxHeartbeats 1000000
namespace Pm
open PySem PySem.Spec L2
section
variable {X : Cx} {W : Wd} {Wx : WX} {S S1 H H1 : Hp} {α α1 : List Addr} {h h1 : Hm} {T : Ends} {pr : Pr} {φ : Nat → List D → Hm → Rs D}
/-! ### several names -/
theorem stores_ok : ∀ {is : List Nat} {ds : List D} {vs : List V} {e e2 : Ev} {σ : St}, stores is ds e = some e2 → REv W S α e σ → Rls W S α ds vs → is.length = vs.length ∧ REv W S α e2 ((is.zip vs).foldl (fun s p => s.set p.1 (some p.2)) σ)
  | [], [], vs, e, e2, σ, q, r, ls => by
    simp only [stores, Option.some.injEq] at q
    subst q
    obtain rfl := rls_nil ls
    exact ⟨rfl, r⟩
  | i :: is, d :: ds, vs, e, e2, σ, q, r, ls => by
    simp only [stores] at q
    simp only [Rls] at ls
    obtain ⟨v, t, e1, l1, l2⟩ := ls
    subst e1
    obtain ⟨a, b⟩ := stores_ok q (r.put i l1) l2
    exact ⟨by simp [a], b⟩
  | [], _ :: _, _, _, _, _, q, _, _ => by simp [stores] at q
  | _ :: _, [], _, _, _, _, q, _, _ => by simp [stores] at q
theorem s_par2 {i j : Nat} {x y : Str} {a b : Expr} {cs : Es} {px py pt pos : Pos} {kt k2 : Nat} {pt2 : Pos} (hc : X.calm = true) (hN : X.N.Nodup) (hi : X.N[i]? = some x) (hj : X.N[j]? = some y) (hij : i ≠ j)
    (hx : X.env.scope.names.lookup x = some .local) (hy : X.env.scope.names.lookup y = some .local) (ha : PA X [a, b] (tL W Wx (evEs pr φ cs)))
    (hw : swappedStores [.Tuple [.Name x px, .Name y py] kt pt] (.Tuple [a, b] k2 pt2) X.env = pure (some [x, y])) (hs : swapsWithSole [.Tuple [.Name x px, .Name y py] kt pt] (.Tuple [a, b] k2 pt2) pos.line X.env = pure false) :
    PS X (.Assign [.Tuple [.Name x px, .Name y py] kt pt] (.Tuple [a, b] k2 pt2) pos) (tS W Wx (exS pr φ (.par [i, j] cs))) := (ps_par hc hN hi hj hij hx hy ha hw hs).weak fun T σ H p => by
  simp only [exS] at p
  refine tG.out (R := Rls) (f := fun e ds h => outOf (stores [i, j] ds e) h) (fun e ds h1 S1 α1 H1 vs s1 r1 ls p1 => ?_) p
  cases q : stores [i, j] ds e with
  | none => rw [q] at p1; exact p1.elim
  | some e2 =>
    rw [q] at p1
    obtain ⟨l, r2⟩ := stores_ok q r1 ls
    match vs, l, r2 with
    | [v, w], _, r2 => exact ⟨v, w, rfl, PostS.nxt s1 r2 p1⟩
theorem s_par3 {i j l : Nat} {x y z : Str} {a b c : Expr} {cs : Es} {px py pz pt pos : Pos} {kt k2 : Nat} {pt2 : Pos} (hc : X.calm = true) (hN : X.N.Nodup) (hi : X.N[i]? = some x) (hj : X.N[j]? = some y) (hl : X.N[l]? = some z) (hij : i ≠ j) (hil : i ≠ l) (hjl : j ≠ l)
    (hx : X.env.scope.names.lookup x = some .local) (hy : X.env.scope.names.lookup y = some .local) (hz : X.env.scope.names.lookup z = some .local) (ha : PA X [a, b, c] (tL W Wx (evEs pr φ cs)))
    (hw : swappedStores [.Tuple [.Name x px, .Name y py, .Name z pz] kt pt] (.Tuple [a, b, c] k2 pt2) X.env = pure (some [x, y, z])) (hs : swapsWithSole [.Tuple [.Name x px, .Name y py, .Name z pz] kt pt] (.Tuple [a, b, c] k2 pt2) pos.line X.env = pure false) :
    PS X (.Assign [.Tuple [.Name x px, .Name y py, .Name z pz] kt pt] (.Tuple [a, b, c] k2 pt2) pos) (tS W Wx (exS pr φ (.par [i, j, l] cs))) := (ps_par3 hc hN hi hj hl hij hil hjl hx hy hz ha hw hs).weak fun T σ H p => by
  simp only [exS] at p
  refine tG.out (R := Rls) (f := fun e ds h => outOf (stores [i, j, l] ds e) h) (fun e ds h1 S1 α1 H1 vs s1 r1 ls p1 => ?_) p
  cases q : stores [i, j, l] ds e with
  | none => rw [q] at p1; exact p1.elim
  | some e2 =>
    rw [q] at p1
    obtain ⟨l, r2⟩ := stores_ok q r1 ls
    match vs, l, r2 with
    | [v, w, u], _, r2 => exact ⟨v, w, u, rfl, PostS.nxt s1 r2 p1⟩
def tgS : Tg → List Nat
  | .v i => [i]
  | .tup is => is
/-- the same slots but those -/
def SameB (is : List Nat) (σ σ2 : St) : Prop := σ2.length = σ.length ∧ ∀ j : Nat, j ∉ is → σ2[j]? = σ[j]?
theorem sameB_fold : ∀ {is : List Nat} {vs : List V} {σ : St}, SameB is σ ((is.zip vs).foldl (fun s p => s.set p.1 (some p.2)) σ)
  | [], _, σ => ⟨rfl, fun _ _ => rfl⟩
  | _ :: _, [], σ => ⟨rfl, fun _ _ => rfl⟩
  | i :: is, v :: vs, σ => by
    obtain ⟨a, b⟩ := sameB_fold (is := is) (vs := vs) (σ := σ.set i (some v))
    refine ⟨a.trans (by simp), fun j hj => ?_⟩
    simp only [List.mem_cons, not_or] at hj
    refine (b j hj.2).trans ?_
    rw [List.getElem?_set_ne (Ne.symm hj.1)]
/-- what a store into the target reads -/
def tGm (W : Wd) (tg : Tg) : TG := fun v σ H Q => ∃ S α h e d, Sim W S α h H ∧ REv W S α e σ ∧ Rl W S α d v ∧ ∃ e2, storeT tg d e = some e2 ∧ ∀ σ2, REv W S α e2 σ2 → SameB (tgS tg) σ σ2 → Q σ2 H
/-- the names' slots -/
inductive NamesAt (X : Cx) : List Expr → List Nat → Prop where
  | nil : NamesAt X [] []
  | cons {x : Str} {p : Pos} {i : Nat} {es : List Expr} {is : List Nat} (hi : X.N[i]? = some x) (hx : Loc X.env.scope x) (hf : X.fn x = true ∨ X.env.scope.names.lookup x = some .local) (r : NamesAt X es is) : NamesAt X (.Name x p :: es) (i :: is)
def gStores : List Nat → TGs
  | [] => gNil
  | i :: is => gCons (gName i) (gStores is)
theorem pgs_names (hN : X.N.Nodup) : ∀ {es : List Expr} {is : List Nat}, NamesAt X es is → PGs X es (gStores is) ∧ (assignEach es X.env).length = is.length ∧ (assignEach es X.env).findIdx? (·.1) = none
  | [], [], _ => ⟨pgs_nil, rfl, rfl⟩
  | .Name x p :: es, i :: is, .cons hi hx hf r => by
    obtain ⟨a, b, c⟩ := pgs_names hN r
    refine ⟨pgs_cons (pg_name hN hi hx hf) a rfl, ?_, ?_⟩
    · show (assignEach es X.env).length + 1 = _
      rw [b]; rfl
    · show (List.findIdx? (·.1) ((false, _) :: assignEach es X.env)) = none
      rw [List.findIdx?_cons, c]; rfl
theorem gStores_ok : ∀ {is : List Nat} {vs : List V} {σ : St} {H : Hp} {Q : St → Hp → Prop}, is.length = vs.length → Q ((is.zip vs).foldl (fun s p => s.set p.1 (some p.2)) σ) H → gStores is vs σ H Q
  | [], [], σ, H, Q, _, q => ⟨rfl, q⟩
  | i :: is, v :: vs, σ, H, Q, l, q => ⟨v, vs, rfl, gStores_ok (by simpa using l) q⟩
  | [], _ :: _, _, _, _, l, _ => by simp at l
  | _ :: _, [], _, _, _, l, _ => by simp at l
theorem g_name (hN : X.N.Nodup) {i : Nat} {x : Str} {p : Pos} (hi : X.N[i]? = some x) (hx : Loc X.env.scope x) (hf : X.fn x = true ∨ X.env.scope.names.lookup x = some .local) : PG X (.Name x p) (tGm W (.v i)) := ⟨fun pins s σ H v u Q I rv ⟨S, α, h, e, d, sm, r, l, e2, q, k⟩ => by
  refine (pg_name hN hi hx hf).run pins s σ H v u Q I rv ?_
  simp only [storeT, Option.some.injEq] at q
  subst q
  exact k _ (r.put i l) ⟨by simp, fun j hj => by rw [List.getElem?_set_ne]; simpa [tgS, eq_comm] using hj⟩⟩
theorem g_tup (hK : W.K = X.K) (hc : X.calm = true) (hN : X.N.Nodup) {es : List Expr} {is : List Nat} {kk : Nat} {p : Pos} (ns : NamesAt X es is) : PG X (.Tuple es kk p) (tGm W (.tup is)) := by
  obtain ⟨a, b, c⟩ := pgs_names hN ns
  refine ⟨fun pins s σ H v u Q I rv ⟨S, α, h, e, d, sm, r, l, e2, q, k⟩ => (pg_tup hc a b c).run pins s σ H v u Q I rv ?_⟩
  cases d <;> try (simp only [storeT] at q; cases q; done)
  rename_i ds
  simp only [storeT] at q
  simp only [Rl] at l
  obtain ⟨ad, us, e1, hq, ls⟩ := l
  obtain ⟨hl, r2⟩ := stores_ok q r ls
  exact ⟨ad, us, e1, hK ▸ sqT_le sm.le hq, hl.symm, gStores_ok hl (k _ r2 sameB_fold)⟩
/-- a, b = e -/
theorem s_unp {tg : Expr} {is : List Nat} {a : Expr} {ca : E} {pos : Pos} (hg : PG X tg (tGm W (.tup is))) (ha : PE X a (tE W Wx (evE pr φ ca))) (hs : swapsWithSole [tg] a pos.line X.env = pure false) (hw : swappedStores [tg] a X.env = pure none) (h1 : (assignEach [tg] X.env).map (·.2) = [assign tg X.env]) :
    PS X (.Assign [tg] a pos) (tS W Wx (exS pr φ (.unp is ca))) := (ps_asg ha hg hs hw h1).weak fun T σ H p => by
  simp only [exS] at p
  refine tG.out (R := Rl) (f := fun e d h => outOf (storeT (.tup is) d e) h) (fun e d h1 S1 α1 H1 v s1 r1 lv p1 => ?_) p
  cases q : storeT (.tup is) d e with
  | none => rw [q] at p1; exact p1.elim
  | some e2 =>
    rw [q] at p1
    exact ⟨S1, α1, h1, e, d, s1, r1, lv, e2, q, fun σ2 r2 _ => PostS.nxt s1 r2 p1⟩
/-! ### while -/
theorem s_while {c : Expr} {b : List Stmt} {cc : E} {cb : List Pm.S} {pos : Pos} (hp : PassesOwn (model X.prog X.w) X.A X.env X.xe) (hc : PT X c (tT W Wx (evE pr φ cc))) (hb : PSs X b (tS W Wx (exB pr φ cb))) : PS X (.While c b [] pos) (tS W Wx (exS pr φ (.while cc cb))) :=
  (ps_while hp hc hb).weak fun T σ H ⟨S, α, h, e, s, r, p⟩ => by
    simp only [exS] at p
    refine ⟨fun m σ H => ∃ S α h e, Sim W S α h H ∧ REv W S α e σ ∧ PostS W S α H (whileGo (fun e h => evE pr φ cc e h) (fun e h => exB pr φ cb e h) m e h) T Wx, ⟨WF, S, α, h, e, s, r, p⟩, ?_⟩
    intro m σ H ⟨S, α, h, e, s, r, p⟩
    cases m with
    | zero => exact p.elim
    | succ m =>
      simp only [whileGo] at p
      refine ⟨S, α, h, e, s, r, ?_⟩
      unfold truR
      cases q : evE pr φ cc e h with
      | bad => rw [q] at p; exact p
      | exc c fs vs h1 => rw [q] at p; exact fun S' α' H' C dd u x => p S' α' H' C dd σ u (r.mono u.le u.pre) x
      | ok d h1 =>
        rw [q] at p
        simp only [Rs.out] at p
        simp only [Rs.bind]
        cases q2 : truth h1 d with
        | none => rw [q2] at p; exact p
        | some b =>
          rw [q2] at p
          intro S1 α1 H1 b' t hb'
          obtain rfl : b = b' := hb'
          have r1 := r.mono t.le t.pre
          have p1 := PostS.after s t p
          cases b with
          | false => exact PostS.nxt t.sim r1 p1
          | true =>
            refine ⟨_, fun σ' H' n => ⟨m, Nat.lt_succ_self m, n⟩, S1, α1, h1, e, t.sim, r1, ?_⟩
            cases q3 : exB pr φ cb e h1 with
            | bad => rw [q3] at p1; exact p1
            | nx e2 h2 => rw [q3] at p1; exact fun S2 α2 H2 σ2 t2 r2 => ⟨S2, α2, h2, e2, t2.sim, r2, PostS.after t.sim t2 p1⟩
            | ct e2 h2 => rw [q3] at p1; exact fun S2 α2 H2 σ2 t2 r2 => ⟨S2, α2, h2, e2, t2.sim, r2, PostS.after t.sim t2 p1⟩
            | bk e2 h2 => rw [q3] at p1; exact p1
            | rt d2 h2 => rw [q3] at p1; exact p1
            | exc c2 fs2 vs2 e2 h2 => rw [q3] at p1; exact p1
end
end Pm

set_option linter.all false
set_option maxRecDepth 100000
set_option maxHeartbeats 1000000
namespace Pm
open PySem PySem.Spec L2
mutual
theorem beqD_eq : ∀ (a b : D), beqD a b = true → a = b
  | .un, b, h => by cases b <;> simp [beqD] at h ⊢
  | .non, b, h => by cases b <;> simp [beqD] at h ⊢
  | .bl _, b, h => by cases b <;> simp [beqD] at h ⊢; exact h
  | .int _, b, h => by cases b <;> simp [beqD] at h ⊢; exact h
  | .str _, b, h => by cases b <;> simp [beqD] at h ⊢; exact h
  | .tup xs, b, h => by cases b <;> simp [beqD] at h ⊢; exact beqDs_eq _ _ h
  | .lst xs, b, h => by cases b <;> simp [beqD] at h ⊢; exact beqDs_eq _ _ h
  | .dic ks xs, b, h => by cases b <;> simp [beqD] at h ⊢; exact ⟨h.1, beqDs_eq _ _ h.2⟩
  | .obj c fs xs, b, h => by cases b <;> simp [beqD] at h ⊢; exact ⟨h.1.1, h.1.2, beqDs_eq _ _ h.2⟩
  | .xcp c fs xs, b, h => by cases b <;> simp [beqD] at h ⊢; exact ⟨h.1.1, h.1.2, beqDs_eq _ _ h.2⟩
  | .ref _, b, h => by cases b <;> simp [beqD] at h ⊢; exact h
  | .cls _, b, h => by cases b <;> simp [beqD] at h ⊢; exact h
  | .scr _, b, h => by cases b <;> simp [beqD] at h ⊢; exact h
theorem beqDs_eq : ∀ (a b : List D), beqDs a b = true → a = b
  | [], b, h => by cases b <;> simp [beqDs] at h ⊢
  | x :: xs, b, h => by
    cases b <;> simp [beqDs] at h ⊢
    exact ⟨beqD_eq _ _ h.1, beqDs_eq _ _ h.2⟩
end
/-- the walk by the machine and the walk on the heap -/
def RW (W : Wd) (S : Hp) (α : List Addr) (w : Wk) (J : It) : Prop := ∀ S' α' h' H', Sim W S' α' h' H' → Le S S' → Pre α α' → w.ok h' = true →
  (∀ (i : Nat) d, w.its[i]? = some d → J.go i H' ∧ ∀ x H2, J.yld i H' x H2 → ∃ S2, Step W S' α' H' S2 α' h' H2 ∧ Rl W S2 α' d x) ∧ J.stop w.its.length H'
section
variable {X : Cx} {W : Wd} {Wx : WX} {S S1 H H1 : Hp} {α α1 : List Addr} {h h1 : Hm} {T : Ends} {pr : Pr} {φ : Nat → List D → Hm → Rs D} {tg : Expr}
abbrev tI (W : Wd) (Wx : WX) (run : Ev → Hm → Rs Wk) : TI := tG RW W Wx run
theorem _root_.L2.PI.weak {e : Expr} {t t' : TI} (h : PI X tg e t) (k : ∀ σ H R, t' σ H R → t σ H R) : PI X tg e t' := ⟨fun pins s σ H R I q => h.run pins s σ H R I (k σ H R q)⟩
theorem _root_.L2.PI.or {e : Expr} {t t' : TI} (a : PI X tg e t) (b : PI X tg e t') : PI X tg e (fun σ H R => t σ H R ∨ t' σ H R) := ⟨fun pins s σ H R I q => q.elim (a.run pins s σ H R I) (b.run pins s σ H R I)⟩
/-- a list to walk, as it stands at each turn -/
theorem lwalk_ok {d : D} {xs : List D} {q : List (Nat × List D)} {v : V} (s : Sim W S α h H) (e : lwalk h d = some (xs, q)) (l : Rl W S α d v) :
    ∃ a, v = .ref a ∧ (∃ us, H a = some (.lst us)) ∧ ∀ S' α' h' H', Sim W S' α' h' H' → Le S S' → Pre α α' → q.all (srcOk h') = true → ∃ us, H' a = some (.lst us) ∧ Rls W S' α' xs us := by
  cases d <;> try (simp only [lwalk] at e; cases e; done)
  · simp only [lwalk, Option.some.injEq, Prod.mk.injEq] at e
    obtain ⟨rfl, rfl⟩ := e
    simp only [Rl] at l
    obtain ⟨a, us, rfl, hq, r⟩ := l
    exact ⟨a, rfl, ⟨us, s.le _ _ hq⟩, fun S' α' h' H' s' le pre _ => ⟨us, s'.le _ _ (le _ _ hq), r.mono le pre⟩⟩
  · rename_i n
    simp only [Rl] at l
    obtain ⟨a, rfl, ha⟩ := l
    obtain ⟨c, hc, _, o, ho, rc⟩ := s.at ha
    simp only [lwalk, hc] at e
    cases c with
    | lst ys =>
      simp only [Option.some.injEq, Prod.mk.injEq] at e
      obtain ⟨rfl, rfl⟩ := e
      obtain ⟨us, rfl, r⟩ := rc
      refine ⟨a, rfl, ⟨us, ho⟩, fun S' α' h' H' s' le pre k => ?_⟩
      obtain ⟨c', hc', _, o', ho', rc'⟩ := s'.at (pre _ _ ha)
      simp only [List.all_cons, List.all_nil, Bool.and_true, srcOk, hc'] at k
      cases c' with
      | lst zs =>
        simp only at k
        obtain rfl := beqDs_eq _ _ k
        obtain ⟨us', rfl, r'⟩ := rc'
        exact ⟨us', ho', r'⟩
      | _ => simp at k
    | _ => simp at e
theorem rw_list {d : D} {xs : List D} {q : List (Nat × List D)} {v : V} (hK : W.K = X.K) (s : Sim W S α h H) (e : lwalk h d = some (xs, q)) (l : Rl W S α d v) : ∃ a, v = .ref a ∧ (∃ us, SqL X.K H a us) ∧ RW W S α ⟨xs, q⟩ (Itl X.K a) := by
  obtain ⟨a, rfl, ⟨us, hu⟩, k⟩ := lwalk_ok s e l
  refine ⟨a, rfl, ⟨us, .of hu⟩, fun S' α' h' H' s' le pre ok => ?_⟩
  obtain ⟨ws, hw, r⟩ := k S' α' h' H' s' le pre ok
  refine ⟨fun i d hd => ?_, ws, .of hw, by rw [← r.length]; exact Nat.le_refl _⟩
  obtain ⟨x, hx, lx⟩ := r.get hd
  refine ⟨⟨ws, x, .of hw, hx⟩, fun y H2 hy => ?_⟩
  obtain ⟨rfl, hy2⟩ := hy
  have := hy2 ws (.of hw)
  rw [hx] at this; cases this
  exact ⟨S', .refl s', lx⟩
theorem rw_tup {xs : List D} {v : V} (hK : W.K = X.K) (s : Sim W S α h H) (l : Rl W S α (.tup xs) v) : ∃ a, v = .ref a ∧ (∃ us, SqT X.K H a us) ∧ RW W S α ⟨xs, []⟩ (Itt X.K a) := by
  simp only [Rl] at l
  obtain ⟨a, us, rfl, hq, r⟩ := l
  refine ⟨a, rfl, ⟨us, hK ▸ sqT_le s.le hq⟩, fun S' α' h' H' s' le pre ok => ?_⟩
  have hq' : SqT X.K H' a us := hK ▸ sqT_le s'.le (sqT_le le hq)
  refine ⟨fun i d hd => ?_, us, hq', by rw [← r.length]; exact Nat.le_refl _⟩
  obtain ⟨x, hx, lx⟩ := r.get hd
  refine ⟨⟨us, x, hq', hx⟩, fun y H2 hy => ?_⟩
  obtain ⟨rfl, hy2⟩ := hy
  have := hy2 us hq'
  rw [hx] at this; cases this
  exact ⟨S', .refl s', lx.mono le pre⟩
theorem rw_str {z : Str} (s : Sim W S α h H) : RW W S α ⟨signs z, []⟩ (Its z) := by
  intro S' α' h' H' s' le pre ok
  refine ⟨fun i d hd => ?_, by simp [signs, Its]⟩
  simp only [signs, List.getElem?_map, Array.getElem?_toList] at hd
  cases hc : z.cps[i]? with
  | none => rw [hc] at hd; cases hd
  | some c =>
    rw [hc] at hd
    simp only [Option.map_some, Option.some.injEq] at hd
    subst hd
    refine ⟨(Array.getElem?_eq_some_iff.mp hc).1, fun y H2 hy => ?_⟩
    obtain ⟨rfl, c', hc', rfl⟩ := hy
    rw [hc] at hc'; cases hc'
    exact ⟨S', .refl s', by simp only [Rl]⟩
theorem rw_range {i j : Int} (s : Sim W S α h H) : RW W S α ⟨rangeD i j, []⟩ (Itr i (j - i).toNat) := by
  intro S' α' h' H' s' le pre ok
  refine ⟨fun n d hd => ?_, by simp only [rangeD, Itr, List.length_map, List.length_range]; exact Nat.le_refl _⟩
  simp only [rangeD, List.getElem?_map] at hd
  cases hc : (List.range (j - i).toNat)[n]? with
  | none => rw [hc] at hd; cases hd
  | some c =>
    rw [hc] at hd
    simp only [Option.map_some, Option.some.injEq] at hd
    subst hd
    have h1 := (List.getElem?_eq_some_iff.mp hc)
    obtain ⟨h1, h2⟩ := h1
    rw [List.length_range] at h1
    simp at h2
    refine ⟨h1, fun y H2 hy => ?_⟩
    obtain ⟨rfl, rfl⟩ := hy
    refine ⟨S', .refl s', ?_⟩
    rw [← h2]
    simp only [Rl]
/-- a list, a tuple, a text -/
theorem i_ex (hK : W.K = X.K) {a : Expr} {ca : E} (ha : PE X a (tE W Wx (evE pr φ ca))) : PI X tg a (tI W Wx (evI pr φ (.ex ca))) := (((pi_list ha).or (pi_tup ha)).or (pi_str ha)).weak fun σ H R ⟨S, α, h, e, s, r, p⟩ => by
  simp only [evI] at p
  -- what comes decides the kind
  cases q : evE pr φ ca e h with
  | bad => rw [q] at p; exact p.elim
  | exc c fs vs h1 =>
    rw [q] at p
    refine .inl (.inl ⟨S, α, h, e, s, r, ?_⟩)
    rw [q]; exact p
  | ok x h1 =>
    rw [q] at p
    simp only [Rs.bind] at p
    have lst : ∀ xs w, lwalk h1 x = some (xs, w) → PostG (RW W) W S α H (.ok ⟨xs, w⟩ h1) R (fun C dd H' => Wx C dd σ H') → iList X.K (tE W Wx (evE pr φ ca)) σ H R := by
      intro xs w e1 p1
      refine ⟨S, α, h, e, s, r, ?_⟩
      rw [q]
      intro S1 α1 H1 v t l
      obtain ⟨a, rfl, hu, k⟩ := rw_list hK t.sim e1 l
      exact ⟨a, rfl, hu, p1 S1 α1 H1 _ t k⟩
    have other : ∀ o : Option (List D × List (Nat × List D)), lwalk h1 x = o → PostG (RW W) W S α H (match o with | some (xs, q) => (Rs.ok (⟨xs, q⟩ : Wk) h1) | none => .bad) R (fun C dd H' => Wx C dd σ H') → iList X.K (tE W Wx (evE pr φ ca)) σ H R := by
      intro o e1 p1
      cases o with
      | none => exact p1.elim
      | some z => exact lst z.1 z.2 e1 p1
    cases x with
    | tup xs =>
      refine .inl (.inr ⟨S, α, h, e, s, r, ?_⟩)
      rw [q]
      intro S1 α1 H1 v t l
      obtain ⟨a, rfl, hu, k⟩ := rw_tup hK t.sim l
      exact ⟨a, rfl, hu, p S1 α1 H1 _ t k⟩
    | str z =>
      refine .inr ⟨S, α, h, e, s, r, ?_⟩
      rw [q]
      intro S1 α1 H1 v t l
      obtain rfl := rl_str l
      exact ⟨z, rfl, p S1 α1 H1 _ t (rw_str t.sim)⟩
    | un => exact .inl (.inl (other _ rfl p))
    | non => exact .inl (.inl (other _ rfl p))
    | bl _ => exact .inl (.inl (other _ rfl p))
    | int _ => exact .inl (.inl (other _ rfl p))
    | lst _ => exact .inl (.inl (other _ rfl p))
    | dic _ _ => exact .inl (.inl (other _ rfl p))
    | obj _ _ _ => exact .inl (.inl (other _ rfl p))
    | ref _ => exact .inl (.inl (other _ rfl p))
    | cls _ => exact .inl (.inl (other _ rfl p))
    | scr _ => exact .inl (.inl (other _ rfl p))
    | xcp _ _ _ => exact .inl (.inl (other _ rfl p))
theorem w62 : W62 = 2 ^ 62 := by decide
theorem walkR_1 {ds : List D} {w : Wk} {h2 : Hm} (e : walkR h ds = .ok w h2) : h2 = h ∧ ((∃ j, ds = [.int j] ∧ -W62 ≤ j ∧ j < W62 ∧ w = ⟨rangeD 0 j, []⟩) ∨ ∃ i j, ds = [.int i, .int j] ∧ (-W62 ≤ i ∧ i < W62 ∧ -W62 ≤ j ∧ j < W62) ∧ w = ⟨rangeD i j, []⟩) := by
  unfold walkR at e
  split at e
  · split at e
    · rename_i hz
      cases e
      exact ⟨rfl, .inl ⟨_, rfl, hz.1, hz.2, rfl⟩⟩
    · cases e
  · split at e
    · rename_i hz
      cases e
      exact ⟨rfl, .inr ⟨_, _, rfl, hz, rfl⟩⟩
    · cases e
  · cases e
theorem walkR_quiet (ds : List D) : Quiet (walkR h ds) := by
  unfold walkR
  split <;> (try split) <;> exact trivial
/-- range(..) -/
theorem i_range1 {a : Expr} {cs : Es} {p pos : Pos} {x : Str} (hx : x = "range") (hg : Gl X x) (hm : X.mg x = none) (ha : PA X [a] (tL W Wx (evEs pr φ cs))) (hn : cs.cnt = some 1) (hs : starEach [a] X.env = [(false, eval a X.env)]) :
    PI X tg (.Call (.Name x p) [a] [] pos) (tI W Wx (evI pr φ (.range cs))) := by
  subst hx
  refine (pi_range1 hg hm ha hs).weak fun σ H R ⟨S, α, h, e, s, r, p⟩ => ?_
  simp only [evI] at p
  refine ⟨S, α, h, e, s, r, ?_⟩
  cases q : evEs pr φ cs e h with
  | bad => rw [q] at p; exact p.elim
  | exc c fs vs h1 => rw [q] at p; exact p
  | ok ds h1 =>
    rw [q] at p
    simp only [Rs.bind] at p
    intro S1 α1 H1 vs t ls
    cases q2 : walkR h1 ds with
    | bad => rw [q2] at p; exact p.elim
    | exc c fs vs h2 => have := walkR_quiet (h := h1) ds; rw [q2] at this; exact this.elim
    | ok w h2 =>
      rw [q2] at p
      obtain ⟨rfl, ⟨j, rfl, h3, h4, rfl⟩ | ⟨i, j, rfl, _⟩⟩ := walkR_1 q2
      · obtain ⟨v, rfl, l⟩ := rls_one ls
        obtain rfl := rl_int l
        rw [w62] at h3 h4
        refine ⟨j, rfl, h3, h4, p S1 α1 H1 _ t ?_⟩
        have := rw_range (i := 0) (j := j) t.sim
        simpa using this
      · have := cnt_len hn q
        simp at this
theorem i_range2 {a b : Expr} {cs : Es} {p pos : Pos} {x : Str} (hx : x = "range") (hg : Gl X x) (hm : X.mg x = none) (ha : PA X [a, b] (tL W Wx (evEs pr φ cs))) (hn : cs.cnt = some 2) (hs : starEach [a, b] X.env = [(false, eval a X.env), (false, eval b X.env)]) (hs2 : starEach [b] X.env = [(false, eval b X.env)]) :
    PI X tg (.Call (.Name x p) [a, b] [] pos) (tI W Wx (evI pr φ (.range cs))) := by
  subst hx
  refine (pi_range2 hg hm ha hs hs2).weak fun σ H R ⟨S, α, h, e, s, r, p⟩ => ?_
  simp only [evI] at p
  refine ⟨S, α, h, e, s, r, ?_⟩
  cases q : evEs pr φ cs e h with
  | bad => rw [q] at p; exact p.elim
  | exc c fs vs h1 => rw [q] at p; exact p
  | ok ds h1 =>
    rw [q] at p
    simp only [Rs.bind] at p
    intro S1 α1 H1 vs t ls
    cases q2 : walkR h1 ds with
    | bad => rw [q2] at p; exact p.elim
    | exc c fs vs h2 => have := walkR_quiet (h := h1) ds; rw [q2] at this; exact this.elim
    | ok w h2 =>
      rw [q2] at p
      obtain ⟨rfl, ⟨j, rfl, h3, h4, rfl⟩ | ⟨i, j, rfl, h3, rfl⟩⟩ := walkR_1 q2
      · have := cnt_len hn q
        simp at this
      · obtain ⟨v, v', rfl, l, l'⟩ := rls_two ls
        obtain rfl := rl_int l
        obtain rfl := rl_int l'
        rw [w62] at h3
        exact ⟨i, j, rfl, h3, p S1 α1 H1 _ t (rw_range t.sim)⟩
/-! ### for -/
theorem s_for {iter : Expr} {body : List Stmt} {ci : I} {ct : Tg} {cb : List Pm.S} {pos : Pos} (hp : PassesOwn (model X.prog X.w) X.A X.env X.xe) (hc : X.calm = true) (hi : PI X tg iter (tI W Wx (evI pr φ ci))) (hg : PG X tg (tGm W ct)) (hb : PSs X body (tS W Wx (exB pr φ cb)))
    (hs : ∀ x, foldedSetIterable iter X.env x = pure x) : PS X (.For tg iter body [] pos) (tS W Wx (exS pr φ (.for ct ci cb))) := (ps_for hp hc hi hg hb hs).weak fun T σ H p => by
  simp only [exS] at p
  refine tG.out (R := RW) (f := fun e w h => forGo (fun x e h => match storeT ct x e with | some e => exB pr φ cb e h | none => .bad) w w.its e h) (fun e w h1 S1 α1 H1 J s1 r1 rw1 p1 => ?_) p
  refine ⟨fun i m σ H => i + m = w.its.length ∧ ∃ S α h e, Sim W S α h H ∧ Le S1 S ∧ Pre α1 α ∧ REv W S α e σ ∧ PostS W S α H (forGo (fun x e h => match storeT ct x e with | some e => exB pr φ cb e h | none => .bad) w (w.its.drop i) e h) T Wx,
    ⟨w.its.length, by simp, S1, α1, h1, e, s1, .refl, .refl, r1, by simpa using p1⟩, ?_⟩
  rintro i m σ H ⟨him, S, α, h, e, s, le, pre, r, p⟩
  have hok : w.ok h = true := by
    cases ok : w.ok h with
    | true => rfl
    | false =>
      exfalso
      cases hd : w.its.drop i with
      | nil => rw [hd] at p; simp only [forGo, ok] at p; exact p
      | cons _ _ => rw [hd] at p; simp only [forGo, ok] at p; exact p
  obtain ⟨k1, k2⟩ := rw1 S α h H s le pre hok
  cases m with
  | zero =>
    have hi : i = w.its.length := by omega
    subst hi
    rw [List.drop_length] at p
    simp only [forGo, hok, if_true] at p
    exact .inl ⟨k2, PostS.nxt s r p⟩
  | succ m =>
    have hlt : i < w.its.length := by omega
    rw [List.drop_eq_getElem_cons hlt] at p
    simp only [forGo, hok, if_true] at p
    obtain ⟨g1, g2⟩ := k1 i _ (List.getElem?_eq_getElem hlt)
    refine .inr ⟨g1, fun σ' H' => (i + 1) + m = w.its.length ∧ ∃ S α h e, Sim W S α h H' ∧ Le S1 S ∧ Pre α1 α ∧ REv W S α e σ' ∧ PostS W S α H' (forGo (fun x e h => match storeT ct x e with | some e => exB pr φ cb e h | none => .bad) w (w.its.drop (i + 1)) e h) T Wx,
      fun σ' H' n => ⟨m, Nat.lt_succ_self m, n⟩, fun x H2 hy => ?_⟩
    obtain ⟨S2, t2, lx⟩ := g2 x H2 hy
    have p2 := PostS.after s t2 p
    cases es : storeT ct w.its[i] e with
    | none => rw [es] at p2; exact p2.elim
    | some e2 =>
      rw [es] at p2
      refine ⟨S2, α, h, e, w.its[i], t2.sim, r.mono t2.le t2.pre, lx, e2, es, fun σ2 r2 _ => ?_⟩
      refine ⟨S2, α, h, e2, t2.sim, r2, ?_⟩
      simp only at p2
      cases q3 : exB pr φ cb e2 h with
      | bad => rw [q3] at p2; exact p2
      | nx e3 h3 => rw [q3] at p2; exact fun S3 α3 H3 σ3 t3 r3 => ⟨by omega, S3, α3, h3, e3, t3.sim, le.trans (t2.le.trans t3.le), pre.trans t3.pre, r3, PostS.after t2.sim t3 p2⟩
      | ct e3 h3 => rw [q3] at p2; exact fun S3 α3 H3 σ3 t3 r3 => ⟨by omega, S3, α3, h3, e3, t3.sim, le.trans (t2.le.trans t3.le), pre.trans t3.pre, r3, PostS.after t2.sim t3 p2⟩
      | bk e3 h3 => rw [q3] at p2; exact p2
      | rt d3 h3 => rw [q3] at p2; exact p2
      | exc c2 fs2 vs2 e3 h3 => rw [q3] at p2; exact p2
end
end Pm

set_option linter.all false
set_option maxRecDepth 100000
set_option maxHeartbeats 1000000
namespace Pm
open PySem PySem.Spec L2
abbrev WF0 : WX := fun _ _ _ _ => False
section
variable {X : Cx} {W : Wd} {Wx : WX} {S S1 H H1 : Hp} {α α1 : List Addr} {h h1 : Hm} {T : Ends} {pr : Pr} {φ : Nat → List D → Hm → Rs D} {tg : Expr}
theorem wipe_get (σ : St) : ∀ (vs : List Nat) (j : Nat), (wipe σ vs)[j]? = if j ∈ vs ∧ j < σ.length then some none else σ[j]?
  | [], j => by simp [wipe]
  | v :: vs, j => by
    simp only [wipe]
    by_cases e : j = v
    · subst e
      by_cases hl : j < σ.length
      · rw [List.getElem?_set_self (by rw [wipe_length]; exact hl)]
        simp [hl]
      · rw [List.getElem?_eq_none (by simp [wipe_length]; omega)]
        simp [hl]
    · rw [List.getElem?_set_ne (Ne.symm e), wipe_get σ vs j]
      simp [e]
theorem wipeE_get (e : Ev) : ∀ (vs : List Nat) (j : Nat), (wipeE vs e)[j]? = if j ∈ vs ∧ j < e.length then some .un else e[j]?
  | [], j => by simp [wipeE]
  | v :: vs, j => by
    have hl : (wipeE vs e).length = e.length := by
      unfold wipeE
      induction vs with
      | nil => rfl
      | cons a r ih => simp [ih]
    have : wipeE (v :: vs) e = (wipeE vs e).set v .un := rfl
    rw [this]
    by_cases q : j = v
    · subst q
      by_cases hj : j < e.length
      · rw [List.getElem?_set_self (by rw [hl]; exact hj)]
        simp [hj]
      · rw [List.getElem?_eq_none (by simp [hl]; omega)]
        simp [hj]
    · rw [List.getElem?_set_ne (Ne.symm q), wipeE_get e vs j]
      simp [q]
theorem wipeE_length (e : Ev) (vs : List Nat) : (wipeE vs e).length = e.length := by
  unfold wipeE
  induction vs with
  | nil => rfl
  | cons a r ih => simp [ih]
theorem REv.wipe {e : Ev} {σ : St} (r : REv W S α e σ) (vs : List Nat) : REv W S α (wipeE vs e) (L2.wipe σ vs) := by
  refine ⟨by rw [wipeE_length, wipe_length]; exact r.1, fun j d hd n => ?_⟩
  rw [wipeE_get] at hd
  split at hd
  · cases hd; exact absurd rfl n
  · rename_i hc
    obtain ⟨v, a, b⟩ := r.2 j d hd n
    refine ⟨v, ?_, b⟩
    rw [wipe_get, if_neg]
    · exact a
    · rw [← r.1]; exact hc
theorem wipe_same {σ σ2 : St} {is vs : List Nat} (hs : ∀ i ∈ is, i ∈ vs) (q : SameB is (wipe σ vs) σ2) : wipe σ2 vs = wipe σ vs := by
  refine List.ext_getElem? fun j => ?_
  rw [wipe_get, wipe_get]
  have hl : σ2.length = σ.length := q.1.trans (wipe_length σ vs)
  rw [hl]
  by_cases hc : j ∈ vs ∧ j < σ.length
  · rw [if_pos hc, if_pos hc]
  · rw [if_neg hc, if_neg hc]
    by_cases hj : j < σ.length
    · have : j ∉ vs := fun m => hc ⟨m, hj⟩
      rw [q.2 j (fun m => this (hs j m)), wipe_get, if_neg hc]
    · rw [List.getElem?_eq_none (by rw [hl]; omega), List.getElem?_eq_none (by omega)]
/-- an object that the machine does not see is written -/
theorem Sim.blind (s : Sim W S α h H) {p : Addr} {o : HO} (n : S p = none) (m : p ∉ α) : Sim W S α h (upd H p o) := by
  refine ⟨fun a z q => ?_, s.len, s.nd, fun i c a hc ha => ?_⟩
  · rw [upd_ne fun e => by subst e; rw [n] at q; cases q]
    exact s.le a z q
  · obtain ⟨q, z, k, r⟩ := s.cell i c a hc ha
    exact ⟨q, z, by rw [upd_ne fun e => m (by subst e; exact List.mem_iff_getElem?.mpr ⟨i, ha⟩)]; exact k, r⟩
/-- the machine and a list that it does not see -/
structure Hid (W : Wd) (S1 : Hp) (α1 : List Addr) (H1 : Hp) (D : Addr) (S : Hp) (α : List Addr) (h : Hm) (acc : List Pm.D) (us : List V) (H : Hp) : Prop where
  t : Step W S1 α1 H1 S α h H
  at_ : H D = some (.lst us)
  na : D ∉ α
  ns : S D = none
  ls : Rls W S α acc us
variable {D : Addr} {acc : List Pm.D} {us : List V}
theorem Hid.step {S2 H2 : Hp} {α2 : List Addr} {h2 : Hm} (s : Sim W S1 α1 h1 H1) (k : Hid W S1 α1 H1 D S α h acc us H) (u : Step W S α H S2 α2 h2 H2) : Hid W S1 α1 H1 D S2 α2 h2 acc us H2 := by
  refine ⟨k.t.trans s u, u.frame _ _ k.at_ k.na, fun m => ?_, ?_, k.ls.mono u.le u.pre⟩
  · have := u.freshA D m k.na
    rw [k.at_] at this; cases this
  · by_cases q : S2 D = S D
    · rw [q]; exact k.ns
    · have := u.freshS D q
      rw [k.at_] at this; cases this
theorem Hid.put {d : Pm.D} {v : V} (n : H1 D = none) (k : Hid W S1 α1 H1 D S α h acc us H) (l : Rl W S α d v) : Hid W S1 α1 H1 D S α h (acc ++ [d]) (us ++ [v]) (upd H D (.lst (us ++ [v]))) := by
  refine ⟨⟨k.t.sim.blind k.ns k.na, k.t.le, k.t.pre, fun a o e m => ?_, k.t.freshS, k.t.freshA⟩, upd_same, k.na, k.ns, k.ls.app (.one l)⟩
  rw [upd_ne fun q => by subst q; rw [n] at e; cases e]
  exact k.t.frame a o e m
theorem Hid.end_ (n : H1 D = none) (k : Hid W S1 α1 H1 D S α h acc us H) : Step W S1 α1 H1 S (α ++ [D]) (h ++ [.lst acc]) H ∧ Rl W S (α ++ [D]) (.ref h.length) (.ref D) := by
  refine ⟨⟨⟨k.t.sim.le, by simp [k.t.sim.len], ?_, fun i c a hc ha => ?_⟩, k.t.le, k.t.pre.trans .app, k.t.frame, k.t.freshS, fun a m m2 => ?_⟩, ?_⟩
  · rw [List.nodup_append]
    refine ⟨k.t.sim.nd, by simp, fun a m b m2 => ?_⟩
    simp at m2; subst m2
    exact fun e => k.na (e ▸ m)
  · by_cases hi : i < h.length
    · rw [List.getElem?_append_left hi] at hc
      rw [List.getElem?_append_left (by rw [k.t.sim.len]; exact hi)] at ha
      obtain ⟨q, z, w, r⟩ := k.t.sim.cell i c a hc ha
      exact ⟨q, z, w, r.mono .refl .app⟩
    · have hi2 : i = h.length := by
        have := (List.getElem?_eq_some_iff.mp hc).1
        simp at this; omega
      subst hi2
      have e1 : c = .lst acc := by simpa using hc.symm
      have e2 : a = D := by
        rw [← k.t.sim.len] at ha
        simpa using ha.symm
      subst e1 e2
      exact ⟨k.ns, _, k.at_, us, rfl, k.ls.mono .refl .app⟩
  · rcases List.mem_append.mp m with z | z
    · exact k.t.freshA a z m2
    · have : a = D := by simpa using z
      subst this; exact n
  · simp only [Rl]
    exact ⟨D, rfl, k.t.sim.atEnd⟩
/-- a comprehension's turn -/
def compSt (pr : Pr) (φ : Nat → List Pm.D → Hm → Rs Pm.D) (elt : E) (ct : Tg) (cond : Oe) (own : List Nat) (e : Ev) : Pm.D → Hm → Rs (Option Pm.D) := fun x h => match storeT ct x (wipeE own e) with
  | some e' => match cond with
    | .none => (evE pr φ elt e' h).bind fun d h => .ok (some d) h
    | .some c => (evE pr φ c e' h).bind fun b h => match truth h b with
      | some true => (evE pr φ elt e' h).bind fun d h => .ok (some d) h
      | some false => .ok none h
      | none => .bad
  | none => .bad
def tCond (W : Wd) (pr : Pr) (φ : Nat → List Pm.D → Hm → Rs Pm.D) : Oe → TT
  | .none => tYes
  | .some c => tT W WF0 (evE pr φ c)
/-- what the test leaves -/
theorem cond_run {cond : Oe} {elt : E} {e' : Ev} {σ2 : St} {Z : Option Pm.D → Hm → Prop} {Q : Bool → Hp → Prop} (s : Sim W S α h H) (r : REv W S α e' σ2)
    (p : ∃ o h2, (match cond with
      | .none => (evE pr φ elt e' h).bind fun d h => .ok (some d) h
      | .some c => (evE pr φ c e' h).bind fun b h => match truth h b with
        | some true => (evE pr φ elt e' h).bind fun d h => .ok (some d) h
        | some false => .ok none h
        | none => (.bad : Rs (Option Pm.D))) = .ok o h2 ∧ Z o h2)
    (k : ∀ b h1 S1 α1 H1, Step W S α H S1 α1 h1 H1 → (∃ o h2, (if b = true then (evE pr φ elt e' h1).bind fun d h => .ok (some d) h else (.ok none h1 : Rs (Option Pm.D))) = .ok o h2 ∧ Z o h2) → Q b H1) : tCond W pr φ cond σ2 H Q := by
  cases cond with
  | none => exact k true h S α H (.refl s) p
  | some c =>
    obtain ⟨o, h2, p, z⟩ := p
    refine ⟨S, α, h, e', s, r, ?_⟩
    unfold truR
    simp only at p
    cases q : evE pr φ c e' h with
    | bad => rw [q] at p; cases p
    | exc _ _ _ _ => rw [q] at p; cases p
    | ok b h1 =>
      rw [q] at p
      simp only [Rs.bind] at p ⊢
      cases q2 : truth h1 b with
      | none => rw [q2] at p; cases p
      | some b' =>
        rw [q2] at p
        intro S1 α1 H1 b2 t hb
        obtain rfl : b' = b2 := hb
        refine k b' h1 S1 α1 H1 t ⟨o, h2, ?_, z⟩
        cases b' with
        | true => exact p
        | false => exact p
theorem compGo_bad {step : Pm.D → Hm → Rs (Option Pm.D)} {w : Wk} {x : Pm.D} {r acc : List Pm.D} {Q : VK} {E : XK} (p : PostE W S1 α1 H1 ((compGo step w (x :: r) acc h).bind fun xs h => newL xs h) Q E) :
    ∃ o h2, step x h = .ok o h2 ∧ PostE W S1 α1 H1 ((match o with | some d => if acc.length < LIM then compGo step w r (acc ++ [d]) h2 else .bad | none => compGo step w r acc h2).bind fun xs h => newL xs h) Q E := by
  simp only [compGo] at p
  split at p
  · cases q : step x h with
    | bad => rw [q] at p; exact p.elim
    | exc _ _ _ _ => rw [q] at p; exact p.elim
    | ok o h2 =>
      rw [q] at p
      refine ⟨o, h2, rfl, ?_⟩
      cases o <;> exact p
  · exact p.elim
theorem comp_run {ci : I} {ct : Tg} {elt : E} {cond : Oe} {own : List Nat} (ho : ∀ i ∈ tgS ct, i ∈ own) {σ : St} {Q : VK} (p : tE W Wx (evE pr φ (.comp elt ct ci cond own)) σ H Q) :
    tLc (tI W Wx (evI pr φ ci)) (tGm W ct) (tCond W pr φ cond) (tE W WF0 (evE pr φ elt)) own σ H Q := by
  have p : tE W Wx (fun e h => (evI pr φ ci e h).bind fun w h => (compGo (compSt pr φ elt ct cond own e) w w.its [] h).bind fun xs h => newL xs h) σ H Q := by
    obtain ⟨S, α, h, e, s, r, p⟩ := p
    refine ⟨S, α, h, e, s, r, ?_⟩
    simp only [evE] at p
    exact p
  refine tG.seq (R := RW) (R' := Rl) (f := fun e w h => (compGo (compSt pr φ elt ct cond own e) w w.its [] h).bind fun xs h => newL xs h) (fun e w h1 S1 α1 H1 J s1 r1 rw1 p1 => ?_) p
  intro D nD
  have base : Hid W S1 α1 H1 D S1 α1 h1 [] [] (upd H1 D (.lst [])) := by
    refine ⟨s1.other nD, upd_same, fun m => ?_, ?_, by simp only [Rls]⟩
    · obtain ⟨_, o, q⟩ := s1.mem m
      rw [nD] at q; cases q
    · cases q : S1 D with
      | none => rfl
      | some o => rw [s1.le _ _ q] at nD; cases nD
  refine ⟨fun i m H => i + m = w.its.length ∧ ∃ S α h acc us, Hid W S1 α1 H1 D S α h acc us H ∧ PostE W S1 α1 H1 ((compGo (compSt pr φ elt ct cond own e) w (w.its.drop i) acc h).bind fun xs h => newL xs h) Q (fun C dd H' => Wx C dd σ H'),
    ⟨w.its.length, by simp, S1, α1, h1, [], [], base, by simpa using p1⟩, ?_⟩
  rintro i m H ⟨him, S, α, h, acc, us, k, p⟩
  have hok : w.ok h = true := by
    cases ok : w.ok h with
    | true => rfl
    | false =>
      exfalso
      cases hd : w.its.drop i with
      | nil => rw [hd] at p; simp only [compGo, ok] at p; exact p
      | cons _ _ => rw [hd] at p; simp only [compGo, ok] at p; exact p
  obtain ⟨k1, k2⟩ := rw1 S α h H k.t.sim k.t.le k.t.pre hok
  cases m with
  | zero =>
    have hi : i = w.its.length := by omega
    subst hi
    rw [List.drop_length] at p
    simp only [compGo, hok, if_true, Rs.bind] at p
    refine .inl ⟨k2, ?_⟩
    unfold newL at p
    split at p
    · obtain ⟨t, l⟩ := k.end_ nD
      exact p _ _ _ _ t l
    · exact p.elim
  | succ m =>
    have hlt : i < w.its.length := by omega
    rw [List.drop_eq_getElem_cons hlt] at p
    obtain ⟨g1, g2⟩ := k1 i _ (List.getElem?_eq_getElem hlt)
    obtain ⟨o, h2, e1, p1⟩ := compGo_bad p
    refine .inr ⟨g1, fun H' => (i + 1) + m = w.its.length ∧ ∃ S α h acc us, Hid W S1 α1 H1 D S α h acc us H' ∧ PostE W S1 α1 H1 ((compGo (compSt pr φ elt ct cond own e) w (w.its.drop (i + 1)) acc h).bind fun xs h => newL xs h) Q (fun C dd H' => Wx C dd σ H'),
      fun H' n => ⟨m, Nat.lt_succ_self m, n⟩, fun x H2 hy => ?_⟩
    obtain ⟨S2, t2, lx⟩ := g2 x H2 hy
    have kk := k.step s1 t2
    unfold compSt at e1
    cases es : storeT ct w.its[i] (wipeE own e) with
    | none => rw [es] at e1; cases e1
    | some e2 =>
      rw [es] at e1
      simp only at e1
      refine ⟨S2, α, h, wipeE own e, w.its[i], t2.sim, (r1.mono kk.t.le kk.t.pre).wipe own, lx, e2, es, fun σ2 r2 sb => ⟨wipe_same ho sb, ?_⟩⟩
      refine cond_run (Z := fun o h2 => PostE W S1 α1 H1 ((match o with | some d => if acc.length < LIM then compGo (compSt pr φ elt ct cond own e) w (w.its.drop (i + 1)) (acc ++ [d]) h2 else .bad | none => compGo (compSt pr φ elt ct cond own e) w (w.its.drop (i + 1)) acc h2).bind fun xs h => newL xs h) Q (fun C dd H' => Wx C dd σ H')) t2.sim r2 ⟨o, h2, e1, p1⟩ fun b h3 S3 α3 H3 t3 ⟨o, h4, e3, z⟩ => ?_
      have k3 := kk.step s1 t3
      cases b with
      | false =>
        simp only [Bool.false_eq_true, if_false, Rs.ok.injEq] at e3 ⊢
        obtain ⟨rfl, rfl⟩ := e3
        exact ⟨by omega, S3, α3, h3, acc, us, k3, z⟩
      | true =>
        simp only [if_true] at e3 ⊢
        refine ⟨S3, α3, h3, e2, t3.sim, r2.mono t3.le t3.pre, ?_⟩
        cases q : evE pr φ elt e2 h3 with
        | bad => rw [q] at e3; cases e3
        | exc _ _ _ _ => rw [q] at e3; cases e3
        | ok d h5 =>
          rw [q] at e3
          simp only [Rs.bind, Rs.ok.injEq] at e3
          obtain ⟨rfl, rfl⟩ := e3
          intro S5 α5 H5 v t5 l5
          have k5 := k3.step s1 t5
          simp only at z
          split at z
          · rename_i hz
            exact ⟨us, k5.at_, by rw [lim, ← k5.ls.length]; exact hz, by omega, S5, α5, h5, _, _, k5.put nD l5, z⟩
          · exact z.elim
theorem m_comp {elt iter : Expr} {ifs : List Expr} {scope : Scope} {own : List (Str × Nat)} {pos : Pos} {ci : I} {ct : Tg} {ce : E} {cond : Oe} (hc : X.calm = true) (hN : X.N.Nodup) (hi : PI X tg iter (tI W Wx (evI pr φ ci))) (ok : BlkOk X.N X.env.scope scope own)
    (hg : ∀ (s : Shared) (H : Hp) (C : Addr) (cl : List (Str × Addr)) (fp : List Addr), PG (X.blk s H scope (compEnvC scope cl C X.env) fp) tg (tGm W ct)) (ht : ∀ (s : Shared) (H : Hp) (C : Addr) (cl : List (Str × Addr)) (fp : List Addr), PTs (X.blk s H scope (compEnvC scope cl C X.env) fp) ifs (tCond W pr φ cond))
    (he : ∀ (s : Shared) (H : Hp) (C : Addr) (cl : List (Str × Addr)) (fp : List Addr), PE (X.blk s H scope (compEnvC scope cl C X.env) fp) elt (tE W WF0 (evE pr φ ce))) (hs : ∀ x, foldedSetIterable iter X.env x = pure x) (ho : ∀ i ∈ tgS ct, i ∈ own.map (·.2)) :
    PE X (.ListComp elt [⟨tg, iter, ifs, 0⟩] scope pos) (tE W Wx (evE pr φ (.comp ce ct ci cond (own.map (·.2))))) := (pe_lc hc hN hi ok hg ht he hs).weak fun σ H Q p => comp_run ho p
theorem s_setLc {i : Nat} {y : Str} {py : Pos} {elt iter : Expr} {ifs : List Expr} {scope : Scope} {own : List (Str × Nat)} {pos spos : Pos} {ci : I} {ct : Tg} {ce : E} {cond : Oe} (hc : X.calm = true) (hN : X.N.Nodup) (hy : X.N[i]? = some y) (hyl : X.env.scope.names.lookup y = some .local)
    (hsw : swapsWith (.ListComp elt [⟨tg, iter, ifs, 0⟩] scope pos) (some (.Name y py)) spos.line X.env = pure true) (hi : PI X tg iter (tI W Wx (evI pr φ ci))) (ok : BlkOk X.N X.env.scope scope own)
    (hg : ∀ (s : Shared) (H : Hp) (C : Addr) (cl : List (Str × Addr)) (fp : List Addr), PG (X.blk s H scope (compEnvC scope cl C X.env) fp) tg (tGm W ct)) (ht : ∀ (s : Shared) (H : Hp) (C : Addr) (cl : List (Str × Addr)) (fp : List Addr), PTs (X.blk s H scope (compEnvC scope cl C X.env) fp) ifs (tCond W pr φ cond))
    (he : ∀ (s : Shared) (H : Hp) (C : Addr) (cl : List (Str × Addr)) (fp : List Addr), PE (X.blk s H scope (compEnvC scope cl C X.env) fp) elt (tE W WF0 (evE pr φ ce))) (hs : ∀ x, foldedSetIterable iter X.env x = pure x) (ho : ∀ i ∈ tgS ct, i ∈ own.map (·.2)) :
    PS X (.Assign [.Name y py] (.ListComp elt [⟨tg, iter, ifs, 0⟩] scope pos) spos) (tS W Wx (exS pr φ (.set i (.comp ce ct ci cond (own.map (·.2)))))) := (ps_setLc hc hN hy hyl hsw hi ok hg ht he hs).weak fun T σ H p => by
  simp only [exS] at p
  refine comp_run ho ?_
  exact tG.out (R := Rl) (f := fun e d h => .nx (e.set i d) h) (fun e d h1 S1 α1 H1 v s1 r1 lv p1 => PostS.nxt s1 (r1.put i lv) p1) p
end
end Pm

set_option linter.all false
set_option maxRecDepth 100000
set_option maxHeartbeats 1000000
namespace Pm
open PySem PySem.Spec L2
/-! ### what the form of an expression says -/
def isStar : Expr → Bool
  | .Starred _ _ => true
  | _ => false
def isLc : Expr → Bool
  | .ListComp .. => true
  | .SetComp .. => true
  | .DictComp .. => true
  | _ => false
def isSet : Expr → Bool
  | .Set .. => true
  | _ => false
def isSlice : Expr → Bool
  | .Slice .. => true
  | _ => false
def isCall0 : Expr → Bool
  | .Call (.Name _ _) [] [] _ => true
  | _ => false
def plainTest : Expr → Bool
  | .UnaryOp .Not _ _ => false
  | .BoolOp .. => false
  | .IfExp .. => false
  | .Compare .. => false
  | _ => true
theorem starEach_cons {e : Expr} (h : isStar e = false) (es : List Expr) (env : Env) : starEach (e :: es) env = (false, eval e env) :: starEach es env := by
  cases e <;> first | (simp [isStar] at h; done) | rfl
theorem starEach_plain {pos : Pos} {env : Env} : ∀ {es : List Expr}, es.any isStar = false → (backTo pos (starEach es env)).any (·.1) = false
  | [], _ => rfl
  | e :: es, h => by
    simp only [List.any_cons, Bool.or_eq_false_iff] at h
    rw [starEach_cons h.1]
    have := starEach_plain (pos := pos) (env := env) h.2
    simpa [backTo] using this
theorem swaps_none {e : Expr} (h : isLc e = false) (t : Option Expr) (l : Nat) (env : Env) : swapsWith e t l env = pure false := by
  cases e <;> first | (simp [isLc] at h; done) | rfl
theorem swapsSole_none {e t : Expr} (h : isLc e = false) (l : Nat) (env : Env) : swapsWithSole [t] e l env = pure false := swaps_none h _ l env
theorem folded_plain {e : Expr} (h : isSet e = false) (env : Env) (x : Value) : foldedSetIterable e env x = pure x := by
  cases e <;> first | (simp [isSet] at h; done) | rfl
theorem marks_plain {e : Expr} (h : isSet e = false) (op : CmpOp) : behindInMarks op e = false := by
  cases e <;> first | (simp [isSet] at h; done) | rfl
theorem ix_plain {e : Expr} (h : isSlice e = false) : PlainIx e := by
  intro o i
  cases e <;> first | (simp [isSlice] at h; done) | rfl
theorem base_plain {o : Expr} (h : isCall0 o = false) (f : Str) (env : Env) (w : Sem Value) : attributeBase o f env w = w := by
  cases o <;> try rfl
  rename_i fn args kws p
  cases fn <;> try rfl
  cases args <;> try rfl
  cases kws <;> try rfl
  simp [isCall0] at h
theorem true_plain {e : Expr} (h : plainTest e = true) (env : Env) (whole : Sem Value) : isTrue e env whole = (do let v ← whole; standAt e.pos; holding [v] (truthy v)) := by
  cases e <;> first | (simp [plainTest] at h; done) | rfl | skip
  rename_i op _ _
  cases op <;> first | (simp [plainTest] at h; done) | rfl
theorem call_meth {o : Expr} {m : Str} {apos pos : Pos} {es : List Expr} {env : Env} (h0 : isCall0 o = false) (hs : es.any isStar = false) (hn : es.length < 30) (hl : (apos.endLine == pos.line) = true) :
    eval (.Call (.Attribute o m apos) es [] pos) env = (do
      let w ← eval o env
      standAt apos.atName
      let (g, first) ← holding [w] (getMethod w m (plainOf o env))
      callWith pos g first (backTo pos (starEach es env)) (backToKw pos (keywordEach [] env))) := by
  show (do
    let ov ← attributeBase o m env (eval o env)
    standAt apos.atName
    methodCall o m apos pos env ov (es.length + ([] : List Keyword).length) (backTo pos (starEach es env)) (backToKw pos (keywordEach [] env))) = _
  rw [base_plain h0]
  congr 1
  funext w
  congr 1
  funext _
  refine mcall_line ?_ hl
  have h1 : (backTo pos (starEach es env)).all (fun x => !x.1) = true := by
    have := starEach_plain (pos := pos) (env := env) hs
    rw [List.all_eq_true]
    intro x hx
    rw [List.any_eq_false] at this
    have := this x hx
    simpa using this
  unfold methodCallForm
  have e : backToKw pos (keywordEach [] env) = [] := rfl
  rw [e]
  have h1' : (backTo pos (starEach es env)).all (!·.1) = true := h1
  rw [h1']
  simp [hn]
section
variable {X : Cx} {W : Wd} {Wx : WX} {pr : Pr} {φ : Nat → List D → Hm → Rs D}
/-! ### comparisons as tests -/
theorem test_bl {run : Ev → Hm → Rs D} {σ : L2.St} {H : Hp} {Q : Bool → Hp → Prop} (hb : ∀ e h x h', run e h = .ok x h' → ∃ b, x = .bl b) (p : tT W Wx run σ H Q) : tE W Wx run σ H fun x H' => ∃ k, x = .bl k ∧ Q k H' := by
  obtain ⟨S, α, h, e, s, r, p⟩ := p
  refine ⟨S, α, h, e, s, r, ?_⟩
  unfold truR at p
  cases q : run e h with
  | bad => rw [q] at p; exact p
  | exc c fs vs h1 => rw [q] at p; exact p
  | ok x h1 =>
    rw [q] at p
    obtain ⟨b, rfl⟩ := hb e h x h1 q
    intro S1 α1 H1 v t l
    exact ⟨b, rl_bl l, p S1 α1 H1 b t rfl⟩
theorem cmpR_bl {o : Cop} {x y : D} {h h' : Hm} {z : D} (e : cmpR h o x y = .ok z h') : ∃ b, z = .bl b := by
  unfold cmpR at e
  split at e
  · cases e; exact ⟨_, rfl⟩
  · cases e
theorem bind_ok {A B : Type} {r : Rs A} {f : A → Hm → Rs B} {b : B} {h : Hm} (e : r.bind f = .ok b h) : ∃ a h1, r = .ok a h1 ∧ f a h1 = .ok b h := by
  cases r with
  | ok a h1 => exact ⟨a, h1, rfl, e⟩
  | exc _ _ _ _ => cases e
  | bad => cases e
theorem t_cmp (hK : W.K = X.K) (hu : X.A.units + 64 < cLine) {o : Cop} {a b : Expr} {ca cb : E} {pos : Pos} (ha : PE X a (tE W Wx (evE pr φ ca))) (hb : PE X b (tE W Wx (evE pr φ cb))) (hm : behindInMarks (coP o) b = false) :
    PT X (.Compare a [coP o] [b] pos) (tT W Wx (evE pr φ (.cmp o ca cb))) := (pt_cmpR (op_cmpM hK hu o) ha hb hm).weak fun σ H Q p => by
  have p2 := test_bl (fun e h x h' q => by
    simp only [evE] at q
    obtain ⟨_, _, _, q⟩ := bind_ok q
    obtain ⟨_, _, _, q⟩ := bind_ok q
    exact cmpR_bl q) p
  simp only [evE] at p2
  exact m_op (f := fun _ _ => pure .none) (fun x y h => cmpR_quiet o x y h) p2
theorem t_chn (hK : W.K = X.K) (hu : X.A.units + 64 < cLine) {o o' : Cop} {a b c : Expr} {ca cb cc : E} {pos : Pos} (ha : PE X a (tE W Wx (evE pr φ ca))) (hb : PE X b (tE W Wx (evE pr φ cb))) (hc : PE X c (tE W Wx (evE pr φ cc))) (hm : lastMarks [coP o, coP o'] [b, c] = false) :
    PT X (.Compare a [coP o, coP o'] [b, c] pos) (tT W Wx (evE pr φ (.chn o o' ca cb cc))) := (pt_chain (op_cmpM hK hu o) (op_cmpM hK hu o') ha hb hc hm).weak fun σ H Q p => chn_run (X := X) (test_bl (fun e h x h' q => by
    simp only [evE] at q
    obtain ⟨_, _, _, q⟩ := bind_ok q
    obtain ⟨_, _, _, q⟩ := bind_ok q
    split at q
    · obtain ⟨_, _, _, q⟩ := bind_ok q
      exact cmpR_bl q
    · cases q; exact ⟨_, rfl⟩
    · cases q) p)
end
end Pm

set_option linter.all false
set_option maxRecDepth 100000
set_option maxHeartbeats 1000000
namespace Pm
open PySem PySem.Spec L2
/-- a built-in type's method by the machine -/
def rBm (W : Wd) (m : Bm) : V → List V → Hp → VK → Prop := fun x vs H Q => ∃ S α h dx ds, Sim W S α h H ∧ Rl W S α dx x ∧ Rls W S α ds vs ∧ PostE W S α H (bmD h m dx ds) Q fun _ _ _ => False
section
variable {X : Cx} {W : Wd} {Wx : WX} {pr : Pr} {φ : Nat → List D → Hm → Rs D} {S H : Hp} {α : List Addr} {h : Hm}
theorem strsD_rl : ∀ {xs : List D} {us : List V} {ys : List Str}, strsD xs = some ys → Rls W S α xs us → us = ys.map V.str
  | [], us, ys, e, r => by
    simp only [strsD] at e; cases e
    rw [rls_nil r]; rfl
  | x :: xs, us, ys, e, r => by
    simp only [Rls] at r
    obtain ⟨u, t, e1, r1, r2⟩ := r
    subst e1
    cases x <;> simp only [strsD] at e <;> first | cases e | skip
    cases e2 : strsD xs with
    | none => rw [e2] at e; cases e
    | some cs =>
      rw [e2] at e
      simp only [Option.map_some, Option.some.injEq] at e
      subst e
      rw [strsD_rl e2 r2, rl_str r1]; rfl
theorem strs_rls : ∀ ys : List Str, Rls W S α (ys.map D.str) (ys.map V.str)
  | [] => by simp [Rls]
  | y :: ys => by
    simp only [List.map_cons, Rls]
    exact ⟨_, _, rfl, by simp only [Rl], strs_rls ys⟩
theorem bm_append : MtR X "list.append" (rBm W .append) := by
  intro pins s σ H x vs v us Q I rx rv ⟨S, α, h, dx, ds, sm, lx, ls, p⟩
  refine mt_append pins s σ H x vs v us Q I rx rv ?_
  match ds, ls, p with
  | [d], ls, p =>
    obtain ⟨y, rfl, ly⟩ := rls_one ls
    cases dx <;> try (exact p.elim)
    rename_i n
    simp only [Rl] at lx
    obtain ⟨a, rfl, ha⟩ := lx
    obtain ⟨c, hc, _, o, ho, rc⟩ := sm.at ha
    simp only [bmD, appL, hc] at p
    cases c with
    | lst xs =>
      simp only at p
      split at p
      · rename_i hl
        obtain ⟨ws, rfl, ru⟩ := rc
        refine ⟨a, ws, y, rfl, rfl, ho, by rw [lim, ← ru.length]; exact hl, ?_⟩
        exact p _ _ _ _ (sm.set ha (c := .lst (xs ++ [d])) ⟨_, rfl, ru.app (.one ly)⟩) (by simp only [Rl])
      · exact p.elim
    | _ => exact p.elim
  | [], _, p => exact p.elim
  | _ :: _ :: _, _, p => exact p.elim
theorem bm_pop : MtR X "list.pop" (rBm W .pop) := by
  intro pins s σ H x vs v us Q I rx rv ⟨S, α, h, dx, ds, sm, lx, ls, p⟩
  refine mt_pop pins s σ H x vs v us Q I rx rv ?_
  match ds, ls, p with
  | [], ls, p =>
    obtain rfl := rls_nil ls
    cases dx <;> try (exact p.elim)
    rename_i n
    simp only [Rl] at lx
    obtain ⟨a, rfl, ha⟩ := lx
    obtain ⟨c, hc, _, o, ho, rc⟩ := sm.at ha
    simp only [bmD, popL, hc] at p
    cases c with
    | lst xs =>
      simp only at p
      cases hy : xs[xs.length - 1]? with
      | none => rw [hy] at p; exact p.elim
      | some d =>
        rw [hy] at p
        obtain ⟨ws, rfl, ru⟩ := rc
        obtain ⟨y, h1, ly⟩ := ru.get hy
        rw [ru.length] at h1
        refine ⟨a, ws, y, rfl, rfl, ho, h1, ?_⟩
        have : Rls W S α xs.dropLast ws.dropLast := by
          rw [List.dropLast_eq_take, List.dropLast_eq_take, ru.length]
          exact ru.take _
        exact p _ _ _ _ (sm.set ha (c := .lst xs.dropLast) ⟨_, rfl, this⟩) ly
    | _ => exact p.elim
  | _ :: _, _, p => exact p.elim
theorem flatB_rl {d : D} {v : V} (e : flatB d = true) (l : Rl W S α d v) : flatV v = true := by
  cases d <;> simp only [flatB, Bool.false_eq_true] at e
  · obtain rfl := rl_non l; rfl
  · obtain rfl := rl_bl l; rfl
  · obtain rfl := rl_int l; rfl
  · obtain rfl := rl_str l; rfl
theorem flatBs_rl : ∀ {ds : List D} {vs : List V}, ds.all flatB = true → Rls W S α ds vs → vs.all flatV = true
  | [], vs, _, r => by rw [rls_nil r]; rfl
  | d :: ds, vs, e, r => by
    simp only [Rls] at r
    obtain ⟨u, t, e1, r1, r2⟩ := r
    subst e1
    simp only [List.all_cons, Bool.and_eq_true] at e ⊢
    exact ⟨flatB_rl e.1 r1, flatBs_rl e.2 r2⟩
theorem eqd_rl {a b : D} {v w : V} (ea : flatB a = true) (eb : flatB b = true) (la : Rl W S α a v) (lb : Rl W S α b w) : eqV v w = eqd a b := by
  cases a <;> simp only [flatB, Bool.false_eq_true] at ea <;> cases b <;> simp only [flatB, Bool.false_eq_true] at eb <;> simp only [Rl] at la lb <;> subst la lb <;> simp only [eqV, eqd] <;> first | rfl | (rw [Bool.eq_iff_iff]; simp)
theorem findD_some {d : D} : ∀ {xs : List D} {i j : Nat}, findD d xs i = some j → ∃ k, j = i + k ∧ ∃ x, xs[k]? = some x ∧ eqd x d = true ∧ ∀ (m : Nat) y, m < k → xs[m]? = some y → eqd y d = false
  | [], _, _, e => by simp [findD] at e
  | x :: xs, i, j, e => by
    simp only [findD] at e
    by_cases h : eqd x d = true
    · rw [if_pos h] at e; cases e
      exact ⟨0, rfl, x, rfl, h, fun m y hm => by omega⟩
    · rw [if_neg h] at e
      obtain ⟨k, e1, z, e2, e3, e4⟩ := findD_some e
      refine ⟨k + 1, by omega, z, by simpa using e2, e3, fun m y hm hy => ?_⟩
      cases m with
      | zero =>
        have : x = y := by simpa using hy
        subst this
        simpa using h
      | succ m => exact e4 m y (by omega) (by simpa using hy)
theorem bm_index (hK : W.K = X.K) : MtR X "list.index" (rBm W .index) := by
  intro pins s σ H x vs v us Q I rx rv ⟨S, α, h, dx, ds, sm, lx, ls, p⟩
  refine mt_index pins s σ H x vs v us Q I rx rv ?_
  match ds, ls, p with
  | [d], ls, p =>
    obtain ⟨y, rfl, ly⟩ := rls_one ls
    simp only [bmD] at p
    cases e : items? h dx with
    | none => rw [e] at p; exact p.elim
    | some xs =>
      rw [e] at p
      simp only at p
      split at p
      · rename_i hf
        simp only [Bool.and_eq_true] at hf
        cases ef : findD d xs 0 with
        | none => rw [ef] at p; exact p.elim
        | some j =>
          rw [ef] at p
          obtain ⟨a, ws, rfl, hq, ru⟩ := items_ok sm e lx
          obtain ⟨k, e1, z, e2, e3, e4⟩ := findD_some ef
          have : j = k := by omega
          subst this
          obtain ⟨w, h1, lw⟩ := ru.get e2
          have hz : flatB z = true := List.all_eq_true.mp hf.2 z (List.mem_of_getElem? e2)
          refine ⟨a, ws, y, j, w, rfl, rfl, SqL.of hq, flatB_rl hf.1 ly, flatBs_rl hf.2 ru, h1, ?_, fun m w' hm hw => ?_, PostG.here sm p (by simp only [Rl])⟩
          · rw [eqd_rl hz hf.1 lw ly]; exact e3
          · have hlt : m < xs.length := by
              have := (List.getElem?_eq_some_iff.mp hw).1
              rw [ru.length]; exact this
            have hx := List.getElem?_eq_getElem hlt
            obtain ⟨w2, h2, lw2⟩ := ru.get hx
            rw [hw] at h2; cases h2
            rw [eqd_rl (List.all_eq_true.mp hf.2 _ (List.mem_of_getElem? hx)) hf.1 lw2 ly]
            exact e4 m _ hm hx
      · exact p.elim
  | [], _, p => exact p.elim
  | _ :: _ :: _, _, p => exact p.elim
theorem one_of {P : List D → Prop} {ds : List D} (p : P ds) (h0 : ¬ P []) (h2 : ∀ a b r, ¬ P (a :: b :: r)) : ∃ d, ds = [d] := by
  match ds, p with
  | [], p => exact absurd p h0
  | [d], _ => exact ⟨d, rfl⟩
  | a :: b :: r, p => exact absurd p (h2 a b r)
theorem bm_split : MtR X "str.split" (rBm W .split) := by
  intro pins s σ H x vs v us Q I rx rv ⟨S, α, h, dx, ds, sm, lx, ls, p⟩
  refine mt_split pins s σ H x vs v us Q I rx rv ?_
  obtain ⟨d, rfl⟩ := one_of (P := fun ds => PostE W S α H (bmD h .split dx ds) Q fun _ _ _ => False) p id (fun a b r => by cases a <;> exact id)
  obtain ⟨y, rfl, ly⟩ := rls_one ls
  cases d <;> try exact p.elim
  rename_i b
  cases dx <;> try exact p.elim
  rename_i a
  simp only [bmD] at p
  split at p
  · rename_i hz
    obtain rfl := rl_str ly
    obtain rfl := rl_str lx
    refine ⟨a, b, rfl, rfl, by simpa using hz.1, by rw [lim]; exact hz.2, ?_⟩
    exact (newL_ok sm (strs_rls _) p).2
  · exact p.elim
theorem bm_count : MtR X "str.count" (rBm W .count) := by
  intro pins s σ H x vs v us Q I rx rv ⟨S, α, h, dx, ds, sm, lx, ls, p⟩
  refine mt_count pins s σ H x vs v us Q I rx rv ?_
  obtain ⟨d, rfl⟩ := one_of (P := fun ds => PostE W S α H (bmD h .count dx ds) Q fun _ _ _ => False) p id (fun a b r => by cases a <;> exact id)
  obtain ⟨y, rfl, ly⟩ := rls_one ls
  cases d <;> try exact p.elim
  rename_i b
  cases dx <;> try exact p.elim
  rename_i a
  obtain rfl := rl_str ly
  obtain rfl := rl_str lx
  exact ⟨a, b, rfl, rfl, PostG.here sm p (by simp only [Rl])⟩
theorem bm_join (hK : W.K = X.K) : MtR X "str.join" (rBm W .join) := by
  intro pins s σ H x vs v us Q I rx rv ⟨S, α, h, dx, ds, sm, lx, ls, p⟩
  refine mt_join pins s σ H x vs v us Q I rx rv ?_
  obtain ⟨l, rfl⟩ := one_of (P := fun ds => PostE W S α H (bmD h .join dx ds) Q fun _ _ _ => False) p id (fun a b r => id)
  obtain ⟨y, rfl, ly⟩ := rls_one ls
  simp only [bmD] at p
  cases hj : (seq? h l).bind strsD with
  | none => rw [hj] at p; cases dx <;> exact p.elim
  | some ys =>
    rw [hj] at p
    cases dx <;> try exact p.elim
    rename_i a
    simp only at p
    split at p
    · rename_i hz
      obtain rfl := rl_str lx
      cases e : seq? h l with
      | none => rw [e] at hj; cases hj
      | some xs =>
        rw [e] at hj
        simp only [Option.bind_some] at hj
        obtain ⟨b, ws, rfl, hq, ru⟩ := seq_ok sm e ly
        obtain rfl := strsD_rl hj ru
        exact ⟨a, b, ys, rfl, rfl, hq.elim (fun z => .inr (hK ▸ z)) (fun z => .inl (SqL.of z)), hz, PostG.here sm p (by simp only [Rl])⟩
    · exact p.elim
/-- the type that has the method -/
def bmT : Bm → String
  | .append => "list" | .extend => "list" | .pop => "list" | .index => "list" | .get => "dict" | .setdefault => "dict" | .split => "str" | .join => "str" | .count => "str"
theorem ty_items (hK : W.K = X.K) (sm : Sim W S α h H) {x : D} {v : V} (e : (items? h x).isSome = true) (l : Rl W S α x v) : tyV X.K "list" v H := by
  obtain ⟨xs, e⟩ := Option.isSome_iff_exists.mp e
  obtain ⟨a, us, rfl, hq, _⟩ := items_ok sm e l
  exact .inl ⟨rfl, us, SqL.of hq⟩
theorem ty_str {x : D} {v : V} (e : (match x with | .str _ => true | _ => false) = true) (l : Rl W S α x v) : tyV X.K "str" v H := by
  cases x <;> simp at e
  obtain rfl := rl_str l
  rfl
theorem tyOk_ty (hK : W.K = X.K) (sm : Sim W S α h H) {m : Bm} {x : D} {v : V} (e : tyOk m h x = true) (l : Rl W S α x v) : tyV X.K (bmT m) v H := by
  cases m <;> simp only [tyOk] at e
  · exact ty_items hK sm e l
  · cases e
  · exact ty_items hK sm e l
  · exact ty_items hK sm e l
  · cases e
  · cases e
  · exact ty_str e l
  · exact ty_str e l
  · exact ty_str e l
theorem bmD_quiet (m : Bm) (x : D) (ds : List D) : Quiet (bmD h m x ds) := by
  unfold bmD appL popL strsL
  split <;> (repeat' split) <;> first | exact trivial | exact newL_quiet _ _
theorem m_bm (hK : W.K = X.K) {m : Bm} {id : String} {name : Str} {o a : Expr} {es : List Expr} {co : E} {cs : Es} {apos cpos : Pos} (pa : PlainAttrs (bmT m)) (slot : Slot (bmT m) name id) (hty : typeOf (.builtin id) = pure (.type "method_descriptor")) (hm : MtR X id (rBm W m))
    (ho : PE X o (tE W Wx (evE pr φ co))) (ha : PA X (a :: es) (tL W Wx (evEs pr φ cs))) (h0 : isCall0 o = false) (hs : (a :: es).any isStar = false) (hn : (a :: es).length < 30) (hl : (apos.endLine == cpos.line) = true) :
    PE X (.Call (.Attribute o name apos) (a :: es) [] cpos) (tE W Wx (evE pr φ (.bm co m cs))) := by
  have hs1 : isStar a = false := by simp only [List.any_cons, Bool.or_eq_false_iff] at hs; exact hs.1
  have hs2 : es.any isStar = false := by simp only [List.any_cons, Bool.or_eq_false_iff] at hs; exact hs.2
  refine (pe_bm pa slot hty hm ho ha (base_plain h0 _ _ _) ?_ hl (starEach_cons hs1 es X.env) (starEach_plain hs2)).weak fun σ H Q p => ?_
  · have h1 : (backTo cpos (starEach (a :: es) X.env)).all (fun x => !x.1) = true := by
      have := starEach_plain (pos := cpos) (env := X.env) hs
      rw [List.all_eq_true]
      intro x hx
      rw [List.any_eq_false] at this
      simpa using this x hx
    have e : backToKw cpos (keywordEach [] X.env) = [] := rfl
    rw [h1, e]
    simpa using hn
  · simp only [evE] at p
    refine tG.seq (R := Rl) (R' := Rl) (f := fun e x h => if tyOk m h x then (evEs pr φ cs e h).bind fun ds h => bmD h m x ds else .bad) (fun e x h1 S1 α1 H1 v s1 r1 lx p1 => ?_) p
    split at p1
    · rename_i ht
      refine ⟨tyOk_ty hK s1 ht lx, S1, α1, h1, e, s1, r1, p1.bind s1 fun ds h2 S2 α2 H2 vs t2 ls p2 => ?_⟩
      exact ⟨S2, α2, h2, x, ds, t2.sim, lx.mono t2.le t2.pre, ls, p2.quiet (bmD_quiet m x ds)⟩
    · exact p1.elim
theorem m_bm0 (hK : W.K = X.K) {m : Bm} {id : String} {name : Str} {o : Expr} {co : E} {apos cpos : Pos} (pa : PlainAttrs (bmT m)) (slot : Slot (bmT m) name id) (hty : typeOf (.builtin id) = pure (.type "method_descriptor")) (hm : MtR X id (rBm W m))
    (ho : PE X o (tE W Wx (evE pr φ co))) (h0 : isCall0 o = false) (hl : (apos.endLine == cpos.line) = true) : PE X (.Call (.Attribute o name apos) [] [] cpos) (tE W Wx (evE pr φ (.bm co m .nil))) := by
  refine (pe_bm0 pa slot hty hm ho (base_plain h0 _ _ _) hl).weak fun σ H Q p => ?_
  simp only [evE, evEs] at p
  refine tG.seq (R := Rl) (R' := Rl) (f := fun e x h => if tyOk m h x then (Rs.ok [] h).bind fun ds h => bmD h m x ds else .bad) (fun e x h1 S1 α1 H1 v s1 r1 lx p1 => ?_) p
  split at p1
  · rename_i ht
    exact ⟨tyOk_ty hK s1 ht lx, S1, α1, h1, x, [], s1, lx, by simp only [Rls], p1.quiet (bmD_quiet m x [])⟩
  · exact p1.elim
/-! ### x in range(j) -/
theorem cr_range1 : CallR X (.type "range") (fun vs H Q => ∃ j, vs = [V.int j] ∧ ∀ p, H p = none → Q (.ref p) (upd H p (.rng 0 j))) := by
  intro pins s σ H vs us Q I r h
  obtain ⟨j, rfl, q⟩ := h
  obtain ⟨u1, rfl, rj⟩ := vals1 r
  obtain ⟨t, rfl⟩ := rj
  refine call_range_1 ⟨.ref s.heap.objs.size, upd H s.heap.objs.size (.rng 0 j), I.laid (fun b o e => Heap.get?_push_of_some _ e) (Nat.le_refl _) ?_, rfl, q _ (I.hok.fresh (Nat.le_refl _))⟩
  exact ⟨_, _, _, Heap.get?_push_size _ rfl⟩
theorem m_inr {a b : Expr} {ca : E} {cs : Es} {x : Str} {p q pos : Pos} (hx : x = "range") (hg : Gl X x) (hm : X.mg x = none) (ha : PE X a (tE W Wx (evE pr φ ca))) (hb : PA X [b] (tL W Wx (evEs pr φ cs))) (hs : isStar b = false) :
    PE X (.Compare a [.In] [.Call (.Name x p) [b] [] q] pos) (tE W Wx (evE pr φ (.inr ca cs))) := by
  subst hx
  refine (pe_cmpR op_in_rng ha (pe_callTy cr_range1 hg hm rfl hb (by decide) (by decide) (starEach_cons hs [] X.env) rfl) rfl).weak fun σ H Q pq => ?_
  simp only [evE] at pq
  refine tG.seq (R := Rl) (R' := Rl) (f := fun e x h => (evEs pr φ cs e h).bind fun ds h => match x, ds with | .int i, [.int j] => .ok (.bl (decide (0 ≤ i ∧ i < j))) h | _, _ => .bad) (fun e x h1 S1 α1 H1 v s1 r1 lx p1 => ?_) pq
  refine ⟨S1, α1, h1, e, s1, r1, p1.bind s1 fun ds h2 S2 α2 H2 vs t2 ls p2 => ?_⟩
  cases x <;> try exact p2.elim
  rename_i i
  match ds, ls, p2 with
  | [.int j], ls, p2 =>
    obtain ⟨w, rfl, lw⟩ := rls_one ls
    obtain rfl := rl_int lw
    obtain rfl := rl_int lx
    refine ⟨j, rfl, fun r nr => ⟨i, r, 0, j, rfl, rfl, upd_same, ?_⟩⟩
    have t3 := t2.sim.other (o := .rng 0 j) nr
    exact p2 _ _ _ _ t3 (by simp only [Rl])
  | [], _, p2 => exact p2.elim
  | d :: d' :: r, _, p2 => cases d <;> exact p2.elim
  | [.un], _, p2 | [.non], _, p2 | [.bl _], _, p2 | [.str _], _, p2 | [.tup _], _, p2 | [.lst _], _, p2 | [.dic _ _], _, p2 | [.obj _ _ _], _, p2 | [.ref _], _, p2 | [.cls _], _, p2 | [.scr _], _, p2 | [.xcp _ _ _], _, p2 => exact p2.elim
end
end Pm

set_option linter.all false
set_option maxRecDepth 100000
set_option maxHeartbeats 2000000
namespace Pm
open PySem PySem.Spec L2
/-! The text of a def, turned to code. -/
structure Tb where
  fns : List (Str × Nat)
  clss : List (Str × Nat)
  cons : List (Str × D)
  nms : List Str
/-- where one is: the slots' names, the scope, whether no exception is handled -/
structure Cc where
  N : List Str
  sc : Scope
  calm : Bool
  cells : List Str
def ixOf (l : List Str) (x : Str) : Option Nat := l.findIdx? (· == x)
theorem ixOf_some {l : List Str} {x : Str} {i : Nat} (h : ixOf l x = some i) : l[i]? = some x := by
  unfold ixOf at h
  obtain ⟨hl, h1, _⟩ := List.findIdx?_eq_some_iff_getElem.mp h
  rw [List.getElem?_eq_getElem hl]
  exact congrArg some (eq_of_beq h1)
def bopOf : Operator → Option Bop
  | .Add => some .add | .Sub => some .sub | .Mult => some .mul | .FloorDiv => some .fdiv | .Mod => some .mod | .Pow => some .pow
  | _ => none
theorem bopOf_some {o : Operator} {b : Bop} (h : bopOf o = some b) : o = boP b := by cases o <;> simp only [bopOf, Option.some.injEq, reduceCtorEq] at h <;> subst h <;> rfl
def copOf : CmpOp → Option Cop
  | .Eq => some .eq | .NotEq => some .ne | .Lt => some .lt | .LtE => some .le | .Gt => some .gt | .GtE => some .ge | .Is => some .is | .IsNot => some .isnot | .In => some .isin | .NotIn => some .notin
theorem copOf_some {o : CmpOp} {b : Cop} (h : copOf o = some b) : o = coP b := by cases o <;> simp only [copOf, Option.some.injEq] at h <;> subst h <;> rfl
def nameB : Blt → Str
  | .len => "len" | .abs => "abs" | .int => "int" | .str => "str" | .bool => "bool" | .min => "min" | .max => "max" | .list => "list" | .tuple => "tuple" | .dict => "dict" | .all => "all" | .any => "any" | .sorted => "sorted" | .iter => "iter"
def bltV : Blt → Value
  | .len => .builtin "len" | .abs => .builtin "abs" | .int => .type "int" | .str => .type "str" | .bool => .type "bool" | .min => .builtin "min" | .max => .builtin "max" | .list => .type "list" | .tuple => .type "tuple" | .dict => .type "dict" | .all => .builtin "all"
  | .any => .builtin "any" | .sorted => .builtin "sorted" | .iter => .builtin "iter"
def blts : List Blt := [.len, .abs, .int, .str, .min, .max, .list, .tuple, .all, .any]
def bltOf (x : Str) : Option Blt := blts.find? fun b => nameB b == x
theorem bltOf_some {x : Str} {b : Blt} (h : bltOf x = some b) : x = nameB b ∧ b ∈ blts := by
  unfold bltOf at h
  exact ⟨(eq_of_beq (List.find?_some (p := fun b => nameB b == x) h)).symm, List.mem_of_find?_eq_some h⟩
def nameM : Bm → Str
  | .append => "append" | .extend => "extend" | .pop => "pop" | .index => "index" | .get => "get" | .setdefault => "setdefault" | .split => "split" | .join => "join" | .count => "count"
def bms : List Bm := [.append, .pop, .index, .split, .join, .count]
def bmOf (x : Str) : Option Bm := bms.find? fun b => nameM b == x
theorem bmOf_some {x : Str} {b : Bm} (h : bmOf x = some b) : x = nameM b ∧ b ∈ bms := by
  unfold bmOf at h
  exact ⟨(eq_of_beq (List.find?_some (p := fun b => nameM b == x) h)).symm, List.mem_of_find?_eq_some h⟩
/-- the names of built-in things that the code asks for -/
def asked : List Str := blts.map nameB ++ (["isinstance", "range", "enumerate", "zip"] : List Str)
/-- a built-in type by its name -/
def tyOf (x : Str) : Option D := if x = "int" then some (.int 0) else if x = "bool" then some (.bl true) else if x = "str" then some (.str ⟨#[]⟩) else if x = "tuple" then some (.tup []) else if x = "list" then some (.lst []) else if x = "dict" then some (.dic [] []) else if x = "ValueError" then some .un else none
/-- is there such a method for n arguments -/
def hasM (pr : Pr) (m n : Nat) : Bool := pr.cls.any fun cl => match cl.mths.lookup m with
  | some g => match pr.fns[g]? with
    | some fn => fn.ar.contains (n + 1)
    | none => false
  | none => false
def isLoc (sc : Scope) (x : Str) : Bool := decide (sc.names.lookup x = some .local)
def isSt (cc : Cc) (x : Str) : Bool := isLoc cc.sc x || (decide (cc.sc.names.lookup x = some .cell) && cc.cells.contains x)
/-- the names that are cells of the block's own -/
def cellsOf (sc : Scope) : List Str := sc.names.filterMap fun p => if sc.names.lookup p.1 = some .cell then some p.1 else none
def isVis (sc : Scope) (x : Str) : Bool := match sc.names.lookup x with
  | some .local => true | some .cell => true | some .free => true
  | _ => false
def isGl (sc : Scope) (x : Str) : Bool := decide (sc.names.lookup x = some .globalImplicit)
def dull (x : Str) : Bool := !(x == ("__debug__" : Str)) && !(x == ("__classdict__" : Str))
def cNames (cc : Cc) : List Expr → Option (List Nat)
  | [] => some []
  | .Name x _ :: r => if isSt cc x then match ixOf cc.N x, cNames cc r with
      | some i, some is => some (i :: is)
      | _, _ => none
    else none
  | _ :: _ => none
def cTg (cc : Cc) : Expr → Option Tg
  | .Name x _ => if isSt cc x then (ixOf cc.N x).map Tg.v else none
  | .Tuple es _ _ => if cc.calm then (cNames cc es).map Tg.tup else none
  | _ => none
/-- a comprehension's own names with their places -/
def ownOf (N : List Str) (scope : Scope) : List (Str × Nat) := scope.names.filterMap fun p => match p.2 with
  | .local => (ixOf N p.1).map fun i => (p.1, i)
  | .cell => (ixOf N p.1).map fun i => (p.1, i)
  | _ => none
section
variable (tb : Tb) (pr : Pr)
mutual
def cE : Nat → Cc → Expr → Option E
  | 0, _, _ => none
  | n + 1, cc, e => match e with
    | .Constant .none _ _ => some (.k .non)
    | .Constant (.bool b) _ _ => some (.k (.bl b))
    | .Constant (.int i) _ _ => some (.k (.int i))
    | .Constant (.str x) _ _ => some (.k (.str x))
    | .Name x _ => if dull x then if isVis cc.sc x then (ixOf cc.N x).map E.v else if isGl cc.sc x then (tb.cons.lookup x).map E.k else none else none
    | .UnaryOp .USub a _ => (cE n cc a).map E.neg
    | .UnaryOp .Not a _ => (cE n cc a).map E.not
    | .BinOp a o b _ => match bopOf o, cE n cc a, cE n cc b with
      | some o, some a, some b => some (.bin o a b)
      | _, _, _ => none
    | .Compare a [.In] [.Call (.Name x _) [b] [] _] _ => if x = "range" && isGl cc.sc x && !isStar b then match cE n cc a, cEs n cc [b] with
        | some a, some b => some (.inr a b)
        | _, _ => none
      else none
    | .Compare a [o] [b] _ => if isSet b then none else match copOf o, cE n cc a, cE n cc b with
      | some o, some a, some b => some (.cmp o a b)
      | _, _, _ => none
    | .Compare a [o, p] [b, c] _ => if isSet c then none else match copOf o, copOf p, cE n cc a, cE n cc b, cE n cc c with
      | some o, some p, some a, some b, some c => some (.chn o p a b c)
      | _, _, _, _, _ => none
    | .BoolOp _ [a] _ => cE n cc a
    | .BoolOp .And (a :: b :: r) p => match cE n cc a, cE n cc (.BoolOp .And (b :: r) p) with
      | some a, some b => some (.and a b)
      | _, _ => none
    | .BoolOp .Or (a :: b :: r) p => match cE n cc a, cE n cc (.BoolOp .Or (b :: r) p) with
      | some a, some b => some (.or a b)
      | _, _ => none
    | .IfExp c a b _ => match cT n cc c, cE n cc a, cE n cc b with
      | some c, some a, some b => some (.ife c a b)
      | _, _, _ => none
    | .Tuple es _ _ => (cEs n cc es).map E.tup
    | .List es _ => (cEs n cc es).map E.lst
    | .Subscript a (.Slice lo hi none _) _ => match cE n cc a, cO n cc lo, cO n cc hi with
      | some a, some l, some h => some (.sl a l h)
      | _, _, _ => none
    | .Subscript a b _ => if isSlice b then none else match cE n cc a, cE n cc b with
      | some a, some b => some (.idx a b)
      | _, _ => none
    | .Attribute a f _ => if isCall0 a then none else match cE n cc a, ixOf tb.nms f with
      | some a, some f => if pr.cls.any fun cl => (cl.props.lookup f).isSome then none else some (.fld a f)
      | _, _ => none
    | .Call (.Name x _) es [] _ => if isGl cc.sc x && dull x && !es.any isStar then match cEs n cc es with
        | some cs => match cs.cnt with
          | some m => match tb.fns.lookup x with
            | some f => match pr.fns[f]? with
              | some fn => if cc.calm && fn.ar.contains m then some (.call f cs) else none
              | none => none
            | none => match tb.clss.lookup x with
              | some c => match pr.cls[c]? with
                | some cl => if cl.isx then if cc.calm && (!cl.exf.isEmpty || es.isEmpty) then some (.mk c cs) else none else match cl.init with
                  | some f => match pr.fns[f]? with
                    | some fn => if cc.calm && fn.ar.contains (m + 1) then some (.mk c cs) else none
                    | none => none
                  | none => none
                | none => none
              | none => match bltOf x with
                | some b => if cc.calm && !es.isEmpty then some (.blt b cs) else none
                | none => none
          | none => none
        | none => match es with
          | [a, .Name c _] => if x = "isinstance" && isGl cc.sc c && dull c then match cE n cc a with
              | some a => match tb.clss.lookup c with
                | some c => some (.isi a [.cls c])
                | none => (tyOf c).map fun d => .isi a [d]
              | none => none
            else none
          | _ => none
      else none
    | .Call (.Attribute o m ap) es [] p => if !isCall0 o && !es.any isStar && decide (es.length < 30) && (ap.endLine == p.line) then match cE n cc o, cEs n cc es with
        | some o, some cs => match bmOf m with
          | some b => match es with
            | [] => if b = .pop then some (.bm o b .nil) else none
            | _ => some (.bm o b cs)
          | none => match cs.cnt, ixOf tb.nms m with
            | some k, some m => if cc.calm && hasM pr m k then some (.mth o m cs) else none
            | _, _ => none
        | _, _ => none
      else none
    | .ListComp elt [⟨tg, iter, ifs, 0⟩] scope _ =>
        if cc.calm && !isSet iter && blkC cc.N cc.sc scope (ownOf cc.N scope) then
          let cc' : Cc := ⟨cc.N, relS scope cc.sc, cc.calm, cellsOf scope⟩
          match cI n cc tg iter, cTg cc' tg, cIfs n cc' ifs, cE n cc' elt with
          | some i, some t, some q, some e => if (tgS t).all fun j => ((ownOf cc.N scope).map (·.2)).contains j then some (.comp e t i q ((ownOf cc.N scope).map (·.2))) else none
          | _, _, _, _ => none
        else none
    | _ => none
def cT : Nat → Cc → Expr → Option E
  | 0, _, _ => none
  | n + 1, cc, e => match e with
    | .UnaryOp .Not a _ => (cT n cc a).map E.not
    | .BoolOp op vs p => cW n cc (.BoolOp op vs p)
    | .Compare a [o] [b] _ => if isSet b then none else match copOf o, cE n cc a, cE n cc b with
      | some o, some a, some b => some (.cmp o a b)
      | _, _, _ => none
    | .Compare a [o, p] [b, c] _ => if isSet c then none else match copOf o, copOf p, cE n cc a, cE n cc b, cE n cc c with
      | some o, some p, some a, some b, some c => some (.chn o p a b c)
      | _, _, _, _, _ => none
    | e => if plainTest e then cE n cc e else none
def cW : Nat → Cc → Expr → Option E
  | 0, _, _ => none
  | n + 1, cc, e => match e with
    | .BoolOp _ [a] _ => cT n cc a
    | .BoolOp .And (a :: b :: r) p => match cT n cc a, cW n cc (.BoolOp .And (b :: r) p) with
      | some a, some b => some (.and a b)
      | _, _ => none
    | .BoolOp .Or (a :: b :: r) p => match cT n cc a, cW n cc (.BoolOp .Or (b :: r) p) with
      | some a, some b => some (.or a b)
      | _, _ => none
    | _ => none
def cIfs : Nat → Cc → List Expr → Option Oe
  | 0, _, _ => none
  | n + 1, cc, e => match e with
    | [] => some .none
    | [a] => (cT n cc a).map Oe.some
    | _ => none
def cO : Nat → Cc → Option Expr → Option Oe
  | 0, _, _ => none
  | n + 1, cc, e => match e with
    | none => some .none
    | some a => (cE n cc a).map Oe.some
def cEs : Nat → Cc → List Expr → Option Es
  | 0, _, _ => none
  | n + 1, cc, e => match e with
    | [] => some .nil
    | .Starred a _ :: r => match cE n cc a, cEs n cc r with
      | some a, some r => some (.star a r)
      | _, _ => none
    | a :: r => if isStar a then none else match cE n cc a, cEs n cc r with
      | some a, some r => some (.cons a r)
      | _, _ => none
def cI : Nat → Cc → Expr → Expr → Option I
  | 0, _, _, _ => none
  | n + 1, cc, tg, e => match e with
    | .Call (.Name x p) [a] [] q => if x = "range" && isGl cc.sc x && !isStar a then match cEs n cc [a] with
        | some cs => if cs.cnt = some 1 then some (.range cs) else none
        | none => none
      else (cE n cc (.Call (.Name x p) [a] [] q)).map I.ex
    | .Call (.Name x p) [a, b] [] q => if x = "range" && isGl cc.sc x && !isStar a && !isStar b then match cEs n cc [a, b] with
        | some cs => if cs.cnt = some 2 then some (.range cs) else none
        | none => none
      else (cE n cc (.Call (.Name x p) [a, b] [] q)).map I.ex
    | e => (cE n cc e).map I.ex
end
end
end Pm

set_option linter.all false
set_option maxRecDepth 100000
set_option maxHeartbeats 2000000
namespace Pm
open PySem PySem.Spec L2
/-- the law's text: what its names stand for -/
structure Lw (W : Wd) (pr : Pr) (F : Df) (K : PySem.W.Frag) (mg : Str → Option Value) (tb : Tb) : Prop where
  KW : W.K = K
  FF : FnFacts K pr F
  MF : MthFacts W K pr F
  FA : Facts W pr
  IF : IsiFacts W K pr
  XF : XFx W pr F K
  fns : ∀ x f, tb.fns.lookup x = some f → mg x = some (.ref (F.fa f))
  clss : ∀ x c, tb.clss.lookup x = some c → mg x = some (.ref (W.ca c)) ∧ ∃ cl, pr.cls[c]? = some cl
  cons : ∀ x d, tb.cons.lookup x = some d → ∃ u v, mg x = some u ∧ RelV v u ∧ ∀ S α, Rl W S α d v
  blt : ∀ x ∈ asked, mg x = none
  tys : ∀ x d, tyOf x = some d → mg x = none
  nm : ∀ f i, ixOf tb.nms f = some i → W.nm i = f
/-- where the code runs -/
structure Cok (W : Wd) (pr : Pr) (F : Df) (K : PySem.W.Frag) (mg : Str → Option Value) (k : Nat) (Wx : WX) (cc : Cc) (X : Cx) : Prop where
  K : X.K = K
  mg : X.mg = mg
  N : X.N = cc.N
  sc : X.env.scope = cc.sc
  nd : cc.N.Nodup
  un : X.A.units + 64 < cLine
  calm : cc.calm = true → X.calm = true
  room : cc.calm = true → Room (3 * k + 2) X.A
  calls : Calls W pr F X k
  tk : Takes X Wx
  cells : ∀ x, cc.cells.contains x = true → X.fn x = true
  xc : XCalls W pr F X
section
variable {W : Wd} {pr : Pr} {F : Df} {K : PySem.W.Frag} {mg : Str → Option Value} {tb : Tb} {k : Nat}
variable {Wx : WX} {cc : Cc} {X : Cx}
theorem Cok.Kw (L : Lw W pr F K mg tb) (o : Cok W pr F K mg k Wx cc X) : W.K = X.K := L.KW.trans o.K.symm
theorem Cok.gl (o : Cok W pr F K mg k Wx cc X) {x : Str} (h : isGl cc.sc x = true) : Gl X x := by
  unfold Gl Env.kindOf
  rw [o.sc]
  exact of_decide_eq_true h
theorem Cok.vis (o : Cok W pr F K mg k Wx cc X) {x : Str} (h : isVis cc.sc x = true) : Vis X.env.scope x := by
  unfold Vis
  rw [o.sc]
  unfold isVis at h
  split at h <;> first | exact .inl ‹_› | exact .inr (.inl ‹_›) | exact .inr (.inr ‹_›) | cases h
theorem Cok.loc (o : Cok W pr F K mg k Wx cc X) {x : Str} (h : isLoc cc.sc x = true) : X.env.scope.names.lookup x = some .local := by
  rw [o.sc]
  exact of_decide_eq_true h
theorem Cok.st (o : Cok W pr F K mg k Wx cc X) {x : Str} (h : isSt cc x = true) : Loc X.env.scope x ∧ (X.fn x = true ∨ X.env.scope.names.lookup x = some .local) := by
  unfold isSt at h
  rw [Bool.or_eq_true] at h
  rcases h with h | h
  · exact ⟨.inl (o.loc h), .inr (o.loc h)⟩
  · simp only [Bool.and_eq_true, decide_eq_true_eq] at h
    refine ⟨.inr ?_, .inl (o.cells x h.2)⟩
    rw [o.sc]; exact h.1
theorem Cok.at_ (o : Cok W pr F K mg k Wx cc X) {x : Str} {i : Nat} (h : ixOf cc.N x = some i) : X.N[i]? = some x := by
  rw [o.N]; exact ixOf_some h
theorem Cok.nodup (o : Cok W pr F K mg k Wx cc X) : X.N.Nodup := by rw [o.N]; exact o.nd
theorem dull_d {x : Str} (h : dull x = true) : (x == ("__debug__" : Str)) = false := by
  unfold dull at h
  simp only [Bool.and_eq_true, Bool.not_eq_true'] at h
  exact h.1
theorem dull_c {x : Str} (h : dull x = true) : (x == ("__classdict__" : Str)) = false := by
  unfold dull at h
  simp only [Bool.and_eq_true, Bool.not_eq_true'] at h
  exact h.2
theorem boot_of : ∀ {b : Blt}, b ∈ blts → bootBuiltins (nameB b) = some (bltV b) ∧ nameB b ≠ "__name__" ∧ ((∃ id, bltV b = .builtin id) ∨ ∃ T, bltV b = .type T) := by
  intro b h
  simp only [blts, List.mem_cons, List.not_mem_nil, or_false] at h
  rcases h with rfl | rfl | rfl | rfl | rfl | rfl | rfl | rfl | rfl | rfl <;> exact ⟨rfl, by decide, by first | exact .inl ⟨_, rfl⟩ | exact .inr ⟨_, rfl⟩⟩
theorem blt_ok (hK : W.K = X.K) (hc : X.calm = true) : ∀ {b : Blt}, b ∈ blts → CallR X (bltV b) (rBlt W b) := by
  intro b h
  simp only [blts, List.mem_cons, List.not_mem_nil, or_false] at h
  rcases h with rfl | rfl | rfl | rfl | rfl | rfl | rfl | rfl | rfl | rfl
  · exact blt_len hK
  · exact blt_abs
  · exact blt_int
  · exact blt_str
  · exact blt_min hc
  · exact blt_max hc
  · exact blt_list hK
  · exact blt_tuple hK
  · exact blt_all hc
  · exact blt_any hc
theorem names_ok (o : Cok W pr F K mg k Wx cc X) : ∀ {es : List Expr} {is : List Nat}, cNames cc es = some is → NamesAt X es is
  | [], is, h => by simp only [cNames] at h; cases h; exact .nil
  | e :: r, is, h => by
    cases e <;> try (simp [cNames] at h; done)
    rename_i x p
    simp only [cNames] at h
    split at h
    · rename_i hl
      cases hi : ixOf cc.N x with
      | none => rw [hi] at h; simp at h
      | some i =>
        cases hr : cNames cc r with
        | none => rw [hi, hr] at h; simp at h
        | some js =>
          rw [hi, hr] at h
          simp only [Option.some.injEq] at h
          subst h
          exact .cons (o.at_ hi) (o.st hl).1 (o.st hl).2 (names_ok o hr)
    · cases h
theorem cTg_ok (L : Lw W pr F K mg tb) (o : Cok W pr F K mg k Wx cc X) {e : Expr} {t : Tg} (h : cTg cc e = some t) : PG X e (tGm W t) := by
  cases e <;> try (simp [cTg] at h; done)
  · rename_i x p
    simp only [cTg] at h
    split at h
    · rename_i hl
      cases hi : ixOf cc.N x with
      | none => rw [hi] at h; cases h
      | some i =>
        rw [hi] at h
        simp only [Option.map_some, Option.some.injEq] at h
        subst h
        exact g_name o.nodup (o.at_ hi) (o.st hl).1 (o.st hl).2
    · cases h
  · rename_i es kk p
    simp only [cTg] at h
    split at h
    · rename_i hc
      cases hi : cNames cc es with
      | none => rw [hi] at h; cases h
      | some is =>
        rw [hi] at h
        simp only [Option.map_some, Option.some.injEq] at h
        subst h
        exact g_tup (o.Kw L) (o.calm hc) o.nodup (names_ok o hi)
    · cases h
/-- what the fuel n serves -/
structure Snd (W : Wd) (pr : Pr) (F : Df) (K : PySem.W.Frag) (mg : Str → Option Value) (tb : Tb) (k n : Nat) : Prop where
  e : ∀ {Wx cc X e c}, Cok W pr F K mg k Wx cc X → cE tb pr n cc e = some c → PE X e (tE W Wx (evE pr (callF pr k) c))
  t : ∀ {Wx cc X e c}, Cok W pr F K mg k Wx cc X → cT tb pr n cc e = some c → PT X e (tT W Wx (evE pr (callF pr k) c))
  w : ∀ {Wx cc X e c}, Cok W pr F K mg k Wx cc X → cW tb pr n cc e = some c → PW X e (tT W Wx (evE pr (callF pr k) c))
  q : ∀ {cc X e c}, Cok W pr F K mg k WF0 cc X → cIfs tb pr n cc e = some c → PTs X e (tCond W pr (callF pr k) c)
  o : ∀ {Wx cc X e c}, Cok W pr F K mg k Wx cc X → cO tb pr n cc e = some c → PO X e (tG RP W Wx (evO pr (callF pr k) c))
  s : ∀ {Wx cc X e c}, Cok W pr F K mg k Wx cc X → cEs tb pr n cc e = some c → PA X e (tL W Wx (evEs pr (callF pr k) c))
  i : ∀ {Wx cc X tg e c}, Cok W pr F K mg k Wx cc X → cI tb pr n cc tg e = some c → PI X tg e (tI W Wx (evI pr (callF pr k) c))
variable {n : Nat}
theorem snd_q (H : Snd W pr F K mg tb k n) {e : List Expr} {c : Oe} (o : Cok W pr F K mg k WF0 cc X) (h : cIfs tb pr (n + 1) cc e = some c) : PTs X e (tCond W pr (callF pr k) c) := by
  match e, h with
  | [], h => simp only [cIfs, Option.some.injEq] at h; subst h; exact pts_nil
  | [a], h =>
    simp only [cIfs, Option.map_eq_some_iff] at h
    obtain ⟨c, h2, rfl⟩ := h
    exact pts_one (H.t o h2)
  | _ :: _ :: _, h => simp [cIfs] at h
theorem snd_o (H : Snd W pr F K mg tb k n) {e : Option Expr} {c : Oe} (o : Cok W pr F K mg k Wx cc X) (h : cO tb pr (n + 1) cc e = some c) : PO X e (tG RP W Wx (evO pr (callF pr k) c)) := by
  match e, h with
  | none, h => simp only [cO, Option.some.injEq] at h; subst h; exact o_none
  | some a, h =>
    simp only [cO, Option.map_eq_some_iff] at h
    obtain ⟨c, h2, rfl⟩ := h
    exact o_some (H.e o h2)
theorem snd_s (L : Lw W pr F K mg tb) (H : Snd W pr F K mg tb k n) {e : List Expr} {c : Es} (o : Cok W pr F K mg k Wx cc X) (h : cEs tb pr (n + 1) cc e = some c) : PA X e (tL W Wx (evEs pr (callF pr k) c)) := by
  simp only [cEs] at h
  split at h
  · cases h; exact l_nil
  · split at h
    · rename_i h1 h2
      cases h
      exact l_star (o.Kw L) (H.e o h1) (H.s o h2) rfl
    · cases h
  · split at h
    · cases h
    · rename_i hs
      split at h
      · rename_i h1 h2
        cases h
        exact l_cons (H.e o h1) (H.s o h2) (starEach_cons (by simpa using hs) _ X.env)
      · cases h
theorem snd_w (H : Snd W pr F K mg tb k n) {e : Expr} {c : E} (L : Lw W pr F K mg tb) (o : Cok W pr F K mg k Wx cc X) (h : cW tb pr (n + 1) cc e = some c) : PW X e (tT W Wx (evE pr (callF pr k) c)) := by
  simp only [cW] at h
  split at h
  · rename_i op a p
    cases op
    · exact w_and1 (H.t o h)
    · exact w_or1 (H.t o h)
  · split at h
    · rename_i h1 h2
      cases h
      exact w_and (H.t o h1) (H.w o h2)
    · cases h
  · split at h
    · rename_i h1 h2
      cases h
      exact w_or (H.t o h1) (H.w o h2)
    · cases h
  · cases h
theorem snd_t (L : Lw W pr F K mg tb) (H : Snd W pr F K mg tb k n) {e : Expr} {c : E} (o : Cok W pr F K mg k Wx cc X) (h : cT tb pr (n + 1) cc e = some c) : PT X e (tT W Wx (evE pr (callF pr k) c)) := by
  simp only [cT] at h
  split at h
  · simp only [Option.map_eq_some_iff] at h
    obtain ⟨c, h2, rfl⟩ := h
    exact t_not (o.Kw L) (H.t o h2)
  · exact (H.w o h).pt
  · split at h
    · cases h
    · rename_i hb
      split at h
      · rename_i h1 h2 h3
        cases h
        have := copOf_some h1
        subst this
        exact t_cmp (o.Kw L) o.un (H.e o h2) (H.e o h3) (marks_plain (by simpa using hb) _)
      · cases h
  · split at h
    · cases h
    · rename_i hb
      split at h
      · rename_i h1 h2 h3 h4 h5
        cases h
        have := copOf_some h1
        subst this
        have := copOf_some h2
        subst this
        exact t_chn (o.Kw L) o.un (H.e o h3) (H.e o h4) (H.e o h5) (marks_plain (by simpa using hb) _)
      · cases h
  · split at h
    · rename_i hp
      exact m_test (o.Kw L) (H.e o h) (true_plain hp X.env)
    · cases h
theorem snd_i (L : Lw W pr F K mg tb) (H : Snd W pr F K mg tb k n) {tg e : Expr} {c : I} (o : Cok W pr F K mg k Wx cc X) (h : cI tb pr (n + 1) cc tg e = some c) : PI X tg e (tI W Wx (evI pr (callF pr k) c)) := by
  simp only [cI] at h
  split at h
  · split at h
    · rename_i hc
      simp only [Bool.and_eq_true, decide_eq_true_eq, Bool.not_eq_true'] at hc
      obtain ⟨⟨hx, hg⟩, hs⟩ := hc
      subst hx
      split at h
      · split at h
        · rename_i h1 hn
          cases h
          exact i_range1 rfl (o.gl hg) (by rw [o.mg]; exact L.blt _ (by decide)) (H.s o h1) hn (starEach_cons hs [] X.env)
        · cases h
      · cases h
    · simp only [Option.map_eq_some_iff] at h
      obtain ⟨c, h2, rfl⟩ := h
      exact i_ex (o.Kw L) (H.e o h2)
  · split at h
    · rename_i hc
      simp only [Bool.and_eq_true, decide_eq_true_eq, Bool.not_eq_true'] at hc
      obtain ⟨⟨⟨hx, hg⟩, hs⟩, hs2⟩ := hc
      subst hx
      split at h
      · split at h
        · rename_i h1 hn
          cases h
          refine i_range2 rfl (o.gl hg) (by rw [o.mg]; exact L.blt _ (by decide)) (H.s o h1) hn ?_ (starEach_cons hs2 [] X.env)
          rw [starEach_cons hs, starEach_cons hs2]; rfl
        · cases h
      · cases h
    · simp only [Option.map_eq_some_iff] at h
      obtain ⟨c, h2, rfl⟩ := h
      exact i_ex (o.Kw L) (H.e o h2)
  · simp only [Option.map_eq_some_iff] at h
    obtain ⟨c, h2, rfl⟩ := h
    exact i_ex (o.Kw L) (H.e o h2)
theorem args_ok (L : Lw W pr F K mg tb) (H : Snd W pr F K mg tb k n) {es : List Expr} {c : Es} {pos : Pos} (o : Cok W pr F K mg k Wx cc X) (h : cEs tb pr n cc es = some c) (hs : es.any isStar = false) : ArgsOk X pos es c (tL W Wx (evEs pr (callF pr k) c)) := by
  cases es with
  | nil =>
    cases n with
    | zero => simp [cEs] at h
    | succ n =>
      simp only [cEs, Option.some.injEq] at h
      exact .inl ⟨rfl, h.symm⟩
  | cons a r =>
    have h2 := hs
    simp only [List.any_cons, Bool.or_eq_false_iff] at h2
    exact .inr ⟨H.s o h, a, r, rfl, starEach_cons h2.1 r X.env, starEach_plain h2.2⟩
/-- the context of a comprehension's block -/
theorem blk_ok (o : Cok W pr F K mg k Wx cc X) (s : Shared) (H0 : Hp) (scope : Scope) (cl : List (Str × Addr)) (C : Addr) (fp : List Addr) : Cok W pr F K mg k WF0 ⟨cc.N, relS scope cc.sc, cc.calm, cellsOf scope⟩ (X.blk s H0 scope (compEnvC scope cl C X.env) fp) where
  K := o.K
  mg := o.mg
  N := o.N
  sc := by show relabel scope X.env = relS scope cc.sc; rw [← o.sc]; rfl
  nd := o.nd
  un := o.un
  calm := o.calm
  room := o.room
  calls := ⟨o.calls.ok⟩
  xc := ⟨o.xc.ok⟩
  tk := fun u s' ⟨a, B, sI, pins, σ, H, cls, d, _, _, _, _, _, _, _, _, w⟩ => w
  cells := fun x hx => by
    show (scope.names.lookup x == some NameKind.cell) = true
    have : x ∈ cellsOf scope := by simpa using hx
    unfold cellsOf at this
    obtain ⟨p, hp, hq⟩ := List.mem_filterMap.mp this
    split at hq
    · rename_i hl
      cases hq
      rw [hl]; rfl
    · cases hq
theorem m_kG {pr : Pr} {φ : Nat → List D → Hm → Rs D} {d : D} {v : V} {e : Expr} (hp : PE X e (tC v)) (hd : ∀ S α, Rl W S α d v) : PE X e (tE W Wx (evE pr φ (.k d))) := hp.weak fun σ H Q ⟨S, α, h, e, s, r, p⟩ => by
  simp only [evE] at p
  exact PostG.here s p (hd S α)
theorem hasM_ix {m n : Nat} (h : hasM pr m n = true) : Nonempty (MthIx pr m n) := by
  unfold hasM at h
  obtain ⟨cl, hm, hc⟩ := List.any_eq_true.mp h
  obtain ⟨c, hc1⟩ := List.mem_iff_getElem?.mp hm
  split at hc
  · rename_i g hg
    split at hc
    · rename_i fn hf
      exact ⟨⟨(c, g), cl, fn, hc1, hg, hf, hc⟩⟩
    · cases hc
  · cases hc
theorem tyOf_some {x : Str} {d : D} (h : tyOf x = some d) : ∃ n : String, TyD W d (.type n) (.ty n) ∧ bootBuiltins x = some (.type n) ∧ x ≠ "__name__" ∧ ∀ c, d ≠ .cls c := by
  unfold tyOf at h
  repeat' split at h
  all_goals first
    | cases h; done
    | (rename_i hx; subst hx; cases h; exact ⟨_, .ty rfl, rfl, by decide, fun c e => nomatch e⟩)
    | (rename_i hx; subst hx; cases h; exact ⟨_, .ve, rfl, by decide, fun c e => nomatch e⟩)
/-- x(..) of a global name -/
theorem snd_call (L : Lw W pr F K mg tb) (H : Snd W pr F K mg tb k n) {x : Str} {es : List Expr} {p pos : Pos} {c : E} (o : Cok W pr F K mg k Wx cc X) (h : cE tb pr (n + 1) cc (.Call (.Name x p) es [] pos) = some c) : PE X (.Call (.Name x p) es [] pos) (tE W Wx (evE pr (callF pr k) c)) := by
  simp only [cE] at h
  split at h
  · rename_i hc
    simp only [Bool.and_eq_true, Bool.not_eq_true'] at hc
    obtain ⟨⟨hg, hd⟩, hs⟩ := hc
    have hgl := o.gl hg
    split at h
    · rename_i cs h1
      have ha := args_ok L H (pos := pos) o h1 hs
      split at h
      · rename_i m hm
        split at h
        · rename_i f hf
          split at h
          · rename_i fn hfn
            split at h
            · rename_i hcc
              simp only [Bool.and_eq_true] at hcc
              cases h
              have := L.fns x f hf
              rw [← o.K] at L
              exact m_callA L.FF o.calls ((o.room hcc.1).mono (by omega)) o.tk hfn hm hcc.2 hgl (by rw [o.mg]; exact this) ha (dull_d hd)
            · cases h
          · cases h
        · split at h
          · rename_i c hcl
            split at h
            · rename_i cl hcl2
              split at h
              · rename_i hisx
                split at h
                · rename_i hcc
                  simp only [Bool.and_eq_true, Bool.or_eq_true, Bool.not_eq_true', List.isEmpty_iff] at hcc
                  cases h
                  have := (L.clss x c hcl).1
                  have hnil : cl.exf = [] → es = [] ∧ cs = .nil := fun he => by
                    rcases hcc.2 with z | z
                    · rw [he] at z; simp at z
                    · subst z
                      cases n with
                      | zero => simp [cEs] at h1
                      | succ n =>
                        simp only [cEs, Option.some.injEq] at h1
                        exact ⟨rfl, h1.symm⟩
                  rw [← o.K] at L
                  exact m_mkx L.XF o.xc ((o.room hcc.1).mono (by omega)) hcl2 hisx hm hnil hgl (by rw [o.mg]; exact this) ha (dull_d hd)
                · cases h
              · rename_i hisx
                split at h
                · rename_i f hf
                  split at h
                  · rename_i fn hfn
                    split at h
                    · rename_i hcc
                      simp only [Bool.and_eq_true] at hcc
                      cases h
                      have := (L.clss x c hcl).1
                      rw [← o.K] at L
                      exact m_mk L.FF L.MF o.calls ((o.room hcc.1).mono (by omega)) o.tk hcl2 (by simpa using hisx) hf hfn hm hcc.2 hgl (by rw [o.mg]; exact this) ha (dull_d hd)
                    · cases h
                  · cases h
                · cases h
            · cases h
          · split at h
            · rename_i b hb
              split at h
              · rename_i hcc
                simp only [Bool.and_eq_true, Bool.not_eq_true'] at hcc
                cases h
                obtain ⟨hx, hbm⟩ := bltOf_some hb
                subst hx
                obtain ⟨b1, b2, b3⟩ := boot_of hbm
                cases es with
                | nil => simp at hcc
                | cons a r =>
                  have h2 := hs
                  simp only [List.any_cons, Bool.or_eq_false_iff] at h2
                  exact m_blt (blt_ok (o.Kw L) (o.calm hcc.1) hbm) b3 hgl (by rw [o.mg]; exact L.blt _ (List.mem_append_left _ (List.mem_map_of_mem hbm))) b1 (H.s o h1) b2 (dull_d hd) (starEach_cons h2.1 r X.env) (starEach_plain h2.2)
              · cases h
            · cases h
      · cases h
    · split at h
      · rename_i a y py
        split at h
        · rename_i hc
          simp only [Bool.and_eq_true, decide_eq_true_eq] at hc
          obtain ⟨⟨hx, hgc⟩, hdc⟩ := hc
          subst hx
          have h2 := hs
          simp only [List.any_cons, Bool.or_eq_false_iff] at h2
          have hm : X.mg "isinstance" = none := by rw [o.mg]; exact L.blt _ (by decide)
          split at h
          · rename_i ca hca
            have he := H.e (Wx := Wx) o hca
            have hK := o.Kw L
            split at h
            · rename_i c hcl
              cases h
              obtain ⟨z1, z2⟩ := L.clss _ c hcl
              rw [← o.K] at L
              exact m_isi L.IF hK rfl hgl hm he (pe_glob (v := .ref (W.ca c)) (o.gl hgc) (by rw [o.mg]; exact z1) rfl (dull_d hdc)) (.own c) (fun n e => by cases e; exact z2) (starEach_cons h2.1 _ X.env) rfl rfl
            · simp only [Option.map_eq_some_iff] at h
              obtain ⟨d, hty, rfl⟩ := h
              obtain ⟨nm, t1, t2, t3, t4⟩ := tyOf_some (W := W) hty
              have z := L.tys _ d hty
              rw [← o.K] at L
              exact m_isi L.IF hK rfl hgl hm he (pe_bltn (v := .ty nm) (o.gl hgc) (by rw [o.mg]; exact z) t2 rfl t3 (dull_d hdc)) t1 (fun n e => absurd e (t4 n)) (starEach_cons h2.1 _ X.env) rfl rfl
          · cases h
        · cases h
      · cases h
  · cases h
theorem bm_ok (hK : W.K = X.K) : ∀ {b : Bm}, b ∈ bms → ∃ id, PlainAttrs (bmT b) ∧ Slot (bmT b) (nameM b) id ∧ typeOf (.builtin id) = pure (.type "method_descriptor") ∧ MtR X id (rBm W b) := by
  intro b h
  simp only [bms, List.mem_cons, List.not_mem_nil, or_false] at h
  rcases h with rfl | rfl | rfl | rfl | rfl | rfl
  · exact ⟨_, PySem.F.plainAttrs_list, PySem.F.slot_list_append, PySem.F.type_list_append, bm_append⟩
  · exact ⟨_, PySem.F.plainAttrs_list, PySem.F.slot_list_pop, PySem.F.type_list_pop, bm_pop⟩
  · exact ⟨_, PySem.F.plainAttrs_list, PySem.F.slot_list_index, PySem.F.type_list_index, bm_index hK⟩
  · exact ⟨_, PySem.F.plainAttrs_str, PySem.F.slot_str_split, PySem.F.type_str_split, bm_split⟩
  · exact ⟨_, PySem.F.plainAttrs_str, PySem.F.slot_str_join, PySem.F.type_str_join, bm_join hK⟩
  · exact ⟨_, PySem.F.plainAttrs_str, PySem.F.slot_str_count, PySem.F.type_str_count, bm_count⟩
/-- o.m(..) -/
theorem snd_meth (L : Lw W pr F K mg tb) (H : Snd W pr F K mg tb k n) {m : Str} {ob : Expr} {es : List Expr} {ap pos : Pos} {c : E} (o : Cok W pr F K mg k Wx cc X) (h : cE tb pr (n + 1) cc (.Call (.Attribute ob m ap) es [] pos) = some c) :
    PE X (.Call (.Attribute ob m ap) es [] pos) (tE W Wx (evE pr (callF pr k) c)) := by
  simp only [cE] at h
  split at h
  · rename_i hc
    simp only [Bool.and_eq_true, Bool.not_eq_true', decide_eq_true_eq] at hc
    obtain ⟨⟨⟨h0, hs⟩, hn⟩, hl⟩ := hc
    split at h
    · rename_i co cs h1 h2
      have ho := H.e (Wx := Wx) o h1
      split at h
      · rename_i b hb
        obtain ⟨hx, hbm⟩ := bmOf_some hb
        subst hx
        obtain ⟨id, b1, b2, b3, b4⟩ := bm_ok (o.Kw L) hbm
        split at h
        · split at h
          · rename_i hp
            cases h
            exact m_bm0 (o.Kw L) b1 b2 b3 b4 ho h0 hl
          · cases h
        · cases h
          rename_i hne
          cases es with
          | nil => exact absurd rfl hne
          | cons a r => exact m_bm (o.Kw L) b1 b2 b3 b4 ho (H.s o h2) h0 hs hn hl
      · split at h
        · rename_i kk mi hk hmi
          split at h
          · rename_i hcc
            simp only [Bool.and_eq_true] at hcc
            cases h
            obtain ⟨i0⟩ := hasM_ix hcc.2
            have ha := args_ok L H (pos := pos) o h2 hs
            have hm := L.nm m mi hmi
            subst hm
            rw [← o.K] at L
            exact m_mth L.FF L.MF L.FA o.calls ((o.room hcc.1).mono (by omega)) o.tk hk i0 ho ha (call_meth h0 hs hn hl)
          · cases h
        · cases h
    · cases h
  · cases h
theorem snd_lc (L : Lw W pr F K mg tb) (H : Snd W pr F K mg tb k n) {elt tg iter : Expr} {ifs : List Expr} {scope : Scope} {pos : Pos} {c : E} (o : Cok W pr F K mg k Wx cc X) (h : cE tb pr (n + 1) cc (.ListComp elt [⟨tg, iter, ifs, 0⟩] scope pos) = some c) :
    PE X (.ListComp elt [⟨tg, iter, ifs, 0⟩] scope pos) (tE W Wx (evE pr (callF pr k) c)) ∧ (∀ {i : Nat} {y : Str} {py spos : Pos}, X.N[i]? = some y → X.env.scope.names.lookup y = some .local → swapsWith (.ListComp elt [⟨tg, iter, ifs, 0⟩] scope pos) (some (.Name y py)) spos.line X.env = pure true →
      PS X (.Assign [.Name y py] (.ListComp elt [⟨tg, iter, ifs, 0⟩] scope pos) spos) (tS W Wx (exS pr (callF pr k) (.set i c)))) := by
  simp only [cE] at h
  split at h
  · rename_i hc
    simp only [Bool.and_eq_true, Bool.not_eq_true'] at hc
    obtain ⟨⟨hcm, hst⟩, hb⟩ := hc
    split at h
    · rename_i i t q e h1 h2 h3 h4
      split at h
      · rename_i ht
        cases h
        have hblk : BlkOk X.N X.env.scope scope (ownOf cc.N scope) := by
          rw [o.N, o.sc]; exact blkOk_by hb
        have hO : ∀ (s : Shared) (H0 : Hp) (C : Addr) (cl : List (Str × Addr)) (fp : List Addr), Cok W pr F K mg k WF0 ⟨cc.N, relS scope cc.sc, cc.calm, cellsOf scope⟩ (X.blk s H0 scope (compEnvC scope cl C X.env) fp) := fun s H0 C cl fp => blk_ok o s H0 scope cl C fp
        have hown : ∀ i ∈ tgS t, i ∈ (ownOf cc.N scope).map (·.2) := fun i hi => by
          have := List.all_eq_true.mp ht i hi
          simpa using this
        exact ⟨m_comp (o.calm hcm) o.nodup (H.i o h1) hblk (fun s H0 C cl fp => cTg_ok L (hO s H0 C cl fp) h2) (fun s H0 C cl fp => H.q (hO s H0 C cl fp) h3) (fun s H0 C cl fp => H.e (hO s H0 C cl fp) h4) (folded_plain hst X.env) hown,
          fun hy hyl hsw => s_setLc (o.calm hcm) o.nodup hy hyl hsw (H.i o h1) hblk (fun s H0 C cl fp => cTg_ok L (hO s H0 C cl fp) h2) (fun s H0 C cl fp => H.q (hO s H0 C cl fp) h3) (fun s H0 C cl fp => H.e (hO s H0 C cl fp) h4) (folded_plain hst X.env) hown⟩
      · cases h
    · cases h
  · cases h
theorem snd_e (L : Lw W pr F K mg tb) (H : Snd W pr F K mg tb k n) {e : Expr} {c : E} (o : Cok W pr F K mg k Wx cc X) (h : cE tb pr (n + 1) cc e = some c) : PE X e (tE W Wx (evE pr (callF pr k) c)) := by
  have h0 := h
  simp only [cE] at h
  split at h
  · cases h; exact m_k pe_non rfl
  · cases h; exact m_k pe_bl rfl
  · cases h; exact m_k pe_int rfl
  · cases h; exact m_k pe_str rfl
  · split at h
    · rename_i hd
      split at h
      · rename_i hv
        simp only [Option.map_eq_some_iff] at h
        obtain ⟨i, h2, rfl⟩ := h
        exact m_v (pe_var (o.at_ h2) (o.vis hv) (dull_d hd) (dull_c hd))
      · split at h
        · rename_i hg
          simp only [Option.map_eq_some_iff] at h
          obtain ⟨d, h2, rfl⟩ := h
          obtain ⟨u, v, h3, h4, h5⟩ := L.cons _ _ h2
          exact m_kG (pe_glob (o.gl hg) (by rw [o.mg]; exact h3) h4 (dull_d hd)) h5
        · cases h
    · cases h
  · simp only [Option.map_eq_some_iff] at h
    obtain ⟨c, h2, rfl⟩ := h
    exact m_neg (H.e o h2)
  · simp only [Option.map_eq_some_iff] at h
    obtain ⟨c, h2, rfl⟩ := h
    exact m_not (o.Kw L) (H.e o h2)
  · split at h
    · rename_i h1 h2 h3
      cases h
      have := bopOf_some h1
      subst this
      exact m_bin (o.Kw L) (H.e o h2) (H.e o h3)
    · cases h
  · split at h
    · rename_i hc
      simp only [Bool.and_eq_true, decide_eq_true_eq, Bool.not_eq_true'] at hc
      obtain ⟨⟨hx, hg⟩, hs⟩ := hc
      split at h
      · rename_i h1 h2
        cases h
        exact m_inr hx (o.gl hg) (by rw [o.mg, hx]; exact L.blt _ (by decide)) (H.e o h1) (H.s o h2) hs
      · cases h
    · cases h
  · split at h
    · cases h
    · rename_i hb
      split at h
      · rename_i h1 h2 h3
        cases h
        have := copOf_some h1
        subst this
        exact m_cmp (o.Kw L) o.un (H.e o h2) (H.e o h3) (marks_plain (by simpa using hb) _)
      · cases h
  · split at h
    · cases h
    · rename_i hb
      split at h
      · rename_i h1 h2 h3 h4 h5
        cases h
        have := copOf_some h1
        subst this
        have := copOf_some h2
        subst this
        exact m_chn (o.Kw L) o.un (H.e o h3) (H.e o h4) (H.e o h5) (marks_plain (by simpa using hb) _)
      · cases h
  · exact m_one (H.e o h)
  · split at h
    · rename_i h1 h2
      cases h
      exact m_and (o.Kw L) (H.e o h1) (H.e o h2)
    · cases h
  · split at h
    · rename_i h1 h2
      cases h
      exact m_or (o.Kw L) (H.e o h1) (H.e o h2)
    · cases h
  · split at h
    · rename_i h1 h2 h3
      cases h
      exact m_ife (H.t o h1) (H.e o h2) (H.e o h3)
    · cases h
  · simp only [Option.map_eq_some_iff] at h
    obtain ⟨c, h2, rfl⟩ := h
    exact m_tup (H.s o h2)
  · simp only [Option.map_eq_some_iff] at h
    obtain ⟨c, h2, rfl⟩ := h
    exact m_lst (H.s o h2)
  · split at h
    · rename_i h1 h2 h3
      cases h
      exact m_sl (H.e o h1) (H.o o h2) (H.o o h3)
    · cases h
  · split at h
    · cases h
    · rename_i hb
      split at h
      · rename_i h1 h2
        cases h
        exact m_idx (o.Kw L) o.un (H.e o h1) (H.e o h2) (ix_plain (by simpa using hb))
      · cases h
  · split at h
    · cases h
    · rename_i hb
      split at h
      · rename_i h1 h2
        split at h
        · cases h
        · rename_i hp
          cases h
          have hm := L.nm _ _ h2
          subst hm
          exact m_fld (o.Kw L) L.FA (H.e o h1) (base_plain (by simpa using hb) _ _ _) fun c cl g hc hl => by
            apply hp
            rw [List.any_eq_true]
            exact ⟨cl, List.mem_iff_getElem?.mpr ⟨c, hc⟩, by rw [hl]; rfl⟩
      · cases h
  · exact snd_call L H o h0
  · exact snd_meth L H o h0
  · exact (snd_lc L H o h0).1
  · cases h
theorem snd (L : Lw W pr F K mg tb) : ∀ n, Snd W pr F K mg tb k n
  | 0 => ⟨fun _ h => by simp [cE] at h, fun _ h => by simp [cT] at h, fun _ h => by simp [cW] at h, fun _ h => by simp [cIfs] at h, fun _ h => by simp [cO] at h, fun _ h => by simp [cEs] at h, fun _ h => by simp [cI] at h⟩
  | n + 1 => ⟨fun o h => snd_e L (snd L n) o h, fun o h => snd_t L (snd L n) o h, fun o h => snd_w (snd L n) L o h, fun o h => snd_q (snd L n) o h, fun o h => snd_o (snd L n) o h, fun o h => snd_s L (snd L n) o h, fun o h => snd_i L (snd L n) o h⟩
end
end Pm

set_option linter.all false
set_option maxRecDepth 100000
set_option maxHeartbeats 2000000
namespace Pm
open PySem PySem.Spec L2
/-! ### stores that swap -/
def swNames (sc : Scope) (line : Nat) (ts : List Expr) : List Str := ts.filterMap fun
  | .Name id pos => if sc.names.lookup id == some .local && pos.line == line then some id else none
  | _ => none
def swp (sc : Scope) (ts vs : List Expr) : Option (Option (List Str)) :=
  if (!(ts.length == 2 || ts.length == 3) || vs.length != ts.length) = true then some none
  else if vs.any isStar = true then some none
  else if ((swNames sc ((ts.head?.map (·.pos.line)).getD 0) ts).length != ts.length || (swNames sc ((ts.head?.map (·.pos.line)).getD 0) ts).eraseDups.length != (swNames sc ((ts.head?.map (·.pos.line)).getD 0) ts).length) = true then some none
  else if vs.all (foldedForSure 8) = true then some none
  else if vs.all (constantsAlone 8) = true then none
  else some (some (swNames sc ((ts.head?.map (·.pos.line)).getD 0) ts))
theorem swp_ok {env : Env} (hk : env.scope.kind = .function) {ts vs : List Expr} {k k2 : Nat} {p p2 : Pos} {r : Option (List Str)} (h : swp env.scope ts vs = some r) : swappedStores [.Tuple ts k p] (.Tuple vs k2 p2) env = pure r := by
  have hb : (env.blockKind != .function) = false := by unfold Env.blockKind; rw [hk]; rfl
  have key : swappedStores [.Tuple ts k p] (.Tuple vs k2 p2) env = (if (!(ts.length == 2 || ts.length == 3) || vs.length != ts.length || env.blockKind != .function) = true then pure none
      else if vs.any isStar = true then pure none
      else if ((swNames env.scope ((ts.head?.map (·.pos.line)).getD 0) ts).length != ts.length || (swNames env.scope ((ts.head?.map (·.pos.line)).getD 0) ts).eraseDups.length != (swNames env.scope ((ts.head?.map (·.pos.line)).getD 0) ts).length) = true then pure none
      else if vs.all (foldedForSure 8) = true then pure none
      else if vs.all (constantsAlone 8) = true then (do unsupported "assign.tuple-of-constant-expressions:order-of-the-stores"; pure (some (swNames env.scope ((ts.head?.map (·.pos.line)).getD 0) ts)))
      else pure (some (swNames env.scope ((ts.head?.map (·.pos.line)).getD 0) ts))) := rfl
  rw [key, hb, Bool.or_false]
  unfold swp at h
  repeat' split at h
  all_goals first
    | (cases h; done)
    | skip
  all_goals cases h
  all_goals simp only [*, if_true, if_false, Bool.false_eq_true]
def isTupE : Expr → Bool
  | .Tuple .. => true
  | _ => false
theorem swapped_notTup {e t : Expr} (h : isTupE e = false) (env : Env) : swappedStores [t] e env = pure none := by
  cases e <;> first | (simp [isTupE] at h; done) | (cases t <;> rfl)
theorem swapped_sub {e o i : Expr} {p : Pos} (env : Env) : swappedStores [.Subscript o i p] e env = pure none := by
  cases e <;> rfl
theorem swaps_attr {e o : Expr} {f : Str} {p : Pos} (l : Nat) (env : Env) : swapsWith e (some (.Attribute o f p)) l env = pure false := by
  cases e <;> rfl
theorem swaps_sub {e o i : Expr} {p : Pos} (l : Nat) (env : Env) : swapsWith e (some (.Subscript o i p)) l env = pure false := by
  cases e <;> rfl
theorem swaps_tup {e : Expr} {es : List Expr} {k : Nat} {p : Pos} (l : Nat) (env : Env) : swapsWith e (some (.Tuple es k p)) l env = pure false := by
  cases e <;> rfl
theorem assign_sub {o i : Expr} {pos : Pos} {env : Env} (hi : isSlice i = false) (v : Value) : assign (.Subscript o i pos) env v = (do
      let ov ← holding [v] (eval o env)
      let iv ← holding [v, ov] (eval i env)
      standAt pos
      holding [v, ov, iv] (setItem ov iv v)
      release [v, ov, iv] []) := by
  cases i <;> first | (simp [isSlice] at hi; done) | rfl
theorem swapsS_tup {e : Expr} {es : List Expr} {k : Nat} {p : Pos} (l : Nat) (env : Env) : swapsWithSole [.Tuple es k p] e l env = pure false := swaps_tup (es := es) (k := k) (p := p) l env
theorem swapsS_sub {e o i : Expr} {p : Pos} (l : Nat) (env : Env) : swapsWithSole [.Subscript o i p] e l env = pure false := swaps_sub (o := o) (i := i) (p := p) l env
/-- does [..] = swap with its name -/
def swLc (scope : Scope) (y : Str) (py pos : Pos) : Bool := (py.line == pos.line) && !(scope.names.any fun (n, k) => n == y && (k == .local || k == .cell))
theorem swLc_ok {elt : Expr} {gs : List Comprehension} {scope : Scope} {pos py : Pos} {y : Str} {l : Nat} {env : Env} (hk : env.scope.kind = .function) : swapsWith (.ListComp elt gs scope pos) (some (.Name y py)) l env = pure (decide (env.scope.names.lookup y = some .local) && swLc scope y py pos) := by
  have hb : env.blockKind = .function := by unfold Env.blockKind; rw [hk]; rfl
  unfold swapsWith
  simp only [hb, Expr.pos, swLc, Env.kindOf]
  show pure _ = pure _
  congr 1
  have e1 : (ScopeKind.function == ScopeKind.function) = true := rfl
  rw [e1, Bool.true_and, Bool.and_assoc]
  congr 1
  rw [Bool.eq_iff_iff]
  simp
def augOk : Bop → Bool
  | .add => true
  | .sub => true
  | _ => false
theorem augOk_some {o : Bop} (h : augOk o = true) : ∃ g, augT o = some g := by cases o <;> simp [augOk] at h <;> exact ⟨_, rfl⟩
section
variable (tb : Tb) (pr : Pr)
mutual
def cS : Nat → Cc → Stmt → Option S
  | 0, _, _ => none
  | n + 1, cc, s => match s with
    | .Assign [.Name x _] e _ => if isSt cc x then match ixOf cc.N x, cE tb pr n cc e with
        | some i, some c => match e with
          | .ListComp _ [⟨_, _, _, 0⟩] _ _ => some (.set i c)
          | _ => if isLc e then none else some (.set i c)
        | _, _ => none
      else none
    | .Assign [.Attribute o f _] e _ => match cE tb pr n cc o, ixOf tb.nms f, cE tb pr n cc e with
      | some o, some f, some c => some (.fld o f c)
      | _, _, _ => none
    | .Assign [.Subscript o i _] e _ => if isSlice i then none else match cE tb pr n cc o, cE tb pr n cc i, cE tb pr n cc e with
      | some o, some i, some c => some (.sub o i c)
      | _, _, _ => none
    | .Assign [.Tuple ts _ _] (.Tuple vs _ _) _ => match swp cc.sc ts vs with
      | some none => match cTg cc (.Tuple ts 0 ⟨0, 0, 0, 0⟩), cEs tb pr n cc vs with
        | some (.tup is), some cs => some (.unp is (.tup cs))
        | _, _ => none
      | some (some ns) => if cc.calm then match ts, vs with
        | [.Name x _, .Name y _], [_, _] => match ixOf cc.N x, ixOf cc.N y, cEs tb pr n cc vs with
          | some i, some j, some cs => if ns = [x, y] ∧ i ≠ j ∧ isLoc cc.sc x = true ∧ isLoc cc.sc y = true then some (.par [i, j] cs) else none
          | _, _, _ => none
        | [.Name x _, .Name y _, .Name z _], [_, _, _] => match ixOf cc.N x, ixOf cc.N y, ixOf cc.N z, cEs tb pr n cc vs with
          | some i, some j, some l, some cs => if ns = [x, y, z] ∧ i ≠ j ∧ i ≠ l ∧ j ≠ l ∧ isLoc cc.sc x = true ∧ isLoc cc.sc y = true ∧ isLoc cc.sc z = true then some (.par [i, j, l] cs) else none
          | _, _, _, _ => none
        | _, _ => none
        else none
      | none => none
    | .Assign [.Tuple ts k p] e _ => if isTupE e then none else match cTg cc (.Tuple ts k p), cE tb pr n cc e with
      | some (.tup is), some c => some (.unp is c)
      | _, _ => none
    | .AugAssign (.Name x _) o e _ => if isSt cc x then match ixOf cc.N x, bopOf o, cE tb pr n cc e with
        | some i, some o, some c => if augOk o then some (.aug i o c) else none
        | _, _, _ => none
      else none
    | .AugAssign (.Attribute a f _) o e _ => match cE tb pr n cc a, ixOf tb.nms f, bopOf o, cE tb pr n cc e with
      | some a, some f, some o, some c => if augOk o then some (.augf a f o c) else none
      | _, _, _, _ => none
    | .Expr e _ => if isLc e then none else (cE tb pr n cc e).map S.ex
    | .If c a b _ => match cT tb pr n cc c, cB n cc a, cB n cc b with
      | some c, some a, some b => some (.ite c a b)
      | _, _, _ => none
    | .For tg it b [] _ => if cc.calm && !isSet it then match cTg cc tg, cI tb pr n cc tg it, cB n cc b with
        | some t, some i, some b => some (.for t i b)
        | _, _, _ => none
      else none
    | .While c b [] _ => match cT tb pr n cc c, cB n cc b with
      | some c, some b => some (.while c b)
      | _, _ => none
    | .Return none _ => some (.ret (.k .non))
    | .Return (some e) _ => (cE tb pr n cc e).map S.ret
    | .Pass _ => some .pass
    | .Break _ => some .brk
    | .Continue _ => some .cnt
    | _ => none
def cB : Nat → Cc → List Stmt → Option (List S)
  | 0, _, _ => none
  | n + 1, cc, b => match b with
    | [] => some []
    | s :: r => match cS n cc s, cB n cc r with
      | some s, some r => some (s :: r)
      | _, _ => none
end
end
end Pm

set_option linter.all false
set_option maxRecDepth 100000
set_option maxHeartbeats 2000000
namespace Pm
open PySem PySem.Spec L2
section
variable {W : Wd} {pr : Pr} {F : Df} {K : PySem.W.Frag} {mg : Str → Option Value} {tb : Tb} {k : Nat} {Wx : WX} {cc : Cc} {X : Cx}
/-- where statements run -/
structure CokS (W : Wd) (pr : Pr) (F : Df) (K : PySem.W.Frag) (mg : Str → Option Value) (k : Nat) (Wx : WX) (cc : Cc) (X : Cx) : Prop where
  c : Cok W pr F K mg k Wx cc X
  kd : cc.sc.kind = .function
  po : PassesOwn (model X.prog X.w) X.A X.env X.xe
structure SndS (W : Wd) (pr : Pr) (F : Df) (K : PySem.W.Frag) (mg : Str → Option Value) (tb : Tb) (k n : Nat) : Prop where
  s : ∀ {Wx cc X st c}, CokS W pr F K mg k Wx cc X → cS tb pr n cc st = some c → PS X st (tS W Wx (exS pr (callF pr k) c))
  b : ∀ {Wx cc X st c}, CokS W pr F K mg k Wx cc X → cB tb pr n cc st = some c → PSs X st (tS W Wx (exB pr (callF pr k) c))
variable {n : Nat}
theorem ixOf_ne {l : List Str} {x y : Str} {i j : Nat} (h : ixOf l x = some i) (h2 : ixOf l y = some j) : i = j ∨ i ≠ j := Decidable.em _
theorem sndS_s (L : Lw W pr F K mg tb) (H : SndS W pr F K mg tb k n) {st : Stmt} {c : Pm.S} (o : CokS W pr F K mg k Wx cc X) (h : cS tb pr (n + 1) cc st = some c) : PS X st (tS W Wx (exS pr (callF pr k) c)) := by
  have E := snd (k := k) L n
  have hk : X.env.scope.kind = .function := by rw [o.c.sc]; exact o.kd
  simp only [cS] at h
  split at h
  · rename_i x px e pos
    split at h
    · rename_i hs
      split at h
      · rename_i i c h1 h2
        obtain ⟨a1, a2⟩ := o.c.st hs
        split at h
        · cases h
          rename_i elt tg iter ifs scope lp
          have hsw := swLc_ok (elt := elt) (gs := [⟨tg, iter, ifs, 0⟩]) (scope := scope) (pos := lp) (py := px) (y := x) (l := pos.line) hk
          cases hb : (decide (X.env.scope.names.lookup x = some .local) && swLc scope x px lp) with
          | false => rw [hb] at hsw; exact s_set o.c.nodup (o.c.at_ h1) a1 a2 (E.e o.c h2) hsw
          | true =>
            rw [hb] at hsw
            rw [Bool.and_eq_true] at hb
            cases n with
            | zero => simp [cE] at h2
            | succ n => exact (snd_lc L (snd L n) o.c h2).2 (o.c.at_ h1) (of_decide_eq_true hb.1) hsw
        · split at h
          · cases h
          · rename_i hl
            cases h
            exact s_set o.c.nodup (o.c.at_ h1) a1 a2 (E.e o.c h2) (swaps_none (by simpa using hl) _ _ _)
      · cases h
    · cases h
  · split at h
    · rename_i h1 h2 h3
      cases h
      have hm := L.nm _ _ h2
      subst hm
      exact s_fld (o.c.Kw L) L.FA (E.e o.c h1) (E.e o.c h3) (swaps_attr _ _)
    · cases h
  · split at h
    · cases h
    · rename_i hsl
      split at h
      · rename_i h1 h2 h3
        cases h
        exact s_sub (by have := o.c.un; omega) (E.e o.c h1) (E.e o.c h2) (E.e o.c h3) (assign_sub (by simpa using hsl)) (swapsS_sub _ _) (swapped_sub _) rfl
      · cases h
  · rename_i ts kt pt vs k2 p2 pos
    split at h
    · rename_i hsw
      split at h
      · rename_i is cs h1 h2
        cases h
        have hsw' := swp_ok (env := X.env) (k := kt) (k2 := k2) (p := pt) (p2 := p2) hk (by rw [o.c.sc]; exact hsw)
        have hg : PG X (.Tuple ts kt pt) (tGm W (.tup is)) := by
          simp only [cTg] at h1
          split at h1
          · rename_i hc
            simp only [Option.map_eq_some_iff] at h1
            obtain ⟨js, h3, h4⟩ := h1
            cases h4
            exact g_tup (o.c.Kw L) (o.c.calm hc) o.c.nodup (names_ok o.c h3)
          · cases h1
        exact s_unp hg (m_tup (E.s o.c h2)) (swapsS_tup _ _) hsw' rfl
      · cases h
    · rename_i ns hsw
      have hsw' := swp_ok (env := X.env) (k := kt) (k2 := k2) (p := pt) (p2 := p2) hk (by rw [o.c.sc]; exact hsw)
      split at h
      · rename_i hc
        split at h
        · split at h
          · rename_i i j cs h1 h2 h3
            split at h
            · rename_i hh
              cases h
              obtain ⟨g1, g2, g3, g4⟩ := hh
              subst g1
              exact s_par2 (o.c.calm hc) o.c.nodup (o.c.at_ h1) (o.c.at_ h2) g2 (o.c.loc g3) (o.c.loc g4) (E.s o.c h3) hsw' (swapsS_tup _ _)
            · cases h
          · cases h
        · split at h
          · rename_i i j l cs h1 h2 h3 h4
            split at h
            · rename_i hh
              cases h
              obtain ⟨g1, g2, g3, g4, g5, g6, g7⟩ := hh
              subst g1
              exact s_par3 (o.c.calm hc) o.c.nodup (o.c.at_ h1) (o.c.at_ h2) (o.c.at_ h3) g2 g3 g4 (o.c.loc g5) (o.c.loc g6) (o.c.loc g7) (E.s o.c h4) hsw' (swapsS_tup _ _)
            · cases h
          · cases h
        · cases h
      · cases h
    · cases h
  · split at h
    · cases h
    · rename_i ht
      split at h
      · rename_i is c h1 h2
        cases h
        exact s_unp (cTg_ok L o.c h1) (E.e o.c h2) (swapsS_tup _ _) (swapped_notTup (by simpa using ht) _) rfl
      · cases h
  · split at h
    · rename_i hs
      obtain ⟨a1, a2⟩ := o.c.st hs
      split at h
      · rename_i i b c h1 h2 h3
        split at h
        · rename_i ha
          cases h
          obtain ⟨g, hg⟩ := augOk_some ha
          have := bopOf_some h2
          subst this
          exact s_aug o.c.nodup (o.c.at_ h1) a1 a2 (E.e o.c h3) hg
        · cases h
      · cases h
    · cases h
  · split at h
    · rename_i a f b c h1 h2 h3 h4
      split at h
      · rename_i ha
        cases h
        obtain ⟨g, hg⟩ := augOk_some ha
        have := bopOf_some h3
        subst this
        have hm := L.nm _ _ h2
        subst hm
        exact s_augf (o.c.Kw L) L.FA (E.e o.c h1) (E.e o.c h4) hg
      · cases h
    · cases h
  · split at h
    · cases h
    · rename_i hl
      simp only [Option.map_eq_some_iff] at h
      obtain ⟨c, h2, rfl⟩ := h
      exact s_ex (E.e o.c h2) (swaps_none (by simpa using hl) _ _ _)
  · split at h
    · rename_i h1 h2 h3
      cases h
      exact s_ite (E.t o.c h1) (H.b o h2) (H.b o h3)
    · cases h
  · split at h
    · rename_i hc
      simp only [Bool.and_eq_true, Bool.not_eq_true'] at hc
      split at h
      · rename_i h1 h2 h3
        cases h
        exact s_for o.po (o.c.calm hc.1) (E.i o.c h2) (cTg_ok L o.c h1) (H.b o h3) (folded_plain hc.2 X.env)
      · cases h
    · cases h
  · split at h
    · rename_i h1 h2
      cases h
      exact s_while o.po (E.t o.c h1) (H.b o h2)
    · cases h
  · cases h; exact s_retN
  · simp only [Option.map_eq_some_iff] at h
    obtain ⟨c, h2, rfl⟩ := h
    exact s_ret (E.e o.c h2)
  · cases h; exact s_pass
  · cases h; exact s_brk
  · cases h; exact s_cnt
  · cases h
theorem sndS (L : Lw W pr F K mg tb) : ∀ n, SndS W pr F K mg tb k n
  | 0 => ⟨fun _ h => by simp [cS] at h, fun _ h => by simp [cB] at h⟩
  | n + 1 => ⟨fun o h => sndS_s L (sndS L n) o h, fun o h => by
      simp only [cB] at h
      split at h
      · cases h; exact b_nil
      · split at h
        · rename_i h1 h2
          cases h
          exact b_cons ((sndS L n).s o h1) ((sndS L n).b o h2)
        · cases h⟩
end
end Pm

set_option linter.all false
set_option maxRecDepth 100000
set_option maxHeartbeats 2000000
namespace Pm
open PySem PySem.Spec L2
section
variable {W : Wd} {pr : Pr} {F : Df} {K : PySem.W.Frag} {mg : Str → Option Value} {tb : Tb} {k : Nat} {P : Program} {w : World} {base : Heap}
/-- the text of a def and its code -/
structure FnTx (W : Wd) (pr : Pr) (F : Df) (K : PySem.W.Frag) (tb : Tb) (f : Nat) (fn : Fn) : Prop where
  ex : ∃ (x qual : Str) (params : Arguments) (body : List Stmt) (scope : Scope) (dvs : List V) (kws : List (Str × V)) (N : List Str) (n : Nat), FunD K x qual params body scope dvs kws (F.fa f) (F.fd f) ∧ FnScope N (F.ps f) scope ∧
    cB tb pr n ⟨N, scope, true, cellsOf scope⟩ body = some fn.body ∧ (F.ps f).length = fn.np ∧ N.length = fn.ns
def CallsG (P : Program) (w : World) (K : PySem.W.Frag) (mg : Str → Option Value) (base : Heap) (W : Wd) (pr : Pr) (F : Df) (k : Nat) : Prop :=
  ∀ (f : Nat) fn, pr.fns[f]? = some fn → FnOk P w K mg base (L2.CX P w) (3 * k) (F.fa f) (F.fd f) (F.ps f) (spM W pr k f)
def XCallsG (P : Program) (w : World) (K : PySem.W.Frag) (mg : Str → Option Value) (base : Heap) (W : Wd) (pr : Pr) (F : Df) : Prop :=
  ∀ (c : Nat) cl f, pr.cls[c]? = some cl → cl.isx = true → cl.exf ≠ [] → cl.init = some f → FnOk P w K mg base (L2.CX P w) 1 (F.fa f) (F.fd f) (F.ps f) (spX (W.ca c) (cl.exf.map W.nm))
theorem callF_some {f : Nat} {fn : Fn} (hf : pr.fns[f]? = some fn) {all : List D} {h : Hm} {S H : Hp} {α : List Addr} {Q : VK} {E : XK} (p : PostE W S α H (callF pr (k + 1) f all h) Q E) :
    all.length = fn.np ∧ PostE W S α H (if fn.keep then runF pr (callF pr k) fn all h else if noRefs all then aloneR h (runF pr (callF pr k) fn all []) else shut h.length (runF pr (callF pr k) fn all h)) Q E := by
  simp only [callF, hf] at p
  split at p
  · rename_i hl
    exact ⟨hl, p⟩
  · exact p.elim
theorem callF_len {f : Nat} {fn : Fn} (hf : pr.fns[f]? = some fn) {all : List D} {h : Hm} {S H : Hp} {α : List Addr} {Q : VK} {E : XK} (p : PostE W S α H (callF pr k f all h) Q E) : all.length = fn.np := by
  cases k with
  | zero => exact p.elim
  | succ k => exact (callF_some hf p).1
theorem REv.begin {S : Hp} {α : List Addr} {ds : List D} {vs : List V} {N : List Str} {m : Nat} (r : Rls W S α ds vs) (hm : m = N.length - vs.length) (hN : vs.length ≤ N.length) : REv W S α (ds ++ List.replicate m .un) (L2.start N vs) := by
  refine ⟨by simp [L2.start, r.length, hm], fun i d hd n => ?_⟩
  by_cases hi : i < ds.length
  · rw [List.getElem?_append_left hi] at hd
    obtain ⟨v, hv, l⟩ := r.get hd
    refine ⟨v, ?_, l⟩
    unfold L2.start
    rw [List.getElem?_append_left (by simpa [← r.length] using hi), List.getElem?_map, hv]
    rfl
  · rw [List.getElem?_append_right (by omega)] at hd
    have := List.eq_of_mem_replicate (List.mem_of_getElem? hd)
    exact absurd this n
/-- a body's end -/
theorem fin_post {S H : Hp} {α : List Addr} {o : Out} {Q : VK} {E : XK} (p : PostE W S α H (fin o) Q E) : PostS W S α H o { nx := fun _ H' => Q .non H', rt := Q } fun C dd _ H' => E C dd H' := by
  cases o with
  | bad => exact p
  | nx e h => exact fun S' α' H' σ' t r => p S' α' H' .non t (by simp only [Rl])
  | rt d h => exact fun S' α' H' v t r => p S' α' H' v t r
  | bk e h => exact p.elim
  | ct e h => exact p.elim
  | exc c fs vs e h => exact fun S' α' H' C dd σ' t r x => p S' α' H' C dd t x
theorem def_ok (L : Lw W pr F K mg tb) (C : CallsG P w K mg base W pr F k) (XC : XCallsG P w K mg base W pr F) {f : Nat} {fn : Fn} (hf : pr.fns[f]? = some fn) (T : FnTx W pr F K tb f fn) : FnOk P w K mg base (L2.CX P w) (3 * (k + 1)) (F.fa f) (F.fd f) (F.ps f) (spM W pr (k + 1) f) := by
  obtain ⟨x, qual, params, body, scope, dvs, kws, N, n, hF, hS, hB, hnp, hns⟩ := T.ex
  have hlen : ∀ vs H Q E, spM W pr (k + 1) f vs H Q E → vs.length = (F.ps f).length := by
    rintro vs H Q E ⟨S, α, h, ds, s, ls, p⟩
    rw [← ls.length, callF_len hf p, hnp]
  refine FunD.ok (k := 3 * k + 2) hF hS hlen fun cdv A outer s H vs Q E hr hsp => ?_
  have hvl := hlen vs H Q E hsp
  refine ⟨tS W (fun C dd _ H' => E C dd H') (exB pr (callF pr k) fn.body), ?_, ?_⟩
  · refine (sndS (k := k) L n).b ⟨⟨rfl, rfl, rfl, rfl, hS.nd, by have := hr.un; show (A.deeper _).units + 64 < cLine; omega, fun _ => rfl, fun _ => hr, ⟨C⟩, ?_, fun _ _ => rfl, ⟨XC⟩⟩, hS.kind, ?_⟩ hB
    · exact takes_of rfl rfl rfl rfl
    · exact passes_of rfl
  · obtain ⟨S, α, h, ds, sm, ls, p⟩ := hsp
    obtain ⟨hl, p2⟩ := callF_some hf p
    have hN : vs.length ≤ N.length := by
      rw [hvl]
      have := congrArg List.length hS.pre
      rw [List.length_take] at this
      omega
    have hm : fn.ns - fn.np = N.length - vs.length := by rw [← hns, ← hl, ls.length]
    have go : ∀ {S : Hp} {α : List Addr} {h : Hm}, Sim W S α h H → Rls W S α ds vs → PostE W S α H (runF pr (callF pr k) fn ds h) Q E → tS W (fun C dd _ H' => E C dd H') (exB pr (callF pr k) fn.body) { nx := fun _ H' => Q .non H', rt := Q } (L2.start N vs) H :=
      fun {S α h} sm ls p => ⟨S, α, h, _, sm, REv.begin ls hm hN, fin_post p⟩
    split at p2
    · exact go sm ls p2
    · split at p2
      · rename_i hno
        exact go sm.alone (Rls.alone hno ls) (PostE.alone sm p2)
      · exact go sm ls (PostE.shut sm p2)
/-- all the defs, to any depth -/
theorem calls_ok (L : Lw W pr F K mg tb) (XC : XCallsG P w K mg base W pr F) (T : ∀ (f : Nat) fn, pr.fns[f]? = some fn → FnTx W pr F K tb f fn) : ∀ k, CallsG P w K mg base W pr F k
  | 0 => fun f fn hf => ⟨fun vs H Q E ⟨S, α, h, ds, s, ls, p⟩ => p.elim, fun A outer s H args us vs Q E _ _ _ _ ⟨S, α, h, ds, sm, ls, p⟩ => p.elim⟩
  | k + 1 => fun f fn hf => def_ok L (calls_ok L XC T k) XC hf (T f fn hf)
end
end Pm

set_option linter.all false
set_option maxRecDepth 100000
set_option maxHeartbeats 2000000
namespace Pm
open PySem PySem.Spec L2
/-- a law's text -/
structure Tx where
  tb : Tb
  pr : Pr
  cl : List Str
  fn : List He.DefD
  ps : List (List Str)
  N : List (List Str)
def nmOf (l : List Str) (i : Nat) : Str := match l[i]? with
  | some x => x
  | none => ⟨#[0, i]⟩
theorem nmOf_inj {l : List Str} (hn : l.Nodup) (h0 : (l.all fun x => !(x.cps.getD 0 1 == 0)) = true) : ∀ f g, nmOf l f = nmOf l g → f = g := by
  have z : ∀ (f : Nat) x, l[f]? = some x → x.cps.getD 0 1 ≠ 0 := fun f x e => by
    have := List.all_eq_true.mp h0 x (List.mem_of_getElem? e)
    simpa using this
  intro f g e
  unfold nmOf at e
  cases hf : l[f]? with
  | none =>
    cases hg : l[g]? with
    | none =>
      rw [hf, hg] at e
      simpa using e
    | some y =>
      rw [hf, hg] at e
      simp only at e
      have := z g y hg
      rw [← e] at this
      exact absurd rfl this
  | some x =>
    cases hg : l[g]? with
    | none =>
      rw [hf, hg] at e
      simp only at e
      have := z f x hf
      rw [e] at this
      exact absurd rfl this
    | some y =>
      rw [hf, hg] at e
      simp only at e
      subst e
      exact nodup_ix hn hf hg
def fdAt (K : PySem.W.Frag) (a : Addr) : FuncData := match K.lookup a with
  | some ⟨_, _, .func fd, _⟩ => fd
  | _ => default
theorem fdAt_of {K : PySem.W.Frag} {a : Addr} {oc : Value} {od : Option Addr} {fd : FuncData} {osl : Array (Option Value)} (h : K.lookup a = some ⟨oc, od, .func fd, osl⟩) : fdAt K a = fd := by
  unfold fdAt; rw [h]
def Tx.ca (T : Tx) (K : PySem.W.Frag) (c : Nat) : Addr := He.ga K (T.cl.getD c ⟨#[]⟩)
def Tx.W (T : Tx) (K : PySem.W.Frag) : Wd := ⟨K, T.ca K, nmOf T.tb.nms⟩
def Tx.fa (T : Tx) (K : PySem.W.Frag) (f : Nat) : Addr := match T.fn[f]? with
  | some d => He.fAd K d.at_
  | none => 0
def Tx.F (T : Tx) (K : PySem.W.Frag) : Df := ⟨T.fa K, fun f => fdAt K (T.fa K f), fun f => T.ps.getD f []⟩
/-! ### what is asked of the heap -/
def tyNames : List String := ["NoneType", "bool", "int", "str", "tuple", "list", "dict"]
theorem tyn_mem {d : D} {n : String} (h : tyn d = some n) : n ∈ tyNames := by cases d <;> simp [tyn] at h <;> subst h <;> decide
def eqI (a b : Option Bool) : Bool := decide (a = b)
def constB (K : PySem.W.Frag) (x : Str) : D → Bool
  | .tup ds => (match flats ds with
    | some vs => He.eqO (PySem.W.nsIn K mainGlobals x) (some (some (.ref (He.ga K x)))) && (match K.lookup (He.ga K x) with
      | some ⟨.type c, _, .seq its _, _⟩ => decide (c = "tuple") && (decide (its.size ≤ sizeLine) && He.relAll vs its.toList)
      | _ => false)
    | none => false)
  | d => (match flatD d with
    | some v => (match PySem.W.nsIn K mainGlobals x with
      | some (some u) => He.relB v u
      | _ => false)
    | none => false)
def eqV2 (a b : Option Value) : Bool := decide (a = b)
def Tx.xB (T : Tx) (K : PySem.W.Frag) (c : Nat) (cl : Cl) : Bool :=
  (PySem.W.clsIn K (T.ca K c)).isSome && (He.eqO (PySem.W.findIn K (.ref (T.ca K c)) "__getattribute__") (some (some (.builtin "BaseException.__getattribute__"))) && (He.eqO (PySem.W.findIn K (.ref (T.ca K c)) "__getattr__") (some none) &&
  (eqI (PySem.W.subIn K (.ref (T.ca K c)) (.type "BaseException")) (some true) && (He.eqO (PySem.W.findIn K (.ref (T.ca K c)) "__class__") (some (some (.builtin "object.__class__"))) && (PySem.W.hasDictIn K (T.ca K c) && (eqI (PySem.W.mroIn K (T.ca K c) (.type "object")) (some true) &&
  (PySem.W.keepIn K (.ref (T.ca K c)) && (cl.exf.all (fun f => He.eqO (PySem.W.findIn K (.ref (T.ca K c)) (nmOf T.tb.nms f)) (some none)) &&
  (if cl.exf.isEmpty then PySem.W.excIn K (T.ca K c) He.veBase "ValueError.__new__" else oexB K (T.ca K c) && (He.eqO (PySem.W.findIn K (.ref (T.ca K c)) "__setattr__") (some (some (.builtin "object.__setattr__"))) && (eqV2 (PySem.W.typeIn K (.ref (T.ca K c))) (some (.type "type")) &&
    (match cl.init with
      | some f => He.eqO (PySem.W.findIn K (.ref (T.ca K c)) "__init__") (some (some (.ref (T.fa K f)))) && eqV2 (PySem.W.typeIn K (.ref (T.fa K f))) (some (.type "function"))
      | none => false))))))))))))
def Tx.clsB (T : Tx) (K : PySem.W.Frag) (c : Nat) (cl : Cl) : Bool :=
  (!cl.isx || T.xB K c cl) &&
  ((cl.isx || ((He.Fa.cls (T.cl.getD c ⟨#[]⟩)).ok K && (He.eqO (PySem.W.findIn K (.ref (T.ca K c)) "__class__") (some (some (.builtin "object.__class__"))) && (eqI (PySem.W.mroIn K (T.ca K c) (.type "object")) (some true) &&
    (match cl.init with
      | some f => (He.Fa.mkr (T.cl.getD c ⟨#[]⟩)).ok K && decide (He.ma K (T.ca K c) "__init__" = T.fa K f)
      | none => true))))) &&
  ((cl.flds.all fun f => He.eqO (PySem.W.findIn K (.ref (T.ca K c)) (nmOf T.tb.nms f)) (some none)) &&
  ((cl.mths.all fun p => He.eqO (PySem.W.findIn K (.ref (T.ca K c)) (nmOf T.tb.nms p.1)) (some (some (.ref (T.fa K p.2)))) && (PySem.W.isFn K (.ref (T.fa K p.2)) && PySem.W.keepIn K (.ref (T.fa K p.2)))) &&
  ((T.pr.cls.zipIdx.all fun q => eqI (PySem.W.kitOne K (.ref (T.ca K c)) (.ref (T.ca K q.2))) (some (decide (q.2 ∈ cl.mro)))) &&
  ((tyNames.all fun n => eqI (PySem.W.kitOne K (.ref (T.ca K c)) (.type n)) (some false) && eqI (PySem.W.kitOne K (.type n) (.ref (T.ca K c))) (some false)) &&
  eqI (PySem.W.kitOne K (.ref (T.ca K c)) (.type "ValueError")) (some cl.isx))))))
def Tx.chk (T : Tx) (K : PySem.W.Frag) : Bool :=
  (T.tb.fns.all fun p => He.eqO (PySem.W.nsIn K mainGlobals p.1) (some (some (.ref (T.fa K p.2))))) &&
  ((T.tb.clss.all fun p => He.eqO (PySem.W.nsIn K mainGlobals p.1) (some (some (.ref (T.ca K p.2))))) &&
  ((T.tb.cons.all fun p => constB K p.1 p.2) &&
  (((asked ++ (["int", "bool", "str", "tuple", "list", "dict", "ValueError"] : List Str)).all fun x => He.eqO (PySem.W.nsIn K mainGlobals x) (some none)) &&
  ((T.pr.cls.zipIdx.all fun q => T.clsB K q.2 q.1) &&
  (He.eqO (PySem.W.specialIn K (.builtin "object.__class__") "__get__") (some (some (.builtin "getset_descriptor.__get__"))) && eqI (PySem.W.takesIn K (.builtin "object.__class__")) (some true))))))
/-- what the text alone says of a def -/
structure Stat (T : Tx) (f : Nat) (fn : Fn) (d : He.DefD) : Prop where
  at_ : T.fn[f]? = some d
  sc : FnScope (T.N.getD f []) (T.ps.getD f []) d.scope
  code : cB T.tb T.pr 60 ⟨T.N.getD f [], d.scope, true, cellsOf d.scope⟩ d.body = some fn.body
  np : (T.ps.getD f []).length = fn.np
  ns : (T.N.getD f []).length = fn.ns
  bnd : ∀ n, fn.ar.contains n = true → ∀ (K : PySem.W.Frag) (a : Addr) (fd : FuncData), FunD K d.name d.qual d.params d.body d.scope (d.dvs K) (d.kws K) a fd → ∃ dvs ds, flats (fn.dfl.drop (n + fn.dfl.length - fn.np)) = some dvs ∧ Vals dvs ds ∧ Binds K fd (T.ps.getD f []) ds
/-- the text of an exception's __init__ -/
def Tx.xiB (T : Tx) (cl : Cl) : Bool := match cl.init with
  | some f => (match T.fn[f]?, T.ps[f]?, T.pr.fns[f]? with
    | some d, some (me :: qs), some fn => xinitB me (cl.exf.map (nmOf T.tb.nms)) qs d.body && (decide (cl.exf.length = qs.length) && (decide ((cl.exf.map (nmOf T.tb.nms)).Nodup) && (decide (cl.exf.length ≤ 800) && (!(me == ("__debug__" : Str)) && (!(me == ("__classdict__" : Str)) && (fn.ar.contains (qs.length + 1) && (decide (fn.np = qs.length + 1) && fn.dfl.isEmpty)))))))
    | _, _, _ => false)
  | none => false
structure Text (T : Tx) : Prop where
  st : ∀ (f : Nat) fn, T.pr.fns[f]? = some fn → ∃ d, Stat T f fn d
  nd : T.tb.nms.Nodup
  n0 : (T.tb.nms.all fun x => !(x.cps.getD 0 1 == 0)) = true
  fns : ∀ x f, T.tb.fns.lookup x = some f → ∃ fn, T.pr.fns[f]? = some fn
  clss : ∀ x c, T.tb.clss.lookup x = some c → ∃ cl, T.pr.cls[c]? = some cl
  isx : (T.pr.cls.all fun cl => !cl.isx || (cl.flds.isEmpty && cl.mths.isEmpty)) = true
  xi : (T.pr.cls.all fun cl => !cl.isx || cl.exf.isEmpty || T.xiB cl) = true
def Tx.obs (T : Tx) (K : PySem.W.Frag) : He.AlD := (T.chk K && T.fn.all fun d => d.ok K, T.fn.map fun d => He.fnW K d.at_)
def Tx.Says (T : Tx) (K : PySem.W.Frag) : Prop := T.obs K = He.valD T.fn
def Tx.obsG (T : Tx) (n : Nat) (g : Addr → Option Obj) : He.AlD := T.obs (He.frG g (He.asD g n))
def Tx.hook (T : Tx) (n : Nat) : PySem.W.Hook where
  α := He.AlD
  obs := fun s => T.obsG n s.heap.get?
  val := fun _ => He.valD T.fn
  says := fun _ h => ∃ K : PySem.W.Frag, K.In h ∧ T.Says K
  of := fun _ _ e => ⟨_, He.frG_in, e⟩
  keeps := fun _ _ _ ⟨K, hK, c⟩ k => ⟨K, PySem.W.Frag.In.keeps hK k, c⟩
theorem Tx.obsG_eq {T : Tx} {n : Nat} {g : Addr → Option Obj} {s : Shared} (h : ∀ a, g a = s.heap.get? a) : T.obsG n g = (T.hook n).obs s := by
  show T.obsG n g = T.obsG n s.heap.get?
  rw [show g = s.heap.get? from funext h]
section
variable {T : Tx} {K : PySem.W.Frag} {h : Heap} {mg : Str → Option Value}
theorem lookup_mem {α : Type} {l : List (Str × α)} {x : Str} {a : α} (h : l.lookup x = some a) : (x, a) ∈ l := by
  induction l with
  | nil => simp at h
  | cons p r ih =>
    obtain ⟨y, b⟩ := p
    rw [List.lookup_cons] at h
    split at h
    · rename_i e
      cases h
      rw [eq_of_beq e]
      exact List.mem_cons_self
    · exact List.mem_cons_of_mem _ (ih h)
open He in
theorem Says.fnd (c : T.Says K) {f : Nat} {d : He.DefD} (e : T.fn[f]? = some d) : FunD K d.name d.qual d.params d.body d.scope (d.dvs K) (d.kws K) (T.fa K f) (fdAt K (T.fa K f)) := by
  have c1 : (T.fn.all fun d => d.ok K) = true := (He.ba (congrArg (fun z : He.AlD => z.1) c)).2
  have e1 : T.fn.map (fun d => He.fnW K d.at_) = T.fn.map He.DefD.val := congrArg (fun z : He.AlD => z.2) c
  have e2 : (T.fn.map fun d => He.fnW K d.at_)[f]? = (T.fn.map He.DefD.val)[f]? := by rw [e1]
  rw [List.getElem?_map, List.getElem?_map, e] at e2
  obtain ⟨fd, F⟩ := He.DefD.funD (Option.some.inj e2) (List.all_eq_true.mp c1 d (List.mem_of_getElem? e))
  have ea : T.fa K f = He.fAd K d.at_ := by unfold Tx.fa; rw [e]
  rw [ea]
  obtain ⟨oc, od, dV, kV, doc, pm, an, cdv, ct, osl, h1, h2, _⟩ := F.ex
  rw [fdAt_of h2]
  exact F
theorem eqI_ok {a b : Option Bool} (h : eqI a b = true) : a = b := of_decide_eq_true h
theorem const_ok (X : K.In h) (G : h.Ns mainGlobals mg) {W : Wd} (hW : W.K = K) {x : Str} {d : D} (c : constB K x d = true) : ∃ u v, mg x = some u ∧ RelV v u ∧ ∀ S α, Rl W S α d v := by
  have flat : ∀ {d : D}, (match flatD d with
      | some v => (match PySem.W.nsIn K mainGlobals x with
        | some (some u) => He.relB v u
        | _ => false)
      | none => false) = true → ∃ u v, mg x = some u ∧ RelV v u ∧ ∀ S α, Rl W S α d v := by
    intro d c
    cases e : flatD d with
    | none => rw [e] at c; cases c
    | some v =>
      rw [e] at c
      cases q : PySem.W.nsIn K mainGlobals x with
      | none => rw [q] at c; cases c
      | some o =>
        cases o with
        | none => rw [q] at c; cases c
        | some u =>
          rw [q] at c
          exact ⟨u, v, PySem.W.mg_of X G q, He.relB_ok c, fun S α => flatD_rl e⟩
  cases d with
  | tup ds =>
    unfold constB at c; dsimp only at c
    cases e : flats ds with
    | none => rw [e] at c; cases c
    | some vs =>
      rw [e] at c
      obtain ⟨c1, c2⟩ := He.ba c
      refine ⟨_, .ref (He.ga K x), PySem.W.mg_of X G (He.eqO_ok c1), rfl, fun S α => ?_⟩
      simp only [Rl]
      refine ⟨He.ga K x, vs, rfl, ?_, flats_rl e⟩
      rw [hW]
      cases q : K.lookup (He.ga K x) with
      | none => rw [q] at c2; cases c2
      | some o =>
        obtain ⟨oc, od, dt, osl⟩ := o
        rw [q] at c2
        cases oc with
        | type c =>
          cases dt with
          | seq its n =>
            obtain ⟨h1, h2⟩ := He.ba (show (decide (c = "tuple") && (decide (its.size ≤ sizeLine) && He.relAll vs its.toList)) = true from c2)
            obtain ⟨h3, h4⟩ := He.ba h2
            exact .inr ⟨_, its, n, q, congrArg Value.type (of_decide_eq_true h1), rfl, of_decide_eq_true h3, He.relAll_ok h4⟩
          | _ => cases c2
        | _ => cases c2
  | un => exact flat c
  | non => exact flat c
  | bl _ => exact flat c
  | int _ => exact flat c
  | str _ => exact flat c
  | lst _ => exact flat c
  | dic _ _ => exact flat c
  | obj _ _ _ => exact flat c
  | ref _ => exact flat c
  | cls _ => exact flat c
  | scr _ => exact flat c
  | xcp _ _ _ => exact flat c
structure XOkC (T : Tx) (K : PySem.W.Frag) (c : Nat) (cl : Cl) : Prop where
  ef : ExcF K (T.ca K c)
  kp : PySem.W.keepIn K (.ref (T.ca K c)) = true
  no : ∀ f, cl.exf.contains f = true → PySem.W.findIn K (.ref (T.ca K c)) (nmOf T.tb.nms f) = some none
  nil : cl.exf = [] → PySem.W.excIn K (T.ca K c) He.veBase "ValueError.__new__" = true
  ini : cl.exf ≠ [] → OexC K (T.ca K c) ∧ ∃ f, cl.init = some f ∧ PySem.W.findIn K (.ref (T.ca K c)) "__init__" = some (some (.ref (T.fa K f))) ∧ PySem.W.typeIn K (.ref (T.fa K f)) = some (.type "function")
theorem xB_ok {c : Nat} {cl : Cl} (b : T.xB K c cl = true) : XOkC T K c cl := by
  unfold Tx.xB at b
  obtain ⟨b1, b⟩ := He.ba b
  obtain ⟨b2, b⟩ := He.ba b
  obtain ⟨b3, b⟩ := He.ba b
  obtain ⟨b4, b⟩ := He.ba b
  obtain ⟨b5, b⟩ := He.ba b
  obtain ⟨b6, b⟩ := He.ba b
  obtain ⟨b7, b⟩ := He.ba b
  obtain ⟨b8, b⟩ := He.ba b
  obtain ⟨b9, b⟩ := He.ba b
  refine ⟨⟨b1, He.eqO_ok b2, He.eqO_ok b3, eqI_ok b4, He.eqO_ok b5, b6, eqI_ok b7⟩, b8, fun f hf => He.eqO_ok (List.all_eq_true.mp b9 f (by simpa using hf)), fun he => ?_, fun he => ?_⟩
  · rw [he] at b; exact b
  · have hne : cl.exf.isEmpty = false := by cases hh : cl.exf with | nil => exact absurd hh he | cons _ _ => rfl
    rw [hne] at b
    simp only [Bool.false_eq_true, if_false] at b
    obtain ⟨c1, b⟩ := He.ba b
    obtain ⟨c2, b⟩ := He.ba b
    obtain ⟨c3, b⟩ := He.ba b
    refine ⟨oex_of c1 (He.eqO_ok c2) (eqI_ok b4) (of_decide_eq_true c3) b8, ?_⟩
    cases hi : cl.init with
    | none => rw [hi] at b; cases b
    | some f =>
      rw [hi] at b
      obtain ⟨c4, c5⟩ := He.ba b
      exact ⟨f, rfl, He.eqO_ok c4, of_decide_eq_true c5⟩
structure ClsOk (T : Tx) (K : PySem.W.Frag) (c : Nat) (cl : Cl) : Prop where
  plain : cl.isx = false → Cls K (T.ca K c) ∧ PySem.W.findIn K (.ref (T.ca K c)) "__class__" = some (some (.builtin "object.__class__")) ∧ PySem.W.mroIn K (T.ca K c) (.type "object") = some true ∧ ∀ f, cl.init = some f → Mk K (T.ca K c) (T.fa K f)
  fld : ∀ f, cl.flds.contains f = true → NoAttr K (T.ca K c) (nmOf T.tb.nms f)
  mth : ∀ m g, cl.mths.lookup m = some g → Meth K (T.ca K c) (nmOf T.tb.nms m) (T.fa K g)
  own : ∀ (c2 : Nat) cl2, T.pr.cls[c2]? = some cl2 → PySem.W.kitOne K (.ref (T.ca K c)) (.ref (T.ca K c2)) = some (decide (c2 ∈ cl.mro))
  exc : cl.isx = true → XOkC T K c cl
  ve : PySem.W.kitOne K (.ref (T.ca K c)) (.type "ValueError") = some cl.isx
  ty : ∀ n ∈ tyNames, PySem.W.kitOne K (.ref (T.ca K c)) (.type n) = some false ∧ PySem.W.kitOne K (.type n) (.ref (T.ca K c)) = some false
theorem lookup_memN {α : Type} {l : List (Nat × α)} {x : Nat} {a : α} (h : l.lookup x = some a) : (x, a) ∈ l := by
  induction l with
  | nil => simp at h
  | cons p r ih =>
    obtain ⟨y, b⟩ := p
    rw [List.lookup_cons] at h
    split at h
    · rename_i e
      cases h
      rw [eq_of_beq e]
      exact List.mem_cons_self
    · exact List.mem_cons_of_mem _ (ih h)
theorem mem_zipIdx' {α : Type} {l : List α} {i : Nat} {a : α} (h : l[i]? = some a) : (a, i) ∈ l.zipIdx := by
  rw [List.mk_mem_zipIdx_iff_getElem?]; exact h
theorem cls_of {c : Nat} {cl : Cl} (b : T.clsB K c cl = true) : ClsOk T K c cl := by
  obtain ⟨b0, b⟩ := He.ba b
  obtain ⟨b1, b⟩ := He.ba b
  obtain ⟨b2, b⟩ := He.ba b
  obtain ⟨b3, b⟩ := He.ba b
  obtain ⟨b4, b⟩ := He.ba b
  obtain ⟨b5, b6⟩ := He.ba b
  refine ⟨fun hx => ?_, fun f hf => ?_, fun m g hm => ?_, fun c2 cl2 h2 => ?_, fun hx => xB_ok (by rw [hx] at b0; exact b0), eqI_ok b6, fun n hn => ?_⟩
  · rw [hx, Bool.false_or] at b1
    obtain ⟨d1, b1⟩ := He.ba b1
    obtain ⟨d2, b1⟩ := He.ba b1
    obtain ⟨d3, d4⟩ := He.ba b1
    refine ⟨He.cls_ok d1, He.eqO_ok d2, eqI_ok d3, fun f hf => ?_⟩
    rw [hf] at d4
    obtain ⟨d5, d6⟩ := He.ba d4
    have := He.mkr_ok d5
    have e : He.ma K (He.ga K (T.cl.getD c ⟨#[]⟩)) "__init__" = T.fa K f := of_decide_eq_true d6
    rw [e] at this
    exact this
  · exact He.eqO_ok (List.all_eq_true.mp b2 f (by simpa using hf))
  · obtain ⟨d1, d⟩ := He.ba (List.all_eq_true.mp b3 (m, g) (lookup_memN hm))
    obtain ⟨d2, d3⟩ := He.ba d
    exact ⟨He.eqO_ok d1, d2, d3⟩
  · exact eqI_ok (List.all_eq_true.mp b4 (cl2, c2) (mem_zipIdx' h2))
  · obtain ⟨d1, d2⟩ := He.ba (List.all_eq_true.mp b5 n hn)
    exact ⟨eqI_ok d1, eqI_ok d2⟩
theorem xi_of (tx : Text T) {i : Nat} {cl : Cl} (e : T.pr.cls[i]? = some cl) (hi : cl.isx = true) (hn : cl.exf ≠ []) {f : Nat} (hf : cl.init = some f) :
    ∃ d fn me qs, T.fn[f]? = some d ∧ T.ps[f]? = some (me :: qs) ∧ T.pr.fns[f]? = some fn ∧ xinitB me (cl.exf.map (nmOf T.tb.nms)) qs d.body = true ∧ cl.exf.length = qs.length ∧ (cl.exf.map (nmOf T.tb.nms)).Nodup ∧ cl.exf.length ≤ 800 ∧ (me == ("__debug__" : Str)) = false ∧ (me == ("__classdict__" : Str)) = false ∧
      fn.ar.contains (qs.length + 1) = true ∧ fn.np = qs.length + 1 ∧ fn.dfl = [] := by
  have b := List.all_eq_true.mp tx.xi cl (List.mem_of_getElem? e)
  have hne : cl.exf.isEmpty = false := by cases hh : cl.exf with | nil => exact absurd hh hn | cons _ _ => rfl
  rw [hi, hne] at b
  simp only [Bool.not_true, Bool.false_or] at b
  unfold Tx.xiB at b
  rw [hf] at b
  simp only at b
  split at b
  · rename_i d me qs fn h1 h2 h3
    simp only [Bool.and_eq_true, decide_eq_true_eq, Bool.not_eq_true', List.isEmpty_iff] at b
    obtain ⟨a1, a2, a3, a4, a5, a6, a7, a8, a9⟩ := b
    exact ⟨d, fn, me, qs, h1, h2, h3, a1, a2, a3, a4, a5, a6, a7, a8, a9⟩
  · cases b
theorem getD_of {α : Type} {l : List α} {i : Nat} {a b : α} (h : l[i]? = some a) : l.getD i b = a := by
  rw [List.getD_eq_getElem?_getD, h]; rfl
theorem xbinds (tx : Text T) (c : T.Says K) {i : Nat} {cl : Cl} (e : T.pr.cls[i]? = some cl) (hi : cl.isx = true) (hn : cl.exf ≠ []) {f : Nat} (hf : cl.init = some f) : Binds K ((T.F K).fd f) ((T.F K).ps f) [] := by
  obtain ⟨d, fn, me, qs, h1, h2, h3, _, _, _, _, _, _, h4, h5, h6⟩ := xi_of tx e hi hn hf
  obtain ⟨d', s⟩ := tx.st f fn h3
  obtain ⟨dvs, ds, q1, q2, q3⟩ := s.bnd _ h4 K _ _ (Says.fnd c s.at_)
  rw [h6] at q1
  simp only [List.drop_nil, flats, Option.some.injEq] at q1
  subst q1
  cases q2
  exact q3
theorem xcalls_of (tx : Text T) (c : T.Says K) (hc : ∀ (i : Nat) cl, T.pr.cls[i]? = some cl → ClsOk T K i cl) {P : Program} {w : World} {base : Heap} : XCallsG P w K mg base (T.W K) T.pr (T.F K) := by
  intro i cl f e hi hn hf
  obtain ⟨d, fn, me, qs, h1, h2, h3, h4, h5, h6, h7, h8, h9, _⟩ := xi_of tx e hi hn hf
  obtain ⟨d', s⟩ := tx.st f fn h3
  have := s.at_
  rw [h1] at this; cases this
  have x := (hc i cl e).exc hi
  have hps : (T.F K).ps f = me :: qs := getD_of h2
  refine xinit_ok (Says.fnd c h1) s.sc hps h4 (by simpa using h5) h6 (by simpa using h7) (by simpa using hn) (x.ini hn).1 (fun g hg => ?_) h8 h9
  obtain ⟨j, hj, rfl⟩ := List.mem_map.mp hg
  exact x.no j (by simpa using hj)
theorem lw_of (tx : Text T) (X : K.In h) (G : h.Ns mainGlobals mg) (c : T.Says K) : Lw (T.W K) T.pr (T.F K) K mg T.tb ∧ (∀ (f : Nat) fn, T.pr.fns[f]? = some fn → FnTx (T.W K) T.pr (T.F K) K T.tb f fn) ∧ ∀ (P : Program) (w : World) (base : Heap), XCallsG P w K mg base (T.W K) T.pr (T.F K) := by
  have ck : T.chk K = true := (He.ba (congrArg (fun z : He.AlD => z.1) c)).1
  obtain ⟨c1, ck⟩ := He.ba ck
  obtain ⟨c2, ck⟩ := He.ba ck
  obtain ⟨c3, ck⟩ := He.ba ck
  obtain ⟨c4, ck⟩ := He.ba ck
  obtain ⟨c5, ck⟩ := He.ba ck
  obtain ⟨c6, c7⟩ := He.ba ck
  have hc : ∀ (i : Nat) cl, T.pr.cls[i]? = some cl → ClsOk T K i cl := fun i cl e => cls_of (List.all_eq_true.mp c5 (cl, i) (mem_zipIdx' e))
  have hx : ∀ (i : Nat) cl, T.pr.cls[i]? = some cl → cl.isx = false ∨ (cl.flds = [] ∧ cl.mths = []) := fun i cl e => by
    have := List.all_eq_true.mp tx.isx cl (List.mem_of_getElem? e)
    cases hh : cl.isx with
    | false => exact .inl rfl
    | true =>
      rw [hh] at this
      simp only [Bool.not_true, Bool.false_or, Bool.and_eq_true, List.isEmpty_iff] at this
      exact .inr this
  have L : Lw (T.W K) T.pr (T.F K) K mg T.tb := {
    KW := rfl
    FF := ⟨fun f fn hf => by
        obtain ⟨d, s⟩ := tx.st f fn hf
        exact (Says.fnd c s.at_).kp, fun f fn n hf hn => by
        obtain ⟨d, s⟩ := tx.st f fn hf
        exact s.bnd n hn K _ _ (Says.fnd c s.at_)⟩
    MF := ⟨fun i cl m g e hm => by
        have k := hc i cl e
        have hi : cl.isx = false := by
          rcases hx i cl e with z | z
          · exact z
          · rw [z.2] at hm; simp at hm
        exact ⟨(k.plain hi).1, k.mth m g hm⟩, fun i cl f e hi hf => ((hc i cl e).plain hi).2.2.2 f hf⟩
    FA := ⟨nmOf_inj tx.nd tx.n0, fun i cl e hi => ((hc i cl e).plain hi).1, fun i cl e => (hx i cl e).imp id (·.1), fun i cl f e hf => (hc i cl e).fld f hf, fun i cl e hi => ⟨((hc i cl e).exc hi).ef, ((hc i cl e).exc hi).no⟩⟩
    IF := ⟨fun i cl e hi => ⟨((hc i cl e).plain hi).1, ((hc i cl e).plain hi).2.1, ((hc i cl e).plain hi).2.2.1⟩, He.eqO_ok c6, eqI_ok c7, fun i cl e c2 cl2 e2 => (hc i cl e).own c2 cl2 e2,
      fun i cl e d n hd => ((hc i cl e).ty n (tyn_mem hd)).1, fun i cl e d n hd => ((hc i cl e).ty n (tyn_mem hd)).2, fun i cl e hi => ((hc i cl e).exc hi).ef, fun i cl e => (hc i cl e).ve⟩
    XF := ⟨fun i cl e hi hn => ⟨((hc i cl e).exc hi).nil hn, ((hc i cl e).exc hi).kp⟩, fun i cl e hi hn => by
        obtain ⟨O, f, h1, h2, h3⟩ := ((hc i cl e).exc hi).ini hn
        exact ⟨f, h1, O, h2, h3, xbinds tx c e hi hn h1⟩⟩
    fns := fun x f e => PySem.W.mg_of X G (He.eqO_ok (List.all_eq_true.mp c1 (x, f) (lookup_mem e)))
    clss := fun x i e => ⟨PySem.W.mg_of X G (He.eqO_ok (List.all_eq_true.mp c2 (x, i) (lookup_mem e))), tx.clss x i e⟩
    cons := fun x d e => const_ok X G rfl (List.all_eq_true.mp c3 (x, d) (lookup_mem e))
    blt := fun x hx => PySem.W.mg_none_of X G (He.eqO_ok (List.all_eq_true.mp c4 x (List.mem_append_left _ hx)))
    tys := fun x d e => PySem.W.mg_none_of X G (He.eqO_ok (List.all_eq_true.mp c4 x (List.mem_append_right _ (by
      unfold tyOf at e
      repeat' split at e
      all_goals first
        | cases e; done
        | (subst_vars; simp)))))
    nm := fun f i e => by
      show nmOf T.tb.nms i = f
      unfold nmOf
      rw [ixOf_some e] }
  refine ⟨L, fun f fn hf => ?_, fun P w base => xcalls_of tx c hc⟩
  obtain ⟨d, s⟩ := tx.st f fn hf
  exact ⟨d.name, d.qual, d.params, d.body, d.scope, d.dvs K, d.kws K, T.N.getD f [], 60, Says.fnd c s.at_, s.sc, s.code, s.np, s.ns⟩
/-- a def that lets nothing out -/
theorem calmed {P : Program} {w : World} {base : Heap} {k : Nat} {f : Addr} {fd : FuncData} {ps : List Str} {sp : Sp} (F : FnOk P w K mg base (L2.CX P w) k f fd ps sp) (hs : ∀ vs H Q E, sp vs H Q E → sp vs H Q fun _ _ _ => False) : FnOk P w K mg base CX0 k f fd ps sp where
  len := F.len
  run := fun A outer s H args us vs Q E hr e0 hb r hsp => codeAny_mono (F.run A outer s H args us vs Q (fun _ _ _ => False) hr e0 hb r (hs vs H Q E hsp)) fun z s' hz => by
    cases z with
    | error e =>
      obtain ⟨a, B, H', cls, d, _, _, _, _, _, _, _, q⟩ := (show L2.CX P w outer H s (fun _ _ _ => False) e s' from hz)
      exact q.elim
    | ok fl => cases fl <;> exact hz
/-- the law, as its machine answers -/
theorem law_of (tx : Text T) (X : K.In h) (G : h.Ns mainGlobals mg) (c : T.Says K) {P : Program} {w : World} {law k : Nat} {fn : Fn} (hf : T.pr.fns[law]? = some fn) (n : Nat)
    (hl : ∀ ns : List Int, ns.length ≤ n → ∃ h', callF T.pr k law [.scr ns] [] = .ok (.bl true) h') (base : Heap) (KB : K.In base) (GB : base.Ns mainGlobals mg) :
    FnOk P w K mg base CX0 (3 * k) (T.fa K law) (fdAt K (T.fa K law)) (T.ps.getD law []) (fun vs H Q E => ∃ (a : Addr) (ns : List Int), vs = [.ref a] ∧ ns.length ≤ n ∧ SqL K H a (ns.map V.int) ∧ ∀ H', Q (.bl true) H') := by
  obtain ⟨L, FT, XC⟩ := lw_of tx X G c
  refine calmed (FnOk.imp (calls_ok (base := base) L (XC P w base) FT k law fn hf) ?_) fun vs H Q E q => q
  rintro vs H Q E ⟨a, ns, e, hn, hS, hQ⟩
  obtain ⟨h', hr⟩ := hl ns hn
  refine ⟨H, [], [], [.scr ns], ⟨.refl, rfl, List.nodup_nil, fun i c a hc => by simp at hc⟩, ?_, ?_⟩
  · simp only [Rls]
    refine ⟨.ref a, [], e, ?_, rfl⟩
    simp only [Rl]
    exact ⟨a, rfl, hS⟩
  · rw [hr]
    intro S' α' H' b t l
    have : b = .bl true := by simpa only [Rl] using l
    rw [this]
    exact hQ H'
end
end Pm

set_option linter.all false
set_option maxRecDepth 100000
/-! How the machine runs, a step a lemma. -/
namespace Pm
open PySem
def forSt (pr : Pr) (φ : Nat → List D → Hm → Rs D) (tg : Tg) (b : List S) : D → Ev → Hm → Out := fun x e h => match storeT tg x e with
  | some e => exB pr φ b e h
  | none => .bad
section
variable {pr : Pr} {φ : Nat → List D → Hm → Rs D} {e : Ev} {h : Hm}
theorem r_k {d} : evE pr φ (.k d) e h = .ok d h := by simp only [evE] <;> rfl
theorem r_v {i d} (hi : e[i]? = some d) (hu : d ≠ .un) : evE pr φ (.v i) e h = .ok d h := by
  simp only [evE, hi]
  all_goals (cases d <;> first | rfl | exact absurd rfl hu)
theorem r_neg {a} : evE pr φ (.neg a) e h = (evE pr φ a e h).bind fun x h => match x with | .int i => .ok (.int (-i)) h | _ => .bad := by simp only [evE] <;> rfl
theorem r_not {a} : evE pr φ (.not a) e h = (evE pr φ a e h).bind fun x h => match truth h x with | some b => .ok (.bl (!b)) h | none => .bad := by simp only [evE] <;> rfl
theorem r_bin {o a b} : evE pr φ (.bin o a b) e h = (evE pr φ a e h).bind fun x h => (evE pr φ b e h).bind fun y h => binD o x y h := by simp only [evE] <;> rfl
theorem r_cmp {o a b} : evE pr φ (.cmp o a b) e h = (evE pr φ a e h).bind fun x h => (evE pr φ b e h).bind fun y h => cmpR h o x y := by simp only [evE] <;> rfl
theorem r_tup {es} : evE pr φ (.tup es) e h = (evEs pr φ es e h).bind fun ds h => if ds.length ≤ LIM then .ok (.tup ds) h else .bad := by simp only [evE] <;> rfl
theorem r_lst {es} : evE pr φ (.lst es) e h = (evEs pr φ es e h).bind fun ds h => newL ds h := by simp only [evE] <;> rfl
theorem r_idx {a b} : evE pr φ (.idx a b) e h = (evE pr φ a e h).bind fun x h => (evE pr φ b e h).bind fun y h => idxD h x y := by simp only [evE] <;> rfl
theorem r_fld {a f} : evE pr φ (.fld a f) e h = (evE pr φ a e h).bind fun x h => match fldD pr h x f with | some (.inl d) => .ok d h | some (.inr g) => φ g [x] h | none => .bad := by simp only [evE] <;> rfl
theorem r_call {f es} : evE pr φ (.call f es) e h = (evEs pr φ es e h).bind fun ds h => match fillD pr f ds with | some all => φ f all h | none => .bad := by simp only [evE] <;> rfl
theorem r_mk {c es} : evE pr φ (.mk c es) e h = (evEs pr φ es e h).bind fun ds h => mkD pr φ c ds h := by simp only [evE] <;> rfl
theorem r_blt {b es} : evE pr φ (.blt b es) e h = (evEs pr φ es e h).bind fun ds h => bltD h b ds := by simp only [evE] <;> rfl
theorem r_isi {a cs} : evE pr φ (.isi a cs) e h = (evE pr φ a e h).bind fun x h => match (isiT pr h x).bind fun t => isiD pr t cs with | some b => .ok (.bl b) h | none => .bad := by simp only [evE] <;> rfl
theorem r_comp {elt tg it cond own} : evE pr φ (.comp elt tg it cond own) e h = (evI pr φ it e h).bind fun w h => (compGo (compSt pr φ elt tg cond own e) w w.its [] h).bind fun xs h => newL xs h := by
  simp only [evE] <;> rfl
theorem r_nil : evEs pr φ .nil e h = .ok [] h := by simp only [evEs] <;> rfl
theorem r_cons {a r} : evEs pr φ (.cons a r) e h = (evE pr φ a e h).bind fun x h => (evEs pr φ r e h).bind fun xs h => .ok (x :: xs) h := by simp only [evEs] <;> rfl
theorem r_range {es} : evI pr φ (.range es) e h = (evEs pr φ es e h).bind fun ds h => walkR h ds := by simp only [evI] <;> rfl
theorem s_for_ {tg it b} : exS pr φ (.for tg it b) e h = (evI pr φ it e h).out e fun w h => forGo (forSt pr φ tg b) w w.its e h := by simp only [exS] <;> rfl
theorem s_set_ {i a} : exS pr φ (.set i a) e h = (evE pr φ a e h).out e fun d h => .nx (e.set i d) h := by simp only [exS] <;> rfl
theorem s_unp_ {is a} : exS pr φ (.unp is a) e h = (evE pr φ a e h).out e fun d h => outOf (storeT (.tup is) d e) h := by simp only [exS] <;> rfl
theorem s_par_ {is es} : exS pr φ (.par is es) e h = (evEs pr φ es e h).out e fun ds h => outOf (stores is ds e) h := by simp only [exS] <;> rfl
theorem s_sub_ {o i a} : exS pr φ (.sub o i a) e h = (evE pr φ a e h).out e fun d h => (evE pr φ o e h).out e fun x h => (evE pr φ i e h).out e fun y h => match setSub h x y d with | some h => .nx e h | none => .bad := by simp only [exS] <;> rfl
theorem s_ex_ {a} : exS pr φ (.ex a) e h = (evE pr φ a e h).out e fun _ h => .nx e h := by simp only [exS] <;> rfl
theorem s_ite_ {c a b} : exS pr φ (.ite c a b) e h = (evE pr φ c e h).out e fun d h => match truth h d with | some true => exB pr φ a e h | some false => exB pr φ b e h | none => .bad := by simp only [exS] <;> rfl
theorem s_ret_ {a} : exS pr φ (.ret a) e h = (evE pr φ a e h).out e fun d h => .rt d h := by simp only [exS] <;> rfl
theorem b_nil_ : exB pr φ [] e h = .nx e h := by simp only [exB] <;> rfl
theorem b_cons_ {s r} : exB pr φ (s :: r) e h = match exS pr φ s e h with | .nx e h => exB pr φ r e h | o => o := by simp only [exB] <;> rfl
theorem bind_ok_ {A B : Type} {a : A} {f : A → Hm → Rs B} : (Rs.ok a h).bind f = f a h := rfl
theorem out_ok_ {A : Type} {a : A} {f : A → Hm → Out} : (Rs.ok a h).out e f = f a h := rfl
end
end Pm

set_option linter.all false
set_option maxRecDepth 100000
namespace Pm
open PySem
mutual
theorem mapD_plain (g : Nat → D) : ∀ d : D, plainD d = true → mapD g d = d
  | .un, h => by simp [plainD] at h
  | .non, _ | .bl _, _ | .int _, _ | .str _, _ => by simp only [mapD]
  | .tup xs, h => by simp only [plainD] at h; simp only [mapD, mapDs_plain g xs h]
  | .lst xs, h => by simp only [plainD] at h; simp only [mapD, mapDs_plain g xs h]
  | .dic _ _, h | .obj _ _ _, h | .ref _, h | .cls _, h | .scr _, h | .xcp _ _ _, h => by simp [plainD] at h
theorem mapDs_plain (g : Nat → D) : ∀ ds : List D, plainDs ds = true → mapDs g ds = ds
  | [], _ => by simp only [mapDs]
  | x :: xs, h => by
    simp only [plainDs, Bool.and_eq_true] at h
    simp only [mapDs, mapD_plain g x h.1, mapDs_plain g xs h.2]
end
mutual
theorem eqd_same : ∀ d : D, plainD d = true → eqd d d = true
  | .un, h => by simp [plainD] at h
  | .non, _ | .bl _, _ | .int _, _ | .str _, _ => by simp [eqd]
  | .tup xs, h => by simp only [plainD] at h; simp only [eqd]; exact eqds_same xs h
  | .lst xs, h => by simp only [plainD] at h; simp only [eqd]; exact eqds_same xs h
  | .dic _ _, h | .obj _ _ _, h | .ref _, h | .cls _, h | .scr _, h | .xcp _ _ _, h => by simp [plainD] at h
theorem eqds_same : ∀ ds : List D, plainDs ds = true → eqds ds ds = true
  | [], _ => by simp only [eqds]
  | x :: xs, h => by
    simp only [plainDs, Bool.and_eq_true] at h
    simp only [eqds, eqd_same x h.1, eqds_same xs h.2, Bool.and_self]
end
mutual
theorem noRef_plain : ∀ d : D, plainD d = true → noRef d = true
  | .un, h => by simp [plainD] at h
  | .non, _ | .bl _, _ | .int _, _ | .str _, _ => by simp only [noRef]
  | .tup xs, h => by simp only [plainD] at h; simp only [noRef]; exact noRefs_plain xs h
  | .lst xs, h => by simp only [plainD] at h; simp only [noRef]; exact noRefs_plain xs h
  | .dic _ _, h | .obj _ _ _, h | .ref _, h | .cls _, h | .scr _, h | .xcp _ _ _, h => by simp [plainD] at h
theorem noRefs_plain : ∀ ds : List D, plainDs ds = true → noRefs ds = true
  | [], _ => by simp only [noRefs]
  | x :: xs, h => by
    simp only [plainDs, Bool.and_eq_true] at h
    simp only [noRefs, noRef_plain x h.1, noRefs_plain xs h.2, Bool.and_self]
end
theorem deep_lst {h : Hm} {a : Nat} {xs : List D} (e : h[a]? = some (.lst xs)) (p : plainDs xs = true) : deep 0 h (.ref a) = .lst xs := by
  simp only [deep, mapD, deepN, Nat.not_lt_zero, if_false, e, cellD, mapDs_plain _ xs p]
theorem eq_same {h : Hm} {a b : Nat} {xs : List D} (ea : h[a]? = some (.lst xs)) (eb : h[b]? = some (.lst xs)) (p : plainDs xs = true) (hd : depDs xs ≤ 50) : eqD h (.ref a) (.ref b) = some true := by
  unfold eqD
  rw [deep_lst ea p, deep_lst eb p]
  unfold eqP
  have h1 : plainD (.lst xs) = true := by simpa only [plainD] using p
  have h2 : depD (.lst xs) ≤ 60 := by simp only [depD]; omega
  simp only [h1, h2, decide_true, Bool.and_self, Bool.or_self, if_true, eqd_same _ h1]
end Pm

set_option Elab.async false
set_option linter.all false
set_option maxRecDepth 100000
set_option maxHeartbeats 0
namespace L99
open PySem PySem.Spec PyProof.Rows L2 Pm
abbrev R : PySem.W.OpenRow := PySem.W.OpenLaw.row PySem.Challenge.rw_untilrows_k99_errors_made
def top (i : Nat) : Stmt := PySem.Challenge.pw_untilrows_k99_errors_made.main.body.getD i (.Pass ⟨0, 0, 0, 0⟩)
def inn (i j : Nat) : Stmt := match top i with
  | .ClassDef (body := b) .. => b.getD j (.Pass ⟨0, 0, 0, 0⟩)
  | s => s
def nms : List Str := ["__init__", "first", "end", "last", "index", "earlier", "later", "number", "most", "ends", "word", "turns", "name", "why"]
def tbF : List (Str × Nat) := [("_law_bag", 15), ("_law_take", 16), ("_law_wide", 17), ("_law_of", 18), ("_law_day", 19), ("_law_value", 20), ("_law_ends", 21), ("_law_kinds", 22), ("_law_is_own", 23), ("_law_pairs_right", 24), ("_law_right", 25), ("law", 26)]
def tbC : List (Str × Nat) := [("RowsError", 0), ("EmptyRow", 1), ("EmptyStretch", 2), ("Unordered", 3), ("Clash", 4), ("BadLine", 5), ("TooMany", 6), ("TooFar", 7), ("NoDay", 8), ("OtherEnds", 9), ("NotAllowed", 10), ("Unknown", 11), ("Twice", 12), ("TwoRows", 13), ("NothingWrong", 14), ("NoScene", 15), ("HasHeads", 16), ("BadTurns", 17), ("Refused", 18)]
def tbK : List (Str × D) := []
def tb : Tb := ⟨tbF, tbC, tbK, nms⟩
def cls : List Cl := [
  ⟨none, false, [], [], [], [], [0], [], true⟩,
  ⟨some 0, false, [], [], [], [], [1, 0], [1, 2], true⟩,
  ⟨some 1, false, [], [], [], [], [2, 0], [1, 3], true⟩,
  ⟨some 2, false, [], [], [], [], [3, 0], [4], true⟩,
  ⟨some 3, false, [], [], [], [], [4, 0], [5, 6], true⟩,
  ⟨some 4, false, [], [], [], [], [5, 0], [7], true⟩,
  ⟨some 5, false, [], [], [], [], [6, 0], [8], true⟩,
  ⟨some 6, false, [], [], [], [], [7, 0], [7], true⟩,
  ⟨some 7, false, [], [], [], [], [8, 0], [7], true⟩,
  ⟨some 8, false, [], [], [], [], [9, 0], [9], true⟩,
  ⟨some 9, false, [], [], [], [], [10, 0], [10], true⟩,
  ⟨some 10, false, [], [], [], [], [11, 0], [10], true⟩,
  ⟨some 11, false, [], [], [], [], [12, 0], [7], true⟩,
  ⟨some 12, false, [], [], [], [], [13, 0], [5, 6], true⟩,
  ⟨none, false, [], [], [], [], [14, 0], [], true⟩,
  ⟨none, false, [], [], [], [], [15, 0], [], true⟩,
  ⟨none, false, [], [], [], [], [16, 0], [], true⟩,
  ⟨some 13, false, [], [], [], [], [17, 0], [11], true⟩,
  ⟨some 14, false, [], [], [], [], [18, 0], [4, 12, 13], true⟩]
def d0 : He.DefD := ⟨("EmptyRow", some "__init__"), "__init__", "EmptyRow.__init__", defArgs (inn 2 0), defBody (inn 2 0), defScope (inn 2 0), [], []⟩
def d1 : He.DefD := ⟨("EmptyStretch", some "__init__"), "__init__", "EmptyStretch.__init__", defArgs (inn 3 0), defBody (inn 3 0), defScope (inn 3 0), [], []⟩
def d2 : He.DefD := ⟨("Unordered", some "__init__"), "__init__", "Unordered.__init__", defArgs (inn 4 0), defBody (inn 4 0), defScope (inn 4 0), [], []⟩
def d3 : He.DefD := ⟨("Clash", some "__init__"), "__init__", "Clash.__init__", defArgs (inn 5 0), defBody (inn 5 0), defScope (inn 5 0), [], []⟩
def d4 : He.DefD := ⟨("BadLine", some "__init__"), "__init__", "BadLine.__init__", defArgs (inn 6 0), defBody (inn 6 0), defScope (inn 6 0), [], []⟩
def d5 : He.DefD := ⟨("TooMany", some "__init__"), "__init__", "TooMany.__init__", defArgs (inn 7 0), defBody (inn 7 0), defScope (inn 7 0), [], []⟩
def d6 : He.DefD := ⟨("TooFar", some "__init__"), "__init__", "TooFar.__init__", defArgs (inn 8 0), defBody (inn 8 0), defScope (inn 8 0), [], []⟩
def d7 : He.DefD := ⟨("NoDay", some "__init__"), "__init__", "NoDay.__init__", defArgs (inn 9 0), defBody (inn 9 0), defScope (inn 9 0), [], []⟩
def d8 : He.DefD := ⟨("OtherEnds", some "__init__"), "__init__", "OtherEnds.__init__", defArgs (inn 10 0), defBody (inn 10 0), defScope (inn 10 0), [], []⟩
def d9 : He.DefD := ⟨("NotAllowed", some "__init__"), "__init__", "NotAllowed.__init__", defArgs (inn 11 0), defBody (inn 11 0), defScope (inn 11 0), [], []⟩
def d10 : He.DefD := ⟨("Unknown", some "__init__"), "__init__", "Unknown.__init__", defArgs (inn 12 0), defBody (inn 12 0), defScope (inn 12 0), [], []⟩
def d11 : He.DefD := ⟨("Twice", some "__init__"), "__init__", "Twice.__init__", defArgs (inn 13 0), defBody (inn 13 0), defScope (inn 13 0), [], []⟩
def d12 : He.DefD := ⟨("TwoRows", some "__init__"), "__init__", "TwoRows.__init__", defArgs (inn 14 0), defBody (inn 14 0), defScope (inn 14 0), [], []⟩
def d13 : He.DefD := ⟨("BadTurns", some "__init__"), "__init__", "BadTurns.__init__", defArgs (inn 18 0), defBody (inn 18 0), defScope (inn 18 0), [], []⟩
def d14 : He.DefD := ⟨("Refused", some "__init__"), "__init__", "Refused.__init__", defArgs (inn 19 0), defBody (inn 19 0), defScope (inn 19 0), [], []⟩
def d15 : He.DefD := ⟨("_law_bag", none), "_law_bag", "_law_bag", defArgs (top 21), defBody (top 21), defScope (top 21), [], []⟩
def d16 : He.DefD := ⟨("_law_take", none), "_law_take", "_law_take", defArgs (top 22), defBody (top 22), defScope (top 22), [], []⟩
def d17 : He.DefD := ⟨("_law_wide", none), "_law_wide", "_law_wide", defArgs (top 23), defBody (top 23), defScope (top 23), [], []⟩
def d18 : He.DefD := ⟨("_law_of", none), "_law_of", "_law_of", defArgs (top 24), defBody (top 24), defScope (top 24), [], []⟩
def d19 : He.DefD := ⟨("_law_day", none), "_law_day", "_law_day", defArgs (top 25), defBody (top 25), defScope (top 25), [], []⟩
def d20 : He.DefD := ⟨("_law_value", none), "_law_value", "_law_value", defArgs (top 26), defBody (top 26), defScope (top 26), [], []⟩
def d21 : He.DefD := ⟨("_law_ends", none), "_law_ends", "_law_ends", defArgs (top 27), defBody (top 27), defScope (top 27), [], []⟩
def d22 : He.DefD := ⟨("_law_kinds", none), "_law_kinds", "_law_kinds", defArgs (top 28), defBody (top 28), defScope (top 28), [], []⟩
def d23 : He.DefD := ⟨("_law_is_own", none), "_law_is_own", "_law_is_own", defArgs (top 29), defBody (top 29), defScope (top 29), [], []⟩
def d24 : He.DefD := ⟨("_law_pairs_right", none), "_law_pairs_right", "_law_pairs_right", defArgs (top 30), defBody (top 30), defScope (top 30), [], []⟩
def d25 : He.DefD := ⟨("_law_right", none), "_law_right", "_law_right", defArgs (top 31), defBody (top 31), defScope (top 31), [], []⟩
def d26 : He.DefD := ⟨("law", none), "law", "law", defArgs (top 32), defBody (top 32), defScope (top 32), [], []⟩
/-- EmptyRow.__init__ -/
def f0 : Fn := ⟨3, [], [3], 3, [.fld (.v 0) 1 (.v 1), .fld (.v 0) 2 (.v 2)], true⟩
/-- EmptyStretch.__init__ -/
def f1 : Fn := ⟨3, [], [3], 3, [.fld (.v 0) 1 (.v 1), .fld (.v 0) 3 (.v 2)], true⟩
/-- Unordered.__init__ -/
def f2 : Fn := ⟨2, [], [2], 2, [.fld (.v 0) 4 (.v 1)], true⟩
/-- Clash.__init__ -/
def f3 : Fn := ⟨3, [], [3], 3, [.fld (.v 0) 5 (.v 1), .fld (.v 0) 6 (.v 2)], true⟩
/-- BadLine.__init__ -/
def f4 : Fn := ⟨2, [], [2], 2, [.fld (.v 0) 7 (.v 1)], true⟩
/-- TooMany.__init__ -/
def f5 : Fn := ⟨2, [], [2], 2, [.fld (.v 0) 8 (.v 1)], true⟩
/-- TooFar.__init__ -/
def f6 : Fn := ⟨2, [], [2], 2, [.fld (.v 0) 7 (.v 1)], true⟩
/-- NoDay.__init__ -/
def f7 : Fn := ⟨2, [], [2], 2, [.fld (.v 0) 7 (.v 1)], true⟩
/-- OtherEnds.__init__ -/
def f8 : Fn := ⟨2, [], [2], 2, [.fld (.v 0) 9 (.v 1)], true⟩
/-- NotAllowed.__init__ -/
def f9 : Fn := ⟨2, [], [2], 2, [.fld (.v 0) 10 (.v 1)], true⟩
/-- Unknown.__init__ -/
def f10 : Fn := ⟨2, [], [2], 2, [.fld (.v 0) 10 (.v 1)], true⟩
/-- Twice.__init__ -/
def f11 : Fn := ⟨2, [], [2], 2, [.fld (.v 0) 7 (.v 1)], true⟩
/-- TwoRows.__init__ -/
def f12 : Fn := ⟨3, [], [3], 3, [.fld (.v 0) 5 (.v 1), .fld (.v 0) 6 (.v 2)], true⟩
/-- BadTurns.__init__ -/
def f13 : Fn := ⟨2, [], [2], 2, [.fld (.v 0) 11 (.v 1)], true⟩
/-- Refused.__init__ -/
def f14 : Fn := ⟨4, [], [4], 4, [.fld (.v 0) 4 (.v 1), .fld (.v 0) 12 (.v 2), .fld (.v 0) 13 (.v 3)], true⟩
/-- _law_bag -/
def f15 : Fn := ⟨2, [], [2], 4, [.set 2 (.ife (.cmp .lt (.v 1) (.blt .len (.cons (.v 0) .nil))) (.idx (.v 0) (.v 1)) (.k (.int (0)))), .set 3 (.ife (.cmp .ge (.blt .abs (.cons (.v 2) .nil)) (.bin .pow (.k (.int (10))) (.k (.int (18))))) (.blt .abs (.cons (.v 2) .nil)) (.k (.int (0)))), .ret (.lst (.cons (.v 3) (.cons (.bin .add (.bin .add (.bin .mul (.bin .mod (.blt .int (.cons (.v 2) .nil)) (.k (.int (2305843009213693951)))) (.k (.int (5)))) (.bin .mul (.k (.int (6691))) (.v 1))) (.k (.int (3067)))) (.cons (.k (.int (0))) .nil))))], true⟩
/-- _law_take -/
def f16 : Fn := ⟨2, [], [2], 4, [.ite (.cmp .gt (.idx (.v 0) (.k (.int (0)))) (.k (.int (0)))) [.set 3 (.bin .mod (.blt .int (.cons (.idx (.v 0) (.k (.int (0)))) .nil)) (.v 1)), .sub (.v 0) (.k (.int (0))) (.bin .fdiv (.idx (.v 0) (.k (.int (0)))) (.v 1)), .ret (.v 3)] [], .sub (.v 0) (.k (.int (2))) (.bin .add (.idx (.v 0) (.k (.int (2)))) (.k (.int (1)))), .set 2 (.bin .mod (.blt .int (.cons (.bin .pow (.bin .add (.idx (.v 0) (.k (.int (1)))) (.bin .mul (.k (.int (1000033))) (.idx (.v 0) (.k (.int (2)))))) (.k (.int (3)))) .nil)) (.k (.int (2305843009213693921)))), .set 2 (.bin .mod (.blt .int (.cons (.bin .pow (.bin .add (.v 2) (.bin .mul (.k (.int (32452843))) (.idx (.v 0) (.k (.int (2)))))) (.k (.int (2)))) .nil)) (.k (.int (2305843009213693951)))), .ret (.bin .mod (.blt .int (.cons (.bin .fdiv (.v 2) (.k (.int (2048)))) .nil)) (.v 1))], true⟩
def f17_0 : List S := [.set 2 (.bin .add (.bin .mul (.v 2) (.k (.int (1125899906842624)))) (.call 16 (.cons (.v 0) (.cons (.k (.int (1125899906842624))) .nil))))]
/-- _law_wide -/
def f17 : Fn := ⟨2, [], [2], 4, [.ite (.cmp .gt (.idx (.v 0) (.k (.int (0)))) (.k (.int (0)))) [.ret (.call 16 (.cons (.v 0) (.cons (.v 1) .nil)))] [], .set 2 (.k (.int (0))), .for (.v 3) (.range (.cons (.k (.int (5))) .nil)) f17_0, .ret (.bin .mod (.blt .int (.cons (.v 2) .nil)) (.v 1))], true⟩
/-- _law_of -/
def f18 : Fn := ⟨2, [], [2], 2, [.ret (.idx (.v 1) (.call 16 (.cons (.v 0) (.cons (.blt .len (.cons (.v 1) .nil)) .nil))))], true⟩
/-- _law_day -/
def f19 : Fn := ⟨1, [], [1], 2, [.set 1 (.call 18 (.cons (.v 0) (.cons (.lst (.cons (.k (.int (9))) (.cons (.k (.int (9))) (.cons (.k (.int (30))) (.cons (.bin .pow (.k (.int (10))) (.k (.int (6)))) (.cons (.bin .pow (.k (.int (10))) (.k (.int (30)))) (.cons (.bin .pow (.k (.int (10))) (.k (.int (59)))) .nil))))))) .nil))), .ret (.bin .sub (.call 17 (.cons (.v 0) (.cons (.bin .add (.bin .mul (.k (.int (2))) (.v 1)) (.k (.int (1)))) .nil))) (.v 1))], true⟩
def f20_0 : List S := [.set 2 (.bin .add (.v 2) (.call 18 (.cons (.v 0) (.cons (.k (.str "0123456789abcxyzABZ '-_=~.!")) .nil))))]
/-- _law_value -/
def f20 : Fn := ⟨1, [], [1], 4, [.set 1 (.call 16 (.cons (.v 0) (.cons (.k (.int (4))) .nil))), .ite (.cmp .eq (.v 1) (.k (.int (0)))) [.ret (.bin .sub (.call 16 (.cons (.v 0) (.cons (.k (.int (5))) .nil))) (.k (.int (2))))] [], .ite (.cmp .eq (.v 1) (.k (.int (1)))) [.ret (.bin .sub (.call 17 (.cons (.v 0) (.cons (.bin .mul (.k (.int (2))) (.bin .pow (.k (.int (10))) (.k (.int (59))))) .nil))) (.bin .pow (.k (.int (10))) (.k (.int (59)))))] [], .set 2 (.k (.str "")), .for (.v 3) (.range (.cons (.call 18 (.cons (.v 0) (.cons (.lst (.cons (.k (.int (0))) (.cons (.k (.int (1))) (.cons (.k (.int (2))) (.cons (.k (.int (9))) .nil))))) .nil))) .nil)) f20_0, .ret (.v 2)], true⟩
/-- _law_ends -/
def f21 : Fn := ⟨1, [], [1], 1, [.ret (.call 18 (.cons (.v 0) (.cons (.lst (.cons (.k (.str "last day")) (.cons (.k (.str "next day")) .nil))) .nil)))], true⟩
/-- _law_kinds -/
def f22 : Fn := ⟨1, [], [1], 2, [.set 1 (.lst (.cons (.isi (.v 0) [(.cls 1)]) (.cons (.isi (.v 0) [(.cls 2)]) (.cons (.isi (.v 0) [(.cls 3)]) .nil)))), .set 1 (.bin .add (.v 1) (.lst (.cons (.isi (.v 0) [(.cls 4)]) (.cons (.isi (.v 0) [(.cls 5)]) (.cons (.isi (.v 0) [(.cls 6)]) .nil))))), .set 1 (.bin .add (.v 1) (.lst (.cons (.isi (.v 0) [(.cls 7)]) (.cons (.isi (.v 0) [(.cls 8)]) (.cons (.isi (.v 0) [(.cls 9)]) .nil))))), .set 1 (.bin .add (.v 1) (.lst (.cons (.isi (.v 0) [(.cls 10)]) (.cons (.isi (.v 0) [(.cls 11)]) (.cons (.isi (.v 0) [(.cls 12)]) .nil))))), .set 1 (.bin .add (.v 1) (.lst (.cons (.isi (.v 0) [(.cls 13)]) (.cons (.isi (.v 0) [(.cls 14)]) (.cons (.isi (.v 0) [(.cls 15)]) .nil))))), .ret (.bin .add (.v 1) (.lst (.cons (.isi (.v 0) [(.cls 16)]) (.cons (.isi (.v 0) [(.cls 17)]) (.cons (.isi (.v 0) [(.cls 18)]) .nil)))))], false⟩
def f23_0 : E := (.cmp .eq (.v 2) (.v 1))
/-- _law_is_own -/
def f23 : Fn := ⟨2, [], [2], 3, [.ite (.or (.not (.isi (.v 0) [(.cls 0)])) (.not (.isi (.v 0) [.un]))) [.ret (.k (.bl false))] [], .ret (.cmp .eq (.call 22 (.cons (.v 0) .nil)) (.comp f23_0 (.v 2) (.range (.cons (.k (.int (18))) .nil)) .none [2]))], false⟩
/-- _law_pairs_right -/
def f24 : Fn := ⟨1, [], [1], 11, [.par [1, 2, 3] (.cons (.call 19 (.cons (.v 0) .nil)) (.cons (.call 19 (.cons (.v 0) .nil)) (.cons (.call 18 (.cons (.v 0) (.cons (.lst (.cons (.k (.str "alpha")) (.cons (.k (.str "")) (.cons (.k (.str "set")) (.cons (.k (.str "later")) .nil))))) .nil))) .nil))), .par [4, 5] (.cons (.tup (.cons (.v 1) (.cons (.k .non) (.cons (.call 20 (.cons (.v 0) .nil)) .nil)))) (.cons (.tup (.cons (.v 2) (.cons (.bin .add (.v 2) (.k (.int (3)))) (.cons (.call 20 (.cons (.v 0) .nil)) .nil)))) .nil)), .par [6, 7, 8] (.cons (.mk 1 (.cons (.v 1) (.cons (.v 2) .nil))) (.cons (.mk 2 (.cons (.v 1) (.cons (.v 2) .nil))) (.cons (.mk 4 (.cons (.v 4) (.cons (.v 5) .nil))) .nil))), .par [9, 10] (.cons (.mk 13 (.cons (.v 4) (.cons (.v 5) .nil))) (.cons (.mk 18 (.cons (.bin .sub (.call 16 (.cons (.v 0) (.cons (.k (.int (9))) .nil))) (.v 1)) (.cons (.v 3) (.cons (.k (.str "ends")) .nil)))) .nil)), .ite (.cmp .ne (.lst (.cons (.fld (.v 6) 1) (.cons (.fld (.v 6) 2) (.cons (.fld (.v 7) 1) (.cons (.fld (.v 7) 3) .nil))))) (.lst (.cons (.v 1) (.cons (.v 2) (.cons (.v 1) (.cons (.v 2) .nil)))))) [.ret (.k (.bl false))] [], .ite (.cmp .ne (.lst (.cons (.fld (.v 8) 5) (.cons (.fld (.v 8) 6) (.cons (.fld (.v 9) 5) (.cons (.fld (.v 9) 6) .nil))))) (.lst (.cons (.v 4) (.cons (.v 5) (.cons (.v 4) (.cons (.v 5) .nil)))))) [.ret (.k (.bl false))] [], .ite (.cmp .ne (.lst (.cons (.inr (.bin .add (.fld (.v 10) 4) (.v 1)) (.cons (.k (.int (9))) .nil)) (.cons (.fld (.v 10) 12) (.cons (.fld (.v 10) 13) .nil)))) (.lst (.cons (.k (.bl true)) (.cons (.v 3) (.cons (.k (.str "ends")) .nil))))) [.ret (.k (.bl false))] [], .ite (.or (.not (.call 23 (.cons (.v 6) (.cons (.k (.int (0))) .nil)))) (.or (.not (.call 23 (.cons (.v 7) (.cons (.k (.int (1))) .nil)))) (.not (.call 23 (.cons (.v 8) (.cons (.k (.int (3))) .nil)))))) [.ret (.k (.bl false))] [], .ret (.and (.call 23 (.cons (.v 9) (.cons (.k (.int (12))) .nil))) (.call 23 (.cons (.v 10) (.cons (.k (.int (17))) .nil))))], true⟩
/-- _law_right -/
def f25 : Fn := ⟨1, [], [1], 16, [.par [2, 3, 4] (.cons (.call 19 (.cons (.v 0) .nil)) (.cons (.call 18 (.cons (.v 0) (.cons (.lst (.cons (.k (.str "set")) (.cons (.k (.str "")) (.cons (.k (.str "Move")) (.cons (.k (.str "x y")) .nil))))) .nil))) (.cons (.call 21 (.cons (.v 0) .nil)) .nil))), .unp [5, 6, 7, 8] (.tup (.cons (.mk 3 (.cons (.v 2) .nil)) (.cons (.mk 5 (.cons (.v 2) .nil)) (.cons (.mk 6 (.cons (.v 2) .nil)) (.cons (.mk 7 (.cons (.v 2) .nil)) .nil))))), .unp [9, 10, 11, 12] (.tup (.cons (.mk 8 (.cons (.v 2) .nil)) (.cons (.mk 9 (.cons (.v 4) .nil)) (.cons (.mk 10 (.cons (.v 3) .nil)) (.cons (.mk 11 (.cons (.v 3) .nil)) .nil))))), .par [13, 14, 15] (.cons (.mk 11 (.cons (.v 2) .nil)) (.cons (.mk 12 (.cons (.v 2) .nil)) (.cons (.mk 17 (.cons (.v 3) .nil)) .nil))), .set 1 (.lst (.cons (.fld (.v 5) 4) (.cons (.fld (.v 6) 7) (.cons (.fld (.v 7) 8) (.cons (.fld (.v 8) 7) (.cons (.fld (.v 9) 7) (.cons (.fld (.v 13) 10) (.cons (.fld (.v 14) 7) .nil)))))))), .ite (.or (.cmp .ne (.v 1) (.bin .mul (.lst (.cons (.v 2) .nil)) (.k (.int (7))))) (.cmp .ne (.lst (.cons (.fld (.v 10) 9) (.cons (.fld (.v 11) 10) (.cons (.fld (.v 12) 10) (.cons (.fld (.v 15) 11) .nil))))) (.lst (.cons (.v 4) (.cons (.v 3) (.cons (.v 3) (.cons (.v 3) .nil))))))) [.ret (.k (.bl false))] [], .ite (.not (.blt .all (.cons (.lst (.cons (.call 23 (.cons (.v 5) (.cons (.k (.int (2))) .nil))) (.cons (.call 23 (.cons (.v 6) (.cons (.k (.int (4))) .nil))) (.cons (.call 23 (.cons (.v 7) (.cons (.k (.int (5))) .nil))) (.cons (.call 23 (.cons (.v 8) (.cons (.k (.int (6))) .nil))) .nil))))) .nil))) [.ret (.k (.bl false))] [], .ite (.not (.blt .all (.cons (.lst (.cons (.call 23 (.cons (.v 9) (.cons (.k (.int (7))) .nil))) (.cons (.call 23 (.cons (.v 10) (.cons (.k (.int (8))) .nil))) (.cons (.call 23 (.cons (.v 11) (.cons (.k (.int (9))) .nil))) (.cons (.call 23 (.cons (.v 12) (.cons (.k (.int (10))) .nil))) .nil))))) .nil))) [.ret (.k (.bl false))] [], .ite (.or (.not (.call 23 (.cons (.v 13) (.cons (.k (.int (10))) .nil)))) (.or (.not (.call 23 (.cons (.v 14) (.cons (.k (.int (11))) .nil)))) (.not (.call 23 (.cons (.v 15) (.cons (.k (.int (16))) .nil)))))) [.ret (.k (.bl false))] [], .ite (.or (.not (.call 23 (.cons (.mk 14 .nil) (.cons (.k (.int (13))) .nil)))) (.or (.not (.call 23 (.cons (.mk 15 .nil) (.cons (.k (.int (14))) .nil)))) (.not (.call 23 (.cons (.mk 16 .nil) (.cons (.k (.int (15))) .nil)))))) [.ret (.k (.bl false))] [], .ret (.and (.cmp .is (.blt .any (.cons (.call 22 (.cons (.mk 0 .nil) .nil)) .nil)) (.k (.bl false))) (.call 24 (.cons (.v 0) .nil)))], false⟩
def f26_0 : List S := [.ite (.not (.call 25 (.cons (.call 15 (.cons (.v 0) (.cons (.v 1) .nil))) .nil))) [.ret (.k (.bl false))] []]
/-- law -/
def f26 : Fn := ⟨1, [], [1], 2, [.for (.v 1) (.range (.cons (.blt .max (.cons (.k (.int (1))) (.cons (.blt .min (.cons (.k (.int (8))) (.cons (.blt .len (.cons (.v 0) .nil)) .nil))) .nil))) .nil)) f26_0, .ret (.k (.bl true))], false⟩
def fns : List Fn := [f0, f1, f2, f3, f4, f5, f6, f7, f8, f9, f10, f11, f12, f13, f14, f15, f16, f17, f18, f19] ++ [f20, f21, f22, f23, f24, f25, f26]
def pr : Pr := ⟨fns, cls⟩
def defs : List He.DefD := [d0, d1, d2, d3, d4, d5, d6, d7, d8, d9, d10, d11, d12, d13, d14, d15, d16, d17, d18, d19] ++ [d20, d21, d22, d23, d24, d25, d26]
def pss : List (List Str) := ([["self", "first", "end"], ["self", "first", "last"], ["self", "index"], ["self", "earlier", "later"], ["self", "number"], ["self", "most"], ["self", "number"], ["self", "number"], ["self", "ends"], ["self", "word"], ["self", "word"], ["self", "number"], ["self", "earlier", "later"], ["self", "turns"], ["self", "index", "name", "why"], ["script", "at"], ["bag", "many"], ["bag", "many"], ["bag", "some"], ["bag"]] : List (List Str)) ++ ([["bag"], ["bag"], ["made"], ["made", "at"], ["bag"], ["bag"], ["script"]] : List (List Str))
def Ns : List (List Str) := ([["self", "first", "end"], ["self", "first", "last"], ["self", "index"], ["self", "earlier", "later"], ["self", "number"], ["self", "most"], ["self", "number"], ["self", "number"], ["self", "ends"], ["self", "word"], ["self", "word"], ["self", "number"], ["self", "earlier", "later"], ["self", "turns"], ["self", "index", "name", "why"], ["script", "at", "cell", "digits"], ["bag", "many", "mixed", "digit"], ["bag", "many", "number", "turn"], ["bag", "some"], ["bag", "size"]] : List (List Str)) ++ ([["bag", "road", "text", "turn"], ["bag"], ["made", "found"], ["made", "at", "k"], ["bag", "first", "last", "name", "earlier", "later", "row", "stretch", "clash", "two", "refused"], ["bag", "told", "number", "word", "ends", "unordered", "bad", "many", "far", "missing", "other", "barred", "unknown", "strange", "twice", "turns"], ["script", "at"]] : List (List Str))
def T : Tx := { tb := tb, pr := pr, cl := ["RowsError", "EmptyRow", "EmptyStretch", "Unordered", "Clash", "BadLine", "TooMany", "TooFar", "NoDay", "OtherEnds", "NotAllowed", "Unknown", "Twice", "TwoRows", "NothingWrong", "NoScene", "HasHeads", "BadTurns", "Refused"], fn := defs, ps := pss, N := Ns }
theorem st0 : Stat T 0 f0 d0 := ⟨rfl, ⟨by kernel_rfl, by kernel_rfl, by kernel_rfl, by decide +kernel, by kernel_rfl, by decide +kernel, by decide +kernel⟩, by kernel_rfl, rfl, rfl, fun n hn K a fd F => by
  have : n = 3 := by simpa [f0] using hn
  subst this
  exact ⟨[], [], rfl, .nil, F.bindsN fun _ _ _ _ _ _ us hl => match us, hl with | [_, _, _], _ => by kernel_rfl⟩⟩
theorem st1 : Stat T 1 f1 d1 := ⟨rfl, ⟨by kernel_rfl, by kernel_rfl, by kernel_rfl, by decide +kernel, by kernel_rfl, by decide +kernel, by decide +kernel⟩, by kernel_rfl, rfl, rfl, fun n hn K a fd F => by
  have : n = 3 := by simpa [f1] using hn
  subst this
  exact ⟨[], [], rfl, .nil, F.bindsN fun _ _ _ _ _ _ us hl => match us, hl with | [_, _, _], _ => by kernel_rfl⟩⟩
theorem st2 : Stat T 2 f2 d2 := ⟨rfl, ⟨by kernel_rfl, by kernel_rfl, by kernel_rfl, by decide +kernel, by kernel_rfl, by decide +kernel, by decide +kernel⟩, by kernel_rfl, rfl, rfl, fun n hn K a fd F => by
  have : n = 2 := by simpa [f2] using hn
  subst this
  exact ⟨[], [], rfl, .nil, F.bindsN fun _ _ _ _ _ _ us hl => match us, hl with | [_, _], _ => by kernel_rfl⟩⟩
theorem st3 : Stat T 3 f3 d3 := ⟨rfl, ⟨by kernel_rfl, by kernel_rfl, by kernel_rfl, by decide +kernel, by kernel_rfl, by decide +kernel, by decide +kernel⟩, by kernel_rfl, rfl, rfl, fun n hn K a fd F => by
  have : n = 3 := by simpa [f3] using hn
  subst this
  exact ⟨[], [], rfl, .nil, F.bindsN fun _ _ _ _ _ _ us hl => match us, hl with | [_, _, _], _ => by kernel_rfl⟩⟩
theorem st4 : Stat T 4 f4 d4 := ⟨rfl, ⟨by kernel_rfl, by kernel_rfl, by kernel_rfl, by decide +kernel, by kernel_rfl, by decide +kernel, by decide +kernel⟩, by kernel_rfl, rfl, rfl, fun n hn K a fd F => by
  have : n = 2 := by simpa [f4] using hn
  subst this
  exact ⟨[], [], rfl, .nil, F.bindsN fun _ _ _ _ _ _ us hl => match us, hl with | [_, _], _ => by kernel_rfl⟩⟩
theorem st5 : Stat T 5 f5 d5 := ⟨rfl, ⟨by kernel_rfl, by kernel_rfl, by kernel_rfl, by decide +kernel, by kernel_rfl, by decide +kernel, by decide +kernel⟩, by kernel_rfl, rfl, rfl, fun n hn K a fd F => by
  have : n = 2 := by simpa [f5] using hn
  subst this
  exact ⟨[], [], rfl, .nil, F.bindsN fun _ _ _ _ _ _ us hl => match us, hl with | [_, _], _ => by kernel_rfl⟩⟩
theorem st6 : Stat T 6 f6 d6 := ⟨rfl, ⟨by kernel_rfl, by kernel_rfl, by kernel_rfl, by decide +kernel, by kernel_rfl, by decide +kernel, by decide +kernel⟩, by kernel_rfl, rfl, rfl, fun n hn K a fd F => by
  have : n = 2 := by simpa [f6] using hn
  subst this
  exact ⟨[], [], rfl, .nil, F.bindsN fun _ _ _ _ _ _ us hl => match us, hl with | [_, _], _ => by kernel_rfl⟩⟩
theorem st7 : Stat T 7 f7 d7 := ⟨rfl, ⟨by kernel_rfl, by kernel_rfl, by kernel_rfl, by decide +kernel, by kernel_rfl, by decide +kernel, by decide +kernel⟩, by kernel_rfl, rfl, rfl, fun n hn K a fd F => by
  have : n = 2 := by simpa [f7] using hn
  subst this
  exact ⟨[], [], rfl, .nil, F.bindsN fun _ _ _ _ _ _ us hl => match us, hl with | [_, _], _ => by kernel_rfl⟩⟩
theorem st8 : Stat T 8 f8 d8 := ⟨rfl, ⟨by kernel_rfl, by kernel_rfl, by kernel_rfl, by decide +kernel, by kernel_rfl, by decide +kernel, by decide +kernel⟩, by kernel_rfl, rfl, rfl, fun n hn K a fd F => by
  have : n = 2 := by simpa [f8] using hn
  subst this
  exact ⟨[], [], rfl, .nil, F.bindsN fun _ _ _ _ _ _ us hl => match us, hl with | [_, _], _ => by kernel_rfl⟩⟩
theorem st9 : Stat T 9 f9 d9 := ⟨rfl, ⟨by kernel_rfl, by kernel_rfl, by kernel_rfl, by decide +kernel, by kernel_rfl, by decide +kernel, by decide +kernel⟩, by kernel_rfl, rfl, rfl, fun n hn K a fd F => by
  have : n = 2 := by simpa [f9] using hn
  subst this
  exact ⟨[], [], rfl, .nil, F.bindsN fun _ _ _ _ _ _ us hl => match us, hl with | [_, _], _ => by kernel_rfl⟩⟩
theorem st10 : Stat T 10 f10 d10 := ⟨rfl, ⟨by kernel_rfl, by kernel_rfl, by kernel_rfl, by decide +kernel, by kernel_rfl, by decide +kernel, by decide +kernel⟩, by kernel_rfl, rfl, rfl, fun n hn K a fd F => by
  have : n = 2 := by simpa [f10] using hn
  subst this
  exact ⟨[], [], rfl, .nil, F.bindsN fun _ _ _ _ _ _ us hl => match us, hl with | [_, _], _ => by kernel_rfl⟩⟩
theorem st11 : Stat T 11 f11 d11 := ⟨rfl, ⟨by kernel_rfl, by kernel_rfl, by kernel_rfl, by decide +kernel, by kernel_rfl, by decide +kernel, by decide +kernel⟩, by kernel_rfl, rfl, rfl, fun n hn K a fd F => by
  have : n = 2 := by simpa [f11] using hn
  subst this
  exact ⟨[], [], rfl, .nil, F.bindsN fun _ _ _ _ _ _ us hl => match us, hl with | [_, _], _ => by kernel_rfl⟩⟩
theorem st12 : Stat T 12 f12 d12 := ⟨rfl, ⟨by kernel_rfl, by kernel_rfl, by kernel_rfl, by decide +kernel, by kernel_rfl, by decide +kernel, by decide +kernel⟩, by kernel_rfl, rfl, rfl, fun n hn K a fd F => by
  have : n = 3 := by simpa [f12] using hn
  subst this
  exact ⟨[], [], rfl, .nil, F.bindsN fun _ _ _ _ _ _ us hl => match us, hl with | [_, _, _], _ => by kernel_rfl⟩⟩
theorem st13 : Stat T 13 f13 d13 := ⟨rfl, ⟨by kernel_rfl, by kernel_rfl, by kernel_rfl, by decide +kernel, by kernel_rfl, by decide +kernel, by decide +kernel⟩, by kernel_rfl, rfl, rfl, fun n hn K a fd F => by
  have : n = 2 := by simpa [f13] using hn
  subst this
  exact ⟨[], [], rfl, .nil, F.bindsN fun _ _ _ _ _ _ us hl => match us, hl with | [_, _], _ => by kernel_rfl⟩⟩
theorem st14 : Stat T 14 f14 d14 := ⟨rfl, ⟨by kernel_rfl, by kernel_rfl, by kernel_rfl, by decide +kernel, by kernel_rfl, by decide +kernel, by decide +kernel⟩, by kernel_rfl, rfl, rfl, fun n hn K a fd F => by
  have : n = 4 := by simpa [f14] using hn
  subst this
  exact ⟨[], [], rfl, .nil, F.bindsN fun _ _ _ _ _ _ us hl => match us, hl with | [_, _, _, _], _ => by kernel_rfl⟩⟩
theorem st15 : Stat T 15 f15 d15 := ⟨rfl, ⟨by kernel_rfl, by kernel_rfl, by kernel_rfl, by decide +kernel, by kernel_rfl, by decide +kernel, by decide +kernel⟩, by kernel_rfl, rfl, rfl, fun n hn K a fd F => by
  have : n = 2 := by simpa [f15] using hn
  subst this
  exact ⟨[], [], rfl, .nil, F.bindsN fun _ _ _ _ _ _ us hl => match us, hl with | [_, _], _ => by kernel_rfl⟩⟩
theorem st16 : Stat T 16 f16 d16 := ⟨rfl, ⟨by kernel_rfl, by kernel_rfl, by kernel_rfl, by decide +kernel, by kernel_rfl, by decide +kernel, by decide +kernel⟩, by kernel_rfl, rfl, rfl, fun n hn K a fd F => by
  have : n = 2 := by simpa [f16] using hn
  subst this
  exact ⟨[], [], rfl, .nil, F.bindsN fun _ _ _ _ _ _ us hl => match us, hl with | [_, _], _ => by kernel_rfl⟩⟩
theorem st17 : Stat T 17 f17 d17 := ⟨rfl, ⟨by kernel_rfl, by kernel_rfl, by kernel_rfl, by decide +kernel, by kernel_rfl, by decide +kernel, by decide +kernel⟩, by kernel_rfl, rfl, rfl, fun n hn K a fd F => by
  have : n = 2 := by simpa [f17] using hn
  subst this
  exact ⟨[], [], rfl, .nil, F.bindsN fun _ _ _ _ _ _ us hl => match us, hl with | [_, _], _ => by kernel_rfl⟩⟩
theorem st18 : Stat T 18 f18 d18 := ⟨rfl, ⟨by kernel_rfl, by kernel_rfl, by kernel_rfl, by decide +kernel, by kernel_rfl, by decide +kernel, by decide +kernel⟩, by kernel_rfl, rfl, rfl, fun n hn K a fd F => by
  have : n = 2 := by simpa [f18] using hn
  subst this
  exact ⟨[], [], rfl, .nil, F.bindsN fun _ _ _ _ _ _ us hl => match us, hl with | [_, _], _ => by kernel_rfl⟩⟩
theorem st19 : Stat T 19 f19 d19 := ⟨rfl, ⟨by kernel_rfl, by kernel_rfl, by kernel_rfl, by decide +kernel, by kernel_rfl, by decide +kernel, by decide +kernel⟩, by kernel_rfl, rfl, rfl, fun n hn K a fd F => by
  have : n = 1 := by simpa [f19] using hn
  subst this
  exact ⟨[], [], rfl, .nil, F.bindsN fun _ _ _ _ _ _ us hl => match us, hl with | [_], _ => by kernel_rfl⟩⟩
theorem st20 : Stat T 20 f20 d20 := ⟨rfl, ⟨by kernel_rfl, by kernel_rfl, by kernel_rfl, by decide +kernel, by kernel_rfl, by decide +kernel, by decide +kernel⟩, by kernel_rfl, rfl, rfl, fun n hn K a fd F => by
  have : n = 1 := by simpa [f20] using hn
  subst this
  exact ⟨[], [], rfl, .nil, F.bindsN fun _ _ _ _ _ _ us hl => match us, hl with | [_], _ => by kernel_rfl⟩⟩
theorem st21 : Stat T 21 f21 d21 := ⟨rfl, ⟨by kernel_rfl, by kernel_rfl, by kernel_rfl, by decide +kernel, by kernel_rfl, by decide +kernel, by decide +kernel⟩, by kernel_rfl, rfl, rfl, fun n hn K a fd F => by
  have : n = 1 := by simpa [f21] using hn
  subst this
  exact ⟨[], [], rfl, .nil, F.bindsN fun _ _ _ _ _ _ us hl => match us, hl with | [_], _ => by kernel_rfl⟩⟩
theorem st22 : Stat T 22 f22 d22 := ⟨rfl, ⟨by kernel_rfl, by kernel_rfl, by kernel_rfl, by decide +kernel, by kernel_rfl, by decide +kernel, by decide +kernel⟩, by kernel_rfl, rfl, rfl, fun n hn K a fd F => by
  have : n = 1 := by simpa [f22] using hn
  subst this
  exact ⟨[], [], rfl, .nil, F.bindsN fun _ _ _ _ _ _ us hl => match us, hl with | [_], _ => by kernel_rfl⟩⟩
theorem st23 : Stat T 23 f23 d23 := ⟨rfl, ⟨by kernel_rfl, by kernel_rfl, by kernel_rfl, by decide +kernel, by kernel_rfl, by decide +kernel, by decide +kernel⟩, by kernel_rfl, rfl, rfl, fun n hn K a fd F => by
  have : n = 2 := by simpa [f23] using hn
  subst this
  exact ⟨[], [], rfl, .nil, F.bindsN fun _ _ _ _ _ _ us hl => match us, hl with | [_, _], _ => by kernel_rfl⟩⟩
theorem st24 : Stat T 24 f24 d24 := ⟨rfl, ⟨by kernel_rfl, by kernel_rfl, by kernel_rfl, by decide +kernel, by kernel_rfl, by decide +kernel, by decide +kernel⟩, by kernel_rfl, rfl, rfl, fun n hn K a fd F => by
  have : n = 1 := by simpa [f24] using hn
  subst this
  exact ⟨[], [], rfl, .nil, F.bindsN fun _ _ _ _ _ _ us hl => match us, hl with | [_], _ => by kernel_rfl⟩⟩
theorem st25 : Stat T 25 f25 d25 := ⟨rfl, ⟨by kernel_rfl, by kernel_rfl, by kernel_rfl, by decide +kernel, by kernel_rfl, by decide +kernel, by decide +kernel⟩, by kernel_rfl, rfl, rfl, fun n hn K a fd F => by
  have : n = 1 := by simpa [f25] using hn
  subst this
  exact ⟨[], [], rfl, .nil, F.bindsN fun _ _ _ _ _ _ us hl => match us, hl with | [_], _ => by kernel_rfl⟩⟩
theorem st26 : Stat T 26 f26 d26 := ⟨rfl, ⟨by kernel_rfl, by kernel_rfl, by kernel_rfl, by decide +kernel, by kernel_rfl, by decide +kernel, by decide +kernel⟩, by kernel_rfl, rfl, rfl, fun n hn K a fd F => by
  have : n = 1 := by simpa [f26] using hn
  subst this
  exact ⟨[], [], rfl, .nil, F.bindsN fun _ _ _ _ _ _ us hl => match us, hl with | [_], _ => by kernel_rfl⟩⟩
theorem text : Text T where
  st := fun f fn h => match f, h with
    | 0, h => ⟨d0, by cases h; exact st0⟩
    | 1, h => ⟨d1, by cases h; exact st1⟩
    | 2, h => ⟨d2, by cases h; exact st2⟩
    | 3, h => ⟨d3, by cases h; exact st3⟩
    | 4, h => ⟨d4, by cases h; exact st4⟩
    | 5, h => ⟨d5, by cases h; exact st5⟩
    | 6, h => ⟨d6, by cases h; exact st6⟩
    | 7, h => ⟨d7, by cases h; exact st7⟩
    | 8, h => ⟨d8, by cases h; exact st8⟩
    | 9, h => ⟨d9, by cases h; exact st9⟩
    | 10, h => ⟨d10, by cases h; exact st10⟩
    | 11, h => ⟨d11, by cases h; exact st11⟩
    | 12, h => ⟨d12, by cases h; exact st12⟩
    | 13, h => ⟨d13, by cases h; exact st13⟩
    | 14, h => ⟨d14, by cases h; exact st14⟩
    | 15, h => ⟨d15, by cases h; exact st15⟩
    | 16, h => ⟨d16, by cases h; exact st16⟩
    | 17, h => ⟨d17, by cases h; exact st17⟩
    | 18, h => ⟨d18, by cases h; exact st18⟩
    | 19, h => ⟨d19, by cases h; exact st19⟩
    | 20, h => ⟨d20, by cases h; exact st20⟩
    | 21, h => ⟨d21, by cases h; exact st21⟩
    | 22, h => ⟨d22, by cases h; exact st22⟩
    | 23, h => ⟨d23, by cases h; exact st23⟩
    | 24, h => ⟨d24, by cases h; exact st24⟩
    | 25, h => ⟨d25, by cases h; exact st25⟩
    | 26, h => ⟨d26, by cases h; exact st26⟩
    | n + 27, h => by simp [T, pr, fns] at h
  nd := by decide +kernel
  n0 := by decide +kernel
  fns := fun x f h => by
    have := List.all_eq_true.mp (show (tbF.all fun p => (pr.fns[p.2]?).isSome) = true by decide +kernel) _ (lookup_mem h)
    exact Option.isSome_iff_exists.mp this
  clss := fun x c h => by
    have := List.all_eq_true.mp (show (tbC.all fun p => (pr.cls[p.2]?).isSome) = true by decide +kernel) _ (lookup_mem h)
    exact Option.isSome_iff_exists.mp this
  isx := by decide +kernel
  xi := by decide +kernel
-- LAW 26 TOP 32 ID untilrows_k99_errors_made
end L99

set_option Elab.async false
set_option linter.all false
set_option maxRecDepth 100000
set_option maxHeartbeats 0
namespace L99
open PySem PySem.W PySem.Calls PyProof.Rows
def names0 : List PySem.Str := ["RowsError", "EmptyRow", "EmptyStretch", "Unordered", "Clash", "BadLine", "TooMany", "TooFar", "NoDay", "OtherEnds", "NotAllowed", "Unknown", "Twice", "TwoRows", "NothingWrong", "NoScene", "HasHeads", "BadTurns", "Refused", "_law_bag", "_law_take", "_law_wide", "_law_of", "_law_day", "_law_value", "_law_ends", "_law_kinds", "_law_is_own", "_law_pairs_right", "_law_right"]
def names : List PySem.Str := names0
abbrev hk : PySem.W.Hook := T.hook 5
def ob (s : PySem.W.SharedT) : He.AlD := T.obsG 5 (HandSHeadRun.getT s)
theorem ob_eq (s : PySem.W.SharedT) : ob s = hk.obs s.abs := Pm.Tx.obsG_eq (HandSHeadRun.getT_eq s)
theorem run (w : World) : HandSHeadRun.RunEq R (PySem.W.view R.prog [32]) hk ob 6000 names w := by
  intro os
  kernel_rfl
end L99

set_option Elab.async false
set_option linter.all false
set_option maxRecDepth 100000
set_option maxHeartbeats 1000000
namespace L99
open PySem Pm
theorem at0 (a : D) (r : List D) : L2.atI (a :: r) 0 = some a := by
  unfold L2.atI L2.ixN; simp
theorem at1 (a b : D) (r : List D) : L2.atI (a :: b :: r) 1 = some b := by
  unfold L2.atI L2.ixN
  have : (1 : Int) < (r.length : Int) + 1 + 1 := by omega
  simp [this]
theorem at2 (a b c : D) (r : List D) : L2.atI (a :: b :: c :: r) 2 = some c := by
  unfold L2.atI L2.ixN
  have : (2 : Int) < (r.length : Int) + 1 + 1 + 1 := by omega
  simp [this]
theorem ix0 : L2.ixN 3 0 = some 0 := by decide
theorem ix2 : L2.ixN 3 2 = some 2 := by decide
theorem call_keep {k f : Nat} {fn : Fn} {all : List D} {h : Hm} (hf : pr.fns[f]? = some fn) (hk : fn.keep = true) (hn : all.length = fn.np) : callF pr (k + 1) f all h = runF pr (callF pr k) fn all h := by
  simp only [callF, hf, hn, hk, if_true]
/-- the bag at n -/
def Bag (h : Hm) (n : Nat) (d s c : Int) : Prop := h[n]? = some (.lst [.int d, .int s, .int c]) ∧ 0 ≤ d ∧ 0 ≤ s ∧ s < 11529215046068600000 ∧ 0 ≤ c ∧ c < 1000000
/-- the bag, good for q more draws -/
def Bg (h : Hm) (n q : Nat) : Prop := ∃ d s c : Int, Bag h n d s c ∧ c + q < 1000000
/-- nothing but the cell at n is changed -/
def Ext (n : Nat) (h h' : Hm) : Prop := h.length ≤ h'.length ∧ ∀ i x, i ≠ n → h[i]? = some x → h'[i]? = some x
theorem Ext.refl {n : Nat} {h : Hm} : Ext n h h := ⟨Nat.le_refl _, fun _ _ _ e => e⟩
theorem Ext.trans {n : Nat} {h h1 h2 : Hm} (a : Ext n h h1) (b : Ext n h1 h2) : Ext n h h2 := ⟨Nat.le_trans a.1 b.1, fun i x m e => b.2 i x m (a.2 i x m e)⟩
theorem Ext.set {n : Nat} {h : Hm} {c : Cell} : Ext n h (h.set n c) := ⟨by simp, fun i x m e => by rw [List.getElem?_set_ne (Ne.symm m)]; exact e⟩
theorem Ext.app {n : Nat} {h g : Hm} : Ext n h (h ++ g) := ⟨by simp, fun i x m e => by rw [List.getElem?_append_left (List.getElem?_eq_some_iff.mp e).1]; exact e⟩
theorem Bg.mono {h : Hm} {n p q : Nat} (b : Bg h n q) (hp : p ≤ q) : Bg h n p := let ⟨d, s, c, a, e⟩ := b; ⟨d, s, c, a, by omega⟩
theorem Bg.app {h g : Hm} {n q : Nat} (b : Bg h n q) : Bg (h ++ g) n q := by
  obtain ⟨d, s, c, ⟨a, r⟩, e⟩ := b
  exact ⟨d, s, c, ⟨by rw [List.getElem?_append_left (List.getElem?_eq_some_iff.mp a).1]; exact a, r⟩, e⟩
theorem Bg.lt {h : Hm} {n q : Nat} (b : Bg h n q) : n < h.length := by
  obtain ⟨d, s, c, ⟨a, _⟩, _⟩ := b
  exact (List.getElem?_eq_some_iff.mp a).1
theorem take_ok {k n : Nat} {h : Hm} {d s c m : Int} (b : Bag h n d s c) (hm : 0 < m ∧ m < W256) :
    ∃ r d' c', callF pr (k + 1) 16 [.ref n, .int m] h = .ok (.int r) (h.set n (.lst [.int d', .int s, .int c'])) ∧ 0 ≤ r ∧ r < m ∧ 0 ≤ d' ∧ c ≤ c' ∧ c' ≤ c + 1 := by
  obtain ⟨hb, hd, hs0, hs2, hc, hc2⟩ := b
  have hn : n < h.length := (List.getElem?_eq_some_iff.mp hb).1
  have hs : ∀ x, (h.set n x)[n]? = some x := fun x => List.getElem?_set_self hn
  rw [call_keep (fn := f16) rfl rfl rfl]
  by_cases h0 : 0 < d
  · refine ⟨d % m, d / m, c, ?_, Int.emod_nonneg _ (by omega), Int.emod_lt_of_pos _ hm.1, Int.ediv_nonneg hd (by omega), by omega, by omega⟩
    simp only [f16, hb, hs, h0, hm.1, hm.2, runF, exB, exS, evE, evEs, evO, evI, Rs.bind, Rs.out, idxD, seq?, items?, idxS, at0, at1, at2, ix0, ix2, cmpR, cmpD, truth, bltD, binD, setSub, fin, decide_true, decide_false, and_self, if_true, if_false, Bool.false_eq_true, List.length_cons, List.length_nil, Option.map_some, Option.bind_some, List.set_cons_zero, List.set_cons_succ, List.cons_append, List.nil_append, List.getElem?_cons_zero, List.getElem?_cons_succ, List.replicate, Nat.sub, Nat.reduceAdd, Nat.reduceSub, Nat.zero_add, List.set_set]
  · have e1 : ∀ x : Int, x % 2305843009213693921 % 2305843009213693951 = x % 2305843009213693921 := fun x => Int.emod_eq_of_lt (Int.emod_nonneg _ (by decide)) (Int.lt_trans (Int.emod_lt_of_pos _ (by decide)) (by decide))
    have p1 : -W64 < s + 1000033 * (c + 1) ∧ s + 1000033 * (c + 1) < W64 := by unfold W64; omega
    have p2 : -W64 < (s + 1000033 * (c + 1)) ^ 3 % 2305843009213693921 + 32452843 * (c + 1) ∧ (s + 1000033 * (c + 1)) ^ 3 % 2305843009213693921 + 32452843 * (c + 1) < W64 := by
      have q1 := Int.emod_nonneg ((s + 1000033 * (c + 1)) ^ 3) (b := 2305843009213693921) (by decide)
      have q2 := Int.emod_lt_of_pos ((s + 1000033 * (c + 1)) ^ 3) (b := 2305843009213693921) (by decide)
      unfold W64
      generalize (s + 1000033 * (c + 1)) ^ 3 % 2305843009213693921 = z at q1 q2 ⊢
      omega
    have m1 : (-W64 < (1000033 : Int) ∧ (1000033 : Int) < W64) := by unfold W64; decide
    have m2 : (-W64 < (32452843 : Int) ∧ (32452843 : Int) < W64) := by unfold W64; decide
    have k1 : (0 : Int) ≤ 3 ∧ (3 : Int) ≤ 1000000 := by decide
    have k2 : (0 : Int) ≤ 2 ∧ (2 : Int) ≤ 1000000 := by decide
    have t3 : (3 : Int).toNat = 3 := rfl
    have t2 : (2 : Int).toNat = 2 := rfl
    have g1 : (0 : Int) < 2305843009213693921 := by decide
    have g2 : (0 : Int) < 2305843009213693951 := by decide
    have g3 : (0 : Int) < 2048 ∧ (2048 : Int) < W256 := by unfold W256; decide
    refine ⟨(((s + 1000033 * (c + 1)) ^ 3 % 2305843009213693921 + 32452843 * (c + 1)) ^ 2 % 2305843009213693951 / 2048) % m, d, c + 1, ?_, Int.emod_nonneg _ (by omega), Int.emod_lt_of_pos _ hm.1, hd, by omega, by omega⟩
    simp only [f16, hb, hs, h0, hm.1, hm.2, p1, p2, m1, m2, k1, k2, t3, t2, g1, g2, g3, true_and, and_true, true_or, or_true, runF, exB, exS, evE, evEs, evO, evI, Rs.bind, Rs.out, idxD, seq?, items?, idxS, at0, at1, at2, ix0, ix2, cmpR, cmpD, truth, bltD, binD, setSub, fin, decide_true, decide_false, and_self, if_true, if_false, Bool.false_eq_true, List.length_cons, List.length_nil, Option.map_some, Option.bind_some, List.set_cons_zero, List.set_cons_succ, List.cons_append, List.nil_append, List.getElem?_cons_zero, List.getElem?_cons_succ, List.replicate, Nat.sub, Nat.reduceAdd, Nat.reduceSub, Nat.zero_add, List.set_set]
/-- a draw -/
theorem take_g {k n q : Nat} {h : Hm} {m : Int} (b : Bg h n (q + 1)) (hm : 0 < m ∧ m < W256) : ∃ r h', callF pr (k + 1) 16 [.ref n, .int m] h = .ok (.int r) h' ∧ 0 ≤ r ∧ r < m ∧ Bg h' n q ∧ Ext n h h' := by
  obtain ⟨d, s, c, b, e⟩ := b
  obtain ⟨r, d', c', h1, h2, h3, h4, h5, h6⟩ := take_ok (k := k) b hm
  obtain ⟨b1, b2, b3, b4, b5, b6⟩ := b
  exact ⟨r, _, h1, h2, h3, ⟨d', s, c', ⟨List.getElem?_set_self (List.getElem?_eq_some_iff.mp b1).1, h4, b3, b4, by omega, by omega⟩, by omega⟩, .set⟩
theorem atI_nat {xs : List D} {r : Int} (h0 : 0 ≤ r) (h1 : r < xs.length) : ∃ x, L2.atI xs r = some x ∧ x ∈ xs := by
  obtain ⟨i, rfl⟩ := Int.eq_ofNat_of_zero_le h0
  have hi : i < xs.length := by exact_mod_cast h1
  refine ⟨xs[i], ?_, List.getElem_mem hi⟩
  unfold L2.atI L2.ixN
  simp [hi]
/-- one of a list -/
theorem of_g {k n q j : Nat} {h : Hm} {xs : List D} (b : Bg h n (q + 1)) (hj : h[j]? = some (.lst xs)) (nj : j ≠ n) (h0 : 0 < xs.length) (h1 : (xs.length : Int) < W256) :
    ∃ x h', callF pr (k + 2) 18 [.ref n, .ref j] h = .ok x h' ∧ x ∈ xs ∧ Bg h' n q ∧ Ext n h h' := by
  obtain ⟨r, h', e1, e2, e3, e4, e5⟩ := take_g (k := k) (m := (xs.length : Int)) b ⟨by exact_mod_cast h0, h1⟩
  obtain ⟨x, e6, e7⟩ := atI_nat e2 e3
  refine ⟨x, h', ?_, e7, e4, e5⟩
  have hj' := e5.2 j _ nj hj
  have hf : pr.fns[16]? = some f16 := rfl
  have ha : f16.ar.contains 2 = true := rfl
  have hl : f16.dfl = [] := rfl
  rw [show k + 2 = (k + 1) + 1 from rfl, call_keep (fn := f18) rfl rfl rfl]
  simp only [f18, hj, hj', e1, e6, fillD, hf, ha, hl, List.drop_nil, List.append_nil, runF, exB, exS, evE, evEs, evO, evI, Rs.bind, Rs.out, idxD, seq?, items?, idxS, at0, at1, at2, ix0, ix2, cmpR, cmpD, truth, bltD, binD, setSub, fin, decide_true, decide_false, and_self, if_true, if_false, Bool.false_eq_true, List.length_cons, List.length_nil, Option.map_some, Option.bind_some, List.set_cons_zero, List.set_cons_succ, List.cons_append, List.nil_append, List.getElem?_cons_zero, List.getElem?_cons_succ, List.replicate, Nat.sub, Nat.reduceAdd, Nat.reduceSub, Nat.zero_add, List.set_set]
theorem forGo_nx {step : D → Ev → Hm → Out} {w : Wk} {x : D} {r : List D} {e e1 : Ev} {h h1 : Hm} (ok : w.ok h = true) (hs : step x e h = .nx e1 h1) : forGo step w (x :: r) e h = forGo step w r e1 h1 := by
  simp only [forGo, ok, if_true, hs]
theorem wide_loop {k n : Nat} {m : Int} {w : List D} : ∀ (its : List D) (q : Nat) (h : Hm) (num : Int) (x3 : D), Bg h n (q + its.length) →
    ∃ num' x3' h', forGo (forSt pr (callF pr (k + 1)) (.v 3) f17_0) ⟨w, []⟩ its [.ref n, .int m, .int num, x3] h = .nx [.ref n, .int m, .int num', x3'] h' ∧ Bg h' n q ∧ Ext n h h'
  | [], q, h, num, x3, b => ⟨num, x3, h, rfl, b, .refl⟩
  | i :: its, q, h, num, x3, b => by
    have b' : Bg h n ((q + its.length) + 1) := b
    obtain ⟨r, h1, e1, e2, e3, b1, x1⟩ := take_g (k := k) (m := 1125899906842624) b' ⟨by decide, by unfold W256; decide⟩
    obtain ⟨num', x3', h2, e4, b2, x2⟩ := wide_loop (w := w) its q h1 (num * 1125899906842624 + r) i b1
    refine ⟨num', x3', h2, (forGo_nx rfl ?_).trans e4, b2, x1.trans x2⟩
    have hf : pr.fns[16]? = some f16 := rfl
    have ha : f16.ar.contains 2 = true := rfl
    have hl : f16.dfl = [] := rfl
    have m1 : (-W64 < (1125899906842624 : Int) ∧ (1125899906842624 : Int) < W64) := by unfold W64; decide
    simp only [forSt, storeT, f17_0, e1, fillD, hf, ha, hl, List.drop_nil, List.append_nil, m1, or_true, runF, exB, exS, evE, evEs, evO, evI, Rs.bind, Rs.out, idxD, seq?, items?, idxS, at0, at1, at2, ix0, ix2, cmpR, cmpD, truth, bltD, binD, setSub, fin, decide_true, decide_false, and_self, if_true, if_false, Bool.false_eq_true, List.length_cons, List.length_nil, Option.map_some, Option.bind_some, List.set_cons_zero, List.set_cons_succ, List.cons_append, List.nil_append, List.getElem?_cons_zero, List.getElem?_cons_succ, List.replicate, Nat.sub, Nat.reduceAdd, Nat.reduceSub, Nat.zero_add, List.set_set]
theorem wide_g {k n q : Nat} {h : Hm} {m : Int} (b : Bg h n (q + 5)) (hm : 0 < m ∧ m < W256) : ∃ r h', callF pr (k + 2) 17 [.ref n, .int m] h = .ok (.int r) h' ∧ 0 ≤ r ∧ r < m ∧ Bg h' n q ∧ Ext n h h' := by
  have hf : pr.fns[16]? = some f16 := rfl
  have ha : f16.ar.contains 2 = true := rfl
  have hl : f16.dfl = [] := rfl
  rw [show k + 2 = (k + 1) + 1 from rfl, call_keep (fn := f17) rfl rfl rfl]
  have b0 := b
  obtain ⟨d, s, c, ⟨hb, hr⟩, hc⟩ := b
  by_cases h0 : 0 < d
  · obtain ⟨r, h1, e1, e2, e3, b1, x1⟩ := take_g (k := k) (m := m) (b0.mono (p := q + 1) (by omega)) hm
    refine ⟨r, h1, ?_, e2, e3, b1, x1⟩
    simp only [f17, hb, h0, e1, fillD, hf, ha, hl, List.drop_nil, List.append_nil, runF, exB, exS, evE, evEs, evO, evI, Rs.bind, Rs.out, idxD, seq?, items?, idxS, at0, at1, at2, ix0, ix2, cmpR, cmpD, truth, bltD, binD, setSub, fin, decide_true, decide_false, and_self, if_true, if_false, Bool.false_eq_true, List.length_cons, List.length_nil, Option.map_some, Option.bind_some, List.set_cons_zero, List.set_cons_succ, List.cons_append, List.nil_append, List.getElem?_cons_zero, List.getElem?_cons_succ, List.replicate, Nat.sub, Nat.reduceAdd, Nat.reduceSub, Nat.zero_add, List.set_set]
  · obtain ⟨num, x3, h1, e1, b1, x1⟩ := wide_loop (k := k) (m := m) (w := rangeD 0 5) (rangeD 0 5) q h 0 .un b0
    refine ⟨num % m, h1, ?_, Int.emod_nonneg _ (by omega), Int.emod_lt_of_pos _ hm.1, b1, x1⟩
    have w5 : (-W62 ≤ (5 : Int) ∧ (5 : Int) < W62) := by unfold W62; decide
    have v : ∀ (i : Nat) (d : D), ([.ref n, .int m, .int num, x3] : Ev)[i]? = some d → d ≠ .un → evE pr (callF pr (k + 1)) (.v i) [.ref n, .int m, .int num, x3] h1 = .ok d h1 := fun i d a b => r_v a b
    have c0 : evE pr (callF pr (k + 1)) (.v 0) [.ref n, .int m, .un, .un] h = .ok (.ref n) h := r_v rfl (by simp)
    have c1 : evE pr (callF pr (k + 1)) (.v 1) [.ref n, .int m, .int num, x3] h1 = .ok (.int m) h1 := r_v rfl (by simp)
    have c2 : evE pr (callF pr (k + 1)) (.v 2) [.ref n, .int m, .int num, x3] h1 = .ok (.int num) h1 := r_v rfl (by simp)
    simp only [f17, hb, h0, e1, c0, c1, c2, walkR, w5, hm.1, runF, b_nil_, b_cons_, s_set_, s_unp_, s_par_, s_sub_, s_ex_, s_ite_, s_ret_, s_for_, r_k, r_neg, r_not, r_bin, r_cmp, r_tup, r_lst, r_idx, r_fld, r_call, r_mk, r_blt, r_isi, r_comp, r_nil, r_cons, r_range, bind_ok_, out_ok_, idxD, seq?, items?, idxS, at0, at1, at2, ix0, ix2, cmpR, cmpD, truth, bltD, binD, setSub, fin, decide_true, decide_false, and_self, if_true, if_false, Bool.false_eq_true, List.length_cons, List.length_nil, Option.map_some, Option.bind_some, List.set_cons_zero, List.set_cons_succ, List.cons_append, List.nil_append, List.getElem?_cons_zero, List.getElem?_cons_succ, List.replicate, Nat.sub, Nat.reduceAdd, Nat.reduceSub, Nat.zero_add, List.set_set]
theorem day_g {k n q : Nat} {h : Hm} (b : Bg h n (q + 6)) : ∃ (r : Int) (h' : Hm), callF pr (k + 3) 19 [.ref n] h = .ok (.int r) h' ∧ Bg h' n q ∧ Ext n h h' := by
  have nn : h.length ≠ n := Nat.ne_of_gt b.lt
  have g6 : (10 : Int) ^ (6 : Int).toNat = 10 ^ 6 := rfl
  have g30 : (10 : Int) ^ (30 : Int).toNat = 10 ^ 30 := rfl
  have g59 : (10 : Int) ^ (59 : Int).toNat = 10 ^ 59 := rfl
  let xs : List D := [.int 9, .int 9, .int 30, .int (10 ^ 6), .int (10 ^ 30), .int (10 ^ 59)]
  have b0 : Bg (h ++ [.lst xs]) n ((q + 5) + 1) := b.app
  obtain ⟨x, h1, e1, e2, b1, x1⟩ := of_g (k := k) (j := h.length) (xs := xs) b0 (by simp) nn (by simp [xs]) (by unfold W256; simp [xs])
  have hx : ∃ v : Int, x = .int v ∧ 0 < v ∧ v ≤ 10 ^ 59 := by
    simp only [xs, List.mem_cons, List.not_mem_nil, or_false] at e2
    rcases e2 with rfl | rfl | rfl | rfl | rfl | rfl <;> exact ⟨_, rfl, by decide, by decide⟩
  obtain ⟨v, rfl, v1, v2⟩ := hx
  have hm : 0 < 2 * v + 1 ∧ 2 * v + 1 < W256 := by
    refine ⟨by omega, ?_⟩
    unfold W256
    have : (10 : Int) ^ 59 = 100000000000000000000000000000000000000000000000000000000000 := by decide
    omega
  obtain ⟨r, h2, e3, e4, e5, b2, x2⟩ := wide_g (k := k) b1 hm
  refine ⟨r - v, h2, ?_, b2, (Ext.app.trans x1).trans x2⟩
  have hf : pr.fns[18]? = some f18 := rfl
  have hf2 : pr.fns[17]? = some f17 := rfl
  have ha : f18.ar.contains 2 = true := rfl
  have ha2 : f17.ar.contains 2 = true := rfl
  have hl : f18.dfl = [] := rfl
  have hl2 : f17.dfl = [] := rfl
  have p10 : (-W64 < (10 : Int) ∧ (10 : Int) < W64) := by unfold W64; decide
  have p2 : (-W64 < (2 : Int) ∧ (2 : Int) < W64) := by unfold W64; decide
  have k6 : (0 : Int) ≤ 6 ∧ (6 : Int) ≤ 1000000 := by decide
  have k30 : (0 : Int) ≤ 30 ∧ (30 : Int) ≤ 1000000 := by decide
  have k59 : (0 : Int) ≤ 59 ∧ (59 : Int) ≤ 1000000 := by decide
  have six : (6 : Nat) ≤ LIM := by decide
  have c0 : evE pr (callF pr (k + 2)) (.v 0) [.ref n, .un] h = .ok (.ref n) h := r_v rfl (by simp)
  have c1 : evE pr (callF pr (k + 2)) (.v 0) [.ref n, .int v] h1 = .ok (.ref n) h1 := r_v rfl (by simp)
  have c2 : ∀ h, evE pr (callF pr (k + 2)) (.v 1) [.ref n, .int v] h = .ok (.int v) h := fun h => r_v rfl (by simp)
  simp only [xs] at e1
  rw [show k + 3 = (k + 2) + 1 from rfl, call_keep (fn := f19) rfl rfl rfl]
  simp only [f19, c0, c1, c2, newL, six, g6, g30, g59, p10, p2, k6, k30, k59, true_and, and_true, or_true, true_or, e1, e3, fillD, hf, hf2, ha, ha2, hl, hl2, List.drop_nil, List.append_nil, runF, b_nil_, b_cons_, s_set_, s_unp_, s_par_, s_sub_, s_ex_, s_ite_, s_ret_, s_for_, r_k, r_neg, r_not, r_bin, r_cmp, r_tup, r_lst, r_idx, r_fld, r_call, r_mk, r_blt, r_isi, r_comp, r_nil, r_cons, r_range, bind_ok_, out_ok_, idxD, seq?, items?, idxS, at0, at1, at2, ix0, ix2, cmpR, cmpD, truth, bltD, binD, setSub, fin, decide_true, decide_false, and_self, if_true, if_false, Bool.false_eq_true, List.length_cons, List.length_nil, Option.map_some, Option.bind_some, List.set_cons_zero, List.set_cons_succ, List.cons_append, List.nil_append, List.getElem?_cons_zero, List.getElem?_cons_succ, List.replicate, Nat.sub, Nat.reduceAdd, Nat.reduceSub, Nat.zero_add, List.set_set]
theorem atI_natC {xs : List Nat} {r : Int} (h0 : 0 ≤ r) (h1 : r < xs.length) : ∃ x, L2.atI xs r = some x := by
  obtain ⟨i, rfl⟩ := Int.eq_ofNat_of_zero_le h0
  have hi : i < xs.length := by exact_mod_cast h1
  refine ⟨xs[i], ?_⟩
  unfold L2.atI L2.ixN
  simp [hi]
/-- one sign of a text -/
theorem ofs_g {k n q : Nat} {h : Hm} {z : Str} (b : Bg h n (q + 1)) (h0 : 0 < z.length) (h1 : z.length ≤ LIM) :
    ∃ (c : Nat) (h' : Hm), callF pr (k + 2) 18 [.ref n, .str z] h = .ok (.str ⟨#[c]⟩) h' ∧ Bg h' n q ∧ Ext n h h' := by
  obtain ⟨r, h', e1, e2, e3, e4, e5⟩ := take_g (k := k) (m := (z.length : Int)) b ⟨by exact_mod_cast h0, by unfold W256; unfold LIM at h1; omega⟩
  obtain ⟨x, e6⟩ := atI_natC (xs := z.cps.toList) e2 (by simpa [Str.length] using e3)
  refine ⟨x, h', ?_, e4, e5⟩
  have hf : pr.fns[16]? = some f16 := rfl
  have ha : f16.ar.contains 2 = true := rfl
  have hl : f16.dfl = [] := rfl
  have c0 : ∀ h, evE pr (callF pr (k + 1)) (.v 0) [.ref n, .str z] h = .ok (.ref n) h := fun h => r_v rfl (by simp)
  have c1 : ∀ h, evE pr (callF pr (k + 1)) (.v 1) [.ref n, .str z] h = .ok (.str z) h := fun h => r_v rfl (by simp)
  rw [show k + 2 = (k + 1) + 1 from rfl, call_keep (fn := f18) rfl rfl rfl]
  simp only [f18, c0, c1, h1, idxT, e1, e6, fillD, hf, ha, hl, List.drop_nil, List.append_nil, runF, b_nil_, b_cons_, s_set_, s_unp_, s_par_, s_sub_, s_ex_, s_ite_, s_ret_, s_for_, r_k, r_neg, r_not, r_bin, r_cmp, r_tup, r_lst, r_idx, r_fld, r_call, r_mk, r_blt, r_isi, r_comp, r_nil, r_cons, r_range, bind_ok_, out_ok_, idxD, seq?, items?, idxS, at0, at1, at2, ix0, ix2, cmpR, cmpD, truth, bltD, binD, setSub, fin, decide_true, decide_false, and_self, if_true, if_false, Bool.false_eq_true, List.length_cons, List.length_nil, Option.map_some, Option.bind_some, List.set_cons_zero, List.set_cons_succ, List.cons_append, List.nil_append, List.getElem?_cons_zero, List.getElem?_cons_succ, List.replicate, Nat.sub, Nat.reduceAdd, Nat.reduceSub, Nat.zero_add, List.set_set]
theorem len1 (c : Nat) : (⟨#[c]⟩ : Str).length = 1 := rfl
theorem text_loop {k n : Nat} {w : List D} : ∀ (its : List D) (q : Nat) (h : Hm) (x1 : D) (t : Str) (x3 : D), Bg h n (q + its.length) → t.length + its.length ≤ LIM →
    ∃ t' x3' h', forGo (forSt pr (callF pr (k + 2)) (.v 3) f20_0) ⟨w, []⟩ its [.ref n, x1, .str t, x3] h = .nx [.ref n, x1, .str t', x3'] h' ∧ Bg h' n q ∧ Ext n h h'
  | [], q, h, x1, t, x3, b, _ => ⟨t, x3, h, rfl, b, .refl⟩
  | i :: its, q, h, x1, t, x3, b, hl => by
    have b' : Bg h n ((q + its.length) + 1) := b
    obtain ⟨c, h1, e1, b1, y1⟩ := ofs_g (k := k) (z := "0123456789abcxyzABZ '-_=~.!") b' (by decide) (by decide)
    have hl1 : t.length + (⟨#[c]⟩ : Str).length ≤ LIM := by rw [len1]; simp at hl; omega
    have hl2 : (t ++ ⟨#[c]⟩ : Str).length + its.length ≤ LIM := by
      have : (t ++ ⟨#[c]⟩ : Str).length = t.length + 1 := by
        show (t.cps ++ #[c]).size = t.cps.size + 1
        simp
      simp at hl; omega
    obtain ⟨t', x3', h2, e4, b2, y2⟩ := text_loop (w := w) its q h1 x1 (t ++ ⟨#[c]⟩) i b1 hl2
    refine ⟨t', x3', h2, (forGo_nx rfl ?_).trans e4, b2, y1.trans y2⟩
    have hf : pr.fns[18]? = some f18 := rfl
    have ha : f18.ar.contains 2 = true := rfl
    have hd : f18.dfl = [] := rfl
    have c0 : ∀ h, evE pr (callF pr (k + 2)) (.v 0) [.ref n, x1, .str t, i] h = .ok (.ref n) h := fun h => r_v rfl (by simp)
    have c2 : ∀ h, evE pr (callF pr (k + 2)) (.v 2) [.ref n, x1, .str t, i] h = .ok (.str t) h := fun h => r_v rfl (by simp)
    simp only [forSt, storeT, f20_0, c0, c2, e1, hl1, fillD, hf, ha, hd, List.drop_nil, List.append_nil, runF, b_nil_, b_cons_, s_set_, s_unp_, s_par_, s_sub_, s_ex_, s_ite_, s_ret_, s_for_, r_k, r_neg, r_not, r_bin, r_cmp, r_tup, r_lst, r_idx, r_fld, r_call, r_mk, r_blt, r_isi, r_comp, r_nil, r_cons, r_range, bind_ok_, out_ok_, idxD, seq?, items?, idxS, at0, at1, at2, ix0, ix2, cmpR, cmpD, truth, bltD, binD, setSub, fin, decide_true, decide_false, and_self, if_true, if_false, Bool.false_eq_true, List.length_cons, List.length_nil, Option.map_some, Option.bind_some, List.set_cons_zero, List.set_cons_succ, List.cons_append, List.nil_append, List.getElem?_cons_zero, List.getElem?_cons_succ, List.replicate, Nat.sub, Nat.reduceAdd, Nat.reduceSub, Nat.zero_add, List.set_set]
theorem eqD_int {h : Hm} {i j : Int} : eqD h (.int i) (.int j) = some (decide (i = j)) := by
  simp [eqD, eqP, deep, mapD, plainD, depD, eqd]
/-- a number or a text -/
def Val (v : D) : Prop := (∃ i, v = .int i) ∨ ∃ t, v = .str t
theorem range_len (j : Int) : (rangeD 0 j).length = j.toNat := by simp [rangeD]
theorem value_g {k n q : Nat} {h : Hm} (b : Bg h n (q + 11)) : ∃ (v : D) (h' : Hm), callF pr (k + 3) 20 [.ref n] h = .ok v h' ∧ Val v ∧ Bg h' n q ∧ Ext n h h' := by
  obtain ⟨road, h1, e1, e2, e3, b1, x1⟩ := take_g (k := k + 1) (q := q + 10) (m := 4) b ⟨by decide, by unfold W256; decide⟩
  have hf16 : pr.fns[16]? = some f16 := rfl
  have ha16 : f16.ar.contains 2 = true := rfl
  have hl16 : f16.dfl = [] := rfl
  have hf17 : pr.fns[17]? = some f17 := rfl
  have ha17 : f17.ar.contains 2 = true := rfl
  have hl17 : f17.dfl = [] := rfl
  have hf18 : pr.fns[18]? = some f18 := rfl
  have ha18 : f18.ar.contains 2 = true := rfl
  have hl18 : f18.dfl = [] := rfl
  have p10 : (-W64 < (10 : Int) ∧ (10 : Int) < W64) := by unfold W64; decide
  have p2 : (-W64 < (2 : Int) ∧ (2 : Int) < W64) := by unfold W64; decide
  have k59 : (0 : Int) ≤ 59 ∧ (59 : Int) ≤ 1000000 := by decide
  have g59 : (10 : Int) ^ (59 : Int).toNat = 10 ^ 59 := rfl
  have c0 : evE pr (callF pr (k + 2)) (.v 0) [.ref n, .un, .un, .un] h = .ok (.ref n) h := r_v rfl (by simp)
  have c0' : ∀ h, evE pr (callF pr (k + 2)) (.v 0) [.ref n, .int road, .un, .un] h = .ok (.ref n) h := fun h => r_v rfl (by simp)
  have c1 : ∀ h, evE pr (callF pr (k + 2)) (.v 1) [.ref n, .int road, .un, .un] h = .ok (.int road) h := fun h => r_v rfl (by simp)
  rw [show k + 3 = (k + 2) + 1 from rfl, call_keep (fn := f20) rfl rfl rfl]
  by_cases r0 : road = 0
  · subst r0
    obtain ⟨r, h2, e4, e5, e6, b2, x2⟩ := take_g (k := k + 1) (m := 5) (b1.mono (p := q + 1) (by omega)) ⟨by decide, by unfold W256; decide⟩
    refine ⟨.int (r - 2), h2, ?_, .inl ⟨_, rfl⟩, b2, x1.trans x2⟩
    simp only [f20, c0, c0', c1, eqD_int, e1, e4, fillD, hf16, ha16, hl16, List.drop_nil, List.append_nil, runF, b_nil_, b_cons_, s_set_, s_unp_, s_par_, s_sub_, s_ex_, s_ite_, s_ret_, s_for_, r_k, r_neg, r_not, r_bin, r_cmp, r_tup, r_lst, r_idx, r_fld, r_call, r_mk, r_blt, r_isi, r_comp, r_nil, r_cons, r_range, bind_ok_, out_ok_, idxD, seq?, items?, idxS, at0, at1, at2, ix0, ix2, cmpR, cmpD, truth, bltD, binD, setSub, fin, decide_true, decide_false, and_self, if_true, if_false, Bool.false_eq_true, List.length_cons, List.length_nil, Option.map_some, Option.bind_some, List.set_cons_zero, List.set_cons_succ, List.cons_append, List.nil_append, List.getElem?_cons_zero, List.getElem?_cons_succ, List.replicate, Nat.sub, Nat.reduceAdd, Nat.reduceSub, Nat.zero_add, List.set_set]
  · by_cases r1 : road = 1
    · subst r1
      obtain ⟨r, h2, e4, e5, e6, b2, x2⟩ := wide_g (k := k) (m := 2 * 10 ^ 59) (b1.mono (p := q + 5) (by omega)) ⟨by decide, by unfold W256; decide⟩
      refine ⟨.int (r - 10 ^ 59), h2, ?_, .inl ⟨_, rfl⟩, b2, x1.trans x2⟩
      simp only [f20, c0, c0', c1, eqD_int, r0, e1, e4, g59, p10, p2, k59, true_and, and_true, or_true, true_or, fillD, hf16, ha16, hl16, hf17, ha17, hl17, List.drop_nil, List.append_nil, runF, b_nil_, b_cons_, s_set_, s_unp_, s_par_, s_sub_, s_ex_, s_ite_, s_ret_, s_for_, r_k, r_neg, r_not, r_bin, r_cmp, r_tup, r_lst, r_idx, r_fld, r_call, r_mk, r_blt, r_isi, r_comp, r_nil, r_cons, r_range, bind_ok_, out_ok_, idxD, seq?, items?, idxS, at0, at1, at2, ix0, ix2, cmpR, cmpD, truth, bltD, binD, setSub, fin, decide_true, decide_false, and_self, if_true, if_false, Bool.false_eq_true, List.length_cons, List.length_nil, Option.map_some, Option.bind_some, List.set_cons_zero, List.set_cons_succ, List.cons_append, List.nil_append, List.getElem?_cons_zero, List.getElem?_cons_succ, List.replicate, Nat.sub, Nat.reduceAdd, Nat.reduceSub, Nat.zero_add, List.set_set]
    · let xs : List D := [.int 0, .int 1, .int 2, .int 9]
      have nn : h1.length ≠ n := Nat.ne_of_gt b1.lt
      obtain ⟨x, h2, e4, e5, b2, x2⟩ := of_g (k := k) (j := h1.length) (xs := xs) (q := q + 9) (b1.app (g := [.lst xs])) (by simp) nn (by simp [xs]) (by unfold W256; simp [xs])
      have hx : ∃ v : Int, x = .int v ∧ 0 ≤ v ∧ v ≤ 9 := by
        simp only [xs, List.mem_cons, List.not_mem_nil, or_false] at e5
        rcases e5 with rfl | rfl | rfl | rfl <;> exact ⟨_, rfl, by decide, by decide⟩
      obtain ⟨v, rfl, v1, v2⟩ := hx
      have hr : (rangeD 0 v).length ≤ 9 := by rw [range_len]; omega
      obtain ⟨t', x3', h3, e6, b3, x3⟩ := text_loop (k := k) (w := rangeD 0 v) (rangeD 0 v) q h2 (.int road) ⟨#[]⟩ .un (b2.mono (by omega)) (by show 0 + _ ≤ LIM; unfold LIM; omega)
      refine ⟨.str t', h3, ?_, .inr ⟨_, rfl⟩, b3, ((x1.trans Ext.app).trans x2).trans x3⟩
      have four : (4 : Nat) ≤ LIM := by decide
      have wv : -W62 ≤ v ∧ v < W62 := by unfold W62; omega
      have c2 : evE pr (callF pr (k + 2)) (.v 0) [.ref n, .int road, .str ⟨#[]⟩, .un] h1 = .ok (.ref n) h1 := r_v rfl (by simp)
      have c3 : evE pr (callF pr (k + 2)) (.v 2) [.ref n, .int road, .str t', x3'] h3 = .ok (.str t') h3 := r_v rfl (by simp)
      have es : (Str.ofString "" : Str) = ⟨#[]⟩ := rfl
      simp only [xs] at e4
      simp only [f20, es, c0, c0', c1, c2, c3, eqD_int, r0, r1, e1, e4, e6, newL, four, walkR, wv, fillD, hf16, ha16, hl16, hf18, ha18, hl18, List.drop_nil, List.append_nil, runF, b_nil_, b_cons_, s_set_, s_unp_, s_par_, s_sub_, s_ex_, s_ite_, s_ret_, s_for_, r_k, r_neg, r_not, r_bin, r_cmp, r_tup, r_lst, r_idx, r_fld, r_call, r_mk, r_blt, r_isi, r_comp, r_nil, r_cons, r_range, bind_ok_, out_ok_, idxD, seq?, items?, idxS, at0, at1, at2, ix0, ix2, cmpR, cmpD, truth, bltD, binD, setSub, fin, decide_true, decide_false, and_self, if_true, if_false, Bool.false_eq_true, List.length_cons, List.length_nil, Option.map_some, Option.bind_some, List.set_cons_zero, List.set_cons_succ, List.cons_append, List.nil_append, List.getElem?_cons_zero, List.getElem?_cons_succ, List.replicate, Nat.sub, Nat.reduceAdd, Nat.reduceSub, Nat.zero_add, List.set_set]
end L99

set_option Elab.async false
set_option linter.all false
set_option maxRecDepth 100000
set_option maxHeartbeats 1000000
namespace L99
open PySem Pm
def bools (c : Nat) : List D := (List.range 18).map fun j => .bl (decide (j + 1 = c))
theorem kinds_run (φ : Nat → List D → Hm → Rs D) (h : Hm) (fs : List Nat) (vs : List D) : ∀ c : Nat, c < 19 → aloneR h (runF pr φ f22 [.xcp c fs vs] []) = .ok (.lst (bools c)) h := by
  intro c hc
  match c, hc with
  | 0, _ | 1, _ | 2, _ | 3, _ | 4, _ | 5, _ | 6, _ | 7, _ | 8, _ | 9, _ | 10, _ | 11, _ | 12, _ | 13, _ | 14, _ | 15, _ | 16, _ | 17, _ | 18, _ => kernel_rfl
  | n + 19, h => omega
theorem kinds_g {k c : Nat} {h : Hm} {fs : List Nat} {vs : List D} (hc : c < 19) (hv : noRefs vs = true) : callF pr (k + 1) 22 [.xcp c fs vs] h = .ok (.lst (bools c)) h := by
  have e : callF pr (k + 1) 22 [.xcp c fs vs] h = aloneR h (runF pr (callF pr k) f22 [.xcp c fs vs] []) := by
    simp only [callF, show pr.fns[22]? = some f22 from rfl, show f22.np = 1 from rfl, show f22.keep = false from rfl, List.length_cons, List.length_nil, if_true, Bool.false_eq_true, if_false, noRefs, noRef, hv, Bool.and_self]
  rw [e]
  exact kinds_run _ h fs vs c hc
theorem own_parts (φ : Nat → List D → Hm → Rs D) (fs : List Nat) (vs : List D) : ∀ c : Nat, c < 18 →
    evE pr φ (.or (.not (.isi (.v 0) [(.cls 0)])) (.not (.isi (.v 0) [.un]))) [.xcp (c + 1) fs vs, .int c, .un] [] = .ok (.bl false) [] ∧
    evE pr φ (.comp f23_0 (.v 2) (.range (.cons (.k (.int (18))) .nil)) .none [2]) [.xcp (c + 1) fs vs, .int c, .un] [] = .ok (.ref 0) [.lst (bools (c + 1))] ∧
    cmpR [.lst (bools (c + 1))] .eq (.lst (bools (c + 1))) (.ref 0) = .ok (.bl true) [.lst (bools (c + 1))] := by
  intro c hc
  match c, hc with
  | 0, _ | 1, _ | 2, _ | 3, _ | 4, _ | 5, _ | 6, _ | 7, _ | 8, _ | 9, _ | 10, _ | 11, _ | 12, _ | 13, _ | 14, _ | 15, _ | 16, _ | 17, _ => exact ⟨by kernel_rfl, by kernel_rfl, by kernel_rfl⟩
  | n + 18, h => omega
theorem own_g {k c : Nat} {h : Hm} {fs : List Nat} {vs : List D} (hc : c < 18) (hv : noRefs vs = true) : callF pr (k + 2) 23 [.xcp (c + 1) fs vs, .int c] h = .ok (.bl true) h := by
  have e : callF pr (k + 2) 23 [.xcp (c + 1) fs vs, .int c] h = aloneR h (runF pr (callF pr (k + 1)) f23 [.xcp (c + 1) fs vs, .int c] []) := by
    simp only [callF, show pr.fns[23]? = some f23 from rfl, show f23.np = 2 from rfl, show f23.keep = false from rfl, List.length_cons, List.length_nil, if_true, Bool.false_eq_true, if_false, noRefs, noRef, hv, Bool.and_self]
  obtain ⟨e1, e2, e3⟩ := own_parts (callF pr (k + 1)) fs vs c hc
  have e4 := kinds_g (k := k) (c := c + 1) (h := []) (fs := fs) (vs := vs) (by omega) hv
  have hf : pr.fns[22]? = some f22 := rfl
  have ha : f22.ar.contains 1 = true := rfl
  have hl : f22.dfl = [] := rfl
  have c0 : evE pr (callF pr (k + 1)) (.v 0) [.xcp (c + 1) fs vs, .int c, .un] [] = .ok (.xcp (c + 1) fs vs) [] := r_v rfl (by simp)
  have run : runF pr (callF pr (k + 1)) f23 [.xcp (c + 1) fs vs, .int c] [] = .ok (.bl true) [.lst (bools (c + 1))] := by
    simp only [f23, runF, b_nil_, b_cons_, s_ite_, s_ret_, e1, r_cmp, r_call, r_cons, r_nil, c0, e4, e2, e3, bind_ok_, out_ok_, fillD, hf, ha, hl, List.drop_nil, List.append_nil, truth, fin, if_true, List.length_cons, List.length_nil, Nat.zero_add, Nat.reduceAdd, Nat.reduceSub, List.replicate, List.cons_append, List.nil_append]
  rw [e, run]
  rfl
end L99

set_option Elab.async false
set_option linter.all false
set_option maxRecDepth 100000
set_option maxHeartbeats 4000000
namespace L99
open PySem Pm
theorem r_v' {pr : Pr} {φ : Nat → List D → Hm → Rs D} {i : Nat} {e : Ev} {h : Hm} : evE pr φ (.v i) e h = match e[i]? with | some .un => .bad | some d => .ok d h | none => .bad := by simp only [evE] <;> rfl
theorem r_or {pr : Pr} {φ : Nat → List D → Hm → Rs D} {a b : E} {e : Ev} {h : Hm} : evE pr φ (.or a b) e h = (evE pr φ a e h).bind fun x h => match truth h x with | some true => .ok x h | some false => evE pr φ b e h | none => .bad := by simp only [evE] <;> rfl
theorem r_and {pr : Pr} {φ : Nat → List D → Hm → Rs D} {a b : E} {e : Ev} {h : Hm} : evE pr φ (.and a b) e h = (evE pr φ a e h).bind fun x h => match truth h x with | some true => evE pr φ b e h | some false => .ok x h | none => .bad := by simp only [evE] <;> rfl
theorem r_inr {pr : Pr} {φ : Nat → List D → Hm → Rs D} {a : E} {es : Es} {e : Ev} {h : Hm} : evE pr φ (.inr a es) e h = (evE pr φ a e h).bind fun x h => (evEs pr φ es e h).bind fun ds h => match x, ds with | .int i, [.int j] => .ok (.bl (decide (0 ≤ i ∧ i < j))) h | _, _ => .bad := by simp only [evE] <;> rfl
/-- two equal lists just made -/
theorem ne_new {h : Hm} {xs : List D} (p : plainDs xs = true) (hd : depDs xs ≤ 50) : cmpR ((h ++ [Cell.lst xs]) ++ [Cell.lst xs]) .ne (.ref h.length) (.ref (h ++ [Cell.lst xs]).length) = .ok (.bl false) ((h ++ [Cell.lst xs]) ++ [Cell.lst xs]) := by
  have e := eq_same (h := (h ++ [Cell.lst xs]) ++ [Cell.lst xs]) (a := h.length) (b := (h ++ [Cell.lst xs]).length) (xs := xs) (by simp) (by simp) p hd
  simp only [cmpR, cmpD, e, Option.map_some, Bool.not_true]
theorem val_plain {v : D} (h : Val v) : plainD v = true ∧ depD v = 0 ∧ v ≠ .un := by
  rcases h with ⟨i, rfl⟩ | ⟨t, rfl⟩ <;> exact ⟨rfl, rfl, by simp⟩
theorem pairs_g {k n q : Nat} {h : Hm} (b : Bg h n (q + 36)) : ∃ h', callF pr (k + 4) 24 [.ref n] h = .ok (.bl true) h' := by
  obtain ⟨first, h1, e1, b1, x1⟩ := day_g (k := k) (q := q + 30) b
  obtain ⟨last, h2, e2, b2, x2⟩ := day_g (k := k) (q := q + 24) b1
  let xs : List D := [.str "alpha", .str "", .str "set", .str "later"]
  obtain ⟨nm, h3, e3, hnm, b3, x3⟩ := of_g (k := k + 1) (j := h2.length) (xs := xs) (q := q + 23) (b2.app (g := [.lst xs])) (by simp) (Nat.ne_of_gt b2.lt) (by simp [xs]) (by unfold W256; simp [xs])
  obtain ⟨v1, h4, e4, hv1, b4, x4⟩ := value_g (k := k) (q := q + 12) b3
  obtain ⟨v2, h5, e5, hv2, b5, x5⟩ := value_g (k := k) (q := q + 1) b4
  obtain ⟨r, h6, e6, r0, r9, b6, x6⟩ := take_g (k := k + 2) (m := 9) b5 ⟨by decide, by unfold W256; decide⟩
  have hn : ∃ z, nm = .str z := by
    simp only [xs, List.mem_cons, List.not_mem_nil, or_false] at hnm
    rcases hnm with rfl | rfl | rfl | rfl <;> exact ⟨_, rfl⟩
  obtain ⟨z, rfl⟩ := hn
  obtain ⟨p1, q1, u1⟩ := val_plain hv1
  obtain ⟨p2, q2, u2⟩ := val_plain hv2
  have o0 := fun h => own_g (k := k + 1) (c := 0) (h := h) (fs := [1, 2]) (vs := [.int first, .int last]) (by decide) rfl
  have o1 := fun h => own_g (k := k + 1) (c := 1) (h := h) (fs := [1, 3]) (vs := [.int first, .int last]) (by decide) rfl
  have nt : noRefs [.tup [.int first, .non, v1], .tup [.int last, .int (last + 3), v2]] = true := noRefs_plain _ (by simp [plainDs, plainD, p1, p2])
  have o3 := fun h => own_g (k := k + 1) (c := 3) (h := h) (fs := [5, 6]) (vs := [.tup [.int first, .non, v1], .tup [.int last, .int (last + 3), v2]]) (by decide) nt
  have o12 := fun h => own_g (k := k + 1) (c := 12) (h := h) (fs := [5, 6]) (vs := [.tup [.int first, .non, v1], .tup [.int last, .int (last + 3), v2]]) (by decide) nt
  have o17 := fun h => own_g (k := k + 1) (c := 17) (h := h) (fs := [4, 12, 13]) (vs := [.int (r - first), .str z, .str "ends"]) (by decide) rfl
  have fx1 : ∀ x : D, fillD pr 19 [x] = some [x] := fun _ => rfl
  have fx2 : ∀ x y : D, fillD pr 18 [x, y] = some [x, y] := fun _ _ => rfl
  have fx3 : ∀ x : D, fillD pr 20 [x] = some [x] := fun _ => rfl
  have fx4 : ∀ x y : D, fillD pr 16 [x, y] = some [x, y] := fun _ _ => rfl
  have fx5 : ∀ x y : D, fillD pr 23 [x, y] = some [x, y] := fun _ _ => rfl
  have m1 : ∀ (φ : Nat → List D → Hm → Rs D) (x y : D) h, mkD pr φ 1 [x, y] h = .ok (.xcp 1 [1, 2] [x, y]) h := fun _ _ _ _ => rfl
  have m2 : ∀ (φ : Nat → List D → Hm → Rs D) (x y : D) h, mkD pr φ 2 [x, y] h = .ok (.xcp 2 [1, 3] [x, y]) h := fun _ _ _ _ => rfl
  have m4 : ∀ (φ : Nat → List D → Hm → Rs D) (x y : D) h, mkD pr φ 4 [x, y] h = .ok (.xcp 4 [5, 6] [x, y]) h := fun _ _ _ _ => rfl
  have m13 : ∀ (φ : Nat → List D → Hm → Rs D) (x y : D) h, mkD pr φ 13 [x, y] h = .ok (.xcp 13 [5, 6] [x, y]) h := fun _ _ _ _ => rfl
  have m18 : ∀ (φ : Nat → List D → Hm → Rs D) (x y z : D) h, mkD pr φ 18 [x, y, z] h = .ok (.xcp 18 [4, 12, 13] [x, y, z]) h := fun _ _ _ _ _ => rfl
  have g1 : ∀ (x y : D) h, fldD pr h (.xcp 1 [1, 2] [x, y]) 1 = some (.inl x) := fun _ _ _ => rfl
  have g2 : ∀ (x y : D) h, fldD pr h (.xcp 1 [1, 2] [x, y]) 2 = some (.inl y) := fun _ _ _ => rfl
  have g3 : ∀ (x y : D) h, fldD pr h (.xcp 2 [1, 3] [x, y]) 1 = some (.inl x) := fun _ _ _ => rfl
  have g4 : ∀ (x y : D) h, fldD pr h (.xcp 2 [1, 3] [x, y]) 3 = some (.inl y) := fun _ _ _ => rfl
  have g5 : ∀ (x y : D) h, fldD pr h (.xcp 4 [5, 6] [x, y]) 5 = some (.inl x) := fun _ _ _ => rfl
  have g6 : ∀ (x y : D) h, fldD pr h (.xcp 4 [5, 6] [x, y]) 6 = some (.inl y) := fun _ _ _ => rfl
  have g7 : ∀ (x y : D) h, fldD pr h (.xcp 13 [5, 6] [x, y]) 5 = some (.inl x) := fun _ _ _ => rfl
  have g8 : ∀ (x y : D) h, fldD pr h (.xcp 13 [5, 6] [x, y]) 6 = some (.inl y) := fun _ _ _ => rfl
  have g9 : ∀ (x y z : D) h, fldD pr h (.xcp 18 [4, 12, 13] [x, y, z]) 4 = some (.inl x) := fun _ _ _ _ => rfl
  have g10 : ∀ (x y z : D) h, fldD pr h (.xcp 18 [4, 12, 13] [x, y, z]) 12 = some (.inl y) := fun _ _ _ _ => rfl
  have g11 : ∀ (x y z : D) h, fldD pr h (.xcp 18 [4, 12, 13] [x, y, z]) 13 = some (.inl z) := fun _ _ _ _ => rfl
  have l3 : (3 : Nat) ≤ LIM := by decide
  have l4 : (4 : Nat) ≤ LIM := by decide
  have n1 : ∀ h : Hm, cmpR ((h ++ [Cell.lst [.int first, .int last, .int first, .int last]]) ++ [Cell.lst [.int first, .int last, .int first, .int last]]) .ne (.ref h.length) (.ref (h ++ [Cell.lst [.int first, .int last, .int first, .int last]]).length) = .ok (.bl false) _ := fun h => ne_new rfl (by simp [depDs, depD])
  have n2 : ∀ h : Hm, cmpR ((h ++ [Cell.lst [.tup [.int first, .non, v1], .tup [.int last, .int (last + 3), v2], .tup [.int first, .non, v1], .tup [.int last, .int (last + 3), v2]]]) ++ [Cell.lst [.tup [.int first, .non, v1], .tup [.int last, .int (last + 3), v2], .tup [.int first, .non, v1], .tup [.int last, .int (last + 3), v2]]]) .ne (.ref h.length) (.ref (h ++ [Cell.lst [.tup [.int first, .non, v1], .tup [.int last, .int (last + 3), v2], .tup [.int first, .non, v1], .tup [.int last, .int (last + 3), v2]]]).length) = .ok (.bl false) _ := fun h => ne_new (by simp [plainDs, plainD, p1, p2]) (by simp [depDs, depD, q1, q2])
  have n3 : ∀ h : Hm, cmpR ((h ++ [Cell.lst [.bl true, .str z, .str "ends"]]) ++ [Cell.lst [.bl true, .str z, .str "ends"]]) .ne (.ref h.length) (.ref (h ++ [Cell.lst [.bl true, .str z, .str "ends"]]).length) = .ok (.bl false) _ := fun h => ne_new rfl (by simp [depDs, depD])
  have dd : decide (0 ≤ r - first + first ∧ r - first + first < 9) = true := decide_eq_true (by omega)
  have n0 : (Nat.cast 0 : Int) = 0 := rfl
  rw [show k + 4 = (k + 3) + 1 from rfl, call_keep (fn := f24) rfl rfl rfl]
  have e3' : callF pr (k + 3) 18 [.ref n, .ref h2.length] (h2 ++ [Cell.lst [.str "alpha", .str "", .str "set", .str "later"]]) = .ok (.str z) h3 := e3
  have e6' : callF pr (k + 3) 16 [.ref n, .int 9] h5 = .ok (.int r) h6 := e6
  have o0' : ∀ h, callF pr (k + 3) 23 [.xcp 1 [1, 2] [.int first, .int last], .int 0] h = .ok (.bl true) h := o0
  have o1' : ∀ h, callF pr (k + 3) 23 [.xcp 2 [1, 3] [.int first, .int last], .int 1] h = .ok (.bl true) h := o1
  have o3' : ∀ h, callF pr (k + 3) 23 [.xcp 4 [5, 6] [.tup [.int first, .non, v1], .tup [.int last, .int (last + 3), v2]], .int 3] h = .ok (.bl true) h := o3
  have o12' : ∀ h, callF pr (k + 3) 23 [.xcp 13 [5, 6] [.tup [.int first, .non, v1], .tup [.int last, .int (last + 3), v2]], .int 12] h = .ok (.bl true) h := o12
  have o17' : ∀ h, callF pr (k + 3) 23 [.xcp 18 [4, 12, 13] [.int (r - first), .str z, .str "ends"], .int 17] h = .ok (.bl true) h := o17
  generalize hx : runF pr (callF pr (k + 3)) f24 [.ref n] h = x
  simp only [f24, Bool.not_true, Bool.not_false, r_v', r_or, r_and, r_inr, e1, e2, e3', e4, e5, e6', fx1, fx2, fx3, fx4, fx5, m1, m2, m4, m13, m18, g1, g2, g3, g4, g5, g6, g7, g8, g9, g10, g11, l3, l4, n1, n2, n3, dd, newL, o0', o1', o3', o12', o17', runF, b_nil_, b_cons_, s_set_, s_unp_, s_par_, s_sub_, s_ex_, s_ite_, s_ret_, s_for_, r_k, r_neg, r_not, r_bin, r_cmp, r_tup, r_lst, r_idx, r_fld, r_call, r_mk, r_blt, r_isi, r_comp, r_nil, r_cons, r_range, bind_ok_, out_ok_, idxD, seq?, items?, stores, outOf, storeT, idxS, at0, at1, at2, ix0, ix2, truth, bltD, binD, setSub, fin, decide_true, decide_false, and_self, if_true, if_false, Bool.false_eq_true, List.length_cons, List.length_nil, Option.map_some, Option.bind_some, List.set_cons_zero, List.set_cons_succ, List.cons_append, List.nil_append, List.getElem?_cons_zero, List.getElem?_cons_succ, List.replicate, Nat.sub, Nat.reduceAdd, Nat.reduceSub, Nat.zero_add, List.set_set] at hx
  exact ⟨_, hx.symm⟩
end L99

set_option Elab.async false
set_option linter.all false
set_option maxRecDepth 100000
set_option maxHeartbeats 8000000
namespace L99
open PySem Pm
theorem ends_g {k n q : Nat} {h : Hm} (b : Bg h n (q + 1)) : ∃ (z : Str) (h' : Hm), callF pr (k + 3) 21 [.ref n] h = .ok (.str z) h' ∧ Bg h' n q ∧ Ext n h h' := by
  let xs : List D := [.str "last day", .str "next day"]
  obtain ⟨x, h1, e1, hx, b1, x1⟩ := of_g (k := k) (j := h.length) (xs := xs) (b.app (g := [.lst xs])) (by simp) (Nat.ne_of_gt b.lt) (by simp [xs]) (by unfold W256; simp [xs])
  have hn : ∃ z, x = .str z := by
    simp only [xs, List.mem_cons, List.not_mem_nil, or_false] at hx
    rcases hx with rfl | rfl <;> exact ⟨_, rfl⟩
  obtain ⟨z, rfl⟩ := hn
  refine ⟨z, h1, ?_, b1, Ext.app.trans x1⟩
  have fx : ∀ x y : D, fillD pr 18 [x, y] = some [x, y] := fun _ _ => rfl
  have l2 : (2 : Nat) ≤ LIM := by decide
  simp only [xs] at e1
  rw [show k + 3 = (k + 2) + 1 from rfl, call_keep (fn := f21) rfl rfl rfl]
  simp only [f21, r_v', e1, fx, l2, newL, runF, b_nil_, b_cons_, s_set_, s_unp_, s_par_, s_sub_, s_ex_, s_ite_, s_ret_, s_for_, r_k, r_neg, r_not, r_bin, r_cmp, r_tup, r_lst, r_idx, r_fld, r_call, r_mk, r_blt, r_isi, r_comp, r_nil, r_cons, r_range, bind_ok_, out_ok_, idxD, seq?, items?, stores, outOf, storeT, idxS, at0, at1, at2, ix0, ix2, truth, bltD, binD, setSub, fin, decide_true, decide_false, and_self, if_true, if_false, Bool.false_eq_true, List.length_cons, List.length_nil, Option.map_some, Option.bind_some, List.set_cons_zero, List.set_cons_succ, List.cons_append, List.nil_append, List.getElem?_cons_zero, List.getElem?_cons_succ, List.replicate, Nat.sub, Nat.reduceAdd, Nat.reduceSub, Nat.zero_add, List.set_set]
theorem any0 {h : Hm} : bltD h .any [.lst (bools 0)] = .ok (.bl false) h := rfl
theorem all_new {h : Hm} {bs : List Bool} {xs : List D} (e : allB xs = some bs) : bltD (h ++ [Cell.lst xs]) .all [.ref h.length] = .ok (.bl (bs.all id)) (h ++ [Cell.lst xs]) := by
  have : items? (h ++ [Cell.lst xs]) (.ref h.length) = some xs := by simp [items?]
  simp only [bltD, this, Option.bind_some, e]
theorem ne_at {h : Hm} {a b : Nat} {xs : List D} (ea : h[a]? = some (.lst xs)) (eb : h[b]? = some (.lst xs)) (p : plainDs xs = true) (hd : depDs xs ≤ 50) : cmpR h .ne (.ref a) (.ref b) = .ok (.bl false) h := by
  simp only [cmpR, cmpD, eq_same ea eb p hd, Option.map_some, Bool.not_true]
theorem right_run {k n q : Nat} {h : Hm} (b : Bg h n (q + 44)) : ∃ h', runF pr (callF pr (k + 4)) f25 [.ref n] h = .ok (.bl true) h' := by
  obtain ⟨num, h1, e1, b1, x1⟩ := day_g (k := k + 1) (q := q + 38) b
  let xs : List D := [.str "set", .str "", .str "Move", .str "x y"]
  obtain ⟨w, h2, e2, hw, b2, x2⟩ := of_g (k := k + 2) (j := h1.length) (xs := xs) (q := q + 37) (b1.app (g := [.lst xs])) (by simp) (Nat.ne_of_gt b1.lt) (by simp [xs]) (by unfold W256; simp [xs])
  have hn : ∃ z, w = .str z := by
    simp only [xs, List.mem_cons, List.not_mem_nil, or_false] at hw
    rcases hw with rfl | rfl | rfl | rfl <;> exact ⟨_, rfl⟩
  obtain ⟨z, rfl⟩ := hn
  obtain ⟨y, h3, e3, b3, x3⟩ := ends_g (k := k + 1) (q := q + 36) b2
  have e1' : callF pr (k + 4) 19 [.ref n] h = .ok (.int num) h1 := e1
  have e2' : callF pr (k + 4) 18 [.ref n, .ref h1.length] (h1 ++ [Cell.lst [.str "set", .str "", .str "Move", .str "x y"]]) = .ok (.str z) h2 := e2
  have e3' : callF pr (k + 4) 21 [.ref n] h2 = .ok (.str y) h3 := e3
  have fx1 : ∀ x : D, fillD pr 19 [x] = some [x] := fun _ => rfl
  have fx2 : ∀ x y : D, fillD pr 18 [x, y] = some [x, y] := fun _ _ => rfl
  have fx3 : ∀ x : D, fillD pr 21 [x] = some [x] := fun _ => rfl
  have fx4 : ∀ x : D, fillD pr 22 [x] = some [x] := fun _ => rfl
  have fx5 : ∀ x y : D, fillD pr 23 [x, y] = some [x, y] := fun _ _ => rfl
  have fx6 : ∀ x : D, fillD pr 24 [x] = some [x] := fun _ => rfl
  have m3 : ∀ (φ : Nat → List D → Hm → Rs D) (x : D) h, mkD pr φ 3 [x] h = .ok (.xcp 3 [4] [x]) h := fun _ _ _ => rfl
  have g3 : ∀ (x : D) h, fldD pr h (.xcp 3 [4] [x]) 4 = some (.inl x) := fun _ _ => rfl
  have o3i : ∀ (i : Int) h, callF pr (k + 4) 23 [.xcp 3 [4] [.int i], .int 2] h = .ok (.bl true) h := fun i h => own_g (k := k + 2) (c := 2) (by decide) rfl
  have o3s : ∀ (s : Str) h, callF pr (k + 4) 23 [.xcp 3 [4] [.str s], .int 2] h = .ok (.bl true) h := fun i h => own_g (k := k + 2) (c := 2) (by decide) rfl
  have m5 : ∀ (φ : Nat → List D → Hm → Rs D) (x : D) h, mkD pr φ 5 [x] h = .ok (.xcp 5 [7] [x]) h := fun _ _ _ => rfl
  have g5 : ∀ (x : D) h, fldD pr h (.xcp 5 [7] [x]) 7 = some (.inl x) := fun _ _ => rfl
  have o5i : ∀ (i : Int) h, callF pr (k + 4) 23 [.xcp 5 [7] [.int i], .int 4] h = .ok (.bl true) h := fun i h => own_g (k := k + 2) (c := 4) (by decide) rfl
  have o5s : ∀ (s : Str) h, callF pr (k + 4) 23 [.xcp 5 [7] [.str s], .int 4] h = .ok (.bl true) h := fun i h => own_g (k := k + 2) (c := 4) (by decide) rfl
  have m6 : ∀ (φ : Nat → List D → Hm → Rs D) (x : D) h, mkD pr φ 6 [x] h = .ok (.xcp 6 [8] [x]) h := fun _ _ _ => rfl
  have g6 : ∀ (x : D) h, fldD pr h (.xcp 6 [8] [x]) 8 = some (.inl x) := fun _ _ => rfl
  have o6i : ∀ (i : Int) h, callF pr (k + 4) 23 [.xcp 6 [8] [.int i], .int 5] h = .ok (.bl true) h := fun i h => own_g (k := k + 2) (c := 5) (by decide) rfl
  have o6s : ∀ (s : Str) h, callF pr (k + 4) 23 [.xcp 6 [8] [.str s], .int 5] h = .ok (.bl true) h := fun i h => own_g (k := k + 2) (c := 5) (by decide) rfl
  have m7 : ∀ (φ : Nat → List D → Hm → Rs D) (x : D) h, mkD pr φ 7 [x] h = .ok (.xcp 7 [7] [x]) h := fun _ _ _ => rfl
  have g7 : ∀ (x : D) h, fldD pr h (.xcp 7 [7] [x]) 7 = some (.inl x) := fun _ _ => rfl
  have o7i : ∀ (i : Int) h, callF pr (k + 4) 23 [.xcp 7 [7] [.int i], .int 6] h = .ok (.bl true) h := fun i h => own_g (k := k + 2) (c := 6) (by decide) rfl
  have o7s : ∀ (s : Str) h, callF pr (k + 4) 23 [.xcp 7 [7] [.str s], .int 6] h = .ok (.bl true) h := fun i h => own_g (k := k + 2) (c := 6) (by decide) rfl
  have m8 : ∀ (φ : Nat → List D → Hm → Rs D) (x : D) h, mkD pr φ 8 [x] h = .ok (.xcp 8 [7] [x]) h := fun _ _ _ => rfl
  have g8 : ∀ (x : D) h, fldD pr h (.xcp 8 [7] [x]) 7 = some (.inl x) := fun _ _ => rfl
  have o8i : ∀ (i : Int) h, callF pr (k + 4) 23 [.xcp 8 [7] [.int i], .int 7] h = .ok (.bl true) h := fun i h => own_g (k := k + 2) (c := 7) (by decide) rfl
  have o8s : ∀ (s : Str) h, callF pr (k + 4) 23 [.xcp 8 [7] [.str s], .int 7] h = .ok (.bl true) h := fun i h => own_g (k := k + 2) (c := 7) (by decide) rfl
  have m9 : ∀ (φ : Nat → List D → Hm → Rs D) (x : D) h, mkD pr φ 9 [x] h = .ok (.xcp 9 [9] [x]) h := fun _ _ _ => rfl
  have g9 : ∀ (x : D) h, fldD pr h (.xcp 9 [9] [x]) 9 = some (.inl x) := fun _ _ => rfl
  have o9i : ∀ (i : Int) h, callF pr (k + 4) 23 [.xcp 9 [9] [.int i], .int 8] h = .ok (.bl true) h := fun i h => own_g (k := k + 2) (c := 8) (by decide) rfl
  have o9s : ∀ (s : Str) h, callF pr (k + 4) 23 [.xcp 9 [9] [.str s], .int 8] h = .ok (.bl true) h := fun i h => own_g (k := k + 2) (c := 8) (by decide) rfl
  have m10 : ∀ (φ : Nat → List D → Hm → Rs D) (x : D) h, mkD pr φ 10 [x] h = .ok (.xcp 10 [10] [x]) h := fun _ _ _ => rfl
  have g10 : ∀ (x : D) h, fldD pr h (.xcp 10 [10] [x]) 10 = some (.inl x) := fun _ _ => rfl
  have o10i : ∀ (i : Int) h, callF pr (k + 4) 23 [.xcp 10 [10] [.int i], .int 9] h = .ok (.bl true) h := fun i h => own_g (k := k + 2) (c := 9) (by decide) rfl
  have o10s : ∀ (s : Str) h, callF pr (k + 4) 23 [.xcp 10 [10] [.str s], .int 9] h = .ok (.bl true) h := fun i h => own_g (k := k + 2) (c := 9) (by decide) rfl
  have m11 : ∀ (φ : Nat → List D → Hm → Rs D) (x : D) h, mkD pr φ 11 [x] h = .ok (.xcp 11 [10] [x]) h := fun _ _ _ => rfl
  have g11 : ∀ (x : D) h, fldD pr h (.xcp 11 [10] [x]) 10 = some (.inl x) := fun _ _ => rfl
  have o11i : ∀ (i : Int) h, callF pr (k + 4) 23 [.xcp 11 [10] [.int i], .int 10] h = .ok (.bl true) h := fun i h => own_g (k := k + 2) (c := 10) (by decide) rfl
  have o11s : ∀ (s : Str) h, callF pr (k + 4) 23 [.xcp 11 [10] [.str s], .int 10] h = .ok (.bl true) h := fun i h => own_g (k := k + 2) (c := 10) (by decide) rfl
  have m12 : ∀ (φ : Nat → List D → Hm → Rs D) (x : D) h, mkD pr φ 12 [x] h = .ok (.xcp 12 [7] [x]) h := fun _ _ _ => rfl
  have g12 : ∀ (x : D) h, fldD pr h (.xcp 12 [7] [x]) 7 = some (.inl x) := fun _ _ => rfl
  have o12i : ∀ (i : Int) h, callF pr (k + 4) 23 [.xcp 12 [7] [.int i], .int 11] h = .ok (.bl true) h := fun i h => own_g (k := k + 2) (c := 11) (by decide) rfl
  have o12s : ∀ (s : Str) h, callF pr (k + 4) 23 [.xcp 12 [7] [.str s], .int 11] h = .ok (.bl true) h := fun i h => own_g (k := k + 2) (c := 11) (by decide) rfl
  have m17 : ∀ (φ : Nat → List D → Hm → Rs D) (x : D) h, mkD pr φ 17 [x] h = .ok (.xcp 17 [11] [x]) h := fun _ _ _ => rfl
  have g17 : ∀ (x : D) h, fldD pr h (.xcp 17 [11] [x]) 11 = some (.inl x) := fun _ _ => rfl
  have o17i : ∀ (i : Int) h, callF pr (k + 4) 23 [.xcp 17 [11] [.int i], .int 16] h = .ok (.bl true) h := fun i h => own_g (k := k + 2) (c := 16) (by decide) rfl
  have o17s : ∀ (s : Str) h, callF pr (k + 4) 23 [.xcp 17 [11] [.str s], .int 16] h = .ok (.bl true) h := fun i h => own_g (k := k + 2) (c := 16) (by decide) rfl
  have m14 : ∀ (φ : Nat → List D → Hm → Rs D) h, mkD pr φ 14 [] h = .ok (.xcp 14 [] []) h := fun _ _ => rfl
  have o14 : ∀ h, callF pr (k + 4) 23 [.xcp 14 [] [], .int 13] h = .ok (.bl true) h := fun h => own_g (k := k + 2) (c := 13) (by decide) rfl
  have m15 : ∀ (φ : Nat → List D → Hm → Rs D) h, mkD pr φ 15 [] h = .ok (.xcp 15 [] []) h := fun _ _ => rfl
  have o15 : ∀ h, callF pr (k + 4) 23 [.xcp 15 [] [], .int 14] h = .ok (.bl true) h := fun h => own_g (k := k + 2) (c := 14) (by decide) rfl
  have m16 : ∀ (φ : Nat → List D → Hm → Rs D) h, mkD pr φ 16 [] h = .ok (.xcp 16 [] []) h := fun _ _ => rfl
  have o16 : ∀ h, callF pr (k + 4) 23 [.xcp 16 [] [], .int 15] h = .ok (.bl true) h := fun h => own_g (k := k + 2) (c := 15) (by decide) rfl
  have m0 : ∀ (φ : Nat → List D → Hm → Rs D) h, mkD pr φ 0 [] h = .ok (.xcp 0 [] []) h := fun _ _ => rfl
  have k0 : ∀ h, callF pr (k + 4) 22 [.xcp 0 [] []] h = .ok (.lst (bools 0)) h := fun h => kinds_g (k := k + 3) (by decide) rfl
  have l1 : (1 : Nat) ≤ LIM := by decide
  have l4 : (4 : Nat) ≤ LIM := by decide
  have l7 : (7 : Nat) ≤ LIM := by decide
  have rep : ∀ h : Hm, binD .mul (.ref h.length) (.int 7) (h ++ [Cell.lst [.int num]]) = .ok (.ref (h ++ [Cell.lst [.int num]]).length) ((h ++ [Cell.lst [.int num]]) ++ [Cell.lst [.int num, .int num, .int num, .int num, .int num, .int num, .int num]]) := fun h => by
    have : items? (h ++ [Cell.lst [.int num]]) (.ref h.length) = some [.int num] := by simp [items?]
    simp only [binD, this]
    rfl
  have n1 : ∀ h : Hm, cmpR (((h ++ [Cell.lst [.int num, .int num, .int num, .int num, .int num, .int num, .int num]]) ++ [Cell.lst [.int num]]) ++ [Cell.lst [.int num, .int num, .int num, .int num, .int num, .int num, .int num]]) .ne (.ref h.length) (.ref ((h ++ [Cell.lst [.int num, .int num, .int num, .int num, .int num, .int num, .int num]]) ++ [Cell.lst [.int num]]).length) = .ok (.bl false) (((h ++ [Cell.lst [.int num, .int num, .int num, .int num, .int num, .int num, .int num]]) ++ [Cell.lst [.int num]]) ++ [Cell.lst [.int num, .int num, .int num, .int num, .int num, .int num, .int num]]) := fun h => ne_at (xs := [.int num, .int num, .int num, .int num, .int num, .int num, .int num]) (by simp) (by simp) rfl (by simp [depDs, depD])
  have n2 : ∀ h : Hm, cmpR ((h ++ [Cell.lst [.str y, .str z, .str z, .str z]]) ++ [Cell.lst [.str y, .str z, .str z, .str z]]) .ne (.ref h.length) (.ref (h ++ [Cell.lst [.str y, .str z, .str z, .str z]]).length) = .ok (.bl false) ((h ++ [Cell.lst [.str y, .str z, .str z, .str z]]) ++ [Cell.lst [.str y, .str z, .str z, .str z]]) := fun h => ne_new rfl (by simp [depDs, depD])
  have a4 : ∀ h : Hm, bltD (h ++ [Cell.lst [.bl true, .bl true, .bl true, .bl true]]) .all [.ref h.length] = .ok (.bl true) (h ++ [Cell.lst [.bl true, .bl true, .bl true, .bl true]]) := fun h => all_new (bs := [true, true, true, true]) rfl
  have isf : ∀ h : Hm, cmpR h .is (.bl false) (.bl false) = .ok (.bl true) h := fun h => rfl
  have any0' : ∀ h : Hm, bltD h .any [.lst (bools 0)] = .ok (.bl false) h := fun h => any0
  have five : (4 : Nat) = 4 := rfl
  obtain ⟨h4, e4⟩ := pairs_g (k := k) (q := q) (h := h3 ++ [Cell.lst [.int num, .int num, .int num, .int num, .int num, .int num, .int num]] ++ [Cell.lst [.int num]] ++ [Cell.lst [.int num, .int num, .int num, .int num, .int num, .int num, .int num]] ++ [Cell.lst [.str y, .str z, .str z, .str z]] ++ [Cell.lst [.str y, .str z, .str z, .str z]] ++ [Cell.lst [.bl true, .bl true, .bl true, .bl true]] ++ [Cell.lst [.bl true, .bl true, .bl true, .bl true]]) b3.app.app.app.app.app.app.app
  generalize hx : runF pr (callF pr (k + 4)) f25 [.ref n] h = x
  simp only [f25, Bool.not_true, Bool.not_false, r_v', r_or, r_and, e1', e2', e3', e4, fx1, fx2, fx3, fx4, fx5, fx6, k0, l1, l4, l7, rep, n1, n2, a4, isf, any0', newL, m3, g3, o3i, o3s, m5, g5, o5i, o5s, m6, g6, o6i, o6s, m7, g7, o7i, o7s, m8, g8, o8i, o8s, m9, g9, o9i, o9s, m10, g10, o10i, o10s, m11, g11, o11i, o11s, m12, g12, o12i, o12s, m17, g17, o17i, o17s, m14, o14, m15, o15, m16, o16, m0, runF, b_nil_, b_cons_, s_set_, s_unp_, s_par_, s_sub_, s_ex_, s_ite_, s_ret_, s_for_, r_k, r_neg, r_not, r_bin, r_cmp, r_tup, r_lst, r_idx, r_fld, r_call, r_mk, r_blt, r_isi, r_comp, r_nil, r_cons, r_range, bind_ok_, out_ok_, idxD, seq?, stores, outOf, storeT, idxS, at0, at1, at2, ix0, ix2, truth, setSub, fin, decide_true, decide_false, and_self, if_true, if_false, Bool.false_eq_true, List.length_cons, List.length_nil, Option.map_some, Option.bind_some, List.set_cons_zero, List.set_cons_succ, List.cons_append, List.nil_append, List.getElem?_cons_zero, List.getElem?_cons_succ, List.replicate, Nat.sub, Nat.reduceAdd, Nat.reduceSub, Nat.zero_add, List.set_set] at hx
  exact ⟨_, hx.symm⟩
theorem right_g {k n q : Nat} {h : Hm} (b : Bg h n (q + 44)) : ∃ h', callF pr (k + 5) 25 [.ref n] h = .ok (.bl true) h' := by
  obtain ⟨h1, e⟩ := right_run (k := k) b
  refine ⟨low h.length h1, ?_⟩
  simp only [callF, show pr.fns[25]? = some f25 from rfl, show f25.np = 1 from rfl, show f25.keep = false from rfl, List.length_cons, List.length_nil, if_true, Bool.false_eq_true, if_false, noRefs, noRef, Bool.false_and]
  have e' : runF pr (callF pr (k + 4)) f25 [.ref n] h = .ok (.bl true) h1 := e
  show shut h.length (runF pr (callF pr (k + 4)) f25 [.ref n] h) = _
  rw [e']
  rfl
end L99

set_option Elab.async false
set_option linter.all false
set_option maxRecDepth 100000
set_option maxHeartbeats 4000000
namespace L99
open PySem Pm
theorem r_ife {pr : Pr} {φ : Nat → List D → Hm → Rs D} {c a b : E} {e : Ev} {h : Hm} : evE pr φ (.ife c a b) e h = (evE pr φ c e h).bind fun x h => match truth h x with | some true => evE pr φ a e h | some false => evE pr φ b e h | none => .bad := by simp only [evE] <;> rfl
/-- a cell of the script -/
theorem bag_of {φ : Nat → List D → Hm → Rs D} {ns : List Int} {at_ : Nat} {h : Hm} (ha : at_ < 8) : ∃ d s : Int, runF pr φ f15 [.scr ns, .int at_] h = .ok (.ref h.length) (h ++ [Cell.lst [.int d, .int s, .int 0]]) ∧ 0 ≤ d ∧ 0 ≤ s ∧ s < 11529215046068600000 := by
  have cell : ∃ v : Int, evE pr φ (.ife (.cmp .lt (.v 1) (.blt .len (.cons (.v 0) .nil))) (.idx (.v 0) (.v 1)) (.k (.int (0)))) [.scr ns, .int at_, .un, .un] h = .ok (.int v) h := by
    by_cases hl : (at_ : Int) < (ns.length : Int)
    · have hi : at_ < ns.length := by exact_mod_cast hl
      refine ⟨ns[at_], ?_⟩
      have e : L2.atI ns (at_ : Int) = some ns[at_] := by
        unfold L2.atI L2.ixN
        simp [hi]
      simp only [r_ife, r_v', hl, idxN, e, runF, b_nil_, b_cons_, s_set_, s_unp_, s_par_, s_sub_, s_ex_, s_ite_, s_ret_, s_for_, r_k, r_neg, r_not, r_bin, r_cmp, r_tup, r_lst, r_idx, r_fld, r_call, r_mk, r_blt, r_isi, r_comp, r_nil, r_cons, r_range, bind_ok_, out_ok_, idxD, seq?, stores, outOf, storeT, idxS, at0, at1, at2, ix0, ix2, cmpR, cmpD, truth, bltD, binD, setSub, fin, decide_true, decide_false, and_self, if_true, if_false, Bool.false_eq_true, List.length_cons, List.length_nil, Option.map_some, Option.bind_some, List.set_cons_zero, List.set_cons_succ, List.cons_append, List.nil_append, List.getElem?_cons_zero, List.getElem?_cons_succ, List.replicate, Nat.sub, Nat.reduceAdd, Nat.reduceSub, Nat.zero_add, List.set_set]
    · refine ⟨0, ?_⟩
      simp only [r_ife, r_v', hl, runF, b_nil_, b_cons_, s_set_, s_unp_, s_par_, s_sub_, s_ex_, s_ite_, s_ret_, s_for_, r_k, r_neg, r_not, r_bin, r_cmp, r_tup, r_lst, r_idx, r_fld, r_call, r_mk, r_blt, r_isi, r_comp, r_nil, r_cons, r_range, bind_ok_, out_ok_, idxD, seq?, stores, outOf, storeT, idxS, at0, at1, at2, ix0, ix2, cmpR, cmpD, truth, bltD, binD, setSub, fin, decide_true, decide_false, and_self, if_true, if_false, Bool.false_eq_true, List.length_cons, List.length_nil, Option.map_some, Option.bind_some, List.set_cons_zero, List.set_cons_succ, List.cons_append, List.nil_append, List.getElem?_cons_zero, List.getElem?_cons_succ, List.replicate, Nat.sub, Nat.reduceAdd, Nat.reduceSub, Nat.zero_add, List.set_set]
  obtain ⟨v, ev⟩ := cell
  have big : ∃ d : Int, 0 ≤ d ∧ evE pr φ (.ife (.cmp .ge (.blt .abs (.cons (.v 2) .nil)) (.bin .pow (.k (.int (10))) (.k (.int (18))))) (.blt .abs (.cons (.v 2) .nil)) (.k (.int (0)))) [.scr ns, .int at_, .int v, .un] h = .ok (.int d) h := by
    have p10 : (-W64 < (10 : Int) ∧ (10 : Int) < W64) := by unfold W64; decide
    have k18 : (0 : Int) ≤ 18 ∧ (18 : Int) ≤ 1000000 := by decide
    by_cases hb : (10 : Int) ^ (18 : Int).toNat ≤ (if v < 0 then -v else v)
    · refine ⟨if v < 0 then -v else v, by split <;> omega, ?_⟩
      simp only [r_ife, r_v', hb, p10, k18, and_true, true_and, runF, b_nil_, b_cons_, s_set_, s_unp_, s_par_, s_sub_, s_ex_, s_ite_, s_ret_, s_for_, r_k, r_neg, r_not, r_bin, r_cmp, r_tup, r_lst, r_idx, r_fld, r_call, r_mk, r_blt, r_isi, r_comp, r_nil, r_cons, r_range, bind_ok_, out_ok_, idxD, seq?, stores, outOf, storeT, idxS, at0, at1, at2, ix0, ix2, cmpR, cmpD, truth, bltD, binD, setSub, fin, decide_true, decide_false, and_self, if_true, if_false, Bool.false_eq_true, List.length_cons, List.length_nil, Option.map_some, Option.bind_some, List.set_cons_zero, List.set_cons_succ, List.cons_append, List.nil_append, List.getElem?_cons_zero, List.getElem?_cons_succ, List.replicate, Nat.sub, Nat.reduceAdd, Nat.reduceSub, Nat.zero_add, List.set_set]
    · refine ⟨0, by decide, ?_⟩
      simp only [r_ife, r_v', hb, p10, k18, and_true, true_and, runF, b_nil_, b_cons_, s_set_, s_unp_, s_par_, s_sub_, s_ex_, s_ite_, s_ret_, s_for_, r_k, r_neg, r_not, r_bin, r_cmp, r_tup, r_lst, r_idx, r_fld, r_call, r_mk, r_blt, r_isi, r_comp, r_nil, r_cons, r_range, bind_ok_, out_ok_, idxD, seq?, stores, outOf, storeT, idxS, at0, at1, at2, ix0, ix2, cmpR, cmpD, truth, bltD, binD, setSub, fin, decide_true, decide_false, and_self, if_true, if_false, Bool.false_eq_true, List.length_cons, List.length_nil, Option.map_some, Option.bind_some, List.set_cons_zero, List.set_cons_succ, List.cons_append, List.nil_append, List.getElem?_cons_zero, List.getElem?_cons_succ, List.replicate, Nat.sub, Nat.reduceAdd, Nat.reduceSub, Nat.zero_add, List.set_set]
  obtain ⟨d, hd, ed⟩ := big
  have g1 : (0 : Int) < 2305843009213693951 := by decide
  have m5 : (-W64 < (5 : Int) ∧ (5 : Int) < W64) := by unfold W64; decide
  have m6 : (-W64 < (6691 : Int) ∧ (6691 : Int) < W64) := by unfold W64; decide
  have l3 : (3 : Nat) ≤ LIM := by decide
  have q1 := Int.emod_nonneg v (b := 2305843009213693951) (by decide)
  have q2 := Int.emod_lt_of_pos v (b := 2305843009213693951) (by decide)
  refine ⟨d, v % 2305843009213693951 * 5 + 6691 * (at_ : Int) + 3067, ?_, hd, by omega, by omega⟩
  simp only [f15, ev, ed, r_v', g1, m5, m6, l3, newL, or_true, true_or, runF, b_nil_, b_cons_, s_set_, s_unp_, s_par_, s_sub_, s_ex_, s_ite_, s_ret_, s_for_, r_k, r_neg, r_not, r_bin, r_cmp, r_tup, r_lst, r_idx, r_fld, r_call, r_mk, r_blt, r_isi, r_comp, r_nil, r_cons, r_range, bind_ok_, out_ok_, idxD, seq?, stores, outOf, storeT, idxS, at0, at1, at2, ix0, ix2, cmpR, cmpD, truth, bltD, binD, setSub, fin, decide_true, decide_false, and_self, if_true, if_false, Bool.false_eq_true, List.length_cons, List.length_nil, Option.map_some, Option.bind_some, List.set_cons_zero, List.set_cons_succ, List.cons_append, List.nil_append, List.getElem?_cons_zero, List.getElem?_cons_succ, List.replicate, Nat.sub, Nat.reduceAdd, Nat.reduceSub, Nat.zero_add, List.set_set]
theorem law_step {k : Nat} {ns : List Int} {i : Nat} {x : D} {h : Hm} (hi : i < 8) : ∃ h', forSt pr (callF pr (k + 5)) (.v 1) f26_0 (.int i) [.scr ns, x] h = .nx [.scr ns, .int i] h' := by
  obtain ⟨d, s, e1, h1, h2, h3⟩ := bag_of (φ := callF pr (k + 4)) (ns := ns) (h := h) hi
  have e1' : callF pr (k + 5) 15 [.scr ns, .int (i : Int)] h = .ok (.ref h.length) (h ++ [Cell.lst [.int d, .int s, .int 0]]) := (call_keep (fn := f15) rfl rfl rfl).trans e1
  have b : Bg (h ++ [Cell.lst [.int d, .int s, .int 0]]) h.length (0 + 44) := ⟨d, s, 0, ⟨by simp, h1, h2, h3, by decide, by decide⟩, by decide⟩
  obtain ⟨h4, e2⟩ := right_g (k := k) b
  have fx1 : ∀ x y : D, fillD pr 15 [x, y] = some [x, y] := fun _ _ => rfl
  have fx2 : ∀ x : D, fillD pr 25 [x] = some [x] := fun _ => rfl
  refine ⟨h4, ?_⟩
  simp only [forSt, f26_0, r_v', e1', e2, fx1, fx2, Bool.not_true, runF, b_nil_, b_cons_, s_set_, s_unp_, s_par_, s_sub_, s_ex_, s_ite_, s_ret_, s_for_, r_k, r_neg, r_not, r_bin, r_cmp, r_tup, r_lst, r_idx, r_fld, r_call, r_mk, r_blt, r_isi, r_comp, r_nil, r_cons, r_range, bind_ok_, out_ok_, idxD, seq?, stores, outOf, storeT, idxS, at0, at1, at2, ix0, ix2, cmpR, cmpD, truth, bltD, binD, setSub, fin, decide_true, decide_false, and_self, if_true, if_false, Bool.false_eq_true, List.length_cons, List.length_nil, Option.map_some, Option.bind_some, List.set_cons_zero, List.set_cons_succ, List.cons_append, List.nil_append, List.getElem?_cons_zero, List.getElem?_cons_succ, List.replicate, Nat.sub, Nat.reduceAdd, Nat.reduceSub, Nat.zero_add, List.set_set]
theorem law_loop {k : Nat} {ns : List Int} {w : List D} : ∀ (its : List D) (x : D) (h : Hm), (∀ d ∈ its, ∃ i : Nat, i < 8 ∧ d = .int i) → ∃ x' h', forGo (forSt pr (callF pr (k + 5)) (.v 1) f26_0) ⟨w, []⟩ its [.scr ns, x] h = .nx [.scr ns, x'] h'
  | [], x, h, _ => ⟨x, h, rfl⟩
  | d :: its, x, h, hd => by
    obtain ⟨i, hi, rfl⟩ := hd d List.mem_cons_self
    obtain ⟨h1, e1⟩ := law_step (k := k) (ns := ns) (x := x) (h := h) hi
    obtain ⟨x', h', e2⟩ := law_loop (k := k) (ns := ns) (w := w) its (.int i) h1 fun d m => hd d (List.mem_cons_of_mem _ m)
    exact ⟨x', h', (forGo_nx rfl e1).trans e2⟩
theorem law_true (ns : List Int) : ∃ h', callF pr 6 26 [.scr ns] [] = .ok (.bl true) h' := by
  let m : Int := if (ns.length : Int) < 8 then (ns.length : Int) else 8
  let j : Int := if m > 1 then m else 1
  have hj : 1 ≤ j ∧ j ≤ 8 := by simp only [j, m]; split <;> (try split) <;> omega
  obtain ⟨x', h', e1⟩ := law_loop (k := 0) (ns := ns) (w := rangeD 0 j) (rangeD 0 j) .un [] fun d hd => by
    simp only [rangeD, List.mem_map, List.mem_range] at hd
    obtain ⟨i, hi, rfl⟩ := hd
    exact ⟨i, by omega, by simp⟩
  have wj : -W62 ≤ j ∧ j < W62 := by unfold W62; omega
  have run : runF pr (callF pr 5) f26 [.scr ns] [] = .ok (.bl true) h' := by
    have mn : ∀ h, bltD h .min [.int 8, .int (ns.length : Int)] = .ok (.int m) h := fun _ => rfl
    have mx : ∀ h, bltD h .max [.int 1, .int m] = .ok (.int j) h := fun _ => rfl
    have ln : ∀ h, bltD h .len [.scr ns] = .ok (.int (ns.length : Int)) h := fun _ => rfl
    simp only [f26, r_v', mn, mx, ln, walkR, wj, e1, runF, b_nil_, b_cons_, s_set_, s_unp_, s_par_, s_sub_, s_ex_, s_ite_, s_ret_, s_for_, r_k, r_neg, r_not, r_bin, r_cmp, r_tup, r_lst, r_idx, r_fld, r_call, r_mk, r_blt, r_isi, r_comp, r_nil, r_cons, r_range, bind_ok_, out_ok_, idxD, seq?, stores, outOf, storeT, idxS, at0, at1, at2, ix0, ix2, cmpR, cmpD, truth, binD, setSub, fin, decide_true, decide_false, and_self, if_true, if_false, Bool.false_eq_true, List.length_cons, List.length_nil, Option.map_some, Option.bind_some, List.set_cons_zero, List.set_cons_succ, List.cons_append, List.nil_append, List.getElem?_cons_zero, List.getElem?_cons_succ, List.replicate, Nat.sub, Nat.reduceAdd, Nat.reduceSub, Nat.zero_add, List.set_set]
  refine ⟨[], ?_⟩
  have e : callF pr 6 26 [.scr ns] [] = aloneR [] (runF pr (callF pr 5) f26 [.scr ns] []) := by
    rw [show (6 : Nat) = 5 + 1 from rfl]
    simp only [callF, show pr.fns[26]? = some f26 from rfl, show f26.np = 1 from rfl, show f26.keep = false from rfl, List.length_cons, List.length_nil, if_true, Bool.false_eq_true, if_false, noRefs, noRef, Bool.and_self]
  rw [e, run]
  rfl
end L99

set_option Elab.async false
set_option linter.all false
set_option maxRecDepth 100000
set_option maxHeartbeats 0
open PySem PySem.W PySem.Calls PyProof.Rows
theorem PySem.Challenge.cw_untilrows_k99_errors_made_holds : PySem.Challenge.rw_untilrows_k99_errors_made.Holds := by
  w_on; o_law
  refine HandSHeadRun.head_any (r := OpenLaw.row PySem.Challenge.rw_untilrows_k99_errors_made) (q := view (OpenLaw.row PySem.Challenge.rw_untilrows_k99_errors_made).prog [32]) (H := L99.hk) (ob := L99.ob) (M := 6000) (loose := L99.names) (d := HandSHeadRun.topDef (OpenLaw.row PySem.Challenge.rw_untilrows_k99_errors_made).prog 32) (kwd := []) L99.ob_eq
    (by kernel_rfl) (fun s => by kernel_rfl) L99.run (by kernel_rfl) (by kernel_rfl) (by kernel_rfl) (by rfl) (by first | assumption | decide +kernel) (by decide +kernel) ⟨rfl, rfl, rfl, rfl, rfl, by decide +kernel⟩ ?hw ?hc
  case hw => w_witness2
  case hc =>
    refine L2.walk_ofE (l := PySem.Challenge.rw_untilrows_k99_errors_made) (n := 63) (k := 3 * 6) (x := "script") (CX := L2.CX0) rfl (by decide) (by kernel_rfl) ⟨rfl, by decide, by decide⟩ ?F (fun _ _ _ _ z => z)
    intro w mg fa h Y G hmg0
    obtain ⟨K, KX, c⟩ := Y
    have hmg : mg ("law" : PySem.Str) = some (.ref fa) := by
      have e : (HandSHeadRun.topDef (OpenLaw.row PySem.Challenge.rw_untilrows_k99_errors_made).prog 32).name = ("law" : PySem.Str) := by kernel_rfl
      rw [← e]
      exact hmg0
    obtain ⟨L, FT, XC⟩ := Pm.lw_of L99.text KX G c
    have e := hmg.symm.trans (L.fns "law" 26 (by kernel_rfl))
    cases e
    have F := Pm.Says.fnd c (f := 26) (d := L99.d26) rfl
    have b := L2.FunD.bindsA (ps := ["script"]) F fun _ _ _ _ _ _ us hl => match us, hl with | [_], _ => by kernel_rfl
    exact ⟨K, Pm.fdAt K (L99.T.fa K 26), _, KX, fun s v => b s [v] rfl, fun H a ns hl _ hS => ⟨a, ns, rfl, hl, hS, fun _ => rfl⟩, fun base KB GB => Pm.law_of L99.text KX G c (law := 26) (k := 6) rfl 63 (fun ns _ => L99.law_true ns) base KB GB⟩
