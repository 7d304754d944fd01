import PyProof.Rows.All
import Wide.All
import OpenK.AllK
import Wide.FinOn
import PyProof.EqAt
import PyProof.EqKinds
import PyProof.TupleCall
import HandS.ForMost
import HandS.Exc
import HandS.TryOnly
import HandS.ExcOwn
import HandS.WordsExc
import HandS.Defaults
import HandS.Wide
import HandS.Walk
import HandS.Zip
import HandS.IsInst
import HandS.TupAny
import HandS.TupMul
import HandS.SortInts
import HandS.TupSets
import HandS.Style
import HandS.Flow
import HandS.Deep
import HandS.Lambda
import HandS.SetFor
import HandS.TupLen
import HandS.Dict
import PyProof.SumWalkG
import HandS.ExcIs
import PyProof.ZipIter
import PyProof.IsRules
import HandS.Zip0
import KE.KTurns
import PyProof.FactsAll.tuple_2
import HandS.Conv
import KE.KRevSl
import KE.GoesEnum
import HandS.Iter
import HandS.HeadHook1
import HandS.HeadHook2
import HandS.Head0
import HandS.Head1
import HandS.Head2
import HandS.HeadEnd
import HandS.EndBits
import PySem.Challenge.RW_decktold_k56_whole_asked_deals
set_option Elab.async false
set_option linter.all false
set_option maxRecDepth 100000
/-! Ev1: plain values, cells, and an evaluator of checked steps for a small part of the language. -/
namespace Ev
open PySem

/-- plain values; no cell is inside of one -/
inductive D where
  | non | bl (b : Bool) | int (i : Int) | str (x : Str)
  | tup (ds : List D) | lst (ds : List D) | scr (ds : List D) | fn (n : Nat)
/-- a value: plain, or a cell -/
inductive Val where
  | d (x : D) | ref (n : Nat)
/-- what an expression gives: a value, or a list that was just made -/
inductive W where
  | v (x : Val) | fresh (ds : List D)
inductive Cell where
  | lst (ds : List D) | dead | dct (kvs : List (Sum Int Str × D)) | dtt (kvs : List (List (Sum Int Str) × D))
/-- keys of dicts -/
def keyD : D → Option (Sum Int Str)
  | .int i => some (.inl i)
  | .str x => some (.inr x)
  | _ => none
def keysD : List D → Option (List (Sum Int Str))
  | [] => some []
  | d :: r => (match keyD d, keysD r with
    | some k, some ks => some (k :: ks)
    | _, _ => none)
section
variable {κ : Type} [DecidableEq κ]
def getKv : List (κ × D) → κ → Option D
  | [], _ => none
  | p :: r, k => if p.1 = k then some p.2 else getKv r k
def putKv (kvs : List (κ × D)) (k : κ) (d : D) : List (κ × D) := if (getKv kvs k).isSome then kvs.map (fun p => if p.1 = k then (p.1, d) else p) else kvs ++ [(k, d)]
end
/-- what a dict holds at a key -/
def getC : Cell → D → Option (Option D)
  | .dct kvs, d => (keyD d).map fun k => getKv kvs k
  | .dtt kvs, .tup ds => (keysD ds).map fun ks => getKv kvs ks
  | _, _ => none
def putC : Cell → D → D → Option Cell
  | .dct kvs, d, v => (keyD d).bind fun k => if kvs.length < 16777216 then some (.dct (putKv kvs k v)) else none
  | .dtt kvs, .tup ds, v => (keysD ds).bind fun ks => if kvs.length < 16777216 then some (.dtt (putKv kvs ks v)) else none
  | _, _, _ => none
def lenC : Cell → Option Nat
  | .dct kvs => some kvs.length
  | .dtt kvs => some kvs.length
  | _ => none
abbrev Hh := List Cell
abbrev Ve := List (Option Val)
inductive Res (α : Type) where
  | ok (a : α) (h : Hh) | err (c : Nat) (h : Hh) | stuck
namespace Res
def bind {α β : Type} (r : Res α) (f : α → Hh → Res β) : Res β := match r with
  | .ok a h => f a h
  | .err c h => .err c h
  | .stuck => .stuck
/-- .. where nothing may be raised -/
def bindN {α β : Type} (r : Res α) (f : α → Hh → Res β) : Res β := match r with
  | .ok a h => f a h
  | .err _ _ => .stuck
  | .stuck => .stuck
@[simp] theorem bindN_ok {α β : Type} (a : α) (h : Hh) (f : α → Hh → Res β) : (Res.ok a h).bindN f = f a h := rfl
@[simp] theorem bind_ok {α β : Type} (a : α) (h : Hh) (f : α → Hh → Res β) : (Res.ok a h).bind f = f a h := rfl
@[simp] theorem bind_err {α β : Type} (c : Nat) (h : Hh) (f : α → Hh → Res β) : (Res.err c h : Res α).bind f = .err c h := rfl
@[simp] theorem bind_stuck {α β : Type} (f : α → Hh → Res β) : (Res.stuck : Res α).bind f = .stuck := rfl
end Res
def ofO {α : Type} (o : Option α) (h : Hh) : Res α := match o with
  | some a => .ok a h
  | none => .stuck
@[simp] theorem ofO_some {α : Type} (a : α) (h : Hh) : ofO (some a) h = .ok a h := rfl
@[simp] theorem ofO_none {α : Type} (h : Hh) : ofO (none : Option α) h = .stuck := rfl
def W.val : W → Val
  | .v x => x
  | .fresh ds => .d (.lst ds)
@[simp] theorem W.val_v (x : Val) : (W.v x).val = x := rfl
@[simp] theorem W.val_fresh (ds : List D) : (W.fresh ds).val = .d (.lst ds) := rfl

/-- what is read of a value -/
def view (h : Hh) : Val → Option D
  | .d x => some x
  | .ref n => match h[n]? with
    | some (.lst ds) => some (.lst ds)
    | _ => none
@[simp] theorem view_d (h : Hh) (x : D) : view h (.d x) = some x := rfl
theorem view_ref (h : Hh) (n : Nat) (ds : List D) (e : h[n]? = some (.lst ds)) : view h (.ref n) = some (.lst ds) := by simp [view, e]
def asD : Val → Option D
  | .d x => some x
  | .ref _ => none
@[simp] theorem asD_d (x : D) : asD (.d x) = some x := rfl
@[simp] theorem asD_ref (n : Nat) : asD (.ref n) = none := rfl

def lim : Nat := 16777216
/-- the most of a text, a list, a tuple -/
theorem lim_eq : lim = sizeLine := by decide

/-! ### operations on plain values -/
inductive Op where
  | add | sub | mul | fdiv | mod | pow | shl | shr
  deriving DecidableEq
inductive Cm where
  | eq | ne | lt | le | gt | ge | isN | notN | isB | notB | in_ | notIn
  deriving DecidableEq
inductive Ty where
  | int | bool | str | tup | lst | dict
  deriving DecidableEq
inductive Bi where
  | len | abs | int | list | tuple | all | any | sum | max2 | min2 | sorted | max1 | min1 | str
  deriving DecidableEq

mutual
/-- Python's == of plain values -/
def deq : D → D → Bool
  | .non, .non => true
  | .bl a, .bl b => a == b
  | .bl a, .int j => (if a then 1 else 0) == j
  | .int i, .bl b => i == (if b then 1 else 0)
  | .int i, .int j => decide (i = j)
  | .str x, .str y => decide (x = y)
  | .tup xs, .tup ys => deqs xs ys
  | .lst xs, .lst ys => deqs xs ys
  | _, _ => false
def deqs : List D → List D → Bool
  | [], [] => true
  | x :: xs, y :: ys => deq x y && deqs xs ys
  | _, _ => false
end
mutual
/-- a value that == takes: no function, no great depth -/
def shp : Nat → D → Bool
  | 0, _ => false
  | n + 1, .tup xs => shps n xs
  | n + 1, .lst xs => shps n xs
  | _ + 1, .str x => x.cps.all (· < 0x110000)
  | _ + 1, .scr _ => false
  | _ + 1, .fn _ => false
  | _ + 1, _ => true
def shps : Nat → List D → Bool
  | _, [] => true
  | n, x :: xs => shp n x && shps n xs
end
def flat : D → Bool
  | .non => true
  | .bl _ => true
  | .int _ => true
  | .str _ => true
  | _ => false

def mulOk (i j : Int) : Bool := decide (i.natAbs < 2 ^ 64) || decide (j.natAbs < 2 ^ 64) || decide (i.natAbs.log2 + j.natAbs.log2 < 1000000)
def divOk (j : Int) : Bool := decide (0 < j) && decide (j.natAbs.log2 < 9000)
def powOk (i j : Int) : Bool := decide (0 ≤ j) && decide (j ≤ 1000000) && decide (i.natAbs < 2 ^ 64)
def repOk (k : Int) (n : Nat) : Bool := decide (-(2 ^ 63) ≤ k) && decide (k < 2 ^ 63) && decide (n * k.toNat ≤ lim)

def binD : Op → D → D → Option W
  | .add, .int i, .int j => some (.v (.d (.int (i + j))))
  | .add, .str a, .str b => if a.length + b.length ≤ lim then some (.v (.d (.str (a ++ b)))) else none
  | .add, .tup a, .tup b => if a.length + b.length ≤ lim then some (.v (.d (.tup (a ++ b)))) else none
  | .add, .lst a, .lst b => if a.length + b.length ≤ lim then some (.fresh (a ++ b)) else none
  | .sub, .int i, .int j => some (.v (.d (.int (i - j))))
  | .mul, .int i, .int j => if mulOk i j then some (.v (.d (.int (i * j)))) else none
  | .mul, .lst a, .int k => if repOk k a.length then some (.fresh (List.replicate k.toNat a).flatten) else none
  | .mul, .tup a, .int k => if decide (2 ≤ k ∧ k ≤ 1000 ∧ a.length ≤ 1000) then some (.v (.d (.tup (List.replicate k.toNat a).flatten))) else none
  | .fdiv, .int i, .int j => if divOk j then some (.v (.d (.int (i / j)))) else none
  | .mod, .int i, .int j => if decide (0 < j) then some (.v (.d (.int (i % j)))) else none
  | .pow, .int i, .int j => if powOk i j then some (.v (.d (.int (i ^ j.toNat)))) else none
  | .shl, .int i, .int j => if powOk i j then some (.v (.d (.int (i * 2 ^ j.toNat)))) else none
  | .shr, .int i, .int j => if decide (0 ≤ j) then some (.v (.d (.int (i / 2 ^ j.toNat)))) else none
  | _, _, _ => none

def isBoolD : D → Option Bool
  | .bl b => some b
  | _ => none
def cmpD : Cm → D → D → Option Bool
  | .eq, a, b => if shp 60 a && shp 60 b then some (deq a b) else none
  | .ne, a, b => if shp 60 a && shp 60 b then some (!deq a b) else none
  | .lt, .int i, .int j => some (decide (i < j))
  | .le, .int i, .int j => some (decide (i ≤ j))
  | .gt, .int i, .int j => some (decide (j < i))
  | .ge, .int i, .int j => some (decide (j ≤ i))
  | .isN, a, .non => some (match a with | .non => true | _ => false)
  | .notN, a, .non => some (match a with | .non => false | _ => true)
  | .isB, .bl a, .bl b => some (a == b)
  | .notB, .bl a, .bl b => some (!(a == b))
  | .in_, a, .tup ds => if flat a && ds.all flat then some (ds.any fun y => deq y a) else none
  | .in_, a, .lst ds => if flat a && ds.all flat then some (ds.any fun y => deq y a) else none
  | .notIn, a, .tup ds => if flat a && ds.all flat then some (!ds.any fun y => deq y a) else none
  | .notIn, a, .lst ds => if flat a && ds.all flat then some (!ds.any fun y => deq y a) else none
  | _, _, _ => none
def truD : D → Option Bool
  | .non => some false
  | .bl b => some b
  | .int i => some (i != 0)
  | .tup ds => some (!ds.isEmpty)
  | .lst ds => some (!ds.isEmpty)
  | _ => none
def isTy : Ty → D → Option Bool
  | _, .fn _ => none
  | .int, .int _ => some true
  | .int, .bl _ => some true
  | .bool, .bl _ => some true
  | .str, .str _ => some true
  | .tup, .tup _ => some true
  | .lst, .lst _ => some true
  | _, .scr _ => none
  | _, _ => some false
def intsD : List D → Option (List Int)
  | [] => some []
  | .int i :: r => (intsD r).map (i :: ·)
  | _ :: _ => none
def blsD : List D → Option (List Bool)
  | [] => some []
  | .bl i :: r => (blsD r).map (i :: ·)
  | _ :: _ => none
/-- ints from the least up -/
def insI (i : Int) : List Int → List Int
  | [] => [i]
  | j :: r => if i ≤ j then i :: j :: r else j :: insI i r
def sortI : List Int → List Int
  | [] => []
  | i :: r => insI i (sortI r)
def bLen : List D → Option W
  | [.tup ds] => some (.v (.d (.int ds.length)))
  | [.lst ds] => some (.v (.d (.int ds.length)))
  | [.scr ds] => some (.v (.d (.int ds.length)))
  | _ => none
def bAbs : List D → Option W
  | [.int i] => some (.v (.d (.int (if i < 0 then -i else i))))
  | _ => none
def bInt : List D → Option W
  | [.int i] => some (.v (.d (.int i)))
  | _ => none
def bList : List D → Option W
  | [.tup ds] => some (.fresh ds)
  | [.lst ds] => some (.fresh ds)
  | [.scr ds] => some (.fresh ds)
  | _ => none
def bTuple : List D → Option W
  | [.tup ds] => some (.v (.d (.tup ds)))
  | [.lst ds] => some (.v (.d (.tup ds)))
  | _ => none
def bAll : List D → Option W
  | [.lst ds] => (blsD ds).map fun bs => .v (.d (.bl (bs.all id)))
  | _ => none
def bAny : List D → Option W
  | [.lst ds] => (blsD ds).map fun bs => .v (.d (.bl (bs.any id)))
  | _ => none
def bSum : List D → Option W
  | [.tup ds] => (intsD ds).map fun ns => .v (.d (.int ns.sum))
  | [.lst ds] => (intsD ds).map fun ns => .v (.d (.int ns.sum))
  | _ => none
def bMax2 : List D → Option W
  | [.int i, .int j] => some (.v (.d (.int (if j > i then j else i))))
  | _ => none
def bMin2 : List D → Option W
  | [.int i, .int j] => some (.v (.d (.int (if j < i then j else i))))
  | _ => none
/-- tuples of whole numbers -/
def tupsD : List D → Option (List (List Int))
  | [] => some []
  | .tup ds :: r => (match intsD ds, tupsD r with
    | some ns, some ts => some (ns :: ts)
    | _, _ => none)
  | _ => none
/-- the numbers in a sorted tuple stay below -/
def bnd : Int := 1000000
def insC (i : List Int) : List (List Int) → List (List Int)
  | [] => [i]
  | j :: r => if TS.code bnd i ≤ TS.code bnd j then i :: j :: r else j :: insC i r
def sortC : List (List Int) → List (List Int)
  | [] => []
  | i :: r => insC i (sortC r)
def tupsOk : List (List Int) → Bool
  | [] => false
  | t :: ts => decide (1 ≤ t.length) && (decide (ts.length < 63) && (t :: ts).all fun u => decide (u.length = t.length) && u.all fun i => decide (0 ≤ i) && decide (i < bnd))
def bSorted : List D → Option W
  | [.lst ds] => (match intsD ds with
    | some ns => some (.fresh ((sortI ns).map .int))
    | none => (match tupsD ds with
      | some ts => if tupsOk ts then some (.fresh ((sortC ts).map fun ns => .tup (ns.map .int))) else none
      | none => none))
  | _ => none
/-- each number once -/
def nubI : List Int → List Int
  | [] => []
  | x :: r => if r.contains x then nubI r else x :: nubI r
def maxI : Int → List Int → Int
  | i, [] => i
  | i, j :: r => maxI (if i < j then j else i) r
def minI : Int → List Int → Int
  | i, [] => i
  | i, j :: r => minI (if j < i then j else i) r
def bMax1 : List D → Option W
  | [.lst ds] => (match intsD ds with
    | some (i :: r) => some (.v (.d (.int (maxI i r))))
    | _ => none)
  | _ => none
def bMin1 : List D → Option W
  | [.lst ds] => (match intsD ds with
    | some (i :: r) => some (.v (.d (.int (minI i r))))
    | _ => none)
  | _ => none
/-- how many different numbers -/
def nsetD : D → Option W
  | .tup ds => (intsD ds).bind fun ns => if ns.length ≤ 4000 then some (.v (.d (.int (nubI ns).length))) else none
  | .lst ds => (intsD ds).bind fun ns => if ns.length ≤ 4000 then some (.v (.d (.int (nubI ns).length))) else none
  | _ => none
/-- a whole number's text -/
def bStr : List D → Option W
  | [.int i] => if i.natAbs.log2 < 1920 then some (.v (.d (.str (toString i)))) else none
  | _ => none
def biD : Bi → List D → Option W
  | .len => bLen
  | .abs => bAbs
  | .int => bInt
  | .list => bList
  | .tuple => bTuple
  | .all => bAll
  | .any => bAny
  | .sum => bSum
  | .max2 => bMax2
  | .min2 => bMin2
  | .sorted => bSorted
  | .max1 => bMax1
  | .min1 => bMin1
  | .str => bStr
/-- the place of an index -/
def atD (ds : List D) (i : Int) : Option D := (L2.ixN ds.length i).bind fun j => ds[j]?
def ixD : D → D → Option D
  | .tup ds, .int i => atD ds i
  | .lst ds, .int i => atD ds i
  | _, _ => none
def cutD (ds : List D) (lo hi : Option Int) : List D := (ds.drop (HT.sIx ds.length 0 lo)).take (HT.sIx ds.length ds.length hi - HT.sIx ds.length 0 lo)
def slD (a : D) (lo hi : Option Int) : Option W := match a with
  | .tup ds => some (.v (.d (.tup (cutD ds lo hi))))
  | .lst ds => some (.fresh (cutD ds lo hi))
  | _ => none
/-- from the last to the first -/
def revD : D → Option W
  | .tup ds => some (.v (.d (.tup ds.reverse)))
  | .lst ds => some (.fresh ds.reverse)
  | _ => none
/-- the item that is taken out, what is left -/
def popD (ds : List D) : List Val → Option (D × List D)
  | [] => (ds[ds.length - 1]?).map fun d => (d, ds.dropLast)
  | [.d (.int i)] => if decide (-(2 ^ 63) ≤ i) && decide (i < 2 ^ 63) then (L2.ixN ds.length i).bind fun j => (ds[j]?).map fun d => (d, ds.eraseIdx j) else none
  | _ => none
def intOf : D → Option Int
  | .int i => some i
  | _ => none

/-! ### the text -/
inductive Tg where
  | nm (i : Nat) | tp (is : List Nat)
mutual
inductive E where
  | var (i : Nat) | con (c : D) | glb (g : Nat)
  | tup (es : Es) | lst (es : Es)
  | bin (o : Op) (a b : E) | neg (a : E) | not (a : E)
  | and (es : Es) | or (es : Es)
  | cmp (o : Cm) (a b : E) | chain (o p : Cm) (a b c : E)
  | ife (c : B) (a b : E)
  | call (f : Nat) (es : Es)
  | bi (b : Bi) (es : Es)
  | isi (t : Ty) (a : E)
  | ix (a b : E) | sl (a : E) (lo hi : Es)
  | mk (a : E) | frz (a : E)
  | lc (elt : E) (tg : Tg) (it : It) (c : Bs) (own : List Nat)
  | app (o e : E)
  | rev (a : E) | rgL (t : Bool) (it : It) | pop (o : E) (i : Es) | nset (a : E)
  | lam (f : Nat) (b : E) | isE (i j : Nat) | join (x : Str) (a : E)
  | dnew (t : Bool) | din (neg : Bool) (k d : E) | dget (d k : E) | dlen (d : E)
  | cnt (ix : Bool) (a x : E) | lc2 (elt : E) (tg : Tg) (it : It) (tg2 : Tg) (it2 : It) (own : List Nat)
inductive Es where
  | nil | cons (e : E) (r : Es)
/-- a test -/
inductive B where
  | e (a : E) | not (b : B) | and (bs : Bs) | or (bs : Bs) | ife (c a b : B)
inductive Bs where
  | nil | cons (b : B) (r : Bs)
/-- what is walked -/
inductive It where
  | seq (e : E) | rng1 (a : E) | rng2 (a b : E) | zip (a b : E) | enu (e : E)
end
mutual
inductive S where
  | asg (tg : Tg) (e : E) | par (is : List Nat) (es : Es) | setix (o i e : E) | aug (i : Nat) (o : Op) (e : E)
  | expr (e : E) | ret (e : E) | ife (c : B) (a b : Ss)
  | for_ (tg : Tg) (it : It) (b : Ss) | whl (c : B) (b : Ss)
  | brk | cnt | pass | rse (c : Nat) | frz (i : Nat) | any | dput (d k e : E)
  | lots (i j p s q : Nat)
inductive Ss where
  | nil | cons (s : S) (r : Ss)
end
inductive Flow where
  | next (env : Ve) | ret (v : Val) | brk (env : Ve) | cnt (env : Ve)
structure Cfg where
  call : Nat → List Val → Hh → Res Val
  glb : Nat → D
  /-- an expression one level, two levels below -/
  low : E → Ve → Hh → Res W
  low2 : E → Ve → Hh → Res W
  /-- what a def that calls what it got makes of it: the text if all is well, the texts for the errors -/
  tr : Nat → Option (Str × List Str)
  /-- of which classes the caught exception is -/
  ex : Option (List Bool)
/-- the slot's value that stands for the caught exception -/
def exN : Nat := 999999
def strsD : List D → Option (List Str)
  | [] => some []
  | .str x :: r => (strsD r).map (x :: ·)
  | _ :: _ => none
def joinD (x : Str) : D → Option D
  | .lst ds => (strsD ds).bind fun ys => if (ys.map (·.length)).sum + ys.length * x.length ≤ 16777216 then some (.str (Txt.join x ys)) else none
  | .tup ds => (strsD ds).bind fun ys => if (ys.map (·.length)).sum + ys.length * x.length ≤ 16777216 then some (.str (Txt.join x ys)) else none
  | _ => none
def putAll : List Nat → List Val → Ve → Option Ve
  | [], [], env => some env
  | i :: is, v :: vs, env => putAll is vs (env.set i (some v))
  | _, _, _ => none
def tgIs0 : Tg → List Nat
  | .nm i => [i]
  | .tp is => is
def bindT : Tg → Val → Ve → Option Ve
  | .nm i, v, env => some (env.set i (some v))
  | .tp is, .d (.tup ds), env => putAll is (ds.map .d) env
  | _, _, _ => none
def wipeE (env : Ve) : List Nat → Ve
  | [] => env
  | v :: vs => (wipeE env vs).set v none
def views (h : Hh) : List Val → Option (List D)
  | [] => some []
  | v :: r => match view h v, views h r with
    | some d, some ds => some (d :: ds)
    | _, _ => none
def asDs : List Val → Option (List D)
  | [] => some []
  | v :: r => match asD v, asDs r with
    | some d, some ds => some (d :: ds)
    | _, _ => none
def rngL (lo hi : Int) : List D := (List.range (hi - lo).toNat).map fun i => .int (lo + (i : Nat))
def smallI (i : Int) : Bool := decide (-(2 ^ 62) ≤ i) && decide (i < 2 ^ 62)
def enuL : Nat → List D → List D
  | _, [] => []
  | n, d :: ds => .tup [.int n, d] :: enuL (n + 1) ds
def zipL : List D → List D → List D
  | a :: as, b :: bs => .tup [a, b] :: zipL as bs
  | _, _ => []
/-- the items of a comprehension: F by the item and the cells gives some new item, or none -/
def compL (F : D → Hh → Res (Option D)) : List D → List D → Hh → Res (List D)
  | [], acc, h => .ok acc h
  | v :: vs, acc, h => (F v h).bindN fun o h => match o with
    | some d => if acc.length < lim then compL F vs (acc ++ [d]) h else .stuck
    | none => compL F vs acc h
/-- .. two walks: G by the item, what is there and the cells gives what is there then -/
def comp2 (G : D → List D → Hh → Res (List D)) : List D → List D → Hh → Res (List D)
  | [], acc, h => .ok acc h
  | v :: vs, acc, h => (G v acc h).bindN fun acc h => comp2 G vs acc h
/-- how often a number comes, or its first place -/
def cntD (ix : Bool) (ds : List D) (k : Int) : Option D := (intsD ds).bind fun ns => if ix then (if k ∈ ns then some (.int (ns.idxOf k : Nat)) else none) else some (.int (ns.count k : Nat))
def forL (F : D → Ve → Hh → Res Flow) : List D → Ve → Hh → Res Flow
  | [], env, h => .ok (.next env) h
  | v :: vs, env, h => (F v env h).bind fun f h => match f with
    | .next env => forL F vs env h
    | .cnt env => forL F vs env h
    | .brk env => .ok (.next env) h
    | .ret v => .ok (.ret v) h
def whlL (c : Ve → Hh → Res Bool) (F : Ve → Hh → Res Flow) : Nat → Ve → Hh → Res Flow
  | 0, _, _ => .stuck
  | n + 1, env, h => (c env h).bind fun b h => if b then (F env h).bind fun f h => match f with
      | .next env => whlL c F n env h
      | .cnt env => whlL c F n env h
      | .brk env => .ok (.next env) h
      | .ret v => .ok (.ret v) h
    else .ok (.next env) h
/-- cards dealt one by one into P lots -/
def lotsD (P N : Nat) : List D := (List.range P).map fun r => .lst (((List.range N).filter fun c => c % P == r).map fun (c : Nat) => D.int c)
def lotsOk (i j p s n : Nat) (P S : Int) : Bool := decide (i < n) && decide (j < n) && decide (1 ≤ P) && decide (P ≤ 1000) && decide (1 ≤ S) && decide (S ≤ 1000) && decide (i ≠ j) && decide (i ≠ p) && decide (i ≠ s) && decide (j ≠ p) && decide (j ≠ s)
/-- the most turns of a while -/
def fuel : Nat := 1000000000
def seqD : D → Option (List D)
  | .tup ds => some ds
  | .lst ds => some ds
  | _ => none
def zipD : D → D → Option (List D)
  | .tup a, .tup b => some (zipL a b)
  | .lst a, .lst b => some (zipL a b)
  | .tup a, .lst b => some (zipL a b)
  | _, _ => none
def bW (w : W) : Option Bool := match w with
  | .v (.d (.bl b)) => some b
  | _ => none
def truK (x : W) (h : Hh) : Res Bool := match view h x.val with
  | some p => ofO (truD p) h
  | none => .stuck
mutual
def evW (C : Cfg) : E → Ve → Hh → Res W
  | .var i, env, h => match env[i]? with
    | some (some v) => .ok (.v v) h
    | _ => .stuck
  | .con c, _, h => .ok (.v (.d c)) h
  | .glb g, _, h => .ok (.v (.d (C.glb g))) h
  | .tup es, env, h => (evL C es env h).bind fun vs h => match asDs vs with
    | some ds => if ds.length ≤ lim then .ok (.v (.d (.tup ds))) h else .stuck
    | none => .stuck
  | .lst es, env, h => (evL C es env h).bind fun vs h => match asDs vs with
    | some ds => if ds.length ≤ lim then .ok (.fresh ds) h else .stuck
    | none => .stuck
  | .bin o a b, env, h => (evW C a env h).bind fun x h => (evW C b env h).bind fun y h => match view h x.val, view h y.val with
    | some p, some q => ofO (binD o p q) h
    | _, _ => .stuck
  | .neg a, env, h => (evW C a env h).bind fun x h => match x with
    | .v (.d (.int i)) => .ok (.v (.d (.int (-i)))) h
    | _ => .stuck
  | .not a, env, h => (evW C a env h).bind fun x h => match view h x.val with
    | some p => (ofO (truD p) h).bind fun b h => .ok (.v (.d (.bl (!b)))) h
    | none => .stuck
  | .and es, env, h => evAnd C es env h
  | .or es, env, h => evOr C es env h
  | .cmp o a b, env, h => (evW C a env h).bind fun x h => (evW C b env h).bind fun y h => match view h x.val, view h y.val with
    | some p, some q => (ofO (cmpD o p q) h).bind fun b h => .ok (.v (.d (.bl b))) h
    | _, _ => .stuck
  | .chain o p a b c, env, h => (evW C a env h).bind fun x h => (evW C b env h).bind fun y h => match view h x.val, view h y.val with
    | some u, some v => (ofO (cmpD o u v) h).bind fun k h => if k then (evW C c env h).bind fun z h => match view h y.val, view h z.val with
        | some v, some t => (ofO (cmpD p v t) h).bind fun b h => .ok (.v (.d (.bl b))) h
        | _, _ => .stuck
      else .ok (.v (.d (.bl false))) h
    | _, _ => .stuck
  | .ife c a b, env, h => (evT C c env h).bind fun k h => if k then evW C a env h else evW C b env h
  | .call f es, env, h => (evL C es env h).bind fun vs h => (C.call f vs h).bind fun v h => .ok (.v v) h
  | .bi b es, env, h => (evL C es env h).bind fun vs h => match views h vs with
    | some ds => ofO (biD b ds) h
    | none => .stuck
  | .isi t a, env, h => (evW C a env h).bind fun x h => match view h x.val with
    | some p => (ofO (isTy t p) h).bind fun b h => .ok (.v (.d (.bl b))) h
    | none => .stuck
  | .ix a b, env, h => (evW C a env h).bind fun x h => (evW C b env h).bind fun y h => match view h x.val, view h y.val with
    | some p, some q => (ofO (ixD p q) h).bind fun d h => .ok (.v (.d d)) h
    | _, _ => .stuck
  | .sl a lo hi, env, h => (evW C a env h).bind fun x h => (evO C lo env h).bind fun l h => (evO C hi env h).bind fun u h => match view h x.val with
    | some p => ofO (slD p l u) h
    | none => .stuck
  | .mk a, env, h => (evW C a env h).bind fun x h => match x with
    | .fresh ds => .ok (.v (.ref h.length)) (h ++ [.lst ds])
    | _ => .stuck
  | .frz a, env, h => (evW C a env h).bind fun x h => match x with
    | .v (.ref n) => (match h[n]? with
      | some (.lst ds) => .ok (.v (.d (.lst ds))) (h.set n .dead)
      | _ => .stuck)
    | _ => .stuck
  | .lc elt tg it c own, env, h => (evI C it env h).bind fun items h =>
      (compL (fun d h => match bindT tg (.d d) (wipeE env own) with
        | some env1 => (evC C c env1 h).bind fun k h => if k then (evW C elt env1 h).bind fun w h => (match asD w.val with
            | some d => .ok (some d) h
            | none => .stuck) else .ok none h
        | none => .stuck) items [] h).bind fun ds h => .ok (.fresh ds) h
  | .app o e, env, h => (evW C o env h).bind fun x h => match x with
    | .v (.ref n) => (match h[n]? with
      | some (.lst _) => (evW C e env h).bind fun y h => (match asD y.val, h[n]? with
        | some d, some (.lst ds) => if ds.length < lim then .ok (.v (.d .non)) (h.set n (.lst (ds ++ [d]))) else .stuck
        | _, _ => .stuck)
      | _ => .stuck)
    | _ => .stuck
  | .rev a, env, h => (evW C a env h).bind fun x h => match view h x.val with
    | some p => ofO (revD p) h
    | none => .stuck
  | .lam f b, env, h => match C.tr f with
    | some q => (match C.low2 b env h with
      | .ok _ h' => .ok (.v (.d (.str q.1))) h'
      | .err c h' => (match q.2[c]? with
        | some x => .ok (.v (.d (.str x))) h'
        | none => .stuck)
      | .stuck => .stuck)
    | none => .stuck
  | .isE i j, env, h => match env[i]? with
    | some (some (.d (.fn n))) => if n = exN then (match C.ex.bind fun bs => bs[j]? with
      | some b => .ok (.v (.d (.bl b))) h
      | none => .stuck) else .stuck
    | _ => .stuck
  | .dnew t, _, h => .ok (.v (.ref h.length)) (h ++ [if t then .dtt [] else .dct []])
  | .din neg k d, env, h => (evW C k env h).bind fun y h => (evW C d env h).bind fun x h => match x, asD y.val with
    | .v (.ref n), some kd => (match (h[n]?).bind fun c => getC c kd with
      | some o => .ok (.v (.d (.bl (if neg then !o.isSome else o.isSome)))) h
      | none => .stuck)
    | _, _ => .stuck
  | .dget d k, env, h => (evW C d env h).bind fun x h => (evW C k env h).bind fun y h => match x, asD y.val with
    | .v (.ref n), some kd => (match (h[n]?).bind fun c => getC c kd with
      | some (some v) => .ok (.v (.d v)) h
      | _ => .stuck)
    | _, _ => .stuck
  | .dlen d, env, h => (evW C d env h).bind fun x h => match x with
    | .v (.ref n) => (match (h[n]?).bind lenC with
      | some i => .ok (.v (.d (.int i))) h
      | none => .stuck)
    | _ => .stuck
  | .cnt ix a x, env, h => (evW C a env h).bind fun u h => match view h u.val with
    | some (.lst _) => (evW C x env h).bind fun w h => (match view h u.val, w with
      | some (.lst ds), .v (.d (.int k)) => ofO ((cntD ix ds k).map fun d => .v (.d d)) h
      | _, _ => .stuck)
    | _ => .stuck
  | .lc2 elt tg it tg2 it2 own, env, h => (evI C it env h).bind fun items h => (comp2 (fun d acc h => match bindT tg (.d d) (wipeE env own) with
      | some env1 => (evI C it2 env1 h).bindN fun items2 h => compL (fun d h => match bindT tg2 (.d d) (wipeE env1 (tgIs0 tg2)) with
          | some env2 => (evW C elt env2 h).bind fun w h => (match asD w.val with
            | some d => .ok (some d) h
            | none => .stuck)
          | none => .stuck) items2 acc h
      | none => .stuck) items [] h).bind fun ds h => .ok (.fresh ds) h
  | .join x a, env, h => (evW C a env h).bind fun w h => match view h w.val with
    | some p => ofO ((joinD x p).map fun d => .v (.d d)) h
    | none => .stuck
  | .nset a, env, h => (evW C a env h).bind fun x h => match view h x.val with
    | some p => ofO (nsetD p) h
    | none => .stuck
  | .rgL t it, env, h => (evI C it env h).bind fun ds h => if ds.length ≤ lim then .ok (if t then .v (.d (.tup ds)) else .fresh ds) h else .stuck
  | .pop o i, env, h => (evW C o env h).bind fun x h => match x with
    | .v (.ref n) => (match h[n]? with
      | some (.lst _) => (evL C i env h).bind fun vs h => (match h[n]? with
        | some (.lst ds) => (match popD ds vs with
          | some q => .ok (.v (.d q.1)) (h.set n (.lst q.2))
          | none => .stuck)
        | _ => .stuck)
      | _ => .stuck)
    | _ => .stuck
def evT (C : Cfg) : B → Ve → Hh → Res Bool
  | .e a, env, h => (evW C a env h).bind truK
  | .not a, env, h => (evT C a env h).bind fun b h => .ok (!b) h
  | .and bs, env, h => evAndT C bs env h
  | .or bs, env, h => evOrT C bs env h
  | .ife c a b, env, h => (evT C c env h).bind fun k h => if k then evT C a env h else evT C b env h
def evAnd (C : Cfg) : Es → Ve → Hh → Res W
  | .nil, _, _ => .stuck
  | .cons a .nil, env, h => evW C a env h
  | .cons a r, env, h => (evW C a env h).bind fun x h => match bW x with
    | some b => if b then evAnd C r env h else .ok (.v (.d (.bl false))) h
    | none => .stuck
def evOr (C : Cfg) : Es → Ve → Hh → Res W
  | .nil, _, _ => .stuck
  | .cons a .nil, env, h => evW C a env h
  | .cons a r, env, h => (evW C a env h).bind fun x h => match bW x with
    | some b => if b then .ok (.v (.d (.bl true))) h else evOr C r env h
    | none => .stuck
def evAndT (C : Cfg) : Bs → Ve → Hh → Res Bool
  | .nil, _, _ => .stuck
  | .cons a .nil, env, h => evT C a env h
  | .cons a r, env, h => (evT C a env h).bind fun b h => if b then evAndT C r env h else .ok false h
def evOrT (C : Cfg) : Bs → Ve → Hh → Res Bool
  | .nil, _, _ => .stuck
  | .cons a .nil, env, h => evT C a env h
  | .cons a r, env, h => (evT C a env h).bind fun b h => if b then .ok true h else evOrT C r env h
/-- a comprehension's tests: none, or one -/
def evC (C : Cfg) : Bs → Ve → Hh → Res Bool
  | .nil, _, h => .ok true h
  | .cons a .nil, env, h => evT C a env h
  | _, _, _ => .stuck
/-- a slice's end -/
def evO (C : Cfg) : Es → Ve → Hh → Res (Option Int)
  | .nil, _, h => .ok none h
  | .cons a .nil, env, h => (evW C a env h).bind fun x h => match x with
    | .v (.d (.int i)) => .ok (some i) h
    | _ => .stuck
  | _, _, _ => .stuck
def evL (C : Cfg) : Es → Ve → Hh → Res (List Val)
  | .nil, _, h => .ok [] h
  | .cons a r, env, h => (evW C a env h).bind fun x h => (evL C r env h).bind fun xs h => .ok (x.val :: xs) h
def evI (C : Cfg) : It → Ve → Hh → Res (List D)
  | .seq e, env, h => (evW C e env h).bind fun x h => match asD x.val with
    | some p => ofO (seqD p) h
    | none => .stuck
  | .rng1 a, env, h => (evW C a env h).bind fun x h => match x with
    | .v (.d (.int j)) => if smallI j then .ok (rngL 0 j) h else .stuck
    | _ => .stuck
  | .rng2 a b, env, h => (evW C a env h).bind fun x h => (evW C b env h).bind fun y h => match x, y with
    | .v (.d (.int i)), .v (.d (.int j)) => if smallI i && smallI j then .ok (rngL i j) h else .stuck
    | _, _ => .stuck
  | .zip a b, env, h => (evW C a env h).bind fun x h => (evW C b env h).bind fun y h => match asD x.val, asD y.val with
    | some p, some q => ofO (zipD p q) h
    | _, _ => .stuck
  | .enu e, env, h => (evW C e env h).bind fun x h => match asD x.val with
    | some (.lst ds) => .ok (enuL 0 ds) h
    | some (.tup ds) => .ok (enuL 0 ds) h
    | _ => .stuck
end
def augI : Op → Int → Int → Int
  | .add, i, j => i + j
  | _, i, j => i - j
mutual
def evS (C : Cfg) : S → Ve → Hh → Res Flow
  | .asg tg e, env, h => (evW C e env h).bind fun x h => (ofO (bindT tg x.val env) h).bind fun env h => .ok (.next env) h
  | .par is es, env, h => (evL C es env h).bind fun vs h => if is.length ≤ lim then (ofO (putAll is vs env) h).bind fun env h => .ok (.next env) h else .stuck
  | .setix o i e, env, h => (evW C e env h).bind fun z h => (evW C o env h).bind fun x h => (evW C i env h).bind fun y h => match x, y, asD z.val with
    | .v (.ref n), .v (.d (.int k)), some d => (match h[n]? with
      | some (.lst ds) => (match L2.ixN ds.length k with
        | some j => .ok (.next env) (h.set n (.lst (ds.set j d)))
        | none => .stuck)
      | _ => .stuck)
    | _, _, _ => .stuck
  | .dput d k e, env, h => (evW C e env h).bind fun z h => (evW C d env h).bind fun x h => (evW C k env h).bind fun y h => match x, asD y.val, asD z.val with
    | .v (.ref n), some kd, some v => (match (h[n]?).bind fun c => putC c kd v with
      | some c => .ok (.next env) (h.set n c)
      | none => .stuck)
    | _, _, _ => .stuck
  | .aug i o e, env, h => match env[i]? with
    | some (some (.d (.int p))) => (evW C e env h).bind fun y h => (match y with
      | .v (.d (.int q)) => .ok (.next (env.set i (some (.d (.int (augI o p q)))))) h
      | _ => .stuck)
    | _ => .stuck
  | .expr e, env, h => (evW C e env h).bind fun _ h => .ok (.next env) h
  | .ret e, env, h => (evW C e env h).bind fun x h => .ok (.ret x.val) h
  | .ife c a b, env, h => (evT C c env h).bind fun k h => if k then evSs C a env h else evSs C b env h
  | .for_ tg it b, env, h => (evI C it env h).bind fun items h => forL (fun d env h => match bindT tg (.d d) env with
      | some env => evSs C b env h
      | none => .stuck) items env h
  | .whl c b, env, h => whlL (evT C c) (evSs C b) fuel env h
  | .brk, env, h => .ok (.brk env) h
  | .cnt, env, h => .ok (.cnt env) h
  | .pass, env, h => .ok (.next env) h
  | .any, _, _ => .stuck
  | .rse c, _, h => .err c h
  | .frz i, env, h => match env[i]? with
    | some (some (.ref n)) => (match h[n]? with
      | some (.lst ds) => .ok (.next (env.set i (some (.d (.lst ds))))) (h.set n .dead)
      | _ => .stuck)
    | _ => .stuck
  | .lots i j p s _, env, h => match env[p]?, env[s]? with
    | some (some (.d (.int P))), some (some (.d (.int S))) => if lotsOk i j p s env.length P S then .ok (.next ((env.set i (some (.d (.lst (lotsD P.toNat (P * S).toNat))))).set j (some (.d (.int (P * S - 1)))))) h else .stuck
    | _, _ => .stuck
def evSs (C : Cfg) : Ss → Ve → Hh → Res Flow
  | .nil, env, h => .ok (.next env) h
  | .cons s r, env, h => (evS C s env h).bind fun f h => match f with
    | .next env => evSs C r env h
    | f => .ok f h
end
/-- a def: its parameters, its names, its body, whether the cells that it made stay; what it makes of a call that it gets (its body is then what it does with the error) -/
structure Fn where
  np : Nat
  nn : Nat
  body : Ss
  keep : Bool := false
  tr : Option (Str × List Str) := none
def start (f : Fn) (vs : List Val) : Ve := vs.map some ++ List.replicate (f.nn - f.np) none
def leave (keep : Bool) (n : Nat) (v : Val) (h : Hh) : Res Val := if keep then .ok v h else match v with
  | .d x => .ok (.d x) (h.take n)
  | .ref k => if k < n then .ok (.ref k) (h.take n) else .stuck
def runFn (C : Cfg) (f : Fn) (vs : List Val) (h : Hh) : Res Val := if f.tr = none ∧ vs.length = f.np then match evSs C f.body (start f vs) h with
    | .ok (.ret v) h' => leave f.keep h.length v h'
    | .ok (.next _) h' => leave f.keep h.length (.d .non) h'
    | .err c h' => .err c (h'.take h.length)
    | _ => .stuck
  else .stuck
/-- what there is at a level -/
structure Low where
  call : Nat → List Val → Hh → Res Val
  low : E → Ve → Hh → Res W
  low2 : E → Ve → Hh → Res W
/-- the program: its defs, its constants; calls by so many levels -/
def lowN (fs : Nat → Option Fn) (glb : Nat → D) (tr : Nat → Option (Str × List Str)) (ex : Option (List Bool)) : Nat → Low
  | 0 => ⟨fun _ _ _ => .stuck, fun _ _ _ => .stuck, fun _ _ _ => .stuck⟩
  | n + 1 => ⟨fun f vs h => match fs f with
      | some F => runFn ⟨(lowN fs glb tr ex n).call, glb, (lowN fs glb tr ex n).low, (lowN fs glb tr ex n).low2, tr, ex⟩ F vs h
      | none => .stuck,
    evW ⟨(lowN fs glb tr ex n).call, glb, (lowN fs glb tr ex n).low, (lowN fs glb tr ex n).low2, tr, ex⟩, (lowN fs glb tr ex n).low⟩
end Ev
set_option linter.all false
set_option maxRecDepth 100000
set_option maxHeartbeats 2000000
/-! EvZ: zip over a tuple and a list, or a list and a tuple: each iterator by a flag (true: a tuple's). -/
namespace Ev.ZM
open PySem PySem.Spec PyProof.Rows L2
open PySem.Sem (wp)
def ItX (t : Bool) (h : Heap) (a l : Addr) (k : Nat) : Prop := ∃ o, h.get? a = some o ∧ o.cls = .type (if t then "tuple_iterator" else "list_iterator") ∧ o.data = .fields #[.ref l, .int k 0]
def SqX (t : Bool) (h : Heap) (l : Addr) (xs : Array Value) : Prop := ∃ o, h.get? l = some o ∧ o.cls = .type (if t then "tuple" else "list") ∧ ∃ n, o.data = .seq xs n
theorem ItX.up {t : Bool} {h g : Heap} {a l : Addr} {k : Nat} (q : ItX t h a l k) (e : ∀ o, h.get? a = some o → g.get? a = some o) : ItX t g a l k := by
  obtain ⟨o, q1, q2⟩ := q
  exact ⟨o, e o q1, q2⟩
theorem SqX.up {t : Bool} {h g : Heap} {a : Addr} {xs : Array Value} (q : SqX t h a xs) (e : ∀ o, h.get? a = some o → g.get? a = some o) : SqX t g a xs := by
  obtain ⟨o, q1, q2⟩ := q
  exact ⟨o, e o q1, q2⟩
section
variable {prog : Program} {w : World} {A : Around} {E : Value → Shared → Prop} {s : Shared}
theorem step_x {t : Bool} {it l : Addr} {i : Nat} {xs : Array Value} {x : Value} {Q : Value → Shared → Prop} (a : ItX t s.heap it l i) (b : SqX t s.heap l xs) (c : xs[i]? = some x)
    (d : ∀ g, ItX t g it l (i + 1) → Heap.SameBut it s.heap g → Q x { s with heap := g }) : wpAny (model prog w) A (Builtin.SmallTypes.nextOf (.ref it)) Q E s := by
  cases t with
  | true => exact RZ.nextOf_tuple_item (show s.heap.IsTupleIter it l i from a) (show s.heap.IsTuple l xs from b) c d
  | false => exact wpAny_nextOf_list_item (show s.heap.IsListIter it l i from a) (show s.heap.IsList l xs from b) c d
theorem stop_x {t : Bool} {it l : Addr} {i : Nat} {xs : Array Value} {Q : Value → Shared → Prop} (hh : A.handled = none) (a : ItX t s.heap it l i) (b : SqX t s.heap l xs) (c : xs[i]? = none)
    (d : ∀ g e, Heap.ExtBut it s.heap g → (∃ o, g.get? e = some o ∧ o.cls = .type "StopIteration") → E (.ref e) { s with heap := g }) : wpAny (model prog w) A (Builtin.SmallTypes.nextOf (.ref it)) Q E s := by
  cases t with
  | true => exact RZ.nextOf_tuple_end hh (show s.heap.IsTupleIter it l i from a) (show s.heap.IsTuple l xs from b) c d
  | false => exact wpAny_nextOf_list_end hh (show s.heap.IsListIter it l i from a) (show s.heap.IsList l xs from b) c d
/-- how a zip object stands, its iterators at k, j -/
structure At (t u : Bool) (g : Heap) (z p o i j a b : Addr) (k m : Nat) (f x y : Value) : Prop where
  z : IsZip g z p o f
  p : IsPair g p (.ref i) (.ref j)
  o : IsPair g o x y
  i : ItX t g i a k
  j : ItX u g j b m
variable {t u : Bool} {z p o i j a b : Addr} {k m : Nat} {xs ys : Array Value} {x y v v' : Value}
theorem next_ok {Q : Value → Shared → Prop} (D : ZipApart z p o i j a b) (T : At t u s.heap z p o i j a b k m .none v v') (la : SqX t s.heap a xs) (lb : SqX u s.heap b ys) (ex : xs[k]? = some x) (ey : ys[m]? = some y)
    (hQ : ∀ g, At t u g z p o i j a b (k + 1) (m + 1) (rawInt s.heap.objs.size) x y → IsPair g s.heap.objs.size x y → g.objs.size = s.heap.objs.size + 1 →
      (∀ c r, c ≠ z → c ≠ o → c ≠ i → c ≠ j → s.heap.get? c = some r → g.get? c = some r) → Q (.ref s.heap.objs.size) { s with heap := g }) :
    wpAny (model prog w) A (Builtin.«zip.__next__» ⟨[.ref z], []⟩) (fun fin s' => ∃ v, fin = .done (.ret v) ∧ Q v s') E s := by
  have Tz := T.z
  show wpAny _ _ (field (.ref z) 2 >>= _) _ _ _
  refine wpAny_bind (wpAny_field Tz rfl (x := .bool false) rfl ?_)
  show wpAny _ _ (field (.ref z) 3 >>= _) _ _ _
  refine wpAny_bind (wpAny_field Tz rfl (x := .ref p) rfl (wpAny_bind (wpAny_seqItems T.p rfl ?_)))
  show wpAny _ _ (Builtin.SmallTypes.ownedTupleIsFree (.ref z) >>= _) _ _ _
  refine wpAny_bind ?_
  unfold Builtin.SmallTypes.ownedTupleIsFree
  refine wpAny_bind (wpAny_field Tz rfl (x := .none) rfl (wpAny_pure ?_))
  simp only [if_true]
  refine wpAny_bind (wpAny_rule (wpAny_bind (wpAny_field Tz rfl (x := .ref o) rfl (wpAny_bind (wpAny_setField_rec Tz (by simp) fun g1 zz s1 => ?_)))))
  have z1 : IsZip g1 z p o .ellipsis := zz
  refine wpAny_bind ?_
  simp only [List.zipIdx_cons, List.zipIdx_nil, List.forIn_cons, List.forIn_nil]
  refine wpAny_bind (wpAny_bind (wpAny_onRaise ?_))
  show wpAny _ _ (Builtin.SmallTypes.nextOf (.ref i) >>= _) _ _ _
  have k1 : ∀ c r, c ≠ z → s.heap.get? c = some r → g1.get? c = some r := fun c r n e => s1.extBut _ _ n e
  refine wpAny_bind (step_x (T.i.up fun r => k1 _ r D.i1z) (la.up fun r => k1 _ r D.l1z) ex fun g2 i2 s2 => wpAny_pure ?_)
  have k2 : ∀ c r, c ≠ z → c ≠ i → s.heap.get? c = some r → g2.get? c = some r := fun c r n n2 e => s2.extBut _ _ n2 (k1 c r n e)
  have o2 : IsPair g2 o v v' := k2 _ _ D.TOz D.TOi1 T.o
  refine wpAny_bind (wpAny_seqItems o2 rfl (wpAny_bind (wpAny_updateSeq_pair o2 fun g3 oo s3 => ?_)))
  have o3 : IsPair g3 o x v' := oo
  have k3 : ∀ c r, c ≠ z → c ≠ i → c ≠ o → s.heap.get? c = some r → g3.get? c = some r := fun c r n n2 n3 e => s3.extBut _ _ n3 (k2 c r n n2 e)
  refine wpAny_bind (wpAny_letGo (wpAny_pure (wpAny_bind (wpAny_bind (wpAny_onRaise ?_)))))
  show wpAny _ _ (Builtin.SmallTypes.nextOf (.ref j) >>= _) _ _ _
  refine wpAny_bind (step_x (T.j.up fun r => k3 _ r D.i2z D.i12.symm D.TOi2.symm) (lb.up fun r => k3 _ r D.l2z D.l2i1 D.l2TO) ey fun g4 j4 s4 => wpAny_pure ?_)
  have o4 : IsPair g4 o x v' := s4.extBut _ _ D.TOi2 o3
  refine wpAny_bind (wpAny_seqItems o4 rfl (wpAny_bind (wpAny_updateSeq_pair o4 fun g5 oo5 s5 => ?_)))
  have o5 : IsPair g5 o x y := oo5
  refine wpAny_bind (wpAny_letGo (wpAny_pure (wpAny_pure (wpAny_bind (wpAny_seqItems o5 rfl (wpAny_bind (wpAny_newTuple ?_)))))))
  have sz : g5.objs.size = s.heap.objs.size := by rw [s5.1, s4.1, s3.1, s2.1, s1.1]
  have k5 : ∀ c r, c ≠ z → c ≠ o → c ≠ i → c ≠ j → s.heap.get? c = some r → g5.get? c = some r := fun c r n n2 n3 n4 e => s5.extBut _ _ n2 (s4.extBut _ _ n4 (k3 c r n n3 n2 e))
  have z5 : IsZip g5 z p o .ellipsis := s5.extBut _ _ D.TOz.symm (s4.extBut _ _ D.i2z.symm (s3.extBut _ _ D.TOz.symm (s2.extBut _ _ D.i1z.symm z1)))
  have i5 : ItX t g5 i a (k + 1) := i2.up fun r e => s5.extBut _ _ D.TOi1.symm (s4.extBut _ _ D.i12 (s3.extBut _ _ D.TOi1.symm e))
  have j5 : ItX u g5 j b (m + 1) := j4.up fun r e => s5.extBut _ _ D.TOi2.symm e
  have zl : z < g5.objs.size := Heap.lt_size z5
  show wpAny _ _ (Builtin.SmallTypes.ownedTupleHandOut (.ref z) (.ref g5.objs.size) >>= _) _ _ _
  refine wpAny_bind ?_
  unfold Builtin.SmallTypes.ownedTupleHandOut
  have z6 : IsZip (g5.push { cls := .type "tuple", data := .seq #[x, y] }) z p o .ellipsis := Heap.get?_push_of_some _ z5
  refine wpAny_bind (wpAny_setField_rec z6 (by simp) fun g7 y7 s7 => ?_)
  have z7 : IsZip g7 z p o (rawInt g5.objs.size) := y7
  refine wpAny_setField_rec z7 (by simp) fun g8 y8 s8 => ?_
  have z8 : IsZip g8 z p o (rawInt g5.objs.size) := y8
  have k8 : ∀ c r, c ≠ z → (g5.push { cls := .type "tuple", data := .seq #[x, y] }).get? c = some r → g8.get? c = some r := fun c r n e => s8.extBut _ _ n (s7.extBut _ _ n e)
  have l8 : ∀ c r, c ≠ z → g5.get? c = some r → g8.get? c = some r := fun c r n e => k8 c r n (Heap.get?_push_of_some _ e)
  have n8 : IsPair g8 g5.objs.size x y := k8 _ _ (Nat.ne_of_gt zl) (Heap.get?_push_size _ rfl)
  have c8 : g8.objs.size = g5.objs.size + 1 := by rw [s8.1, s7.1, Heap.size_push]
  refine wpAny_pure ⟨_, rfl, ?_⟩
  show Q (.ref g5.objs.size) _
  rw [sz] at z8 n8 c8 ⊢
  exact hQ g8 ⟨z8, l8 _ _ D.TIz (k5 _ _ D.TIz D.TITO D.TIi1 D.TIi2 T.p), l8 _ _ D.TOz o5, i5.up fun r => l8 _ r D.i1z, j5.up fun r => l8 _ r D.i2z⟩ n8 c8 fun c r n n2 n3 n4 e => l8 c r n (k5 c r n n2 n3 n4 e)
theorem next_end {Q : Fin → Shared → Prop} (hh : A.handled = none) (D : ZipApart z p o i j a b) (T : At t u s.heap z p o i j a b k m .none v v') (la : SqX t s.heap a xs) (lb : SqX u s.heap b ys) (en : xs[k]? = none ∨ ys[m]? = none)
    (hE : ∀ g e, (∀ c r, c ≠ z → c ≠ o → c ≠ i → c ≠ j → s.heap.get? c = some r → g.get? c = some r) → (∃ r, g.get? e = some r ∧ r.cls = .type "StopIteration") → E (.ref e) { s with heap := g }) :
    wpAny (model prog w) A (Builtin.«zip.__next__» ⟨[.ref z], []⟩) Q E s := by
  have Tz := T.z
  show wpAny _ _ (field (.ref z) 2 >>= _) _ _ _
  refine wpAny_bind (wpAny_field Tz rfl (x := .bool false) rfl ?_)
  show wpAny _ _ (field (.ref z) 3 >>= _) _ _ _
  refine wpAny_bind (wpAny_field Tz rfl (x := .ref p) rfl (wpAny_bind (wpAny_seqItems T.p rfl ?_)))
  show wpAny _ _ (Builtin.SmallTypes.ownedTupleIsFree (.ref z) >>= _) _ _ _
  refine wpAny_bind ?_
  unfold Builtin.SmallTypes.ownedTupleIsFree
  refine wpAny_bind (wpAny_field Tz rfl (x := .none) rfl (wpAny_pure ?_))
  simp only [if_true]
  refine wpAny_bind (wpAny_rule (wpAny_bind (wpAny_field Tz rfl (x := .ref o) rfl (wpAny_bind (wpAny_setField_rec Tz (by simp) fun g1 zz s1 => ?_)))))
  have z1 : IsZip g1 z p o .ellipsis := zz
  refine wpAny_bind ?_
  simp only [List.zipIdx_cons, List.zipIdx_nil, List.forIn_cons, List.forIn_nil]
  refine wpAny_bind (wpAny_bind (wpAny_onRaise ?_))
  show wpAny _ _ (Builtin.SmallTypes.nextOf (.ref i) >>= _) _ _ _
  have k1 : ∀ c r, c ≠ z → s.heap.get? c = some r → g1.get? c = some r := fun c r n e => s1.extBut _ _ n e
  have i1 := T.i.up fun r => k1 _ r D.i1z
  have a1 := la.up fun r => k1 _ r D.l1z
  cases ex : xs[k]? with
  | none =>
    refine wpAny_bind (stop_x hh i1 a1 ex fun g2 e s2 he => ?_)
    obtain ⟨r, er, ec⟩ := he
    have z2 : IsZip g2 z p o .ellipsis := s2 _ _ D.i1z.symm z1
    have ne : e ≠ z := fun q => by subst q; rw [z2] at er; cases er; simp at ec
    exact wpAny_setField_rec z2 (by simp) fun g3 _ s3 => hE g3 e (fun c r n _ n3 _ q => s3.extBut _ _ n (s2 _ _ n3 (k1 c r n q))) ⟨r, s3.extBut _ _ ne er, ec⟩
  | some x =>
    have ey : ys[m]? = none := en.resolve_left fun q => by rw [ex] at q; cases q
    refine wpAny_bind (step_x i1 a1 ex fun g2 i2 s2 => wpAny_pure ?_)
    have o2 : IsPair g2 o v v' := s2.extBut _ _ D.TOi1 (k1 _ _ D.TOz T.o)
    refine wpAny_bind (wpAny_seqItems o2 rfl (wpAny_bind (wpAny_updateSeq_pair o2 fun g3 oo s3 => ?_)))
    have k3 : ∀ c r, c ≠ z → c ≠ i → c ≠ o → s.heap.get? c = some r → g3.get? c = some r := fun c r n n2 n3 e => s3.extBut _ _ n3 (s2.extBut _ _ n2 (k1 c r n e))
    refine wpAny_bind (wpAny_letGo (wpAny_pure (wpAny_bind (wpAny_bind (wpAny_onRaise ?_)))))
    show wpAny _ _ (Builtin.SmallTypes.nextOf (.ref j) >>= _) _ _ _
    refine wpAny_bind (stop_x hh (T.j.up fun r => k3 _ r D.i2z D.i12.symm D.TOi2.symm) (lb.up fun r => k3 _ r D.l2z D.l2i1 D.l2TO) ey fun g4 e s4 he => ?_)
    obtain ⟨r, er, ec⟩ := he
    have z4 : IsZip g4 z p o .ellipsis := s4 _ _ D.i2z.symm (s3.extBut _ _ D.TOz.symm (s2.extBut _ _ D.i1z.symm z1))
    have ne : e ≠ z := fun q => by subst q; rw [z4] at er; cases er; simp at ec
    exact wpAny_setField_rec z4 (by simp) fun g5 _ s5 => hE g5 e (fun c r n n2 n3 n4 q => s5.extBut _ _ n (s4 _ _ n4 (k3 c r n n3 n2 q))) ⟨r, s5.extBut _ _ ne er, ec⟩
theorem pyNext_ok {Q : Option Value → Shared → Prop} (D : ZipApart z p o i j a b) (T : At t u s.heap z p o i j a b k m .none v v') (la : SqX t s.heap a xs) (lb : SqX u s.heap b ys) (ex : xs[k]? = some x) (ey : ys[m]? = some y)
    (hQ : ∀ g, At t u g z p o i j a b (k + 1) (m + 1) (rawInt s.heap.objs.size) x y → IsPair g s.heap.objs.size x y → g.objs.size = s.heap.objs.size + 1 →
      (∀ c r, c ≠ z → c ≠ o → c ≠ i → c ≠ j → s.heap.get? c = some r → g.get? c = some r) → Q (some (.ref s.heap.objs.size)) { s with heap := g }) : wpAny (model prog w) A (pyNext (.ref z)) Q E s := by
  have ty : s.TypeIs (.ref z) "zip" := ⟨_, T.z, rfl⟩
  unfold pyNext
  exact wpAny_bind (wpAny_attempt (wpAny_callSpecial?_slot (name := Str.ofString "__next__") ty F.slot_zip_next (wpAny_call_entry F.slot_zip_next ty F.entry_zip_next (next_ok D T la lb ex ey fun g q1 q2 q3 q4 => wpAny_pure (hQ g q1 q2 q3 q4)) (F.args_zip_next_1 _))))
theorem pyNext_end {Q : Option Value → Shared → Prop} (hh : A.handled = none) (D : ZipApart z p o i j a b) (T : At t u s.heap z p o i j a b k m .none v v') (la : SqX t s.heap a xs) (lb : SqX u s.heap b ys) (en : xs[k]? = none ∨ ys[m]? = none)
    (hQ : ∀ g, (∀ c r, c ≠ z → c ≠ o → c ≠ i → c ≠ j → s.heap.get? c = some r → g.get? c = some r) → Q none { s with heap := g }) : wpAny (model prog w) A (pyNext (.ref z)) Q E s := by
  have ty : s.TypeIs (.ref z) "zip" := ⟨_, T.z, rfl⟩
  unfold pyNext
  refine wpAny_bind (wpAny_attempt (wpAny_callSpecial?_slot (name := Str.ofString "__next__") ty F.slot_zip_next (wpAny_call_entry F.slot_zip_next ty F.entry_zip_next (next_end hh D T la lb en fun g e q1 q2 => ?_) (F.args_zip_next_1 _))))
  obtain ⟨r, er, ec⟩ := q2
  exact wpAny_bind (wpAny_isInstance (T := "StopIteration") (b := true) ⟨r, er, ec⟩ isSubtype_stop (wpAny_pure (hQ g q1)))
end
/-- the objects that a zip makes -/
def itO (t : Bool) (l : Addr) : Obj := { cls := .type (if t then "tuple_iterator" else "list_iterator"), data := .fields #[.ref l, .int 0 0] }
def mkH (t u : Bool) (h : Heap) (a b : Addr) : Heap := ((((h.push (itO t a)).push (itO u b)).push { cls := .type "tuple", data := .seq #[.ref h.objs.size, .ref (h.objs.size + 1)] }).push { cls := .type "tuple", data := .seq #[.none, .none] }).push { cls := .type "zip", data := .fields #[.none, .bool false, .bool false, .ref (h.objs.size + 2), .ref (h.objs.size + 3)] }
theorem new_TL (a b : Addr) (xs ys : Array Value) : Meets (Builtin.«zip.__new__» ⟨[.type "zip", .ref a, .ref b], []⟩) (fun _ R s => s.heap.IsTuple a xs ∧ s.heap.IsList b ys ∧ R (.ok (.ret (.ref (s.heap.objs.size + 4)))) { s with heap := mkH true false s.heap a b }) :=
  .of_wp fun prog w A R s h => by
    obtain ⟨hp, g, d, tk, os⟩ := s
    obtain ⟨ha, hb, h⟩ := h
    have sub := sub_zip
    have qa : Heap.IsTuple (Shared.heap ⟨hp, g, d, tk, os⟩) a xs := ha
    have qb : Heap.IsList (Shared.heap ⟨hp.push { cls := .type "tuple_iterator", data := .fields #[.ref a, .int 0 0] }, g, d, tk, os⟩) b ys := Heap.IsList.push hb _
    wp_walk using wpAny_pyIter_tuple qa, wpAny_pyIter_list qb
    refine ⟨_, rfl, ?_⟩
    have e := h
    simp only [mkH, itO, Heap.size_push, if_true, Bool.false_eq_true, if_false] at e ⊢
    exact e
section
variable {prog : Program} {w : World} {A : Around} {E : Value → Shared → Prop} {s : Shared}
theorem call_TL {a b : Addr} {xs ys : Array Value} {Q : Value → Shared → Prop} (ha : s.heap.IsTuple a xs) (hb : s.heap.IsList b ys)
    (h : ∀ g, At true false g (s.heap.objs.size + 4) (s.heap.objs.size + 2) (s.heap.objs.size + 3) s.heap.objs.size (s.heap.objs.size + 1) a b 0 0 .none .none .none → (∀ c r, s.heap.get? c = some r → g.get? c = some r) → Q (.ref (s.heap.objs.size + 4)) { s with heap := g }) :
    wpAny (model prog w) A (call (.type "zip") [.ref a, .ref b]) Q E s := by
  refine callType_new F.called_zip (by decide) (F.typeCall_zip_2 _ _) (F.newCall_zip_2 _ _) (fun o => F.args_object_init_3 o _ _) F.entry_zip_new (new_TL a b xs ys) ⟨ha, hb, ?_⟩
  have up : ∀ {g : Heap} {c : Addr} {r : Obj} (q : Obj), g.get? c = some r → (g.push q).get? c = some r := fun q e => Heap.get?_push_of_some q e
  have at_ : ∀ {g : Heap} {q : Obj} {n : Nat}, g.objs.size = n → q.isFreed = false → (g.push q).get? n = some q := fun e hq => by subst e; exact Heap.get?_push_size _ hq
  have n1 : (s.heap.push (itO true a)).objs.size = s.heap.objs.size + 1 := Heap.size_push ..
  have n2 : ((s.heap.push (itO true a)).push (itO false b)).objs.size = s.heap.objs.size + 2 := by rw [Heap.size_push, n1]
  have n3 : (((s.heap.push (itO true a)).push (itO false b)).push { cls := .type "tuple", data := .seq #[.ref s.heap.objs.size, .ref (s.heap.objs.size + 1)] }).objs.size = s.heap.objs.size + 3 := by rw [Heap.size_push, n2]
  have n4 : ((((s.heap.push (itO true a)).push (itO false b)).push { cls := .type "tuple", data := .seq #[.ref s.heap.objs.size, .ref (s.heap.objs.size + 1)] }).push { cls := .type "tuple", data := .seq #[.none, .none] }).objs.size = s.heap.objs.size + 4 := by rw [Heap.size_push, n3]
  have tz : IsZip (mkH true false s.heap a b) (s.heap.objs.size + 4) (s.heap.objs.size + 2) (s.heap.objs.size + 3) .none := at_ n4 rfl
  exact ⟨⟨_, tz, rfl⟩, h _ ⟨tz, up _ (up _ (at_ n2 rfl)), up _ (at_ n3 rfl), ⟨_, up _ (up _ (up _ (up _ (at_ rfl rfl)))), rfl, rfl⟩, ⟨_, up _ (up _ (up _ (at_ n1 rfl))), rfl, rfl⟩⟩ fun c r e => up _ (up _ (up _ (up _ (up _ e))))⟩
end
/-- a tuple at a, a list at b, as they stand at each turn -/
def ItzM (K : PySem.W.Frag) (a b : Addr) : L2.It :=
  ⟨fun i H => ∃ xs ys x y, SqT K H a xs ∧ SqL K H b ys ∧ xs[i]? = some x ∧ ys[i]? = some y,
    fun i H v H' => ∃ q x y, v = .ref q ∧ H q = none ∧ H' = upd H q (.tup [x, y]) ∧ (∀ xs, SqT K H a xs → xs[i]? = some x) ∧ ∀ ys, SqL K H b ys → ys[i]? = some y,
    fun i H => ∃ xs ys, SqT K H a xs ∧ SqL K H b ys ∧ (xs.length ≤ i ∨ ys.length ≤ i)⟩
theorem turn_zipM {P : Program} {w : World} {K : PySem.W.Frag} {es : List Expr} {kk : Nat} {tp : Pos} {a b z p o i j : Addr} (D : ZipApart z p o i j a b) :
    Turn P w K (.Tuple es kk tp) (ItzM K a b) [z, p, o, i, j] z (fun k g => ∃ x y, At true false g z p o i j a b k k .none x y) where
  mem := List.mem_cons_self
  obj := fun k g st c hc => by
    obtain ⟨x, y, T⟩ := st
    obtain ⟨r1, e1, _, d1⟩ := T.i
    obtain ⟨r2, e2, _, d2⟩ := T.j
    rcases (by simpa using hc : c = z ∨ c = p ∨ c = o ∨ c = i ∨ c = j) with rfl | rfl | rfl | rfl | rfl
    · exact ⟨_, T.z, fun v q => nomatch q⟩
    · exact ⟨_, T.p, fun v q => nomatch q⟩
    · exact ⟨_, T.o, fun v q => nomatch q⟩
    · exact ⟨_, e1, fun v q => by rw [d1] at q; cases q⟩
    · exact ⟨_, e2, fun v q => by rw [d2] at q; cases q⟩
  keep := fun k g g' st kp => by
    obtain ⟨x, y, T⟩ := st
    exact ⟨x, y, kp z (by simp) _ T.z, kp p (by simp) _ T.p, kp o (by simp) _ T.o, T.i.up fun r => kp i (by simp) r, T.j.up fun r => kp j (by simp) r⟩
  item := by
    intro X hP hw hK hc k pins s σ H E I hf st hg
    subst hP hw hK
    obtain ⟨x0, y0, T⟩ := st
    obtain ⟨xs, ys, x, y, qa, qb, ex, ey⟩ := hg
    obtain ⟨is1, v1, p1, _⟩ := I.tuple qa
    obtain ⟨is2, v2, p2, _⟩ := I.list qb
    obtain ⟨u1, f1, r1⟩ := v1.get ex
    obtain ⟨u2, f2, r2⟩ := v2.get ey
    have zl : z < s.heap.objs.size := Heap.lt_size T.z
    refine pyNext_ok D T (show SqX true s.heap a is1.toArray from p1) (show SqX false s.heap b is2.toArray from p2.isList) (x := u1) (y := u2) (by simpa using f1) (by simpa using f2) fun g T1 nw sz kp => ?_
    refine ⟨_, rfl, wpAny_letOwnedTupleGo_zip (s := { s with heap := g }) T1.z fun g2 z2 sb => ?_⟩
    have nw2 : g2.get? s.heap.objs.size = some { cls := .type "tuple", data := .seq #[u1, u2] } := (sb.2 _ (Nat.ne_of_gt zl)).trans nw
    have ok : ObjOk X.prog X.w (upd H s.heap.objs.size (.tup [x, y])) g2 s.heap.objs.size (.tup [x, y]) := ⟨by show 2 ≤ sizeLine; decide, [u1, u2], .cons r1 (.cons r2 .nil), ⟨_, nw2, rfl, _, rfl⟩⟩
    have ne : ∀ {c : Addr}, c ∉ [z, p, o, i, j] → c ≠ z ∧ c ≠ o ∧ c ≠ i ∧ c ≠ j := fun hb => by simpa using ⟨fun q => hb (by simp [q]), fun q => hb (by simp [q]), fun q => hb (by simp [q]), fun q => hb (by simp [q])⟩
    have I1 : Inv X pins σ (upd H s.heap.objs.size (.tup [x, y])) { s with heap := g2 } :=
      I.turnedNew (t' := s.toks) (ch := [z, p, o, i, j]) (fun c r hb q => (sb.2 c (ne hb).1).trans (kp c r (ne hb).1 (ne hb).2.1 (ne hb).2.2.1 (ne hb).2.2.2 q)) hf (Nat.le_refl _) ok
    refine ⟨.ref s.heap.objs.size, _, I1, rfl, ⟨_, x, y, rfl, I.hok.fresh (Nat.le_refl _), rfl, fun l hl => by rw [I.tuple_inj hl qa]; exact ex, fun l hl => by rw [I.list_inj hl qb]; exact ey⟩, ⟨u1, u2, z2, (sb.2 _ D.TIz).trans T1.p, (sb.2 _ D.TOz).trans T1.o, T1.i.up fun r q => (sb.2 _ D.i1z).trans q, T1.j.up fun r q => (sb.2 _ D.i2z).trans q⟩, fun c hcm => ?_⟩
    have lt : c < s.heap.objs.size := by
      rcases (by simpa using hcm : c = z ∨ c = p ∨ c = o ∨ c = i ∨ c = j) with q | q | q | q | q
      · rw [q]; exact zl
      · rw [q]; exact Heap.lt_size T.p
      · rw [q]; exact Heap.lt_size T.o
      · rw [q]; obtain ⟨_, e, _⟩ := T.i; exact Heap.lt_size e
      · rw [q]; obtain ⟨_, e, _⟩ := T.j; exact Heap.lt_size e
    rw [upd_ne (Nat.ne_of_lt lt)]
    exact (hf c hcm).1
  done := by
    intro X hP hw hK hc k pins s σ H E I hf st hg
    subst hP hw hK
    obtain ⟨x0, y0, T⟩ := st
    obtain ⟨xs, ys, qa, qb, en⟩ := hg
    obtain ⟨is1, v1, p1, _⟩ := I.tuple qa
    obtain ⟨is2, v2, p2, _⟩ := I.list qb
    have l1 := v1.length
    have l2 := v2.length
    have he : is1.toArray[k]? = none ∨ is2.toArray[k]? = none := en.imp (fun q => by simp; omega) (fun q => by simp; omega)
    refine pyNext_end (I.ok.hd hc) D T (show SqX true s.heap a is1.toArray from p1) (show SqX false s.heap b is2.toArray from p2.isList) he fun g kp => ⟨rfl, I.turnedL (t' := s.toks) (ch := [z, p, o, i, j]) (fun c r hb q => ?_) hf⟩
    exact kp c r (fun z => hb (by simp [z])) (fun z => hb (by simp [z])) (fun z => hb (by simp [z])) (fun z => hb (by simp [z])) q
  self := fun A i s Q E st h => by
    obtain ⟨x, y, T⟩ := st
    exact wpAny_pyIter_zip T.z h
/-- zip of two lists, two tuples, a tuple and a list -/
def iZip3 (K : PySem.W.Frag) (ta : TA) : TI := fun σ H R => ta σ H fun vs H1 => ∃ a b xs ys, vs = [.ref a, .ref b] ∧ ((SqL K H1 a xs ∧ SqL K H1 b ys ∧ R (Itz K a b) H1) ∨ (SqT K H1 a xs ∧ SqT K H1 b ys ∧ R (RZ.ItzT K a b) H1) ∨ (SqT K H1 a xs ∧ SqL K H1 b ys ∧ R (ItzM K a b) H1))
theorem pi_zip3 {X : Cx} {e e2 : Expr} {ta : TA} {p pos tp : Pos} {es : List Expr} {kk : Nat} (hg : Gl X "zip") (hm : X.mg "zip" = none) (ha : PA X [e, e2] ta)
    (hs : starEach [e, e2] X.env = (false, eval e X.env) :: starEach [e2] X.env := by rfl) (hpl : (backTo pos (starEach [e2] X.env)).any (·.1) = false := by rfl) :
    PI X (.Tuple es kk tp) (.Call (.Name "zip" p) [e, e2] [] pos) (iZip3 X.K ta) := by
  refine ⟨fun pins s σ H R I h => Call_ (ld_blt I hg hm PyProof.Rows.boot_zip (PyProof.Rows.callWith_type1 (thn (ha.run pos pins s σ H _ I h) fun us s1 ⟨vs, H1, I1, rr, q⟩ => ?_) hs hpl))⟩
  obtain ⟨a, b, xs, ys, rfl, q⟩ := q
  cases rr with
  | cons ra rr =>
    cases rr with
    | cons rb rr =>
      cases rr
      cases ra
      cases rb
      have fr : ∀ c, c ∈ [s1.heap.objs.size + 4, s1.heap.objs.size + 2, s1.heap.objs.size + 3, s1.heap.objs.size, s1.heap.objs.size + 1] → FpOk X pins H1 c := fun c hc => by
        have ge : s1.heap.objs.size ≤ c := by
          rcases (by simpa using hc : c = s1.heap.objs.size + 4 ∨ c = s1.heap.objs.size + 2 ∨ c = s1.heap.objs.size + 3 ∨ c = s1.heap.objs.size ∨ c = s1.heap.objs.size + 1) with z | z | z | z | z <;> rw [z] <;> first | exact Nat.le_add_right _ _ | exact Nat.le_refl _
        exact I1.fpOk ge (I1.hok.fresh ge)
      rcases q with ⟨qa, qb, q⟩ | ⟨qa, qb, q⟩ | ⟨qa, qb, q⟩
      · obtain ⟨is1, _, p1, _⟩ := I1.list qa
        obtain ⟨is2, _, p2, _⟩ := I1.list qb
        refine call_zip_2 p1.isList p2.isList fun g t1 t2 t3 t4 t5 _ kp => wpAny_pyIter_zip t1 ?_
        exact ⟨_, _, _, _, H1, rfl, I1.kept (t' := s1.toks) kp, turn_zip (PySem.W.ktu_apart s1.heap.objs.size a b p1.lt p2.lt), ⟨t1, t2, ⟨_, _, t3⟩, t4, t5⟩, fr, q⟩
      · obtain ⟨is1, _, p1, _⟩ := I1.tuple qa
        obtain ⟨is2, _, p2, _⟩ := I1.tuple qb
        obtain ⟨o1, ho1, _⟩ := id p1
        obtain ⟨o2, ho2, _⟩ := id p2
        refine RZ.call_zipT (show s1.heap.IsTuple a is1.toArray from p1) (show s1.heap.IsTuple b is2.toArray from p2) fun g t1 t2 t3 t4 t5 _ kp => wpAny_pyIter_zip t1 ?_
        exact ⟨_, _, _, _, H1, rfl, I1.kept (t' := s1.toks) kp, RZ.turn_zipT (PySem.W.ktu_apart s1.heap.objs.size a b (Heap.lt_size ho1) (Heap.lt_size ho2)), ⟨t1, t2, ⟨_, _, t3⟩, t4, t5⟩, fr, q⟩
      · obtain ⟨is1, _, p1, _⟩ := I1.tuple qa
        obtain ⟨is2, _, p2, _⟩ := I1.list qb
        obtain ⟨o1, ho1, _⟩ := id p1
        refine call_TL (show s1.heap.IsTuple a is1.toArray from p1) p2.isList fun g T kp => wpAny_pyIter_zip T.z ?_
        exact ⟨_, _, _, _, H1, rfl, I1.kept (t' := s1.toks) kp, turn_zipM (PySem.W.ktu_apart s1.heap.objs.size a b (Heap.lt_size ho1) p2.lt), ⟨_, _, T⟩, fr, q⟩
/-- () * k -/
theorem mul_none (l : Addr) (n : Nat) (dd : Option Addr) (sl : Array (Option Value)) (x : Int) (u : Tok) (hx : (decide (x < -(2 ^ 63)) || decide (x ≥ 2 ^ 63)) = false) :
    Meets (Builtin.«tuple.__mul__» ⟨[.ref l, .int x u], []⟩) (fun _ R s => s.heap.get? l = some { cls := .type "tuple", dict := dd, data := .seq #[] n, slots := sl } ∧ R (.ok (.ret (Value.ref l))) s) :=
  .of_wp fun prog w A R s h => by
    obtain ⟨hp, g, d, tk, os⟩ := s
    obtain ⟨hl, h⟩ := h
    have f1 := AutoSeq1.idx_int
    wp_walk using wpAny_loadPart' hl
    repeat (first
      | (refine wpAny_ite_false (decide_eq_false (by rw [hx]; exact Bool.false_ne_true)) ?_; wp_walk using wpAny_loadPart' hl)
      | (refine wpAny_ite_true rfl ?_; wp_walk using wpAny_loadPart' hl))
    exact ⟨_, rfl, h⟩
def rRep0 (K : PySem.W.Frag) : R2 := fun x y H Q => ∃ l k, x = .ref l ∧ y = .int k ∧ SqT K H l [] ∧ 2 ≤ k ∧ k ≤ 1000 ∧ Q (.ref l) H
theorem op_rep0 {X : Cx} : OpR X (binaryOp .Mult) (rRep0 X.K) := by
  intro pins s σ H x y v u Q I rx ry h
  obtain ⟨l, k, rfl, rfl, hT, h1, h2, q⟩ := h
  cases rx
  obtain ⟨t, rfl⟩ := ry
  obtain ⟨its, r, ⟨⟨cls, dd, data, sl⟩, ho, hc, n, hd⟩, hs⟩ := I.tuple hT
  simp only at hc hd
  subst hc hd
  cases r
  refine wpAny_binaryOp_repeat_ref (T := "tuple") (U := "int") (by decide) ⟨_, ho, rfl⟩ (fun s' => typeIs_int s' k t) noFill_tuple_mul F.fills_int_mul F.slot_int_rmul repeat_tuple F.slot_int_index.lookup
    (call_meets F.slot_int_rmul (typeIs_int s k t) F.entry_int_rmul (F.args_int_rmul_2 _ _) (int_rmul_tuple k t l #[] n dd sl)
      ⟨ho, rfl, ⟨_, ho, rfl⟩, call_meets F.slot_tuple_mul ⟨_, ho, rfl⟩ F.entry_tuple_mul (F.args_tuple_mul_2 _ _) (mul_none l n dd sl k t (by rw [decide_eq_false (by omega), decide_eq_false (by omega)]; rfl)) ⟨ho, ?_⟩⟩)
  exact ⟨.ref l, H, I, rfl, q⟩
/-- x is True, x is False -/
theorem op_isB {X : Cx} : OpR X (compareOp .Is) (fun x y H Q => ∃ a b, x = .bl a ∧ y = .bl b ∧ Q (.bl (a == b)) H) := by
  intro pins s σ H x y v u Q I rx ry h
  obtain ⟨a, b, rfl, rfl, q⟩ := h
  cases rx
  cases ry
  by_cases e : a = b
  · subst e
    exact wpAny_is_self rfl ⟨.bl true, H, I, rfl, by simpa using q⟩
  · exact wpAny_is_other rfl (fun z => e (Value.bool.inj z)) ⟨.bl false, H, I, rfl, by rw [show (a == b) = false from beq_eq_false_iff_ne.mpr e] at q; exact q⟩
theorem op_notB {X : Cx} : OpR X (compareOp .IsNot) (fun x y H Q => ∃ a b, x = .bl a ∧ y = .bl b ∧ Q (.bl (!(a == b))) H) := by
  intro pins s σ H x y v u Q I rx ry h
  obtain ⟨a, b, rfl, rfl, q⟩ := h
  cases rx
  cases ry
  by_cases e : a = b
  · subst e
    exact wpAny_isNot_self rfl ⟨.bl false, H, I, rfl, by simpa using q⟩
  · exact wpAny_isNot_other rfl (fun z => e (Value.bool.inj z)) ⟨.bl true, H, I, rfl, by rw [show (a == b) = false from beq_eq_false_iff_ne.mpr e] at q; exact q⟩
end Ev.ZM
set_option linter.all false
set_option maxRecDepth 100000
/-! Ev2: plain values and cells beside the tracked objects. -/
namespace Ev
open PySem PySem.Spec PyProof.Rows L2

/-- what may stand for a cell -/
def IsC : HO → Prop
  | .lst _ => True
  | .dK _ => True
  | .dT _ => True
  | _ => False
/-- the defs' addresses; the tables of code objects, with the names of what is made there -/
structure FA where
  f : Nat → Addr
  tl : List (Addr × Str)
instance : CoeFun FA (fun _ => Nat → Addr) := ⟨FA.f⟩
/-- no table -/
def NT (o : HO) : Prop := ∀ ps, o ≠ .tbl ps
/-- nothing, or a table -/
def NoO (H : Hp) (a : Addr) : Prop := ∀ o, H a = some o → ¬ NT o
theorem NoO.of {H : Hp} {a : Addr} (h : H a = none) : NoO H a := fun o e => by rw [h] at e; cases e
/-- a list of the written part -/
def KL (K : PySem.W.Frag) (a : Addr) (xs : List V) : Prop :=
  ∃ (o : Obj) (its : Array Value) (n : Nat), K.lookup a = some o ∧ o.cls = .type "list" ∧ o.dict = none ∧ o.data = .seq its n ∧ its.size ≤ sizeLine ∧ Vals xs its.toList
section
variable (K : PySem.W.Frag) (fa : FA)
mutual
/-- the plain value d is the value v, whose lists stand outside of X -/
inductive RepD (X : Addr → Prop) (H : Hp) : D → V → Prop
  | non : RepD X H .non .non
  | bl (b : Bool) : RepD X H (.bl b) (.bl b)
  | int (i : Int) : RepD X H (.int i) (.int i)
  | str (x : Str) : RepD X H (.str x) (.str x)
  | tup {a : Addr} {xs : List V} {ds : List D} : H a = some (.tup xs) → RepDs X H ds xs → RepD X H (.tup ds) (.ref a)
  | lst {a : Addr} {xs : List V} {ds : List D} : H a = some (.lst xs) → ¬ X a → RepDs X H ds xs → RepD X H (.lst ds) (.ref a)
  | scr {a : Addr} {xs : List V} {ds : List D} : (L2.Rd H a (HO.lst xs) ∧ ¬ X a) ∨ KL K a xs → RepDs X H ds xs → RepD X H (.scr ds) (.ref a)
  | fn (n : Nat) : RepD X H (.fn n) (.ref (fa n))
inductive RepDs (X : Addr → Prop) (H : Hp) : List D → List V → Prop
  | nil : RepDs X H [] []
  | cons {d : D} {ds : List D} {v : V} {vs : List V} : RepD X H d v → RepDs X H ds vs → RepDs X H (d :: ds) (v :: vs)
end
end

/-- a cell that may be written -/
def Cell.on : Cell → Bool
  | .dead => false
  | _ => true
/-- the cell's object may be written -/
def Lv (m : List Addr) (h : Hh) (a : Addr) : Prop := ∃ (n : Nat) (c : Cell), m[n]? = some a ∧ h[n]? = some c ∧ c.on = true
/-- .. or is written by whoever looks on -/
def Ex (P : List Addr) (m : List Addr) (h : Hh) (a : Addr) : Prop := Lv m h a ∨ a ∈ P
structure HExt (L L' : Addr → Prop) (H H' : Hp) : Prop where
  keep : ∀ a o, H a = some o → ¬ L a → NT o → H' a = some o
  lv : ∀ a, L' a → L a ∨ NoO H a
theorem HExt.of {L L' : Addr → Prop} {H H' : Hp} (k : ∀ a o, H a = some o → ¬ L a → H' a = some o) (l : ∀ a, L' a → L a ∨ NoO H a) : HExt L L' H H' := ⟨fun a o e n _ => k a o e n, l⟩
theorem HExt.refl (L : Addr → Prop) (H : Hp) : HExt L L H H := .of (fun _ _ e _ => e) fun _ e => .inl e
theorem HExt.back {L L1 : Addr → Prop} {H H1 : Hp} (a : HExt L L1 H H1) {b : Addr} (z : L1 b ∨ NoO H1 b) : L b ∨ NoO H b := by
  rcases z with q | q
  · exact a.lv b q
  · by_cases z : L b
    · exact .inl z
    · exact .inr fun o e t => q o (a.keep b o e z t) t
theorem HExt.trans {L L1 L2 : Addr → Prop} {H H1 H2 : Hp} (a : HExt L L1 H H1) (b : HExt L1 L2 H1 H2) : HExt L L2 H H2 := by
  refine ⟨fun c o e n t => b.keep c o (a.keep c o e n t) (fun l => ?_) t, fun c l => a.back (b.lv c l)⟩
  rcases a.lv c l with q | q
  · exact n q
  · exact q o e t
/-- a new object -/
theorem HExt.new {L : Addr → Prop} {H : Hp} {p : Addr} {o : HO} (hp : H p = none) : HExt L L H (upd H p o) :=
  .of (fun _ _ e _ => by rw [upd_ne (ne_of_none e hp)]; exact e) fun _ e => .inl e
/-- a table stays right if all but lists and dicts stay -/
theorem tabS_keep {H H' : Hp} {p : Addr} {q : Str} (t : LamX.TabS H p q) (k : ∀ a o, H a = some o → ¬ IsC o → H' a = some o) : LamX.TabS H' p q := by
  obtain ⟨ps, h1, h2, h3⟩ := t
  refine ⟨ps, k _ _ h1 fun z => z, h2, fun pos cv hc => ?_⟩
  obtain ⟨c, e1, e2⟩ := h3 pos cv hc
  exact ⟨c, e1, k _ _ e2 fun z => z⟩

section
variable {K : PySem.W.Frag} {fa : FA} {P m m' : List Addr} {h h' : Hh} {H H' : Hp}

mutual
theorem RepD.ext {X X' : Addr → Prop} {Y : Addr → Prop} (hk : ∀ a o, H a = some o → ¬ Y a → NT o → H' a = some o) (hx : ∀ a, X' a → X a ∨ NoO H a) (hY : ∀ a, Y a → X a)
    (hl : ∀ a, Y a → ∃ o, H a = some o ∧ IsC o) : ∀ {d : D} {v : V}, RepD K fa X H d v → RepD K fa X' H' d v
  | _, _, .non => .non
  | _, _, .bl b => .bl b
  | _, _, .int i => .int i
  | _, _, .str x => .str x
  | _, _, .tup (a := a) q r => .tup (hk _ _ q (fun z => by obtain ⟨o', e, i⟩ := hl _ z; rw [e] at q; cases q; exact i) (fun _ z => by cases z)) (RepDs.ext hk hx hY hl r)
  | _, _, .lst (a := a) q n r => .lst (hk _ _ q (fun z => n (hY _ z)) (fun _ z => by cases z)) (fun z => by
      rcases hx a z with e | e
      · exact n e
      · exact e _ q fun _ z => by cases z) (RepDs.ext hk hx hY hl r)
  | _, _, .scr (a := a) q r => by
    refine .scr ?_ (RepDs.ext hk hx hY hl r)
    rcases q with ⟨q, n⟩ | q
    · refine .inl ⟨?_, fun z => ?_⟩
      · rcases q with q | ⟨o, q⟩
        · exact .inl (hk _ _ q (fun z => n (hY _ z)) (fun _ z => by cases z))
        · exact .inr ⟨o, hk _ _ q (fun z => n (hY _ z)) (fun _ z => by cases z)⟩
      · rcases hx a z with e | e
        · exact n e
        · rcases q with q | ⟨o, q⟩ <;> exact e _ q fun _ z => by cases z
    · exact .inr q
  | _, _, .fn n => .fn n
theorem RepDs.ext {X X' : Addr → Prop} {Y : Addr → Prop} (hk : ∀ a o, H a = some o → ¬ Y a → NT o → H' a = some o) (hx : ∀ a, X' a → X a ∨ NoO H a) (hY : ∀ a, Y a → X a)
    (hl : ∀ a, Y a → ∃ o, H a = some o ∧ IsC o) : ∀ {ds : List D} {vs : List V}, RepDs K fa X H ds vs → RepDs K fa X' H' ds vs
  | _, _, .nil => .nil
  | _, _, .cons q r => .cons (RepD.ext hk hx hY hl q) (RepDs.ext hk hx hY hl r)
end
theorem RepDs.length : ∀ {X : Addr → Prop} {ds : List D} {vs : List V}, RepDs K fa X H ds vs → ds.length = vs.length
  | _, _, _, .nil => rfl
  | _, _, _, .cons _ r => by rw [List.length_cons, List.length_cons, RepDs.length r]
theorem RepDs.append {X : Addr → Prop} : ∀ {ds es : List D} {vs us : List V}, RepDs K fa X H ds vs → RepDs K fa X H es us → RepDs K fa X H (ds ++ es) (vs ++ us)
  | _, _, _, _, .nil, s => s
  | _, _, _, _, .cons q r, s => .cons q (RepDs.append r s)
theorem RepDs.get {X : Addr → Prop} : ∀ {ds : List D} {vs : List V} {i : Nat} {d : D}, RepDs K fa X H ds vs → ds[i]? = some d → ∃ v, vs[i]? = some v ∧ RepD K fa X H d v
  | _, _, _, _, .nil, e => by simp at e
  | _, _, 0, d, .cons q _, e => by simp at e; subst e; exact ⟨_, rfl, q⟩
  | _, _, i + 1, d, .cons _ r, e => by
    obtain ⟨v, h1, h2⟩ := RepDs.get (i := i) r (by simpa using e)
    exact ⟨v, by simpa using h1, h2⟩
theorem RepDs.set {X : Addr → Prop} {d : D} {v : V} (q : RepD K fa X H d v) : ∀ {ds : List D} {vs : List V} (i : Nat), RepDs K fa X H ds vs → RepDs K fa X H (ds.set i d) (vs.set i v)
  | _, _, _, .nil => .nil
  | _, _, 0, .cons _ r => .cons q r
  | _, _, i + 1, .cons p r => .cons p (RepDs.set q i r)
theorem RepDs.take {X : Addr → Prop} : ∀ {ds : List D} {vs : List V} (i : Nat), RepDs K fa X H ds vs → RepDs K fa X H (ds.take i) (vs.take i)
  | _, _, 0, _ => by rw [List.take_zero, List.take_zero]; exact .nil
  | _, _, i + 1, .nil => by rw [List.take_nil, List.take_nil]; exact .nil
  | _, _, i + 1, .cons q r => by rw [List.take_succ_cons, List.take_succ_cons]; exact .cons q (RepDs.take i r)
theorem RepDs.drop {X : Addr → Prop} : ∀ {ds : List D} {vs : List V} (i : Nat), RepDs K fa X H ds vs → RepDs K fa X H (ds.drop i) (vs.drop i)
  | _, _, 0, r => by rw [List.drop_zero, List.drop_zero]; exact r
  | _, _, i + 1, .nil => by rw [List.drop_nil, List.drop_nil]; exact .nil
  | _, _, i + 1, .cons q r => by rw [List.drop_succ_cons, List.drop_succ_cons]; exact RepDs.drop i r
theorem RepDs.rep {X : Addr → Prop} {ds : List D} {vs : List V} (r : RepDs K fa X H ds vs) : ∀ n : Nat, RepDs K fa X H (List.replicate n ds).flatten (List.replicate n vs).flatten
  | 0 => .nil
  | n + 1 => by rw [List.replicate_succ, List.replicate_succ, List.flatten_cons, List.flatten_cons]; exact r.append (r.rep n)
theorem RepDs.reverse {X : Addr → Prop} : ∀ {ds : List D} {vs : List V}, RepDs K fa X H ds vs → RepDs K fa X H ds.reverse vs.reverse
  | _, _, .nil => .nil
  | _, _, .cons q r => by rw [List.reverse_cons, List.reverse_cons]; exact (RepDs.reverse r).append (.cons q .nil)
theorem RepDs.dropLast {X : Addr → Prop} {ds : List D} {vs : List V} (r : RepDs K fa X H ds vs) : RepDs K fa X H ds.dropLast vs.dropLast := by
  rw [List.dropLast_eq_take, List.dropLast_eq_take, ← r.length]
  exact r.take _
theorem RepDs.eraseIdx {X : Addr → Prop} : ∀ {ds : List D} {vs : List V} (i : Nat), RepDs K fa X H ds vs → RepDs K fa X H (ds.eraseIdx i) (vs.eraseIdx i)
  | _, _, _, .nil => .nil
  | _, _, 0, .cons _ r => r
  | _, _, i + 1, .cons q r => .cons q (RepDs.eraseIdx i r)
theorem RepDs.intsAt {X : Addr → Prop} (lo : Int) : ∀ l : List Nat, RepDs K fa X H (l.map fun i => D.int (lo + (i : Nat))) (l.map fun i => V.int (lo + (i : Nat)))
  | [] => .nil
  | i :: l => .cons (.int _) (RepDs.intsAt lo l)
theorem RepDs.ints {X : Addr → Prop} : ∀ {ds : List D} {vs : List V} {ns : List Int}, RepDs K fa X H ds vs → intsD ds = some ns → vs = ns.map V.int
  | _, _, ns, .nil, e => by cases (Option.some.inj e); rfl
  | _, _, ns, .cons q r, e => by
    cases q with
    | int i =>
      simp only [intsD] at e
      obtain ⟨ms, e1, rfl⟩ := Option.map_eq_some_iff.mp e
      rw [List.map_cons, ← r.ints e1]
    | _ => cases e
theorem RepDs.bls {X : Addr → Prop} : ∀ {ds : List D} {vs : List V} {ns : List Bool}, RepDs K fa X H ds vs → blsD ds = some ns → vs = ns.map V.bl
  | _, _, ns, .nil, e => by cases (Option.some.inj e); rfl
  | _, _, ns, .cons q r, e => by
    cases q with
    | bl i =>
      simp only [blsD] at e
      obtain ⟨ms, e1, rfl⟩ := Option.map_eq_some_iff.mp e
      rw [List.map_cons, ← r.bls e1]
    | _ => cases e
theorem RepDs.strs {X : Addr → Prop} : ∀ {ds : List D} {vs : List V} {ns : List Str}, RepDs K fa X H ds vs → strsD ds = some ns → vs = ns.map V.str
  | _, _, ns, .nil, e => by cases (Option.some.inj e); rfl
  | _, _, ns, .cons q r, e => by
    cases q with
    | str i =>
      simp only [strsD] at e
      obtain ⟨ms, e1, rfl⟩ := Option.map_eq_some_iff.mp e
      rw [List.map_cons, ← r.strs e1]
    | _ => cases e
theorem RepDs.of_ints {X : Addr → Prop} : ∀ ns : List Int, RepDs K fa X H (ns.map D.int) (ns.map V.int)
  | [] => .nil
  | i :: r => .cons (.int i) (RepDs.of_ints r)

/-- a dict's items -/
inductive RepKv {κ : Type} (K : PySem.W.Frag) (fa : FA) (X : Addr → Prop) (H : Hp) : List (κ × D) → List (κ × V) → Prop
  | nil : RepKv K fa X H [] []
  | cons {k : κ} {d : D} {v : V} {ds : List (κ × D)} {vs : List (κ × V)} : RepD K fa X H d v → RepKv K fa X H ds vs → RepKv K fa X H ((k, d) :: ds) ((k, v) :: vs)
section
variable {κ : Type}
theorem RepKv.ext {X X' : Addr → Prop} {Y : Addr → Prop} (hk : ∀ a o, H a = some o → ¬ Y a → NT o → H' a = some o) (hx : ∀ a, X' a → X a ∨ NoO H a) (hY : ∀ a, Y a → X a)
    (hl : ∀ a, Y a → ∃ o, H a = some o ∧ IsC o) : ∀ {ds : List (κ × D)} {vs : List (κ × V)}, RepKv K fa X H ds vs → RepKv K fa X' H' ds vs
  | _, _, .nil => .nil
  | _, _, .cons q r => .cons (RepD.ext hk hx hY hl q) (RepKv.ext hk hx hY hl r)
theorem RepKv.length {X : Addr → Prop} : ∀ {ds : List (κ × D)} {vs : List (κ × V)}, RepKv K fa X H ds vs → ds.length = vs.length
  | _, _, .nil => rfl
  | _, _, .cons _ r => by rw [List.length_cons, List.length_cons, r.length]
variable [DecidableEq κ]
inductive RepO (K : PySem.W.Frag) (fa : FA) (X : Addr → Prop) (H : Hp) : Option D → Option V → Prop
  | none : RepO K fa X H none none
  | some {d : D} {v : V} : RepD K fa X H d v → RepO K fa X H (some d) (some v)
theorem RepKv.get {X : Addr → Prop} (k : κ) : ∀ {ds : List (κ × D)} {vs : List (κ × V)}, RepKv K fa X H ds vs → RepO K fa X H (getKv ds k) (valV vs k)
  | _, _, .nil => .none
  | _, _, .cons (k := j) (ds := ds) (vs := vs) q r => by
    unfold getKv
    by_cases e : j = k
    · rw [if_pos e, valV_pos (p := (j, _)) e]
      exact .some q
    · rw [if_neg e, valV_neg (p := (j, _)) e]
      exact r.get k
theorem RepO.isSome {X : Addr → Prop} {a : Option D} {b : Option V} (r : RepO K fa X H a b) : a.isSome = b.isSome := by cases r <;> rfl
theorem RepKv.append {X : Addr → Prop} : ∀ {ds es : List (κ × D)} {vs us : List (κ × V)}, RepKv K fa X H ds vs → RepKv K fa X H es us → RepKv K fa X H (ds ++ es) (vs ++ us)
  | _, _, _, _, .nil, s => s
  | _, _, _, _, .cons q r, s => .cons q (r.append s)
theorem RepKv.repl {X : Addr → Prop} (k : κ) {d : D} {v : V} (rd : RepD K fa X H d v) : ∀ {ds : List (κ × D)} {vs : List (κ × V)}, RepKv K fa X H ds vs → RepKv K fa X H (ds.map fun p => if p.1 = k then (p.1, d) else p) (vs.map fun p => if p.1 = k then (p.1, v) else p)
  | _, _, .nil => .nil
  | _, _, .cons (k := j) q r => by
    rw [List.map_cons, List.map_cons]
    by_cases e : j = k
    · simp only [e, if_true]
      exact .cons rd (r.repl k rd)
    · simp only [e, if_false]
      exact .cons q (r.repl k rd)
theorem RepKv.put {X : Addr → Prop} (k : κ) {d : D} {v : V} (rd : RepD K fa X H d v) {ds : List (κ × D)} {vs : List (κ × V)} (r : RepKv K fa X H ds vs) : RepKv K fa X H (putKv ds k d) (putK vs k v) := by
  have e := (r.get k).isSome
  unfold putKv putK
  rw [valV_any, ← e]
  split
  · exact r.repl k rd
  · exact r.append (.cons rd .nil)
end
/-- the thing beside a cell -/
def CellOk (K : PySem.W.Frag) (fa : FA) (X : Addr → Prop) (H : Hp) : Cell → HO → Prop
  | .lst ds, o => ∃ xs, o = .lst xs ∧ RepDs K fa X H ds xs
  | .dct ds, o => ∃ xs, o = .dK xs ∧ RepKv K fa X H ds xs
  | .dtt ds, o => ∃ xs, o = .dT xs ∧ RepKv K fa X H ds xs
  | .dead, _ => False
theorem CellOk.isC {X : Addr → Prop} {c : Cell} {o : HO} (q : CellOk K fa X H c o) : IsC o := by
  cases c with
  | lst ds => obtain ⟨xs, rfl, _⟩ := q; exact True.intro
  | dct ds => obtain ⟨xs, rfl, _⟩ := q; exact True.intro
  | dtt ds => obtain ⟨xs, rfl, _⟩ := q; exact True.intro
  | dead => exact q.elim
theorem CellOk.ext {X X' : Addr → Prop} {Y : Addr → Prop} (hk : ∀ a o, H a = some o → ¬ Y a → NT o → H' a = some o) (hx : ∀ a, X' a → X a ∨ NoO H a) (hY : ∀ a, Y a → X a)
    (hl : ∀ a, Y a → ∃ o, H a = some o ∧ IsC o) {c : Cell} {o : HO} (q : CellOk K fa X H c o) : CellOk K fa X' H' c o := by
  cases c with
  | lst ds => obtain ⟨xs, e, r⟩ := q; exact ⟨xs, e, r.ext hk hx hY hl⟩
  | dct ds => obtain ⟨xs, e, r⟩ := q; exact ⟨xs, e, r.ext hk hx hY hl⟩
  | dtt ds => obtain ⟨xs, e, r⟩ := q; exact ⟨xs, e, r.ext hk hx hY hl⟩
  | dead => exact q.elim
/-- the cells: each stands at its address, no two at one; P stand beside them -/
structure HRel (K : PySem.W.Frag) (fa : FA) (P m : List Addr) (h : Hh) (H : Hp) : Prop where
  len : m.length = h.length
  cellG : ∀ (n : Nat) (c : Cell) (a : Addr), h[n]? = some c → c.on = true → m[n]? = some a → ∃ o, H a = some o ∧ CellOk K fa (Ex P m h) H c o
  inj : ∀ (i j : Nat) (a : Addr) (c d : Cell), m[i]? = some a → m[j]? = some a → h[i]? = some c → h[j]? = some d → c.on = true → d.on = true → i = j
  ph : ∀ a ∈ P, (∃ xs, H a = some (.lst xs)) ∧ ¬ Lv m h a
  tb : ∀ p ∈ fa.tl, LamX.TabS H p.1 p.2
theorem HRel.cell (R : HRel K fa P m h H) (n : Nat) (ds : List D) (a : Addr) (e1 : h[n]? = some (.lst ds)) (e2 : m[n]? = some a) : ∃ xs, H a = some (.lst xs) ∧ RepDs K fa (Ex P m h) H ds xs := by
  obtain ⟨o, e, xs, rfl, r⟩ := R.cellG n _ a e1 rfl e2
  exact ⟨xs, e, r⟩
theorem HRel.dct (R : HRel K fa P m h H) (n : Nat) (ds : List (Key × D)) (a : Addr) (e1 : h[n]? = some (.dct ds)) (e2 : m[n]? = some a) : ∃ xs, H a = some (.dK xs) ∧ RepKv K fa (Ex P m h) H ds xs := by
  obtain ⟨o, e, xs, rfl, r⟩ := R.cellG n _ a e1 rfl e2
  exact ⟨xs, e, r⟩
def RepV (K : PySem.W.Frag) (fa : FA) (P m : List Addr) (h : Hh) (H : Hp) : Val → V → Prop
  | .d x, v => RepD K fa (Ex P m h) H x v
  | .ref n, v => ∃ a, m[n]? = some a ∧ v = .ref a
inductive RepVs (K : PySem.W.Frag) (fa : FA) (P m : List Addr) (h : Hh) (H : Hp) : List Val → List V → Prop
  | nil : RepVs K fa P m h H [] []
  | cons {x : Val} {v : V} {xs : List Val} {vs : List V} : RepV K fa P m h H x v → RepVs K fa P m h H xs vs → RepVs K fa P m h H (x :: xs) (v :: vs)
/-- the names -/
structure ERel (K : PySem.W.Frag) (fa : FA) (P m : List Addr) (h : Hh) (H : Hp) (env : Ve) (σ : L2.St) : Prop where
  len : env.length = σ.length
  at_ : ∀ (i : Nat) (v : Val), env[i]? = some (some v) → ∃ x, σ[i]? = some (some x) ∧ RepV K fa P m h H v x

theorem HRel.dtt (R : HRel K fa P m h H) (n : Nat) (ds : List (List Key × D)) (a : Addr) (e1 : h[n]? = some (.dtt ds)) (e2 : m[n]? = some a) : ∃ xs, H a = some (.dT xs) ∧ RepKv K fa (Ex P m h) H ds xs := by
  obtain ⟨o, e, xs, rfl, r⟩ := R.cellG n _ a e1 rfl e2
  exact ⟨xs, e, r⟩
theorem HRel.live (R : HRel K fa P m h H) {a : Addr} (l : Lv m h a) : ∃ o, H a = some o ∧ IsC o := by
  obtain ⟨n, c, e1, e2, e3⟩ := l
  obtain ⟨o, q, r⟩ := R.cellG n c a e2 e3 e1
  exact ⟨o, q, r.isC⟩
/-- what is carried over -/
theorem RepD.go (R : HRel K fa P m h H) (x : HExt (Lv m h) (Lv m' h') H H') {d : D} {v : V} (q : RepD K fa (Ex P m h) H d v) : RepD K fa (Ex P m' h') H' d v :=
  q.ext (Y := Lv m h) x.keep (fun a z => by
    rcases z with z | z
    · rcases x.lv a z with w | w
      · exact .inl (.inl w)
      · exact .inr w
    · exact .inl (.inr z)) (fun a z => .inl z) fun a z => R.live z
theorem RepDs.go (R : HRel K fa P m h H) (x : HExt (Lv m h) (Lv m' h') H H') {d : List D} {v : List V} (q : RepDs K fa (Ex P m h) H d v) : RepDs K fa (Ex P m' h') H' d v :=
  q.ext (Y := Lv m h) x.keep (fun a z => by
    rcases z with z | z
    · rcases x.lv a z with w | w
      · exact .inl (.inl w)
      · exact .inr w
    · exact .inl (.inr z)) (fun a z => .inl z) fun a z => R.live z
theorem CellOk.go (R : HRel K fa P m h H) (x : HExt (Lv m h) (Lv m' h') H H') {c : Cell} {o : HO} (q : CellOk K fa (Ex P m h) H c o) : CellOk K fa (Ex P m' h') H' c o :=
  q.ext (Y := Lv m h) x.keep (fun a z => by
    rcases z with z | z
    · rcases x.lv a z with w | w
      · exact .inl (.inl w)
      · exact .inr w
    · exact .inl (.inr z)) (fun a z => .inl z) fun a z => R.live z
theorem pre_at {m m' : List Addr} (p : m <+: m') {n : Nat} {a : Addr} (e : m[n]? = some a) : m'[n]? = some a := by
  obtain ⟨t, rfl⟩ := p
  rw [List.getElem?_append_left (List.getElem?_eq_some_iff.mp e).1]
  exact e
theorem RepV.go (R : HRel K fa P m h H) (p : m <+: m') (x : HExt (Lv m h) (Lv m' h') H H') : ∀ {v : Val} {u : V}, RepV K fa P m h H v u → RepV K fa P m' h' H' v u
  | .d _, _, q => RepD.go R x q
  | .ref _, _, ⟨a, e, q⟩ => ⟨a, pre_at p e, q⟩
theorem RepVs.go (R : HRel K fa P m h H) (p : m <+: m') (x : HExt (Lv m h) (Lv m' h') H H') : ∀ {v : List Val} {u : List V}, RepVs K fa P m h H v u → RepVs K fa P m' h' H' v u
  | _, _, .nil => .nil
  | _, _, .cons q r => .cons (q.go R p x) (r.go R p x)
theorem ERel.go (R : HRel K fa P m h H) (p : m <+: m') (x : HExt (Lv m h) (Lv m' h') H H') {env : Ve} {σ : L2.St} (E : ERel K fa P m h H env σ) : ERel K fa P m' h' H' env σ :=
  ⟨E.len, fun i v e => by
    obtain ⟨u, h1, h2⟩ := E.at_ i v e
    exact ⟨u, h1, h2.go R p x⟩⟩
/-- a new object beside -/
theorem HRel.new (R : HRel K fa P m h H) {p : Addr} {o : HO} (hp : H p = none) : HRel K fa P m h (upd H p o) where
  len := R.len
  cellG := fun n ds a e1 e0 e2 => by
    obtain ⟨xs, q, r⟩ := R.cellG n ds a e1 e0 e2
    exact ⟨xs, by rw [upd_ne (ne_of_none q hp)]; exact q, r.go R (HExt.new hp)⟩
  inj := R.inj
  ph := fun a ha => by
    obtain ⟨⟨xs, q⟩, n⟩ := R.ph a ha
    exact ⟨⟨xs, by rw [upd_ne (ne_of_none q hp)]; exact q⟩, n⟩
  tb := fun p hp' => tabS_keep (R.tb p hp') fun a o e _ => by rw [upd_ne (ne_of_none e hp)]; exact e
theorem HRel.exn (R : HRel K fa P m h H) {p : Addr} (hp : H p = none) : ¬ Ex P m h p := fun z => by
  rcases z with z | z
  · obtain ⟨xs, e, _⟩ := R.live z; rw [hp] at e; cases e
  · obtain ⟨⟨xs, e⟩, _⟩ := R.ph p z; rw [hp] at e; cases e
theorem lv_app {m : List Addr} {h : Hh} (hl : m.length = h.length) {p a : Addr} {c : Cell} : Lv (m ++ [p]) (h ++ [c]) a ↔ Lv m h a ∨ (a = p ∧ c.on = true) := by
  constructor
  · rintro ⟨n, ds, e1, e2, e3⟩
    by_cases hn : n < m.length
    · rw [List.getElem?_append_left hn] at e1
      rw [List.getElem?_append_left (by omega)] at e2
      exact .inl ⟨n, ds, e1, e2, e3⟩
    · have hn' : n = m.length := by
        have := (List.getElem?_eq_some_iff.mp e1).1
        rw [List.length_append, List.length_singleton] at this
        omega
      subst hn'
      rw [List.getElem?_append_right (Nat.le_refl _)] at e1
      rw [List.getElem?_append_right (by omega)] at e2
      simp [hl] at e1 e2
      exact .inr ⟨e1.symm, by rw [e2]; exact e3⟩
  · rintro (⟨n, ds, e1, e2, e3⟩ | ⟨rfl, e⟩)
    · exact ⟨n, ds, by rw [List.getElem?_append_left (List.getElem?_eq_some_iff.mp e1).1]; exact e1, by rw [List.getElem?_append_left (List.getElem?_eq_some_iff.mp e2).1]; exact e2, e3⟩
    · exact ⟨m.length, c, by simp, by rw [hl]; simp, e⟩
/-- a new thing becomes a cell -/
theorem HRel.cellNewG (R : HRel K fa P m h H) {p : Addr} {c : Cell} {o : HO} (hp : H p = none) (r : CellOk K fa (Ex P m h) H c o) :
    HRel K fa P (m ++ [p]) (h ++ [c]) (upd H p o) ∧ HExt (Lv m h) (Lv (m ++ [p]) (h ++ [c])) H (upd H p o) := by
  have X : HExt (Lv m h) (Lv (m ++ [p]) (h ++ [c])) H (upd H p o) := .of (fun _ _ e _ => by rw [upd_ne (ne_of_none e hp)]; exact e) (fun a z => by
    rcases (lv_app R.len).mp z with z | ⟨rfl, _⟩
    · exact .inl z
    · exact .inr (.of hp))
  have old : ∀ {n : Nat} {a : Addr} {e : Cell}, m[n]? = some a → h[n]? = some e → e.on = true → a ≠ p := fun {n a e} e1 e2 e3 => by
    obtain ⟨ys, q, _⟩ := R.cellG n e a e2 e3 e1
    exact ne_of_none q hp
  have split : ∀ {n : Nat} {a : Addr} {e : Cell}, (m ++ [p])[n]? = some a → (h ++ [c])[n]? = some e → (n < m.length ∧ m[n]? = some a ∧ h[n]? = some e) ∨ (n = m.length ∧ a = p ∧ e = c) := fun {n a e} e1 e2 => by
    by_cases hn : n < m.length
    · rw [List.getElem?_append_left hn] at e1
      rw [List.getElem?_append_left (by rw [← R.len]; exact hn)] at e2
      exact .inl ⟨hn, e1, e2⟩
    · have hn' : n = m.length := by
        have := (List.getElem?_eq_some_iff.mp e1).1
        rw [List.length_append, List.length_singleton] at this
        omega
      subst hn'
      rw [List.getElem?_append_right (Nat.le_refl _)] at e1
      rw [List.getElem?_append_right (by rw [R.len]; exact Nat.le_refl _)] at e2
      simp [R.len] at e1 e2
      exact .inr ⟨rfl, e1.symm, e2.symm⟩
  refine ⟨⟨by simp [R.len], fun n e a e1 e0 e2 => ?_, fun i j a e f e1 e2 e3 e4 e5 e6 => ?_, fun a ha => ?_, fun q hq => tabS_keep (R.tb q hq) fun a o e _ => by rw [upd_ne (ne_of_none e hp)]; exact e⟩, X⟩
  · rcases split e2 e1 with ⟨_, e2, e1⟩ | ⟨_, rfl, rfl⟩
    · obtain ⟨ys, q, s⟩ := R.cellG n e a e1 e0 e2
      exact ⟨ys, by rw [upd_ne (ne_of_none q hp)]; exact q, s.go R X⟩
    · exact ⟨o, upd_same, r.go R X⟩
  · rcases split e1 e3 with ⟨_, g1, g3⟩ | ⟨q1, q3, _⟩
    · rcases split e2 e4 with ⟨_, g2, g4⟩ | ⟨q2, q4, _⟩
      · exact R.inj i j a e f g1 g2 g3 g4 e5 e6
      · exact absurd q4 (old g1 g3 e5)
    · rcases split e2 e4 with ⟨_, g2, g4⟩ | ⟨q2, q4, _⟩
      · exact absurd q3 (old g2 g4 e6)
      · rw [q1, q2]
  · obtain ⟨⟨ys, q⟩, n⟩ := R.ph a ha
    refine ⟨⟨ys, by rw [upd_ne (ne_of_none q hp)]; exact q⟩, fun z => ?_⟩
    rcases (lv_app R.len).mp z with z | ⟨rfl, _⟩
    · exact n z
    · rw [hp] at q; cases q
/-- a new list becomes a cell -/
theorem HRel.cellNew (R : HRel K fa P m h H) {p : Addr} {ds : List D} {xs : List V} (hp : H p = none) (r : RepDs K fa (Ex P m h) H ds xs) :
    HRel K fa P (m ++ [p]) (h ++ [.lst ds]) (upd H p (.lst xs)) ∧ HExt (Lv m h) (Lv (m ++ [p]) (h ++ [.lst ds])) H (upd H p (.lst xs)) :=
  R.cellNewG hp (show CellOk K fa (Ex P m h) H (.lst ds) (.lst xs) from ⟨xs, rfl, r⟩)
theorem lv_setG {m : List Addr} {h : Hh} {n : Nat} {c d : Cell} (hn : h[n]? = some d) (hd : d.on = true) (hc : c.on = true) {a : Addr} : Lv m (h.set n c) a ↔ Lv m h a := by
  have hlt := (List.getElem?_eq_some_iff.mp hn).1
  constructor
  · rintro ⟨k, fs, e1, e2, e3⟩
    by_cases hk : n = k
    · subst hk; exact ⟨n, d, e1, hn, hd⟩
    · rw [List.getElem?_set_ne hk] at e2; exact ⟨k, fs, e1, e2, e3⟩
  · rintro ⟨k, fs, e1, e2, e3⟩
    by_cases hk : n = k
    · subst hk; exact ⟨n, c, e1, by rw [List.getElem?_set_self hlt], hc⟩
    · exact ⟨k, fs, e1, by rw [List.getElem?_set_ne hk]; exact e2, e3⟩
/-- a cell is written -/
theorem HRel.putG (R : HRel K fa P m h H) {n : Nat} {a : Addr} {c d : Cell} {o : HO} (hn : h[n]? = some d) (hd : d.on = true) (ha : m[n]? = some a) (hc : c.on = true) (r : CellOk K fa (Ex P m h) H c o) :
    HRel K fa P m (h.set n c) (upd H a o) ∧ HExt (Lv m h) (Lv m (h.set n c)) H (upd H a o) := by
  have hL : Lv m h a := ⟨n, d, ha, hn, hd⟩
  have X : HExt (Lv m h) (Lv m (h.set n c)) H (upd H a o) := .of (fun b u e z => by rw [upd_ne (fun q => z (by rw [q]; exact hL))]; exact e) (fun b z => .inl ((lv_setG hn hd hc).mp z))
  have hlt := (List.getElem?_eq_some_iff.mp hn).1
  refine ⟨⟨by simp [R.len], fun k fs b e1 e0 e2 => ?_, fun i j b fs gs e1 e2 e3 e4 e5 e6 => ?_, fun b hb => ?_, fun q hq => tabS_keep (R.tb q hq) fun b u e nc => by
    rw [upd_ne fun z => nc (by
      obtain ⟨w, e2, e3⟩ := R.live hL
      rw [z, e2] at e; cases e; exact e3)]
    exact e⟩, X⟩
  · by_cases hk : n = k
    · subst hk
      rw [List.getElem?_set_self hlt] at e1
      cases e1
      rw [ha] at e2; cases e2
      exact ⟨o, upd_same, r.go R X⟩
    · rw [List.getElem?_set_ne hk] at e1
      obtain ⟨zs, q, s⟩ := R.cellG k fs b e1 e0 e2
      have : b ≠ a := fun z => by subst z; exact hk (R.inj n k b d fs ha e2 hn e1 hd e0)
      exact ⟨zs, by rw [upd_ne this]; exact q, s.go R X⟩
  · have t : ∀ {i : Nat} {fs : Cell}, (h.set n c)[i]? = some fs → fs.on = true → ∃ gs, h[i]? = some gs ∧ gs.on = true := fun {i fs} e e' => by
      by_cases hk : n = i
      · subst hk; exact ⟨d, hn, hd⟩
      · rw [List.getElem?_set_ne hk] at e; exact ⟨fs, e, e'⟩
    obtain ⟨f1, q1, p1⟩ := t e3 e5
    obtain ⟨f2, q2, p2⟩ := t e4 e6
    exact R.inj i j b f1 f2 e1 e2 q1 q2 p1 p2
  · obtain ⟨⟨zs, q⟩, w⟩ := R.ph b hb
    have : b ≠ a := fun z => by subst z; exact w hL
    exact ⟨⟨zs, by rw [upd_ne this]; exact q⟩, fun z => w ((lv_setG hn hd hc).mp z)⟩
theorem HRel.put (R : HRel K fa P m h H) {n : Nat} {a : Addr} {ds es : List D} {ys : List V} (hn : h[n]? = some (.lst ds)) (ha : m[n]? = some a) (r : RepDs K fa (Ex P m h) H es ys) :
    HRel K fa P m (h.set n (.lst es)) (upd H a (.lst ys)) ∧ HExt (Lv m h) (Lv m (h.set n (.lst es))) H (upd H a (.lst ys)) :=
  R.putG hn rfl ha rfl (show CellOk K fa (Ex P m h) H (.lst es) (.lst ys) from ⟨ys, rfl, r⟩)
theorem set_dead {h : Hh} {n i : Nat} {c : Cell} (e : (h.set n Cell.dead)[i]? = some c) (e' : c.on = true) : h[i]? = some c := by
  by_cases hk : n = i
  · subst hk
    by_cases hlt : n < h.length
    · rw [List.getElem?_set_self hlt] at e; cases e; cases e'
    · rw [List.getElem?_eq_none (by simpa using hlt)] at e; cases e
  · rw [List.getElem?_set_ne hk] at e; exact e
theorem lv_dead {m : List Addr} {h : Hh} {n : Nat} {a : Addr} (l : Lv m (h.set n .dead) a) : Lv m h a := by
  obtain ⟨k, fs, e1, e2, e3⟩ := l
  exact ⟨k, fs, e1, set_dead e2 e3, e3⟩
/-- a cell is no cell any more: its list stays as it is -/
theorem HRel.kill (R : HRel K fa P m h H) (n : Nat) : HRel K fa P m (h.set n .dead) H ∧ HExt (Lv m h) (Lv m (h.set n .dead)) H H := by
  have X : HExt (Lv m h) (Lv m (h.set n .dead)) H H := .of (fun _ _ e _ => e) fun a z => .inl (lv_dead z)
  refine ⟨⟨by simp [R.len], fun k fs b e1 e0 e2 => ?_, fun i j b fs gs e1 e2 e3 e4 e5 e6 => R.inj i j b fs gs e1 e2 (set_dead e3 e5) (set_dead e4 e6) e5 e6, fun b hb => ?_, R.tb⟩, X⟩
  · obtain ⟨zs, q, s⟩ := R.cellG k fs b (set_dead e1 e0) e0 e2
    exact ⟨zs, q, s.go R X⟩
  · obtain ⟨q, w⟩ := R.ph b hb
    exact ⟨q, fun z => w (lv_dead z)⟩
/-- .. and is a plain list from then on -/
theorem HRel.frz (R : HRel K fa P m h H) {n : Nat} {a : Addr} {ds : List D} (hn : h[n]? = some (.lst ds)) (ha : m[n]? = some a) : RepD K fa (Ex P m (h.set n .dead)) H (.lst ds) (.ref a) := by
  obtain ⟨xs, q, s⟩ := R.cell n ds a hn ha
  refine .lst q (fun z => ?_) (s.go R (R.kill n).2)
  rcases z with ⟨k, fs, e1, e2, e3⟩ | z
  · by_cases hk : n = k
    · subst hk
      rw [List.getElem?_set_self (List.getElem?_eq_some_iff.mp hn).1] at e2; cases e2; cases e3
    · rw [List.getElem?_set_ne hk] at e2
      exact hk (R.inj n k a _ fs ha e1 hn e2 rfl e3)
  · exact (R.ph a z).2 ⟨n, _, ha, hn, rfl⟩
/-- the cells of a call are forgotten -/
theorem HRel.drop (R : HRel K fa P m h H) (k : Nat) : HRel K fa P (m.take k) (h.take k) H ∧ HExt (Lv m h) (Lv (m.take k) (h.take k)) H H := by
  have t : ∀ {i : Nat} {c : Cell}, (h.take k)[i]? = some c → h[i]? = some c := fun {i c} e => by
    rw [List.getElem?_take] at e; split at e <;> first | exact e | cases e
  have u : ∀ {i : Nat} {c : Addr}, (m.take k)[i]? = some c → m[i]? = some c := fun {i c} e => by
    rw [List.getElem?_take] at e; split at e <;> first | exact e | cases e
  have X : HExt (Lv m h) (Lv (m.take k) (h.take k)) H H := .of (fun _ _ e _ => e) fun a ⟨n, ds, e1, e2, e3⟩ => .inl ⟨n, ds, u e1, t e2, e3⟩
  refine ⟨⟨by simp [R.len], fun k fs b e1 e0 e2 => ?_, fun i j b fs gs e1 e2 e3 e4 e5 e6 => R.inj i j b fs gs (u e1) (u e2) (t e3) (t e4) e5 e6, fun b hb => ?_, R.tb⟩, X⟩
  · obtain ⟨zs, q, s⟩ := R.cellG k fs b (t e1) e0 (u e2)
    exact ⟨zs, q, s.go R X⟩
  · obtain ⟨q, w⟩ := R.ph b hb
    exact ⟨q, fun ⟨n, ds, e1, e2, e3⟩ => w ⟨n, ds, u e1, t e2, e3⟩⟩
/-- from H to H' all but tables stay, and these stay right -/
structure Kept (fa : FA) (H H' : Hp) : Prop where
  keep : ∀ b o, H b = some o → NT o → H' b = some o
  tb : ∀ p ∈ fa.tl, LamX.TabS H' p.1 p.2
theorem IsC.nt {o : HO} (i : IsC o) : NT o := fun ps e => by subst e; exact i
theorem HRel.kept (R : HRel K fa P m h H) (k : Kept fa H H') : HRel K fa P m h H' ∧ HExt (Lv m h) (Lv m h) H H' := by
  have X : HExt (Lv m h) (Lv m h) H H' := ⟨fun a o e _ t => k.keep a o e t, fun a z => .inl z⟩
  refine ⟨⟨R.len, fun n c a e1 e0 e2 => ?_, R.inj, fun a ha => ?_, k.tb⟩, X⟩
  · obtain ⟨o, q, s⟩ := R.cellG n c a e1 e0 e2
    exact ⟨o, k.keep a o q s.isC.nt, s.go R X⟩
  · obtain ⟨⟨xs, q⟩, n⟩ := R.ph a ha
    exact ⟨⟨xs, k.keep a _ q fun _ z => by cases z⟩, n⟩
end
end Ev
set_option linter.all false
set_option maxRecDepth 100000
set_option maxHeartbeats 1000000
/-! Ev3: operations on plain values beside the operations on tracked objects. -/
namespace Ev
open PySem PySem.Spec PyProof.Rows L2

/-- what is read -/
inductive Vw (K : PySem.W.Frag) (fa : FA) (X : Addr → Prop) (H : Hp) : D → V → Prop
  | of {d : D} {v : V} : RepD K fa X H d v → Vw K fa X H d v
  | lst {a : Addr} {xs : List V} {ds : List D} : H a = some (.lst xs) → RepDs K fa X H ds xs → Vw K fa X H (.lst ds) (.ref a)
inductive Vws (K : PySem.W.Frag) (fa : FA) (X : Addr → Prop) (H : Hp) : List D → List V → Prop
  | nil : Vws K fa X H [] []
  | cons {d : D} {v : V} {ds : List D} {vs : List V} : Vw K fa X H d v → Vws K fa X H ds vs → Vws K fa X H (d :: ds) (v :: vs)
section
variable {K : PySem.W.Frag} {fa : FA} {X : Addr → Prop} {P m : List Addr} {h : Hh} {H : Hp} {x : V}
theorem Vw.int {i : Int} (q : Vw K fa X H (.int i) x) : x = .int i := by
  cases q with
  | of q => cases q; rfl
theorem Vw.bl {i : Bool} (q : Vw K fa X H (.bl i) x) : x = .bl i := by
  cases q with
  | of q => cases q; rfl
theorem Vw.str {i : Str} (q : Vw K fa X H (.str i) x) : x = .str i := by
  cases q with
  | of q => cases q; rfl
theorem Vw.non (q : Vw K fa X H .non x) : x = .non := by
  cases q with
  | of q => cases q; rfl
theorem Vw.tup {ds : List D} (q : Vw K fa X H (.tup ds) x) : ∃ a xs, x = .ref a ∧ SqT K H a xs ∧ RepDs K fa X H ds xs := by
  cases q with
  | of q => cases q with
    | tup s r => exact ⟨_, _, rfl, SqT.of s, r⟩
theorem Vw.tupS {ds : List D} (q : Vw K fa X H (.tup ds) x) : ∃ a xs, x = .ref a ∧ H a = some (.tup xs) ∧ RepDs K fa X H ds xs := by
  cases q with
  | of q => cases q with
    | tup s r => exact ⟨_, _, rfl, s, r⟩
theorem Vw.list {ds : List D} (q : Vw K fa X H (.lst ds) x) : ∃ a xs, x = .ref a ∧ H a = some (.lst xs) ∧ RepDs K fa X H ds xs := by
  cases q with
  | of q => cases q with
    | lst s _ r => exact ⟨_, _, rfl, s, r⟩
  | lst s r => exact ⟨_, _, rfl, s, r⟩
theorem KL.sq {a : Addr} {xs : List V} (q : KL K a xs) : SqL K H a xs := .inr q
theorem Vw.scr {ds : List D} (q : Vw K fa X H (.scr ds) x) : ∃ a xs, x = .ref a ∧ SqL K H a xs ∧ RepDs K fa X H ds xs := by
  cases q with
  | of q => cases q with
    | scr s r => exact ⟨_, _, rfl, s.elim (fun z => .inl z.1) KL.sq, r⟩
theorem view_ok (R : HRel K fa P m h H) {v : Val} {p : D} (e : view h v = some p) (q : RepV K fa P m h H v x) : Vw K fa (Ex P m h) H p x := by
  cases v with
  | d y => cases (Option.some.inj e); exact .of q
  | ref n =>
    obtain ⟨a, e1, rfl⟩ := q
    simp only [view] at e
    cases e2 : h[n]? with
    | none => rw [e2] at e; cases e
    | some c =>
      cases c with
      | dead => rw [e2] at e; cases e
      | dct ds => rw [e2] at e; cases e
      | dtt ds => rw [e2] at e; cases e
      | lst ds =>
        rw [e2] at e
        cases (Option.some.inj e)
        obtain ⟨xs, s, r⟩ := R.cell n ds a e2 e1
        exact .lst s r
theorem views_ok (R : HRel K fa P m h H) : ∀ {vs : List Val} {ps : List D} {xs : List V}, views h vs = some ps → RepVs K fa P m h H vs xs → Vws K fa (Ex P m h) H ps xs
  | _, _, _, e, .nil => by cases (Option.some.inj e); exact .nil
  | v :: vs, ps, _, e, .cons q r => by
    unfold views at e
    cases e1 : view h v with
    | none => rw [e1] at e; cases e
    | some d =>
      cases e2 : views h vs with
      | none => rw [e1, e2] at e; cases e
      | some ds =>
        rw [e1, e2] at e
        cases (Option.some.inj e)
        exact .cons (view_ok R e1 q) (views_ok R e2 r)
theorem asD_ok {v : Val} {p : D} (e : asD v = some p) (q : RepV K fa P m h H v x) : RepD K fa (Ex P m h) H p x := by
  cases v with
  | d y => cases (Option.some.inj e); exact q
  | ref n => cases e
theorem asDs_ok : ∀ {vs : List Val} {ps : List D} {xs : List V}, asDs vs = some ps → RepVs K fa P m h H vs xs → RepDs K fa (Ex P m h) H ps xs
  | _, _, _, e, .nil => by cases (Option.some.inj e); exact .nil
  | v :: vs, ps, _, e, .cons q r => by
    unfold asDs at e
    cases e1 : asD v with
    | none => rw [e1] at e; cases e
    | some d =>
      cases e2 : asDs vs with
      | none => rw [e1, e2] at e; cases e
      | some ds =>
        rw [e1, e2] at e
        cases (Option.some.inj e)
        exact .cons (asD_ok e1 q) (asDs_ok e2 r)
theorem RepVs.of_ds : ∀ {ds : List D} {vs : List V}, RepDs K fa (Ex P m h) H ds vs → RepVs K fa P m h H (ds.map .d) vs
  | _, _, .nil => .nil
  | _, _, .cons q r => .cons q (RepVs.of_ds r)
end

/-! ### what an expression's value is to be -/
def PW (K : PySem.W.Frag) (fa : FA) (P m : List Addr) (h : Hh) (H : Hp) (w : W) (x : V) : Prop := match w with
  | .v v => HRel K fa P m h H ∧ RepV K fa P m h H v x
  | .fresh ds => ∃ (H1 : Hp) (p : Addr) (xs : List V), HRel K fa P m h H1 ∧ H1 p = none ∧ RepDs K fa (Ex P m h) H1 ds xs ∧ x = .ref p ∧ H = upd H1 p (.lst xs)
section
variable {K : PySem.W.Frag} {fa : FA} {P m : List Addr} {h : Hh} {H : Hp} {x : V} {w : W}
theorem PW.rel (q : PW K fa P m h H w x) : HRel K fa P m h H := by
  cases w with
  | v v => exact q.1
  | fresh ds =>
    obtain ⟨H1, p, xs, R, hp, r, rfl, rfl⟩ := q
    exact R.new hp
theorem PW.val (q : PW K fa P m h H w x) : RepV K fa P m h H w.val x := by
  cases w with
  | v v => exact q.2
  | fresh ds =>
    obtain ⟨H1, p, xs, R, hp, r, rfl, rfl⟩ := q
    exact .lst upd_same (R.exn hp) (r.go R (HExt.new hp))
/-- a value that stands where it is -/
theorem PW.of_d (R : HRel K fa P m h H) {d : D} (q : RepD K fa (Ex P m h) H d x) : PW K fa P m h H (.v (.d d)) x := ⟨R, q⟩
theorem PW.tup (R : HRel K fa P m h H) {p : Addr} {ds : List D} {xs : List V} (hp : H p = none) (r : RepDs K fa (Ex P m h) H ds xs) : PW K fa P m h (upd H p (.tup xs)) (.v (.d (.tup ds))) (.ref p) :=
  ⟨R.new hp, .tup upd_same (r.go R (HExt.new hp))⟩
theorem PW.lst (R : HRel K fa P m h H) {p : Addr} {ds : List D} {xs : List V} (hp : H p = none) (r : RepDs K fa (Ex P m h) H ds xs) : PW K fa P m h (upd H p (.lst xs)) (.fresh ds) (.ref p) :=
  ⟨H, p, xs, R, hp, r, rfl, rfl⟩
end

/-- what is new at an end -/
class Nw (α ξ : Type) where
  nw : α → ξ → Addr → Prop
instance nwAny (α ξ : Type) : Nw α ξ := ⟨fun _ _ _ => False⟩
instance nwW : Nw W V := ⟨fun w z b => (∃ ds, w = .fresh ds) ∧ z = .ref b⟩
structure XExt {α ξ : Type} [Nw α ξ] (L L' : Addr → Prop) (H H' : Hp) (a : α) (x : ξ) : Prop where
  ext : HExt L L' H H'
  nw : ∀ b, Nw.nw a x b → L b ∨ NoO H b
theorem XExt.before {α ξ : Type} [Nw α ξ] {L L1 L2 : Addr → Prop} {H H1 H2 : Hp} {a : α} {x : ξ} (e : HExt L L1 H H1) (z : XExt L1 L2 H1 H2 a x) : XExt L L2 H H2 a x :=
  ⟨e.trans z.ext, fun b q => e.back (z.nw b q)⟩
theorem XExt.refl (L : Addr → Prop) (H : Hp) {v : Val} {x : V} : XExt L L H H (W.v v) x := ⟨HExt.refl _ _, fun b z => by obtain ⟨⟨_, e⟩, _⟩ := z; cases e⟩
theorem XExt.newT {L : Addr → Prop} {H : Hp} {p : Addr} {o : HO} (hp : H p = none) {v : Val} {x : V} : XExt L L H (upd H p o) (W.v v) x := ⟨HExt.new hp, fun b z => by obtain ⟨⟨_, e⟩, _⟩ := z; cases e⟩
theorem XExt.newL {L : Addr → Prop} {H : Hp} {p : Addr} {o : HO} (hp : H p = none) {w : W} : XExt L L H (upd H p o) w (V.ref p) := ⟨HExt.new hp, fun b z => by obtain ⟨_, e⟩ := z; cases e; exact .inr (.of hp)⟩
theorem XExt.val {L L' : Addr → Prop} {H H' : Hp} {v : Val} {x : V} (e : HExt L L' H H') : XExt L L' H H' (W.v v) x := ⟨e, fun b z => by obtain ⟨⟨_, e⟩, _⟩ := z; cases e⟩

/-- an operation on values, by plain values: f tells what comes -/
def rBin (K : PySem.W.Frag) (fa : FA) (f : D → D → Option W) : R2 := fun x y H Q => ∃ (P m : List Addr) (h : Hh) (p q : D) (w : W), HRel K fa P m h H ∧ Vw K fa (Ex P m h) H p x ∧ Vw K fa (Ex P m h) H q y ∧ f p q = some w ∧
  ∀ z H', XExt (Lv m h) (Lv m h) H H' w z → PW K fa P m h H' w z → Q z H'
theorem or_R2 {X : Cx} {f : Value → Value → Sem Value} {r r' : R2} (a : OpR X f r) (b : OpR X f r') : OpR X f (fun x y H Q => r x y H Q ∨ r' x y H Q) := fun pins s σ H x y v u Q I rx ry h => h.elim (a pins s σ H x y v u Q I rx ry) (b pins s σ H x y v u Q I rx ry)
theorem imp_R2 {X : Cx} {f : Value → Value → Sem Value} {r r' : R2} (a : OpR X f r) (h : ∀ x y H Q, r' x y H Q → r x y H Q) : OpR X f r' := fun pins s σ H x y v u Q I rx ry q => a pins s σ H x y v u Q I rx ry (h _ _ _ _ q)

def opB : Op → Operator
  | .add => .Add
  | .sub => .Sub
  | .mul => .Mult
  | .fdiv => .FloorDiv
  | .mod => .Mod
  | .pow => .Pow
  | .shl => .LShift
  | .shr => .RShift
section
variable {X : Cx} {fa : FA}
theorem mulOk_c {i j : Int} (h : mulOk i j = true) : CMul i j ∨ CMulW i j := by
  unfold mulOk at h
  simp only [Bool.or_eq_true, decide_eq_true_eq] at h
  rcases h with (h | h) | h
  · exact .inl (.inl (by omega))
  · exact .inl (.inr (by omega))
  · exact .inr h
theorem op_bin (o : Op) : OpR X (binaryOp (opB o)) (rBin X.K fa (binD o)) := by
  have int1 : ∀ {P m : List Addr} {h : Hh} {H : Hp} {Q : VK} {k : Int}, HRel X.K fa P m h H → (∀ z H', XExt (Lv m h) (Lv m h) H H' (W.v (.d (.int k))) z → PW X.K fa P m h H' (.v (.d (.int k))) z → Q z H') → Q (.int k) H :=
    fun R q => q _ _ (XExt.refl _ _) (PW.of_d R (.int _))
  cases o with
  | add =>
    refine imp_R2 (or_R2 op_add (or_R2 op_add_str (or_R2 op_catA op_cat))) fun x y H Q => ?_
    rintro ⟨P, m, h, p, q, w, R, vp, vq, e, k⟩
    cases p <;> cases q <;> simp only [binD, reduceCtorEq] at e
    case int.int i j =>
      cases (Option.some.inj e)
      cases vp.int; cases vq.int
      exact .inl ⟨_, _, rfl, rfl, int1 R k⟩
    case str.str a b =>
      split at e
      · cases (Option.some.inj e)
        cases vp.str; cases vq.str
        exact .inr (.inl ⟨_, _, rfl, rfl, by rw [← lim_eq]; assumption, k _ _ (XExt.refl _ _) (PW.of_d R (.str _))⟩)
      · cases e
    case tup.tup a b =>
      split at e
      · rename_i hl
        cases (Option.some.inj e)
        obtain ⟨l1, xs, rfl, s1, r1⟩ := vp.tupS
        obtain ⟨l2, ys, rfl, s2, r2⟩ := vq.tupS
        refine .inr (.inr (.inl ⟨l1, l2, xs, ys, rfl, rfl, SqT.of s1, SqT.of s2, by rw [← r1.length, ← r2.length, ← lim_eq]; exact hl, fun z => ?_, fun _ z => ?_, fun _ _ l hl => ?_⟩))
        · subst z
          cases r1
          exact k _ _ (XExt.refl _ _) (PW.of_d R (.tup s2 r2))
        · subst z
          cases r2
          refine k _ _ (XExt.refl _ _) (PW.of_d R (.tup s1 ?_))
          rw [List.append_nil]; exact r1
        · exact k _ _ (XExt.newT hl) (PW.tup R hl (r1.append r2))
      · cases e
    case lst.lst a b =>
      split at e
      · rename_i hl
        cases (Option.some.inj e)
        obtain ⟨l1, xs, rfl, s1, r1⟩ := vp.list
        obtain ⟨l2, ys, rfl, s2, r2⟩ := vq.list
        refine .inr (.inr (.inr ⟨l1, l2, xs, ys, rfl, rfl, s1, s2, by rw [← r1.length, ← r2.length, ← lim_eq]; exact hl, fun l hl => ?_⟩))
        exact k _ _ (XExt.newL hl) (PW.lst R hl (r1.append r2))
      · cases e
  | sub =>
    refine imp_R2 op_sub fun x y H Q => ?_
    rintro ⟨P, m, h, p, q, w, R, vp, vq, e, k⟩
    cases p <;> cases q <;> simp only [binD, reduceCtorEq] at e
    cases (Option.some.inj e)
    cases vp.int; cases vq.int
    exact ⟨_, _, rfl, rfl, int1 R k⟩
  | mul =>
    refine imp_R2 (or_R2 op_mul (or_R2 op_mulW (or_R2 op_rep (or_R2 op_repT ZM.op_rep0)))) fun x y H Q => ?_
    rintro ⟨P, m, h, p, q, w, R, vp, vq, e, k⟩
    cases p <;> cases q <;> simp only [binD, reduceCtorEq] at e
    case int.int i j =>
      split at e
      · rename_i hc
        cases (Option.some.inj e)
        cases vp.int; cases vq.int
        rcases mulOk_c hc with c | c
        · exact .inl ⟨_, _, rfl, rfl, c, int1 R k⟩
        · exact .inr (.inl ⟨_, _, rfl, rfl, c, int1 R k⟩)
      · cases e
    case lst.int a j =>
      split at e
      · rename_i hc
        cases (Option.some.inj e)
        obtain ⟨l1, xs, rfl, s1, r1⟩ := vp.list
        cases vq.int
        unfold repOk at hc
        simp only [Bool.and_eq_true, decide_eq_true_eq] at hc
        refine .inr (.inr (.inl ⟨l1, j, xs, rfl, rfl, s1, hc.1.1, hc.1.2, by rw [← r1.length, ← lim_eq]; exact hc.2, fun l hl => ?_⟩))
        exact k _ _ (XExt.newL hl) (PW.lst R hl (r1.rep _))
      · cases e
    case tup.int a j =>
      split at e
      · rename_i hc
        cases (Option.some.inj e)
        obtain ⟨l1, xs, rfl, s1, r1⟩ := vp.tupS
        cases vq.int
        simp only [decide_eq_true_eq] at hc
        cases xs with
        | nil =>
          cases r1
          refine .inr (.inr (.inr (.inr ⟨l1, j, rfl, rfl, SqT.of s1, hc.1, hc.2.1, k _ _ (XExt.refl _ _) (PW.of_d R ?_)⟩)))
          rw [show (List.replicate j.toNat ([] : List D)).flatten = [] by simp]
          exact .tup s1 .nil
        | cons x xs =>
          refine .inr (.inr (.inr (.inl ⟨l1, j, _, rfl, rfl, SqT.of s1, List.cons_ne_nil _ _, hc.1, hc.2.1, by rw [← r1.length]; exact hc.2.2, fun l hl => ?_⟩)))
          exact k _ _ (XExt.newT hl) (PW.tup R hl (r1.rep _))
      · cases e
  | fdiv =>
    refine imp_R2 op_fdivW fun x y H Q => ?_
    rintro ⟨P, m, h, p, q, w, R, vp, vq, e, k⟩
    cases p <;> cases q <;> simp only [binD, reduceCtorEq] at e
    split at e
    · rename_i hc
      cases (Option.some.inj e)
      cases vp.int; cases vq.int
      unfold divOk at hc
      simp only [Bool.and_eq_true, decide_eq_true_eq] at hc
      exact ⟨_, _, rfl, rfl, hc, int1 R k⟩
    · cases e
  | mod =>
    refine imp_R2 op_mod fun x y H Q => ?_
    rintro ⟨P, m, h, p, q, w, R, vp, vq, e, k⟩
    cases p <;> cases q <;> simp only [binD, reduceCtorEq] at e
    split at e
    · rename_i hc
      cases (Option.some.inj e)
      cases vp.int; cases vq.int
      exact ⟨_, _, rfl, rfl, of_decide_eq_true hc, int1 R k⟩
    · cases e
  | pow =>
    refine imp_R2 op_pow fun x y H Q => ?_
    rintro ⟨P, m, h, p, q, w, R, vp, vq, e, k⟩
    cases p <;> cases q <;> simp only [binD, reduceCtorEq] at e
    split at e
    · rename_i hc
      cases (Option.some.inj e)
      cases vp.int; cases vq.int
      unfold powOk at hc
      simp only [Bool.and_eq_true, decide_eq_true_eq] at hc
      exact ⟨_, _, rfl, rfl, ⟨hc.1.1, hc.1.2, hc.2⟩, int1 R k⟩
    · cases e
  | shl =>
    refine imp_R2 op_shl fun x y H Q => ?_
    rintro ⟨P, m, h, p, q, w, R, vp, vq, e, k⟩
    cases p <;> cases q <;> simp only [binD, reduceCtorEq] at e
    split at e
    · rename_i hc
      cases (Option.some.inj e)
      cases vp.int; cases vq.int
      unfold powOk at hc
      simp only [Bool.and_eq_true, decide_eq_true_eq] at hc
      exact ⟨_, _, rfl, rfl, ⟨hc.1.1, hc.1.2, hc.2⟩, int1 R k⟩
    · cases e
  | shr =>
    refine imp_R2 op_shr fun x y H Q => ?_
    rintro ⟨P, m, h, p, q, w, R, vp, vq, e, k⟩
    cases p <;> cases q <;> simp only [binD, reduceCtorEq] at e
    split at e
    · rename_i hc
      cases (Option.some.inj e)
      cases vp.int; cases vq.int
      exact ⟨_, _, rfl, rfl, of_decide_eq_true hc, int1 R k⟩
    · cases e
end

/-! ### comparisons -/
mutual
def pyd : D → PyData
  | .non => .none
  | .bl b => .bool b
  | .int i => .int i
  | .str x => .str x
  | .tup ds => .tuple (pyds ds)
  | .lst ds => .list (pyds ds)
  | .scr _ => .none
  | .fn _ => .none
def pyds : List D → List PyData
  | [] => []
  | d :: ds => pyd d :: pyds ds
end
mutual
theorem deq_eqv : ∀ (n m : Nat) (a b : D), shp n a = true → shp m b = true → deq a b = PyData.eqv (pyd a) (pyd b)
  | 0, _, _, _, h, _ => by simp [shp] at h
  | _ + 1, 0, _, _, _, h => by simp [shp] at h
  | n + 1, m + 1, a, b, ha, hb => by
    cases a <;> cases b <;> first
      | (simp only [shp] at ha; exact absurd ha (by decide))
      | (simp only [shp] at hb; exact absurd hb (by decide))
      | (simp only [deq, pyd, PyData.eqv]; done)
      | (simp only [deq, pyd, PyData.eqv]; exact (Bool.beq_eq_decide_eq _ _).symm)
      | (simp only [deq, pyd, PyData.eqv]; exact deqs_eqv n m _ _ (by simpa [shp] using ha) (by simpa [shp] using hb))
theorem deqs_eqv : ∀ (n m : Nat) (a b : List D), shps n a = true → shps m b = true → deqs a b = PyData.eqvAll (pyds a) (pyds b)
  | _, _, [], [], _, _ => by simp only [deqs, pyds, PyData.eqvAll]
  | _, _, [], _ :: _, _, _ => by simp only [deqs, pyds, PyData.eqvAll]
  | _, _, _ :: _, [], _, _ => by simp only [deqs, pyds, PyData.eqvAll]
  | n, m, x :: xs, y :: ys, ha, hb => by
    simp only [shps, Bool.and_eq_true] at ha hb
    simp only [deqs, pyds, PyData.eqvAll]
    rw [deq_eqv n m x y ha.1 hb.1, deqs_eqv n m xs ys ha.2 hb.2]
end
mutual
theorem shp_can : ∀ (n : Nat) (a : D), shp n a = true → (pyd a).canLay0 = true ∧ (pyd a).depth ≤ n
  | 0, _, h => by simp [shp] at h
  | n + 1, a, h => by
    cases a with
    | tup ds =>
      obtain ⟨h1, h2⟩ := shps_can n ds (by simpa [shp] using h)
      simp only [pyd, PyData.canLay0, PyData.depth]
      exact ⟨h1, by omega⟩
    | lst ds =>
      obtain ⟨h1, h2⟩ := shps_can n ds (by simpa [shp] using h)
      simp only [pyd, PyData.canLay0, PyData.depth]
      exact ⟨h1, by omega⟩
    | str x => simp only [pyd, PyData.canLay0, PyData.depth]; exact ⟨by simp only [shp] at h; exact h, by omega⟩
    | scr _ => simp [shp] at h
    | fn _ => simp [shp] at h
    | _ => simp only [pyd, PyData.canLay0, PyData.depth]; exact ⟨trivial, by omega⟩
theorem shps_can : ∀ (n : Nat) (a : List D), shps n a = true → PyData.canLayAll0 (pyds a) = true ∧ PyData.depthAll (pyds a) ≤ n
  | n, [], _ => by simp only [pyds, PyData.canLayAll0, PyData.depthAll]; exact ⟨trivial, Nat.zero_le _⟩
  | n, x :: xs, h => by
    simp only [shps, Bool.and_eq_true] at h
    obtain ⟨h1, h2⟩ := shp_can n x h.1
    obtain ⟨h3, h4⟩ := shps_can n xs h.2
    simp only [pyds, PyData.canLayAll0, PyData.depthAll, Bool.and_eq_true]
    exact ⟨⟨h1, h3⟩, by omega⟩
end
theorem shp_shaped {a : D} (h : shp 60 a = true) : SeqAt.shaped (pyd a) = true := by
  obtain ⟨h1, h2⟩ := shp_can 60 a h
  unfold SeqAt.shaped
  rw [h1, Bool.true_and]
  exact decide_eq_true (by omega)
section
variable {K : PySem.W.Frag} {fa : FA} {X : Addr → Prop} {H : Hp}
mutual
theorem RepD.dp : ∀ (n : Nat) (d : D) (v : V), shp n d = true → RepD K fa X H d v → Dp K H v (pyd d)
  | 0, _, _, h, _ => by simp [shp] at h
  | n + 1, .non, _, _, q => by cases q; simp only [pyd]; exact .non
  | n + 1, .bl b, _, _, q => by cases q; simp only [pyd]; exact .bl b
  | n + 1, .int b, _, _, q => by cases q; simp only [pyd]; exact .int b
  | n + 1, .str b, _, _, q => by cases q; simp only [pyd]; exact .str b
  | n + 1, .tup ds, _, h, q => by
    cases q with
    | tup s r => simp only [pyd]; exact .tup (SqT.of s) (RepDs.dp n _ _ (by simpa [shp] using h) r)
  | n + 1, .lst ds, _, h, q => by
    cases q with
    | lst s _ r => simp only [pyd]; exact .lst (SqL.of s) (RepDs.dp n _ _ (by simpa [shp] using h) r)
  | n + 1, .scr _, _, h, _ => by simp [shp] at h
  | n + 1, .fn _, _, h, _ => by simp [shp] at h
theorem RepDs.dp : ∀ (n : Nat) (ds : List D) (vs : List V), shps n ds = true → RepDs K fa X H ds vs → DpAll K H vs (pyds ds)
  | n, [], _, _, q => by cases q; simp only [pyds]; exact .nil
  | n, d :: ds, _, h, q => by
    simp only [shps, Bool.and_eq_true] at h
    cases q with
    | cons q r =>
      simp only [pyds]
      exact .cons (RepD.dp n _ _ h.1 q) (RepDs.dp n _ _ h.2 r)
end
theorem Vw.dp {n : Nat} {d : D} {v : V} (h : shp n d = true) (q : Vw K fa X H d v) : Dp K H v (pyd d) := by
  cases q with
  | of q => exact q.dp n _ _ h
  | lst s r =>
    cases n with
    | zero => simp [shp] at h
    | succ n =>
      simp only [pyd]
      exact .lst (SqL.of s) (r.dp n _ _ (by simpa [shp] using h))
theorem RepD.flat {d : D} {v : V} (h : flat d = true) (q : RepD K fa X H d v) : flatV v = true := by
  cases q <;> first | rfl | simp [Ev.flat] at h
theorem RepDs.flat : ∀ {ds : List D} {vs : List V}, RepDs K fa X H ds vs → ds.all Ev.flat = true → vs.all flatV = true
  | _, _, .nil, _ => rfl
  | _, _, .cons q r, h => by
    simp only [List.all_cons, Bool.and_eq_true] at h ⊢
    exact ⟨q.flat h.1, r.flat h.2⟩
theorem RepD.eqV {d e : D} {v u : V} (h : Ev.flat d = true) (h' : Ev.flat e = true) (q : RepD K fa X H d v) (r : RepD K fa X H e u) : L2.eqV v u = deq d e := by
  cases q <;> cases r <;> first
    | (simp [Ev.flat] at h; done)
    | (simp [Ev.flat] at h'; done)
    | (simp only [L2.eqV, deq]; done)
    | (simp only [L2.eqV, deq]; exact Bool.beq_eq_decide_eq _ _)
theorem RepDs.inV {d : D} {v : V} (h : Ev.flat d = true) (q : RepD K fa X H d v) : ∀ {ds : List D} {vs : List V}, RepDs K fa X H ds vs → ds.all Ev.flat = true → L2.inV v vs = ds.any fun y => deq y d
  | _, _, .nil, _ => rfl
  | _, _, .cons (d := e) (v := u) p r, hs => by
    simp only [List.all_cons, Bool.and_eq_true] at hs
    have ih := RepDs.inV h q r hs.2
    unfold L2.inV at ih ⊢
    rw [List.any_cons, List.any_cons, ih, p.eqV hs.1 h q]
theorem Vw.repd {d : D} {v : V} (h : Ev.flat d = true) (q : Vw K fa X H d v) : RepD K fa X H d v := by
  cases q with
  | of q => exact q
  | lst _ _ => simp [Ev.flat] at h
end
def cmB : Cm → CmpOp
  | .eq => .Eq
  | .ne => .NotEq
  | .lt => .Lt
  | .le => .LtE
  | .gt => .Gt
  | .ge => .GtE
  | .isN => .Is
  | .notN => .IsNot
  | .isB => .Is
  | .notB => .IsNot
  | .in_ => .In
  | .notIn => .NotIn
def rCmp (K : PySem.W.Frag) (fa : FA) (f : D → D → Option Bool) : R2 := fun x y H Q => ∃ (P m : List Addr) (h : Hh) (p q : D) (b : Bool), HRel K fa P m h H ∧ Vw K fa (Ex P m h) H p x ∧ Vw K fa (Ex P m h) H q y ∧ f p q = some b ∧ Q (.bl b) H
section
variable {X : Cx} {fa : FA}
theorem op_cm (hu : X.A.units + 64 < cLine) (o : Cm) : OpR X (compareOp (cmB o)) (rCmp X.K fa (cmpD o)) := by
  cases o with
  | eq =>
    refine imp_R2 (op_eqD hu) fun x y H Q => ?_
    rintro ⟨P, m, h, p, q, b, R, vp, vq, e, k⟩
    simp only [cmpD] at e
    split at e
    · rename_i hc
      simp only [Bool.and_eq_true] at hc
      cases (Option.some.inj e)
      exact ⟨pyd p, pyd q, vp.dp hc.1, vq.dp hc.2, shp_shaped hc.1, shp_shaped hc.2, by rw [← deq_eqv 60 60 p q hc.1 hc.2]; exact k⟩
    · cases e
  | ne =>
    refine imp_R2 (op_neD hu) fun x y H Q => ?_
    rintro ⟨P, m, h, p, q, b, R, vp, vq, e, k⟩
    simp only [cmpD] at e
    split at e
    · rename_i hc
      simp only [Bool.and_eq_true] at hc
      cases (Option.some.inj e)
      exact ⟨pyd p, pyd q, vp.dp hc.1, vq.dp hc.2, shp_shaped hc.1, shp_shaped hc.2, by rw [← deq_eqv 60 60 p q hc.1 hc.2]; exact k⟩
    · cases e
  | lt =>
    refine imp_R2 op_lt fun x y H Q => ?_
    rintro ⟨P, m, h, p, q, b, R, vp, vq, e, k⟩
    cases p <;> cases q <;> simp only [cmpD, reduceCtorEq] at e
    cases (Option.some.inj e); cases vp.int; cases vq.int
    exact ⟨_, _, rfl, rfl, k⟩
  | le =>
    refine imp_R2 op_le fun x y H Q => ?_
    rintro ⟨P, m, h, p, q, b, R, vp, vq, e, k⟩
    cases p <;> cases q <;> simp only [cmpD, reduceCtorEq] at e
    cases (Option.some.inj e); cases vp.int; cases vq.int
    exact ⟨_, _, rfl, rfl, k⟩
  | gt =>
    refine imp_R2 op_gt fun x y H Q => ?_
    rintro ⟨P, m, h, p, q, b, R, vp, vq, e, k⟩
    cases p <;> cases q <;> simp only [cmpD, reduceCtorEq] at e
    cases (Option.some.inj e); cases vp.int; cases vq.int
    exact ⟨_, _, rfl, rfl, k⟩
  | ge =>
    refine imp_R2 op_ge fun x y H Q => ?_
    rintro ⟨P, m, h, p, q, b, R, vp, vq, e, k⟩
    cases p <;> cases q <;> simp only [cmpD, reduceCtorEq] at e
    cases (Option.some.inj e); cases vp.int; cases vq.int
    exact ⟨_, _, rfl, rfl, k⟩
  | isN =>
    refine imp_R2 op_isN fun x y H Q => ?_
    rintro ⟨P, m, h, p, q, b, R, vp, vq, e, k⟩
    cases q <;> simp only [cmpD, reduceCtorEq] at e
    cases vq.non
    refine ⟨rfl, ?_⟩
    have : b = decide (x = .non) := by
      cases (Option.some.inj e)
      cases vp with
      | of vp => cases vp <;> simp
      | lst _ _ => simp
    rw [← this]; exact k
  | notN =>
    refine imp_R2 op_notN fun x y H Q => ?_
    rintro ⟨P, m, h, p, q, b, R, vp, vq, e, k⟩
    cases q <;> simp only [cmpD, reduceCtorEq] at e
    cases vq.non
    refine ⟨rfl, ?_⟩
    have : b = !decide (x = .non) := by
      cases (Option.some.inj e)
      cases vp with
      | of vp => cases vp <;> simp
      | lst _ _ => simp
    rw [← this]; exact k
  | isB =>
    refine imp_R2 ZM.op_isB fun x y H Q => ?_
    rintro ⟨P, m, h, p, q, b, R, vp, vq, e, k⟩
    cases p <;> cases q <;> simp only [cmpD, reduceCtorEq] at e
    cases (Option.some.inj e); cases vp.bl; cases vq.bl
    exact ⟨_, _, rfl, rfl, k⟩
  | notB =>
    refine imp_R2 ZM.op_notB fun x y H Q => ?_
    rintro ⟨P, m, h, p, q, b, R, vp, vq, e, k⟩
    cases p <;> cases q <;> simp only [cmpD, reduceCtorEq] at e
    cases (Option.some.inj e); cases vp.bl; cases vq.bl
    exact ⟨_, _, rfl, rfl, k⟩
  | in_ =>
    refine imp_R2 op_in_seq fun x y H Q => ?_
    rintro ⟨P, m, h, p, q, b, R, vp, vq, e, k⟩
    cases q <;> simp only [cmpD, reduceCtorEq] at e
    all_goals
      split at e
      · rename_i hc
        simp only [Bool.and_eq_true] at hc
        cases (Option.some.inj e)
        first
          | (obtain ⟨a, xs, rfl, s, r⟩ := vq.tup
             refine ⟨a, xs, rfl, .inr s, (vp.repd hc.1).flat hc.1, r.flat hc.2, ?_⟩
             show Q (.bl (if false = true then _ else _)) H
             rw [if_neg Bool.false_ne_true, RepDs.inV hc.1 (vp.repd hc.1) r hc.2]; exact k)
          | (obtain ⟨a, xs, rfl, s, r⟩ := vq.list
             refine ⟨a, xs, rfl, .inl (SqL.of s), (vp.repd hc.1).flat hc.1, r.flat hc.2, ?_⟩
             show Q (.bl (if false = true then _ else _)) H
             rw [if_neg Bool.false_ne_true, RepDs.inV hc.1 (vp.repd hc.1) r hc.2]; exact k)
      · cases e
  | notIn =>
    refine imp_R2 op_notIn_seq fun x y H Q => ?_
    rintro ⟨P, m, h, p, q, b, R, vp, vq, e, k⟩
    cases q <;> simp only [cmpD, reduceCtorEq] at e
    all_goals
      split at e
      · rename_i hc
        simp only [Bool.and_eq_true] at hc
        cases (Option.some.inj e)
        first
          | (obtain ⟨a, xs, rfl, s, r⟩ := vq.tup
             refine ⟨a, xs, rfl, .inr s, (vp.repd hc.1).flat hc.1, r.flat hc.2, ?_⟩
             show Q (.bl (if true = true then _ else _)) H
             rw [if_pos rfl, RepDs.inV hc.1 (vp.repd hc.1) r hc.2]; exact k)
          | (obtain ⟨a, xs, rfl, s, r⟩ := vq.list
             refine ⟨a, xs, rfl, .inl (SqL.of s), (vp.repd hc.1).flat hc.1, r.flat hc.2, ?_⟩
             show Q (.bl (if true = true then _ else _)) H
             rw [if_pos rfl, RepDs.inV hc.1 (vp.repd hc.1) r hc.2]; exact k)
      · cases e
theorem Vw.tru {Y : Addr → Prop} {H : Hp} {p : D} {x : V} {b : Bool} (q : Vw X.K fa Y H p x) (e : truD p = some b) : TruV X.K x H b := by
  cases p <;> simp only [truD, reduceCtorEq] at e <;> cases (Option.some.inj e)
  · cases q.non; rfl
  · cases q.bl; rfl
  · cases q.int; rfl
  · obtain ⟨a, xs, rfl, s, r⟩ := q.tup
    refine .inr (.inl ⟨xs, s, ?_⟩)
    cases r <;> rfl
  · obtain ⟨a, xs, rfl, s, r⟩ := q.list
    refine .inl ⟨xs, SqL.of s, ?_⟩
    cases r <;> rfl
end
end Ev
set_option linter.all false
set_option maxRecDepth 100000
set_option maxHeartbeats 1000000
/-! Ev4: calls of built-ins, items, slices. -/
namespace Ev
open PySem PySem.Spec PyProof.Rows L2

abbrev RC := List V → Hp → VK → Prop
def rCall (K : PySem.W.Frag) (fa : FA) (f : List D → Option W) : RC := fun xs H Q => ∃ (P m : List Addr) (h : Hh) (ps : List D) (w : W), HRel K fa P m h H ∧ Vws K fa (Ex P m h) H ps xs ∧ f ps = some w ∧
  ∀ z H', XExt (Lv m h) (Lv m h) H H' w z → PW K fa P m h H' w z → Q z H'
theorem imp_RC {X : Cx} {f : Value} {r r' : RC} (a : CallR X f r) (h : ∀ xs H Q, r' xs H Q → r xs H Q) : CallR X f r' := fun pins s σ H xs us Q I r q => a pins s σ H xs us Q I r (h _ _ _ q)
/-- a built-in's value -/
def biV : Bi → Value
  | .len => .builtin "len"
  | .abs => .builtin "abs"
  | .int => .type "int"
  | .list => .type "list"
  | .tuple => .type "tuple"
  | .all => .builtin "all"
  | .any => .builtin "any"
  | .sum => .builtin "sum"
  | .max2 => .builtin "max"
  | .min2 => .builtin "min"
  | .sorted => .builtin "sorted"
  | .max1 => .builtin "max"
  | .min1 => .builtin "min"
  | .str => .type "str"
theorem maxI_ok : ∀ (i : Int) (l : List Int), maxI i l ∈ i :: l ∧ ∀ x ∈ i :: l, x ≤ maxI i l
  | i, [] => ⟨List.mem_singleton.mpr rfl, fun x hx => by rw [List.mem_singleton.mp hx]; exact Int.le_refl _⟩
  | i, j :: r => by
    unfold maxI
    obtain ⟨h1, h2⟩ := maxI_ok (if i < j then j else i) r
    have e1 : i ≤ (if i < j then j else i) := by split <;> omega
    have e2 : j ≤ (if i < j then j else i) := by split <;> omega
    have e3 := h2 _ List.mem_cons_self
    refine ⟨?_, fun x hx => ?_⟩
    · rcases List.mem_cons.mp h1 with e | e
      · rw [e]; split <;> simp
      · exact List.mem_cons_of_mem _ (List.mem_cons_of_mem _ e)
    · rcases List.mem_cons.mp hx with e | hx
      · omega
      · rcases List.mem_cons.mp hx with e | hx
        · omega
        · exact h2 x (List.mem_cons_of_mem _ hx)
theorem minI_ok : ∀ (i : Int) (l : List Int), minI i l ∈ i :: l ∧ ∀ x ∈ i :: l, minI i l ≤ x
  | i, [] => ⟨List.mem_singleton.mpr rfl, fun x hx => by rw [List.mem_singleton.mp hx]; exact Int.le_refl _⟩
  | i, j :: r => by
    unfold minI
    obtain ⟨h1, h2⟩ := minI_ok (if j < i then j else i) r
    have e1 : (if j < i then j else i) ≤ i := by split <;> omega
    have e2 : (if j < i then j else i) ≤ j := by split <;> omega
    have e3 := h2 _ List.mem_cons_self
    refine ⟨?_, fun x hx => ?_⟩
    · rcases List.mem_cons.mp h1 with e | e
      · rw [e]; split <;> simp
      · exact List.mem_cons_of_mem _ (List.mem_cons_of_mem _ e)
    · rcases List.mem_cons.mp hx with e | hx
      · omega
      · rcases List.mem_cons.mp hx with e | hx
        · omega
        · exact h2 x (List.mem_cons_of_mem _ hx)
theorem insI_perm (i : Int) : ∀ l : List Int, (insI i l).Perm (i :: l)
  | [] => .refl _
  | j :: r => by
    unfold insI
    split
    · exact .refl _
    · exact .trans (.cons _ (insI_perm i r)) (.swap ..)
theorem sortI_perm : ∀ l : List Int, (sortI l).Perm l
  | [] => .refl _
  | i :: r => (insI_perm i (sortI r)).trans (.cons _ (sortI_perm r))
theorem insI_sorted (i : Int) : ∀ l : List Int, l.Pairwise (· ≤ ·) → (insI i l).Pairwise (· ≤ ·)
  | [], _ => by simp [insI]
  | j :: r, h => by
    unfold insI
    have hj := (List.pairwise_cons.mp h).1
    split
    · rename_i hij
      refine List.pairwise_cons.mpr ⟨fun a ha => ?_, h⟩
      rcases List.mem_cons.mp ha with rfl | ha
      · exact hij
      · exact Int.le_trans hij (hj a ha)
    · rename_i hij
      refine List.pairwise_cons.mpr ⟨fun a ha => ?_, insI_sorted i r (List.pairwise_cons.mp h).2⟩
      rcases List.mem_cons.mp ((insI_perm i r).mem_iff.mp ha) with rfl | ha
      · omega
      · exact hj a ha
theorem sortI_sorted : ∀ l : List Int, (sortI l).Pairwise (· ≤ ·)
  | [] => .nil
  | i :: r => insI_sorted i _ (sortI_sorted r)
theorem sortI_eq {l l' : List Int} (hp : l'.Perm l) (hs : l'.Pairwise (· ≤ ·)) : l' = sortI l :=
  List.Perm.eq_of_pairwise (le := (· ≤ ·)) (fun a b _ _ h1 h2 => Int.le_antisymm h1 h2) hs (sortI_sorted l) (hp.trans (sortI_perm l).symm)
/-! ### sorted(xs), tuples of whole numbers -/
def tupI (ns : List Int) : D := .tup (ns.map .int)
theorem intsD_eq : ∀ {ds : List D} {ns : List Int}, intsD ds = some ns → ds = ns.map .int
  | [], ns, e => by cases (Option.some.inj e); rfl
  | d :: ds, ns, e => by
    cases d <;> simp only [intsD, reduceCtorEq] at e
    obtain ⟨ms, e1, rfl⟩ := Option.map_eq_some_iff.mp e
    rw [intsD_eq e1]
    rfl
theorem tupsD_eq : ∀ {ds : List D} {ts : List (List Int)}, tupsD ds = some ts → ds = ts.map tupI
  | [], ts, e => by cases (Option.some.inj e); rfl
  | d :: ds, ts, e => by
    cases d <;> simp only [tupsD, reduceCtorEq] at e
    rename_i es
    split at e
    · rename_i ns ts' e1 e2
      cases e
      rw [List.map_cons, ← tupsD_eq e2]
      unfold tupI
      rw [← intsD_eq e1]
    · cases e
theorem code_inj {B : Int} : ∀ {a b : List Int}, a.length = b.length → TS.Bd B a → TS.Bd B b → TS.code B a = TS.code B b → a = b
  | [], [], _, _, _, _ => rfl
  | [], _ :: _, h, _, _, _ => by simp at h
  | _ :: _, [], h, _, _, _ => by simp at h
  | x :: a, y :: b, h, h1, h2, e => by
    have hl : a.length = b.length := by simpa using h
    rcases Int.lt_trichotomy x y with c | c | c
    · have := TS.code_lt hl h1.tail h2.tail c
      omega
    · subst c
      have e' : TS.code B a = TS.code B b := by
        have e2 : x * B ^ a.length + TS.code B a = x * B ^ b.length + TS.code B b := e
        rw [hl] at e2
        omega
      rw [code_inj hl h1.tail h2.tail e']
    · have := TS.code_lt hl.symm h2.tail h1.tail c
      omega
theorem insC_perm (i : List Int) : ∀ l : List (List Int), (insC i l).Perm (i :: l)
  | [] => .refl _
  | j :: r => by
    unfold insC
    split
    · exact .refl _
    · exact .trans (.cons _ (insC_perm i r)) (.swap ..)
theorem sortC_perm : ∀ l : List (List Int), (sortC l).Perm l
  | [] => .refl _
  | i :: r => (insC_perm i (sortC r)).trans (.cons _ (sortC_perm r))
theorem insC_sorted (i : List Int) : ∀ l : List (List Int), l.Pairwise (fun a b => TS.code bnd a ≤ TS.code bnd b) → (insC i l).Pairwise (fun a b => TS.code bnd a ≤ TS.code bnd b)
  | [], _ => by simp [insC]
  | j :: r, h => by
    unfold insC
    have hj := (List.pairwise_cons.mp h).1
    split
    · rename_i hij
      refine List.pairwise_cons.mpr ⟨fun a ha => ?_, h⟩
      rcases List.mem_cons.mp ha with rfl | ha
      · exact hij
      · exact Int.le_trans hij (hj a ha)
    · rename_i hij
      refine List.pairwise_cons.mpr ⟨fun a ha => ?_, insC_sorted i r (List.pairwise_cons.mp h).2⟩
      rcases List.mem_cons.mp ((insC_perm i r).mem_iff.mp ha) with rfl | ha
      · omega
      · exact hj a ha
theorem sortC_sorted : ∀ l : List (List Int), (sortC l).Pairwise (fun a b => TS.code bnd a ≤ TS.code bnd b)
  | [] => .nil
  | i :: r => insC_sorted i _ (sortC_sorted r)
theorem RepDs.perm {K : PySem.W.Frag} {fa : FA} {Y : Addr → Prop} {H : Hp} {xs ys : List V} (p : ys.Perm xs) : ∀ {ts : List (List Int)}, RepDs K fa Y H (ts.map tupI) xs → ∃ us : List (List Int), us.Perm ts ∧ RepDs K fa Y H (us.map tupI) ys := by
  induction p with
  | nil => exact fun {ts} r => ⟨ts, .refl _, r⟩
  | cons x p ih =>
    intro ts r
    cases ts with
    | nil => cases r
    | cons t ts =>
      cases r with
      | cons q r =>
        obtain ⟨us, h1, h2⟩ := ih r
        exact ⟨t :: us, .cons _ h1, .cons q h2⟩
  | swap x y l =>
    intro ts r
    rcases ts with _ | ⟨t, _ | ⟨u, ts⟩⟩
    · cases r
    · cases r with
      | cons q r => cases r
    · cases r with
      | cons q r => cases r with
        | cons q2 r => exact ⟨u :: t :: ts, .swap .., .cons q2 (.cons q r)⟩
  | trans p1 p2 ih1 ih2 =>
    intro ts r
    obtain ⟨us, h1, h2⟩ := ih2 r
    obtain ⟨ws, h3, h4⟩ := ih1 h2
    exact ⟨ws, h3.trans h1, h4⟩
theorem tupI_rep {K : PySem.W.Frag} {fa : FA} {Y : Addr → Prop} {H : Hp} {ns : List Int} {x : V} (q : RepD K fa Y H (tupI ns) x) : TupI K H x ns := by
  unfold tupI at q
  cases q with
  | @tup a xs _ s r =>
    have e : xs = ns.map V.int := r.ints (by
      clear s r
      induction ns with
      | nil => rfl
      | cons n ns ih => rw [List.map_cons, intsD, ih]; rfl)
    rw [e] at s
    exact ⟨a, rfl, SqT.of s⟩
theorem rep_sorted {K : PySem.W.Frag} {fa : FA} {Y : Addr → Prop} {H : Hp} : ∀ {us : List (List Int)} {ys : List V}, RepDs K fa Y H (us.map tupI) ys → ys.Pairwise (fun x y => ∀ n m, TupI K H x n → TupI K H y m → TS.code bnd n ≤ TS.code bnd m) → us.Pairwise fun a b => TS.code bnd a ≤ TS.code bnd b
  | [], _, _, _ => .nil
  | u :: us, _, r, h => by
    rw [List.map_cons] at r
    cases r with
    | cons q r =>
      obtain ⟨h1, h2⟩ := List.pairwise_cons.mp h
      refine List.pairwise_cons.mpr ⟨fun a ha => ?_, rep_sorted r h2⟩
      obtain ⟨i, hi⟩ := List.mem_iff_getElem?.mp ha
      obtain ⟨v, e1, e2⟩ := r.get (i := i) (d := tupI a) (by rw [List.getElem?_map, hi]; rfl)
      exact h1 v (List.mem_of_getElem? e1) _ _ (tupI_rep q) (tupI_rep e2)
section
variable {X : Cx} {fa : FA}
theorem Vws.one {K : PySem.W.Frag} {Y : Addr → Prop} {H : Hp} {d : D} {xs : List V} (q : Vws K fa Y H [d] xs) : ∃ x, xs = [x] ∧ Vw K fa Y H d x := by
  cases q with
  | cons q r => cases r; exact ⟨_, rfl, q⟩
theorem Vws.two {K : PySem.W.Frag} {Y : Addr → Prop} {H : Hp} {d e : D} {xs : List V} (q : Vws K fa Y H [d, e] xs) : ∃ x y, xs = [x, y] ∧ Vw K fa Y H d x ∧ Vw K fa Y H e y := by
  cases q with
  | cons q r => cases r with
    | cons q' r => cases r; exact ⟨_, _, rfl, q, q'⟩
/-- sum(t), t a tuple of ints -/
theorem sum_rawT {prog : Program} {w : World} {A : Around} {E : Value → Shared → Prop} {s : Shared} {l : Addr} {its : List Value} {ns : List Int} {Q : Value → Shared → Prop} (hh : A.handled = none) (hl : IsTup s.heap l its.toArray) (hi : IntsAre its ns)
    (h : ∀ h' tk t', (∀ b o, s.heap.get? b = some o → h'.get? b = some o) → Q (.int ns.sum t') { s with heap := h', toks := tk }) : wpAny (model prog w) A (call (.builtin "sum") [.ref l]) Q E s := by
  obtain ⟨xs, e⟩ := hi.allInts.items
  have hn : numsOf (intItems xs).toList = ns := by rw [← e]; exact hi.numsOf
  rw [nums_intItems] at hn
  rw [e] at hl
  have hlt : l < s.heap.objs.size := by obtain ⟨_, z, _⟩ := hl; exact Heap.lt_size z
  refine PySem.call_sum_walkG (iter_tuple hl ?_)
  refine ⟨_, [s.heap.objs.size, l], [s.heap.objs.size], _, _, _, numAt xs, rfl, PySem.Walks.tuple (A := A.in1) hh s.heap.objs.size l (Nat.ne_of_lt hlt) (intItems xs), ⟨⟨_, Heap.get?_push_size _ rfl, rfl, rfl⟩, ?_⟩, fun b hb => ?_, (fun _ _ => intItems_at), fun h' tk t' hk => ?_⟩
  · obtain ⟨o, ho, r⟩ := hl
    exact ⟨o, Heap.get?_push_of_some _ ho, r⟩
  · show b < (s.heap.push _).objs.size
    rw [Heap.size_push]
    have e' : b = s.heap.objs.size ∨ b = l := by simpa using hb
    rcases e' with z | z
    · rw [z]; exact Nat.lt_succ_self _
    · rw [z]; exact Nat.lt_succ_of_lt hlt
  · have := h h' tk t' fun b o q => hk b o (fun z => by
      have e' : b = s.heap.objs.size := by simpa using z
      exact absurd (Heap.lt_size q) (by rw [e']; exact Nat.lt_irrefl _)) (Heap.get?_push_of_some _ q)
    rw [show (intItems xs).size = xs.size by simp [intItems], preSum_eq, List.take_of_length_le (by simp), hn]
    exact this
def rSumA (K : PySem.W.Frag) : List V → Hp → VK → Prop := fun vs H Q => ∃ (a : Addr) (ns : List Int), vs = [V.ref a] ∧ (SqL K H a (ns.map V.int) ∨ SqT K H a (ns.map V.int)) ∧ Q (.int ns.sum) H
theorem cr_sumA (hc : X.calm = true) : CallR X (.builtin "sum") (rSumA X.K) := by
  intro pins s σ H vs us Q I r h
  obtain ⟨a, ns, rfl, hs, q⟩ := h
  rcases hs with hs | hs
  · exact cr_sum hc pins s σ H [V.ref a] us Q I r ⟨a, ns, rfl, hs, q⟩
  · obtain ⟨its, rv, hl, _⟩ := I.tuple hs
    rw [Vals.ref1 r]
    exact sum_rawT (I.ok.hd hc) hl rv.ints fun h' tk t' hk => ⟨.int _, H, I.kept hk, ⟨_, rfl⟩, q⟩
/-- t.count(k), t a tuple of ints -/
def rCntT (K : PySem.W.Frag) : V → List V → Hp → VK → Prop := fun x xs H Q => ∃ (p : Addr) (ns : List Int) (k : Int), x = .ref p ∧ xs = [.int k] ∧ SqT K H p (ns.map V.int) ∧ Q (.int (ns.count k : Nat)) H
theorem mt_tcount : MtR X "tuple.count" (rCntT X.K) := by
  intro pins s σ H x xs v us Q I rx rxs h
  obtain ⟨p, ns, k, rfl, rfl, hs, q⟩ := h
  cases rx
  obtain ⟨u, rfl, ru⟩ := rxs.one
  obtain ⟨t, rfl⟩ := ru
  obtain ⟨its, rv, ⟨⟨cls, dd, data, sl⟩, ho, hc, n, hd⟩, hlen⟩ := I.tuple hs
  simp only at hc hd
  subst hc hd
  have hi := ints_of_vals rv
  refine call_meets PySem.F.slot_tuple_count ⟨_, ho, rfl⟩ PySem.F.entry_tuple_count (PySem.F.args_tuple_count_2 _ _)
    (SeqAt.tuple_countAt p its.toArray n dd sl (.int k t) (eqk k)) ⟨ho, fun y hy => (eqk_gives hi y (by simpa using hy)).at _ _, ?_⟩
  have ec : its.toArray.toList.countP (eqk k) = ns.count k := eqk_count hi
  refine ⟨.int (ns.count k : Nat), H, I.tok _, ⟨s.toks, ?_⟩, q⟩
  show Value.int ((its.toArray.toList.countP (eqk k) : Nat) : Int) s.toks = Value.int ((ns.count k : Nat) : Int) s.toks
  rw [ec]
theorem call_bi (hc : X.calm = true) (b : Bi) : CallR X (biV b) (rCall X.K fa (biD b)) := by
  cases b with
  | len =>
    refine imp_RC call_len_seq fun xs H Q => ?_
    rintro ⟨P, m, h, ps, w, R, v, e, k⟩
    replace e : bLen ps = some w := e
    unfold bLen at e
    split at e <;> cases e <;> obtain ⟨x, rfl, q⟩ := v.one
    · obtain ⟨a, ys, rfl, s, r⟩ := q.tup
      exact ⟨a, ys, rfl, .inr s, k _ _ (XExt.refl _ _) (PW.of_d R (by rw [r.length]; exact .int _))⟩
    · obtain ⟨a, ys, rfl, s, r⟩ := q.list
      exact ⟨a, ys, rfl, .inl (SqL.of s), k _ _ (XExt.refl _ _) (PW.of_d R (by rw [r.length]; exact .int _))⟩
    · obtain ⟨a, ys, rfl, s, r⟩ := q.scr
      exact ⟨a, ys, rfl, .inl s, k _ _ (XExt.refl _ _) (PW.of_d R (by rw [r.length]; exact .int _))⟩
  | str =>
    refine imp_RC call_str_int fun xs H Q => ?_
    rintro ⟨P, m, h, ps, w, R, v, e, k⟩
    replace e : bStr ps = some w := e
    unfold bStr at e
    split at e <;> (try cases e)
    obtain ⟨x, rfl, q⟩ := v.one
    cases q.int
    split at e
    · rename_i hl
      cases e
      exact ⟨_, rfl, hl, k _ _ (XExt.refl _ _) (PW.of_d R (.str _))⟩
    · cases e
  | abs =>
    refine imp_RC call_abs fun xs H Q => ?_
    rintro ⟨P, m, h, ps, w, R, v, e, k⟩
    replace e : bAbs ps = some w := e
    unfold bAbs at e
    split at e <;> cases e
    obtain ⟨x, rfl, q⟩ := v.one
    cases q.int
    exact ⟨_, rfl, k _ _ (XExt.refl _ _) (PW.of_d R (.int _))⟩
  | int =>
    refine imp_RC call_int1 fun xs H Q => ?_
    rintro ⟨P, m, h, ps, w, R, v, e, k⟩
    replace e : bInt ps = some w := e
    unfold bInt at e
    split at e <;> cases e
    obtain ⟨x, rfl, q⟩ := v.one
    cases q.int
    exact .inl ⟨_, rfl, k _ _ (XExt.refl _ _) (PW.of_d R (.int _))⟩
  | list =>
    refine imp_RC call_list_of fun xs H Q => ?_
    rintro ⟨P, m, h, ps, w, R, v, e, k⟩
    replace e : bList ps = some w := e
    unfold bList at e
    split at e <;> cases e <;> obtain ⟨x, rfl, q⟩ := v.one
    · obtain ⟨a, ys, rfl, s, r⟩ := q.tup
      exact ⟨a, ys, rfl, .inr s, fun l hl => k _ _ (XExt.newL hl) (PW.lst R hl r)⟩
    · obtain ⟨a, ys, rfl, s, r⟩ := q.list
      exact ⟨a, ys, rfl, .inl (SqL.of s), fun l hl => k _ _ (XExt.newL hl) (PW.lst R hl r)⟩
    · obtain ⟨a, ys, rfl, s, r⟩ := q.scr
      exact ⟨a, ys, rfl, .inl s, fun l hl => k _ _ (XExt.newL hl) (PW.lst R hl r)⟩
  | tuple =>
    refine imp_RC call_tuple_of fun xs H Q => ?_
    rintro ⟨P, m, h, ps, w, R, v, e, k⟩
    replace e : bTuple ps = some w := e
    unfold bTuple at e
    split at e <;> cases e <;> obtain ⟨x, rfl, q⟩ := v.one
    · obtain ⟨a, ys, rfl, s, r⟩ := q.tupS
      exact ⟨a, ys, rfl, .inr ⟨SqT.of s, k _ _ (XExt.refl _ _) (PW.of_d R (.tup s r))⟩⟩
    · obtain ⟨a, ys, rfl, s, r⟩ := q.list
      exact ⟨a, ys, rfl, .inl ⟨SqL.of s, fun l hl => k _ _ (XExt.newT hl) (PW.tup R hl r)⟩⟩
  | all =>
    refine imp_RC (cr_all hc) fun xs H Q => ?_
    rintro ⟨P, m, h, ps, w, R, v, e, k⟩
    replace e : bAll ps = some w := e
    unfold bAll at e
    split at e <;> first | (cases e; done) | skip
    obtain ⟨bs, e1, rfl⟩ := Option.map_eq_some_iff.mp e
    obtain ⟨x, rfl, q⟩ := v.one
    obtain ⟨a, ys, rfl, s, r⟩ := q.list
    cases r.bls e1
    exact ⟨a, bs, rfl, SqL.of s, k _ _ (XExt.refl _ _) (PW.of_d R (.bl _))⟩
  | any =>
    refine imp_RC (cr_any hc) fun xs H Q => ?_
    rintro ⟨P, m, h, ps, w, R, v, e, k⟩
    replace e : bAny ps = some w := e
    unfold bAny at e
    split at e <;> first | (cases e; done) | skip
    obtain ⟨bs, e1, rfl⟩ := Option.map_eq_some_iff.mp e
    obtain ⟨x, rfl, q⟩ := v.one
    obtain ⟨a, ys, rfl, s, r⟩ := q.list
    cases r.bls e1
    exact ⟨a, bs, rfl, SqL.of s, k _ _ (XExt.refl _ _) (PW.of_d R (.bl _))⟩
  | sum =>
    refine imp_RC (cr_sumA hc) fun xs H Q => ?_
    rintro ⟨P, m, h, ps, w, R, v, e, k⟩
    replace e : bSum ps = some w := e
    unfold bSum at e
    split at e <;> first | (cases e; done) | skip
    · obtain ⟨bs, e1, rfl⟩ := Option.map_eq_some_iff.mp e
      obtain ⟨x, rfl, q⟩ := v.one
      obtain ⟨a, ys, rfl, s, r⟩ := q.tup
      cases r.ints e1
      exact ⟨a, bs, rfl, .inr s, k _ _ (XExt.refl _ _) (PW.of_d R (.int _))⟩
    · obtain ⟨bs, e1, rfl⟩ := Option.map_eq_some_iff.mp e
      obtain ⟨x, rfl, q⟩ := v.one
      obtain ⟨a, ys, rfl, s, r⟩ := q.list
      cases r.ints e1
      exact ⟨a, bs, rfl, .inl (SqL.of s), k _ _ (XExt.refl _ _) (PW.of_d R (.int _))⟩
  | max2 =>
    refine imp_RC (call_max2 hc) fun xs H Q => ?_
    rintro ⟨P, m, h, ps, w, R, v, e, k⟩
    replace e : bMax2 ps = some w := e
    unfold bMax2 at e
    split at e <;> cases e
    obtain ⟨x, y, rfl, q1, q2⟩ := v.two
    cases q1.int; cases q2.int
    exact ⟨_, _, rfl, k _ _ (XExt.refl _ _) (PW.of_d R (.int _))⟩
  | min2 =>
    refine imp_RC (call_min2 hc) fun xs H Q => ?_
    rintro ⟨P, m, h, ps, w, R, v, e, k⟩
    replace e : bMin2 ps = some w := e
    unfold bMin2 at e
    split at e <;> cases e
    obtain ⟨x, y, rfl, q1, q2⟩ := v.two
    cases q1.int; cases q2.int
    exact ⟨_, _, rfl, k _ _ (XExt.refl _ _) (PW.of_d R (.int _))⟩
  | sorted =>
    intro pins s σ H xs us Q I r h
    obtain ⟨P, m, h, ps, w, R, v, e, k⟩ := h
    replace e : bSorted ps = some w := e
    unfold bSorted at e
    split at e <;> first | (cases e; done) | skip
    obtain ⟨x, rfl, q⟩ := v.one
    obtain ⟨a, ys, rfl, hs, rr⟩ := q.list
    split at e
    · rename_i bs e1
      cases e
      cases rr.ints e1
      refine cr_sortedI pins s σ H _ us Q I r ⟨a, bs, rfl, SqL.of hs, fun ns' l hp hso hl => ?_⟩
      rw [sortI_eq hp hso]
      exact k _ _ (XExt.newL hl) (PW.lst R hl (RepDs.of_ints _))
    · split at e <;> first | (cases e; done) | skip
      rename_i ts e2
      split at e <;> first | (cases e; done) | skip
      rename_i hok
      cases e
      cases ts with
      | nil => simp [tupsOk] at hok
      | cons t0 ts =>
        unfold tupsOk at hok
        simp only [Bool.and_eq_true, decide_eq_true_eq, List.all_eq_true] at hok
        obtain ⟨h1, h63, hall⟩ := hok
        have ed := tupsD_eq e2
        subst ed
        have hlen := rr.length
        have bdAll : ∀ u ∈ t0 :: ts, u.length = t0.length ∧ TS.Bd bnd u := fun u hu => ⟨(hall u hu).1, fun i hi => (hall u hu).2 i hi⟩
        refine cr_sortT (d := t0.length) (B := bnd) h1 pins s σ H _ us Q I r ⟨a, ys, rfl, SqL.of hs, ?_, fun x hx => ?_, fun zs p pp so hl => ?_⟩
        · rw [← hlen, List.length_map, List.length_cons]; omega
        · obtain ⟨i, hi⟩ := List.mem_iff_getElem?.mp hx
          have hi2 : i < ((t0 :: ts).map tupI).length := by
            rw [hlen]; exact (List.getElem?_eq_some_iff.mp hi).1
          have hi3 : i < (t0 :: ts).length := by simpa using hi2
          obtain ⟨v', f1, f2⟩ := rr.get (i := i) (d := tupI (t0 :: ts)[i]) (by rw [List.getElem?_map, List.getElem?_eq_getElem hi3]; rfl)
          rw [hi] at f1
          cases f1
          have := bdAll _ (List.getElem_mem hi3)
          exact ⟨_, tupI_rep f2, this.1, this.2⟩
        · obtain ⟨ws, w1, w2⟩ := RepDs.perm pp rr
          have w3 := rep_sorted w2 so
          have e : ws = sortC (t0 :: ts) := by
            refine List.Perm.eq_of_pairwise (le := fun a b => TS.code bnd a ≤ TS.code bnd b) (fun a b ha hb l1 l2 => ?_) w3 (sortC_sorted _) (w1.trans (sortC_perm _).symm)
            have ba := bdAll a (w1.mem_iff.mp ha)
            have bb := bdAll b ((sortC_perm _).mem_iff.mp hb)
            exact code_inj (ba.1.trans bb.1.symm) ba.2 bb.2 (Int.le_antisymm l1 l2)
          rw [e] at w2
          exact k _ _ (XExt.newL hl) (PW.lst R hl w2)
  | max1 =>
    refine imp_RC (cr_max hc) fun xs H Q => ?_
    rintro ⟨P, m, h, ps, w, R, v, e, k⟩
    replace e : bMax1 ps = some w := e
    unfold bMax1 at e
    split at e <;> first | (cases e; done) | skip
    split at e <;> first | (cases e; done) | skip
    rename_i i r e1
    cases e
    obtain ⟨x, rfl, q⟩ := v.one
    obtain ⟨a, ys, rfl, s, rr⟩ := q.list
    cases rr.ints e1
    have ok := maxI_ok i r
    refine ⟨a, i :: r, rfl, SqL.of s, by simp, fun mm hm hle => ?_⟩
    have : mm = maxI i r := Int.le_antisymm (ok.2 _ hm) (hle _ ok.1)
    rw [this]
    exact k _ _ (XExt.refl _ _) (PW.of_d R (.int _))
  | min1 =>
    refine imp_RC (cr_min hc) fun xs H Q => ?_
    rintro ⟨P, m, h, ps, w, R, v, e, k⟩
    replace e : bMin1 ps = some w := e
    unfold bMin1 at e
    split at e <;> first | (cases e; done) | skip
    split at e <;> first | (cases e; done) | skip
    rename_i i r e1
    cases e
    obtain ⟨x, rfl, q⟩ := v.one
    obtain ⟨a, ys, rfl, s, rr⟩ := q.list
    cases rr.ints e1
    have ok := minI_ok i r
    refine ⟨a, i :: r, rfl, SqL.of s, by simp, fun mm hm hle => ?_⟩
    have : mm = minI i r := Int.le_antisymm (hle _ ok.1) (ok.2 _ hm)
    rw [this]
    exact k _ _ (XExt.refl _ _) (PW.of_d R (.int _))

def tyV' : Ty → String
  | .int => "int"
  | .bool => "bool"
  | .str => "str"
  | .tup => "tuple"
  | .lst => "list"
  | .dict => "dict"
def dTy : D → Value
  | .non => .type "NoneType"
  | .bl _ => .type "bool"
  | .int _ => .type "int"
  | .str _ => .type "str"
  | .tup _ => .type "tuple"
  | .lst _ => .type "list"
  | _ => .none
theorem isTy_kit (K : PySem.W.Frag) (t : Ty) (p : D) (b : Bool) (e : isTy t p = some b) : PySem.W.kitOne K (dTy p) (.type (tyV' t)) = some b := by
  cases t <;> cases p <;> simp only [isTy, reduceCtorEq] at e <;> cases (Option.some.inj e) <;> rfl
theorem Vw.tyx {K : PySem.W.Frag} {Y : Addr → Prop} {H : Hp} {p : D} {x : V} (q : Vw K fa Y H p x) {t : Ty} {b : Bool} (e : isTy t p = some b) : TyX K H x (dTy p) := by
  cases p with
  | non => cases q.non; exact .base .non
  | bl _ => cases q.bl; exact .base (.bl _)
  | int _ => cases q.int; exact .base (.int _)
  | str _ => cases q.str; exact .base (.str _)
  | tup _ =>
    obtain ⟨a, xs, rfl, s, r⟩ := q.tup
    rcases s with (s | ⟨o, s⟩) | ⟨o, its, n, lk, c, _⟩
    · exact .base (.tup s)
    · exact .fTuple s
    · exact .kTuple lk c
  | lst _ =>
    obtain ⟨a, xs, rfl, s, r⟩ := q.list
    exact .base (.lst s)
  | scr _ => cases t <;> simp [isTy] at e
  | fn _ => cases t <;> simp [isTy] at e
/-- isinstance(x, T) -/
def rIsTyD (K : PySem.W.Frag) (fa : FA) (t : Ty) : RC := fun xs H Q => ∃ (P m : List Addr) (h : Hh) (p : D) (x : V) (b : Bool), HRel K fa P m h H ∧ Vw K fa (Ex P m h) H p x ∧ isTy t p = some b ∧ xs = [x, .ty (tyV' t)] ∧ Q (.bl b) H
theorem call_isTyD (t : Ty) : CallR X (.builtin "isinstance") (rIsTyD X.K fa t) := by
  refine imp_RC call_isi fun xs H Q => ?_
  rintro ⟨P, m, h, p, x, b, R, v, e, rfl, k⟩
  exact ⟨x, _, _, _, b, rfl, .ty _, v.tyx e, isTy_kit X.K t p b e, k⟩

/-! ### items, slices -/
theorem IxR.or {r r' : R2} (h : IxR X r) (h' : IxR X r') : IxR X (fun x y H Q => r x y H Q ∨ r' x y H Q) := fun a b pins s σ H x y v u Q I rx ry q e => q.elim (fun z => h a b pins s σ H x y v u Q I rx ry z e) fun z => h' a b pins s σ H x y v u Q I rx ry z e
theorem atD_ok {K : PySem.W.Frag} {Y : Addr → Prop} {H : Hp} {ds : List D} {xs : List V} {i : Int} {d : D} (r : RepDs K fa Y H ds xs) (e : atD ds i = some d) : ∃ v, atI xs i = some v ∧ RepD K fa Y H d v := by
  unfold atD at e
  unfold atI
  rw [← r.length]
  cases q : ixN ds.length i with
  | none => rw [q] at e; cases e
  | some j =>
    rw [q] at e
    obtain ⟨v, h1, h2⟩ := r.get (show ds[j]? = some d from e)
    exact ⟨v, h1, h2⟩
def rIxD (K : PySem.W.Frag) (fa : FA) : R2 := fun x y H Q => ∃ (P m : List Addr) (h : Hh) (p q d : D), HRel K fa P m h H ∧ Vw K fa (Ex P m h) H p x ∧ Vw K fa (Ex P m h) H q y ∧ ixD p q = some d ∧ ∀ z, RepD K fa (Ex P m h) H d z → Q z H
theorem ix_D : IxR X (rIxD X.K fa) := by
  have key := IxR.or (ix_list (X := X)) (ix_tup (X := X))
  intro a b pins s σ H x y v u Q I rx ry h e0
  refine key a b pins s σ H x y v u Q I rx ry ?_ e0
  obtain ⟨P, m, h, p, q, d, R, vp, vq, e, k⟩ := h
  cases p <;> cases q <;> simp only [ixD, reduceCtorEq] at e
  · obtain ⟨l, xs, rfl, s, r⟩ := vp.tup
    cases vq.int
    obtain ⟨z, h1, h2⟩ := atD_ok r e
    exact .inr ⟨l, xs, _, z, rfl, rfl, s, h1, k z h2⟩
  · obtain ⟨l, xs, rfl, s, r⟩ := vp.list
    cases vq.int
    obtain ⟨z, h1, h2⟩ := atD_ok r e
    exact .inl ⟨l, xs, _, z, rfl, rfl, SqL.of s, h1, k z h2⟩
theorem RepDs.cut {K : PySem.W.Frag} {Y : Addr → Prop} {H : Hp} {ds : List D} {xs : List V} (r : RepDs K fa Y H ds xs) (lo hi : Option Int) : RepDs K fa Y H (cutD ds lo hi) (cutV xs lo hi) := by
  unfold cutD cutV
  rw [← r.length]
  exact (r.drop _).take _
def rSlD (K : PySem.W.Frag) (fa : FA) : V → Option Int → Option Int → Hp → VK → Prop := fun x lo hi H Q => ∃ (P m : List Addr) (h : Hh) (p : D) (w : W), HRel K fa P m h H ∧ Vw K fa (Ex P m h) H p x ∧ slD p lo hi = some w ∧
  ∀ z H', XExt (Lv m h) (Lv m h) H H' w z → PW K fa P m h H' w z → Q z H'
theorem sl_D : SlR X (rSlD X.K fa) := by
  have key := SlR.or (sl_list (X := X)) (sl_tupA (X := X))
  intro pins s σ H x v vl vu lo hi sl Q I rx hs pl pu h
  refine key pins s σ H x v vl vu lo hi sl Q I rx hs pl pu ?_
  obtain ⟨P, m, h, p, w, R, vp, e, k⟩ := h
  cases p <;> simp only [slD, reduceCtorEq] at e <;> cases (Option.some.inj e)
  · obtain ⟨l, xs, rfl, s, r⟩ := vp.tupS
    refine .inr ⟨l, xs, rfl, SqT.of s, fun z => ?_, fun _ q hq => k _ _ (XExt.newT hq) (PW.tup R hq (r.cut lo hi))⟩
    have c := r.cut lo hi
    have e1 : cutV xs lo hi = xs := by
      unfold cutV
      rw [z.1, z.2, List.drop_zero, Nat.sub_zero, List.take_length]
    rw [e1] at c
    exact k _ _ (XExt.refl _ _) (PW.of_d R (.tup s c))
  · obtain ⟨l, xs, rfl, s, r⟩ := vp.list
    exact .inl ⟨l, xs, rfl, SqL.of s, fun q hq => k _ _ (XExt.newL hq) (PW.lst R hq (r.cut lo hi))⟩
end
/-! ### from the last item to the first -/
section
variable {prog : Program} {w : World} {A : Around} {E : Value → Shared → Prop} {s : Shared}
theorem adjust_rev (n : Nat) : Builtin.Slice.sliceAdjust none none (-1) (n : Int) = ((n : Int) - 1, -1) := by
  unfold Builtin.Slice.sliceAdjust
  simp
theorem places_rev (n : Nat) : Builtin.Slice.slicePlaces ((n : Int) - 1) (-1) (-1) = n := by
  unfold Builtin.Slice.slicePlaces
  have h1 : ¬ ((-1 : Int) > 0) := by decide
  simp only [h1, if_false]
  split
  · have e : ((n : Int) - 1 - -1 - 1) / (- -1) + 1 = n := by
      rw [show (- -1 : Int) = 1 by decide, Int.ediv_one]; omega
    omega
  · omega
theorem sliceApplied_rev {sl : Addr} {vs : Value} {n : Nat} {Q : Int × Int × Nat → Shared → Prop} (hs : s.heap.IsSliceOf sl .none .none vs) (ps : IsPart vs (some (-1)))
    (h : Q ((n : Int) - 1, -1, n) s) : wpAny (model prog w) A (Builtin.Slice.sliceApplied (.ref sl) (pure (n : Int))) Q E s := by
  obtain ⟨os, hos, hcs, hds⟩ := id hs
  unfold Builtin.Slice.sliceApplied Builtin.Slice.sliceFields
  refine wpAny_bind (wpAny_bind (wpAny_field hos hds (x := .none) rfl (wpAny_bind (wpAny_field hos hds (x := .none) rfl (wpAny_bind (wpAny_field hos hds (x := vs) rfl (wpAny_pure ?_)))))))
  refine wpAny_bind (HT.slicePart_ ps ?_)
  show wpAny _ _ (if ((-1 : Int) == 0) = true then _ else _) _ _ s
  rw [if_neg (by decide)]
  refine wpAny_bind (slicePart_none (wpAny_bind (slicePart_none (wpAny_bind (wpAny_pure ?_)))))
  show wpAny _ _ (match Builtin.Slice.sliceAdjust none none (-1) (n : Int) with | (lo, hi) => pure (lo, (-1 : Int), Builtin.Slice.slicePlaces lo hi (-1))) _ _ s
  rw [adjust_rev n]
  show wpAny _ _ (pure ((n : Int) - 1, (-1 : Int), Builtin.Slice.slicePlaces ((n : Int) - 1) (-1) (-1))) _ _ s
  rw [places_rev]
  exact wpAny_pure h
theorem pick_rev (xs : Array Value) : ((List.range xs.size).filterMap fun (m : Nat) => xs[(((xs.size : Int) - 1) + (m : Int) * (-1)).toNat]?).toArray = xs.toList.reverse.toArray := by
  have h := PySem.W.krv_all xs
  have e : ((List.range xs.size).filterMap fun (m : Nat) => xs[(((xs.size : Int) - 1) + (m : Int) * (-1)).toNat]?) = (((List.range xs.size).map fun k => xs.size - 1 - k).filterMap (xs[·]?)) := by
    rw [List.filterMap_map]
    congr 1
    funext m
    have : (((xs.size : Int) - 1) + (m : Int) * (-1)).toNat = xs.size - 1 - m := by omega
    rw [this]
    rfl
  rw [e, PySem.W.krv_range, List.filterMap_reverse, h]
theorem getItem_tuple_rev {t sl : Addr} {items : Array Value} {vs : Value} {Q : Value → Shared → Prop} (ht : IsTup s.heap t items) (hs : s.heap.IsSliceOf sl .none .none vs) (ps : IsPart vs (some (-1)))
    (h : Q (.ref s.heap.objs.size) { s with heap := s.heap.push { cls := .type "tuple", data := .seq items.toList.reverse.toArray } })
    (hsz : items.size ≤ sizeLine) : wpAny (model prog w) A (getItem (.ref t) (.ref sl)) Q E s := by
  have htake : sizeOk (.seq items.toList.reverse.toArray) := by
    show items.toList.reverse.toArray.size ≤ sizeLine
    rw [List.size_toArray, List.length_reverse, Array.length_toList]
    exact hsz
  obtain ⟨os, hos, hcs, hds⟩ := id hs
  have hTs : s.TypeIs (.ref sl) "slice" := ⟨os, hos, hcs⟩
  unfold getItem
  try with_reducible refine wpAny_holding ?_
  first | refine wpAny_bind (wpAny_pure ?_) | skip
  refine wpAny_bind (wpAny_sequenceKey ht.typeIs (by decide) ?_)
  refine wpAny_bind (wpAny_callSpecial?_slot (name := Str.ofString "__getitem__") ht.typeIs PyProof.Rows.slot_tuple_getitem
    (wpAny_call_entry PyProof.Rows.slot_tuple_getitem ht.typeIs entry_tuple_getitem ?_ (args_tuple_getitem _ _)))
  show wpAny _ _ (Builtin.Tuple.tupleItemsOf (.ref t) >>= _) _ _ s
  refine wpAny_bind (tupleItemsOf_ ht ?_)
  refine wpAny_bind (wpAny_typeOf hTs ?_)
  rw [if_pos (by decide)]
  refine wpAny_bind (sliceApplied_rev hs ps ?_)
  have hno : ¬ ((((items.size : Int) - 1) == 0 && (-1 : Int) == 1 && items.size == items.size) = true) := by simp
  show wpAny _ _ (if (((items.size : Int) - 1) == 0 && (-1 : Int) == 1 && items.size == items.size) = true then _ else _) _ _ s
  rw [if_neg hno, pick_rev]
  first
    | exact wpAny_bind (m := Builtin.Tuple.tupleExact _) (wpAny_newObj_type (wpAny_pure ⟨_, rfl, wpAny_pure h⟩) htake)
    | exact wpAny_bind (m := Builtin.Tuple.tupleExact _) (wpAny_newObj_type (wpAny_bind (wpAny_pure (wpAny_pure ⟨_, rfl, wpAny_pure h⟩))) htake)
    | exact wpAny_bind (wpAny_bind (m := Builtin.Tuple.tupleExact _) (wpAny_newObj_type (wpAny_pure (wpAny_pure ⟨_, rfl, wpAny_pure h⟩)) htake))
    | exact wpAny_bind (wpAny_bind (m := Builtin.Tuple.tupleExact _) (wpAny_newObj_type (wpAny_pure ⟨_, rfl, wpAny_pure h⟩) htake))
end
section
variable {X : Cx}
def tRevA (K : PySem.W.Frag) (te : TE) : TE := fun σ H Q => te σ H fun x H1 => ∃ a, x = .ref a ∧ ((∃ xs, SqL K H1 a xs ∧ ∀ p, H1 p = none → Q (.ref p) (upd H1 p (.lst xs.reverse))) ∨ ∃ xs, SqT K H1 a xs ∧ ∀ p, H1 p = none → Q (.ref p) (upd H1 p (.tup xs.reverse)))
theorem pe_revA {e : Expr} {te : TE} {k : Nat} {p1 p2 p3 pos : Pos} (he : PE X e te) : PE X (.Subscript e (.Slice none none (some (.UnaryOp .USub (.Constant (.int 1) k p1) p2)) p3) pos) (tRevA X.K te) := by
  refine ⟨fun pins s σ H Q I h => ?_⟩
  refine Subscript_ (thn (he.run pins s σ H _ I h) fun v s1 ⟨x, H1, I1, r1, q1⟩ => ?_)
  obtain ⟨a, ex, q⟩ := q1
  subst ex
  cases r1
  have hst : PO X (some (.UnaryOp .USub (.Constant (.int 1) k p1) p2)) (tPart (tUn (rU fun i => .int (-i)) (tC (.int 1)))) := po_some (pe_un un_neg pe_int)
  refine wpAny_Slice (thn (po_none.run pins s1 σ H1 (fun o H2 => o = none ∧ H2 = H1) I1 ⟨rfl, rfl⟩) fun vl s2 ⟨l, H2, I2, pl, el, e2⟩ => ?_)
  subst el e2
  refine thn (po_none.run pins s2 σ H2 (fun o H3 => o = none ∧ H3 = H2) I2 ⟨rfl, rfl⟩) fun vu s3 ⟨u, H3, I3, pu, eu, e3⟩ => ?_
  subst eu e3
  refine thn (hst.run pins s3 σ H3 (fun o H4 => o = some (-1) ∧ H4 = H3) I3 ⟨1, rfl, -1, rfl, rfl, rfl⟩) fun vs s4 ⟨o, H4, I4, ps, eo, e4⟩ => ?_
  subst eo e4
  have el : vl = .none := by cases pl; rfl
  have eu : vu = .none := by cases pu; rfl
  subst el eu
  have I5 : Inv X pins σ H4 { s4 with heap := s4.heap.push { cls := .type "slice", data := .fields #[.none, .none, vs] } } := I4.kept (t' := s4.toks) fun b ob q => Heap.get?_push_of_some _ q
  show wpAny (model X.prog X.w) X.A (subscriptTail e (.Slice none none (some (.UnaryOp .USub (.Constant (.int 1) k p1) p2)) p3) (.ref a) (.ref s4.heap.objs.size)) (EP X pins σ Q) X.xe { s4 with heap := s4.heap.push { cls := .type "slice", data := .fields #[.none, .none, vs] } }
  rcases q with ⟨xs, hx, q⟩ | ⟨xs, hx, q⟩
  · obtain ⟨its, r, ht, hz⟩ := I5.list hx
    have hlen := r.length
    refine tail_any (ops := [.ref a, .ref s4.heap.objs.size]) ht.isList.typeIs (PySem.slot_list_getitem.lookup) ?_ (by with_unfolding_all rfl)
    refine wpAny_getItem_list_slice ht.isList (Heap.IsSliceOf.new _ .none .none vs) .none .none ps (by decide) ?_ (by rw [List.size_toArray]; omega)
    rw [PySem.W.krv_pick]
    refine ⟨.ref _, _, I5.laid (t' := s4.toks) (o := .lst xs.reverse) (fun b ob q => Heap.get?_push_of_some _ q) (Nat.le_refl _) ?_, rfl, q _ (I5.hok.fresh (Nat.le_refl _))⟩
    exact ⟨by rw [List.length_reverse]; exact hz, _, 0, r.reverse, Heap.get?_push_size _ rfl⟩
  · obtain ⟨its, r, ht, hz⟩ := I5.tuple hx
    refine tail_any (ops := [.ref a, .ref s4.heap.objs.size]) ht.typeIs PyProof.Rows.slot_tuple_getitem.lookup ?_ (by with_unfolding_all rfl)
    refine getItem_tuple_rev ht (Heap.IsSliceOf.new _ .none .none vs) ps ?_ (by rw [List.size_toArray, ← r.length]; exact hz)
    refine ⟨.ref _, _, I5.laid (t' := s4.toks) (o := .tup xs.reverse) (fun b ob q => Heap.get?_push_of_some _ q) (Nat.le_refl _) ?_, rfl, q _ (I5.hok.fresh (Nat.le_refl _))⟩
    exact ⟨by rw [List.length_reverse]; exact hz, _, r.reverse, IsTup.new _ _⟩
end
/-! ### enumerate over a tuple -/
section
set_option maxHeartbeats 2000000 in
theorem meets_enum1 {v : Value} {o : Obj} {H : Heap → Prop} (B : PySem.Begins v o H) :
    Meets (Builtin.«enumerate.__new__» ⟨[.type "enumerate", v], []⟩) (fun _ R s => H s.heap ∧
      R (.ok (.ret (.ref (s.heap.push o).objs.size))) { s with heap := (s.heap.push o).push { cls := .type "enumerate", data := .fields #[.none, .bool false, .ref s.heap.objs.size, rawInt 0, .none, .none] } }) :=
  .of_wp fun prog w A R s h => by
    obtain ⟨hp, g, d, tk, os⟩ := s; obtain ⟨h1, h⟩ := h
    have hsub := sub_enumerate
    have q1 : ∀ {A' : Around} {E : Value → Shared → Prop} {Q : Value → Shared → Prop}, Q (.ref hp.objs.size) ⟨hp.push o, g, d, tk, os⟩ → wpAny (model prog w) A' (pyIter v) Q E ⟨hp, g, d, tk, os⟩ :=
      fun q => B.iter prog w _ _ ⟨hp, g, d, tk, os⟩ _ h1 q
    wp_walk using q1
    refine wpAny_stack_any fun st => wpAny_pure ?_
    split
    · rename_i c _ _ _ _ _
      cases (c == Value.type "enumerate")
      · wp_walk using q1
        exact ⟨_, rfl, h⟩
      · wp_walk using q1
        exact ⟨_, rfl, h⟩
    · wp_walk using q1
      exact ⟨_, rfl, h⟩
variable {prog : Program} {w : World} {A : Around} {E : Value → Shared → Prop} {s : Shared}
theorem enum_call1 {v : Value} {o : Obj} {H : Heap → Prop} {Q : Value → Shared → Prop} (B : PySem.Begins v o H) (h1 : H s.heap)
    (h : ∀ h', IsEnum h' (s.heap.objs.size + 1) s.heap.objs.size 0 .none → h'.get? s.heap.objs.size = some o → h'.objs.size = s.heap.objs.size + 2 →
      (∀ b o, s.heap.get? b = some o → h'.get? b = some o) → Q (.ref (s.heap.objs.size + 1)) { s with heap := h' }) :
    wpAny (model prog w) A (call (.type "enumerate") [v]) Q E s := by
  refine callType_new F.called_enumerate (by decide) (F.typeCall_enumerate_1 _) (F.newCall_enumerate_1 _) (fun obj => F.args_object_init_2 obj _) F.entry_enumerate_new
    (meets_enum1 B) ⟨h1, ?_⟩
  have hz : (s.heap.push o).objs.size = s.heap.objs.size + 1 := Heap.size_push ..
  show _ ∧ _
  rw [hz]
  have he : IsEnum ((s.heap.push o).push { cls := .type "enumerate", data := .fields #[.none, .bool false, .ref s.heap.objs.size, rawInt 0, .none, .none] }) (s.heap.objs.size + 1) s.heap.objs.size 0 .none := by
    have := Heap.get?_push_size (s.heap.push o) (o := { cls := .type "enumerate", data := .fields #[.none, .bool false, .ref s.heap.objs.size, rawInt 0, .none, .none] }) rfl
    rw [hz] at this; exact this
  refine ⟨⟨_, he, rfl⟩, h _ he (Heap.get?_push_of_some _ (Heap.get?_push_size _ B.free)) (by rw [Heap.size_push, hz]) fun b o x => Heap.get?_push_of_some _ (Heap.get?_push_of_some _ x)⟩
end
section
/-- the tuple at a as it stands at each turn, each item in a new pair -/
def IteT (K : PySem.W.Frag) (a : Addr) : L2.It :=
  ⟨fun i H => ∃ (xs : List V) (x : V), SqT K H a xs ∧ xs[i]? = some x, fun i H v H' => ∃ T x, v = .ref T ∧ H T = none ∧ H' = upd H T (.tup [.int (i : Nat), x]) ∧ ∀ xs, SqT K H a xs → xs[i]? = some x, fun i H => ∃ xs : List V, SqT K H a xs ∧ xs.length ≤ i⟩
theorem enum_endT {prog : Program} {w : World} {A : Around} {E : Value → Shared → Prop} {s : Shared} {e it l : Addr} {i : Nat} {c : Int} {items : Array Value} {old : Value} {Q : Option Value → Shared → Prop} (hh : A.in1.handled = none)
    (he : IsEnum s.heap e it c old) (hit : s.heap.IsTupleIter it l i) (hl : s.heap.IsTuple l items) (hx : items[i]? = none)
    (hQ : ∀ h', Heap.ExtBut it s.heap h' → Q none { s with heap := h' }) : wpAny (model prog w) A (pyNext (.ref e)) Q E s := by
  have hT : s.TypeIs (.ref e) "enumerate" := ⟨_, he, rfl⟩
  unfold pyNext
  refine wpAny_bind (wpAny_attempt (wpAny_callSpecial?_slot (name := Str.ofString "__next__") hT F.slot_enumerate_next
    (wpAny_call_entry F.slot_enumerate_next hT F.entry_enumerate_next ?_ (F.args_enumerate_next_1 _))))
  show wpAny _ _ (field (.ref e) 2 >>= _) _ _ _
  refine wpAny_bind (wpAny_field he rfl (x := .ref it) rfl ?_)
  refine wpAny_bind (wpAny_nextOf_tuple_end hh hit hl hx fun h' x he' hx' => ?_)
  obtain ⟨o, ho, hc⟩ := hx'
  refine wpAny_bind (wpAny_isInstance (T := "StopIteration") (b := true) ⟨o, ho, hc⟩ isSubtype_stop ?_)
  exact wpAny_pure (hQ _ he')
theorem turn_enumT {P : Program} {w : World} {K : PySem.W.Frag} {elts : List Expr} {kk : Nat} {tpos : Pos} (a e it : Addr) :
    Turn P w K (.Tuple elts kk tpos) (IteT K a) [e, it] e (fun i h => (∃ old, IsEnum h e it ((i : Nat) : Int) old) ∧ h.IsTupleIter it a i ∧ e ≠ it ∧ a ≠ it ∧ e ≠ a) where
  mem := by simp
  obj := fun i h st b hb => by
    obtain ⟨⟨old, he⟩, ⟨o, ho, hc, hd⟩, _⟩ := st
    have e' : b = e ∨ b = it := by simpa using hb
    rcases e' with z | z
    · rw [z]; exact ⟨_, he, fun v q => nomatch q⟩
    · rw [z]; exact ⟨o, ho, fun v q => by rw [hd] at q; cases q⟩
  keep := fun i h h' st k => let ⟨⟨old, he⟩, hi, hne⟩ := st; ⟨⟨old, k e (by simp) _ he⟩, hi.at fun o q => k it (by simp) o q, hne⟩
  item := by
    intro X hP hw hK hc i pins s σ H E I hf st hg
    subst hP hw hK
    obtain ⟨⟨old, he⟩, hit, hne, hai, hea⟩ := st
    obtain ⟨xs, x, hq, hx⟩ := hg
    obtain ⟨its, rv, p, hz⟩ := I.tuple hq
    obtain ⟨u, hu, ru⟩ := rv.get hx
    have hel : e < s.heap.objs.size := Heap.lt_size he
    have hil : it < s.heap.objs.size := by obtain ⟨_, q, _⟩ := hit; exact Heap.lt_size q
    have hlt : i < its.toArray.size := by
      rw [List.size_toArray]
      exact (List.getElem?_eq_some_iff.mp hu).1
    have hh : X.A.in1.handled = none := I.ok.hd hc
    refine wpAny_pyNext_enum_itemD (Draws.tuple (prog := X.prog) (w := X.w) hh it a hai its.toArray) he ⟨hit, p⟩ hlt hne (by simp [hne, hea]) fun u' h' tk hP ho hst' hT hsz hk => ?_
    have eu : u' = u := by
      have q1 : its.toArray[i]? = some u' := hP
      have q2 : its.toArray[i]? = some u := by simpa using hu
      exact Option.some.inj (q1.symm.trans q2)
    subst eu
    refine ⟨_, rfl, wpAny_letOwnedTupleGo_enum (s := { s with heap := h', toks := tk + 1 }) ho fun h'' he' sb => ?_⟩
    have hT2 : h''.get? s.heap.objs.size = some { cls := .type "tuple", data := .seq #[.int i tk, u'] } := (sb.2 _ (Nat.ne_of_gt hel)).trans hT
    have new : ObjOk X.prog X.w (upd H s.heap.objs.size (.tup [.int (i : Nat), x])) h'' s.heap.objs.size (.tup [.int (i : Nat), x]) :=
      ⟨by show 2 ≤ sizeLine; decide, [.int i tk, u'], .cons ⟨_, rfl⟩ (.cons ru .nil), ⟨_, hT2, rfl, _, rfl⟩⟩
    have I1 : Inv X pins σ (upd H s.heap.objs.size (.tup [.int (i : Nat), x])) { s with heap := h'', toks := tk + 1 } :=
      I.turnedNew (ch := [e, it]) (fun b ob hb q => (sb.2 b (fun z => hb (by simp [z]))).trans (hk b ob (fun z => hb (by simp [z])) (fun z => hb (by simp [z])) q)) hf (Nat.le_refl _) new
    refine ⟨.ref s.heap.objs.size, _, I1, rfl, ⟨_, x, rfl, I.hok.fresh (Nat.le_refl _), rfl, fun ys hy => by rw [I.tuple_inj hy hq]; exact hx⟩, ⟨⟨u', ?_⟩, hst'.1.at fun o q => (sb.2 it (Ne.symm hne)).trans q, hne, hai, hea⟩, fun b hb => ?_⟩
    · have e1 : ((i + 1 : Nat) : Int) = (i : Int) + 1 := by omega
      rw [e1]; exact he'
    · have hb' : b < s.heap.objs.size := by
        have e' : b = e ∨ b = it := by simpa using hb
        rcases e' with z | z
        · rw [z]; exact hel
        · rw [z]; exact hil
      rw [upd_ne (Nat.ne_of_lt hb')]
      exact (hf b hb).1
  done := by
    intro X hP hw hK hc i pins s σ H E I hf st hg
    subst hP hw hK
    obtain ⟨⟨old, he⟩, hit, hne, hai, hea⟩ := st
    obtain ⟨xs, hq, hx⟩ := hg
    obtain ⟨its, rv, p, hz⟩ := I.tuple hq
    obtain ⟨f0, f1, f2, f3, f4, f5⟩ := hf it (by simp)
    have hl := rv.length
    have hh : X.A.in1.handled = none := I.ok.hd hc
    exact enum_endT hh he hit p (by simp; omega) fun h' eb => ⟨rfl, I.turned (t' := s.toks) (fun b o hb q => eb b o hb q) f0 f1 f3 f4 f5⟩
  self := fun A i s Q E st h => let ⟨⟨_, he⟩, _⟩ := st; wpAny_pyIter_enum he h
def iEnumT (K : PySem.W.Frag) (ta : TA) : TI := fun σ H R => ta σ H fun vs H1 => ∃ a xs, vs = [.ref a] ∧ SqT K H1 a xs ∧ R (IteT K a) H1
theorem pi_enumT {X : Cx} {e : Expr} {ta : TA} {p pos tpos : Pos} {elts : List Expr} {kk : Nat} (hg : Gl X "enumerate") (hm : X.mg "enumerate" = none) (ha : PA X [e] ta) (hs : starEach [e] X.env = [(false, eval e X.env)] := by rfl) :
    PI X (.Tuple elts kk tpos) (.Call (.Name "enumerate" p) [e] [] pos) (iEnumT X.K ta) := by
  refine ⟨fun pins s σ H R I h => ?_⟩
  refine Call_ (ld_blt I hg hm boot_enumerate (PyProof.Rows.callWith_type1 (thn (ha.run pos pins s σ H _ I h) fun us s1 ⟨vs, H1, I1, r1, q1⟩ => ?_) hs rfl))
  obtain ⟨a, xs, ex, hq, q⟩ := q1
  subst ex
  cases r1 with
  | cons r rr =>
    cases rr
    cases r
    obtain ⟨its, rv, p', hz⟩ := I1.tuple hq
    have hlt : a < s1.heap.objs.size := by obtain ⟨_, z, _⟩ := p'; exact Heap.lt_size z
    refine enum_call1 (PySem.begins_tuple a its.toArray) p' fun h' he hit hsz hk => wpAny_pyIter_enum he ?_
    have I2 : Inv X pins σ H1 { s1 with heap := h' } := I1.kept (t' := s1.toks) hk
    refine ⟨s1.heap.objs.size + 1, [s1.heap.objs.size + 1, s1.heap.objs.size], _, _, H1, rfl, I2, turn_enumT a (s1.heap.objs.size + 1) s1.heap.objs.size, ⟨⟨.none, he⟩, ⟨_, hit, rfl, rfl⟩, Nat.succ_ne_self _, Nat.ne_of_lt hlt, Ne.symm (Nat.ne_of_lt (Nat.lt_succ_of_lt hlt))⟩, fun b hb => ?_, q⟩
    have e' : b = s1.heap.objs.size + 1 ∨ b = s1.heap.objs.size := by simpa using hb
    have hle : s1.heap.objs.size ≤ b := by
      rcases e' with z | z
      · rw [z]; exact Nat.le_add_right _ _
      · rw [z]; exact Nat.le_refl _
    exact I1.fpOk hle (I1.hok.fresh hle)
end
/-! ### len(set(xs)), whole numbers -/
theorem nubI_mem : ∀ {l : List Int} {x : Int}, x ∈ nubI l ↔ x ∈ l
  | [], x => Iff.rfl
  | y :: r, x => by
    unfold nubI
    split
    · rename_i h
      rw [nubI_mem, List.mem_cons]
      refine ⟨.inr, fun z => z.elim (fun e => e ▸ List.contains_iff_mem.mp h) id⟩
    · rw [List.mem_cons, List.mem_cons, nubI_mem]
theorem nubI_nodup : ∀ l : List Int, (nubI l).Nodup
  | [] => .nil
  | y :: r => by
    unfold nubI
    split
    · exact nubI_nodup r
    · rename_i h
      exact List.nodup_cons.mpr ⟨fun z => h (List.contains_iff_mem.mpr (nubI_mem.mp z)), nubI_nodup r⟩
theorem nodup_le : ∀ {a b : List Int}, a.Nodup → (∀ x ∈ a, x ∈ b) → a.length ≤ b.length
  | [], _, _, _ => Nat.zero_le _
  | x :: a, b, n, h => by
    have n' := List.nodup_cons.mp n
    have hx := h x List.mem_cons_self
    have q := nodup_le (a := a) (b := b.erase x) n'.2 fun y hy => by
      have hne : y ≠ x := fun e => by subst e; exact n'.1 hy
      exact (List.mem_erase_of_ne hne).mpr (h y (List.mem_cons_of_mem _ hy))
    rw [List.length_erase_of_mem hx] at q
    have : 0 < b.length := List.length_pos_of_mem hx
    rw [List.length_cons]
    omega
theorem nubI_len {l a : List Int} (n : a.Nodup) (h : ∀ x, x ∈ a ↔ x ∈ l) : a.length = (nubI l).length :=
  Nat.le_antisymm (nodup_le n fun x hx => nubI_mem.mpr ((h x).mp hx)) (nodup_le (nubI_nodup l) fun x hx => (h x).mpr (nubI_mem.mp hx))
theorem firstMet_ok (ns : List Int) : ∀ i, i ≤ ns.length → (PyProof.Rows.firstMet (fun i => ns.getD i 0) i).Nodup ∧ ∀ x, x ∈ PyProof.Rows.firstMet (fun i => ns.getD i 0) i ↔ x ∈ ns.take i
  | 0, _ => ⟨by rw [PyProof.Rows.firstMet_zero]; exact .nil, fun x => by rw [PyProof.Rows.firstMet_zero, List.take_zero]⟩
  | i + 1, hi => by
    obtain ⟨n, m⟩ := firstMet_ok ns i (by omega)
    have e1 : ns.getD i 0 = ns[i]'hi := by
      rw [List.getD_eq_getElem?_getD, List.getElem?_eq_getElem hi] <;> rfl
    have e2 : ns.take (i + 1) = ns.take i ++ [ns[i]'hi] := by
      rw [List.take_add_one, List.getElem?_eq_getElem hi] <;> rfl
    rw [PyProof.Rows.firstMet_succ, e2]
    unfold PyProof.Rows.step_dedup
    simp only [e1]
    split
    · rename_i h
      obtain ⟨y, hy, ey⟩ := List.any_eq_true.mp h
      have ey : y = ns[i]'hi := eq_of_beq ey
      refine ⟨n, fun x => ?_⟩
      rw [List.mem_append, List.mem_singleton, m]
      refine ⟨.inl, fun z => z.elim id fun e => ?_⟩
      rw [e, ← ey]
      exact (m y).mp hy
    · rename_i h
      refine ⟨?_, fun x => by rw [List.mem_append, List.mem_append, m]⟩
      rw [List.nodup_append]
      refine ⟨n, by simp, fun a ha b hb e => h (List.any_eq_true.mpr ⟨a, ha, ?_⟩)⟩
      rw [List.mem_singleton] at hb
      rw [e, hb]
      exact beq_self_eq_true _
def tLenSetA (K : PySem.W.Frag) (ta : TE) : TE := fun σ H Q => ta σ H fun x H1 => ∃ (l : Addr) (ns : List Int), x = .ref l ∧ (SqL K H1 l (ns.map V.int) ∨ SqT K H1 l (ns.map V.int)) ∧ ns.length ≤ 4000 ∧ Q (.int (nubI ns).length) H1
theorem pe_lenSetA {X : Cx} {a : Expr} {ta : TE} {p p2 q pos : Pos} (hc : X.calm = true) (hg : Gl X "len") (hm : X.mg "len" = none) (hg2 : Gl X "set") (hm2 : X.mg "set" = none) (ha : PE X a ta)
    (na : starEach [a] X.env = (false, eval a X.env) :: starEach [] X.env := by rfl) : PE X (.Call (.Name "len" p) [.Call (.Name "set" p2) [a] [] q] [] pos) (tLenSetA X.K ta) := by
  refine ⟨fun pins s σ H Q I h => ?_⟩
  refine Call_ (ld_blt I hg hm PySem.boot_len ?_)
  refine PyProof.Rows.callWith_builtin1 (PyProof.Rows.args_cons ?_ rfl) rfl rfl
  refine Call_ (ld_blt I hg2 hm2 PyProof.Rows.boot_set ?_)
  refine PyProof.Rows.callWith_type1 (PyProof.Rows.args_cons (thn (ha.run pins s σ H _ I h) fun v s1 ⟨x, H1, I1, r1, q1⟩ => PyProof.Rows.args_nil ?_) na) na rfl
  obtain ⟨l, ns, rfl, hq, hl, q1⟩ := q1
  cases r1
  rcases hq with hq | hq
  · obtain ⟨its, r, pl, hz⟩ := I1.list hq
    have hlen : its.toArray.size = ns.length := by rw [List.size_toArray, ← r.length, List.length_map]
    refine call_set_list (I1.ok.hd hc) pl.isList (ns := ns) (by simpa using r.ints) (by rw [hlen]; unfold scanBound; omega) fun h' tk hS hk => ?_
    refine PyProof.Rows.args_nil ?_
    obtain ⟨o, es, ep, t, ho, hex, hd, _, _, _, hf, hn⟩ := hS
    have I2 : Inv X pins σ H1 { s1 with heap := h', toks := tk } := I1.kept fun b o e => hk b o (Heap.lt_size e) e
    have ok := firstMet_ok ns ns.length (Nat.le_refl _)
    rw [List.take_length] at ok
    have e := nubI_len ok.1 ok.2
    rw [hlen, e] at hn
    have le : (nubI ns).length ≤ ns.length := nodup_le (nubI_nodup ns) fun x hx => nubI_mem.mp hx
    exact call_len_set ho hex hd hf (by rw [hn] <;> omega) ⟨.int (nubI ns).length, H1, I2.tok _, ⟨_, by rw [hn]⟩, q1⟩
  · obtain ⟨its, r, pl, hz⟩ := I1.tuple hq
    refine call_set_tupI ns (I1.ok.hd hc) pl (by simpa using r.ints) (by unfold scanBound; omega) fun h' tk c hS hcl hk => ?_
    refine PyProof.Rows.args_nil ?_
    obtain ⟨o, es, ep, t, ho, hex, hd, _, hnd, hmem, _, hf, hn, _⟩ := hS
    have I2 : Inv X pins σ H1 { s1 with heap := h', toks := tk } := I1.kept hk
    have e := nubI_len (l := ns) hnd fun x => by rw [← hmem x, decide_eq_true_eq]
    have hn2 : es.size = (nubI ns).length := by rw [← e, List.length_map, Array.length_toList]
    have le : (nubI ns).length ≤ ns.length := nodup_le (nubI_nodup ns) fun x hx => nubI_mem.mp hx
    exact call_len_set ho hex hd hf (by rw [hn2] <;> omega) ⟨.int (nubI ns).length, H1, I2.tok _, ⟨_, by rw [hn2]⟩, q1⟩
end Ev
set_option linter.all false
set_option maxRecDepth 100000
set_option maxHeartbeats 2000000
/-! Ev5: expressions. -/
namespace Ev
open PySem PySem.Spec PyProof.Rows L2

structure Tab where
  fs : List (Str × Fn)
  cs : List (Str × D)
  free : List Str
  xs : List Str
  /-- of each class of errors: of which classes it is -/
  isx : List (List Bool)
  /-- the defs that make lambdas -/
  lm : List Str
  ex : Option (List Bool)
def Tab.fn (T : Tab) (f : Nat) : Option Fn := (T.fs[f]?).map (·.2)
def Tab.glb (T : Tab) (g : Nat) : D := match T.cs[g]? with
  | some p => p.2
  | none => .non
def Tab.tr (T : Tab) (f : Nat) : Option (Str × List Str) := (T.fn f).bind (·.tr)
def Tab.lowN (T : Tab) (k : Nat) : Low := Ev.lowN T.fn T.glb T.tr T.ex k
def Tab.call (T : Tab) (k : Nat) : Nat → List Val → Hh → Res Val := (T.lowN k).call
def Tab.cfg (T : Tab) (k : Nat) : Cfg := ⟨T.call k, T.glb, (T.lowN k).low, (T.lowN k).low2, T.tr, T.ex⟩
/-- where a text stands: its names, its scope, which cells are its own -/
structure CC where
  N : List Str
  sc : Scope
  fn : Str → Bool
  /-- lambdas are made here -/
  lam : Bool
  /-- the suite of an except clause -/
  su : Bool

/-! ### looks at the text -/
def nameOk (x : Str) : Bool := !(x == ("__debug__" : Str)) && !(x == ("__classdict__" : Str)) && decide (x ≠ ("__name__" : Str))
def isVis (sc : Scope) (x : Str) : Bool := match sc.names.lookup x with
  | some .local => true
  | some .cell => true
  | some .free => true
  | _ => false
def isLoc (sc : Scope) (x : Str) : Bool := match sc.names.lookup x with
  | some .local => true
  | some .cell => true
  | _ => false
def isGl (sc : Scope) (x : Str) : Bool := decide (sc.names.lookup x = some .globalImplicit)
def noStar : Expr → Bool
  | .Starred _ _ => false
  | _ => true
def noSet : Expr → Bool
  | .Set _ _ _ => false
  | _ => true
def plainT : Expr → Bool
  | .UnaryOp .Not _ _ => false
  | .BoolOp _ _ _ => false
  | .IfExp _ _ _ _ => false
  | .Compare _ _ _ _ => false
  | _ => true
def isNmE : Expr → Bool
  | .Name _ _ => true
  | _ => false
def isCC : E → Bool
  | .cmp _ _ _ => true
  | .chain _ _ _ _ _ => true
  | _ => false
def conB : D → Const → Bool
  | .non, .none => true
  | .bl b, .bool c => b == c
  | .int i, .int j => decide (i = j)
  | .str x, .str y => decide (x = y)
  | _, _ => false
def biN : Bi → Str
  | .len => "len"
  | .abs => "abs"
  | .int => "int"
  | .list => "list"
  | .tuple => "tuple"
  | .all => "all"
  | .any => "any"
  | .sum => "sum"
  | .max2 => "max"
  | .min2 => "min"
  | .sorted => "sorted"
  | .max1 => "max"
  | .min1 => "min"
  | .str => "str"
def tyN : Ty → Str
  | .int => "int"
  | .bool => "bool"
  | .str => "str"
  | .tup => "tuple"
  | .lst => "list"
  | .dict => "dict"
def isIx : Expr → Bool
  | .Slice _ _ none _ => false
  | _ => true
def nmOk (C : CC) (i : Nat) (x : Str) : Bool := decide (C.N[i]? = some x) && isLoc C.sc x && (C.fn x || decide (C.sc.names.lookup x = some .local))
def chkNs (C : CC) : List Nat → List Expr → Bool
  | [], [] => true
  | i :: is, .Name x _ :: es => nmOk C i x && chkNs C is es
  | _, _ => false
def chkTg (C : CC) : Tg → Expr → Bool
  | .nm i, .Name x _ => nmOk C i x
  | .tp is, .Tuple xs _ _ => chkNs C is xs
  | _, _ => false
def tgIs : Tg → List Nat
  | .nm i => [i]
  | .tp is => is
def isTupE : Expr → Bool
  | .Tuple _ _ _ => true
  | _ => false
def ownP (N : List Str) (own : List Nat) : List (Str × Nat) := own.map fun i => (N.getD i "", i)
def CC.blk (C : CC) (scope : Scope) : CC := ⟨C.N, relS scope C.sc, fun x => scope.names.lookup x == some .cell, C.lam, false⟩
/-- within a lambda -/
def CC.lamb (C : CC) (scope : Scope) : CC := ⟨C.N, scope, fun _ => false, false, false⟩
def noPar (a : Arguments) : Bool := a.posonlyargs.isEmpty && a.args.isEmpty && a.vararg.isNone && a.kwonlyargs.isEmpty && a.kwarg.isNone && a.defaults.isEmpty && a.kw_defaults.isEmpty
mutual
def chkE (T : Tab) (C : CC) : E → Expr → Bool
  | .var i, .Name x _ => decide (C.N[i]? = some x) && isVis C.sc x && nameOk x
  | .con c, .Constant k _ _ => conB c k
  | .glb g, .Name x _ => isGl C.sc x && nameOk x && (match T.cs[g]? with
    | some p => decide (p.1 = x)
    | none => false)
  | .tup es, .Tuple xs _ _ => chkL T C es xs
  | .lst es, .List xs _ => chkL T C es xs
  | .bin o a b, .BinOp x op y _ => decide (op = opB o) && chkE T C a x && chkE T C b y
  | .neg a, .UnaryOp .USub x _ => chkE T C a x
  | .not a, .UnaryOp .Not x _ => chkE T C a x
  | .and es, .BoolOp .And xs _ => chkL T C es xs && !xs.isEmpty
  | .or es, .BoolOp .Or xs _ => chkL T C es xs && !xs.isEmpty
  | .cmp o a b, .Compare x [op] [y] _ => decide (op = cmB o) && !behindInMarks op y && chkE T C a x && chkE T C b y
  | .chain o p a b c, .Compare x [op, op'] [y, z] _ => decide (op = cmB o) && decide (op' = cmB p) && !lastMarks [op, op'] [y, z] && chkE T C a x && chkE T C b y && chkE T C c z
  | .ife c a b, .IfExp x y z _ => chkT T C c x && chkE T C a y && chkE T C b z
  | .call f es, .Call (.Name x _) xs [] _ => isGl C.sc x && nameOk x && chkL T C es xs && (match T.fs[f]? with
    | some p => decide (p.1 = x)
    | none => false)
  | .bi b es, .Call (.Name x _) xs [] _ => isGl C.sc x && nameOk x && chkL T C es xs && !xs.isEmpty && decide (x = biN b) && decide (x ∈ T.free)
  | .isi t a, .Call (.Name x _) [y, .Name z _] [] _ => isGl C.sc x && nameOk x && decide (x = "isinstance") && decide (x ∈ T.free) && isGl C.sc z && nameOk z && decide (z = tyN t) && decide (z ∈ T.free) && chkE T C a y && noStar y
  | .ix a b, .Subscript x y _ => chkE T C a x && chkE T C b y && isIx y
  | .sl a lo hi, .Subscript x (.Slice l u none _) _ => chkE T C a x && chkO T C lo l && chkO T C hi u
  | .mk a, x => chkE T C a x
  | .frz a, x => chkE T C a x
  | .lc elt tg it c own, .ListComp e [⟨t, i, ifs, z⟩] scope _ => decide (z = 0) && chkI T C it i t && noSet i && blkC C.N C.sc scope (ownP C.N own) && chkTg (C.blk scope) tg t && chkC T (C.blk scope) c ifs &&
      chkE T (C.blk scope) elt e && (tgIs tg).all (fun i => own.contains i)
  | .app o e, .Call (.Attribute x nm ap) [y] [] p => decide (nm = "append") && chkE T C o x && chkE T C e y && noStar y && (match x with | .Name _ _ => true | _ => false) && (ap.endLine == p.line)
  | .rev a, .Subscript x (.Slice none none (some (.UnaryOp .USub (.Constant (.int i) _ _) _)) _) _ => decide (i = 1) && chkE T C a x
  | .rgL t (.rng1 a), .Call (.Name x _) [.Call (.Name r _) [y] [] _] [] _ => isGl C.sc x && decide (x = if t then "tuple" else "list") && decide (x ∈ T.free) && isGl C.sc r && decide (r = "range") && decide (r ∈ T.free) && chkE T C a y && noStar y
  | .rgL t (.rng2 a b), .Call (.Name x _) [.Call (.Name r _) [y, z] [] _] [] _ => isGl C.sc x && decide (x = if t then "tuple" else "list") && decide (x ∈ T.free) && isGl C.sc r && decide (r = "range") && decide (r ∈ T.free) && chkE T C a y && noStar y && chkE T C b z && noStar z
  | .nset a, .Call (.Name x _) [.Call (.Name r _) [y] [] _] [] _ => isGl C.sc x && decide (x = "len") && decide (x ∈ T.free) && isGl C.sc r && decide (r = "set") && decide (r ∈ T.free) && chkE T C a y && noStar y
  | .pop o .nil, .Call (.Attribute x nm ap) [] [] p => decide (nm = "pop") && chkE T C o x && isNmE x && (ap.endLine == p.line)
  | .pop o (.cons e .nil), .Call (.Attribute x nm ap) [y] [] p => decide (nm = "pop") && chkE T C o x && chkE T C e y && noStar y && isNmE x && (ap.endLine == p.line)
  | .lam f b, .Call (.Name x _) [.Lambda params body scope _] [] _ => isGl C.sc x && nameOk x && (match T.fs[f]? with
    | some p => decide (p.1 = x) && p.2.tr.isSome
    | none => false) && noPar params && LamX.lamSB C.sc scope && C.lam && chkE T (C.lamb scope) b body
  | .isE i j, .Call (.Name x _) [.Name y _, .Name z _] [] _ => isGl C.sc x && decide (x = "isinstance") && decide (x ∈ T.free) && decide (C.N[i]? = some y) && isVis C.sc y && nameOk y && isGl C.sc z && nameOk z && C.su && (match T.xs[j]? with
    | some q => decide (q = z)
    | none => false)
  | .dnew _, .Dict [] [] _ => true
  | .din neg k d, .Compare x [op] [y] _ => decide (op = if neg then .NotIn else .In) && !behindInMarks op y && chkE T C k x && chkE T C d y
  | .dget d k, .Subscript x y _ => chkE T C d x && chkE T C k y && isIx y
  | .dlen d, .Call (.Name x _) [y] [] _ => isGl C.sc x && nameOk x && decide (x = "len") && decide (x ∈ T.free) && chkE T C d y && noStar y
  | .cnt ix a x, .Call (.Attribute y nm ap) [z] [] p => decide (nm = if ix then "index" else "count") && chkE T C a y && chkE T C x z && noStar z && isNmE y && (ap.endLine == p.line)
  | .lc2 elt tg it tg2 it2 own, .ListComp e [⟨t, i, [], z⟩, ⟨t2, i2, [], z2⟩] scope _ => decide (z = 0) && decide (z2 = 0) && chkI T C it i t && noSet i && noSet i2 && blkC C.N C.sc scope (ownP C.N own) && chkTg (C.blk scope) tg t && chkTg (C.blk scope) tg2 t2 &&
      chkI T (C.blk scope) it2 i2 t2 && chkE T (C.blk scope) elt e && (tgIs tg).all (fun i => own.contains i) && (tgIs tg2).all (fun i => own.contains i)
  | .join a e, .Call (.Attribute (.Constant (.str b) _ _) nm ap) [y] [] p => decide (nm = "join") && decide (a = b) && chkE T C e y && noStar y && (ap.endLine == p.line)
  | _, _ => false
def chkT (T : Tab) (C : CC) : B → Expr → Bool
  | .e a, x => (plainT x || isCC a) && chkE T C a x
  | .not a, .UnaryOp .Not x _ => chkT T C a x
  | .and bs, .BoolOp .And xs _ => chkTs T C bs xs && !xs.isEmpty
  | .or bs, .BoolOp .Or xs _ => chkTs T C bs xs && !xs.isEmpty
  | .ife c a b, .IfExp x y z _ => chkT T C c x && chkT T C a y && chkT T C b z
  | _, _ => false
def chkL (T : Tab) (C : CC) : Es → List Expr → Bool
  | .nil, [] => true
  | .cons e r, x :: xs => chkE T C e x && noStar x && chkL T C r xs
  | _, _ => false
def chkTs (T : Tab) (C : CC) : Bs → List Expr → Bool
  | .nil, [] => true
  | .cons e r, x :: xs => chkT T C e x && chkTs T C r xs
  | _, _ => false
def chkC (T : Tab) (C : CC) : Bs → List Expr → Bool
  | .nil, [] => true
  | .cons e .nil, [x] => chkT T C e x
  | _, _ => false
def chkO (T : Tab) (C : CC) : Es → Option Expr → Bool
  | .nil, none => true
  | .cons e .nil, some x => chkE T C e x
  | _, _ => false
def chkI (T : Tab) (C : CC) : It → Expr → Expr → Bool
  | .seq e, x, _ => chkE T C e x
  | .rng1 a, .Call (.Name x _) [y] [] _, _ => isGl C.sc x && decide (x = "range") && decide (x ∈ T.free) && chkE T C a y && noStar y
  | .rng2 a b, .Call (.Name x _) [y, z] [] _, _ => isGl C.sc x && decide (x = "range") && decide (x ∈ T.free) && chkE T C a y && noStar y && chkE T C b z && noStar z
  | .zip a b, .Call (.Name x _) [y, z] [] _, t => isGl C.sc x && decide (x = "zip") && decide (x ∈ T.free) && chkE T C a y && noStar y && chkE T C b z && noStar z && isTupE t
  | .enu a, .Call (.Name x _) [y] [] _, t => isGl C.sc x && decide (x = "enumerate") && decide (x ∈ T.free) && chkE T C a y && noStar y && isTupE t
  | _, _, _ => false
end

/-! ### what comes of a text -/
section
variable (K : PySem.W.Frag) (fa : FA) (ca : Nat → Addr) (EX : XK)
def Goes {α ξ : Type} [Nw α ξ] (Post : List Addr → Hh → Hp → α → ξ → Prop) (P m : List Addr) (h : Hh) (H : Hp) (r : Res α) (Q : ξ → Hp → Prop) : Prop := match r with
  | .ok a h' => ∀ m' x H', m <+: m' → XExt (Lv m h) (Lv m' h') H H' a x → Post m' h' H' a x → Q x H'
  | .err c h' => ∀ m' H', m <+: m' → HExt (Lv m h) (Lv m' h') H H' → HRel K fa P m' h' H' → EX (.ref (ca c)) none H'
  | .stuck => False
end
section
variable {K : PySem.W.Frag} {fa : FA} {ca : Nat → Addr} {EX : XK} {P m m1 : List Addr} {h h1 : Hh} {H H1 : Hp}
theorem Goes.later {α ξ : Type} [Nw α ξ] {Post : List Addr → Hh → Hp → α → ξ → Prop} {r : Res α} {Q : ξ → Hp → Prop} (G : Goes K fa ca EX Post P m h H r Q) (p : m <+: m1) (x : HExt (Lv m h) (Lv m1 h1) H H1) : Goes K fa ca EX Post P m1 h1 H1 r Q := by
  cases r with
  | ok a h' => exact fun m' z H' p' x' q => G m' z H' (p.trans p') (XExt.before x x') q
  | err c h' => exact fun m' H' p' x' q => G m' H' (p.trans p') (x.trans x') q
  | stuck => exact G
theorem Goes.bind {α β ξ ζ : Type} [Nw α ξ] [Nw β ζ] {Post : List Addr → Hh → Hp → α → ξ → Prop} {Post' : List Addr → Hh → Hp → β → ζ → Prop} {r : Res α} {g : α → Hh → Res β} {Q : ζ → Hp → Prop} {next : ξ → Hp → Prop} (G : Goes K fa ca EX Post' P m h H (r.bind g) Q)
    (step : ∀ a h1 m1 x H1, r = .ok a h1 → m <+: m1 → XExt (Lv m h) (Lv m1 h1) H H1 a x → Post m1 h1 H1 a x → Goes K fa ca EX Post' P m1 h1 H1 (g a h1) Q → next x H1) : Goes K fa ca EX Post P m h H r next := by
  cases r with
  | ok a h' => exact fun m' x H' p e q => step a h' m' x H' rfl p e q (Goes.later (r := g a h') G p e.ext)
  | err c h' => exact G
  | stuck => exact G
/-- .. as it is -/
theorem Goes.mono {α ξ : Type} [Nw α ξ] {Post Post' : List Addr → Hh → Hp → α → ξ → Prop} {r : Res α} {Q : ξ → Hp → Prop} (G : Goes K fa ca EX Post' P m h H r Q) (f : ∀ m' h' H' a x, Post m' h' H' a x → Post' m' h' H' a x) : Goes K fa ca EX Post P m h H r Q := by
  cases r with
  | ok a h' => exact fun m' x H' p e q => G m' x H' p e (f _ _ _ _ _ q)
  | err c h' => exact G
  | stuck => exact G
theorem Goes.fold {α ξ : Type} [Nw α ξ] {Post : List Addr → Hh → Hp → α → ξ → Prop} {r : Res α} {Q Q2 : ξ → Hp → Prop} (G : Goes K fa ca EX Post P m h H r Q) (f : ∀ x H1, Q x H1 → Q2 x H1) : Goes K fa ca EX Post P m h H r Q2 := by
  cases r with
  | ok a h1 => exact fun m1 x H1 p e q => f _ _ (G m1 x H1 p e q)
  | err c h1 => exact G
  | stuck => exact G
theorem Goes.ok {α ξ : Type} [Nw α ξ] {Post : List Addr → Hh → Hp → α → ξ → Prop} {a : α} {h' : Hh} {Q : ξ → Hp → Prop} (G : Goes K fa ca EX Post P m h H (.ok a h') Q) : ∀ m' x H', m <+: m' → XExt (Lv m h) (Lv m' h') H H' a x → Post m' h' H' a x → Q x H' := G
theorem Goes.ofO {α ξ : Type} [Nw α ξ] {Post : List Addr → Hh → Hp → α → ξ → Prop} {o : Option α} {Q : ξ → Hp → Prop} (G : Goes K fa ca EX Post P m h H (Ev.ofO o h) Q) : ∃ a, o = some a ∧ Goes K fa ca EX Post P m h H (.ok a h) Q := by
  cases o with
  | none => exact G.elim
  | some a => exact ⟨a, rfl, G⟩
end

/-- the state, and a text's reading -/
def tX {α ξ : Type} [Nw α ξ] (K : PySem.W.Frag) (fa : FA) (ca : Nat → Addr) (EX : XK) (Post : List Addr → List Addr → Hh → Hp → α → ξ → Prop) (f : Ve → Hh → Res α) : L2.St → Hp → (ξ → Hp → Prop) → Prop := fun σ H Q =>
  ∃ (P m : List Addr) (h : Hh) (env : Ve), HRel K fa P m h H ∧ ERel K fa P m h H env σ ∧ Goes K fa ca EX (Post P) P m h H (f env h) Q
section
variable (K : PySem.W.Frag) (fa : FA)
def pW (P m : List Addr) (h : Hh) (H : Hp) (w : W) (x : V) : Prop := PW K fa P m h H w x
def pB (P m : List Addr) (h : Hh) (H : Hp) (a x : Bool) : Prop := HRel K fa P m h H ∧ a = x
def pO (P m : List Addr) (h : Hh) (H : Hp) (a x : Option Int) : Prop := HRel K fa P m h H ∧ a = x
def pL (P m : List Addr) (h : Hh) (H : Hp) (a : List Val) (x : List V) : Prop := HRel K fa P m h H ∧ RepVs K fa P m h H a x
def pV (P m : List Addr) (h : Hh) (H : Hp) (a : Val) (x : V) : Prop := HRel K fa P m h H ∧ RepV K fa P m h H a x
/-- what is walked gives these items -/
def Wlk (P m : List Addr) (h : Hh) (H : Hp) (ds : List D) (J : L2.It) : Prop := ∃ (G : Hp → Prop) (Y : Nat → Hp → V → Hp → Prop), Walk J ds.length G Y ∧
  ∀ P' m' h' H', HExt (Ex P m h) (Ex P' m' h') H H' → HRel K fa P' m' h' H' → G H' ∧
    ∀ i x H'', i < ds.length → Y i H' x H'' → HExt (Lv m' h') (Lv m' h') H' H'' ∧ HRel K fa P' m' h' H'' ∧ ∃ d, ds[i]? = some d ∧ RepD K fa (Ex P' m' h') H'' d x
def pI (P m : List Addr) (h : Hh) (H : Hp) (ds : List D) (J : L2.It) : Prop := HRel K fa P m h H ∧ Wlk K fa P m h H ds J
end
/-- a call's promise -/
def spF (T : Tab) (K : PySem.W.Frag) (fa : FA) (ca : Nat → Addr) (k f : Nat) : Sp := fun vs H Q E => ∃ (P m : List Addr) (h : Hh) (args : List Val), HRel K fa P m h H ∧ RepVs K fa P m h H args vs ∧
  Goes K fa ca E (pV K fa P) P m h H (T.call k f args h) Q
/-- what a def makes of the call that it gets: a text if all is well, a text for each class of errors -/
def TTr (fa : FA) (ca : Nat → Addr) (q : Str × List Str) : (XK → Hp → VK → Prop) → Hp → VK → Prop := fun tl H Q =>
  tl (fun cls d H' => ∃ (c : Nat) (x : Str), cls = .ref (ca c) ∧ d = none ∧ q.2[c]? = some x ∧ (∀ p ∈ fa.tl, LamX.TabS H' p.1 p.2) ∧ ∀ H'', Kept fa H' H'' → Q (.str x) H'') H fun _ H' => Q (.str q.1) H'
/-- the def at f, of the name nm, does so with what it gets -/
structure TryOk (P : Program) (w : World) (K : PySem.W.Frag) (mg : Str → Option Value) (base : Heap) (fa : FA) (ca : Nat → Addr) (f : Nat) (nm : Str) (q : Str × List Str) : Prop where
  ex : ∃ (pg : Arguments) (bg : List Stmt) (sg : Scope) (dV kV doc pm : Value) (an : Option Addr) (cdv ct oc : Value) (od : Option Addr) (osl : Array (Option Value)) (Ng : List Str) (a : Str),
    K.lookup (fa f) = some ⟨oc, od, .func (PySem.W.fnOf nm nm pg bg sg dV kV doc pm an cdv ct), osl⟩ ∧ PySem.W.codeIn K cdv nm = true ∧ L2.Binds K (PySem.W.fnOf nm nm pg bg sg dV kV doc pm an cdv ct) [a] [] ∧ FnScope Ng [a] sg ∧ Ng[0]? = some a ∧ Vis sg a ∧ nameOk a = true ∧
    ∀ (X : Cx) (r : Str) (kk : Nat), X.prog = P → X.w = w → X.K = K → X.mg = mg → X.base = base → Room (kk + 2) X.A → LamX.GivesTo X Ng nm sg (fa f) cdv bg a r (TTr fa ca q)
/-- where the text stands, beside what the evaluator is told -/
structure GXc (T : Tab) (fa : FA) (ca : Nat → Addr) (k : Nat) (EX : XK) (C : CC) (X : Cx) : Prop where
  hN : X.N = C.N
  nd : C.N.Nodup
  sc : X.env.scope = C.sc
  calm : X.calm = true
  fn : X.fn = C.fn
  room : Room k X.A
  fns : ∀ (f : Nat) (nm : Str) (F : Fn), T.fs[f]? = some (nm, F) → X.mg nm = some (.ref (fa f)) ∧ PySem.W.keepIn X.K (.ref (fa f)) = true ∧ ∃ fd ps, Binds X.K fd ps [] ∧ ∀ k', k' ≤ k → FnOk X.prog X.w X.K X.mg X.base (L2.CX X.prog X.w) k' (fa f) fd ps (spF T X.K fa ca k' f)
  cs : ∀ (g : Nat) (nm : Str) (d : D), T.cs[g]? = some (nm, d) → ∃ u v, X.mg nm = some u ∧ RelV v u ∧ ∀ Y H, RepD X.K fa Y H d v
  free : ∀ x ∈ T.free, X.mg x = none
  pass : Passes (L2.CX X.prog X.w) X EX
  trs : ∀ (f : Nat) (nm : Str) (F : Fn) (q : Str × List Str), T.fs[f]? = some (nm, F) → F.tr = some q → TryOk X.prog X.w X.K X.mg X.base fa ca f nm q
  lamq : C.lam = true → ∃ c P, X.env.code = .ref c ∧ LamX.TabB X.base X.mg c P ∧ (P, X.env.qual ++ "<lambda>") ∈ fa.tl ∧ ∀ p ∈ fa.tl, p.1 = P → p.2 = X.env.qual ++ "<lambda>"
  ise : C.su = true → ∀ (bs : List Bool) (i j : Nat) (b : Bool) (y z : Str) (p1 p2 p3 p4 : Pos), T.ex = some bs → bs[j]? = some b → T.xs[j]? = some z → C.N[i]? = some y → isVis C.sc y = true → nameOk y = true → isGl C.sc z = true → nameOk z = true → isGl C.sc "isinstance" = true → X.mg "isinstance" = none →
    PE X (.Call (.Name "isinstance" p1) [.Name y p2, .Name z p3] [] p4) fun σ H Q => σ[i]? = some (some (.ref (fa exN))) ∧ Q (.bl b) H
/-- .. and two levels below, any text -/
structure GX (T : Tab) (fa : FA) (ca : Nat → Addr) (k : Nat) (EX : XK) (C : CC) (X : Cx) : Prop extends GXc T fa ca k EX C X where
  lv : ∀ k', k' + 2 = k → ∀ (e : E) (x : Expr) (C : CC) (X : Cx) (EX : XK), GXc T fa ca k' EX C X → chkE T C e x = true → PE X x (tX X.K fa ca EX (pW X.K fa) (evW (T.cfg k') e))

section
variable {X : Cx} {T : Tab} {fa : FA} {ca : Nat → Addr} {k : Nat} {EX : XK} {C : CC}
theorem _root_.L2.PE.imp {e : Expr} {t t' : TE} (p : PE X e t) (f : ∀ σ H Q, t' σ H Q → t σ H Q) : PE X e t' := ⟨fun pins s σ H Q I h => p.run pins s σ H Q I (f σ H Q h)⟩
theorem _root_.L2.PT.imp {e : Expr} {t t' : TT} (p : PT X e t) (f : ∀ σ H Q, t' σ H Q → t σ H Q) : PT X e t' := ⟨fun pins s σ H Q I h => p.run pins s σ H Q I (f σ H Q h)⟩
theorem _root_.L2.PA.imp {e : List Expr} {t t' : TA} (p : PA X e t) (f : ∀ σ H Q, t' σ H Q → t σ H Q) : PA X e t' := ⟨fun pos pins s σ H Q I h => p.run pos pins s σ H Q I (f σ H Q h)⟩
theorem _root_.L2.PO.imp {e : Option Expr} {t t' : TO} (p : PO X e t) (f : ∀ σ H Q, t' σ H Q → t σ H Q) : PO X e t' := ⟨fun pins s σ H Q I h => p.run pins s σ H Q I (f σ H Q h)⟩
theorem _root_.L2.PI.imp {tg e : Expr} {t t' : TI} (p : PI X tg e t) (f : ∀ σ H Q, t' σ H Q → t σ H Q) : PI X tg e t' := ⟨fun pins s σ H Q I h => p.run pins s σ H Q I (f σ H Q h)⟩
theorem _root_.L2.PTs.imp {e : List Expr} {t t' : TT} (p : PTs X e t) (f : ∀ σ H Q, t' σ H Q → t σ H Q) : PTs X e t' := ⟨fun pins s σ H Q I h => p.run pins s σ H Q I (f σ H Q h)⟩
theorem _root_.L2.PE.or {e : Expr} {t t' : TE} (p : PE X e t) (q : PE X e t') : PE X e (fun σ H Q => t σ H Q ∨ t' σ H Q) := ⟨fun pins s σ H Q I h => h.elim (p.run pins s σ H Q I) (q.run pins s σ H Q I)⟩
theorem vis_of {sc : Scope} {x : Str} (h : isVis sc x = true) : Vis sc x := by
  unfold isVis at h
  unfold Vis
  split at h <;> first | (rename_i e; rw [e]; simp; done) | cases h
theorem loc_of {sc : Scope} {x : Str} (h : isLoc sc x = true) : L2.Loc sc x := by
  unfold isLoc at h
  unfold L2.Loc
  split at h <;> first | (rename_i e; rw [e]; simp; done) | cases h
theorem nameOk_1 {x : Str} (h : nameOk x = true) : (x == ("__debug__" : Str)) = false := by
  unfold nameOk at h
  simp only [Bool.and_eq_true, Bool.not_eq_true'] at h
  exact h.1.1
theorem nameOk_2 {x : Str} (h : nameOk x = true) : (x == ("__classdict__" : Str)) = false := by
  unfold nameOk at h
  simp only [Bool.and_eq_true, Bool.not_eq_true'] at h
  exact h.1.2
theorem nameOk_3 {x : Str} (h : nameOk x = true) : x ≠ "__name__" := by
  unfold nameOk at h
  simp only [Bool.and_eq_true, Bool.not_eq_true', decide_eq_true_eq] at h
  exact h.2
theorem star_cons {e : Expr} {es : List Expr} {env : Env} (h : noStar e = true) : starEach (e :: es) env = (false, eval e env) :: starEach es env := by
  cases e <;> first | rfl | (simp [noStar] at h)
def noStars (es : List Expr) : Bool := es.all noStar
theorem star_all : ∀ {es : List Expr} {env : Env}, noStars es = true → ∀ x ∈ starEach es env, x.1 = false
  | [], _, _, x, hx => by simp [starEach] at hx
  | e :: es, env, h, x, hx => by
    simp only [noStars, List.all_cons, Bool.and_eq_true] at h
    rw [star_cons h.1] at hx
    rcases List.mem_cons.mp hx with rfl | hx
    · rfl
    · exact star_all h.2 x hx
theorem back_any {es : List Expr} {env : Env} {pos : Pos} (h : noStars es = true) : (backTo pos (starEach es env)).any (·.1) = false := by
  rw [List.any_eq_false]
  intro x hx
  unfold backTo at hx
  obtain ⟨y, hy, rfl⟩ := List.mem_map.mp hx
  rw [Bool.not_eq_true]
  exact star_all h y hy
theorem folded_no {e : Expr} {env : Env} (h : noSet e = true) (x : Value) : foldedSetIterable e env x = pure x := by
  unfold foldedSetIterable
  cases e <;> first | rfl | (simp [noSet] at h)
theorem plainIx_of {b : Expr} (h : isIx b = true) : PlainIx b := by
  intro o i
  unfold subscripted
  cases b <;> first | rfl | skip
  rename_i lo hi st p
  cases st with
  | none => simp [isIx] at h
  | some st => rfl
theorem isTrue_plainT {e : Expr} {env : Env} (h : plainT e = true) (whole : Sem Value) : isTrue e env whole = (do let v ← whole; standAt e.pos; holding [v] (truthy v)) := by
  cases e <;> first | rfl | (simp [plainT] at h; done) | skip
  rename_i op x p
  cases op <;> first | rfl | (simp [plainT] at h)
theorem GX.gl (g : GX T fa ca k EX C X) {x : Str} (h : isGl C.sc x = true) : Gl X x := by
  unfold Gl Env.kindOf
  rw [g.sc]
  exact of_decide_eq_true h
theorem GX.hu (g : GX T fa ca k EX C X) : X.A.units + 64 < cLine := g.room.units
theorem bi_boot (b : Bi) : bootBuiltins (biN b) = some (biV b) := by
  cases b <;> decide +kernel
theorem ty_boot (t : Ty) : bootBuiltins (tyN t) = some (.type (tyV' t)) := by
  cases t <;> decide +kernel
theorem pe_bi (g : GX T fa ca k EX C X) (b : Bi) {p pos : Pos} {e : Expr} {es : List Expr} {t : TA} (hg : isGl C.sc (biN b) = true) (hm : biN b ∈ T.free) (ha : PA X (e :: es) t) (hs : noStars (e :: es) = true) :
    PE X (.Call (.Name (biN b) p) (e :: es) [] pos) (tCB (rCall X.K fa (biD b)) t) := by
  have hs' : noStar e = true ∧ noStars es = true := by simpa [noStars] using hs
  cases b with
  | int => exact pe_callTy (call_bi g.calm .int) (g.gl hg) (g.free _ hm) (bi_boot .int) ha (by decide) (by decide) (star_cons hs'.1) (back_any hs'.2)
  | list => exact pe_callTy (call_bi g.calm .list) (g.gl hg) (g.free _ hm) (bi_boot .list) ha (by decide) (by decide) (star_cons hs'.1) (back_any hs'.2)
  | tuple => exact pe_callTy (call_bi g.calm .tuple) (g.gl hg) (g.free _ hm) (bi_boot .tuple) ha (by decide) (by decide) (star_cons hs'.1) (back_any hs'.2)
  | str => exact pe_callTy (call_bi g.calm .str) (g.gl hg) (g.free _ hm) (bi_boot .str) ha (by decide) (by decide) (star_cons hs'.1) (back_any hs'.2)
  | len => exact pe_callB (call_bi g.calm .len) (g.gl hg) (g.free _ hm) (bi_boot .len) ha (by decide) (by decide) (star_cons hs'.1) (back_any hs'.2)
  | abs => exact pe_callB (call_bi g.calm .abs) (g.gl hg) (g.free _ hm) (bi_boot .abs) ha (by decide) (by decide) (star_cons hs'.1) (back_any hs'.2)
  | all => exact pe_callB (call_bi g.calm .all) (g.gl hg) (g.free _ hm) (bi_boot .all) ha (by decide) (by decide) (star_cons hs'.1) (back_any hs'.2)
  | any => exact pe_callB (call_bi g.calm .any) (g.gl hg) (g.free _ hm) (bi_boot .any) ha (by decide) (by decide) (star_cons hs'.1) (back_any hs'.2)
  | sum => exact pe_callB (call_bi g.calm .sum) (g.gl hg) (g.free _ hm) (bi_boot .sum) ha (by decide) (by decide) (star_cons hs'.1) (back_any hs'.2)
  | max1 => exact pe_callB (call_bi g.calm .max1) (g.gl hg) (g.free _ hm) (bi_boot .max1) ha (by decide) (by decide) (star_cons hs'.1) (back_any hs'.2)
  | min1 => exact pe_callB (call_bi g.calm .min1) (g.gl hg) (g.free _ hm) (bi_boot .min1) ha (by decide) (by decide) (star_cons hs'.1) (back_any hs'.2)
  | max2 => exact pe_callB (call_bi g.calm .max2) (g.gl hg) (g.free _ hm) (bi_boot .max2) ha (by decide) (by decide) (star_cons hs'.1) (back_any hs'.2)
  | min2 => exact pe_callB (call_bi g.calm .min2) (g.gl hg) (g.free _ hm) (bi_boot .min2) ha (by decide) (by decide) (star_cons hs'.1) (back_any hs'.2)
  | sorted => exact pe_callB (call_bi g.calm .sorted) (g.gl hg) (g.free _ hm) (bi_boot .sorted) ha (by decide) (by decide) (star_cons hs'.1) (back_any hs'.2)
end
end Ev
set_option linter.all false
set_option maxRecDepth 100000
set_option maxHeartbeats 4000000
/-! Ev6: each text does what the evaluator tells. -/
namespace Ev
open PySem PySem.Spec PyProof.Rows L2

section
variable {K : PySem.W.Frag} {fa : FA} {P P' m m' : List Addr} {h h' : Hh} {H H' : Hp}
/-- carried over, with other ones that look on -/
theorem RepDs.go' (R : HRel K fa P m h H) (x : HExt (Lv m h) (Lv m' h') H H') (hP : ∀ a ∈ P', a ∈ P ∨ H a = none) {d : List D} {v : List V} (q : RepDs K fa (Ex P m h) H d v) : RepDs K fa (Ex P' m' h') H' d v :=
  q.ext (Y := Lv m h) x.keep (fun a z => by
    rcases z with z | z
    · rcases x.lv a z with w | w
      · exact .inl (.inl w)
      · exact .inr w
    · rcases hP a z with w | w
      · exact .inl (.inr w)
      · exact .inr (.of w)) (fun a z => .inl z) fun a z => R.live z
theorem RepD.go' (R : HRel K fa P m h H) (x : HExt (Lv m h) (Lv m' h') H H') (hP : ∀ a ∈ P', a ∈ P ∨ H a = none) {d : D} {v : V} (q : RepD K fa (Ex P m h) H d v) : RepD K fa (Ex P' m' h') H' d v :=
  q.ext (Y := Lv m h) x.keep (fun a z => by
    rcases z with z | z
    · rcases x.lv a z with w | w
      · exact .inl (.inl w)
      · exact .inr w
    · rcases hP a z with w | w
      · exact .inl (.inr w)
      · exact .inr (.of w)) (fun a z => .inl z) fun a z => R.live z
theorem sqT_go (R : HRel K fa P m h H) (x : HExt (Lv m h) (Lv m' h') H H') {a : Addr} {xs : List V} (q : SqT K H a xs) : SqT K H' a xs := by
  rcases q with (q | ⟨o, q⟩) | q
  · exact .inl (.inl (x.keep _ _ q (fun z => by obtain ⟨o', e, i⟩ := R.live z; rw [e] at q; cases q; exact i) (fun _ z => by cases z)))
  · exact .inl (.inr ⟨o, x.keep _ _ q (fun z => by obtain ⟨o', e, i⟩ := R.live z; rw [e] at q; cases q; exact i) (fun _ z => by cases z)⟩)
  · exact .inr q
theorem HRel.exC (R : HRel K fa P m h H) {a : Addr} (z : Ex P m h a) : ∃ o, H a = some o ∧ IsC o := by
  rcases z with z | z
  · exact R.live z
  · obtain ⟨⟨xs, e⟩, _⟩ := R.ph a z
    exact ⟨_, e, True.intro⟩
theorem HExt.toX (x : HExt (Lv m h) (Lv m' h') H H') (hP : ∀ a ∈ P', a ∈ P ∨ H a = none) : HExt (Ex P m h) (Ex P' m' h') H H' :=
  ⟨fun a o e n t => x.keep a o e (fun z => n (.inl z)) t, fun a z => by
    rcases z with z | z
    · exact (x.lv a z).imp .inl id
    · exact (hP a z).imp .inr .of⟩
theorem RepDs.goX (R : HRel K fa P m h H) (x : HExt (Ex P m h) (Ex P' m' h') H H') {d : List D} {v : List V} (q : RepDs K fa (Ex P m h) H d v) : RepDs K fa (Ex P' m' h') H' d v :=
  q.ext (Y := Ex P m h) x.keep x.lv (fun a z => z) fun a z => R.exC z
theorem RepD.goX (R : HRel K fa P m h H) (x : HExt (Ex P m h) (Ex P' m' h') H H') {d : D} {v : V} (q : RepD K fa (Ex P m h) H d v) : RepD K fa (Ex P' m' h') H' d v :=
  q.ext (Y := Ex P m h) x.keep x.lv (fun a z => z) fun a z => R.exC z
theorem ERel.goX (R : HRel K fa P m h H) (p : m <+: m') (x : HExt (Ex P m h) (Ex P' m' h') H H') {env : Ve} {σ : L2.St} (E : ERel K fa P m h H env σ) : ERel K fa P' m' h' H' env σ :=
  ⟨E.len, fun i v e => by
    obtain ⟨u, h1, h2⟩ := E.at_ i v e
    cases v with
    | d y => exact ⟨u, h1, RepD.goX R x h2⟩
    | ref n =>
      obtain ⟨a, e1, e2⟩ := h2
      exact ⟨u, h1, a, pre_at p e1, e2⟩⟩
theorem sqT_goX (R : HRel K fa P m h H) (x : HExt (Ex P m h) (Ex P' m' h') H H') {a : Addr} {xs : List V} (q : SqT K H a xs) : SqT K H' a xs := by
  rcases q with (q | ⟨o, q⟩) | q
  · exact .inl (.inl (x.keep _ _ q (fun z => by obtain ⟨o', e, i⟩ := R.exC z; rw [e] at q; cases q; exact i) (fun _ z => by cases z)))
  · exact .inl (.inr ⟨o, x.keep _ _ q (fun z => by obtain ⟨o', e, i⟩ := R.exC z; rw [e] at q; cases q; exact i) (fun _ z => by cases z)⟩)
  · exact .inr q
theorem wlk_tup (R : HRel K fa P m h H) {a : Addr} {xs : List V} {ds : List D} (s : SqT K H a xs) (r : RepDs K fa (Ex P m h) H ds xs) : Wlk K fa P m h H ds (Itt K a) := by
  refine ⟨_, _, by rw [r.length]; exact walk_tup, fun P' m' h' H' x R' => ⟨sqT_goX R x s, fun i y H'' hi q => ?_⟩⟩
  obtain ⟨rfl, e⟩ := q
  refine ⟨HExt.refl _ _, R', ?_⟩
  have r' := r.goX R x
  have hd : ds[i]? = some ds[i] := List.getElem?_eq_getElem hi
  obtain ⟨v, e1, e2⟩ := r'.get hd
  rw [e] at e1
  cases e1
  exact ⟨_, hd, e2⟩
theorem wlk_lst (R : HRel K fa P m h H) {a : Addr} {xs : List V} {ds : List D} (s : H a = some (.lst xs)) (n : ¬ Ex P m h a) (r : RepDs K fa (Ex P m h) H ds xs) : Wlk K fa P m h H ds (Itl K a) := by
  refine ⟨_, _, by rw [r.length]; exact walk_list, fun P' m' h' H' x R' => ⟨SqL.of (x.keep _ _ s n (fun _ z => by cases z)), fun i y H'' hi q => ?_⟩⟩
  obtain ⟨rfl, e⟩ := q
  refine ⟨HExt.refl _ _, R', ?_⟩
  have r' := r.goX R x
  have hd : ds[i]? = some ds[i] := List.getElem?_eq_getElem hi
  obtain ⟨v, e1, e2⟩ := r'.get hd
  rw [e] at e1
  cases e1
  exact ⟨_, hd, e2⟩
theorem rngL_length (lo hi : Int) : (rngL lo hi).length = (hi - lo).toNat := by simp [rngL]
theorem rngL_get (lo hi : Int) (i : Nat) (h : i < (rngL lo hi).length) : (rngL lo hi)[i]? = some (.int (lo + (i : Nat))) := by
  rw [rngL_length] at h
  simp [rngL, List.getElem?_map, List.getElem?_range h]
theorem wlk_rng (lo hi : Int) : Wlk K fa P m h H (rngL lo hi) (Itr lo (hi - lo).toNat) := by
  refine ⟨_, _, by rw [rngL_length]; exact walk_range, fun P' m' h' H' x R' => ⟨True.intro, fun i y H'' hi q => ?_⟩⟩
  obtain ⟨rfl, rfl⟩ := q
  exact ⟨HExt.refl _ _, R', _, rngL_get _ _ _ hi, .int _⟩
theorem zipL_length : ∀ as bs : List D, (zipL as bs).length = min as.length bs.length
  | [], bs => by simp [zipL]
  | a :: as, [] => by simp [zipL]
  | a :: as, b :: bs => by simp only [zipL, List.length_cons]; rw [zipL_length as bs]; omega
theorem zipL_get : ∀ (as bs : List D) (i : Nat) (a b : D), as[i]? = some a → bs[i]? = some b → (zipL as bs)[i]? = some (.tup [a, b])
  | [], _, _, _, _, h, _ => by simp at h
  | _ :: _, [], _, _, _, _, h => by simp at h
  | x :: as, y :: bs, 0, a, b, h, h' => by simp at h h'; subst h h'; rfl
  | x :: as, y :: bs, i + 1, a, b, h, h' => by simp only [zipL, List.getElem?_cons_succ] at h h' ⊢; exact zipL_get as bs i a b h h'
theorem walk_zipT {a b : Addr} {xs ys : List V} {n : Nat} (hn : n = min xs.length ys.length) : Walk (RZ.ItzT K a b) n (fun H => SqT K H a xs ∧ SqT K H b ys) (YPair (fun i => xs[i]?) (fun i => ys[i]?)) := by
  subst hn
  refine ⟨fun i H hi ⟨h1, h2⟩ => ?_, fun H ⟨h1, h2⟩ => ?_, fun i H x H' hi ⟨h1, h2⟩ q => ?_⟩
  · exact ⟨xs, ys, xs[i]'(by omega), ys[i]'(by omega), h1, h2, List.getElem?_eq_getElem _, List.getElem?_eq_getElem _⟩
  · exact ⟨xs, ys, h1, h2, by omega⟩
  · obtain ⟨T, x1, x2, e1, e2, e3, f1, f2⟩ := q
    exact ⟨T, x1, x2, e1, e2, e3, f1 _ h1, f2 _ h2⟩
theorem walk_zipM {a b : Addr} {xs ys : List V} {n : Nat} (hn : n = min xs.length ys.length) : Walk (ZM.ItzM K a b) n (fun H => SqT K H a xs ∧ SqL K H b ys) (YPair (fun i => xs[i]?) (fun i => ys[i]?)) := by
  subst hn
  refine ⟨fun i H hi ⟨h1, h2⟩ => ?_, fun H ⟨h1, h2⟩ => ?_, fun i H x H' hi ⟨h1, h2⟩ q => ?_⟩
  · exact ⟨xs, ys, xs[i]'(by omega), ys[i]'(by omega), h1, h2, List.getElem?_eq_getElem _, List.getElem?_eq_getElem _⟩
  · exact ⟨xs, ys, h1, h2, by omega⟩
  · obtain ⟨T, x1, x2, e1, e2, e3, f1, f2⟩ := q
    exact ⟨T, x1, x2, e1, e2, e3, f1 _ h1, f2 _ h2⟩
theorem wlk_pair (R : HRel K fa P m h H) {J : L2.It} {G : Hp → Prop} {xs ys : List V} {as bs : List D} (w : Walk J (zipL as bs).length G (YPair (fun i => xs[i]?) (fun i => ys[i]?)))
    (hG : ∀ P' m' h' H', HExt (Ex P m h) (Ex P' m' h') H H' → G H') (r : RepDs K fa (Ex P m h) H as xs) (r2 : RepDs K fa (Ex P m h) H bs ys) : Wlk K fa P m h H (zipL as bs) J := by
  refine ⟨_, _, w, fun P' m' h' H' x R' => ⟨hG _ _ _ _ x, fun i y H'' hi q => ?_⟩⟩
  obtain ⟨t, u, v, rfl, ht, rfl, e1, e2⟩ := q
  rw [zipL_length] at hi
  have ha : as[i]? = some (as[i]'(by omega)) := List.getElem?_eq_getElem _
  have hb : bs[i]? = some (bs[i]'(by omega)) := List.getElem?_eq_getElem _
  obtain ⟨u', f1, g1⟩ := (r.goX R x).get ha
  obtain ⟨v', f2, g2⟩ := (r2.goX R x).get hb
  replace e1 : xs[i]? = some u := e1
  replace e2 : ys[i]? = some v := e2
  rw [e1] at f1; cases f1
  rw [e2] at f2; cases f2
  refine ⟨HExt.new ht, R'.new ht, _, zipL_get _ _ _ _ _ ha hb, ?_⟩
  have g : RepDs K fa (Ex P' m' h') H' [as[i]'(by omega), bs[i]'(by omega)] [u, v] := .cons g1 (.cons g2 .nil)
  exact .tup upd_same (g.go R' (HExt.new ht))

theorem enuL_length : ∀ (n : Nat) (ds : List D), (enuL n ds).length = ds.length
  | _, [] => rfl
  | n, _ :: ds => by rw [enuL, List.length_cons, List.length_cons, enuL_length (n + 1) ds]
theorem enuL_get : ∀ (n : Nat) (ds : List D) (i : Nat) (d : D), ds[i]? = some d → (enuL n ds)[i]? = some (.tup [.int ((n + i : Nat) : Int), d])
  | _, [], _, _, e => by simp at e
  | n, x :: ds, 0, d, e => by simp at e; subst e; simp [enuL]
  | n, x :: ds, i + 1, d, e => by
    rw [enuL, List.getElem?_cons_succ, enuL_get (n + 1) ds i d (by simpa using e), show n + 1 + i = n + (i + 1) by omega]
theorem walk_enumT {a : Addr} {xs : List V} : Walk (IteT K a) xs.length (fun H => SqT K H a xs) (YPair (fun i => some (.int (i : Nat))) (fun i => xs[i]?)) := by
  refine ⟨fun i _ hi q => ⟨xs, xs[i], q, by simp [hi]⟩, fun _ q => ⟨xs, q, Nat.le_refl _⟩, fun i H v H' _ q y => ?_⟩
  obtain ⟨T, x, h1, h2, h3, h4⟩ := y
  exact ⟨T, .int (i : Nat), x, h1, h2, h3, rfl, h4 xs q⟩
theorem wlk_enu (R : HRel K fa P m h H) {J : L2.It} {G : Hp → Prop} {xs : List V} {ds : List D} (w : Walk J xs.length G (YPair (fun i => some (.int (i : Nat))) (fun i => xs[i]?)))
    (hG : ∀ P' m' h' H', HExt (Ex P m h) (Ex P' m' h') H H' → G H') (r : RepDs K fa (Ex P m h) H ds xs) : Wlk K fa P m h H (enuL 0 ds) J := by
  refine ⟨_, _, by rw [enuL_length, r.length]; exact w, fun P' m' h' H' x R' => ⟨hG _ _ _ _ x, fun i y H'' hi q => ?_⟩⟩
  obtain ⟨t, u, v, rfl, ht, rfl, e1, e2⟩ := q
  rw [enuL_length] at hi
  have hd : ds[i]? = some (ds[i]'hi) := List.getElem?_eq_getElem hi
  obtain ⟨v', f2, g2⟩ := (r.goX R x).get hd
  replace e1 : some (V.int (i : Nat)) = some u := e1
  cases e1
  replace e2 : xs[i]? = some v := e2
  rw [e2] at f2; cases f2
  refine ⟨HExt.new ht, R'.new ht, _, enuL_get _ _ _ _ hd, ?_⟩
  rw [Nat.zero_add]
  have g : RepDs K fa (Ex P' m' h') H' [.int (i : Nat), ds[i]'hi] [.int (i : Nat), v] := .cons (.int _) (.cons g2 .nil)
  exact .tup upd_same (g.go R' (HExt.new ht))

/-! ### slots -/
theorem wipe_set {i : Nat} {x : Option V} : ∀ {σ : L2.St} {vs : List Nat}, i ∈ vs → wipe (σ.set i x) vs = wipe σ vs
  | σ, [], hi => by simp at hi
  | σ, v :: vs, hi => by
    unfold wipe
    by_cases hv : i ∈ vs
    · rw [wipe_set hv]
    · have e : v = i := by
        rcases List.mem_cons.mp hi with e | e
        · exact e.symm
        · exact absurd e hv
      subst e
      have : ∀ (l : List Nat), v ∉ l → wipe (σ.set v x) l = (wipe σ l).set v x := by
        intro l
        induction l with
        | nil => intro _; rfl
        | cons w l ih =>
          intro hw
          simp only [List.mem_cons, not_or] at hw
          unfold wipe
          rw [ih hw.2, List.set_comm _ _ (Ne.symm hw.1)]
      rw [this vs hv, List.set_set]
theorem wipe_wipe (σ : L2.St) : ∀ (vs ws : List Nat), (∀ i ∈ ws, i ∈ vs) → wipe (wipe σ ws) vs = wipe σ vs
  | _, [], _ => rfl
  | vs, w :: ws, hs => by
    show wipe ((wipe σ ws).set w none) vs = _
    rw [wipe_set (hs w List.mem_cons_self), wipe_wipe σ vs ws fun i hi => hs i (List.mem_cons_of_mem _ hi)]
theorem wipeE_len (env : Ve) : ∀ vs : List Nat, (wipeE env vs).length = env.length
  | [] => rfl
  | v :: vs => by unfold wipeE; rw [List.length_set, wipeE_len env vs]
theorem wipeE_get {env : Ve} {i : Nat} {x : Val} : ∀ {vs : List Nat}, (wipeE env vs)[i]? = some (some x) → env[i]? = some (some x) ∧ i ∉ vs
  | [], h => ⟨h, by simp⟩
  | v :: vs, h => by
    unfold wipeE at h
    by_cases hi : v = i
    · subst hi
      by_cases hv : v < (wipeE env vs).length
      · rw [List.getElem?_set_self hv] at h; cases h
      · rw [List.getElem?_eq_none (by simpa using hv)] at h; cases h
    · rw [List.getElem?_set_ne hi] at h
      obtain ⟨h1, h2⟩ := wipeE_get h
      exact ⟨h1, by simp only [List.mem_cons, not_or]; exact ⟨fun e => hi e.symm, h2⟩⟩
theorem wipe_get {σ : L2.St} {i : Nat} : ∀ {vs : List Nat}, i ∉ vs → (wipe σ vs)[i]? = σ[i]?
  | [], _ => rfl
  | v :: vs, h => by
    simp only [List.mem_cons, not_or] at h
    unfold wipe
    rw [List.getElem?_set_ne (Ne.symm h.1), wipe_get h.2]
theorem ERel.wipe {env : Ve} {σ : L2.St} (E : ERel K fa P m h H env σ) (vs : List Nat) : ERel K fa P m h H (wipeE env vs) (L2.wipe σ vs) :=
  ⟨by rw [wipeE_len, wipe_length]; exact E.len, fun i v e => by
    obtain ⟨e1, e2⟩ := wipeE_get e
    obtain ⟨x, h1, h2⟩ := E.at_ i v e1
    exact ⟨x, by rw [wipe_get e2]; exact h1, h2⟩⟩
theorem ERel.set {env : Ve} {σ : L2.St} (E : ERel K fa P m h H env σ) (i : Nat) {v : Val} {x : V} (q : RepV K fa P m h H v x) : ERel K fa P m h H (env.set i (some v)) (σ.set i (some x)) :=
  ⟨by simp [E.len], fun j u e => by
    by_cases hj : i = j
    · subst hj
      by_cases hi : i < env.length
      · rw [List.getElem?_set_self hi] at e
        cases e
        exact ⟨x, by rw [List.getElem?_set_self (by rw [← E.len]; exact hi)], q⟩
      · rw [List.getElem?_eq_none (by simpa using hi)] at e; cases e
    · rw [List.getElem?_set_ne hj] at e
      obtain ⟨y, h1, h2⟩ := E.at_ j u e
      exact ⟨y, by rw [List.getElem?_set_ne hj]; exact h1, h2⟩⟩
/-- the same names, the cells' state with other ones that look on -/
theorem RepV.go' (R : HRel K fa P m h H) (p : m <+: m') (x : HExt (Lv m h) (Lv m' h') H H') (hP : ∀ a ∈ P', a ∈ P ∨ H a = none) : ∀ {v : Val} {u : V}, RepV K fa P m h H v u → RepV K fa P' m' h' H' v u
  | .d _, _, q => RepD.go' R x hP q
  | .ref _, _, ⟨a, e, q⟩ => ⟨a, pre_at p e, q⟩
theorem ERel.go' (R : HRel K fa P m h H) (p : m <+: m') (x : HExt (Lv m h) (Lv m' h') H H') (hP : ∀ a ∈ P', a ∈ P ∨ H a = none) {env : Ve} {σ : L2.St} (E : ERel K fa P m h H env σ) : ERel K fa P' m' h' H' env σ :=
  ⟨E.len, fun i v e => by
    obtain ⟨u, h1, h2⟩ := E.at_ i v e
    exact ⟨u, h1, h2.go' R p x hP⟩⟩

/-! ### targets -/
def tTgs (K : PySem.W.Frag) : List Nat → TGs
  | [] => gNil
  | i :: is => gCons (gName i) (tTgs K is)
def tTg (K : PySem.W.Frag) : Tg → TG
  | .nm i => gName i
  | .tp is => gTup K is.length (tTgs K is)
theorem tgs_ok : ∀ {is : List Nat} {vs : List Val} {xs : List V} {env env' : Ve} {σ : L2.St} {Q : L2.St → Hp → Prop}, putAll is vs env = some env' → RepVs K fa P m h H vs xs → ERel K fa P m h H env σ →
    (∀ σ', ERel K fa P m h H env' σ' → (∀ vs, (∀ i ∈ is, i ∈ vs) → L2.wipe σ' vs = L2.wipe σ vs) → Q σ' H) → tTgs K is xs σ H Q
  | [], [], _, env, env', σ, Q, e, .nil, E, q => by cases (Option.some.inj e); exact ⟨rfl, q σ E fun _ _ => rfl⟩
  | i :: is, v :: vs, _, env, env', σ, Q, e, .cons (v := x) (vs := xs) r rs, E, q => by
    refine ⟨x, xs, rfl, ?_⟩
    show tTgs K is xs (σ.set i (some x)) H Q
    refine tgs_ok (env := env.set i (some v)) (env' := env') e rs (E.set i r) fun σ' E' hw => q σ' E' fun ws hs => ?_
    rw [hw ws fun j hj => hs j (List.mem_cons_of_mem _ hj), wipe_set (hs i List.mem_cons_self)]
  | [], _ :: _, _, _, _, _, _, e, _, _, _ => by simp [putAll] at e
  | _ :: _, [], _, _, _, _, _, e, _, _, _ => by simp [putAll] at e
theorem putAll_len : ∀ {is : List Nat} {vs : List Val} {env env' : Ve}, putAll is vs env = some env' → vs.length = is.length
  | [], [], _, _, _ => rfl
  | i :: is, v :: vs, env, env', e => by rw [List.length_cons, List.length_cons, putAll_len (show putAll is vs (env.set i (some v)) = some env' from e)]
  | [], _ :: _, _, _, e => by simp [putAll] at e
  | _ :: _, [], _, _, e => by simp [putAll] at e
theorem RepVs.len : ∀ {vs : List Val} {xs : List V}, RepVs K fa P m h H vs xs → vs.length = xs.length
  | _, _, .nil => rfl
  | _, _, .cons _ r => by rw [List.length_cons, List.length_cons, r.len]
theorem tg_ok {tg : Tg} {v : Val} {x : V} {env env' : Ve} {σ : L2.St} {Q : L2.St → Hp → Prop} (e : bindT tg v env = some env') (r : RepV K fa P m h H v x) (E : ERel K fa P m h H env σ)
    (q : ∀ σ', ERel K fa P m h H env' σ' → (∀ vs, (∀ i ∈ tgIs tg, i ∈ vs) → L2.wipe σ' vs = L2.wipe σ vs) → Q σ' H) : tTg K tg x σ H Q := by
  cases tg with
  | nm i =>
    cases (Option.some.inj e)
    exact q _ (E.set i r) fun vs hs => wipe_set (hs i (List.mem_singleton.mpr rfl))
  | tp is =>
    cases v with
    | ref n => simp [bindT] at e
    | d d =>
      cases d <;> first | (simp [bindT] at e; done) | skip
      rename_i ds
      have r0 : RepD K fa (Ex P m h) H (.tup ds) x := r
      clear r
      cases r0 with
      | @tup a xs _ s r =>
        have e : putAll is (ds.map .d) env = some env' := e
        refine ⟨a, xs, rfl, SqT.of s, ?_, tgs_ok e (RepVs.of_ds r) E q⟩
        have h1 := putAll_len e
        rw [List.length_map] at h1
        rw [← r.length, h1]
end
section
variable {X : Cx} {T : Tab} {fa : FA} {ca : Nat → Addr} {k : Nat} {EX : XK} {C : CC}
theorem asgEach_ns : ∀ {is : List Nat} {xs : List Expr} (env : Env), chkNs C is xs = true → (assignEach xs env).length = is.length ∧ (assignEach xs env).findIdx? (·.1) = none
  | [], [], env, _ => ⟨rfl, rfl⟩
  | i :: is, x :: xs, env, h => by
    cases x <;> first | (simp [chkNs] at h; done) | skip
    rename_i x p
    simp only [chkNs, Bool.and_eq_true] at h
    obtain ⟨h1, h2⟩ := asgEach_ns (is := is) (xs := xs) env h.2
    have e : assignEach (.Name x p :: xs) env = (false, assign (.Name x p) env) :: assignEach xs env := rfl
    rw [e, List.length_cons, List.length_cons, h1, List.findIdx?_cons, h2]
    exact ⟨rfl, rfl⟩
  | [], _ :: _, _, h => by simp [chkNs] at h
  | _ :: _, [], _, h => by simp [chkNs] at h
structure GN (C : CC) (X : Cx) : Prop where
  hN : X.N = C.N
  nd : C.N.Nodup
  sc : X.env.scope = C.sc
  calm : X.calm = true
  fn : X.fn = C.fn
theorem GX.gn (g : GX T fa ca k EX C X) : GN C X := ⟨g.hN, g.nd, g.sc, g.calm, g.fn⟩
theorem pg_nm (g : GN C X) {i : Nat} {x : Str} {p : Pos} (h : nmOk C i x = true) : PG X (.Name x p) (gName i) := by
  unfold nmOk at h
  simp only [Bool.and_eq_true, Bool.or_eq_true, decide_eq_true_eq] at h
  obtain ⟨⟨h1, h2⟩, h3⟩ := h
  refine pg_name (by rw [g.hN]; exact g.nd) (by rw [g.hN]; exact h1) (by rw [g.sc]; exact loc_of h2) ?_
  rw [g.fn, g.sc]
  exact h3
theorem pgs_ns (g : GN C X) : ∀ {is : List Nat} {xs : List Expr}, chkNs C is xs = true → PGs X xs (tTgs X.K is)
  | [], [], _ => pgs_nil
  | i :: is, x :: xs, h => by
    cases x <;> first | (simp [chkNs] at h; done) | skip
    simp only [chkNs, Bool.and_eq_true] at h
    exact pgs_cons (pg_nm g h.1) (pgs_ns g h.2) rfl
  | [], _ :: _, h => by simp [chkNs] at h
  | _ :: _, [], h => by simp [chkNs] at h
theorem pg_tg (g : GN C X) {tg : Tg} {x : Expr} (h : chkTg C tg x = true) : PG X x (tTg X.K tg) := by
  cases tg with
  | nm i =>
    cases x <;> first | (simp [chkTg] at h; done) | skip
    exact pg_nm g (by simpa [chkTg] using h)
  | tp is =>
    cases x <;> first | (simp [chkTg] at h; done) | skip
    rename_i xs _ _
    have h : chkNs C is xs = true := by simpa [chkTg] using h
    exact pg_tup g.calm (pgs_ns g h) (asgEach_ns _ h).1 (asgEach_ns _ h).2
/-- within a comprehension's block -/
theorem GX.blk (g : GX T fa ca k EX C X) {scope : Scope} (s : Shared) (H : Hp) (c : Addr) (cl : List (Str × Addr)) (fp : List Addr) : GX T fa ca k E0 (C.blk scope) (X.blk s H scope (compEnvC scope cl c X.env) fp) where
  hN := g.hN
  nd := g.nd
  sc := by
    show relabel scope X.env = relS scope C.sc
    rw [← g.sc]
    rfl
  calm := g.calm
  fn := rfl
  room := g.room
  fns := g.fns
  cs := g.cs
  free := g.free
  pass := passL
  trs := g.trs
  lamq := g.lamq
  ise := fun z => by cases z
  lv := g.lv
theorem blk_own {N : List Str} {sc scope : Scope} {own : List Nat} (h : blkC N sc scope (ownP N own) = true) : (ownP N own).map (·.2) = own := by
  unfold ownP
  rw [List.map_map]
  exact List.map_id' own
end
end Ev
set_option linter.all false
set_option maxRecDepth 100000
set_option maxHeartbeats 4000000
/-! Ev7: each expression does what the evaluator tells. -/
namespace Ev
open PySem PySem.Spec PyProof.Rows L2

section
variable {K : PySem.W.Frag} {fa : FA} {P m m' : List Addr} {h h' : Hh} {H H' : Hp}
/-- one who looks on writes his own list -/
theorem RepDs.ph {p : Addr} {ys : List V} (hp : p ∈ P) (R : HRel K fa P m h H) {ds : List D} {vs : List V} (q : RepDs K fa (Ex P m h) H ds vs) : RepDs K fa (Ex P m h) (upd H p (.lst ys)) ds vs :=
  q.ext (Y := fun a => a = p) (fun a o e n _ => by rw [upd_ne n]; exact e) (fun a z => .inl z) (fun a z => by subst z; exact .inr hp) fun a z => by
    subst z
    obtain ⟨⟨xs, e⟩, _⟩ := R.ph a hp
    exact ⟨_, e, True.intro⟩
theorem CellOk.ph {p : Addr} {ys : List V} (hp : p ∈ P) (R : HRel K fa P m h H) {c : Cell} {o : HO} (q : CellOk K fa (Ex P m h) H c o) : CellOk K fa (Ex P m h) (upd H p (.lst ys)) c o :=
  q.ext (Y := fun a => a = p) (fun a o e n _ => by rw [upd_ne n]; exact e) (fun a z => .inl z) (fun a z => by subst z; exact .inr hp) fun a z => by
    subst z
    obtain ⟨⟨xs, e⟩, _⟩ := R.ph a hp
    exact ⟨_, e, True.intro⟩
theorem HRel.phPut {p : Addr} {ys : List V} (hp : p ∈ P) (R : HRel K fa P m h H) : HRel K fa P m h (upd H p (.lst ys)) where
  len := R.len
  cellG := fun n c a e1 e0 e2 => by
    obtain ⟨o, q, r⟩ := R.cellG n c a e1 e0 e2
    have : a ≠ p := fun z => by subst z; exact (R.ph a hp).2 ⟨n, c, e2, e1, e0⟩
    exact ⟨o, by rw [upd_ne this]; exact q, r.ph hp R⟩
  inj := R.inj
  ph := fun a ha => by
    by_cases z : a = p
    · subst z; exact ⟨⟨ys, upd_same⟩, (R.ph a ha).2⟩
    · rw [upd_ne z]; exact R.ph a ha
  tb := fun q hq => tabS_keep (R.tb q hq) fun b u e nc => by
    rw [upd_ne fun z => nc (by
      obtain ⟨⟨xs, e2⟩, _⟩ := R.ph p hp
      rw [z, e2] at e; cases e; exact True.intro)]
    exact e
theorem HExt.phPut {L L' : Addr → Prop} {p : Addr} {o : HO} (x : HExt L L' H H') (hp : H p = none) : HExt L L' H (upd H' p o) :=
  ⟨fun a o' e n t => by rw [upd_ne (ne_of_none e hp)]; exact x.keep a o' e n t, x.lv⟩
/-- a new list, that one looks on -/
theorem CellOk.go' (R : HRel K fa P m h H) (x : HExt (Lv m h) (Lv m' h') H H') {P' : List Addr} (hP : ∀ a ∈ P', a ∈ P ∨ H a = none) {c : Cell} {o : HO} (q : CellOk K fa (Ex P m h) H c o) : CellOk K fa (Ex P' m' h') H' c o :=
  q.ext (Y := Lv m h) x.keep (fun a z => by
    rcases z with z | z
    · rcases x.lv a z with w | w
      · exact .inl (.inl w)
      · exact .inr w
    · rcases hP a z with w | w
      · exact .inl (.inr w)
      · exact .inr (.of w)) (fun a z => .inl z) fun a z => R.live z
theorem HRel.phNew {p : Addr} {xs : List V} (hp : H p = none) (R : HRel K fa P m h H) : HRel K fa (p :: P) m h (upd H p (.lst xs)) where
  len := R.len
  cellG := fun n c a e1 e0 e2 => by
    obtain ⟨ys, q, r⟩ := R.cellG n c a e1 e0 e2
    exact ⟨ys, by rw [upd_ne (ne_of_none q hp)]; exact q, r.go' R (HExt.new hp) fun b hb => by
      rcases List.mem_cons.mp hb with rfl | hb
      · exact .inr hp
      · exact .inl hb⟩
  inj := R.inj
  ph := fun a ha => by
    rcases List.mem_cons.mp ha with rfl | ha
    · exact ⟨⟨xs, upd_same⟩, fun z => by obtain ⟨ys, e, _⟩ := R.live z; rw [hp] at e; cases e⟩
    · obtain ⟨⟨ys, e⟩, n⟩ := R.ph a ha
      exact ⟨⟨ys, by rw [upd_ne (ne_of_none e hp)]; exact e⟩, n⟩
  tb := fun q hq => tabS_keep (R.tb q hq) fun a o e _ => by rw [upd_ne (ne_of_none e hp)]; exact e
/-- .. given away -/
theorem HRel.phGive {p : Addr} {acc : List D} {xs : List V} (hn : p ∉ P) (R : HRel K fa (p :: P) m h H) (e : H p = some (.lst xs)) (r : RepDs K fa (Ex (p :: P) m h) H acc xs) : PW K fa P m h H (.fresh acc) (.ref p) := by
  have hk : ∀ a o, H a = some o → ¬ a = p → NT o → (fun b => if b = p then none else H b : Hp) a = some o := fun a o e n _ => by
    show (if a = p then none else H a) = some o
    rw [if_neg n]; exact e
  have sub : ∀ a, Ex P m h a → Ex (p :: P) m h a := fun a z => z.elim .inl fun w => .inr (List.mem_cons_of_mem _ w)
  have c : ∀ {ds : List D} {vs : List V}, RepDs K fa (Ex (p :: P) m h) H ds vs → RepDs K fa (Ex P m h) (fun b => if b = p then none else H b) ds vs := fun q =>
    q.ext (Y := fun a => a = p) hk (fun a z => .inl (sub a z)) (fun a z => by subst z; exact .inr List.mem_cons_self) fun a z => by subst z; exact ⟨_, e, True.intro⟩
  have c2 : ∀ {x : Cell} {o : HO}, CellOk K fa (Ex (p :: P) m h) H x o → CellOk K fa (Ex P m h) (fun b => if b = p then none else H b) x o := fun q =>
    q.ext (Y := fun a => a = p) hk (fun a z => .inl (sub a z)) (fun a z => by subst z; exact .inr List.mem_cons_self) fun a z => by subst z; exact ⟨_, e, True.intro⟩
  have hk2 : ∀ a o, H a = some o → ¬ a = p → (fun b => if b = p then none else H b : Hp) a = some o := fun a o e n => by
    show (if a = p then none else H a) = some o
    rw [if_neg n]; exact e
  have hlp : ¬ Lv m h p := (R.ph p List.mem_cons_self).2
  refine ⟨fun b => if b = p then none else H b, p, xs, ⟨R.len, fun n ds a e1 e0 e2 => ?_, R.inj, fun a ha => ?_, fun q hq => ?_⟩, if_pos rfl, c r, rfl, ?_⟩
  · obtain ⟨ys, q, s⟩ := R.cellG n ds a e1 e0 e2
    exact ⟨ys, hk2 _ _ q fun z => by subst z; exact hlp ⟨n, ds, e2, e1, e0⟩, c2 s⟩
  · obtain ⟨⟨ys, q⟩, n⟩ := R.ph a (List.mem_cons_of_mem _ ha)
    exact ⟨⟨ys, hk2 _ _ q fun z => by subst z; exact hn ha⟩, n⟩
  · exact tabS_keep (R.tb q hq) fun a o e3 nc => hk2 _ _ e3 fun z => nc (by rw [z, e] at e3; cases e3; exact True.intro)
  · funext b
    unfold upd
    by_cases z : b = p
    · subst z; rw [if_pos rfl]; exact e
    · simp only [if_neg z]
end
theorem compL_cons {F : D → Hh → Res (Option D)} {v : D} {vs acc : List D} {h h2 : Hh} {o : Option D} (e : F v h = .ok o h2) : compL F (v :: vs) acc h = (match (generalizing := false) o with
      | some d => if acc.length < lim then compL F vs (acc ++ [d]) h2 else .stuck
      | none => compL F vs acc h2) := by
  show (F v h).bindN _ = _
  rw [e]
  rfl
theorem bindN_ok' {α β : Type} {r : Res α} {f : α → Hh → Res β} (h : r.bindN f ≠ .stuck) : ∃ a h', r = .ok a h' ∧ f a h' ≠ .stuck := by
  cases r with
  | ok a h' => exact ⟨a, h', rfl, h⟩
  | err c h' => exact absurd rfl h
  | stuck => exact absurd rfl h
theorem bind_okE {α β : Type} {r : Res α} {f : α → Hh → Res β} {b : β} {h' : Hh} (h : r.bind f = .ok b h') : ∃ a h1, r = .ok a h1 ∧ f a h1 = .ok b h' := by
  cases r with
  | ok a h1 => exact ⟨a, h1, rfl, h⟩
  | err c h1 => cases h
  | stuck => cases h
section
variable {K : PySem.W.Frag} {fa : FA} {ca : Nat → Addr} {EX : XK}
theorem Goes.ns {α β ξ : Type} [Nw β ξ] {Post : List Addr → Hh → Hp → β → ξ → Prop} {P m : List Addr} {h : Hh} {H : Hp} {r : Res α} {g : α → Hh → Res β} {Q : ξ → Hp → Prop} (G : Goes K fa ca EX Post P m h H (r.bind g) Q) : r ≠ .stuck := by
  intro e; subst e; exact G
end
section
variable {X : Cx} {K : PySem.W.Frag} {fa : FA} {ca : Nat → Addr} {EX : XK} {σ : L2.St} {H : Hp} {Q : VK}
/-- the loop of a comprehension -/
theorem lc_run {cfg : Cfg} {tg : Tg} {c : Bs} {elt : E} {own : List Nat} {P m : List Addr} {h : Hh} {env : Ve} {H1 : Hp} {Dd : Addr} {items : List D} {J : L2.It} {h1 : Hh} {m1 : List Addr} (hw : Wlk K fa P m1 h1 H1 items J)
    (R1 : HRel K fa P m1 h1 H1) (E1 : ERel K fa P m1 h1 H1 env σ) (hD : H1 Dd = none) (htg : ∀ i ∈ tgIs tg, i ∈ own)
    (G : Goes K fa ca EX (pW K fa P) P m1 h1 H1 ((compL (fun d h => match bindT tg (.d d) (wipeE env own) with
        | some env1 => (evC cfg c env1 h).bind fun k h => if k then (evW cfg elt env1 h).bind fun w h => (match asD w.val with
            | some d => .ok (some d) h
            | none => .stuck) else .ok none h
        | none => .stuck) items [] h1).bind fun ds h => .ok (.fresh ds) h) Q) :
    ∃ W : Nat → Nat → Hp → Prop, (∃ m, W 0 m (upd H1 Dd (.lst []))) ∧ ∀ i m H, W i m H →
      (J.stop i H ∧ Q (.ref Dd) H) ∨ (J.go i H ∧ ∃ Nx : Hp → Prop, (∀ H', Nx H' → ∃ m', m' < m ∧ W (i + 1) m' H') ∧ ∀ x H', J.yld i H x H' → tTg K tg x (wipe σ own) H' fun σ2 H2 => wipe σ2 own = wipe σ own ∧
        tX K fa ca E0 (pB K fa) (evC cfg c) σ2 H2 fun b H3 =>
        if b = true then tX K fa ca E0 (pW K fa) (evW cfg elt) σ2 H3 fun y H4 => ∃ acc, H4 Dd = some (.lst acc) ∧ acc.length < sizeLine ∧ Nx (upd H4 Dd (.lst (acc ++ [y]))) else Nx H3) := by
  generalize hF : (fun (d : D) (h : Hh) => (match bindT tg (.d d) (wipeE env own) with
        | some env1 => (evC cfg c env1 h).bind fun k h => if k then (evW cfg elt env1 h).bind fun w h => (match asD w.val with
            | some d => .ok (some d) h
            | none => .stuck) else .ok none h
        | none => .stuck : Res (Option D))) = F at G
  obtain ⟨Gw, Y, wk, hw⟩ := hw
  have hP : ∀ a ∈ Dd :: P, a ∈ P ∨ H1 a = none := fun a ha => by
    rcases List.mem_cons.mp ha with rfl | ha
    · exact .inr hD
    · exact .inl ha
  have hnP : Dd ∉ P := fun z => by obtain ⟨⟨xs, e⟩, _⟩ := R1.ph Dd z; rw [hD] at e; cases e
  refine lc_it wk (fun i H => ∃ (m' : List Addr) (h' : Hh) (acc : List D) (xs : List V), m1 <+: m' ∧ HExt (Lv m1 h1) (Lv m' h') H1 H ∧ HRel K fa (Dd :: P) m' h' H ∧ H Dd = some (.lst xs) ∧ RepDs K fa (Ex (Dd :: P) m' h') H acc xs ∧
    compL F items [] h1 = compL F (items.drop i) acc h') ?_ ?_ ?_ ?_
  · exact ⟨m1, h1, [], [], List.prefix_refl _, HExt.new hD, R1.phNew hD, upd_same, .nil, rfl⟩
  · rintro i H hi ⟨m', h', acc, xs, p, x, R, _, _, _⟩
    exact (hw _ _ _ _ (x.toX hP) R).1
  · rintro i x H H' hi ⟨m', h', acc, xs, p, ext, R, eD, ra, ec⟩ hy
    obtain ⟨x2, R2, d, ed, rd⟩ := (hw _ _ _ _ (ext.toX hP) R).2 i x _ hi hy
    have hdrop : items.drop i = d :: items.drop (i + 1) := by
      rw [List.drop_eq_getElem_cons hi]
      have : items[i] = d := by rw [List.getElem?_eq_getElem hi] at ed; exact Option.some.inj ed
      rw [this]
    have ns : compL F (d :: items.drop (i + 1)) acc h' ≠ .stuck := by
      rw [← hdrop, ← ec]
      exact G.ns
    obtain ⟨o, h4, eF, ns2⟩ := bindN_ok' (show (F d h').bindN _ ≠ .stuck from ns)
    have eC := compL_cons (vs := items.drop (i + 1)) (acc := acc) eF
    rw [hdrop, eC] at ec
    -- the item to its names
    have E2 := (E1.go' R1 p (ext.trans x2) hP).wipe own
    rw [← hF] at eF
    simp only at eF
    cases eb : bindT tg (.d d) (wipeE env own) with
    | none => rw [eb] at eF; cases eF
    | some env1 =>
      rw [eb] at eF
      simp only at eF
      refine tg_ok eb rd E2 fun σ2 E3 hwp => ⟨?_, ?_⟩
      · rw [hwp own htg, wipe_wipe σ own own fun _ z => z]
      obtain ⟨kb, h3, e3, eF⟩ := bind_okE eF
      refine ⟨Dd :: P, m', h', env1, R2, E3, ?_⟩
      rw [e3]
      rintro m3 b H3 p3 ⟨x3, _⟩ ⟨R3, rfl⟩
      have eD3 : H3 Dd = some (.lst xs) := x3.keep _ _ (x2.keep _ _ eD (R.ph Dd List.mem_cons_self).2 (fun _ z => by cases z)) (R2.ph Dd List.mem_cons_self).2 (fun _ z => by cases z)
      cases kb with
      | false =>
        rw [if_neg Bool.false_ne_true]
        simp only [Bool.false_eq_true, if_false] at eF
        cases eF
        exact ⟨m3, _, acc, xs, p.trans p3, (ext.trans x2).trans x3, R3, eD3, (ra.go R x2).go R2 x3, ec⟩
      | true =>
        rw [if_pos rfl]
        simp only [if_true] at eF
        obtain ⟨w, h5, e5, eF⟩ := bind_okE eF
        refine ⟨Dd :: P, m3, h3, env1, R3, E3.go R2 p3 x3, ?_⟩
        rw [e5]
        rintro m5 y H5 p5 ⟨x5, _⟩ q5
        have R5 : HRel K fa (Dd :: P) m5 h5 H5 := PW.rel q5
        have v5 := PW.val q5
        cases ew : asD w.val with
        | none => rw [ew] at eF; cases eF
        | some dd =>
          rw [ew] at eF
          cases eF
          simp only at ec
          split at ec
          · rename_i hl
            have eD5 : H5 Dd = some (.lst xs) := x5.keep _ _ eD3 (R3.ph Dd List.mem_cons_self).2 (fun _ z => by cases z)
            have ra5 := ((ra.go R x2).go R2 x3).go R3 x5
            refine ⟨xs, eD5, by rw [← ra.length, ← lim_eq]; exact hl, m5, _, acc ++ [dd], xs ++ [y], (p.trans p3).trans p5, HExt.phPut (((ext.trans x2).trans x3).trans x5) hD, R5.phPut List.mem_cons_self, upd_same, ?_, ec⟩
            exact (ra5.append (.cons (asD_ok ew v5) .nil)).ph List.mem_cons_self R5
          · exact absurd ec G.ns
  · rintro H ⟨m', h', acc, xs, p, ext, R, eD, ra, ec⟩
    rw [List.drop_length] at ec
    rw [ec] at G
    exact G.ok _ _ _ p ⟨ext, fun b z => by obtain ⟨_, e⟩ := z; cases e; exact .inr (.of hD)⟩ (R.phGive hnP eD ra)
/-- a walk as a measure -/
theorem walk_W {J : L2.It} {n : Nat} {G : Hp → Prop} {Y : Nat → Hp → V → Hp → Prop} (w : Walk J n G Y) {H0 : Hp} {Qd : Hp → Prop} {St : (Hp → Prop) → V → Hp → Prop} (Pv : Nat → Hp → Prop) (h0 : Pv 0 H0) (hG : ∀ i H, i ≤ n → Pv i H → G H)
    (hs : ∀ i x H H', i < n → Pv i H → Y i H x H' → St (Pv (i + 1)) x H') (hd : ∀ H, Pv n H → Qd H) :
    ∃ W : Nat → Nat → Hp → Prop, (∃ m, W 0 m H0) ∧ ∀ i m H, W i m H → (J.stop i H ∧ Qd H) ∨ (J.go i H ∧ ∃ Nx : Hp → Prop, (∀ H', Nx H' → ∃ m', m' < m ∧ W (i + 1) m' H') ∧ ∀ x H', J.yld i H x H' → St Nx x H') := by
  refine ⟨fun i m H => i + m = n ∧ Pv i H, ⟨n, by omega, h0⟩, ?_⟩
  rintro i m H ⟨hm, p⟩
  have q := hG i H (by omega) p
  by_cases hlt : i < n
  · exact .inr ⟨w.goes i H hlt q, Pv (i + 1), fun H' p' => ⟨m - 1, by omega, by omega, p'⟩, fun x H' y => hs i x H H' hlt p (w.yields i H x H' hlt q y)⟩
  · have e : i = n := by omega
    subst e
    exact .inl ⟨w.stops H q, hd H p⟩
theorem bindN_okE {α β : Type} {r : Res α} {f : α → Hh → Res β} {b : β} {h' : Hh} (h : r.bindN f = .ok b h') : ∃ a h1, r = .ok a h1 ∧ f a h1 = .ok b h' := by
  cases r with
  | ok a h1 => exact ⟨a, h1, rfl, h⟩
  | err c h1 => cases h
  | stuck => cases h
theorem tgIs_eq (tg : Tg) : tgIs0 tg = tgIs tg := by cases tg <;> rfl
theorem lc2_run {cfg : Cfg} {tg tg2 : Tg} {it2 : It} {elt : E} {own : List Nat} {P : List Addr} {env : Ve} {H1 : Hp} {Dd : Addr} {items : List D} {J : L2.It} {h1 : Hh} {m1 : List Addr} (hw : Wlk K fa P m1 h1 H1 items J)
    (R1 : HRel K fa P m1 h1 H1) (E1 : ERel K fa P m1 h1 H1 env σ) (hD : H1 Dd = none) (htg : ∀ i ∈ tgIs tg, i ∈ own)
    (G : Goes K fa ca EX (pW K fa P) P m1 h1 H1 ((comp2 (fun d acc h => match bindT tg (.d d) (wipeE env own) with
      | some env1 => (evI cfg it2 env1 h).bindN fun items2 h => compL (fun d h => match bindT tg2 (.d d) (wipeE env1 (tgIs0 tg2)) with
          | some env2 => (evW cfg elt env2 h).bind fun w h => (match asD w.val with
            | some d => .ok (some d) h
            | none => .stuck)
          | none => .stuck) items2 acc h
      | none => .stuck) items [] h1).bind fun ds h => .ok (.fresh ds) h) Q) :
    ∃ W : Nat → Nat → Hp → Prop, (∃ m, W 0 m (upd H1 Dd (.lst []))) ∧ ∀ i m H, W i m H →
      (J.stop i H ∧ Q (.ref Dd) H) ∨ (J.go i H ∧ ∃ Nx : Hp → Prop, (∀ H', Nx H' → ∃ m', m' < m ∧ W (i + 1) m' H') ∧ ∀ x H', J.yld i H x H' → tTg K tg x (wipe σ own) H' fun σ2 H2 => wipe σ2 own = wipe σ own ∧
        tX K fa ca E0 (pB K fa) (evC cfg .nil) σ2 H2 fun b H3 =>
        if b = true then tX K fa ca E0 (pI K fa) (evI cfg it2) σ2 H3 fun J1 H4 => ∃ W1 : Nat → Nat → Hp → Prop, (∃ m, W1 0 m H4) ∧ ∀ j k H, W1 j k H →
          (J1.stop j H ∧ Nx H) ∨ (J1.go j H ∧ ∃ Nx1 : Hp → Prop, (∀ H', Nx1 H' → ∃ k', k' < k ∧ W1 (j + 1) k' H') ∧ ∀ x H', J1.yld j H x H' → tTg K tg2 x (wipe σ2 (tgIs0 tg2)) H' fun σ3 H5 => wipe σ3 (tgIs0 tg2) = wipe σ2 (tgIs0 tg2) ∧
            tX K fa ca E0 (pB K fa) (evC cfg .nil) σ3 H5 fun b H6 =>
            if b = true then tX K fa ca E0 (pW K fa) (evW cfg elt) σ3 H6 fun y H7 => ∃ acc, H7 Dd = some (.lst acc) ∧ acc.length < sizeLine ∧ Nx1 (upd H7 Dd (.lst (acc ++ [y]))) else Nx1 H6)
        else Nx H3) := by
  generalize hF : (fun (d : D) (acc : List D) (h : Hh) => (match bindT tg (.d d) (wipeE env own) with
      | some env1 => (evI cfg it2 env1 h).bindN fun items2 h => compL (fun d h => match bindT tg2 (.d d) (wipeE env1 (tgIs0 tg2)) with
          | some env2 => (evW cfg elt env2 h).bind fun w h => (match asD w.val with
            | some d => .ok (some d) h
            | none => .stuck)
          | none => .stuck) items2 acc h
      | none => .stuck : Res (List D))) = F at G
  obtain ⟨Gw, Y, wk, hw⟩ := hw
  have hP : ∀ a ∈ Dd :: P, a ∈ P ∨ H1 a = none := fun a ha => by
    rcases List.mem_cons.mp ha with rfl | ha
    · exact .inr hD
    · exact .inl ha
  have hnP : Dd ∉ P := fun z => by obtain ⟨⟨xs, e⟩, _⟩ := R1.ph Dd z; rw [hD] at e; cases e
  have nt : ∀ xs : List V, NT (.lst xs) := fun xs _ z => by cases z
  refine walk_W wk (fun i H => ∃ (m' : List Addr) (h' : Hh) (acc : List D) (xs : List V), m1 <+: m' ∧ HExt (Lv m1 h1) (Lv m' h') H1 H ∧ HRel K fa (Dd :: P) m' h' H ∧ H Dd = some (.lst xs) ∧ RepDs K fa (Ex (Dd :: P) m' h') H acc xs ∧
    comp2 F items [] h1 = comp2 F (items.drop i) acc h') ?_ ?_ ?_ ?_
  · exact ⟨m1, h1, [], [], List.prefix_refl _, HExt.new hD, R1.phNew hD, upd_same, .nil, rfl⟩
  · rintro i H hi ⟨m', h', acc, xs, p, x, R, _, _, _⟩
    exact (hw _ _ _ _ (x.toX hP) R).1
  · rintro i x H H' hi ⟨m', h', acc, xs, p, ext, R, eD, ra, ec⟩ hy
    obtain ⟨x2, R2, d, ed, rd⟩ := (hw _ _ _ _ (ext.toX hP) R).2 i x _ hi hy
    have hdrop : items.drop i = d :: items.drop (i + 1) := by
      rw [List.drop_eq_getElem_cons hi]
      have : items[i] = d := by rw [List.getElem?_eq_getElem hi] at ed; exact Option.some.inj ed
      rw [this]
    have ns : comp2 F (d :: items.drop (i + 1)) acc h' ≠ .stuck := by
      rw [← hdrop, ← ec]
      exact G.ns
    obtain ⟨acc2, h6, eF, ns2⟩ := bindN_ok' (show (F d acc h').bindN _ ≠ .stuck from ns)
    have eC : comp2 F (d :: items.drop (i + 1)) acc h' = comp2 F (items.drop (i + 1)) acc2 h6 := by
      show (F d acc h').bindN _ = _
      rw [eF]
      rfl
    rw [hdrop, eC] at ec
    have E2 := (E1.go' R1 p (ext.trans x2) hP).wipe own
    rw [← hF] at eF
    simp only at eF
    cases eb : bindT tg (.d d) (wipeE env own) with
    | none => rw [eb] at eF; cases eF
    | some env1 =>
      rw [eb] at eF
      simp only at eF
      refine tg_ok eb rd E2 fun σ2 E3 hwp => ⟨?_, ?_⟩
      · rw [hwp own htg, wipe_wipe σ own own fun _ z => z]
      obtain ⟨items2, h3, e3, eF2⟩ := bindN_okE eF
      refine ⟨Dd :: P, m', h', env1, R2, E3, ?_⟩
      show Goes K fa ca E0 _ _ _ _ _ (.ok true h') _
      rintro m3 b H3 p3 ⟨x3, _⟩ ⟨R3, rfl⟩
      rw [if_pos rfl]
      refine ⟨Dd :: P, m3, h', env1, R3, E3.go R2 p3 x3, ?_⟩
      rw [e3]
      rintro m4 J1 H4 p4 ⟨x4, _⟩ ⟨R4, Gw2, Y2, wk2, hw2⟩
      have eD4 : H4 Dd = some (.lst xs) := x4.keep _ _ (x3.keep _ _ (x2.keep _ _ eD (R.ph Dd List.mem_cons_self).2 (nt _)) (R2.ph Dd List.mem_cons_self).2 (nt _)) (R3.ph Dd List.mem_cons_self).2 (nt _)
      have E4 := (E3.go R2 p3 x3).go R3 p4 x4
      have ra4 := ((ra.go R x2).go R2 x3).go R3 x4
      generalize hF2 : (fun (d : D) (h : Hh) => (match bindT tg2 (.d d) (wipeE env1 (tgIs0 tg2)) with
          | some env2 => (evW cfg elt env2 h).bind fun w h => (match asD w.val with
            | some d => .ok (some d) h
            | none => .stuck)
          | none => .stuck : Res (Option D))) = F2 at eF2
      refine walk_W wk2 (fun j H => ∃ (m5 : List Addr) (h5 : Hh) (acc5 : List D) (xs5 : List V), m4 <+: m5 ∧ HExt (Ex (Dd :: P) m4 h3) (Ex (Dd :: P) m5 h5) H4 H ∧ HRel K fa (Dd :: P) m5 h5 H ∧ H Dd = some (.lst xs5) ∧ RepDs K fa (Ex (Dd :: P) m5 h5) H acc5 xs5 ∧
        HExt (Lv m1 h1) (Lv m5 h5) H1 H ∧ compL F2 items2 acc h3 = compL F2 (items2.drop j) acc5 h5) ?_ ?_ ?_ ?_
      · exact ⟨m4, h3, acc, xs, List.prefix_refl _, HExt.refl _ _, R4, eD4, ra4, ((ext.trans x2).trans x3).trans x4, rfl⟩
      · rintro j H hj ⟨m5, h5, acc5, xs5, p5, xx, R5, _⟩
        exact (hw2 _ _ _ _ xx R5).1
      · rintro j y H5 H6 hj ⟨m5, h5, acc5, xs5, p5, xx, R5, eD5, ra5, bx, ec2⟩ hy2
        obtain ⟨x6, R6, d2, ed2, rd2⟩ := (hw2 _ _ _ _ xx R5).2 j y _ hj hy2
        have hdrop2 : items2.drop j = d2 :: items2.drop (j + 1) := by
          rw [List.drop_eq_getElem_cons hj]
          have : items2[j] = d2 := by rw [List.getElem?_eq_getElem hj] at ed2; exact Option.some.inj ed2
          rw [this]
        have nsb : compL F2 (d2 :: items2.drop (j + 1)) acc5 h5 ≠ .stuck := by
          rw [← hdrop2, ← ec2, eF2]
          exact fun z => by cases z
        obtain ⟨o, h7, eF3, _⟩ := bindN_ok' (show (F2 d2 h5).bindN _ ≠ .stuck from nsb)
        have eC2 := compL_cons (vs := items2.drop (j + 1)) (acc := acc5) eF3
        rw [hdrop2, eC2] at ec2
        have E5 := ((E4.goX R4 p5 xx).go R5 (List.prefix_refl _) x6).wipe (tgIs0 tg2)
        rw [← hF2] at eF3
        simp only at eF3
        cases eb2 : bindT tg2 (.d d2) (wipeE env1 (tgIs0 tg2)) with
        | none => rw [eb2] at eF3; cases eF3
        | some env2 =>
          rw [eb2] at eF3
          simp only at eF3
          refine tg_ok eb2 rd2 E5 fun σ3 E6 hwp2 => ⟨?_, ?_⟩
          · rw [hwp2 (tgIs0 tg2) (fun i z => by rw [tgIs_eq]; exact z), wipe_wipe σ2 (tgIs0 tg2) (tgIs0 tg2) fun _ z => z]
          obtain ⟨w, h8, e8, eF4⟩ := bind_okE eF3
          refine ⟨Dd :: P, m5, h5, env2, R6, E6, ?_⟩
          show Goes K fa ca E0 _ _ _ _ _ (.ok true h5) _
          rintro m7 b H7 p7 ⟨x7, _⟩ ⟨R7, rfl⟩
          rw [if_pos rfl]
          refine ⟨Dd :: P, m7, h5, env2, R7, E6.go R6 p7 x7, ?_⟩
          rw [e8]
          rintro m8 z H8 p8 ⟨x8, _⟩ q8
          have R8 : HRel K fa (Dd :: P) m8 h8 H8 := PW.rel q8
          have v8 := PW.val q8
          cases ew : asD w.val with
          | none => rw [ew] at eF4; cases eF4
          | some dd =>
            rw [ew] at eF4
            cases eF4
            simp only at ec2
            split at ec2
            · rename_i hl
              have eD8 : H8 Dd = some (.lst xs5) := x8.keep _ _ (x7.keep _ _ (x6.keep _ _ eD5 (R5.ph Dd List.mem_cons_self).2 (nt _)) (R6.ph Dd List.mem_cons_self).2 (nt _)) (R7.ph Dd List.mem_cons_self).2 (nt _)
              have ra8 := ((ra5.go R5 x6).go R6 x7).go R7 x8
              have XX := ((xx.trans (x6.toX fun a ha => .inl ha)).trans (x7.toX fun a ha => .inl ha)).trans (x8.toX fun a ha => .inl ha)
              refine ⟨xs5, eD8, by rw [← ra5.length, ← lim_eq]; exact hl, m8, _, acc5 ++ [dd], xs5 ++ [z], p5.trans (p7.trans p8), ⟨fun a o e n t => ?_, XX.lv⟩, R8.phPut List.mem_cons_self, upd_same, ?_, HExt.phPut (((bx.trans x6).trans x7).trans x8) hD, ec2⟩
              · rw [upd_ne fun z => n (.inr (by rw [z]; exact List.mem_cons_self))]
                exact XX.keep a o e n t
              · exact (ra8.append (.cons (asD_ok ew v8) .nil)).ph List.mem_cons_self R8
            · rw [eF2] at ec2; cases ec2
      · rintro H5 ⟨m5, h5, acc5, xs5, p5, xx, R5, eD5, ra5, bx, ec2⟩
        rw [List.drop_length, eF2] at ec2
        have e9 : (Res.ok acc2 h6 : Res (List D)) = .ok acc5 h5 := ec2
        cases e9
        exact ⟨m5, _, _, xs5, p.trans (p3.trans (p4.trans p5)), bx, R5, eD5, ra5, ec⟩
  · rintro H ⟨m', h', acc, xs, p, ext, R, eD, ra, ec⟩
    rw [List.drop_length] at ec
    rw [ec] at G
    exact G.ok _ _ _ p ⟨ext, fun b z => by obtain ⟨_, e⟩ := z; cases e; exact .inr (.of hD)⟩ (R.phGive hnP eD ra)
end
end Ev
set_option linter.all false
set_option maxRecDepth 100000
set_option maxHeartbeats 8000000
/-! Ev8: each expression does what the evaluator tells: all of them. -/
namespace Ev
open PySem PySem.Spec PyProof.Rows L2
section
variable {T : Tab} {fa : FA} {ca : Nat → Addr} {k : Nat}
theorem RepV.int {K : PySem.W.Frag} {P m : List Addr} {h : Hh} {H : Hp} {i : Int} {x : V} (q : RepV K fa P m h H (.d (.int i)) x) : x = .int i := by
  have q : RepD K fa (Ex P m h) H (.int i) x := q
  cases q; rfl
theorem RepV.bl {K : PySem.W.Frag} {P m : List Addr} {h : Hh} {H : Hp} {i : Bool} {x : V} (q : RepV K fa P m h H (.d (.bl i)) x) : x = .bl i := by
  have q : RepD K fa (Ex P m h) H (.bl i) x := q
  cases q; rfl
theorem PW.int {K : PySem.W.Frag} {P m : List Addr} {h : Hh} {H : Hp} {i : Int} {x : V} (q : PW K fa P m h H (.v (.d (.int i))) x) : HRel K fa P m h H ∧ x = .int i := ⟨q.1, q.2.int⟩
theorem PW.bl {K : PySem.W.Frag} {P m : List Addr} {h : Hh} {H : Hp} {i : Bool} {x : V} (q : PW K fa P m h H (.v (.d (.bl i))) x) : HRel K fa P m h H ∧ x = .bl i := ⟨q.1, q.2.bl⟩
theorem bW_ok {w : W} {b : Bool} (e : bW w = some b) : w = .v (.d (.bl b)) := by
  unfold bW at e
  split at e
  · cases e; rfl
  · cases e
/-- an operation's end -/
theorem Goes.fin {K : PySem.W.Frag} {EX : XK} {P m : List Addr} {h : Hh} {H : Hp} {w : W} {Q : VK} (G : Goes K fa ca EX (pW K fa P) P m h H (.ok w h) Q) : ∀ z H', XExt (Lv m h) (Lv m h) H H' w z → PW K fa P m h H' w z → Q z H' :=
  fun z H' x q => G.ok m z H' (List.prefix_refl _) x q
theorem Goes.finB {K : PySem.W.Frag} {EX : XK} {P m : List Addr} {h : Hh} {H : Hp} {b : Bool} {Q : VK} (R : HRel K fa P m h H) (G : Goes K fa ca EX (pW K fa P) P m h H (.ok (.v (.d (.bl b))) h) Q) : Q (.bl b) H :=
  G.fin _ _ (XExt.refl _ _) (PW.of_d R (.bl b))

theorem noStars_of {C : CC} : ∀ {es : Es} {xs : List Expr}, chkL T C es xs = true → noStars xs = true
  | .nil, [], _ => rfl
  | .cons e r, x :: xs, h => by
    simp only [chkL, Bool.and_eq_true] at h
    simp only [noStars, List.all_cons, Bool.and_eq_true]
    exact ⟨h.1.2, noStars_of h.2⟩
  | .nil, _ :: _, h => by simp [chkL] at h
  | .cons _ _, [], h => by simp [chkL] at h
theorem conB_ok {X : Cx} {c : D} {q : Const} {j : Nat} {p : Pos} (h : conB c q = true) : ∃ v, PE X (.Constant q j p) (tC v) ∧ ∀ Y H, RepD X.K fa Y H c v := by
  cases c <;> cases q <;> first | (simp [conB] at h; done) | skip
  · exact ⟨_, pe_non, fun _ _ => .non⟩
  · rename_i b c
    have e : b = c := by simpa [conB] using h
    subst e
    exact ⟨_, pe_bl, fun _ _ => .bl _⟩
  · have e := of_decide_eq_true h
    subst e
    exact ⟨_, pe_int, fun _ _ => .int _⟩
  · have e := of_decide_eq_true h
    subst e
    exact ⟨_, pe_str, fun _ _ => .str _⟩
/-- a value that is a bool already: its truth -/
theorem ofB {K : PySem.W.Frag} {EX : XK} {P m : List Addr} {h : Hh} {H : Hp} {b : Bool} {Q : Bool → Hp → Prop} {f : Res W} (R : HRel K fa P m h H) (hf : f = .ok (.v (.d (.bl b))) h)
    (G : Goes K fa ca EX (pB K fa P) P m h H (f.bind truK) Q) : Q b H := by
  subst hf
  exact G.ok m b H (List.prefix_refl _) ⟨HExt.refl _ _, fun _ z => z.elim⟩ ⟨R, rfl⟩

theorem Goes.finT {K : PySem.W.Frag} {EX : XK} {P m : List Addr} {h : Hh} {H : Hp} {b : Bool} {Q : Bool → Hp → Prop} (R : HRel K fa P m h H) (G : Goes K fa ca EX (pB K fa P) P m h H (.ok b h) Q) : Q b H :=
  G.ok m b H (List.prefix_refl _) ⟨HExt.refl _ _, fun _ z => z.elim⟩ ⟨R, rfl⟩
theorem bind_assoc {α β γ : Type} (r : Res α) (f : α → Hh → Res β) (g : β → Hh → Res γ) : (r.bind f).bind g = r.bind fun a h => (f a h).bind g := by cases r <;> rfl
theorem Goes.assoc {K : PySem.W.Frag} {EX : XK} {α β γ ξ : Type} [Nw γ ξ] {Post : List Addr → Hh → Hp → γ → ξ → Prop} {P m : List Addr} {h : Hh} {H : Hp} {r : Res α} {f : α → Hh → Res β} {g : β → Hh → Res γ} {Q : ξ → Hp → Prop} (G : Goes K fa ca EX Post P m h H ((r.bind f).bind g) Q) :
    Goes K fa ca EX Post P m h H (r.bind fun a h => (f a h).bind g) Q := by rw [← bind_assoc]; exact G
theorem PWimp {X : Cx} {e : Expr} {t t' : TT} (p : L2.PW X e t) (f : ∀ σ H Q, t' σ H Q → t σ H Q) : L2.PW X e t' := ⟨fun wh pins s σ H Q I h => p.run wh pins s σ H Q I (f σ H Q h)⟩
theorem _root_.L2.PI.or {X : Cx} {tg e : Expr} {t t' : TI} (p : PI X tg e t) (q : PI X tg e t') : PI X tg e (fun σ H Q => t σ H Q ∨ t' σ H Q) := ⟨fun pins s σ H Q I h => h.elim (p.run pins s σ H Q I) (q.run pins s σ H Q I)⟩
/-- a if t else b, as a test -/
theorem pt_ife {X : Cx} {c a b : Expr} {p : Pos} {t ta tb : TT} (hc : PT X c t) (ha : PT X a ta) (hb : PT X b tb) : PT X (.IfExp c a b p) (fun σ H Q => t σ H fun d H1 => if d = true then ta σ H1 Q else tb σ H1 Q) := by
  refine ⟨fun pins s σ H Q I h => ?_⟩
  refine isTrue_IfExp (thn (hc.run pins s σ H _ I h) fun d s1 ⟨H1, I1, q1⟩ => ?_)
  cases d with
  | true => exact ha.run pins s1 σ H1 Q I1 q1
  | false => exact hb.run pins s1 σ H1 Q I1 q1
theorem smallI_of {i : Int} (h : smallI i = true) : -(2 ^ 62) ≤ i ∧ i < 2 ^ 62 := by
  unfold smallI at h
  simpa only [Bool.and_eq_true, decide_eq_true_eq] using h
/-- a test by a value's truth -/
theorem plain_T {X : Cx} {EX : XK} {e : E} {x : Expr} (h : plainT x = true) (pe : PE X x (tX X.K fa ca EX (pW X.K fa) (evW (T.cfg k) e))) : PT X x (tX X.K fa ca EX (pB X.K fa) (evT (T.cfg k) (.e e))) := by
  refine PT.imp (pt_truth pe (isTrue_plainT h)) fun σ H Q => ?_
  rintro ⟨P, m, h, env, R, E, G⟩
  simp only [evT] at G
  refine ⟨P, m, h, env, R, E, G.bind fun w1 h1 m1 x1 H1 e1 p1 t1 q1 G1 => ?_⟩
  unfold truK at G1
  split at G1
  · rename_i u eu
    cases ew : truD u with
    | none => rw [ew] at G1; exact G1.elim
    | some w =>
      rw [ew] at G1
      exact ⟨w, (view_ok q1.rel eu q1.val).tru ew, Goes.finT q1.rel G1⟩
  · exact G1.elim
/-- a bool's value, its truth -/
theorem toT {K : PySem.W.Frag} {EX : XK} {P m : List Addr} {h : Hh} {H : Hp} {e : E} {env : Ve} {Q : Bool → Hp → Prop} (hb : ∀ w h1, evW (T.cfg k) e env h = .ok w h1 → ∃ b, w = .v (.d (.bl b)))
    (G : Goes K fa ca EX (pB K fa P) P m h H ((evW (T.cfg k) e env h).bind truK) Q) : Goes K fa ca EX (pW K fa P) P m h H (evW (T.cfg k) e env h) fun x H1 => ∃ b, x = .bl b ∧ Q b H1 := by
  cases ee : evW (T.cfg k) e env h with
  | err c h1 => rw [ee] at G; exact G
  | stuck => rw [ee] at G; exact G
  | ok w h1 =>
    rw [ee] at G
    obtain ⟨b, rfl⟩ := hb w h1 ee
    intro m1 x1 H1 p1 t1 q1
    obtain ⟨R1, rfl⟩ := q1.bl
    exact ⟨b, rfl, Goes.ok (show Goes K fa ca EX (pB K fa P) P m h H (.ok b h1) Q from G) m1 b H1 p1 ⟨t1.ext, fun _ z => z.elim⟩ ⟨R1, rfl⟩⟩
theorem chain_bl {o p : Cm} {a b c : E} {env : Ve} {h h1 : Hh} {w : W} (e : evW (T.cfg k) (.chain o p a b c) env h = .ok w h1) : ∃ b, w = .v (.d (.bl b)) := by
  simp only [evW] at e
  obtain ⟨x, h2, _, e⟩ := bind_okE e
  obtain ⟨y, h3, _, e⟩ := bind_okE e
  split at e
  · obtain ⟨kb, h4, _, e⟩ := bind_okE e
    split at e
    · obtain ⟨z, h5, _, e⟩ := bind_okE e
      split at e
      · obtain ⟨b, h6, _, e⟩ := bind_okE e
        cases e
        exact ⟨_, rfl⟩
      · cases e
    · cases e
      exact ⟨_, rfl⟩
  · cases e
/-- over a list, a tuple -/
theorem seq_read {K : PySem.W.Frag} {EX : XK} {P m : List Addr} {h : Hh} {env : Ve} {σ : L2.St} {H : Hp} {R0 : L2.It → Hp → Prop} {e : E} (R : HRel K fa P m h H) (E : ERel K fa P m h H env σ)
    (G : Goes K fa ca EX (pI K fa P) P m h H (evI (T.cfg k) (.seq e) env h) R0) : iList K (tX K fa ca EX (pW K fa) (evW (T.cfg k) e)) σ H R0 ∨ iTup K (tX K fa ca EX (pW K fa) (evW (T.cfg k) e)) σ H R0 := by
  simp only [evI] at G
  cases ee : evW (T.cfg k) e env h with
  | err c h1 =>
    rw [ee] at G
    exact .inl ⟨P, m, h, env, R, E, by rw [ee]; exact G⟩
  | stuck => rw [ee] at G; exact G.elim
  | ok w h1 =>
    rw [ee] at G
    simp only [Res.bind_ok] at G
    split at G
    · rename_i p ew
      cases p with
      | tup ds =>
        refine .inr ⟨P, m, h, env, R, E, ?_⟩
        rw [ee]
        intro m1 x1 H1 p1 t1 q1
        have rd := asD_ok ew (PW.val q1)
        cases rd with
        | @tup a xs _ s r => exact ⟨a, rfl, ⟨xs, SqT.of s⟩, Goes.ok (show Goes K fa ca EX (pI K fa P) P m h H (.ok ds h1) R0 from G) m1 _ H1 p1 ⟨t1.ext, fun _ z => z.elim⟩ ⟨PW.rel q1, wlk_tup (PW.rel q1) (SqT.of s) r⟩⟩
      | lst ds =>
        refine .inl ⟨P, m, h, env, R, E, ?_⟩
        rw [ee]
        intro m1 x1 H1 p1 t1 q1
        have rd := asD_ok ew (PW.val q1)
        cases rd with
        | @lst a xs _ s n r => exact ⟨a, rfl, ⟨xs, SqL.of s⟩, Goes.ok (show Goes K fa ca EX (pI K fa P) P m h H (.ok ds h1) R0 from G) m1 _ H1 p1 ⟨t1.ext, fun _ z => z.elim⟩ ⟨PW.rel q1, wlk_lst (PW.rel q1) s n r⟩⟩
      | _ => exact G.elim
    · exact G.elim
/-- .. each with its place -/
theorem enu_read {K : PySem.W.Frag} {EX : XK} {P m : List Addr} {h : Hh} {env : Ve} {σ : L2.St} {H : Hp} {R0 : L2.It → Hp → Prop} {e : E} (R : HRel K fa P m h H) (E : ERel K fa P m h H env σ)
    (G : Goes K fa ca EX (pI K fa P) P m h H (evI (T.cfg k) (.enu e) env h) R0) : iEnum K (tCons (tX K fa ca EX (pW K fa) (evW (T.cfg k) e)) tNil) σ H R0 ∨ iEnumT K (tCons (tX K fa ca EX (pW K fa) (evW (T.cfg k) e)) tNil) σ H R0 := by
  simp only [evI] at G
  cases ee : evW (T.cfg k) e env h with
  | err c h1 =>
    rw [ee] at G
    exact .inl ⟨P, m, h, env, R, E, by rw [ee]; exact G⟩
  | stuck => rw [ee] at G; exact G.elim
  | ok w h1 =>
    rw [ee] at G
    simp only [Res.bind_ok] at G
    split at G
    · rename_i ds ew
      refine .inl ⟨P, m, h, env, R, E, ?_⟩
      rw [ee]
      intro m1 x1 H1 p1 t1 q1
      have rd := asD_ok ew (PW.val q1)
      cases rd with
      | @lst a xs _ s n r => exact ⟨a, xs, rfl, SqL.of s, Goes.ok (show Goes K fa ca EX (pI K fa P) P m h H (.ok (enuL 0 ds) h1) R0 from G) m1 _ H1 p1 ⟨t1.ext, fun _ z => z.elim⟩ ⟨PW.rel q1, wlk_enu (PW.rel q1) walk_enum (fun P' m' h' H' x => SqL.of (x.keep _ _ s n (fun _ z => by cases z))) r⟩⟩
    · rename_i ds ew
      refine .inr ⟨P, m, h, env, R, E, ?_⟩
      rw [ee]
      intro m1 x1 H1 p1 t1 q1
      have rd := asD_ok ew (PW.val q1)
      cases rd with
      | @tup a xs _ s r => exact ⟨a, xs, rfl, SqT.of s, Goes.ok (show Goes K fa ca EX (pI K fa P) P m h H (.ok (enuL 0 ds) h1) R0 from G) m1 _ H1 p1 ⟨t1.ext, fun _ z => z.elim⟩ ⟨PW.rel q1, wlk_enu (PW.rel q1) walk_enumT (fun P' m' h' H' x => sqT_goX (PW.rel q1) x (SqT.of s)) r⟩⟩
    · exact G.elim
/-- over two of them -/
theorem zip_read {K : PySem.W.Frag} {EX : XK} {P m : List Addr} {h : Hh} {env : Ve} {σ : L2.St} {H : Hp} {R0 : L2.It → Hp → Prop} {ea eb : E} (R : HRel K fa P m h H) (E : ERel K fa P m h H env σ)
    (G : Goes K fa ca EX (pI K fa P) P m h H (evI (T.cfg k) (.zip ea eb) env h) R0) : ZM.iZip3 K (tCons (tX K fa ca EX (pW K fa) (evW (T.cfg k) ea)) (tCons (tX K fa ca EX (pW K fa) (evW (T.cfg k) eb)) tNil)) σ H R0 := by
  simp only [evI] at G
  refine ⟨P, m, h, env, R, E, G.bind fun w1 h1 m1 x1 H1 ee1 p1 t1 q1 G1 => ?_⟩
  refine ⟨P, m1, h1, env, q1.rel, E.go R p1 t1.ext, G1.bind fun w2 h2 m2 x2 H2 ee2 p2 t2 q2 G2 => ?_⟩
  have v1 := q1.val.go q1.rel p2 t2.ext
  have v2 := q2.val
  have R2 := q2.rel
  split at G2
  · rename_i p q e1 e2
    have d1 := asD_ok e1 v1
    have d2 := asD_ok e2 v2
    cases p <;> cases q <;> first | exact G2.elim | skip
    · cases d1 with
      | @tup a xs _ s r =>
        cases d2 with
        | @tup b ys _ s2 r2 =>
          refine ⟨a, b, xs, ys, rfl, .inr (.inl ⟨SqT.of s, SqT.of s2, Goes.ok G2 m2 _ H2 (List.prefix_refl _) ⟨HExt.refl _ _, fun _ z => z.elim⟩ ⟨R2, ?_⟩⟩)⟩
          exact wlk_pair R2 (walk_zipT (by rw [zipL_length, r.length, r2.length])) (fun P' m' h' H' x => ⟨sqT_goX R2 x (SqT.of s), sqT_goX R2 x (SqT.of s2)⟩) r r2
    · cases d1 with
      | @tup a xs _ s r =>
        cases d2 with
        | @lst b ys _ s2 n2 r2 =>
          refine ⟨a, b, xs, ys, rfl, .inr (.inr ⟨SqT.of s, SqL.of s2, Goes.ok G2 m2 _ H2 (List.prefix_refl _) ⟨HExt.refl _ _, fun _ z => z.elim⟩ ⟨R2, ?_⟩⟩)⟩
          exact wlk_pair R2 (walk_zipM (by rw [zipL_length, r.length, r2.length])) (fun P' m' h' H' x => ⟨sqT_goX R2 x (SqT.of s), SqL.of (x.keep _ _ s2 n2 (fun _ z => by cases z))⟩) r r2
    · cases d1 with
      | @lst a xs _ s n r =>
        cases d2 with
        | @lst b ys _ s2 n2 r2 =>
          refine ⟨a, b, xs, ys, rfl, .inl ⟨SqL.of s, SqL.of s2, Goes.ok G2 m2 _ H2 (List.prefix_refl _) ⟨HExt.refl _ _, fun _ z => z.elim⟩ ⟨R2, ?_⟩⟩⟩
          exact wlk_pair R2 (walk_zip (by rw [zipL_length, r.length, r2.length])) (fun P' m' h' H' x => ⟨SqL.of (x.keep _ _ s n (fun _ z => by cases z)), SqL.of (x.keep _ _ s2 n2 (fun _ z => by cases z))⟩) r r2
  · exact G2.elim
/-- no arguments -/
theorem pa_nil_imp {K : PySem.W.Frag} {EX : XK} {C : CC} {es : Es} {σ : L2.St} {H : Hp} {Q : List V → Hp → Prop} (h : chkL T C es [] = true) (q : tX K fa ca EX (pL K fa) (evL (T.cfg k) es) σ H Q) : tNil σ H Q := by
  cases es with
  | cons _ _ => simp [chkL] at h
  | nil =>
    obtain ⟨P, m, h, env, R, E, G⟩ := q
    simp only [evL] at G
    exact G.ok m [] H (List.prefix_refl _) ⟨HExt.refl _ _, fun _ z => z.elim⟩ ⟨R, .nil⟩
/-- two comparisons in a row -/
theorem chain_read {K : PySem.W.Frag} {EX : XK} {P m : List Addr} {h : Hh} {env : Ve} {σ : L2.St} {H : Hp} {Q : VK} {o p : Cm} {a b c : E} (R : HRel K fa P m h H) (E : ERel K fa P m h H env σ)
    (G : Goes K fa ca EX (pW K fa P) P m h H (evW (T.cfg k) (.chain o p a b c) env h) Q) : tChain (rCmp K fa (cmpD o)) (rCmp K fa (cmpD p)) (tX K fa ca EX (pW K fa) (evW (T.cfg k) a)) (tX K fa ca EX (pW K fa) (evW (T.cfg k) b)) (tX K fa ca EX (pW K fa) (evW (T.cfg k) c)) σ H Q := by
  simp only [evW] at G
  refine ⟨P, m, h, env, R, E, G.bind fun w1 h1 m1 x1 H1 e1 p1 t1 q1 G1 => ?_⟩
  have E1 := E.go R p1 t1.ext
  refine ⟨P, m1, h1, env, q1.rel, E1, G1.bind fun w2 h2 m2 x2 H2 e2 p2 t2 q2 G2 => ?_⟩
  split at G2
  · rename_i u v eu ev
    cases ew : cmpD o u v with
    | none => rw [ew] at G2; exact G2.elim
    | some w =>
      rw [ew] at G2
      refine ⟨P, m2, h2, u, v, w, q2.rel, view_ok q2.rel eu (q1.val.go q1.rel p2 t2.ext), view_ok q2.rel ev q2.val, ew, w, rfl, ?_⟩
      cases w with
      | false =>
        rw [if_neg Bool.false_ne_true]
        simp only [ofO_some, Res.bind_ok, Bool.false_eq_true, if_false] at G2
        exact G2.finB q2.rel
      | true =>
        rw [if_pos rfl]
        simp only [ofO_some, Res.bind_ok, if_true] at G2
        refine ⟨P, m2, h2, env, q2.rel, E1.go q1.rel p2 t2.ext, G2.bind fun w3 h3 m3 x3 H3 e3 p3 t3 q3 G3 => ?_⟩
        split at G3
        · rename_i v2 t ev2 et
          cases ew2 : cmpD p v2 t with
          | none => rw [ew2] at G3; exact G3.elim
          | some w =>
            rw [ew2] at G3
            exact ⟨P, m3, h3, v2, t, w, q3.rel, view_ok q3.rel ev2 (q2.val.go q2.rel p3 t3.ext), view_ok q3.rel et q3.val, ew2, G3.finB q3.rel⟩
        · exact G3.elim
  · exact G2.elim
/-- o.append(e) -/
theorem app_read {K : PySem.W.Frag} {EX : XK} {P m : List Addr} {h : Hh} {env : Ve} {σ : L2.St} {H : Hp} {Q : VK} {o e : E} (R : HRel K fa P m h H) (E : ERel K fa P m h H env σ)
    (G : Goes K fa ca EX (pW K fa P) P m h H (evW (T.cfg k) (.app o e) env h) Q) : tBM K "list" rAppend (tX K fa ca EX (pW K fa) (evW (T.cfg k) o)) (tCons (tX K fa ca EX (pW K fa) (evW (T.cfg k) e)) tNil) σ H Q := by
  simp only [evW] at G
  refine ⟨P, m, h, env, R, E, G.bind fun w1 h1 m1 x1 H1 e1 p1 t1 q1 G1 => ?_⟩
  have E1 := E.go R p1 t1.ext
  split at G1
  · split at G1
    · rename_i n _ ds0 ed0
      obtain ⟨R1, l, el, rfl⟩ := q1
      obtain ⟨xs0, s0, _⟩ := R1.cell n ds0 l ed0 el
      refine ⟨.inl ⟨rfl, xs0, SqL.of s0⟩, P, m1, h1, env, R1, E1, G1.bind fun y h2 m2 z H2 e2 p2 t2 q2 G2 => ?_⟩
      split at G2
      · rename_i d ds ey ed
        split at G2
        · rename_i hl
          have el2 := pre_at p2 el
          have R2 := PW.rel q2
          obtain ⟨xs, s, r⟩ := R2.cell n ds l ed el2
          refine ⟨l, xs, z, rfl, rfl, s, by rw [← r.length, ← lim_eq]; exact hl, ?_⟩
          obtain ⟨R3, t3⟩ := R2.put ed el2 (r.append (.cons (asD_ok ey (PW.val q2)) .nil))
          exact G2.ok m2 _ _ (List.prefix_refl _) (XExt.val t3) ⟨R3, .non⟩
        · exact G2.elim
      · exact G2.elim
    · exact G1.elim
  · exact G1.elim
/-- a[::-1] -/
theorem rev_read {K : PySem.W.Frag} {EX : XK} {a : E} {σ : L2.St} {H : Hp} {Q : VK} (q : tX K fa ca EX (pW K fa) (evW (T.cfg k) (.rev a)) σ H Q) : tRevA K (tX K fa ca EX (pW K fa) (evW (T.cfg k) a)) σ H Q := by
  obtain ⟨P, m, h, env, R, E, G⟩ := q
  simp only [evW] at G
  refine ⟨P, m, h, env, R, E, G.bind fun w1 h1 m1 x1 H1 e1 p1 t1 q1 G1 => ?_⟩
  split at G1
  · rename_i u eu
    have v := view_ok q1.rel eu q1.val
    cases u <;> simp only [revD, ofO_none] at G1 <;> first | exact G1.elim | skip
    · obtain ⟨l, xs, rfl, s, r⟩ := v.tup
      exact ⟨l, rfl, .inr ⟨xs, s, fun p hp => G1.fin _ _ (XExt.newT hp) (PW.tup q1.rel hp r.reverse)⟩⟩
    · obtain ⟨l, xs, rfl, s, r⟩ := v.list
      exact ⟨l, rfl, .inl ⟨xs, SqL.of s, fun p hp => G1.fin _ _ (XExt.newL hp) (PW.lst q1.rel hp r.reverse)⟩⟩
  · exact G1.elim
/-- x.join(a) -/
theorem join_read {K : PySem.W.Frag} {EX : XK} {x : Str} {a : E} {σ : L2.St} {H : Hp} {Q : VK} (q : tX K fa ca EX (pW K fa) (evW (T.cfg k) (.join x a)) σ H Q) :
    tX K fa ca EX (pW K fa) (evW (T.cfg k) a) σ H fun y H2 => ∃ b p, ∃ ys : List Str, V.str x = .str b ∧ [y] = [.ref p] ∧ (SqL K H2 p (ys.map V.str) ∨ SqT K H2 p (ys.map V.str)) ∧ (ys.map (·.length)).sum + ys.length * b.length ≤ 16777216 ∧ Q (.str (Txt.join b ys)) H2 := by
  obtain ⟨P, m, h, env, R, E, G⟩ := q
  simp only [evW] at G
  refine ⟨P, m, h, env, R, E, G.bind fun w1 h1 m1 x1 H1 e1 p1 t1 q1 G1 => ?_⟩
  split at G1
  · rename_i u eu
    have v := view_ok q1.rel eu q1.val
    cases u <;> simp only [joinD, Option.map_none, ofO_none] at G1 <;> first | exact G1.elim | skip
    · obtain ⟨l, xs, rfl, s, r⟩ := v.tup
      rename_i ds
      cases ei : strsD ds with
      | none => rw [ei] at G1; exact G1.elim
      | some ys =>
        rw [ei] at G1
        cases r.strs ei
        simp only [Option.bind_some] at G1
        split at G1
        · rename_i hl
          exact ⟨x, l, ys, rfl, rfl, .inr s, hl, G1.fin _ _ (XExt.refl _ _) (PW.of_d q1.rel (.str _))⟩
        · exact G1.elim
    · obtain ⟨l, xs, rfl, s, r⟩ := v.list
      rename_i ds
      cases ei : strsD ds with
      | none => rw [ei] at G1; exact G1.elim
      | some ys =>
        rw [ei] at G1
        cases r.strs ei
        simp only [Option.bind_some] at G1
        split at G1
        · rename_i hl
          exact ⟨x, l, ys, rfl, rfl, .inl (SqL.of s), hl, G1.fin _ _ (XExt.refl _ _) (PW.of_d q1.rel (.str _))⟩
        · exact G1.elim
  · exact G1.elim
theorem lam_at {k' : Nat} (hk : k' + 2 = k) {f : Nat} {b : E} {q : Str × List Str} (eq : T.tr f = some q) (env : Ve) (h : Hh) : evW (T.cfg k) (.lam f b) env h = match evW (T.cfg k') b env h with
    | .ok _ h' => .ok (.v (.d (.str q.1))) h'
    | .err c h' => (match q.2[c]? with
      | some x => .ok (.v (.d (.str x))) h'
      | none => .stuck)
    | .stuck => .stuck := by
  subst hk
  simp only [evW]
  show (match T.tr f with
    | some q => (match evW (T.cfg k') b env h with
      | .ok _ h' => (.ok (.v (.d (.str q.1))) h' : Res W)
      | .err c h' => (match q.2[c]? with
        | some x => .ok (.v (.d (.str x))) h'
        | none => .stuck)
      | .stuck => .stuck)
    | none => .stuck) = _
  rw [eq]
theorem lam_low (hk : k < 2) {f : Nat} {b : E} (env : Ve) (h : Hh) : evW (T.cfg k) (.lam f b) env h = .stuck := by
  have key : (T.cfg k).low2 b env h = .stuck := by
    rcases (show k = 0 ∨ k = 1 by omega) with e | e <;> (rw [e]; rfl)
  simp only [evW]
  rw [key]
  cases (T.cfg k).tr f <;> rfl
theorem lam_read {K : PySem.W.Frag} {EX : XK} {f : Nat} {b : E} {q : Str × List Str} {k' : Nat} (hk : k' + 2 = k) (eq : T.tr f = some q) {σ : L2.St} {H : Hp} {Q : VK} (z : tX K fa ca EX (pW K fa) (evW (T.cfg k) (.lam f b)) σ H Q) :
    LamX.tLam fa.tl (TTr fa ca q) (fun E => tX K fa ca E (pW K fa) (evW (T.cfg k') b)) σ H Q := by
  obtain ⟨P, m, h, env, R, E, G⟩ := z
  refine ⟨R.tb, fun H1 eN T1 => ?_⟩
  obtain ⟨R1, x1⟩ := R.kept ⟨eN, T1⟩
  refine ⟨P, m, h, env, R1, E.go R (List.prefix_refl _) x1, ?_⟩
  rw [lam_at hk eq] at G
  cases er : evW (T.cfg k') b env h with
  | ok w h' =>
    rw [er] at G
    exact fun m' x H' p t pw => G.ok m' _ H' p (XExt.val (x1.trans t.ext)) (PW.of_d (PW.rel pw) (.str _))
  | err c h' =>
    rw [er] at G
    simp only at G
    cases ex : q.2[c]? with
    | none => rw [ex] at G; exact G.elim
    | some x =>
      rw [ex] at G
      refine fun m' H' p t R' => ⟨c, x, rfl, rfl, ex, R'.tb, fun H'' kp2 => ?_⟩
      obtain ⟨R2, x2⟩ := R'.kept kp2
      exact G.ok m' _ H'' p (XExt.val ((x1.trans t).trans x2)) (PW.of_d R2 (.str _))
  | stuck => rw [er] at G; exact G.elim
theorem isE_read {K : PySem.W.Frag} {EX : XK} {i j : Nat} {σ : L2.St} {H : Hp} {Q : VK} (z : tX K fa ca EX (pW K fa) (evW (T.cfg k) (.isE i j)) σ H Q) : ∃ (bs : List Bool) (b : Bool), T.ex = some bs ∧ bs[j]? = some b ∧ σ[i]? = some (some (.ref (fa exN))) ∧ Q (.bl b) H := by
  obtain ⟨P, m, h, env, R, E, G⟩ := z
  simp only [evW] at G
  split at G
  · rename_i n en
    split at G
    · rename_i e0
      subst e0
      have G2 : Goes K fa ca EX (pW K fa P) P m h H (match T.ex.bind fun bs => bs[j]? with
        | some b => .ok (.v (.d (.bl b))) h
        | none => .stuck) Q := G
      cases e1 : T.ex with
      | none => rw [e1] at G2; exact G2.elim
      | some bs =>
        rw [e1] at G2
        simp only [Option.bind_some] at G2
        cases e2 : bs[j]? with
        | none => rw [e2] at G2; exact G2.elim
        | some b =>
          rw [e2] at G2
          obtain ⟨x, ex, rx⟩ := E.at_ i _ en
          have rx : RepD K fa (Ex P m h) H (.fn exN) x := rx
          cases rx
          exact ⟨bs, b, rfl, e2, ex, G2.finB R⟩
    · exact G.elim
  · exact G.elim
theorem noSl_of {b : Expr} (h : isIx b = true) : NoSl b := by
  intro o i
  unfold subscripted
  cases b <;> first | rfl | skip
  rename_i lo hi st p
  cases st with
  | none => simp [isIx] at h
  | some st => rfl
theorem noPar_eq {a : Arguments} (h : noPar a = true) : a = ⟨[], [], none, [], [], none, []⟩ := by
  obtain ⟨a1, a2, a3, a4, a5, a6, a7⟩ := a
  unfold noPar at h
  simp only [Bool.and_eq_true, List.isEmpty_iff, Option.isNone_iff_eq_none] at h
  obtain ⟨⟨⟨⟨⟨⟨rfl, rfl⟩, rfl⟩, rfl⟩, rfl⟩, rfl⟩, rfl⟩ := h
  rfl
theorem _root_.L2.PE.no {X : Cx} {e : Expr} {t : TE} (f : ∀ σ H Q, ¬ t σ H Q) : PE X e t := ⟨fun pins s σ H Q I h => (f σ H Q h).elim⟩
/-! ### dicts -/
theorem keyD_ok {K : PySem.W.Frag} {Y : Addr → Prop} {H : Hp} {d : D} {y : V} {k : Key} (e : keyD d = some k) (r : RepD K fa Y H d y) : y = kV k := by
  cases r <;> simp only [keyD, reduceCtorEq] at e <;> cases (Option.some.inj e) <;> rfl
theorem keysD_ok {K : PySem.W.Frag} {Y : Addr → Prop} {H : Hp} : ∀ {ds : List D} {xs : List V} {ks : List Key}, keysD ds = some ks → RepDs K fa Y H ds xs → xs = ks.map kV
  | [], _, ks, e, .nil => by cases (Option.some.inj e); rfl
  | d :: ds, _, ks, e, .cons q r => by
    simp only [keysD] at e
    cases e1 : keyD d with
    | none => rw [e1] at e; cases e
    | some k =>
      cases e2 : keysD ds with
      | none => rw [e1, e2] at e; cases e
      | some ks' =>
        rw [e1, e2] at e
        cases (Option.some.inj e)
        rw [List.map_cons, keyD_ok e1 q, keysD_ok e2 r]
theorem getC_ok {K : PySem.W.Frag} {P m : List Addr} {h : Hh} {H : Hp} (R : HRel K fa P m h H) {n : Nat} {c : Cell} {a : Addr} {kd : D} {o : Option D} {y : V} (e1 : h[n]? = some c) (e2 : m[n]? = some a) (eg : getC c kd = some o) (rk : RepD K fa (Ex P m h) H kd y) :
    ∃ ov, DGet H a y ov ∧ RepO K fa (Ex P m h) H o ov := by
  cases c with
  | lst ds => cases eg
  | dead => cases eg
  | dct kvs =>
    obtain ⟨xs, s, r⟩ := R.dct n kvs a e1 e2
    obtain ⟨k, ek, rfl⟩ := Option.map_eq_some_iff.mp (show (keyD kd).map (fun k => getKv kvs k) = some o from eg)
    rw [keyD_ok ek rk]
    exact ⟨_, DGet.k s, r.get k⟩
  | dtt kvs =>
    obtain ⟨xs, s, r⟩ := R.dtt n kvs a e1 e2
    cases kd with
    | tup ds =>
      obtain ⟨k, ek, rfl⟩ := Option.map_eq_some_iff.mp (show (keysD ds).map (fun k => getKv kvs k) = some o from eg)
      cases rk with
      | tup sb rb =>
        rw [keysD_ok ek rb] at sb
        exact ⟨_, DGet.t s sb, r.get k⟩
    | _ => cases eg
theorem putC_ok {K : PySem.W.Frag} {P m : List Addr} {h : Hh} {H : Hp} (R : HRel K fa P m h H) {n : Nat} {c c' : Cell} {a : Addr} {kd vd : D} {y v : V} (e1 : h[n]? = some c) (e2 : m[n]? = some a) (eg : putC c kd vd = some c') (rk : RepD K fa (Ex P m h) H kd y) (rv : RepD K fa (Ex P m h) H vd v) :
    ∃ H', DPut H a y v H' ∧ HRel K fa P m (h.set n c') H' ∧ HExt (Lv m h) (Lv m (h.set n c')) H H' := by
  cases c with
  | lst ds => cases eg
  | dead => cases eg
  | dct kvs =>
    obtain ⟨xs, s, r⟩ := R.dct n kvs a e1 e2
    obtain ⟨k, ek, eg⟩ := Option.bind_eq_some_iff.mp (show (keyD kd).bind (fun k => if kvs.length < 16777216 then some (.dct (putKv kvs k vd)) else none) = some c' from eg)
    split at eg
    · rename_i hl
      cases (Option.some.inj eg)
      rw [keyD_ok ek rk]
      have hl' : xs.length < sizeLine := by rw [← r.length, sizeLine_eq]; exact hl
      exact ⟨_, DPut.k s hl', R.putG (c := .dct (putKv kvs k vd)) (o := .dK (putK xs k v)) e1 rfl e2 rfl ⟨_, rfl, r.put k rv⟩⟩
    · cases eg
  | dtt kvs =>
    obtain ⟨xs, s, r⟩ := R.dtt n kvs a e1 e2
    cases kd with
    | tup ds =>
      obtain ⟨k, ek, eg⟩ := Option.bind_eq_some_iff.mp (show (keysD ds).bind (fun k => if kvs.length < 16777216 then some (.dtt (putKv kvs k vd)) else none) = some c' from eg)
      split at eg
      · rename_i hl
        cases (Option.some.inj eg)
        cases rk with
        | tup sb rb =>
          rw [keysD_ok ek rb] at sb
          have hl' : xs.length < sizeLine := by rw [← r.length, sizeLine_eq]; exact hl
          exact ⟨_, DPut.t s sb hl', R.putG (c := .dtt (putKv kvs k vd)) (o := .dT (putK xs k v)) e1 rfl e2 rfl ⟨_, rfl, r.put k rv⟩⟩
      · cases eg
    | _ => cases eg
theorem dnew_read {K : PySem.W.Frag} {EX : XK} {t : Bool} {σ : L2.St} {H : Hp} {Q : VK} (q : tX K fa ca EX (pW K fa) (evW (T.cfg k) (.dnew t)) σ H Q) : (if t then tDNewT else tDNewK) σ H Q := by
  obtain ⟨P, m, h, env, R, E, G⟩ := q
  simp only [evW] at G
  cases t with
  | true =>
    intro p hp
    obtain ⟨R2, x2⟩ := R.cellNewG hp (show CellOk K fa (Ex P m h) H (.dtt []) (.dT []) from ⟨[], rfl, .nil⟩)
    exact G.ok (m ++ [p]) _ _ (List.prefix_append _ _) (XExt.val x2) ⟨R2, p, by rw [← R.len]; simp, rfl⟩
  | false =>
    intro p hp
    obtain ⟨R2, x2⟩ := R.cellNewG hp (show CellOk K fa (Ex P m h) H (.dct []) (.dK []) from ⟨[], rfl, .nil⟩)
    exact G.ok (m ++ [p]) _ _ (List.prefix_append _ _) (XExt.val x2) ⟨R2, p, by rw [← R.len]; simp, rfl⟩
theorem din_read {K : PySem.W.Frag} {EX : XK} {neg : Bool} {kk d : E} {σ : L2.St} {H : Hp} {Q : VK} (q : tX K fa ca EX (pW K fa) (evW (T.cfg k) (.din neg kk d)) σ H Q) :
    tX K fa ca EX (pW K fa) (evW (T.cfg k) kk) σ H fun y H1 => tX K fa ca EX (pW K fa) (evW (T.cfg k) d) σ H1 fun x H2 => ∃ a o, x = .ref a ∧ DGet H2 a y o ∧ Q (.bl (if neg then !o.isSome else o.isSome)) H2 := by
  obtain ⟨P, m, h, env, R, E, G⟩ := q
  simp only [evW] at G
  refine ⟨P, m, h, env, R, E, G.bind fun w1 h1 m1 x1 H1 e1 p1 t1 q1 G1 => ?_⟩
  refine ⟨P, m1, h1, env, q1.rel, E.go R p1 t1.ext, G1.bind fun w2 h2 m2 x2 H2 e2 p2 t2 q2 G2 => ?_⟩
  split at G2
  · rename_i n kd ek
    cases ec : h2[n]? with
    | none => rw [ec] at G2; exact G2.elim
    | some c =>
      rw [ec] at G2
      simp only [Option.bind_some] at G2
      cases eg : getC c kd with
      | none => rw [eg] at G2; exact G2.elim
      | some o =>
        rw [eg] at G2
        obtain ⟨R2, l, el, rfl⟩ := q2
        obtain ⟨ov, g, ro⟩ := getC_ok R2 ec el eg (asD_ok ek (q1.val.go q1.rel p2 t2.ext))
        refine ⟨l, ov, rfl, g, ?_⟩
        rw [← ro.isSome]
        exact G2.finB R2
  · exact G2.elim
theorem dget_read {K : PySem.W.Frag} {EX : XK} {kk d : E} {σ : L2.St} {H : Hp} {Q : VK} (q : tX K fa ca EX (pW K fa) (evW (T.cfg k) (.dget d kk)) σ H Q) :
    tDGet (tX K fa ca EX (pW K fa) (evW (T.cfg k) d)) (tX K fa ca EX (pW K fa) (evW (T.cfg k) kk)) σ H Q := by
  obtain ⟨P, m, h, env, R, E, G⟩ := q
  simp only [evW] at G
  refine ⟨P, m, h, env, R, E, G.bind fun w1 h1 m1 x1 H1 e1 p1 t1 q1 G1 => ?_⟩
  refine ⟨P, m1, h1, env, q1.rel, E.go R p1 t1.ext, G1.bind fun w2 h2 m2 x2 H2 e2 p2 t2 q2 G2 => ?_⟩
  split at G2
  · rename_i n kd ek
    cases ec : h2[n]? with
    | none => rw [ec] at G2; exact G2.elim
    | some c =>
      rw [ec] at G2
      simp only [Option.bind_some] at G2
      cases eg : getC c kd with
      | none => rw [eg] at G2; exact G2.elim
      | some o =>
        rw [eg] at G2
        cases o with
        | none => exact G2.elim
        | some v =>
          obtain ⟨R1, l, el, rfl⟩ := q1
          have R2 := PW.rel q2
          obtain ⟨ov, g, ro⟩ := getC_ok R2 ec (pre_at p2 el) eg (asD_ok ek q2.val)
          cases ro with
          | some rv => exact ⟨l, _, rfl, g, G2.fin _ _ (XExt.refl _ _) (PW.of_d R2 rv)⟩
  · exact G2.elim
/-- len(d), d a dict -/
def rLenD : List V → Hp → VK → Prop := fun xs H Q => ∃ a, xs = [.ref a] ∧ ((∃ kvs, H a = some (.dK kvs) ∧ Q (.int kvs.length) H) ∨ ∃ kvs, H a = some (.dT kvs) ∧ Q (.int kvs.length) H)
theorem call_lenD {X : Cx} : CallR X (.builtin "len") rLenD := by
  intro pins s σ H vs us Q I r h
  obtain ⟨a, rfl, h⟩ := h
  rw [Vals.ref1 r]
  rcases h with ⟨kvs, e, q⟩ | ⟨kvs, e, q⟩
  · exact d_len I (.inl e) fun t s' I' => ⟨.int _, H, I', ⟨t, rfl⟩, q⟩
  · obtain ⟨z, hd, xs, rel, dd⟩ := dt_of I.hok e
    have el : kvs.length = xs.length := Paired.length rel
    refine PySem.call_len_dictH hd dd (by rw [← el]; rw [sizeLine_eq] at z; omega) ?_
    rw [← el]
    exact ⟨.int _, H, I.tok _, ⟨_, rfl⟩, q⟩
theorem dlen_read {K : PySem.W.Frag} {EX : XK} {d : E} {σ : L2.St} {H : Hp} {Q : VK} (q : tX K fa ca EX (pW K fa) (evW (T.cfg k) (.dlen d)) σ H Q) :
    tCB rLenD (tCons (tX K fa ca EX (pW K fa) (evW (T.cfg k) d)) tNil) σ H Q := by
  obtain ⟨P, m, h, env, R, E, G⟩ := q
  simp only [evW] at G
  refine ⟨P, m, h, env, R, E, G.bind fun w1 h1 m1 x1 H1 e1 p1 t1 q1 G1 => ?_⟩
  split at G1
  · rename_i n
    obtain ⟨R1, l, el, rfl⟩ := q1
    cases ec : h1[n]? with
    | none => rw [ec] at G1; exact G1.elim
    | some c =>
      rw [ec] at G1
      cases c with
      | lst ds => exact G1.elim
      | dead => exact G1.elim
      | dct kvs =>
        obtain ⟨xs, s, r⟩ := R1.dct n kvs l ec el
        exact ⟨l, rfl, .inl ⟨xs, s, G1.fin _ _ (XExt.refl _ _) (PW.of_d R1 (by rw [r.length]; exact .int _))⟩⟩
      | dtt kvs =>
        obtain ⟨xs, s, r⟩ := R1.dtt n kvs l ec el
        exact ⟨l, rfl, .inr ⟨xs, s, G1.fin _ _ (XExt.refl _ _) (PW.of_d R1 (by rw [r.length]; exact .int _))⟩⟩
  · exact G1.elim
/-- a.count(x), a.index(x) -/
theorem eqV_int (i j : Int) : eqV (.int i) (.int j) = decide (i = j) := rfl
theorem idx_int : ∀ (ns : List Int) (k : Int), k ∈ ns → ns[ns.idxOf k]? = some k ∧ ∀ m z, m < ns.idxOf k → ns[m]? = some z → z ≠ k
  | [], k, h => by cases h
  | n :: ns, k, h => by
    rw [List.idxOf_cons]
    by_cases e : n = k
    · subst e
      simp
    · rw [show (n == k) = false from beq_eq_false_iff_ne.mpr e]
      simp only [cond_false, List.getElem?_cons_succ]
      obtain ⟨h1, h2⟩ := idx_int ns k ((List.mem_cons.mp h).resolve_left fun z => e z.symm)
      refine ⟨h1, fun m z hm hz => ?_⟩
      cases m with
      | zero => simp at hz; rw [← hz]; exact e
      | succ m => exact h2 m z (by omega) (by simpa using hz)
theorem cnt_read {K : PySem.W.Frag} {EX : XK} {ix : Bool} {a x : E} {σ : L2.St} {H : Hp} {Q : VK} (q : tX K fa ca EX (pW K fa) (evW (T.cfg k) (.cnt ix a x)) σ H Q) :
    tBM K "list" (if ix then rIndex K else L2.rCntI K) (tX K fa ca EX (pW K fa) (evW (T.cfg k) a)) (tCons (tX K fa ca EX (pW K fa) (evW (T.cfg k) x)) tNil) σ H Q := by
  obtain ⟨P, m, h, env, R, E, G⟩ := q
  simp only [evW] at G
  refine ⟨P, m, h, env, R, E, G.bind fun w1 h1 m1 x1 H1 e1 p1 t1 q1 G1 => ?_⟩
  have E1 := E.go R p1 t1.ext
  split at G1
  · rename_i ds0 ev0
    obtain ⟨l0, xs0, rfl, s0, _⟩ := (view_ok q1.rel ev0 q1.val).list
    refine ⟨.inl ⟨rfl, xs0, SqL.of s0⟩, P, m1, h1, env, q1.rel, E1, G1.bind fun w2 h2 m2 z H2 e2 p2 t2 q2 G2 => ?_⟩
    split at G2
    · rename_i ds kk ev
      obtain ⟨R2, rfl⟩ := q2.int
      obtain ⟨l, xs, el, s, r⟩ := (view_ok R2 ev (q1.val.go q1.rel p2 t2.ext)).list
      cases el
      unfold cntD at G2
      cases ei : intsD ds with
      | none => rw [ei] at G2; exact G2.elim
      | some ns =>
        rw [ei] at G2
        cases r.ints ei
        cases ix with
        | false =>
          simp only [Option.bind_some, Bool.false_eq_true, if_false, Option.map_some, ofO_some] at G2 ⊢
          exact ⟨l0, ns, kk, rfl, rfl, SqL.of s, G2.fin _ _ (XExt.refl _ _) (PW.of_d R2 (.int _))⟩
        | true =>
          simp only [Option.bind_some, if_true] at G2 ⊢
          split at G2
          · rename_i hk
            simp only [Option.map_some, ofO_some] at G2
            obtain ⟨i1, i2⟩ := idx_int ns kk hk
            refine ⟨l0, _, .int kk, ns.idxOf kk, .int kk, rfl, rfl, SqL.of s, rfl, ?_, ?_, ?_, ?_, G2.fin _ _ (XExt.refl _ _) (PW.of_d R2 (.int _))⟩
            · rw [List.all_eq_true]
              intro y hy
              obtain ⟨n, _, rfl⟩ := List.mem_map.mp hy
              rfl
            · rw [List.getElem?_map, i1]; rfl
            · rw [eqV_int]; exact decide_eq_true rfl
            · intro m z hm hz
              rw [List.getElem?_map] at hz
              obtain ⟨n, e1, rfl⟩ := Option.map_eq_some_iff.mp hz
              rw [eqV_int]
              exact decide_eq_false (i2 m n hm e1)
          · exact G2.elim
    · exact G2.elim
  · exact G1.elim
theorem nilC_ok {X : Cx} {EX : XK} : PTs X [] (tX X.K fa ca EX (pB X.K fa) (evC (T.cfg k) .nil)) := by
  refine PTs.imp pts_nil fun σ H Q => ?_
  rintro ⟨P, m, h, env, R, E, G⟩
  simp only [evC] at G
  exact Goes.finT R G
theorem lc2_read {K : PySem.W.Frag} {EX : XK} {elt : E} {tg tg2 : Tg} {it it2 : It} {own : List Nat} (htg : (tgIs tg).all (fun i => own.contains i) = true) {σ : L2.St} {H : Hp} {Q : VK} (q : tX K fa ca EX (pW K fa) (evW (T.cfg k) (.lc2 elt tg it tg2 it2 own)) σ H Q) :
    tLc2 (tX K fa ca EX (pI K fa) (evI (T.cfg k) it)) (tTg K tg) (tX K fa ca E0 (pB K fa) (evC (T.cfg k) .nil)) (tX K fa ca E0 (pI K fa) (evI (T.cfg k) it2)) (tTg K tg2) (tX K fa ca E0 (pB K fa) (evC (T.cfg k) .nil)) (tX K fa ca E0 (pW K fa) (evW (T.cfg k) elt)) own (tgIs0 tg2) σ H Q := by
  obtain ⟨P, m, h, env, R, E, G⟩ := q
  simp only [evW] at G
  refine ⟨P, m, h, env, R, E, G.bind fun items h1 m1 J H1 e1 p1 t1 q1 G1 => ?_⟩
  intro Dd hD
  exact lc2_run q1.2 q1.1 (E.go R p1 t1.ext) hD (fun i hi => by
    have := List.all_eq_true.mp htg i hi
    exact List.contains_iff_mem.mp this) G1
theorem nset_read {K : PySem.W.Frag} {EX : XK} {a : E} {σ : L2.St} {H : Hp} {Q : VK} (q : tX K fa ca EX (pW K fa) (evW (T.cfg k) (.nset a)) σ H Q) : tLenSetA K (tX K fa ca EX (pW K fa) (evW (T.cfg k) a)) σ H Q := by
  obtain ⟨P, m, h, env, R, E, G⟩ := q
  simp only [evW] at G
  refine ⟨P, m, h, env, R, E, G.bind fun w1 h1 m1 x1 H1 e1 p1 t1 q1 G1 => ?_⟩
  split at G1
  · rename_i u eu
    have v := view_ok q1.rel eu q1.val
    cases u <;> simp only [nsetD, ofO_none] at G1 <;> first | exact G1.elim | skip
    · obtain ⟨l, xs, rfl, s, r⟩ := v.tup
      rename_i ds
      cases ei : intsD ds with
      | none => rw [ei] at G1; exact G1.elim
      | some ns =>
        rw [ei] at G1
        cases r.ints ei
        simp only [Option.bind_some] at G1
        split at G1
        · rename_i hl
          exact ⟨l, ns, rfl, .inr s, hl, G1.fin _ _ (XExt.refl _ _) (PW.of_d q1.rel (.int _))⟩
        · exact G1.elim
    · obtain ⟨l, xs, rfl, s, r⟩ := v.list
      rename_i ds
      cases ei : intsD ds with
      | none => rw [ei] at G1; exact G1.elim
      | some ns =>
        rw [ei] at G1
        cases r.ints ei
        simp only [Option.bind_some] at G1
        split at G1
        · rename_i hl
          exact ⟨l, ns, rfl, .inl (SqL.of s), hl, G1.fin _ _ (XExt.refl _ _) (PW.of_d q1.rel (.int _))⟩
        · exact G1.elim
  · exact G1.elim
theorem RepDs.rng {K : PySem.W.Frag} {Y : Addr → Prop} {H : Hp} (lo hi : Int) : RepDs K fa Y H (rngL lo hi) (rgV lo hi) := RepDs.intsAt lo _
theorem rgL_fin {K : PySem.W.Frag} {EX : XK} {P m : List Addr} {h : Hh} {H : Hp} {Q : VK} {t : Bool} {i j : Int} (R : HRel K fa P m h H) (hi : smallI i = true) (hj : smallI j = true)
    (G : Goes K fa ca EX (pW K fa P) P m h H (if (rngL i j).length ≤ lim then .ok (if t then .v (.d (.tup (rngL i j))) else .fresh (rngL i j)) h else .stuck) Q) :
    RgOk i j ∧ ∀ q, H q = none → Q (.ref q) (upd H q (if t then .tup (rgV i j) else .lst (rgV i j))) := by
  split at G
  · rename_i hl
    have e1 := smallI_of hi
    have e2 := smallI_of hj
    have e3 : (rngL i j).length = (j - i).toNat := by unfold rngL; rw [List.length_map, List.length_range]
    refine ⟨⟨e1.1, e1.2, e2.1, e2.2, ?_⟩, fun q hq => ?_⟩
    · rw [← e3]; exact hl
    · cases t with
      | true => exact G.fin _ _ (XExt.newT hq) (PW.tup R hq (RepDs.rng i j))
      | false => exact G.fin _ _ (XExt.newL hq) (PW.lst R hq (RepDs.rng i j))
  · exact G.elim
theorem rgL1_read {K : PySem.W.Frag} {EX : XK} {a : E} {t : Bool} {σ : L2.St} {H : Hp} {Q : VK} (q : tX K fa ca EX (pW K fa) (evW (T.cfg k) (.rgL t (.rng1 a))) σ H Q) : tX K fa ca EX (pW K fa) (evW (T.cfg k) a) σ H fun x H1 =>
    ∃ n, x = .int n ∧ RgOk 0 n ∧ ∀ q, H1 q = none → Q (.ref q) (upd H1 q (if t then .tup (rgV 0 n) else .lst (rgV 0 n))) := by
  obtain ⟨P, m, h, env, R, E, G⟩ := q
  simp only [evW, evI] at G
  refine ⟨P, m, h, env, R, E, (Goes.assoc G).bind fun w1 h1 m1 x1 H1 e1 p1 t1 q1 G1 => ?_⟩
  split at G1
  · rename_i j
    obtain ⟨R1, rfl⟩ := q1.int
    split at G1
    · rename_i hj
      exact ⟨j, rfl, rgL_fin R1 (by decide) hj G1⟩
    · exact G1.elim
  · exact G1.elim
theorem rgL2_read {K : PySem.W.Frag} {EX : XK} {a b : E} {t : Bool} {σ : L2.St} {H : Hp} {Q : VK} (q : tX K fa ca EX (pW K fa) (evW (T.cfg k) (.rgL t (.rng2 a b))) σ H Q) : tX K fa ca EX (pW K fa) (evW (T.cfg k) a) σ H fun x H1 =>
    tX K fa ca EX (pW K fa) (evW (T.cfg k) b) σ H1 fun y H2 => ∃ i j, x = .int i ∧ y = .int j ∧ RgOk i j ∧ ∀ q, H2 q = none → Q (.ref q) (upd H2 q (if t then .tup (rgV i j) else .lst (rgV i j))) := by
  obtain ⟨P, m, h, env, R, E, G⟩ := q
  simp only [evW, evI] at G
  refine ⟨P, m, h, env, R, E, (Goes.assoc G).bind fun w1 h1 m1 x1 H1 e1 p1 t1 q1 G1 => ?_⟩
  refine ⟨P, m1, h1, env, q1.rel, E.go R p1 t1.ext, (Goes.assoc G1).bind fun w2 h2 m2 x2 H2 e2 p2 t2 q2 G2 => ?_⟩
  split at G2
  · rename_i i j
    obtain ⟨R1, rfl⟩ := q1.int
    obtain ⟨R2, rfl⟩ := q2.int
    split at G2
    · rename_i hj
      rw [Bool.and_eq_true] at hj
      exact ⟨i, j, rfl, rfl, rgL_fin R2 hj.1 hj.2 G2⟩
    · exact G2.elim
  · exact G2.elim
/-- o.pop(), o.pop(i) -/
theorem pop0_read {K : PySem.W.Frag} {EX : XK} {P m : List Addr} {h : Hh} {env : Ve} {σ : L2.St} {H : Hp} {Q : VK} {o : E} (R : HRel K fa P m h H) (E : ERel K fa P m h H env σ)
    (G : Goes K fa ca EX (pW K fa P) P m h H (evW (T.cfg k) (.pop o .nil) env h) Q) : tBM0 K "list" rPop (tX K fa ca EX (pW K fa) (evW (T.cfg k) o)) σ H Q := by
  simp only [evW, evL] at G
  refine ⟨P, m, h, env, R, E, G.bind fun w1 h1 m1 x1 H1 e1 p1 t1 q1 G1 => ?_⟩
  split at G1
  · split at G1
    · rename_i n _ ds0 ed0
      obtain ⟨R1, l, el, rfl⟩ := q1
      obtain ⟨xs0, s0, r0⟩ := R1.cell n ds0 l ed0 el
      simp only [Res.bind_ok, ed0] at G1
      split at G1
      · rename_i q eq
        unfold popD at eq
        obtain ⟨d, ed, rfl⟩ := Option.map_eq_some_iff.mp eq
        obtain ⟨z, ez, rz⟩ := r0.get ed
        obtain ⟨R3, t3⟩ := R1.put ed0 el r0.dropLast
        refine ⟨.inl ⟨rfl, xs0, SqL.of s0⟩, l, xs0, z, rfl, rfl, s0, by rw [← r0.length]; exact ez, ?_⟩
        exact G1.ok m1 _ _ (List.prefix_refl _) (XExt.val t3) ⟨R3, RepD.go R1 t3 rz⟩
      · exact G1.elim
    · exact G1.elim
  · exact G1.elim
theorem pop1_read {K : PySem.W.Frag} {EX : XK} {P m : List Addr} {h : Hh} {env : Ve} {σ : L2.St} {H : Hp} {Q : VK} {o e : E} (R : HRel K fa P m h H) (E : ERel K fa P m h H env σ)
    (G : Goes K fa ca EX (pW K fa P) P m h H (evW (T.cfg k) (.pop o (.cons e .nil)) env h) Q) : tBM K "list" rPopAt (tX K fa ca EX (pW K fa) (evW (T.cfg k) o)) (tCons (tX K fa ca EX (pW K fa) (evW (T.cfg k) e)) tNil) σ H Q := by
  simp only [evW, evL] at G
  refine ⟨P, m, h, env, R, E, G.bind fun w1 h1 m1 x1 H1 e1 p1 t1 q1 G1 => ?_⟩
  have E1 := E.go R p1 t1.ext
  split at G1
  · split at G1
    · rename_i n _ ds0 ed0
      obtain ⟨R1, l, el, rfl⟩ := q1
      obtain ⟨xs0, s0, _⟩ := R1.cell n ds0 l ed0 el
      refine ⟨.inl ⟨rfl, xs0, SqL.of s0⟩, P, m1, h1, env, R1, E1, (Goes.assoc G1).bind fun y h2 m2 z H2 e2 p2 t2 q2 G2 => ?_⟩
      simp only [Res.bind_ok] at G2
      split at G2
      · rename_i ds ed
        split at G2
        · rename_i q eq
          have el2 := pre_at p2 el
          have R2 := PW.rel q2
          obtain ⟨xs, s, r⟩ := R2.cell n ds l ed el2
          unfold popD at eq
          split at eq
          · rename_i hy; cases hy
          · rename_i i hy
            split at eq
            · rename_i hb
              rw [Bool.and_eq_true, decide_eq_true_eq, decide_eq_true_eq] at hb
              obtain ⟨j, ej, eq⟩ := Option.bind_eq_some_iff.mp eq
              obtain ⟨d, ed', rfl⟩ := Option.map_eq_some_iff.mp eq
              obtain ⟨z', ez, rz⟩ := r.get ed'
              have hv : y.val = .d (.int i) := (List.cons.inj hy).1
              have hz : z = .int i := by
                have q2' := PW.val q2
                rw [hv] at q2'
                cases (show RepD K fa _ _ (.int i) z from q2')
                rfl
              subst hz
              obtain ⟨R3, t3⟩ := R2.put ed el2 (r.eraseIdx j)
              rw [r.length] at ej
              refine ⟨l, xs, i, j, z', rfl, rfl, s, hb.1, hb.2, (ixN_seq ej).1, ez, ?_⟩
              exact G2.ok m2 _ _ (List.prefix_refl _) (XExt.val t3) ⟨R3, RepD.go R2 t3 rz⟩
            · cases eq
          · cases eq
        · exact G2.elim
      · exact G2.elim
    · exact G1.elim
  · exact G1.elim
theorem mk_read {K : PySem.W.Frag} {EX : XK} {a : E} {σ : L2.St} {H : Hp} {Q : VK} (q : tX K fa ca EX (pW K fa) (evW (T.cfg k) (.mk a)) σ H Q) : tX K fa ca EX (pW K fa) (evW (T.cfg k) a) σ H Q := by
  obtain ⟨P, m, h, env, R, E, G⟩ := q
  simp only [evW] at G
  refine ⟨P, m, h, env, R, E, ?_⟩
  cases ea : evW (T.cfg k) a env h with
  | err c h1 => rw [ea] at G; exact G
  | stuck => rw [ea] at G; exact G
  | ok w h1 =>
    rw [ea] at G
    cases w with
    | v v => exact G.elim
    | fresh ds =>
      rintro m1 x1 H1 p1 t1 ⟨H0, p, xs, R0, hp, r, rfl, rfl⟩
      obtain ⟨R2, x2⟩ := R0.cellNew hp r
      refine Goes.ok (show Goes K fa ca EX (pW K fa P) P m h H (.ok (.v (.ref h1.length)) (h1 ++ [.lst ds])) Q from G) (m1 ++ [p]) _ _ (p1.trans (List.prefix_append _ _)) (XExt.val ⟨t1.ext.keep, fun a z => ?_⟩) ⟨R2, p, by rw [← R0.len]; simp, rfl⟩
      rcases (lv_app R0.len).mp z with w | ⟨rfl, _⟩
      · exact t1.ext.lv a w
      · exact t1.nw a ⟨⟨ds, rfl⟩, rfl⟩
theorem frz_read {K : PySem.W.Frag} {EX : XK} {a : E} {σ : L2.St} {H : Hp} {Q : VK} (q : tX K fa ca EX (pW K fa) (evW (T.cfg k) (.frz a)) σ H Q) : tX K fa ca EX (pW K fa) (evW (T.cfg k) a) σ H Q := by
  obtain ⟨P, m, h, env, R, E, G⟩ := q
  simp only [evW] at G
  refine ⟨P, m, h, env, R, E, G.bind fun w1 h1 m1 x1 H1 e1 p1 t1 q1 G1 => ?_⟩
  split at G1
  · split at G1
    · rename_i n _ ds ed
      obtain ⟨R1, l, el, rfl⟩ := q1
      obtain ⟨R2, t2⟩ := R1.kill n
      exact G1.ok m1 _ _ (List.prefix_refl _) (XExt.val t2) (PW.of_d R2 (R1.frz ed el))
    · exact G1.elim
  · exact G1.elim
theorem lc_read {K : PySem.W.Frag} {EX : XK} {elt : E} {tg : Tg} {it : It} {c : Bs} {own : List Nat} (htg : (tgIs tg).all (fun i => own.contains i) = true) {σ : L2.St} {H : Hp} {Q : VK} (q : tX K fa ca EX (pW K fa) (evW (T.cfg k) (.lc elt tg it c own)) σ H Q) :
    tLc (tX K fa ca EX (pI K fa) (evI (T.cfg k) it)) (tTg K tg) (tX K fa ca E0 (pB K fa) (evC (T.cfg k) c)) (tX K fa ca E0 (pW K fa) (evW (T.cfg k) elt)) own σ H Q := by
  obtain ⟨P, m, h, env, R, E, G⟩ := q
  simp only [evW] at G
  refine ⟨P, m, h, env, R, E, G.bind fun items h1 m1 J H1 e1 p1 t1 q1 G1 => ?_⟩
  intro Dd hD
  exact lc_run (m := m) (h := h) q1.2 q1.1 (E.go R p1 t1.ext) hD (fun i hi => by
    have := List.all_eq_true.mp htg i hi
    exact List.contains_iff_mem.mp this) G1
mutual
theorem evW_ok : ∀ (e : E) (x : Expr) (C : CC) (X : Cx) (EX : XK), GX T fa ca k EX C X → chkE T C e x = true → PE X x (tX X.K fa ca EX (pW X.K fa) (evW (T.cfg k) e))
  | .var i, x, C, X, EX, g, hc => by
    cases x with
    | Name x p =>
      simp only [chkE, Bool.and_eq_true, decide_eq_true_eq] at hc
      refine (pe_var (i := i) (by rw [g.hN]; exact hc.1.1) (by rw [g.sc]; exact vis_of hc.1.2) (nameOk_1 hc.2) (nameOk_2 hc.2)).imp fun σ H Q => ?_
      rintro ⟨P, m, h, env, R, E, G⟩
      simp only [evW] at G
      split at G
      · rename_i v ev
        obtain ⟨x, e1, r⟩ := E.at_ i v ev
        exact ⟨x, e1, G.fin _ _ (XExt.refl _ _) ⟨R, r⟩⟩
      · exact G.elim
    | _ => simp [chkE] at hc
  | .con c, x, C, X, EX, g, hc => by
    cases x with
    | Constant q j p =>
      simp only [chkE] at hc
      obtain ⟨v, pe, r⟩ := conB_ok (X := X) (fa := fa) (j := j) (p := p) hc
      refine pe.imp fun σ H Q => ?_
      rintro ⟨P, m, h, env, R, E, G⟩
      simp only [evW] at G
      exact G.fin _ _ (XExt.refl _ _) (PW.of_d R (r _ _))
    | _ => simp [chkE] at hc
  | .glb i, x, C, X, EX, g, hc => by
    cases x with
    | Name x p =>
      simp only [chkE, Bool.and_eq_true] at hc
      obtain ⟨⟨h1, h2⟩, h3⟩ := hc
      cases ei : T.cs[i]? with
      | none => rw [ei] at h3; cases h3
      | some q =>
        rw [ei] at h3
        have h3 := of_decide_eq_true h3
        obtain ⟨nm, d⟩ := q
        cases h3
        obtain ⟨u, v, e1, e2, r⟩ := g.cs i _ _ ei
        refine (pe_glob (g.gl h1) e1 e2 (nameOk_1 h2)).imp fun σ H Q => ?_
        rintro ⟨P, m, h, env, R, E, G⟩
        simp only [evW] at G
        have eg : (T.cfg k).glb i = d := by show T.glb i = d; unfold Tab.glb; rw [ei]
        rw [eg] at G
        exact G.fin _ _ (XExt.refl _ _) (PW.of_d R (r _ _))
    | _ => simp [chkE] at hc
  | .tup es, x, C, X, EX, g, hc => by
    cases x with
    | Tuple xs j p =>
      simp only [chkE] at hc
      refine (pe_tup (evL_ok es xs C X EX g hc)).imp fun σ H Q => ?_
      rintro ⟨P, m, h, env, R, E, G⟩
      simp only [evW] at G
      refine ⟨P, m, h, env, R, E, G.bind fun vs h1 m1 ys H1 e1 p1 x1 q1 G1 => ?_⟩
      split at G1
      · rename_i ds ed
        split at G1
        · rename_i hl
          have r := asDs_ok ed q1.2
          exact ⟨by rw [← r.length, ← lim_eq]; exact hl, fun q hq => G1.fin _ _ (XExt.newT hq) (PW.tup q1.1 hq r)⟩
        · exact G1.elim
      · exact G1.elim
    | _ => simp [chkE] at hc
  | .lst es, x, C, X, EX, g, hc => by
    cases x with
    | List xs p =>
      simp only [chkE] at hc
      refine (pe_lst (evL_ok es xs C X EX g hc)).imp fun σ H Q => ?_
      rintro ⟨P, m, h, env, R, E, G⟩
      simp only [evW] at G
      refine ⟨P, m, h, env, R, E, G.bind fun vs h1 m1 ys H1 e1 p1 x1 q1 G1 => ?_⟩
      split at G1
      · rename_i ds ed
        split at G1
        · rename_i hl
          have r := asDs_ok ed q1.2
          exact ⟨by rw [← r.length, ← lim_eq]; exact hl, fun q hq => G1.fin _ _ (XExt.newL hq) (PW.lst q1.1 hq r)⟩
        · exact G1.elim
      · exact G1.elim
    | _ => simp [chkE] at hc
  | .bin o a b, x, C, X, EX, g, hc => by
    cases x with
    | BinOp x op y p =>
      simp only [chkE, Bool.and_eq_true, decide_eq_true_eq] at hc
      obtain ⟨⟨rfl, h1⟩, h2⟩ := hc
      refine (pe_op (op_bin (fa := fa) o) (evW_ok a x C X EX g h1) (evW_ok b y C X EX g h2)).imp fun σ H Q => ?_
      rintro ⟨P, m, h, env, R, E, G⟩
      simp only [evW] at G
      refine ⟨P, m, h, env, R, E, G.bind fun w1 h1 m1 x1 H1 e1 p1 t1 q1 G1 => ?_⟩
      refine ⟨P, m1, h1, env, q1.rel, E.go R p1 t1.ext, G1.bind fun w2 h2 m2 x2 H2 e2 p2 t2 q2 G2 => ?_⟩
      split at G2
      · rename_i u v eu ev
        obtain ⟨w, ew, G3⟩ := G2.ofO
        exact ⟨P, m2, h2, u, v, w, q2.rel, view_ok q2.rel eu (q1.val.go q1.rel p2 t2.ext), view_ok q2.rel ev q2.val, ew, G3.fin⟩
      · exact G2.elim
    | _ => simp [chkE] at hc
  | .neg a, x, C, X, EX, g, hc => by
    cases x with
    | UnaryOp op x p =>
      cases op <;> first | (simp [chkE] at hc; done) | skip
      simp only [chkE] at hc
      refine (pe_un un_neg (evW_ok a x C X EX g hc)).imp fun σ H Q => ?_
      rintro ⟨P, m, h, env, R, E, G⟩
      simp only [evW] at G
      refine ⟨P, m, h, env, R, E, G.bind fun w1 h1 m1 x1 H1 e1 p1 t1 q1 G1 => ?_⟩
      split at G1
      · obtain ⟨R1, rfl⟩ := q1.int
        exact ⟨_, rfl, G1.fin _ _ (XExt.refl _ _) (PW.of_d R1 (.int _))⟩
      · exact G1.elim
    | _ => simp [chkE] at hc
  | .not a, x, C, X, EX, g, hc => by
    cases x with
    | UnaryOp op x p =>
      cases op <;> first | (simp [chkE] at hc; done) | skip
      simp only [chkE] at hc
      refine (pe_notT (evW_ok a x C X EX g hc)).imp fun σ H Q => ?_
      rintro ⟨P, m, h, env, R, E, G⟩
      simp only [evW] at G
      refine ⟨P, m, h, env, R, E, G.bind fun w1 h1 m1 x1 H1 e1 p1 t1 q1 G1 => ?_⟩
      split at G1
      · rename_i u eu
        cases ew : truD u with
        | none => rw [ew] at G1; exact G1.elim
        | some w =>
          rw [ew] at G1
          exact ⟨w, (view_ok q1.rel eu q1.val).tru ew, G1.finB q1.rel⟩
      · exact G1.elim
    | _ => simp [chkE] at hc
  | .and es, x, C, X, EX, g, hc => by
    cases x with
    | BoolOp op xs p =>
      cases op <;> first | (simp [chkE] at hc; done) | skip
      simp only [chkE, Bool.and_eq_true] at hc
      exact (evAnd_ok es xs p C X EX g hc.1).imp fun σ H Q => by
        rintro ⟨P, m, h, env, R, E, G⟩
        exact ⟨P, m, h, env, R, E, by simpa only [evW] using G⟩
    | _ => simp [chkE] at hc
  | .or es, x, C, X, EX, g, hc => by
    cases x with
    | BoolOp op xs p =>
      cases op <;> first | (simp [chkE] at hc; done) | skip
      simp only [chkE, Bool.and_eq_true] at hc
      exact (evOr_ok es xs p C X EX g hc.1).imp fun σ H Q => by
        rintro ⟨P, m, h, env, R, E, G⟩
        exact ⟨P, m, h, env, R, E, by simpa only [evW] using G⟩
    | _ => simp [chkE] at hc
  | .cmp o a b, x, C, X, EX, g, hc => by
    cases x with
    | Compare x ops ys p =>
      rcases ops with _ | ⟨op, _ | ⟨op2, ops⟩⟩ <;> rcases ys with _ | ⟨y, _ | ⟨z, zs⟩⟩ <;> first | (simp [chkE] at hc; done) | skip
      simp only [chkE, Bool.and_eq_true, decide_eq_true_eq, Bool.not_eq_true'] at hc
      obtain ⟨⟨⟨rfl, hb⟩, h1⟩, h2⟩ := hc
      refine (pe_cmpR (op_cm (fa := fa) g.hu o) (evW_ok a x C X EX g h1) (evW_ok b y C X EX g h2) hb).imp fun σ H Q => ?_
      rintro ⟨P, m, h, env, R, E, G⟩
      simp only [evW] at G
      refine ⟨P, m, h, env, R, E, G.bind fun w1 h1 m1 x1 H1 e1 p1 t1 q1 G1 => ?_⟩
      refine ⟨P, m1, h1, env, q1.rel, E.go R p1 t1.ext, G1.bind fun w2 h2 m2 x2 H2 e2 p2 t2 q2 G2 => ?_⟩
      split at G2
      · rename_i u v eu ev
        cases ew : cmpD o u v with
        | none => rw [ew] at G2; exact G2.elim
        | some w =>
          rw [ew] at G2
          exact ⟨P, m2, h2, u, v, w, q2.rel, view_ok q2.rel eu (q1.val.go q1.rel p2 t2.ext), view_ok q2.rel ev q2.val, ew, G2.finB q2.rel⟩
      · exact G2.elim
    | _ => simp [chkE] at hc
  | .chain o p a b c, x, C, X, EX, g, hc => by
    cases x with
    | Compare x ops ys ps =>
      rcases ops with _ | ⟨op, _ | ⟨op2, _ | ⟨op3, ops⟩⟩⟩ <;> rcases ys with _ | ⟨y, _ | ⟨z, _ | ⟨z2, zs⟩⟩⟩ <;> first | (simp [chkE] at hc; done) | skip
      simp only [chkE, Bool.and_eq_true, decide_eq_true_eq, Bool.not_eq_true'] at hc
      obtain ⟨⟨⟨⟨⟨rfl, rfl⟩, hb⟩, h1⟩, h2⟩, h3⟩ := hc
      refine (pe_chain (op_cm (fa := fa) g.hu o) (op_cm (fa := fa) g.hu p) (evW_ok a x C X EX g h1) (evW_ok b y C X EX g h2) (evW_ok c z C X EX g h3) hb).imp fun σ H Q => ?_
      rintro ⟨P, m, h, env, R, E, G⟩
      exact chain_read R E G
    | _ => simp [chkE] at hc
  | .ife c a b, x, C, X, EX, g, hc => by
    cases x with
    | IfExp x y z p =>
      simp only [chkE, Bool.and_eq_true] at hc
      obtain ⟨⟨h1, h2⟩, h3⟩ := hc
      refine (pe_ifExp (evT_ok c x C X EX g h1) (evW_ok a y C X EX g h2) (evW_ok b z C X EX g h3)).imp fun σ H Q => ?_
      rintro ⟨P, m, h, env, R, E, G⟩
      simp only [evW] at G
      refine ⟨P, m, h, env, R, E, G.bind fun kb h1 m1 x1 H1 e1 p1 t1 q1 G1 => ?_⟩
      obtain ⟨R1, rfl⟩ := q1
      cases kb with
      | true =>
        rw [if_pos rfl]
        exact ⟨P, m1, h1, env, R1, E.go R p1 t1.ext, by simpa using G1⟩
      | false =>
        rw [if_neg Bool.false_ne_true]
        exact ⟨P, m1, h1, env, R1, E.go R p1 t1.ext, by simpa using G1⟩
    | _ => simp [chkE] at hc
  | .call f es, x, C, X, EX, g, hc => by
    cases x with
    | Call fn xs kws p =>
      cases fn with
      | Name x p2 =>
        cases kws with
        | cons _ _ => simp [chkE] at hc
        | nil =>
          simp only [chkE, Bool.and_eq_true] at hc
          obtain ⟨⟨⟨h1, h2⟩, h3⟩, h4⟩ := hc
          cases ei : T.fs[f]? with
          | none => rw [ei] at h4; cases h4
          | some q =>
            rw [ei] at h4
            have h4 := of_decide_eq_true h4
            obtain ⟨nm, F⟩ := q
            cases h4
            obtain ⟨e1, e2, fd, ps, hb, ok0⟩ := g.fns f _ _ ei
            have ok := ok0 k (Nat.le_refl k)
            have pa := evL_ok es xs C X EX g h3
            have key : ∀ σ H Q, tX X.K fa ca EX (pW X.K fa) (evW (T.cfg k) (.call f es)) σ H Q → tX X.K fa ca EX (pL X.K fa) (evL (T.cfg k) es) σ H fun vs H1 => spF T X.K fa ca k f (vs ++ []) H1 Q EX := fun σ H Q => by
              rintro ⟨P, m, h, env, R, E, G⟩
              simp only [evW] at G
              refine ⟨P, m, h, env, R, E, G.bind fun vs h1 m1 x1 H1 e1 p1 t1 q1 G1 => ?_⟩
              refine ⟨P, m1, h1, vs, q1.1, by rw [List.append_nil]; exact q1.2, ?_⟩
              have G2 : Goes X.K fa ca EX (pW X.K fa P) P m1 h1 H1 ((T.call k f vs h1).bind fun v h => .ok (.v v) h) Q := G1
              cases er : T.call k f vs h1 with
              | ok v h2 =>
                rw [er] at G2
                exact fun m2 z H2 p2 t2 q2 => G2.ok m2 z H2 p2 (XExt.val t2.ext) q2
              | err c h2 => rw [er] at G2; exact G2
              | stuck => rw [er] at G2; exact G2
            cases xs with
            | nil =>
              refine (pe_call0 (p := p2) (pos := p) ok g.room (g.gl h1) e1 e2 hb .nil g.pass (nameOk_1 h2)).imp fun σ H Q q => ?_
              exact pa_nil_imp (es := es) (C := C) (T := T) h3 (key σ H Q q)
            | cons y ys =>
              have ns := noStars_of h3
              have ns' : noStar y = true ∧ noStars ys = true := by simpa [noStars] using ns
              exact (pe_call (p := p2) (pos := p) ok g.room (g.gl h1) e1 e2 hb .nil g.pass pa (nameOk_1 h2) (star_cons ns'.1) (back_any ns'.2)).imp key
      | _ => simp [chkE] at hc
    | _ => simp [chkE] at hc
  | .bi b es, x, C, X, EX, g, hc => by
    cases x with
    | Call fn xs kws p =>
      cases fn with
      | Name x p2 =>
        cases kws with
        | cons _ _ => simp [chkE] at hc
        | nil =>
          simp only [chkE, Bool.and_eq_true, decide_eq_true_eq] at hc
          obtain ⟨⟨⟨⟨⟨h1, h2⟩, h3⟩, h4⟩, rfl⟩, h6⟩ := hc
          cases xs with
          | nil => simp at h4
          | cons y ys =>
            refine (pe_bi g b h1 h6 (evL_ok es (y :: ys) C X EX g h3) (noStars_of h3)).imp fun σ H Q => ?_
            rintro ⟨P, m, h, env, R, E, G⟩
            simp only [evW] at G
            refine ⟨P, m, h, env, R, E, G.bind fun vs h1 m1 x1 H1 e1 p1 t1 q1 G1 => ?_⟩
            split at G1
            · rename_i ds ed
              obtain ⟨w, ew, G2⟩ := G1.ofO
              exact ⟨P, m1, h1, ds, w, q1.1, views_ok q1.1 ed q1.2, ew, G2.fin⟩
            · exact G1.elim
      | _ => simp [chkE] at hc
    | _ => simp [chkE] at hc
  | .isi t a, x, C, X, EX, g, hc => by
    cases x with
    | Call fn xs kws p =>
      cases fn with
      | Name x p2 =>
        cases kws with
        | cons _ _ => rcases xs with _ | ⟨y, _ | ⟨z, _ | ⟨z2, zs⟩⟩⟩ <;> simp [chkE] at hc
        | nil =>
          rcases xs with _ | ⟨y, _ | ⟨z, _ | ⟨z2, zs⟩⟩⟩ <;> first | (simp [chkE] at hc; done) | skip
          cases z <;> first | (simp [chkE] at hc; done) | skip
          rename_i z pz
          simp only [chkE, Bool.and_eq_true, decide_eq_true_eq] at hc
          obtain ⟨⟨⟨⟨⟨⟨⟨⟨⟨h1, h2⟩, rfl⟩, h4⟩, h5⟩, h6⟩, rfl⟩, h8⟩, h9⟩, h10⟩ := hc
          have pz' : PE X (.Name (tyN t) pz) (tC (.ty (tyV' t))) := pe_bltn (g.gl h5) (g.free _ h8) (ty_boot t) rfl (nameOk_3 h6) (nameOk_1 h6)
          refine (pe_callB (call_isTyD (fa := fa) t) (g.gl h1) (g.free _ h4) PyProof.Rows.boot_isinstance (pa_cons (evW_ok a y C X EX g h9) (pa_cons pz' pa_nil) (star_cons h10)) (by decide) (by decide) (star_cons h10) rfl).imp fun σ H Q => ?_
          rintro ⟨P, m, h, env, R, E, G⟩
          simp only [evW] at G
          refine ⟨P, m, h, env, R, E, G.bind fun w1 h1 m1 x1 H1 e1 p1 t1 q1 G1 => ?_⟩
          split at G1
          · rename_i u eu
            cases ew : isTy t u with
            | none => rw [ew] at G1; exact G1.elim
            | some w =>
              rw [ew] at G1
              exact ⟨P, m1, h1, u, x1, w, q1.rel, view_ok q1.rel eu q1.val, ew, rfl, G1.finB q1.rel⟩
          · exact G1.elim
      | _ => rcases xs with _ | ⟨y, _ | ⟨z, _ | ⟨z2, zs⟩⟩⟩ <;> simp [chkE] at hc
    | _ => simp [chkE] at hc
  | .ix a b, x, C, X, EX, g, hc => by
    cases x with
    | Subscript x y p =>
      simp only [chkE, Bool.and_eq_true] at hc
      obtain ⟨⟨h1, h2⟩, h3⟩ := hc
      refine (pe_ix (ix_D (fa := fa)) (evW_ok a x C X EX g h1) (evW_ok b y C X EX g h2) (plainIx_of h3)).imp fun σ H Q => ?_
      rintro ⟨P, m, h, env, R, E, G⟩
      simp only [evW] at G
      refine ⟨P, m, h, env, R, E, G.bind fun w1 h1 m1 x1 H1 e1 p1 t1 q1 G1 => ?_⟩
      refine ⟨P, m1, h1, env, q1.rel, E.go R p1 t1.ext, G1.bind fun w2 h2 m2 x2 H2 e2 p2 t2 q2 G2 => ?_⟩
      split at G2
      · rename_i u v eu ev
        cases ew : ixD u v with
        | none => rw [ew] at G2; exact G2.elim
        | some w =>
          rw [ew] at G2
          exact ⟨P, m2, h2, u, v, w, q2.rel, view_ok q2.rel eu (q1.val.go q1.rel p2 t2.ext), view_ok q2.rel ev q2.val, ew, fun z rz => G2.fin _ _ (XExt.refl _ _) (PW.of_d q2.rel rz)⟩
      · exact G2.elim
    | _ => simp [chkE] at hc
  | .sl a lo hi, x, C, X, EX, g, hc => by
    cases x with
    | Subscript x y p =>
      cases y <;> first | (simp [chkE] at hc; done) | skip
      rename_i l u st p2
      cases st with
      | some _ => simp [chkE] at hc
      | none =>
        simp only [chkE, Bool.and_eq_true] at hc
        obtain ⟨⟨h1, h2⟩, h3⟩ := hc
        refine (pe_slice (sl_D (fa := fa)) (evW_ok a x C X EX g h1) (evO_ok lo l C X EX g h2) (evO_ok hi u C X EX g h3)).imp fun σ H Q => ?_
        rintro ⟨P, m, h, env, R, E, G⟩
        simp only [evW] at G
        refine ⟨P, m, h, env, R, E, G.bind fun w1 h1 m1 x1 H1 e1 p1 t1 q1 G1 => ?_⟩
        have E1 := E.go R p1 t1.ext
        refine ⟨P, m1, h1, env, q1.rel, E1, G1.bind fun w2 h2 m2 x2 H2 e2 p2 t2 q2 G2 => ?_⟩
        obtain ⟨R2, rfl⟩ := q2
        refine ⟨P, m2, h2, env, R2, E1.go q1.rel p2 t2.ext, G2.bind fun w3 h3 m3 x3 H3 e3 p3 t3 q3 G3 => ?_⟩
        obtain ⟨R3, rfl⟩ := q3
        split at G3
        · rename_i v ev
          obtain ⟨w, ew, G4⟩ := G3.ofO
          exact ⟨P, m3, h3, v, w, R3, view_ok R3 ev ((q1.val.go q1.rel p2 t2.ext).go R2 p3 t3.ext), ew, G4.fin⟩
        · exact G3.elim
    | _ => simp [chkE] at hc
  | .mk a, x, C, X, EX, g, hc => by
    have hc' : chkE T C a x = true := by simpa only [chkE] using hc
    exact (evW_ok a x C X EX g hc').imp fun σ H Q => mk_read
  | .frz a, x, C, X, EX, g, hc => by
    have hc' : chkE T C a x = true := by simpa only [chkE] using hc
    exact (evW_ok a x C X EX g hc').imp fun σ H Q => frz_read
  | .lc elt tg it c own, x, C, X, EX, g, hc => by
    cases x with
    | ListComp e gs scope p =>
      rcases gs with _ | ⟨⟨t, i, ifs, z⟩, _ | ⟨g2, gs⟩⟩ <;> first | (simp [chkE] at hc; done) | skip
      simp only [chkE, Bool.and_eq_true, decide_eq_true_eq] at hc
      obtain ⟨⟨⟨⟨⟨⟨⟨rfl, h2⟩, h3⟩, h4⟩, h5⟩, h6⟩, h7⟩, h8⟩ := hc
      have hblk : BlkOk X.N X.env.scope scope (ownP C.N own) := by rw [g.hN, g.sc]; exact blkOk_by h4
      refine (pe_lc (wi := tX X.K fa ca EX (pI X.K fa) (evI (T.cfg k) it)) (g := tTg X.K tg) (tt := tX X.K fa ca E0 (pB X.K fa) (evC (T.cfg k) c)) (te := tX X.K fa ca E0 (pW X.K fa) (evW (T.cfg k) elt)) g.calm (by rw [g.hN]; exact g.nd) (evI_ok it i t C X EX g h2) hblk
        (fun s H cc cl fp => pg_tg (g.blk s H cc cl fp).gn h5) (fun s H cc cl fp => evC_ok c ifs _ _ E0 (g.blk s H cc cl fp) h6) (fun s H cc cl fp => evW_ok elt e _ _ E0 (g.blk s H cc cl fp) h7) (fun x => folded_no h3 x)).imp fun σ H Q q => ?_
      rw [blk_own h4]
      exact lc_read h8 q
    | _ => simp [chkE] at hc
  | .app o e, x, C, X, EX, g, hc => by
    cases x with
    | Call fn xs kws p =>
      cases fn with
      | Attribute x nm ap =>
        cases kws with
        | cons _ _ => rcases xs with _ | ⟨y, _ | ⟨z, zs⟩⟩ <;> simp [chkE] at hc
        | nil =>
          rcases xs with _ | ⟨y, _ | ⟨z, zs⟩⟩ <;> first | (simp [chkE] at hc; done) | skip
          unfold chkE at hc
          simp only [Bool.and_eq_true, decide_eq_true_eq] at hc
          obtain ⟨⟨⟨⟨⟨rfl, h2⟩, h3⟩, h4⟩, h5⟩, h6⟩ := hc
          refine (pe_bm (apos := ap) (cpos := p) PySem.F.plainAttrs_list PySem.F.slot_list_append PySem.F.type_list_append mt_append (evW_ok o x C X EX g h2) (pa_cons (evW_ok e y C X EX g h3) pa_nil (star_cons h4)) (by cases x <;> first | rfl | cases h5) (by rw [star_cons h4]; rfl) h6 (star_cons h4) rfl).imp fun σ H Q => ?_
          rintro ⟨P, m, h, env, R, E, G⟩
          exact app_read R E G
      | _ => rcases xs with _ | ⟨y, _ | ⟨z, zs⟩⟩ <;> cases kws <;> simp [chkE] at hc
    | _ => simp [chkE] at hc
  | .rev a, x, C, X, EX, g, hc => by
    cases x with
    | Subscript x y p =>
      cases y <;> first | (simp [chkE] at hc; done) | skip
      rename_i l u st p2
      rcases l with _ | _ <;> rcases u with _ | _ <;> rcases st with _ | st <;> first | (simp [chkE] at hc; done) | skip
      cases st <;> first | (simp [chkE] at hc; done) | skip
      rename_i op y p3
      cases op <;> first | (simp [chkE] at hc; done) | skip
      cases y <;> first | (simp [chkE] at hc; done) | skip
      rename_i c kk p4
      cases c <;> first | (simp [chkE] at hc; done) | skip
      simp only [chkE, Bool.and_eq_true, decide_eq_true_eq] at hc
      obtain ⟨rfl, h2⟩ := hc
      exact (pe_revA (evW_ok a x C X EX g h2)).imp fun σ H Q => rev_read
    | _ => simp [chkE] at hc
  | .rgL t (.rng1 a), x, C, X, EX, g, hc => by
    cases x with
    | Call fn xs kws p =>
      cases fn <;> first | (simp [chkE] at hc; done) | skip
      rename_i x p2
      rcases xs with _ | ⟨y, _ | ⟨z, zs⟩⟩ <;> first | (simp [chkE] at hc; done) | skip
      cases y <;> first | (simp [chkE] at hc; done) | skip
      rename_i fn2 xs2 kws2 p3
      cases fn2 <;> first | (simp [chkE] at hc; done) | skip
      rename_i r p4
      rcases xs2 with _ | ⟨y, _ | ⟨z, zs⟩⟩ <;> first | (simp [chkE] at hc; done) | skip
      cases kws2 <;> first | (simp [chkE] at hc; done) | skip
      cases kws <;> first | (simp [chkE] at hc; done) | skip
      unfold chkE at hc
      simp only [Bool.and_eq_true, decide_eq_true_eq] at hc
      obtain ⟨⟨⟨⟨⟨⟨⟨h1, h2⟩, h3⟩, h4⟩, h5⟩, h6⟩, h7⟩, h8⟩ := hc
      subst h5
      have rg := prg_1 (pos := p3) (p := p4) (g.gl h4) (g.free _ h6) (evW_ok a y C X EX g h7) (star_cons h8)
      cases t with
      | true =>
        have h2 : x = "tuple" := h2
        subst h2
        exact (pe_tupRg (p := p2) (pos := p) g.calm (g.gl h1) (g.free _ h3) rg).imp fun σ H Q q => rgL1_read (t := true) q
      | false =>
        have h2 : x = "list" := h2
        subst h2
        exact (pe_listRg (p := p2) (pos := p) g.calm (g.gl h1) (g.free _ h3) rg).imp fun σ H Q q => rgL1_read (t := false) q
    | _ => simp [chkE] at hc
  | .rgL t (.rng2 a b), x, C, X, EX, g, hc => by
    cases x with
    | Call fn xs kws p =>
      cases fn <;> first | (simp [chkE] at hc; done) | skip
      rename_i x p2
      rcases xs with _ | ⟨y, _ | ⟨z, zs⟩⟩ <;> first | (simp [chkE] at hc; done) | skip
      cases y <;> first | (simp [chkE] at hc; done) | skip
      rename_i fn2 xs2 kws2 p3
      cases fn2 <;> first | (simp [chkE] at hc; done) | skip
      rename_i r p4
      rcases xs2 with _ | ⟨y, _ | ⟨z, _ | ⟨z2, zs⟩⟩⟩ <;> first | (simp [chkE] at hc; done) | skip
      cases kws2 <;> first | (simp [chkE] at hc; done) | skip
      cases kws <;> first | (simp [chkE] at hc; done) | skip
      unfold chkE at hc
      simp only [Bool.and_eq_true, decide_eq_true_eq] at hc
      obtain ⟨⟨⟨⟨⟨⟨⟨⟨⟨h1, h2⟩, h3⟩, h4⟩, h5⟩, h6⟩, h7⟩, h8⟩, h9⟩, h10⟩ := hc
      subst h5
      have rg := prg_2 (pos := p3) (p := p4) (g.gl h4) (g.free _ h6) (evW_ok a y C X EX g h7) (evW_ok b z C X EX g h9) (star_cons h8) (star_cons h10) (by rw [star_cons h10]; rfl)
      cases t with
      | true =>
        have h2 : x = "tuple" := h2
        subst h2
        exact (pe_tupRg (p := p2) (pos := p) g.calm (g.gl h1) (g.free _ h3) rg).imp fun σ H Q q => rgL2_read (t := true) q
      | false =>
        have h2 : x = "list" := h2
        subst h2
        exact (pe_listRg (p := p2) (pos := p) g.calm (g.gl h1) (g.free _ h3) rg).imp fun σ H Q q => rgL2_read (t := false) q
    | _ => simp [chkE] at hc
  | .rgL t (.seq a), x, C, X, EX, g, hc => by simp [chkE] at hc
  | .rgL t (.zip a b), x, C, X, EX, g, hc => by simp [chkE] at hc
  | .rgL t (.enu a), x, C, X, EX, g, hc => by simp [chkE] at hc
  | .nset a, x, C, X, EX, g, hc => by
    cases x with
    | Call fn xs kws p =>
      cases fn <;> first | (simp [chkE] at hc; done) | skip
      rename_i x p2
      rcases xs with _ | ⟨y, _ | ⟨z, zs⟩⟩ <;> first | (simp [chkE] at hc; done) | skip
      cases y <;> first | (simp [chkE] at hc; done) | skip
      rename_i fn2 xs2 kws2 p3
      cases fn2 <;> first | (simp [chkE] at hc; done) | skip
      rename_i r p4
      rcases xs2 with _ | ⟨y, _ | ⟨z, zs⟩⟩ <;> first | (simp [chkE] at hc; done) | skip
      cases kws2 <;> first | (simp [chkE] at hc; done) | skip
      cases kws <;> first | (simp [chkE] at hc; done) | skip
      unfold chkE at hc
      simp only [Bool.and_eq_true, decide_eq_true_eq] at hc
      obtain ⟨⟨⟨⟨⟨⟨⟨h1, h2⟩, h3⟩, h4⟩, h5⟩, h6⟩, h7⟩, h8⟩ := hc
      subst h2 h5
      exact (pe_lenSetA g.calm (g.gl h1) (g.free _ h3) (g.gl h4) (g.free _ h6) (evW_ok a y C X EX g h7) (star_cons h8)).imp fun σ H Q q => nset_read q
    | _ => simp [chkE] at hc
  | .pop o .nil, x, C, X, EX, g, hc => by
    cases x with
    | Call fn xs kws p =>
      cases fn <;> first | (simp [chkE] at hc; done) | skip
      rename_i x nm ap
      cases xs <;> first | (simp [chkE] at hc; done) | skip
      cases kws <;> first | (simp [chkE] at hc; done) | skip
      unfold chkE at hc
      simp only [Bool.and_eq_true, decide_eq_true_eq] at hc
      obtain ⟨⟨⟨rfl, h2⟩, h3⟩, h4⟩ := hc
      refine (pe_bm0 (apos := ap) (cpos := p) PySem.F.plainAttrs_list PySem.F.slot_list_pop PySem.F.type_list_pop mt_pop (evW_ok o x C X EX g h2) (by cases x <;> first | rfl | cases h3) h4).imp fun σ H Q => ?_
      rintro ⟨P, m, h, env, R, E, G⟩
      exact pop0_read R E G
    | _ => simp [chkE] at hc
  | .pop o (.cons e .nil), x, C, X, EX, g, hc => by
    cases x with
    | Call fn xs kws p =>
      cases fn <;> first | (simp [chkE] at hc; done) | skip
      rename_i x nm ap
      rcases xs with _ | ⟨y, _ | ⟨z, zs⟩⟩ <;> first | (simp [chkE] at hc; done) | skip
      cases kws <;> first | (simp [chkE] at hc; done) | skip
      unfold chkE at hc
      simp only [Bool.and_eq_true, decide_eq_true_eq] at hc
      obtain ⟨⟨⟨⟨⟨rfl, h2⟩, h3⟩, h4⟩, h5⟩, h6⟩ := hc
      refine (pe_bm (apos := ap) (cpos := p) PySem.F.plainAttrs_list PySem.F.slot_list_pop PySem.F.type_list_pop mt_popAt (evW_ok o x C X EX g h2) (pa_cons (evW_ok e y C X EX g h3) pa_nil (star_cons h4)) (by cases x <;> first | rfl | cases h5) (by rw [star_cons h4]; rfl) h6 (star_cons h4) rfl).imp fun σ H Q => ?_
      rintro ⟨P, m, h, env, R, E, G⟩
      exact pop1_read R E G
    | _ => simp [chkE] at hc
  | .pop o (.cons a (.cons b r)), x, C, X, EX, g, hc => by
    cases x with
    | Call fn xs kws p => cases fn <;> first | (simp [chkE] at hc; done) | skip
    | _ => simp [chkE] at hc
  | .lam f b, x, C, X, EX, g, hc => by
    cases x with
    | Call fn xs kws p =>
      cases fn <;> first | (simp [chkE] at hc; done) | skip
      rename_i x p2
      rcases xs with _ | ⟨y, _ | ⟨z, zs⟩⟩ <;> first | (simp [chkE] at hc; done) | skip
      cases y <;> first | (simp [chkE] at hc; done) | skip
      rename_i params body scope lpos
      cases kws <;> first | (simp [chkE] at hc; done) | skip
      unfold chkE at hc
      simp only [Bool.and_eq_true] at hc
      obtain ⟨⟨⟨⟨⟨⟨h1, h2⟩, h3⟩, h4⟩, h5⟩, h6⟩, h7⟩ := hc
      cases ei : T.fs[f]? with
      | none => rw [ei] at h3; cases h3
      | some q =>
        obtain ⟨nm, F⟩ := q
        rw [ei] at h3
        simp only [Bool.and_eq_true, decide_eq_true_eq] at h3
        obtain ⟨rfl, h3⟩ := h3
        cases et : F.tr with
        | none => rw [et] at h3; cases h3
        | some q =>
          by_cases hk2 : k < 2
          · exact PE.no fun σ H Q z => by
              obtain ⟨P, m, h, env, R, E, G⟩ := z
              rw [lam_low hk2] at G
              exact G
          · obtain ⟨k', hk⟩ : ∃ k', k' + 2 = k := ⟨k - 2, by omega⟩
            obtain ⟨c, Pt, hcode, TB, hmT, hu⟩ := g.lamq h6
            obtain ⟨e1, e2, _⟩ := g.fns f _ _ ei
            obtain ⟨pg, bg, sg, dV, kV, doc, pm, an, cdv, ct, oc, od, osl, Ng, a, lk, hcg, hbd, Sg, hNg, hva, hna, hG⟩ := (g.trs f _ F q ei et).ex
            have hT : T.tr f = some q := by unfold Tab.tr Tab.fn; rw [ei]; exact et
            have hp := noPar_eq h4
            subst hp
            have hr : Room (k' + 2) X.A := by rw [hk]; exact g.room
            refine (LamX.pe_lamcall (T := fa.tl) (TT := TTr fa ca q) (k := k') (t := fun E => tX X.K fa ca E (pW X.K fa) (evW (T.cfg k') b)) (g.gl h1) e1 e2 lk hcg hbd Sg hNg hva (hG X _ k' rfl rfl rfl rfl rfl hr) TB hcode hmT hu hr (by rw [g.sc]; exact LamX.lamS_by h5) rfl (fun _ _ _ _ _ => rfl)
              (fun A outer s H E f' c' hr' => g.lv k' hk b body (C.lamb scope) _ E ⟨g.hN, g.nd, rfl, rfl, rfl, hr', fun f nm F e => ?_, g.cs, g.free, passes_call (takes_of rfl rfl rfl rfl) fun _ _ _ _ z => z, g.trs, fun z => (by cases z), fun z => (by cases z)⟩ h7) (nameOk_1 h2) (nameOk_1 hna) (nameOk_2 hna)).imp fun σ H Q z => lam_read hk hT z
            obtain ⟨z1, z2, fd, ps, hb, ok⟩ := g.fns f nm F e
            exact ⟨z1, z2, fd, ps, hb, fun k2 h => ok k2 (by omega)⟩
    | _ => simp [chkE] at hc
  | .isE i j, x, C, X, EX, g, hc => by
    cases x with
    | Call fn xs kws p =>
      cases fn <;> first | (simp [chkE] at hc; done) | skip
      rename_i x p2
      rcases xs with _ | ⟨y, _ | ⟨z, _ | ⟨z2, zs⟩⟩⟩ <;> first | (simp [chkE] at hc; done) | skip
      cases y <;> first | (simp [chkE] at hc; done) | skip
      cases z <;> first | (simp [chkE] at hc; done) | skip
      rename_i y p3 z p4
      cases kws <;> first | (simp [chkE] at hc; done) | skip
      unfold chkE at hc
      simp only [Bool.and_eq_true, decide_eq_true_eq] at hc
      obtain ⟨⟨⟨⟨⟨⟨⟨⟨⟨h1, rfl⟩, h3⟩, h4⟩, h5⟩, h6⟩, h7⟩, h8⟩, h9⟩, h10⟩ := hc
      cases ex : T.xs[j]? with
      | none => rw [ex] at h10; cases h10
      | some q =>
        rw [ex] at h10
        have h10 := of_decide_eq_true h10
        subst h10
        refine ⟨fun pins s σ H Q I hz => ?_⟩
        obtain ⟨bs, b, b1, b2, b3, b4⟩ := isE_read hz
        exact (g.ise h9 bs i j b y q _ _ _ _ b1 b2 ex h4 h5 h6 h7 h8 h1 (g.free _ h3)).run pins s σ H Q I ⟨b3, b4⟩
    | _ => simp [chkE] at hc
  | .join a e, x, C, X, EX, g, hc => by
    cases x with
    | Call fn xs kws p =>
      cases fn <;> first | (simp [chkE] at hc; done) | skip
      rename_i o nm ap
      cases o <;> first | (simp [chkE] at hc; done) | skip
      rename_i cc kj p5
      cases cc <;> first | (simp [chkE] at hc; done) | skip
      rename_i b
      rcases xs with _ | ⟨y, _ | ⟨z, zs⟩⟩ <;> first | (simp [chkE] at hc; done) | skip
      cases kws <;> first | (simp [chkE] at hc; done) | skip
      unfold chkE at hc
      simp only [Bool.and_eq_true, decide_eq_true_eq] at hc
      obtain ⟨⟨⟨⟨rfl, rfl⟩, h3⟩, h4⟩, h5⟩ := hc
      exact (pe_join (apos := ap) (pos := p) pe_str (evW_ok e y C X EX g h3) (star_cons h4) rfl h5).imp fun σ H Q z => ⟨⟨_, rfl⟩, join_read z⟩
    | _ => simp [chkE] at hc
  | .dnew t, x, C, X, EX, g, hc => by
    cases x with
    | Dict ks vs p =>
      cases ks <;> cases vs <;> first | (simp [chkE] at hc; done) | skip
      cases t with
      | true => exact pe_dnewT.imp fun σ H Q z => dnew_read (t := true) z
      | false => exact pe_dnewK.imp fun σ H Q z => dnew_read (t := false) z
    | _ => simp [chkE] at hc
  | .din neg kk d, x, C, X, EX, g, hc => by
    cases x with
    | Compare x ops ys p =>
      rcases ops with _ | ⟨op, _ | ⟨op2, ops⟩⟩ <;> rcases ys with _ | ⟨y, _ | ⟨z, zs⟩⟩ <;> first | (simp [chkE] at hc; done) | skip
      simp only [chkE, Bool.and_eq_true, decide_eq_true_eq, Bool.not_eq_true'] at hc
      obtain ⟨⟨⟨rfl, hb⟩, h1⟩, h2⟩ := hc
      have hu : X.A.units + 1 < cLine := by have := g.hu; omega
      cases neg with
      | true => exact (pe_cmp (pc_dnotin hu (evW_ok kk x C X EX g h1) (evW_ok d y C X EX g h2)) hb).imp fun σ H Q z => din_read (neg := true) z
      | false => exact (pe_cmp (pc_din hu (evW_ok kk x C X EX g h1) (evW_ok d y C X EX g h2)) hb).imp fun σ H Q z => din_read (neg := false) z
    | _ => simp [chkE] at hc
  | .dget d kk, x, C, X, EX, g, hc => by
    cases x with
    | Subscript x y p =>
      simp only [chkE, Bool.and_eq_true] at hc
      obtain ⟨⟨h1, h2⟩, h3⟩ := hc
      have hu : X.A.units + 1 < cLine := by have := g.hu; omega
      exact (pe_dget hu (evW_ok d x C X EX g h1) (evW_ok kk y C X EX g h2) (noSl_of h3)).imp fun σ H Q z => dget_read z
    | _ => simp [chkE] at hc
  | .dlen d, x, C, X, EX, g, hc => by
    cases x with
    | Call fn xs kws p =>
      cases fn <;> first | (simp [chkE] at hc; done) | skip
      rename_i x p2
      rcases xs with _ | ⟨y, _ | ⟨z, zs⟩⟩ <;> first | (simp [chkE] at hc; done) | skip
      cases kws <;> first | (simp [chkE] at hc; done) | skip
      unfold chkE at hc
      simp only [Bool.and_eq_true, decide_eq_true_eq] at hc
      obtain ⟨⟨⟨⟨⟨h1, h2⟩, rfl⟩, h4⟩, h5⟩, h6⟩ := hc
      exact (pe_callB call_lenD (g.gl h1) (g.free _ h4) (bi_boot .len) (pa_cons (evW_ok d y C X EX g h5) pa_nil (star_cons h6)) (by decide) (by decide) (star_cons h6) rfl).imp fun σ H Q z => dlen_read z
    | _ => simp [chkE] at hc
  | .cnt ix a x', x, C, X, EX, g, hc => by
    cases x with
    | Call fn xs kws p =>
      cases fn <;> first | (simp [chkE] at hc; done) | skip
      rename_i x nm ap
      rcases xs with _ | ⟨y, _ | ⟨z, zs⟩⟩ <;> first | (simp [chkE] at hc; done) | skip
      cases kws <;> first | (simp [chkE] at hc; done) | skip
      unfold chkE at hc
      simp only [Bool.and_eq_true, decide_eq_true_eq] at hc
      obtain ⟨⟨⟨⟨⟨rfl, h2⟩, h3⟩, h4⟩, h5⟩, h6⟩ := hc
      cases ix with
      | true => exact (pe_bm (apos := ap) (cpos := p) PySem.F.plainAttrs_list PySem.F.slot_list_index PySem.F.type_list_index mt_index (evW_ok a x C X EX g h2) (pa_cons (evW_ok x' y C X EX g h3) pa_nil (star_cons h4)) (by cases x <;> first | rfl | cases h5) (by rw [star_cons h4]; rfl) h6 (star_cons h4) rfl).imp fun σ H Q z => cnt_read (ix := true) z
      | false => exact (pe_bm (apos := ap) (cpos := p) PySem.F.plainAttrs_list PySem.F.slot_list_count PySem.F.type_list_count mt_lcount (evW_ok a x C X EX g h2) (pa_cons (evW_ok x' y C X EX g h3) pa_nil (star_cons h4)) (by cases x <;> first | rfl | cases h5) (by rw [star_cons h4]; rfl) h6 (star_cons h4) rfl).imp fun σ H Q z => cnt_read (ix := false) z
    | _ => simp [chkE] at hc
  | .lc2 elt tg it tg2 it2 own, x, C, X, EX, g, hc => by
    cases x with
    | ListComp e gs scope p =>
      rcases gs with _ | ⟨⟨t, i, ifs, z⟩, _ | ⟨⟨t2, i2, ifs2, z2⟩, _ | ⟨g3, gs⟩⟩⟩ <;> first | (simp [chkE] at hc; done) | skip
      cases ifs <;> cases ifs2 <;> first | (simp [chkE] at hc; done) | skip
      simp only [chkE, Bool.and_eq_true, decide_eq_true_eq] at hc
      obtain ⟨⟨⟨⟨⟨⟨⟨⟨⟨⟨⟨rfl, rfl⟩, h2⟩, h3⟩, h3b⟩, h4⟩, h5⟩, h5b⟩, h6⟩, h7⟩, h8⟩, h9⟩ := hc
      have hblk : BlkOk X.N X.env.scope scope (ownP C.N own) := by rw [g.hN, g.sc]; exact blkOk_by h4
      refine (pe_lc2 (wi := tX X.K fa ca EX (pI X.K fa) (evI (T.cfg k) it)) (g := tTg X.K tg) (tt := tX X.K fa ca E0 (pB X.K fa) (evC (T.cfg k) .nil)) (wi1 := tX X.K fa ca E0 (pI X.K fa) (evI (T.cfg k) it2)) (g1 := tTg X.K tg2) (tt1 := tX X.K fa ca E0 (pB X.K fa) (evC (T.cfg k) .nil)) (te := tX X.K fa ca E0 (pW X.K fa) (evW (T.cfg k) elt)) (vs1 := tgIs0 tg2) g.calm (by rw [g.hN]; exact g.nd) (evI_ok it i t C X EX g h2) hblk (fun j hj => by
          rw [blk_own h4]
          rw [tgIs_eq] at hj
          exact List.contains_iff_mem.mp (List.all_eq_true.mp h9 j hj))
        (fun s H cc cl fp => pg_tg (g.blk s H cc cl fp).gn h5) (fun s H cc cl fp => nilC_ok) (fun s H cc cl fp => evI_ok it2 i2 t2 _ _ E0 (g.blk s H cc cl fp) h6) (fun s H cc cl fp => pg_tg (g.blk s H cc cl fp).gn h5b) (fun s H cc cl fp => nilC_ok)
        (fun s H cc cl fp => evW_ok elt e _ _ E0 (g.blk s H cc cl fp) h7) (fun x => folded_no h3 x) (fun env x => by cases i2 <;> first | rfl | cases h3b)).imp fun σ H Q q => ?_
      rw [blk_own h4]
      exact lc2_read h8 q
    | _ => simp [chkE] at hc
theorem evT_ok : ∀ (e : B) (x : Expr) (C : CC) (X : Cx) (EX : XK), GX T fa ca k EX C X → chkT T C e x = true → PT X x (tX X.K fa ca EX (pB X.K fa) (evT (T.cfg k) e))
  | .and es, x, C, X, EX, g, hc => by
    cases x with
    | BoolOp op xs p =>
      cases op <;> first | (simp [chkT] at hc; done) | skip
      simp only [chkT, Bool.and_eq_true] at hc
      refine PT.imp (PW.pt (evAndT_ok es xs p C X EX g hc.1)) fun σ H Q => ?_
      rintro ⟨P, m, h, env, R, E, G⟩
      exact ⟨P, m, h, env, R, E, by simpa only [evT] using G⟩
    | _ => simp [chkT] at hc
  | .or es, x, C, X, EX, g, hc => by
    cases x with
    | BoolOp op xs p =>
      cases op <;> first | (simp [chkT] at hc; done) | skip
      simp only [chkT, Bool.and_eq_true] at hc
      refine PT.imp (PW.pt (evOrT_ok es xs p C X EX g hc.1)) fun σ H Q => ?_
      rintro ⟨P, m, h, env, R, E, G⟩
      exact ⟨P, m, h, env, R, E, by simpa only [evT] using G⟩
    | _ => simp [chkT] at hc
  | .not a, x, C, X, EX, g, hc => by
    cases x with
    | UnaryOp op x p =>
      cases op <;> first | (simp [chkT] at hc; done) | skip
      simp only [chkT] at hc
      refine PT.imp (pt_not (evT_ok a x C X EX g hc)) fun σ H Q => ?_
      rintro ⟨P, m, h, env, R, E, G⟩
      simp only [evT] at G
      refine ⟨P, m, h, env, R, E, G.bind fun b h1 m1 x1 H1 e1 p1 t1 q1 G1 => ?_⟩
      obtain ⟨R1, rfl⟩ := q1
      exact G1.ok m1 _ _ (List.prefix_refl _) ⟨HExt.refl _ _, fun _ z => z.elim⟩ ⟨R1, rfl⟩
    | _ => simp [chkT] at hc
  | .ife c a b, x, C, X, EX, g, hc => by
    cases x with
    | IfExp x y z p =>
      simp only [chkT, Bool.and_eq_true] at hc
      obtain ⟨⟨h1, h2⟩, h3⟩ := hc
      refine PT.imp (pt_ife (evT_ok c x C X EX g h1) (evT_ok a y C X EX g h2) (evT_ok b z C X EX g h3)) fun σ H Q => ?_
      rintro ⟨P, m, h, env, R, E, G⟩
      simp only [evT] at G
      refine ⟨P, m, h, env, R, E, G.bind fun kb h1 m1 x1 H1 e1 p1 t1 q1 G1 => ?_⟩
      obtain ⟨R1, rfl⟩ := q1
      cases kb with
      | true =>
        rw [if_pos rfl]
        exact ⟨P, m1, h1, env, R1, E.go R p1 t1.ext, by simpa using G1⟩
      | false =>
        rw [if_neg Bool.false_ne_true]
        exact ⟨P, m1, h1, env, R1, E.go R p1 t1.ext, by simpa using G1⟩
    | _ => simp [chkT] at hc
  | .e a, x, C, X, EX, g, hc => by
    simp only [chkT, Bool.and_eq_true] at hc
    obtain ⟨h0, hc⟩ := hc
    cases hp : plainT x with
    | true => exact plain_T hp (evW_ok a x C X EX g hc)
    | false =>
      rw [hp, Bool.false_or] at h0
      have hx : ∃ y ops ys p, x = .Compare y ops ys p := by
        cases a <;> first | (cases h0; done) | skip
        · cases x <;> first | (simp [chkE] at hc; done) | exact ⟨_, _, _, _, rfl⟩
        · cases x <;> first | (simp [chkE] at hc; done) | exact ⟨_, _, _, _, rfl⟩
      obtain ⟨x, ops, ys, ps, rfl⟩ := hx
      cases a <;> first | (cases h0; done) | skip
      · rename_i o a b
        rcases ops with _ | ⟨op, _ | ⟨op2, ops⟩⟩ <;> rcases ys with _ | ⟨y, _ | ⟨z, zs⟩⟩ <;> first | (simp [chkE] at hc; done) | skip
        simp only [chkE, Bool.and_eq_true, decide_eq_true_eq, Bool.not_eq_true'] at hc
        obtain ⟨⟨⟨rfl, hb⟩, h1⟩, h2⟩ := hc
        refine PT.imp (pt_cmpR (op_cm (fa := fa) g.hu o) (evW_ok a x C X EX g h1) (evW_ok b y C X EX g h2) hb) fun σ H Q => ?_
        rintro ⟨P, m, h, env, R, E, G⟩
        simp only [evT, evW] at G
        refine ⟨P, m, h, env, R, E, (Goes.assoc G).bind fun w1 h1 m1 x1 H1 e1 p1 t1 q1 G1 => ?_⟩
        refine ⟨P, m1, h1, env, q1.rel, E.go R p1 t1.ext, (Goes.assoc G1).bind fun w2 h2 m2 x2 H2 e2 p2 t2 q2 G2 => ?_⟩
        split at G2
        · rename_i u v eu ev
          cases ew : cmpD o u v with
          | none => rw [ew] at G2; exact G2.elim
          | some w =>
            rw [ew] at G2
            exact ⟨P, m2, h2, u, v, w, q2.rel, view_ok q2.rel eu (q1.val.go q1.rel p2 t2.ext), view_ok q2.rel ev q2.val, ew, w, rfl, ofB q2.rel rfl G2⟩
        · exact G2.elim
      · rename_i o p a b c
        rcases ops with _ | ⟨op, _ | ⟨op2, _ | ⟨op3, ops⟩⟩⟩ <;> rcases ys with _ | ⟨y, _ | ⟨z, _ | ⟨z2, zs⟩⟩⟩ <;> first | (simp [chkE] at hc; done) | skip
        simp only [chkE, Bool.and_eq_true, decide_eq_true_eq, Bool.not_eq_true'] at hc
        obtain ⟨⟨⟨⟨⟨rfl, rfl⟩, hb⟩, h1⟩, h2⟩, h3⟩ := hc
        refine PT.imp (pt_chain (op_cm (fa := fa) g.hu o) (op_cm (fa := fa) g.hu p) (evW_ok a x C X EX g h1) (evW_ok b y C X EX g h2) (evW_ok c z C X EX g h3) hb) fun σ H Q => ?_
        rintro ⟨P, m, h, env, R, E, G⟩
        simp only [evT] at G
        exact chain_read R E (toT (e := .chain o p a b c) (fun w h1 e => chain_bl e) G)
theorem evAnd_ok : ∀ (es : Es) (xs : List Expr) (p : Pos) (C : CC) (X : Cx) (EX : XK), GX T fa ca k EX C X → chkL T C es xs = true → PE X (.BoolOp .And xs p) (tX X.K fa ca EX (pW X.K fa) (evAnd (T.cfg k) es))
  | .nil, xs, p, C, X, EX, g, hc => ⟨fun _ _ _ _ _ _ hw => by obtain ⟨P, m, h, env, R, E, G⟩ := hw; simp only [evAnd] at G; exact G.elim⟩
  | .cons a .nil, xs, p, C, X, EX, g, hc => by
    rcases xs with _ | ⟨x, _ | ⟨y, ys⟩⟩ <;> first | (simp [chkL] at hc; done) | skip
    simp only [chkL, Bool.and_eq_true] at hc
    refine (pe_one (evW_ok a x C X EX g hc.1.1)).imp fun σ H Q => ?_
    rintro ⟨P, m, h, env, R, E, G⟩
    exact ⟨P, m, h, env, R, E, by simpa only [evAnd] using G⟩
  | .cons a (.cons b r), xs, p, C, X, EX, g, hc => by
    rcases xs with _ | ⟨x, _ | ⟨y, ys⟩⟩ <;> first | (simp [chkL] at hc; done) | skip
    have hc1 : chkE T C a x = true ∧ chkL T C (.cons b r) (y :: ys) = true := by
      rw [chkL] at hc
      simp only [Bool.and_eq_true] at hc
      exact ⟨hc.1.1, hc.2⟩
    refine (pe_and (evW_ok a x C X EX g hc1.1) (evAnd_ok (.cons b r) (y :: ys) p C X EX g hc1.2)).imp fun σ H Q => ?_
    rintro ⟨P, m, h, env, R, E, G⟩
    simp only [evAnd] at G
    refine ⟨P, m, h, env, R, E, G.bind fun w1 h1 m1 x1 H1 e1 p1 t1 q1 G1 => ?_⟩
    split at G1
    · rename_i kb ek
      rw [bW_ok ek] at q1
      obtain ⟨R1, rfl⟩ := q1.bl
      refine ⟨kb, rfl, ?_⟩
      cases kb with
      | true =>
        rw [if_pos rfl]
        exact ⟨P, m1, h1, env, R1, E.go R p1 t1.ext, by simpa using G1⟩
      | false =>
        rw [if_neg Bool.false_ne_true]
        exact Goes.finB R1 (by simpa using G1)
    · exact G1.elim
theorem evOr_ok : ∀ (es : Es) (xs : List Expr) (p : Pos) (C : CC) (X : Cx) (EX : XK), GX T fa ca k EX C X → chkL T C es xs = true → PE X (.BoolOp .Or xs p) (tX X.K fa ca EX (pW X.K fa) (evOr (T.cfg k) es))
  | .nil, xs, p, C, X, EX, g, hc => ⟨fun _ _ _ _ _ _ hw => by obtain ⟨P, m, h, env, R, E, G⟩ := hw; simp only [evOr] at G; exact G.elim⟩
  | .cons a .nil, xs, p, C, X, EX, g, hc => by
    rcases xs with _ | ⟨x, _ | ⟨y, ys⟩⟩ <;> first | (simp [chkL] at hc; done) | skip
    simp only [chkL, Bool.and_eq_true] at hc
    refine (pe_one (evW_ok a x C X EX g hc.1.1)).imp fun σ H Q => ?_
    rintro ⟨P, m, h, env, R, E, G⟩
    exact ⟨P, m, h, env, R, E, by simpa only [evOr] using G⟩
  | .cons a (.cons b r), xs, p, C, X, EX, g, hc => by
    rcases xs with _ | ⟨x, _ | ⟨y, ys⟩⟩ <;> first | (simp [chkL] at hc; done) | skip
    have hc1 : chkE T C a x = true ∧ chkL T C (.cons b r) (y :: ys) = true := by
      rw [chkL] at hc
      simp only [Bool.and_eq_true] at hc
      exact ⟨hc.1.1, hc.2⟩
    refine (pe_or (evW_ok a x C X EX g hc1.1) (evOr_ok (.cons b r) (y :: ys) p C X EX g hc1.2)).imp fun σ H Q => ?_
    rintro ⟨P, m, h, env, R, E, G⟩
    simp only [evOr] at G
    refine ⟨P, m, h, env, R, E, G.bind fun w1 h1 m1 x1 H1 e1 p1 t1 q1 G1 => ?_⟩
    split at G1
    · rename_i kb ek
      rw [bW_ok ek] at q1
      obtain ⟨R1, rfl⟩ := q1.bl
      refine ⟨kb, rfl, ?_⟩
      cases kb with
      | true =>
        rw [if_pos rfl]
        exact Goes.finB R1 (by simpa using G1)
      | false =>
        rw [if_neg Bool.false_ne_true]
        exact ⟨P, m1, h1, env, R1, E.go R p1 t1.ext, by simpa using G1⟩
    · exact G1.elim
theorem evAndT_ok : ∀ (es : Bs) (xs : List Expr) (p : Pos) (C : CC) (X : Cx) (EX : XK), GX T fa ca k EX C X → chkTs T C es xs = true → L2.PW X (.BoolOp .And xs p) (tX X.K fa ca EX (pB X.K fa) (evAndT (T.cfg k) es))
  | .nil, xs, p, C, X, EX, g, hc => ⟨fun _ _ _ _ _ _ _ hw => by obtain ⟨P, m, h, env, R, E, G⟩ := hw; simp only [evAndT] at G; exact G.elim⟩
  | .cons a .nil, xs, p, C, X, EX, g, hc => by
    rcases xs with _ | ⟨x, _ | ⟨y, ys⟩⟩ <;> first | (simp [chkTs] at hc; done) | skip
    simp only [chkTs, Bool.and_eq_true] at hc
    refine PWimp (pw_and1 (evT_ok a x C X EX g hc.1)) fun σ H Q => ?_
    rintro ⟨P, m, h, env, R, E, G⟩
    exact ⟨P, m, h, env, R, E, by simpa only [evAndT] using G⟩
  | .cons a (.cons b r), xs, p, C, X, EX, g, hc => by
    rcases xs with _ | ⟨x, _ | ⟨y, ys⟩⟩ <;> first | (simp [chkTs] at hc; done) | skip
    have hc1 : chkT T C a x = true ∧ chkTs T C (.cons b r) (y :: ys) = true := by
      rw [chkTs] at hc
      simp only [Bool.and_eq_true] at hc
      exact hc
    refine PWimp (pw_and (evT_ok a x C X EX g hc1.1) (evAndT_ok (.cons b r) (y :: ys) p C X EX g hc1.2)) fun σ H Q => ?_
    rintro ⟨P, m, h, env, R, E, G⟩
    simp only [evAndT] at G
    refine ⟨P, m, h, env, R, E, G.bind fun kb h1 m1 x1 H1 e1 p1 t1 q1 G1 => ?_⟩
    obtain ⟨R1, rfl⟩ := q1
    cases kb with
    | true =>
      rw [if_pos rfl]
      exact ⟨P, m1, h1, env, R1, E.go R p1 t1.ext, by simpa using G1⟩
    | false =>
      rw [if_neg Bool.false_ne_true]
      exact Goes.finT R1 (by simpa using G1)
theorem evOrT_ok : ∀ (es : Bs) (xs : List Expr) (p : Pos) (C : CC) (X : Cx) (EX : XK), GX T fa ca k EX C X → chkTs T C es xs = true → L2.PW X (.BoolOp .Or xs p) (tX X.K fa ca EX (pB X.K fa) (evOrT (T.cfg k) es))
  | .nil, xs, p, C, X, EX, g, hc => ⟨fun _ _ _ _ _ _ _ hw => by obtain ⟨P, m, h, env, R, E, G⟩ := hw; simp only [evOrT] at G; exact G.elim⟩
  | .cons a .nil, xs, p, C, X, EX, g, hc => by
    rcases xs with _ | ⟨x, _ | ⟨y, ys⟩⟩ <;> first | (simp [chkTs] at hc; done) | skip
    simp only [chkTs, Bool.and_eq_true] at hc
    refine PWimp (pw_or1 (evT_ok a x C X EX g hc.1)) fun σ H Q => ?_
    rintro ⟨P, m, h, env, R, E, G⟩
    exact ⟨P, m, h, env, R, E, by simpa only [evOrT] using G⟩
  | .cons a (.cons b r), xs, p, C, X, EX, g, hc => by
    rcases xs with _ | ⟨x, _ | ⟨y, ys⟩⟩ <;> first | (simp [chkTs] at hc; done) | skip
    have hc1 : chkT T C a x = true ∧ chkTs T C (.cons b r) (y :: ys) = true := by
      rw [chkTs] at hc
      simp only [Bool.and_eq_true] at hc
      exact hc
    refine PWimp (pw_or (evT_ok a x C X EX g hc1.1) (evOrT_ok (.cons b r) (y :: ys) p C X EX g hc1.2)) fun σ H Q => ?_
    rintro ⟨P, m, h, env, R, E, G⟩
    simp only [evOrT] at G
    refine ⟨P, m, h, env, R, E, G.bind fun kb h1 m1 x1 H1 e1 p1 t1 q1 G1 => ?_⟩
    obtain ⟨R1, rfl⟩ := q1
    cases kb with
    | true =>
      rw [if_pos rfl]
      exact Goes.finT R1 (by simpa using G1)
    | false =>
      rw [if_neg Bool.false_ne_true]
      exact ⟨P, m1, h1, env, R1, E.go R p1 t1.ext, by simpa using G1⟩
theorem evL_ok : ∀ (es : Es) (xs : List Expr) (C : CC) (X : Cx) (EX : XK), GX T fa ca k EX C X → chkL T C es xs = true → PA X xs (tX X.K fa ca EX (pL X.K fa) (evL (T.cfg k) es))
  | .nil, xs, C, X, EX, g, hc => by
    cases xs with
    | cons _ _ => simp [chkL] at hc
    | nil => exact pa_nil.imp fun σ H Q q => pa_nil_imp (C := C) hc q
  | .cons a r, xs, C, X, EX, g, hc => by
    cases xs with
    | nil => simp [chkL] at hc
    | cons x xs =>
      simp only [chkL, Bool.and_eq_true] at hc
      refine (pa_cons (evW_ok a x C X EX g hc.1.1) (evL_ok r xs C X EX g hc.2) (star_cons hc.1.2)).imp fun σ H Q => ?_
      rintro ⟨P, m, h, env, R, E, G⟩
      simp only [evL] at G
      refine ⟨P, m, h, env, R, E, G.bind fun w1 h1 m1 x1 H1 e1 p1 t1 q1 G1 => ?_⟩
      refine ⟨P, m1, h1, env, q1.rel, E.go R p1 t1.ext, G1.bind fun vs h2 m2 x2 H2 e2 p2 t2 q2 G2 => ?_⟩
      exact G2.ok m2 _ _ (List.prefix_refl _) ⟨HExt.refl _ _, fun _ z => z.elim⟩ ⟨q2.1, .cons (q1.val.go q1.rel p2 t2.ext) q2.2⟩
theorem evC_ok : ∀ (es : Bs) (xs : List Expr) (C : CC) (X : Cx) (EX : XK), GX T fa ca k EX C X → chkC T C es xs = true → PTs X xs (tX X.K fa ca EX (pB X.K fa) (evC (T.cfg k) es))
  | .nil, xs, C, X, EX, g, hc => by
    cases xs with
    | cons _ _ => simp [chkC] at hc
    | nil =>
      refine PTs.imp pts_nil fun σ H Q => ?_
      rintro ⟨P, m, h, env, R, E, G⟩
      simp only [evC] at G
      exact Goes.finT R G
  | .cons a .nil, xs, C, X, EX, g, hc => by
    rcases xs with _ | ⟨x, _ | ⟨y, ys⟩⟩ <;> first | (simp [chkC] at hc; done) | skip
    simp only [chkC] at hc
    refine PTs.imp (pts_one (evT_ok a x C X EX g hc)) fun σ H Q => ?_
    rintro ⟨P, m, h, env, R, E, G⟩
    exact ⟨P, m, h, env, R, E, by simpa only [evC] using G⟩
  | .cons _ (.cons _ _), xs, C, X, EX, g, hc => by simp [chkC] at hc
theorem evO_ok : ∀ (es : Es) (xs : Option Expr) (C : CC) (X : Cx) (EX : XK), GX T fa ca k EX C X → chkO T C es xs = true → PO X xs (tX X.K fa ca EX (pO X.K fa) (evO (T.cfg k) es))
  | .nil, xs, C, X, EX, g, hc => by
    cases xs with
    | some _ => simp [chkO] at hc
    | none =>
      refine PO.imp po_none fun σ H Q => ?_
      rintro ⟨P, m, h, env, R, E, G⟩
      simp only [evO] at G
      exact G.ok m _ _ (List.prefix_refl _) ⟨HExt.refl _ _, fun _ z => z.elim⟩ ⟨R, rfl⟩
  | .cons a .nil, xs, C, X, EX, g, hc => by
    cases xs with
    | none => simp [chkO] at hc
    | some x =>
      simp only [chkO] at hc
      refine PO.imp (po_some (evW_ok a x C X EX g hc)) fun σ H Q => ?_
      rintro ⟨P, m, h, env, R, E, G⟩
      simp only [evO] at G
      refine ⟨P, m, h, env, R, E, G.bind fun w1 h1 m1 x1 H1 e1 p1 t1 q1 G1 => ?_⟩
      split at G1
      · obtain ⟨R1, rfl⟩ := q1.int
        exact ⟨_, rfl, G1.ok m1 _ _ (List.prefix_refl _) ⟨HExt.refl _ _, fun _ z => z.elim⟩ ⟨R1, rfl⟩⟩
      · exact G1.elim
  | .cons _ (.cons _ _), xs, C, X, EX, g, hc => by simp [chkO] at hc
theorem evI_ok : ∀ (it : It) (x t : Expr) (C : CC) (X : Cx) (EX : XK), GX T fa ca k EX C X → chkI T C it x t = true → PI X t x (tX X.K fa ca EX (pI X.K fa) (evI (T.cfg k) it))
  | .seq e, x, t, C, X, EX, g, hc => by
    simp only [chkI] at hc
    have pe := evW_ok e x C X EX g hc
    refine PI.imp (PI.or (pi_list pe) (pi_tup pe)) fun σ H R0 => ?_
    rintro ⟨P, m, h, env, R, E, G⟩
    exact seq_read R E G
  | .rng1 a, x, t, C, X, EX, g, hc => by
    cases x with
    | Call fn xs kws p =>
      cases fn with
      | Name x p2 =>
        cases kws with
        | cons _ _ => rcases xs with _ | ⟨y, _ | ⟨z, zs⟩⟩ <;> simp [chkI] at hc
        | nil =>
          rcases xs with _ | ⟨y, _ | ⟨z, zs⟩⟩ <;> first | (simp [chkI] at hc; done) | skip
          simp only [chkI, Bool.and_eq_true, decide_eq_true_eq] at hc
          obtain ⟨⟨⟨⟨h1, rfl⟩, h3⟩, h4⟩, h5⟩ := hc
          refine PI.imp (pi_range1 (g.gl h1) (g.free _ h3) (pa_cons (evW_ok a y C X EX g h4) pa_nil (star_cons h5)) (star_cons h5)) fun σ H R0 => ?_
          rintro ⟨P, m, h, env, R, E, G⟩
          simp only [evI] at G
          refine ⟨P, m, h, env, R, E, G.bind fun w1 h1 m1 x1 H1 e1 p1 t1 q1 G1 => ?_⟩
          split at G1
          · obtain ⟨R1, rfl⟩ := q1.int
            split at G1
            · rename_i j hj
              have hj := smallI_of hj
              refine ⟨j, rfl, hj.1, hj.2, G1.ok m1 _ _ (List.prefix_refl _) ⟨HExt.refl _ _, fun _ z => z.elim⟩ ⟨R1, ?_⟩⟩
              have := wlk_rng (K := X.K) (fa := fa) (P := P) (m := m1) (h := h1) (H := H1) 0 j
              rw [Int.sub_zero] at this
              exact this
            · exact G1.elim
          · exact G1.elim
      | _ => rcases xs with _ | ⟨y, _ | ⟨z, zs⟩⟩ <;> cases kws <;> simp [chkI] at hc
    | _ => simp [chkI] at hc
  | .rng2 a b, x, t, C, X, EX, g, hc => by
    cases x with
    | Call fn xs kws p =>
      cases fn with
      | Name x p2 =>
        cases kws with
        | cons _ _ => rcases xs with _ | ⟨y, _ | ⟨z, _ | ⟨z2, zs⟩⟩⟩ <;> simp [chkI] at hc
        | nil =>
          rcases xs with _ | ⟨y, _ | ⟨z, _ | ⟨z2, zs⟩⟩⟩ <;> first | (simp [chkI] at hc; done) | skip
          simp only [chkI, Bool.and_eq_true, decide_eq_true_eq] at hc
          obtain ⟨⟨⟨⟨⟨⟨h1, rfl⟩, h3⟩, h4⟩, h5⟩, h6⟩, h7⟩ := hc
          refine PI.imp (pi_range2 (g.gl h1) (g.free _ h3) (pa_cons (evW_ok a y C X EX g h4) (pa_cons (evW_ok b z C X EX g h6) pa_nil (star_cons h7)) (star_cons h5)) (by rw [star_cons h5, star_cons h7]; rfl) (star_cons h7)) fun σ H R0 => ?_
          rintro ⟨P, m, h, env, R, E, G⟩
          simp only [evI] at G
          refine ⟨P, m, h, env, R, E, G.bind fun w1 h1 m1 x1 H1 e1 p1 t1 q1 G1 => ?_⟩
          refine ⟨P, m1, h1, env, q1.rel, E.go R p1 t1.ext, G1.bind fun w2 h2 m2 x2 H2 e2 p2 t2 q2 G2 => ?_⟩
          split at G2
          · rename_i i j
            obtain ⟨R2, rfl⟩ := q2.int
            obtain ⟨_, rfl⟩ := q1.int
            split at G2
            · rename_i hij
              simp only [Bool.and_eq_true] at hij
              have hi := smallI_of hij.1
              have hj := smallI_of hij.2
              exact ⟨i, j, rfl, ⟨hi.1, hi.2, hj.1, hj.2⟩, G2.ok m2 _ _ (List.prefix_refl _) ⟨HExt.refl _ _, fun _ z => z.elim⟩ ⟨R2, wlk_rng i j⟩⟩
            · exact G2.elim
          · exact G2.elim
      | _ => rcases xs with _ | ⟨y, _ | ⟨z, _ | ⟨z2, zs⟩⟩⟩ <;> cases kws <;> simp [chkI] at hc
    | _ => simp [chkI] at hc
  | .zip a b, x, t, C, X, EX, g, hc => by
    cases x with
    | Call fn xs kws p =>
      cases fn with
      | Name x p2 =>
        cases kws with
        | cons _ _ => rcases xs with _ | ⟨y, _ | ⟨z, _ | ⟨z2, zs⟩⟩⟩ <;> simp [chkI] at hc
        | nil =>
          rcases xs with _ | ⟨y, _ | ⟨z, _ | ⟨z2, zs⟩⟩⟩ <;> first | (simp [chkI] at hc; done) | skip
          simp only [chkI, Bool.and_eq_true, decide_eq_true_eq] at hc
          obtain ⟨⟨⟨⟨⟨⟨⟨h1, rfl⟩, h3⟩, h4⟩, h5⟩, h6⟩, h7⟩, h8⟩ := hc
          cases t <;> first | (simp [isTupE] at h8; done) | skip
          refine PI.imp (ZM.pi_zip3 (g.gl h1) (g.free _ h3) (pa_cons (evW_ok a y C X EX g h4) (pa_cons (evW_ok b z C X EX g h6) pa_nil (star_cons h7)) (star_cons h5)) (star_cons h5) (back_any (by simp [noStars, h7]))) fun σ H R0 => ?_
          rintro ⟨P, m, h, env, R, E, G⟩
          exact zip_read R E G
      | _ => rcases xs with _ | ⟨y, _ | ⟨z, _ | ⟨z2, zs⟩⟩⟩ <;> cases kws <;> simp [chkI] at hc
    | _ => simp [chkI] at hc
  | .enu e, x, t, C, X, EX, g, hc => by
    cases x with
    | Call fn xs kws p =>
      cases fn with
      | Name x p2 =>
        cases kws with
        | cons _ _ => rcases xs with _ | ⟨y, _ | ⟨z, zs⟩⟩ <;> simp [chkI] at hc
        | nil =>
          rcases xs with _ | ⟨y, _ | ⟨z, zs⟩⟩ <;> first | (simp [chkI] at hc; done) | skip
          simp only [chkI, Bool.and_eq_true, decide_eq_true_eq] at hc
          obtain ⟨⟨⟨⟨⟨h1, rfl⟩, h3⟩, h4⟩, h5⟩, h6⟩ := hc
          cases t <;> first | (simp [isTupE] at h6; done) | skip
          have pa := pa_cons (evW_ok e y C X EX g h4) pa_nil (star_cons h5)
          refine PI.imp (PI.or (pi_enum (g.gl h1) (g.free _ h3) pa (star_cons h5)) (pi_enumT (g.gl h1) (g.free _ h3) pa (star_cons h5))) fun σ H R0 => ?_
          rintro ⟨P, m, h, env, R, E, G⟩
          exact enu_read R E G
      | _ => rcases xs with _ | ⟨y, _ | ⟨z, zs⟩⟩ <;> cases kws <;> simp [chkI] at hc
    | _ => simp [chkI] at hc
end
/-- any level -/
theorem lvAll (T : Tab) (fa : FA) (ca : Nat → Addr) : ∀ k k', k' + 2 = k → ∀ (e : E) (x : Expr) (C : CC) (X : Cx) (EX : XK), GXc T fa ca k' EX C X → chkE T C e x = true → PE X x (tX X.K fa ca EX (pW X.K fa) (evW (T.cfg k') e))
  | k, k', hk, e, x, C, X, EX, g, hc => evW_ok e x C X EX ⟨g, fun k2 h2 => lvAll T fa ca k' k2 h2⟩ hc
  termination_by k => k
  decreasing_by omega
end
end Ev
set_option linter.all false
set_option maxRecDepth 100000
set_option maxHeartbeats 8000000
/-! Ev9: statements. -/
namespace Ev
open PySem PySem.Spec PyProof.Rows L2

/-! ### looks at the text -/
def notComp : Expr → Bool
  | .ListComp _ _ _ _ => false
  | .SetComp _ _ _ _ => false
  | .DictComp _ _ _ _ _ => false
  | _ => true
def isStar : Expr → Bool
  | .Starred _ _ => true
  | _ => false
def locNames (sc : Scope) (line : Nat) (ts : List Expr) : List Str := ts.filterMap fun
    | .Name id pos => if sc.names.lookup id == some .local && pos.line == line then some id else none
    | _ => none
/-- what a, b = x, y does: nothing that is known; its stores one by one (none); or from the right -/
def swF (sc : Scope) (ts vs : List Expr) : Option (Option (List Str)) :=
  if !(ts.length == 2 || ts.length == 3) || vs.length != ts.length then some none
  else if vs.any isStar then some none
  else if (locNames sc ((ts.head?.map (·.pos.line)).getD 0) ts).length != ts.length || (locNames sc ((ts.head?.map (·.pos.line)).getD 0) ts).eraseDups.length != (locNames sc ((ts.head?.map (·.pos.line)).getD 0) ts).length then some none
  else if vs.all (foldedForSure 8) then some none
  else if vs.all (constantsAlone 8) then none
  else some (some (locNames sc ((ts.head?.map (·.pos.line)).getD 0) ts))
def isTuple : Expr → Bool
  | .Tuple _ _ _ => true
  | _ => false
/-- a comprehension's own store -/
def lcLocal (sc scope : Scope) (y : Str) (py p : Pos) : Bool := decide (sc.names.lookup y = some .local) && (py.line == p.line) && !(scope.names.any fun (n, k) => n == y && (k == .local || k == .cell))
def isNm : Expr → Bool
  | .Name _ _ => true
  | _ => false
/-- name = .., any target = .. -/
def chkA (sc : Scope) (t x : Expr) : Bool := match x with
  | .ListComp _ gs scope p => (match t with
    | .Name y py => lcLocal sc scope y py p || decide (sc.names.lookup y ≠ some .local)
    | _ => true)
  | x => notComp x && !(isTuple t && isTuple x)
def chkP (T : Tab) (C : CC) (is : List Nat) (es : Es) (ts vs : List Expr) : Bool := chkNs C is ts && chkL T C es vs && (match swF C.sc ts vs with
  | some none => true
  | some (some _) => (match ts, vs, is with
    | [.Name x _, .Name y _], [_, _], [i, j] => decide (C.sc.names.lookup x = some .local) && decide (C.sc.names.lookup y = some .local) && decide (i ≠ j) && decide (swF C.sc ts vs = some (some [x, y]))
    | [.Name x _, .Name y _, .Name z _], [_, _, _], [i, j, l] => decide (C.sc.names.lookup x = some .local) && decide (C.sc.names.lookup y = some .local) && decide (C.sc.names.lookup z = some .local) && decide (i ≠ j) && decide (i ≠ l) && decide (j ≠ l) &&
        decide (swF C.sc ts vs = some (some [x, y, z]))
    | _, _, _ => false)
  | none => false)
def asPar : Stmt → Option (List Expr × List Expr)
  | .Assign [.Tuple ts _ _] (.Tuple vs _ _) _ => some (ts, vs)
  | _ => none
def asSet : Stmt → Option (Expr × Expr × Expr)
  | .Assign [.Subscript x y _] z _ => some (x, y, z)
  | _ => none
def asAsg : Stmt → Option (Expr × Expr)
  | .Assign [t] x _ => some (t, x)
  | _ => none
def asRse : Stmt → Option Str
  | .Raise (some (.Call (.Name x _) [.Constant (.str _) _ _] [] _)) none _ => some x
  | _ => none
theorem asPar_eq {s : Stmt} {q : List Expr × List Expr} (h : asPar s = some q) : ∃ k1 p1 k2 p2 p3, s = .Assign [.Tuple q.1 k1 p1] (.Tuple q.2 k2 p2) p3 := by
  unfold asPar at h
  split at h
  · cases h; exact ⟨_, _, _, _, _, rfl⟩
  · cases h
theorem asSet_eq {s : Stmt} {q : Expr × Expr × Expr} (h : asSet s = some q) : ∃ p1 p2, s = .Assign [.Subscript q.1 q.2.1 p1] q.2.2 p2 := by
  unfold asSet at h
  split at h
  · cases h; exact ⟨_, _, rfl⟩
  · cases h
theorem asAsg_eq {s : Stmt} {q : Expr × Expr} (h : asAsg s = some q) : ∃ p, s = .Assign [q.1] q.2 p := by
  unfold asAsg at h
  split at h
  · cases h; exact ⟨_, rfl⟩
  · cases h
theorem asRse_eq {s : Stmt} {x : Str} (h : asRse s = some x) : ∃ p1 m j p2 p3 p4, s = .Raise (some (.Call (.Name x p1) [.Constant (.str m) j p2] [] p3)) none p4 := by
  unfold asRse at h
  split at h
  · cases h; exact ⟨_, _, _, _, _, _, rfl⟩
  · cases h
/-- lots = [[] for pile in range(piles)], then for card in range(piles * size): lots[int(card) % piles].append(card) -/
def lotsI (p j : Nat) : E := .bin .mod (.bi .int (.cons (.var j) .nil)) (.var p)
def lotsE (p q : Nat) : E := .lc (.lst .nil) (.nm q) (.rng1 (.var p)) .nil [q]
def lotsR (p s : Nat) : It := .rng1 (.bin .mul (.var p) (.var s))
def asLot1 : Stmt → Option (Str × Pos × Expr × List Comprehension × Scope × Pos)
  | .Assign [.Name y py] (.ListComp e gs scope p) _ => some (y, py, e, gs, scope, p)
  | _ => none
def asLot2 : Stmt → Option (Expr × Expr × Expr × Expr × Expr)
  | .For t it [.Expr (.Call (.Attribute (.Subscript o x _) nm ap) [z] [] cp) _] [] _ => if decide (nm = "append") && (ap.endLine == cp.line) then some (t, it, o, x, z) else none
  | _ => none
theorem asLot1_eq {s : Stmt} {q : Str × Pos × Expr × List Comprehension × Scope × Pos} (h : asLot1 s = some q) : ∃ p1, s = .Assign [.Name q.1 q.2.1] (.ListComp q.2.2.1 q.2.2.2.1 q.2.2.2.2.1 q.2.2.2.2.2) p1 := by
  unfold asLot1 at h
  split at h
  · cases h; exact ⟨_, rfl⟩
  · cases h
theorem asLot2_eq {s : Stmt} {q : Expr × Expr × Expr × Expr × Expr} (h : asLot2 s = some q) : ∃ p1 ap cp p2 p3, s = .For q.1 q.2.1 [.Expr (.Call (.Attribute (.Subscript q.2.2.1 q.2.2.2.1 p1) "append" ap) [q.2.2.2.2] [] cp) p2] [] p3 ∧ (ap.endLine == cp.line) = true := by
  unfold asLot2 at h
  split at h
  · split at h
    · rename_i e
      simp only [Bool.and_eq_true, decide_eq_true_eq] at e
      obtain ⟨rfl, e⟩ := e
      cases h
      exact ⟨_, _, _, _, _, rfl, e⟩
    · cases h
  · cases h
def chkLots (T : Tab) (C : CC) (i j p s q : Nat) (x y : Stmt) : Bool := match asLot1 x, asLot2 y with
  | some (nm, pos, e, gs, scope, lp), some (t, it, o, ix, z) => decide (C.N[i]? = some nm) && decide (C.sc.names.lookup nm = some .local) && lcLocal C.sc scope nm pos lp && chkE T C (lotsE p q) (.ListComp e gs scope lp) &&
      chkTg C (.nm j) t && chkI T C (lotsR p s) it t && noSet it && (match o with
        | .Name l _ => decide (C.N[i]? = some l) && isVis C.sc l && nameOk l
        | _ => false) && chkE T C (lotsI p j) ix && isIx ix && chkE T C (.var j) z && noStar z
  | _, _ => false
mutual
def chkS (T : Tab) (C : CC) : S → Stmt → Bool
  | .asg tg e, s => (match asAsg s with
    | some (t, x) => chkTg C tg t && chkE T C e x && chkA C.sc t x
    | none => false)
  | .par is es, s => (match asPar s with
    | some (ts, vs) => chkP T C is es ts vs
    | none => false)
  | .setix o i e, s => (match asSet s with
    | some (x, y, z) => chkE T C o x && chkE T C i y && chkE T C e z && isIx y
    | none => false)
  | .aug i o e, .AugAssign (.Name x _) op y _ => nmOk C i x && decide (op = opB o) && chkE T C e y && decide (o = .add ∨ o = .sub)
  | .expr e, .Expr x _ => chkE T C e x && notComp x
  | .ret e, .Return (some x) _ => chkE T C e x
  | .ife c a b, .If x y z _ => chkT T C c x && chkSs T C a y && chkSs T C b z
  | .for_ tg it b, .For t i y [] _ => chkTg C tg t && chkI T C it i t && noSet i && chkSs T C b y
  | .whl c b, .While x y [] _ => chkT T C c x && chkSs T C b y
  | .brk, .Break _ => true
  | .cnt, .Continue _ => true
  | .pass, .Pass _ => true
  | .any, _ => true
  | .rse c, s => (match asRse s with
    | some x => isGl C.sc x && nameOk x && (match T.xs[c]? with
      | some y => decide (y = x)
      | none => false)
    | none => false)
  | _, _ => false
def chkSs (T : Tab) (C : CC) : Ss → List Stmt → Bool
  | .nil, [] => true
  | .cons (.frz _) r, xs => chkSs T C r xs
  | .cons (.lots i j p s q) r, x :: y :: xs => chkLots T C i j p s q x y && chkSs T C r xs
  | .cons s r, x :: xs => chkS T C s x && chkSs T C r xs
  | _, _ => false
end

theorem swF_ok {env : Env} (hk : env.scope.kind = .function) {ts vs : List Expr} {k k2 : Nat} {p p2 : Pos} {r : Option (List Str)} (h : swF env.scope ts vs = some r) : swappedStores [.Tuple ts k p] (.Tuple vs k2 p2) env = pure r := by
  have hb : env.blockKind = .function := by unfold Env.blockKind; rw [hk]; rfl
  have e : swappedStores [.Tuple ts k p] (.Tuple vs k2 p2) env = (if (!(ts.length == 2 || ts.length == 3) || vs.length != ts.length || env.blockKind != .function) = true then pure none
      else if (vs.any isStar) = true then pure none
      else if ((locNames env.scope ((ts.head?.map (·.pos.line)).getD 0) ts).length != ts.length || (locNames env.scope ((ts.head?.map (·.pos.line)).getD 0) ts).eraseDups.length != (locNames env.scope ((ts.head?.map (·.pos.line)).getD 0) ts).length) = true then pure none
      else if (vs.all (foldedForSure 8)) = true then pure none
      else if (vs.all (constantsAlone 8)) = true then (unsupported (α := PUnit) "assign.tuple-of-constant-expressions:order-of-the-stores") >>= fun _ => pure (some (locNames env.scope ((ts.head?.map (·.pos.line)).getD 0) ts))
      else pure (some (locNames env.scope ((ts.head?.map (·.pos.line)).getD 0) ts))) := by
    unfold swappedStores
    first
      | rfl
      | (simp only [pure_bind]; rfl)
  rw [e, hb]
  unfold swF at h
  simp only [bne_self_eq_false, Bool.or_false]
  split at h
  · rename_i q
    cases (Option.some.inj h)
    rw [if_pos q]
  · rename_i q
    rw [if_neg q]
    split at h
    · rename_i q2
      cases (Option.some.inj h)
      rw [if_pos q2]
    · rename_i q2
      rw [if_neg q2]
      split at h
      · rename_i q3
        cases (Option.some.inj h)
        rw [if_pos q3]
      · rename_i q3
        rw [if_neg q3]
        split at h
        · rename_i q4
          cases (Option.some.inj h)
          rw [if_pos q4]
        · rename_i q4
          rw [if_neg q4]
          split at h
          · cases h
          · rename_i q5
            cases (Option.some.inj h)
            rw [if_neg q5]

/-! ### what comes of a statement -/
def GoesS (K : PySem.W.Frag) (fa : FA) (ca : Nat → Addr) (EX : XK) (P m : List Addr) (h : Hh) (H : Hp) (r : Res Flow) (D : Ends) : Prop := match r with
  | .ok (.next env) h' => ∀ m' σ' H', m <+: m' → HExt (Lv m h) (Lv m' h') H H' → HRel K fa P m' h' H' → ERel K fa P m' h' H' env σ' → D.nx σ' H'
  | .ok (.brk env) h' => ∀ m' σ' H', m <+: m' → HExt (Lv m h) (Lv m' h') H H' → HRel K fa P m' h' H' → ERel K fa P m' h' H' env σ' → D.bk σ' H'
  | .ok (.cnt env) h' => ∀ m' σ' H', m <+: m' → HExt (Lv m h) (Lv m' h') H H' → HRel K fa P m' h' H' → ERel K fa P m' h' H' env σ' → D.ct σ' H'
  | .ok (.ret v) h' => ∀ m' x H', m <+: m' → HExt (Lv m h) (Lv m' h') H H' → HRel K fa P m' h' H' → RepV K fa P m' h' H' v x → D.rt x H'
  | .err c h' => ∀ m' H', m <+: m' → HExt (Lv m h) (Lv m' h') H H' → HRel K fa P m' h' H' → EX (.ref (ca c)) none H'
  | .stuck => False
section
variable {K : PySem.W.Frag} {fa : FA} {ca : Nat → Addr} {EX : XK} {P m m1 : List Addr} {h h1 : Hh} {H H1 : Hp} {D : Ends}
theorem GoesS.later {r : Res Flow} (G : GoesS K fa ca EX P m h H r D) (p : m <+: m1) (x : HExt (Lv m h) (Lv m1 h1) H H1) : GoesS K fa ca EX P m1 h1 H1 r D := by
  cases r with
  | ok a h' => cases a <;> exact fun m' z H' p' x' => G m' z H' (p.trans p') (x.trans x')
  | err c h' => exact fun m' H' p' x' => G m' H' (p.trans p') (x.trans x')
  | stuck => exact G
theorem GoesS.bind {α ξ : Type} [Nw α ξ] {Post : List Addr → Hh → Hp → α → ξ → Prop} {r : Res α} {g : α → Hh → Res Flow} {next : ξ → Hp → Prop} (G : GoesS K fa ca EX P m h H (r.bind g) D)
    (step : ∀ a h1 m1 x H1, r = .ok a h1 → m <+: m1 → XExt (Lv m h) (Lv m1 h1) H H1 a x → Post m1 h1 H1 a x → GoesS K fa ca EX P m1 h1 H1 (g a h1) D → next x H1) : Goes K fa ca EX Post P m h H r next := by
  cases r with
  | ok a h' => exact fun m' x H' p e q => step a h' m' x H' rfl p e q (GoesS.later (r := g a h') G p e.ext)
  | err c h' => exact G
  | stuck => exact G
theorem GoesS.ofO {α : Type} {o : Option α} {g : α → Hh → Res Flow} (G : GoesS K fa ca EX P m h H ((Ev.ofO o h).bind g) D) : ∃ a, o = some a ∧ GoesS K fa ca EX P m h H (g a h) D := by
  cases o with
  | none => exact G.elim
  | some a => exact ⟨a, rfl, G⟩
theorem GoesS.ns {r : Res Flow} (G : GoesS K fa ca EX P m h H r D) : r ≠ .stuck := fun e => by subst e; exact G
end
def tS (K : PySem.W.Frag) (fa : FA) (ca : Nat → Addr) (EX : XK) (f : Ve → Hh → Res Flow) : TS := fun D σ H =>
  ∃ (P m : List Addr) (h : Hh) (env : Ve), HRel K fa P m h H ∧ ERel K fa P m h H env σ ∧ GoesS K fa ca EX P m h H (f env h) D
structure GS (T : Tab) (fa : FA) (ca : Nat → Addr) (k : Nat) (EX : XK) (C : CC) (X : Cx) : Prop where
  gx : GX T fa ca k EX C X
  kind : X.env.scope.kind = .function
  tk : Takes X (fun cls d _ H => EX cls d H)
  po : PassesOwn (model X.prog X.w) X.A X.env X.xe
  xs : ∀ (c : Nat) (nm : Str), T.xs[c]? = some nm → X.mg nm = some (.ref (ca c)) ∧ PySem.W.excIn X.K (ca c) He.veBase "ValueError.__new__" = true ∧ PySem.W.keepIn X.K (.ref (ca c)) = true ∧
    PySem.W.subIn X.K (.ref (ca c)) (.type "BaseException") = some true ∧ PySem.W.typeIn X.K (.ref (ca c)) = some (.type "type")
section
variable {X : Cx} {T : Tab} {fa : FA} {ca : Nat → Addr} {k : Nat} {EX : XK} {C : CC}
theorem _root_.L2.PS.imp {e : Stmt} {t t' : TS} (p : PS X e t) (f : ∀ σ H Q, t' Q σ H → t Q σ H) : PS X e t' := ⟨fun pins s σ H Q I h => p.run pins s σ H Q I (f σ H Q h)⟩
theorem _root_.L2.PSs.imp {e : List Stmt} {t t' : TS} (p : PSs X e t) (f : ∀ σ H Q, t' Q σ H → t Q σ H) : PSs X e t' := ⟨fun pins s σ H Q I h => p.run pins s σ H Q I (f σ H Q h)⟩
theorem _root_.L2.PS.or {e : Stmt} {t t' : TS} (p : PS X e t) (q : PS X e t') : PS X e (fun Q σ H => t Q σ H ∨ t' Q σ H) := ⟨fun pins s σ H Q I h => h.elim (p.run pins s σ H Q I) (q.run pins s σ H Q I)⟩
theorem sw_comp {x : Expr} {t : Option Expr} {l : Nat} {env : Env} (h : notComp x = true) : swapsWith x t l env = pure false := by
  unfold swapsWith
  cases x <;> first | rfl | (simp [notComp] at h)
theorem sw_none {t x : Expr} {env : Env} (h : (isTuple t && isTuple x) = false) (hl : ∀ es p, t ≠ .List es p) : swappedStores [t] x env = pure none := by
  unfold swappedStores
  cases t <;> cases x <;> first | rfl | (simp [isTuple] at h; done) | exact absurd rfl (hl _ _)
theorem asg1 {t : Expr} {env : Env} (h : noStar t = true) : (assignEach [t] env).map (·.2) = [assign t env] := by
  cases t <;> first | rfl | (simp [noStar] at h)
theorem chkTg_ns {tg : Tg} {t : Expr} (h : chkTg C tg t = true) : noStar t = true ∧ (∀ es p, t ≠ .List es p) := by
  cases tg <;> cases t <;> first | (simp [chkTg] at h; done) | exact ⟨rfl, fun _ _ e => by cases e⟩
/-- target = value -/
theorem asg_read {K : PySem.W.Frag} {te : TE} {tg : Tg} {e : E} (hte : ∀ σ H Q, tX K fa ca EX (pW K fa) (evW (T.cfg k) e) σ H Q → te σ H Q) {D : Ends} {σ : L2.St} {H : Hp} (q : tS K fa ca EX (evS (T.cfg k) (.asg tg e)) D σ H) : tAsg te (tTg K tg) D σ H := by
  obtain ⟨P, m, h, env, R, E, G⟩ := q
  simp only [evS] at G
  refine hte _ _ _ ⟨P, m, h, env, R, E, G.bind fun w1 h1 m1 x1 H1 e1 p1 t1 q1 G1 => ?_⟩
  obtain ⟨env', eb, G2⟩ := G1.ofO
  exact tg_ok eb q1.val (E.go R p1 t1.ext) fun σ' E' _ => G2 m1 σ' H1 (List.prefix_refl _) (HExt.refl _ _) q1.rel E'
theorem lc_inv {e : E} {elt : Expr} {gs : List Comprehension} {scope : Scope} {p : Pos} (h : chkE T C e (.ListComp elt gs scope p) = true) : True := trivial
end
end Ev
set_option linter.all false
set_option maxRecDepth 100000
set_option maxHeartbeats 8000000
/-! Ev10: each statement does what the evaluator tells. -/
namespace Ev
open PySem PySem.Spec PyProof.Rows L2
section
variable {K : PySem.W.Frag} {fa : FA} {ca : Nat → Addr} {EX : XK} {P m : List Addr} {h : Hh} {H : Hp}
theorem forL_cons {F : D → Ve → Hh → Res Flow} {v : D} {vs : List D} {env : Ve} {h : Hh} : forL F (v :: vs) env h = (F v env h).bind fun f h => match f with
    | .next env => forL F vs env h
    | .cnt env => forL F vs env h
    | .brk env => .ok (.next env) h
    | .ret v => .ok (.ret v) h := rfl
/-- the loop -/
theorem for_run {cfg : Cfg} {tg : Tg} {b : Ss} {env : Ve} {items : List D} {J : L2.It} {σ : L2.St} {D' : Ends} (hw : Wlk K fa P m h H items J) (R : HRel K fa P m h H) (E : ERel K fa P m h H env σ)
    (G : GoesS K fa ca EX P m h H (forL (fun d env h => match bindT tg (.d d) env with
      | some env => evSs cfg b env h
      | none => .stuck) items env h) D') :
    ∃ W : Nat → Nat → L2.St → Hp → Prop, (∃ m, W 0 m σ H) ∧ ∀ i m σ H, W i m σ H →
      (J.stop i H ∧ D'.nx σ H) ∨ (J.go i H ∧ ∃ N : L2.St → Hp → Prop, (∀ σ' H', N σ' H' → ∃ m', m' < m ∧ W (i + 1) m' σ' H') ∧ ∀ x H', J.yld i H x H' → tTg K tg x σ H' fun σ2 H2 => tS K fa ca EX (evSs cfg b) { D' with nx := N, ct := N, bk := D'.nx } σ2 H2) := by
  generalize hF : (fun (d : D) (env : Ve) (h : Hh) => (match bindT tg (.d d) env with
      | some env => evSs cfg b env h
      | none => .stuck : Res Flow)) = F at G
  obtain ⟨Gw, Y, wk, hw⟩ := hw
  refine for_it wk (fun i σ' H' => ∃ (m' : List Addr) (h' : Hh) (env' : Ve), m <+: m' ∧ HExt (Lv m h) (Lv m' h') H H' ∧ HRel K fa P m' h' H' ∧ ERel K fa P m' h' H' env' σ' ∧ forL F items env h = forL F (items.drop i) env' h') ?_ ?_ ?_ ?_
  · exact ⟨m, h, env, List.prefix_refl _, HExt.refl _ _, R, E, rfl⟩
  · rintro i σ' H' hi ⟨m', h', env', p, x, R', _, _⟩
    exact (hw _ _ _ _ (x.toX fun a ha => .inl ha) R').1
  · rintro i x σ1 H1 H2 hi ⟨m', h', env', p, ext, R', E', ec⟩ hy
    obtain ⟨x2, R2, d, ed, rd⟩ := (hw _ _ _ _ (ext.toX fun a ha => .inl ha) R').2 i x _ hi hy
    have hdrop : items.drop i = d :: items.drop (i + 1) := by
      rw [List.drop_eq_getElem_cons hi]
      have : items[i] = d := by rw [List.getElem?_eq_getElem hi] at ed; exact Option.some.inj ed
      rw [this]
    rw [hdrop, forL_cons] at ec
    have eF : F d env' h' = (match bindT tg (.d d) env' with
      | some env => evSs cfg b env h'
      | none => .stuck) := by rw [← hF]
    rw [eF] at ec
    have E2 := E'.go R' (List.prefix_refl _) x2
    have G' := G.later (m1 := m') (h1 := h') (H1 := H2) p (ext.trans x2)
    rw [ec] at G'
    cases eb : bindT tg (.d d) env' with
    | none => rw [eb] at G'; exact G'.elim
    | some env1 =>
      rw [eb] at G' ec
      simp only at G' ec
      refine tg_ok eb rd E2 fun σ2 E3 _ => ⟨P, m', h', env1, R2, E3, ?_⟩
      cases er : evSs cfg b env1 h' with
      | stuck => rw [er] at G'; exact G'
      | err c h3 => rw [er] at G'; exact G'
      | ok f h3 =>
        rw [er] at G' ec
        simp only [Res.bind_ok] at G' ec
        cases f with
        | next env3 => exact fun m3 σ3 H3 p3 t3 R3 E3 => ⟨m3, h3, env3, p.trans p3, (ext.trans x2).trans t3, R3, E3, ec⟩
        | cnt env3 => exact fun m3 σ3 H3 p3 t3 R3 E3 => ⟨m3, h3, env3, p.trans p3, (ext.trans x2).trans t3, R3, E3, ec⟩
        | brk env3 => exact fun m3 σ3 H3 p3 t3 R3 E3 => G' m3 σ3 H3 p3 t3 R3 E3
        | ret v => exact fun m3 σ3 H3 p3 t3 R3 E3 => G' m3 σ3 H3 p3 t3 R3 E3
  · rintro σ' H' ⟨m', h', env', p, ext, R', E', ec⟩
    rw [List.drop_length] at ec
    rw [ec] at G
    exact G m' σ' H' p ext R' E'
end
section
variable {T : Tab} {fa : FA} {ca : Nat → Addr} {k : Nat}
theorem whlL_succ {c : Ve → Hh → Res Bool} {F : Ve → Hh → Res Flow} {n : Nat} {env : Ve} {h : Hh} : whlL c F (n + 1) env h = (c env h).bind fun b h => if b then (F env h).bind fun f h => match f with
      | .next env => whlL c F n env h
      | .cnt env => whlL c F n env h
      | .brk env => .ok (.next env) h
      | .ret v => .ok (.ret v) h
    else .ok (.next env) h := rfl
theorem whl_run {K : PySem.W.Frag} {EX : XK} {P m : List Addr} {h : Hh} {H : Hp} {c : B} {b : Ss} {env : Ve} {σ : L2.St} {D' : Ends} {n : Nat} (R : HRel K fa P m h H) (E : ERel K fa P m h H env σ)
    (G : GoesS K fa ca EX P m h H (whlL (evT (T.cfg k) c) (evSs (T.cfg k) b) n env h) D') : tWhile (tX K fa ca EX (pB K fa) (evT (T.cfg k) c)) (tS K fa ca EX (evSs (T.cfg k) b)) D' σ H := by
  refine ⟨fun j σ' H' => ∃ (m' : List Addr) (h' : Hh) (env' : Ve), m <+: m' ∧ HExt (Lv m h) (Lv m' h') H H' ∧ HRel K fa P m' h' H' ∧ ERel K fa P m' h' H' env' σ' ∧ whlL (evT (T.cfg k) c) (evSs (T.cfg k) b) n env h = whlL (evT (T.cfg k) c) (evSs (T.cfg k) b) j env' h',
    ⟨n, m, h, env, List.prefix_refl _, HExt.refl _ _, R, E, rfl⟩, ?_⟩
  rintro j σ1 H1 ⟨m', h', env', p, ext, R', E', ec⟩
  have G' := G.later (m1 := m') (h1 := h') (H1 := H1) p ext
  rw [ec] at G'
  cases j with
  | zero => exact G'.elim
  | succ j =>
    rw [whlL_succ] at G' ec
    refine ⟨P, m', h', env', R', E', ?_⟩
    cases et : evT (T.cfg k) c env' h' with
    | stuck => rw [et] at G'; exact G'
    | err c h3 => rw [et] at G'; exact G'
    | ok kb h3 =>
      rw [et] at G' ec
      simp only [Res.bind_ok] at G' ec
      rintro m3 b3 H3 p3 ⟨t3, _⟩ ⟨R3, rfl⟩
      have E3 := E'.go R' p3 t3
      cases kb with
      | false =>
        rw [if_neg Bool.false_ne_true]
        simp only [Bool.false_eq_true, if_false] at G'
        exact G' m3 σ1 H3 p3 t3 R3 E3
      | true =>
        rw [if_pos rfl]
        simp only [if_true] at G' ec
        refine ⟨_, fun σ' H' q => ⟨j, Nat.lt_succ_self j, q⟩, P, m3, h3, env', R3, E3, ?_⟩
        have G3 := G'.later p3 t3
        cases er : evSs (T.cfg k) b env' h3 with
        | stuck => rw [er] at G3; exact G3
        | err c h4 => rw [er] at G3; exact G3
        | ok f h4 =>
          rw [er] at G3 ec
          simp only [Res.bind_ok] at G3 ec
          cases f with
          | next env4 => exact fun m4 σ4 H4 p4 t4 R4 E4 => ⟨m4, h4, env4, (p.trans p3).trans p4, (ext.trans t3).trans t4, R4, E4, ec⟩
          | cnt env4 => exact fun m4 σ4 H4 p4 t4 R4 E4 => ⟨m4, h4, env4, (p.trans p3).trans p4, (ext.trans t3).trans t4, R4, E4, ec⟩
          | brk env4 => exact fun m4 σ4 H4 p4 t4 R4 E4 => G3 m4 σ4 H4 p4 t4 R4 E4
          | ret v => exact fun m4 σ4 H4 p4 t4 R4 E4 => G3 m4 σ4 H4 p4 t4 R4 E4
theorem seq_S {K : PySem.W.Frag} {EX : XK} {s : S} {r : Ss} {D : Ends} {σ : L2.St} {H : Hp} (q : tS K fa ca EX (evSs (T.cfg k) (.cons s r)) D σ H) : tSeq (tS K fa ca EX (evS (T.cfg k) s)) (tS K fa ca EX (evSs (T.cfg k) r)) D σ H := by
  obtain ⟨P, m, h, env, R, E, G⟩ := q
  simp only [evSs] at G
  refine ⟨P, m, h, env, R, E, ?_⟩
  cases er : evS (T.cfg k) s env h with
  | stuck => rw [er] at G; exact G
  | err c h4 => rw [er] at G; exact G
  | ok f h1 =>
    rw [er] at G
    simp only [Res.bind_ok] at G
    cases f with
    | next env1 => exact fun m1 σ1 H1 p1 t1 R1 E1 => ⟨P, m1, h1, env1, R1, E1, G.later p1 t1⟩
    | cnt env1 => exact G
    | brk env1 => exact G
    | ret v => exact G
/-- a cell's name becomes a plain list's -/
theorem frz_S {K : PySem.W.Frag} {EX : XK} {i : Nat} {r : Ss} {D : Ends} {σ : L2.St} {H : Hp} (q : tS K fa ca EX (evSs (T.cfg k) (.cons (.frz i) r)) D σ H) : tS K fa ca EX (evSs (T.cfg k) r) D σ H := by
  obtain ⟨P, m, h, env, R, E, G⟩ := q
  simp only [evSs, evS] at G
  split at G
  · rename_i n en
    split at G
    · rename_i ds ed
      simp only [Res.bind_ok] at G
      obtain ⟨R1, t1⟩ := R.kill n
      obtain ⟨x, ex, l, el, rfl⟩ := E.at_ i _ en
      have E1 := E.go R (List.prefix_refl _) t1
      refine ⟨P, m, h.set n .dead, env.set i (some (.d (.lst ds))), R1, ⟨by simp [E.len], fun j v ej => ?_⟩, G.later (List.prefix_refl _) t1⟩
      by_cases hj : i = j
      · subst hj
        rw [List.getElem?_set_self (List.getElem?_eq_some_iff.mp en).1] at ej
        cases ej
        exact ⟨_, ex, R.frz ed el⟩
      · rw [List.getElem?_set_ne hj] at ej
        exact E1.at_ j v ej
    · exact G.elim
  · exact G.elim
/-- a comprehension stored at a name of its own line -/
theorem lcS_ok {C : CC} {X : Cx} {EX : XK} (g : GX T fa ca k EX C X) {i : Nat} {y : Str} {py p sp : Pos} {elt : Expr} {gs : List Comprehension} {scope : Scope} (hi : C.N[i]? = some y) (hl : C.sc.names.lookup y = some .local) (hs : lcLocal C.sc scope y py p = true) (hk : X.env.scope.kind = .function) :
    ∀ e : E, chkE T C e (.ListComp elt gs scope p) = true → PS X (.Assign [.Name y py] (.ListComp elt gs scope p) sp) (tAsg (tX X.K fa ca EX (pW X.K fa) (evW (T.cfg k) e)) (gName i))
  | .mk a, h => (lcS_ok g hi hl hs hk a (by simpa only [chkE] using h)).imp fun σ H Q q => mk_read q
  | .frz a, h => (lcS_ok g hi hl hs hk a (by simpa only [chkE] using h)).imp fun σ H Q q => frz_read q
  | .lc e tg it c own, hc => by
    rcases gs with _ | ⟨⟨t, it', ifs, z⟩, _ | ⟨g2, gs⟩⟩ <;> first | (simp [chkE] at hc; done) | skip
    simp only [chkE, Bool.and_eq_true, decide_eq_true_eq] at hc
    obtain ⟨⟨⟨⟨⟨⟨⟨rfl, h2⟩, h3⟩, h4⟩, h5⟩, h6⟩, h7⟩, h8⟩ := hc
    have hblk : BlkOk X.N X.env.scope scope (ownP C.N own) := by rw [g.hN, g.sc]; exact blkOk_by h4
    unfold lcLocal at hs
    simp only [Bool.and_eq_true, decide_eq_true_eq, Bool.not_eq_true'] at hs
    refine (ps_setLc (i := i) (wi := tX X.K fa ca EX (pI X.K fa) (evI (T.cfg k) it)) (g := tTg X.K tg) (tt := tX X.K fa ca E0 (pB X.K fa) (evC (T.cfg k) c)) (te := tX X.K fa ca E0 (pW X.K fa) (evW (T.cfg k) e)) g.calm (by rw [g.hN]; exact g.nd) (by rw [g.hN]; exact hi) (by rw [g.sc]; exact hl)
      (sw_true hk (by rw [g.sc]; exact hl) hs.1.2 hs.2) (evI_ok it it' t C X EX g h2) hblk
      (fun s H cc cl fp => pg_tg (g.blk s H cc cl fp).gn h5) (fun s H cc cl fp => evC_ok c ifs _ _ E0 (g.blk s H cc cl fp) h6) (fun s H cc cl fp => evW_ok e elt _ _ E0 (g.blk s H cc cl fp) h7) (fun x => folded_no h3 x)).imp fun σ H Q q => ?_
    rw [blk_own h4]
    exact lc_read h8 q
  | .var _, h => by simp [chkE] at h
  | .con _, h => by simp [chkE] at h
  | .glb _, h => by simp [chkE] at h
  | .lam _ _, h => by simp [chkE] at h
  | .isE _ _, h => by simp [chkE] at h
  | .join _ _, h => by simp [chkE] at h
  | .dnew _, h => by simp [chkE] at h
  | .din _ _ _, h => by simp [chkE] at h
  | .dget _ _, h => by simp [chkE] at h
  | .dlen _, h => by simp [chkE] at h
  | .cnt _ _ _, h => by simp [chkE] at h
  | .lc2 e tg it tg2 it2 own, hc => by
    rcases gs with _ | ⟨⟨t, i', ifs, z⟩, _ | ⟨⟨t2, i2, ifs2, z2⟩, _ | ⟨g3, gs⟩⟩⟩ <;> first | (simp [chkE] at hc; done) | skip
    cases ifs <;> cases ifs2 <;> first | (simp [chkE] at hc; done) | skip
    simp only [chkE, Bool.and_eq_true, decide_eq_true_eq] at hc
    obtain ⟨⟨⟨⟨⟨⟨⟨⟨⟨⟨⟨rfl, rfl⟩, h2⟩, h3⟩, h3b⟩, h4⟩, h5⟩, h5b⟩, h6⟩, h7⟩, h8⟩, h9⟩ := hc
    have hblk : BlkOk X.N X.env.scope scope (ownP C.N own) := by rw [g.hN, g.sc]; exact blkOk_by h4
    unfold lcLocal at hs
    simp only [Bool.and_eq_true, decide_eq_true_eq, Bool.not_eq_true'] at hs
    refine (ps_setLc2 (i := i) (wi := tX X.K fa ca EX (pI X.K fa) (evI (T.cfg k) it)) (g := tTg X.K tg) (tt := tX X.K fa ca E0 (pB X.K fa) (evC (T.cfg k) .nil)) (wi1 := tX X.K fa ca E0 (pI X.K fa) (evI (T.cfg k) it2)) (g1 := tTg X.K tg2) (tt1 := tX X.K fa ca E0 (pB X.K fa) (evC (T.cfg k) .nil)) (te := tX X.K fa ca E0 (pW X.K fa) (evW (T.cfg k) e)) (vs1 := tgIs0 tg2) g.calm (by rw [g.hN]; exact g.nd) (by rw [g.hN]; exact hi) (by rw [g.sc]; exact hl)
      (sw_true hk (by rw [g.sc]; exact hl) hs.1.2 hs.2) (evI_ok it i' t C X EX g h2) hblk (fun j hj => by
          rw [blk_own h4]
          rw [tgIs_eq] at hj
          exact List.contains_iff_mem.mp (List.all_eq_true.mp h9 j hj))
        (fun s H cc cl fp => pg_tg (g.blk s H cc cl fp).gn h5) (fun s H cc cl fp => nilC_ok) (fun s H cc cl fp => evI_ok it2 i2 t2 _ _ E0 (g.blk s H cc cl fp) h6) (fun s H cc cl fp => pg_tg (g.blk s H cc cl fp).gn h5b) (fun s H cc cl fp => nilC_ok)
        (fun s H cc cl fp => evW_ok e elt _ _ E0 (g.blk s H cc cl fp) h7) (fun x => folded_no h3 x) (fun env x => by cases i2 <;> first | rfl | cases h3b)).imp fun σ H Q q => ?_
    rw [blk_own h4]
    exact lc2_read h8 q
  | .tup _, h => by simp [chkE] at h
  | .lst _, h => by simp [chkE] at h
  | .bin _ _ _, h => by simp [chkE] at h
  | .neg _, h => by simp [chkE] at h
  | .not _, h => by simp [chkE] at h
  | .and _, h => by simp [chkE] at h
  | .or _, h => by simp [chkE] at h
  | .cmp _ _ _, h => by simp [chkE] at h
  | .chain _ _ _ _ _, h => by simp [chkE] at h
  | .ife _ _ _, h => by simp [chkE] at h
  | .call _ _, h => by simp [chkE] at h
  | .bi _ _, h => by simp [chkE] at h
  | .isi _ _, h => by simp [chkE] at h
  | .ix _ _, h => by simp [chkE] at h
  | .sl _ _ _, h => by simp [chkE] at h
  | .rev _, h => by simp [chkE] at h
  | .nset _, h => by simp [chkE] at h
  | .rgL t it, h => by cases t <;> cases it <;> simp [chkE] at h
  | .pop o i, h => by rcases i with _ | ⟨_, _ | ⟨_, _⟩⟩ <;> simp [chkE] at h
  | .app _ _, h => by simp [chkE] at h
theorem par_read {K : PySem.W.Frag} {EX : XK} {is : List Nat} {es : Es} {D : Ends} {σ : L2.St} {H : Hp} (q : tS K fa ca EX (evS (T.cfg k) (.par is es)) D σ H) :
    tX K fa ca EX (pL K fa) (evL (T.cfg k) es) σ H fun xs H1 => xs.length = is.length ∧ xs.length ≤ sizeLine ∧ (∀ p, H1 p = none → tTgs K is xs σ (upd H1 p (.tup xs)) D.nx) ∧ tTgs K is xs σ H1 D.nx := by
  obtain ⟨P, m, h, env, R, E, G⟩ := q
  simp only [evS] at G
  refine ⟨P, m, h, env, R, E, G.bind fun vs h1 m1 x1 H1 e1 p1 t1 q1 G1 => ?_⟩
  split at G1
  · rename_i hl
    obtain ⟨env', eb, G2⟩ := G1.ofO
    have hlen := putAll_len eb
    have E1 := E.go R p1 t1.ext
    have hx : x1.length = is.length := by rw [← q1.2.len]; exact hlen
    refine ⟨hx, by rw [hx, ← lim_eq]; exact hl, fun p hp => ?_, ?_⟩
    · have t2 : HExt (Lv m1 h1) (Lv m1 h1) H1 (upd H1 p (.tup x1)) := HExt.new hp
      exact tgs_ok eb (q1.2.go q1.1 (List.prefix_refl _) t2) (E1.go q1.1 (List.prefix_refl _) t2) fun σ' E' _ => G2 m1 σ' _ (List.prefix_refl _) t2 (q1.1.new hp) E'
    · exact tgs_ok eb q1.2 E1 fun σ' E' _ => G2 m1 σ' _ (List.prefix_refl _) (HExt.refl _ _) q1.1 E'
  · exact G1.elim
theorem par_ok {C : CC} {X : Cx} {EX : XK} (g : GS T fa ca k EX C X) {is : List Nat} {es : Es} {ts vs : List Expr} {k1 k2 : Nat} {p1 p2 p3 : Pos} (hc : chkP T C is es ts vs = true) :
    PS X (.Assign [.Tuple ts k1 p1] (.Tuple vs k2 p2) p3) (tS X.K fa ca EX (evS (T.cfg k) (.par is es))) := by
  unfold chkP at hc
  simp only [Bool.and_eq_true] at hc
  obtain ⟨⟨h1, h2⟩, h3⟩ := hc
  have pa := evL_ok es vs C X EX g.gx h2
  have hs : swapsWithSole [.Tuple ts k1 p1] (.Tuple vs k2 p2) p3.line X.env = pure false := rfl
  split at h3
  · rename_i e0
    refine (ps_asg (pe_tup pa) (pg_tup g.gx.calm (pgs_ns g.gx.gn h1) (asgEach_ns _ h1).1 (asgEach_ns _ h1).2) hs (swF_ok g.kind (by rw [g.gx.sc]; exact e0)) rfl).imp fun σ H Q q => ?_
    obtain ⟨P, m, h, env, R, E, G⟩ := par_read q
    exact ⟨P, m, h, env, R, E, G.fold fun xs H1 q1 => ⟨q1.2.1, fun p hp => ⟨p, xs, rfl, SqT.of upd_same, q1.1, q1.2.2.1 p hp⟩⟩⟩
  · split at h3
    · simp only [Bool.and_eq_true, decide_eq_true_eq] at h3
      obtain ⟨⟨⟨hx, hy⟩, hij⟩, e0⟩ := h3
      simp only [chkNs, Bool.and_eq_true, nmOk, decide_eq_true_eq] at h1
      refine (ps_par g.gx.calm (by rw [g.gx.hN]; exact g.gx.nd) (by rw [g.gx.hN]; exact h1.1.1.1) (by rw [g.gx.hN]; exact h1.2.1.1.1) hij (by rw [g.gx.sc]; exact hx) (by rw [g.gx.sc]; exact hy) pa (swF_ok g.kind (by rw [g.gx.sc]; exact e0)) hs).imp fun σ H Q q => ?_
      obtain ⟨P, m, h, env, R, E, G⟩ := par_read q
      refine ⟨P, m, h, env, R, E, G.fold fun xs H1 q1 => ?_⟩
      obtain ⟨x, xs', rfl, y, xs'', rfl, rfl, q2⟩ := q1.2.2.2
      exact ⟨x, y, rfl, q2⟩
    · simp only [Bool.and_eq_true, decide_eq_true_eq] at h3
      obtain ⟨⟨⟨⟨⟨⟨hx, hy⟩, hz⟩, hij⟩, hil⟩, hjl⟩, e0⟩ := h3
      simp only [chkNs, Bool.and_eq_true, nmOk, decide_eq_true_eq] at h1
      refine (ps_par3 g.gx.calm (by rw [g.gx.hN]; exact g.gx.nd) (by rw [g.gx.hN]; exact h1.1.1.1) (by rw [g.gx.hN]; exact h1.2.1.1.1) (by rw [g.gx.hN]; exact h1.2.2.1.1.1) hij hil hjl (by rw [g.gx.sc]; exact hx) (by rw [g.gx.sc]; exact hy) (by rw [g.gx.sc]; exact hz) pa (swF_ok g.kind (by rw [g.gx.sc]; exact e0)) hs).imp fun σ H Q q => ?_
      obtain ⟨P, m, h, env, R, E, G⟩ := par_read q
      refine ⟨P, m, h, env, R, E, G.fold fun xs H1 q1 => ?_⟩
      obtain ⟨x, xs', rfl, y, xs'', rfl, z, xs3, rfl, rfl, q2⟩ := q1.2.2.2
      exact ⟨x, y, z, rfl, q2⟩
    · cases h3
  · cases h3
end
end Ev
set_option linter.all false
set_option maxRecDepth 100000
set_option maxHeartbeats 8000000
/-! EvL: cards dealt one by one into lots that are written in place. -/
namespace Ev
open PySem PySem.Spec PyProof.Rows L2
def lotC (P N : Nat) : Hh := (List.range P).map fun r => .lst (((List.range N).filter fun c => c % P == r).map fun (c : Nat) => D.int c)
theorem lotC_len (P N : Nat) : (lotC P N).length = P := by simp [lotC]
theorem lotC_at {P N r : Nat} (h : r < P) : (lotC P N)[r]? = some (.lst (((List.range N).filter fun c => c % P == r).map fun (c : Nat) => D.int c)) := by
  simp [lotC, h]
theorem lotC_0 (P : Nat) : lotC P 0 = List.replicate P (.lst []) := by
  refine List.ext_getElem (by simp [lotC]) fun i h1 h2 => by simp [lotC]
theorem lotC_put {P N r : Nat} (e : N % P = r) (hr : r < P) : (lotC P N).set r (.lst ((((List.range N).filter fun c => c % P == r).map fun (c : Nat) => D.int c) ++ [.int N])) = lotC P (N + 1) := by
  refine List.ext_getElem (by simp [lotC]) fun i h1 h2 => ?_
  rw [List.getElem_set]
  have hi : i < P := by simpa [lotC] using h2
  by_cases w : r = i
  · subst w
    rw [if_pos rfl]
    simp [lotC, List.range_succ, List.filter_append, e]
  · rw [if_neg w]
    have : ¬ (N % P == i) = true := by simp; omega
    simp [lotC, List.range_succ, List.filter_append, this]
section
variable {K : PySem.W.Frag} {fa : FA} {ca : Nat → Addr} {EX : XK} {P m1 : List Addr} {h1 : Hh} {H1 : Hp} {env : Ve} {σ : L2.St}
theorem pre_same {α : Type} {a b : List α} (p : a <+: b) (h : b.length = a.length) : b = a := (p.eq_of_length h.symm).symm
/-- the lots are made -/
theorem lots_run1 {C : Cfg} {N q : Nat} {J : L2.It} {Dd : Addr} {Qd : Hp → Prop} (hw : Wlk K fa P m1 h1 H1 (rngL 0 (N : Int)) J) (R1 : HRel K fa P m1 h1 H1) (E1 : ERel K fa P m1 h1 H1 env σ) (hD : H1 Dd = none) (hN : N ≤ 1000)
    (fin : ∀ m' H', m1 <+: m' → m'.length = m1.length + N → HExt (Lv m1 h1) (Lv m' (h1 ++ List.replicate N (.lst []))) H1 H' → HRel K fa (Dd :: P) m' (h1 ++ List.replicate N (.lst [])) H' → H' Dd = some (.lst ((m'.drop m1.length).map V.ref)) → Qd H') :
    ∃ W : Nat → Nat → Hp → Prop, (∃ m, W 0 m (upd H1 Dd (.lst []))) ∧ ∀ i m H, W i m H →
      (J.stop i H ∧ Qd H) ∨ (J.go i H ∧ ∃ Nx : Hp → Prop, (∀ H', Nx H' → ∃ m', m' < m ∧ W (i + 1) m' H') ∧ ∀ x H', J.yld i H x H' → tTg K (.nm q) x (wipe σ [q]) H' fun σ2 H2 => wipe σ2 [q] = wipe σ [q] ∧
        tX K fa ca E0 (pB K fa) (evC C .nil) σ2 H2 fun b H3 =>
        if b = true then tLst tNil σ2 H3 fun y H4 => ∃ acc, H4 Dd = some (.lst acc) ∧ acc.length < sizeLine ∧ Nx (upd H4 Dd (.lst (acc ++ [y]))) else Nx H3) := by
  have hlen : (rngL 0 (N : Int)).length = N := by unfold rngL; rw [List.length_map, List.length_range]; omega
  obtain ⟨Gw, Y, wk, hw⟩ := hw
  have hP : ∀ a ∈ Dd :: P, a ∈ P ∨ H1 a = none := fun a ha => by
    rcases List.mem_cons.mp ha with rfl | ha
    · exact .inr hD
    · exact .inl ha
  refine lc_it wk (fun i H => i ≤ N → ∃ (m' : List Addr), m1 <+: m' ∧ m'.length = m1.length + i ∧ HExt (Lv m1 h1) (Lv m' (h1 ++ List.replicate i (.lst []))) H1 H ∧ HRel K fa (Dd :: P) m' (h1 ++ List.replicate i (.lst [])) H ∧ H Dd = some (.lst ((m'.drop m1.length).map V.ref))) ?_ ?_ ?_ ?_
  · intro _
    refine ⟨m1, List.prefix_refl _, rfl, ?_, ?_, ?_⟩
    · rw [List.replicate_zero, List.append_nil]; exact HExt.new hD
    · rw [List.replicate_zero, List.append_nil]; exact R1.phNew hD
    · rw [List.drop_length]; exact upd_same
  · intro i H hi pv
    obtain ⟨m', p, pl, x, R, _⟩ := pv (by rw [hlen] at hi; exact hi)
    exact (hw _ _ _ _ (x.toX hP) R).1
  · intro i x H H' hi pv hy
    rw [hlen] at hi
    obtain ⟨m', p, pl, ext, R, eD⟩ := pv (by omega)
    obtain ⟨x2, R2, d, ed, rd⟩ := (hw _ _ _ _ (ext.toX hP) R).2 i x _ (by rw [hlen]; exact hi) hy
    have E2 := (E1.go' R1 p (ext.trans x2) hP).wipe [q]
    have eb : bindT (.nm q) (.d d) (wipeE env [q]) = some ((wipeE env [q]).set q (some (.d d))) := rfl
    refine tg_ok eb rd E2 fun σ2 E3 hwp => ⟨?_, ?_⟩
    · rw [hwp [q] (fun i hi => by simpa [tgIs] using hi), wipe_wipe σ [q] [q] fun _ z => z]
    refine ⟨Dd :: P, m', _, _, R2, E3, ?_⟩
    intro m3 b H3 p3 x3' q3
    obtain ⟨x3, _⟩ := x3'
    obtain ⟨R3, rfl⟩ := q3
    have em : m3 = m' := pre_same p3 (by rw [R3.len, R2.len])
    subst em
    rw [if_pos rfl]
    have eD3 : H3 Dd = some (.lst ((m3.drop m1.length).map V.ref)) := x3.keep _ _ (x2.keep _ _ eD (R.ph Dd List.mem_cons_self).2 (fun _ z => by cases z)) (R2.ph Dd List.mem_cons_self).2 (fun _ z => by cases z)
    refine ⟨Nat.zero_le _, fun a ha => ?_⟩
    have hne : Dd ≠ a := ne_of_none eD3 ha
    refine ⟨_, by rw [upd_ne hne]; exact eD3, ?_, fun _ => ?_⟩
    · rw [List.length_map, List.length_drop, pl]
      have : sizeLine = 16777216 := by rw [← lim_eq]; rfl
      omega
    obtain ⟨R4, x4⟩ := R3.cellNew (ds := []) (xs := []) ha .nil
    have er : h1 ++ List.replicate i (Cell.lst []) ++ [.lst []] = h1 ++ List.replicate (i + 1) (.lst []) := by rw [List.append_assoc, ← List.replicate_succ']
    rw [er] at R4 x4
    refine ⟨m3 ++ [a], p.trans (List.prefix_append _ _), by rw [List.length_append, pl]; rfl, HExt.phPut (((ext.trans x2).trans x3).trans x4) hD, R4.phPut List.mem_cons_self, ?_⟩
    rw [upd_same, List.drop_append_of_le_length (by omega), List.map_append]
    rfl
  · intro H pv
    rw [hlen] at pv
    obtain ⟨m', p, pl, ext, R, eD⟩ := pv (Nat.le_refl _)
    exact fin m' H p pl ext R eD
theorem evW_lotsI {C : Cfg} {env : Ve} {h : Hh} {p j : Nat} {N c : Nat} (hN : 0 < N) (hN2 : N ≤ 1000) (ep : env[p]? = some (some (.d (.int (N : Nat))))) (ej : env[j]? = some (some (.d (.int (c : Nat))))) : evW C (lotsI p j) env h = .ok (.v (.d (.int ((c % N : Nat) : Int)))) h := by
  have e : binD .mod (.int (c : Int)) (.int (N : Int)) = some (.v (.d (.int ((c % N : Nat) : Int)))) := by
    simp [binD, hN]
  unfold lotsI
  simp only [evW, evL, ej, ep, Res.bind_ok, W.val_v, views, view_d, biD, ofO_some, bInt, e]
/-- the cards are dealt -/
theorem lots_run2 {T : Tab} {k i j p : Nat} {N M : Nat} {J : L2.It} {b : Addr} {P' m' : List Addr} {DD : Ends} (hw : Wlk K fa P' m' (h1 ++ lotC N 0) H1 (rngL 0 (M : Int)) J) (R0 : HRel K fa P' m' (h1 ++ lotC N 0) H1)
    (E0 : ERel K fa P' m' (h1 ++ lotC N 0) H1 env σ) (hb : b ∈ P') (e0 : H1 b = some (.lst ((m'.drop h1.length).map V.ref))) (ei : σ[i]? = some (some (.ref b))) (ep : env[p]? = some (some (.d (.int (N : Nat))))) (hij : i ≠ j) (hjp : j ≠ p) (hj : j < env.length) (hN : 0 < N) (hN2 : N ≤ 1000) (hM : M ≤ 1000000)
    (fin : ∀ env' σ' H', HExt (Lv m' (h1 ++ lotC N 0)) (Lv m' (h1 ++ lotC N M)) H1 H' → HRel K fa P' m' (h1 ++ lotC N M) H' → ERel K fa P' m' (h1 ++ lotC N M) H' env' σ' → σ'[i]? = some (some (.ref b)) → H' b = some (.lst ((m'.drop h1.length).map V.ref)) → (0 < M → σ' = σ.set j (some (.int ((M : Int) - 1)))) → DD.nx σ' H') :
    ∃ W : Nat → Nat → L2.St → Hp → Prop, (∃ m, W 0 m σ H1) ∧ ∀ n m σ H, W n m σ H →
      (J.stop n H ∧ DD.nx σ H) ∨ (J.go n H ∧ ∃ Nx : L2.St → Hp → Prop, (∀ σ' H', Nx σ' H' → ∃ m', m' < m ∧ W (n + 1) m' σ' H') ∧ ∀ x H', J.yld n H x H' → tTg K (.nm j) x σ H' fun σ2 H2 =>
        tSeq (tDrop (tBM K "list" rAppend (tOp (rIxL K) (tVar i) (tX K fa ca EX (pW K fa) (evW (T.cfg k) (lotsI p j)))) (tCons (tVar j) tNil))) tNext { DD with nx := Nx, ct := Nx, bk := DD.nx } σ2 H2) := by
  have hlen : (rngL 0 (M : Int)).length = M := by unfold rngL; rw [List.length_map, List.length_range]; omega
  have hP : ∀ a ∈ P', a ∈ P' ∨ H1 a = none := fun a ha => .inl ha
  have ml : m'.length = h1.length + N := by rw [R0.len, List.length_append, lotC_len]
  obtain ⟨Gw, Y, wk, hw⟩ := hw
  refine for_it wk (fun n σ' H' => n ≤ M → ∃ env', HExt (Lv m' (h1 ++ lotC N 0)) (Lv m' (h1 ++ lotC N n)) H1 H' ∧ HRel K fa P' m' (h1 ++ lotC N n) H' ∧ ERel K fa P' m' (h1 ++ lotC N n) H' env' σ' ∧ σ'[i]? = some (some (.ref b)) ∧ H' b = some (.lst ((m'.drop h1.length).map V.ref)) ∧ (n = 0 → env' = env) ∧ (0 < n → env' = env.set j (some (.d (.int ((n : Int) - 1))))) ∧ (n = 0 → σ' = σ) ∧ (0 < n → σ' = σ.set j (some (.int ((n : Int) - 1))))) ?_ ?_ ?_ ?_
  · exact fun _ => ⟨env, HExt.refl _ _, R0, E0, ei, e0, fun _ => rfl, fun z => absurd z (Nat.lt_irrefl 0), fun _ => rfl, fun z => absurd z (Nat.lt_irrefl 0)⟩
  · intro n σ' H' hn pv
    obtain ⟨env', x, R, _⟩ := pv (by rw [hlen] at hn; exact hn)
    exact (hw _ _ _ _ (x.toX hP) R).1
  · intro n x σ' H' H'' hn pv hy
    rw [hlen] at hn
    obtain ⟨env', ext, R, E, ei, e0, z1, z2, y1, y2⟩ := pv (by omega)
    obtain ⟨x2, R2, d, ed, rd⟩ := (hw _ _ _ _ (ext.toX hP) R).2 n x _ (by rw [hlen]; exact hn) hy
    have hd : d = .int (n : Int) := by
      have hn' : n < ((M : Int) - 0).toNat := by omega
      unfold rngL at ed
      rw [List.getElem?_map, List.getElem?_range hn'] at ed
      have := Option.some.inj ed
      rw [← this]
      show D.int (0 + (n : Int)) = _
      rw [Int.zero_add]
    subst hd
    cases rd
    have E2 := E.go R (List.prefix_refl _) x2
    have E3 := E2.set j (show RepV K fa P' m' _ H'' (.d (.int (n : Int))) (.int (n : Int)) from RepD.int _)
    have e2 : H'' b = some (.lst ((m'.drop h1.length).map V.ref)) := x2.keep _ _ e0 (R.ph b hb).2 (fun _ z => by cases z)
    have es : env'.set j (some (.d (.int (n : Int)))) = env.set j (some (.d (.int (n : Int)))) := by
      by_cases w : n = 0
      · rw [z1 w]
      · rw [z2 (by omega), List.set_set]
    rw [es] at E3
    have ep2 : (env.set j (some (.d (.int (n : Int)))))[p]? = some (some (.d (.int (N : Nat)))) := by rw [List.getElem?_set_ne hjp]; exact ep
    have ej2 : (env.set j (some (.d (.int (n : Int)))))[j]? = some (some (.d (.int (n : Nat)))) := List.getElem?_set_self hj
    have hjs : j < σ'.length := by
      have := E3.len
      simp only [List.length_set] at this
      omega
    have esi : (σ'.set j (some (.int (n : Int))))[i]? = some (some (.ref b)) := by rw [List.getElem?_set_ne (fun z => hij z.symm)]; exact ei
    have esj : (σ'.set j (some (.int (n : Int))))[j]? = some (some (.int (n : Int))) := List.getElem?_set_self hjs
    refine ⟨_, esi, P', m', _, _, R2, E3, ?_⟩
    rw [evW_lotsI hN hN2 ep2 ej2]
    intro m3 y H3 p3 x3' q3
    have x3 := x3'.ext
    obtain ⟨R3, ry⟩ := q3.int
    subst ry
    have em : m3 = m' := pre_same p3 (by rw [R3.len, R2.len])
    subst em
    have e3 : H3 b = some (.lst ((m3.drop h1.length).map V.ref)) := x3.keep _ _ e2 (R2.ph b hb).2 (fun _ z => by cases z)
    have hr : n % N < N := Nat.mod_lt _ hN
    obtain ⟨a, ea⟩ : ∃ a, m3[h1.length + n % N]? = some a := ⟨_, List.getElem?_eq_getElem (by omega)⟩
    have ea2 : ((m3.drop h1.length).map V.ref)[n % N]? = some (V.ref a) := by rw [List.getElem?_map, List.getElem?_drop, ea]; rfl
    refine ⟨b, _, _, V.ref a, rfl, rfl, SqL.of e3, ?_, ?_⟩
    · have hl : ((m3.drop h1.length).map V.ref).length = N := by rw [List.length_map, List.length_drop]; omega
      unfold atI ixN
      rw [hl, if_pos (by omega), if_pos (by omega)]
      show ((m3.drop h1.length).map V.ref)[((n % N : Nat) : Int).toNat]? = _
      rw [Int.toNat_natCast]
      exact ea2
    have ec : (h1 ++ lotC N n)[h1.length + n % N]? = some (.lst (((List.range n).filter fun c => c % N == n % N).map fun (c : Nat) => D.int c)) := by
      rw [List.getElem?_append_right (by omega), Nat.add_sub_cancel_left]
      exact lotC_at hr
    obtain ⟨xs, s, r⟩ := R3.cell _ _ a ec ea
    refine ⟨.inl ⟨rfl, xs, SqL.of s⟩, _, esj, a, xs, _, rfl, rfl, s, ?_, ?_⟩
    · rw [← r.length, List.length_map]
      have := List.length_filter_le (fun c => c % N == n % N) (List.range n)
      rw [List.length_range] at this
      have : sizeLine = 16777216 := by rw [← lim_eq]; rfl
      omega
    obtain ⟨R4, x4⟩ := R3.put ec ea (r.append (.cons (.int (n : Int)) .nil))
    have hset : (h1 ++ lotC N n).set (h1.length + n % N) (.lst ((((List.range n).filter fun c => c % N == n % N).map fun (c : Nat) => D.int c) ++ [.int n])) = h1 ++ lotC N (n + 1) := by
      rw [List.set_append_right _ _ (by omega), Nat.add_sub_cancel_left, lotC_put rfl hr]
    rw [hset] at R4 x4
    intro _
    refine ⟨_, ((ext.trans x2).trans x3).trans x4, R4, (E3.go R2 (List.prefix_refl _) x3).go R3 (List.prefix_refl _) x4, esi, x4.keep _ _ e3 (R3.ph b hb).2 (fun _ z => by cases z), fun z => by omega, fun _ => ?_, fun z => by omega, fun _ => ?_⟩
    · rw [show ((n + 1 : Nat) : Int) - 1 = n by omega]
    · rw [show ((n + 1 : Nat) : Int) - 1 = n by omega]
      by_cases w : n = 0
      · rw [y1 w]
      · rw [y2 (by omega), List.set_set]
  · intro σ' H' pv
    rw [hlen] at pv
    obtain ⟨env', ext, R, E, ei, e0, z1, z2, y1, y2⟩ := pv (Nat.le_refl _)
    exact fin env' σ' H' ext R E ei e0 y2
theorem HRel.unP {p : Addr} {m : List Addr} {h : Hh} {H : Hp} (R : HRel K fa (p :: P) m h H) : HRel K fa P m h H where
  len := R.len
  cellG := fun n c a e1 e0 e2 => by
    obtain ⟨o, q, r⟩ := R.cellG n c a e1 e0 e2
    exact ⟨o, q, r.ext (Y := fun _ => False) (fun a o e _ _ => e) (fun a z => .inl (z.imp id (List.mem_cons_of_mem _))) (fun _ z => z.elim) (fun _ z => z.elim)⟩
  inj := R.inj
  ph := fun a ha => R.ph a (List.mem_cons_of_mem _ ha)
  tb := R.tb
theorem ints_any {X X' : Addr → Prop} {H H' : Hp} : ∀ {l : List Nat} {xs : List V}, RepDs K fa X H (l.map fun c : Nat => D.int c) xs → RepDs K fa X' H' (l.map fun c : Nat => D.int c) xs
  | [], _, .nil => .nil
  | _ :: _, _, .cons (.int _) r => .cons (.int _) (ints_any r)
theorem repDs_mk {X : Addr → Prop} {H : Hp} : ∀ {ds : List D} {vs : List V}, ds.length = vs.length → (∀ (i : Nat) (d : D) (v : V), ds[i]? = some d → vs[i]? = some v → RepD K fa X H d v) → RepDs K fa X H ds vs
  | [], [], _, _ => .nil
  | d :: ds, v :: vs, e, q => .cons (q 0 d v rfl rfl) (repDs_mk (by simpa using e) fun i d v h1 h2 => q (i + 1) d v (by simpa using h1) (by simpa using h2))
theorem ERel.setNone {m : List Addr} {h : Hh} {H : Hp} (E : ERel K fa P m h H env σ) (i : Nat) (x : Option V) : ERel K fa P m h H (env.set i none) (σ.set i x) :=
  ⟨by simp [E.len], fun j u e => by
    by_cases hj : i = j
    · subst hj
      rw [List.getElem?_set] at e
      simp only [if_true] at e
      split at e <;> cases e
    · rw [List.getElem?_set_ne hj] at e ⊢
      exact E.at_ j u e⟩
theorem smallI_nat {n : Nat} (h : n < 4611686018427387904) : smallI (n : Int) = true := by
  unfold smallI
  rw [Bool.and_eq_true, decide_eq_true_eq, decide_eq_true_eq]
  omega
theorem evI_lots1 {C : Cfg} {env : Ve} {h : Hh} {p : Nat} {j : Int} (e : smallI j = true) (ep : env[p]? = some (some (.d (.int j)))) : evI C (.rng1 (.var p)) env h = .ok (rngL 0 j) h := by
  simp only [evI, evW, ep, Res.bind_ok, e, if_true]
theorem mul_lots {i j : Int} (e : mulOk i j = true) : binD .mul (.int i) (.int j) = some (.v (.d (.int (i * j)))) := by
  unfold binD
  simp only [e, if_true]
theorem evI_lots2 {C : Cfg} {env : Ve} {h : Hh} {p s : Nat} {i j : Int} (e1 : mulOk i j = true) (e2 : smallI (i * j) = true) (ep : env[p]? = some (some (.d (.int i)))) (es : env[s]? = some (some (.d (.int j)))) : evI C (lotsR p s) env h = .ok (rngL 0 (i * j)) h := by
  have eb := mul_lots e1
  unfold lotsR
  simp only [evI, evW, ep, es, Res.bind_ok, W.val_v, view_d, eb, ofO_some, e2, if_true]
theorem mulOk_nat {N : Nat} (hN : N ≤ 1000) {j : Int} : mulOk (N : Int) j = true := by
  have h0 : (N : Int).natAbs < 2 ^ 64 := Nat.lt_of_le_of_lt (by omega : (N : Int).natAbs ≤ 1000) (by decide)
  unfold mulOk
  rw [decide_eq_true h0, Bool.true_or, Bool.true_or]
/-- what the dealt lots are -/
theorem lots_rep {m m' : List Addr} {h : Hh} {H : Hp} {Dd : Addr} {N M : Nat} (p : m <+: m') (hm : m.length = h.length) (R : HRel K fa (Dd :: P) m' (h ++ lotC N M) H) (hP : Dd ∉ P) (hL : ¬ Lv m h Dd) (eD : H Dd = some (.lst ((m'.drop h.length).map V.ref))) :
    RepD K fa (Ex P m h) H (.lst (lotsD N M)) (.ref Dd) := by
  have ml : m'.length = h.length + N := by rw [R.len, List.length_append, lotC_len]
  refine .lst eD (fun z => z.elim hL hP) (repDs_mk ?_ fun i d v h1 h2 => ?_)
  · rw [List.length_map, List.length_drop]; unfold lotsD; rw [List.length_map, List.length_range]; omega
  have hi : i < N := by
    have := (List.getElem?_eq_some_iff.mp h1).1
    unfold lotsD at this
    rwa [List.length_map, List.length_range] at this
  obtain ⟨a, ea⟩ : ∃ a, m'[h.length + i]? = some a := ⟨_, List.getElem?_eq_getElem (by omega)⟩
  have ec : (h ++ lotC N M)[h.length + i]? = some (.lst (((List.range M).filter fun c => c % N == i).map fun (c : Nat) => D.int c)) := by
    rw [List.getElem?_append_right (by omega), Nat.add_sub_cancel_left]
    exact lotC_at hi
  have ed : d = .lst (((List.range M).filter fun c => c % N == i).map fun (c : Nat) => D.int c) := by
    unfold lotsD at h1
    rw [List.getElem?_map, List.getElem?_range hi] at h1
    exact (Option.some.inj h1).symm
  have ev : v = .ref a := by
    rw [List.getElem?_map, List.getElem?_drop, ea] at h2
    exact (Option.some.inj h2).symm
  subst ed
  subst ev
  obtain ⟨xs, s, r⟩ := R.cell _ _ a ec ea
  refine .lst s (fun z => ?_) (ints_any r)
  have la : Lv m' (h ++ lotC N M) a := ⟨_, _, ea, ec, rfl⟩
  rcases z with z | z
  · obtain ⟨n, c, e1, e2, e3⟩ := z
    have hn : n < m.length := (List.getElem?_eq_some_iff.mp e1).1
    have := R.inj n (h.length + i) a c _ (pre_at p e1) ea (by rw [List.getElem?_append_left (by omega)]; exact e2) ec e3 rfl
    omega
  · exact (R.ph a (List.mem_cons_of_mem _ z)).2 la
end
section
variable {T : Tab} {fa : FA} {ca : Nat → Addr} {k : Nat} {C : CC} {X : Cx} {EX : XK}
theorem lots_ok (g : GS T fa ca k EX C X) {i j p s q : Nat} {x y : Stmt} {r : Ss} {xs : List Stmt} (hc : chkLots T C i j p s q x y = true) (hr : PSs X xs (tS X.K fa ca EX (evSs (T.cfg k) r))) :
    PSs X (x :: y :: xs) (tS X.K fa ca EX (evSs (T.cfg k) (.cons (.lots i j p s q) r))) := by
  unfold chkLots at hc
  split at hc
  · rename_i nm pos e gs scope lp t it o ix z e1 e2
    obtain ⟨sp, rfl⟩ := asLot1_eq e1
    obtain ⟨p1, ap, cp, p2, p3, rfl, hline⟩ := asLot2_eq e2
    simp only [Bool.and_eq_true, decide_eq_true_eq] at hc
    obtain ⟨⟨⟨⟨⟨⟨⟨⟨⟨⟨⟨hi, hl⟩, hs⟩, hlc⟩, ht⟩, hit⟩, hns⟩, ho⟩, hix⟩, hpl⟩, hz⟩, hst⟩ := hc
    -- the first statement
    rcases gs with _ | ⟨⟨t', it', ifs, zz⟩, _ | ⟨g2, gs⟩⟩ <;> first | (simp [lotsE, chkE] at hlc; done) | skip
    unfold lotsE at hlc
    simp only [chkE, Bool.and_eq_true, decide_eq_true_eq] at hlc
    obtain ⟨⟨⟨⟨⟨⟨⟨rfl, h2⟩, h3⟩, h4⟩, h5⟩, h6⟩, h7⟩, h8⟩ := hlc
    have hblk : BlkOk X.N X.env.scope scope (ownP C.N [q]) := by rw [g.gx.hN, g.gx.sc]; exact blkOk_by h4
    unfold lcLocal at hs
    simp only [Bool.and_eq_true, decide_eq_true_eq, Bool.not_eq_true'] at hs
    cases e <;> first | (simp [chkE] at h7; done) | skip
    rename_i es ep
    cases es <;> first | (simp [chkE, chkL] at h7; done) | skip
    have s1 := ps_setLc (spos := sp) (py := pos) (pos := lp) (i := i) (wi := tX X.K fa ca EX (pI X.K fa) (evI (T.cfg k) (.rng1 (.var p)))) (g := tTg X.K (.nm q)) (tt := tX X.K fa ca E0 (pB X.K fa) (evC (T.cfg k) .nil)) (te := tLst tNil) g.gx.calm (by rw [g.gx.hN]; exact g.gx.nd) (by rw [g.gx.hN]; exact hi) (by rw [g.gx.sc]; exact hl)
      (sw_true g.kind (by rw [g.gx.sc]; exact hl) hs.1.2 hs.2) (evI_ok (.rng1 (.var p)) it' t' C X EX g.gx h2) hblk
      (fun s H cc cl fp => pg_tg (g.gx.blk s H cc cl fp).gn h5) (fun s H cc cl fp => evC_ok .nil ifs _ _ E0 (g.gx.blk s H cc cl fp) h6) (fun s H cc cl fp => pe_lst (pos := ep) pa_nil) (fun x => folded_no h3 x)
    rw [blk_own h4] at s1
    -- the second
    cases o <;> first | (cases ho; done) | skip
    rename_i ln lp2
    simp only [Bool.and_eq_true, decide_eq_true_eq] at ho
    cases z <;> first | (simp [chkE] at hz; done) | skip
    rename_i zn zp
    simp only [chkE, Bool.and_eq_true, decide_eq_true_eq] at hz
    have ob := pe_ix (pos := p1) ix_list (pe_var (pos := lp2) (i := i) (by rw [g.gx.hN]; exact ho.1.1) (by rw [g.gx.sc]; exact vis_of ho.1.2) (nameOk_1 ho.2) (nameOk_2 ho.2)) (evW_ok (lotsI p j) ix C X EX g.gx hix) (plainIx_of hpl)
    have s2 := ps_for (pos := p3) g.po g.gx.calm (evI_ok (lotsR p s) it t C X EX g.gx hit) (pg_tg g.gx.gn ht) (pss_cons (ps_expr (pos := p2) (pe_bm (apos := ap) (cpos := cp) PySem.F.plainAttrs_list PySem.F.slot_list_append PySem.F.type_list_append mt_append ob
      (pa_cons (pe_var (pos := zp) (i := j) (by rw [g.gx.hN]; exact hz.1.1) (by rw [g.gx.sc]; exact vis_of hz.1.2) (nameOk_1 hz.2) (nameOk_2 hz.2)) pa_nil (star_cons hst)) rfl (by rw [star_cons hst]; rfl) hline (star_cons hst) rfl) (sw_comp rfl)) pss_nil) (fun x => folded_no hns x)
    refine (pss_cons s1 (pss_cons s2 hr)).imp fun σ H Q hq => ?_
    obtain ⟨P, m, h, env, R, E, G⟩ := hq
    simp only [evSs, evS] at G
    split at G
    · rename_i PP SS ep es
      split at G
      · rename_i hok
        simp only [Res.bind_ok] at G
        unfold lotsOk at hok
        simp only [Bool.and_eq_true, decide_eq_true_eq] at hok
        obtain ⟨⟨⟨⟨⟨⟨⟨⟨⟨⟨k1, k2⟩, k3⟩, k4⟩, k5⟩, k6⟩, nij⟩, nip⟩, nis⟩, njp⟩, njs⟩ := hok
        obtain ⟨N, rfl⟩ := Int.eq_ofNat_of_zero_le (show 0 ≤ PP by omega)
        obtain ⟨S, rfl⟩ := Int.eq_ofNat_of_zero_le (show 0 ≤ SS by omega)
        have hM : N * S ≤ 1000 * 1000 := Nat.mul_le_mul (by omega) (by omega)
        have hM1 : 0 < N * S := Nat.mul_pos (by omega) (by omega)
        have hmul : (N : Int) * (S : Int) = ((N * S : Nat) : Int) := (Int.natCast_mul N S).symm
        refine ⟨P, m, h, env, R, E, ?_⟩
        have ei1 := evI_lots1 (C := T.cfg k) (h := h) (smallI_nat (by omega)) ep
        rw [ei1]
        intro m1 J H1 q1 x1' w1
        have em : m1 = m := pre_same q1 (by rw [w1.1.len, R.len])
        subst em
        have x1 := x1'.ext
        intro Dd hD
        have hP : ∀ a ∈ Dd :: P, a ∈ P ∨ H1 a = none := fun a ha => by
          rcases List.mem_cons.mp ha with rfl | ha
          · exact .inr hD
          · exact .inl ha
        have hDP : Dd ∉ P := fun z => by obtain ⟨⟨xs, e⟩, _⟩ := w1.1.ph Dd z; rw [hD] at e; cases e
        have E1 := E.go R q1 x1
        refine lots_run1 (N := N) w1.2 w1.1 E1 hD (by omega) fun m' H' pm pl ext R' eD => ?_
        have hml : m1.length = h.length := R.len
        rw [← lotC_0] at ext R'
        have E2 := (E1.go' w1.1 pm ext hP).setNone i (some (V.ref Dd))
        refine ⟨Dd :: P, m', _, _, R', E2, ?_⟩
        have ep2 : (env.set i none)[p]? = some (some (.d (.int (N : Nat)))) := by rw [List.getElem?_set_ne nip]; exact ep
        have es2 : (env.set i none)[s]? = some (some (.d (.int (S : Nat)))) := by rw [List.getElem?_set_ne nis]; exact es
        have sM : smallI ((N : Int) * (S : Int)) = true := by rw [hmul]; exact smallI_nat (by omega)
        have ei2 := evI_lots2 (C := T.cfg k) (h := h ++ lotC N 0) (mulOk_nat (by omega)) sM ep2 es2
        rw [hmul] at ei2
        rw [ei2]
        intro m2 J2 H2 q2 x2' w2
        have em2 : m2 = m' := pre_same q2 (by rw [w2.1.len, R'.len])
        subst em2
        have x2 := x2'.ext
        have e2 : H2 Dd = some (.lst ((m2.drop h.length).map V.ref)) := by
          have := x2.keep _ _ eD (R'.ph Dd List.mem_cons_self).2 (fun _ z => by cases z)
          rwa [hml] at this
        refine lots_run2 (h1 := h) (N := N) (M := N * S) (b := Dd) (p := p) (j := j) w2.2 w2.1 (E2.go R' q2 x2) List.mem_cons_self e2 ?_ ep2 nij njp (by rw [List.length_set]; exact k2) (by omega) (by omega) (by omega) ?_
        · exact List.getElem?_set_self (by rw [← E.len]; exact k1)
        intro env' σ' H3 ext3 R3 E3 ei3 eD3 ze
        obtain ⟨R4, x4⟩ := R3.drop h.length
        have em1 : m2.take h.length = m1 := by
          obtain ⟨tt, rfl⟩ := pm
          rw [← hml, List.take_left]
        rw [em1, List.take_left] at R4 x4
        have xt : HExt (Lv m1 h) (Lv m1 h) H H3 := (((x1.trans ext).trans x2).trans ext3).trans x4
        have rep := lots_rep pm hml R3 hDP (R4.ph Dd List.mem_cons_self).2 eD3
        have E5 := ((E.go R (List.prefix_refl _) xt).set i (show RepV X.K fa P m1 h H3 (.d (.lst (lotsD N (N * S)))) (.ref Dd) from rep)).set j (show RepV X.K fa P m1 h H3 (.d (.int (((N * S : Nat) : Int) - 1))) (.int (((N * S : Nat) : Int) - 1)) from RepD.int _)
        rw [ze hM1]
        refine ⟨P, m1, h, _, R4.unP, E5, ?_⟩
        have G2 := G.later (List.prefix_refl _) xt
        rw [hmul] at G2
        exact G2
      · exact G.elim
    · exact G.elim
  · cases hc
end
end Ev
set_option linter.all false
set_option maxRecDepth 100000
set_option maxHeartbeats 8000000
/-! Ev11: blocks, defs. -/
namespace Ev
open PySem PySem.Spec PyProof.Rows L2
section
variable {T : Tab} {fa : FA} {ca : Nat → Addr} {k : Nat} {C : CC} {X : Cx} {EX : XK}
theorem sw_cell {y : Str} {py : Pos} {x : Expr} {l : Nat} {env : Env} (h : env.scope.names.lookup y ≠ some .local) : swapsWith x (some (.Name y py)) l env = pure false := by
  have hk : (env.kindOf y == some .local) = false := by
    unfold Env.kindOf
    exact beq_eq_false_iff_ne.mpr h
  unfold swapsWith
  cases x <;> first
    | rfl
    | (simp only [hk, Bool.and_false, Bool.false_and])
theorem asg_ix {o i : Expr} {p : Pos} {env : Env} (h : isIx i = true) (v : Value) : assign (.Subscript o i p) env v = (do
      let ov ← holding [v] (eval o env)
      let iv ← holding [v, ov] (eval i env)
      standAt p
      holding [v, ov, iv] (setItem ov iv v)
      release [v, ov, iv] []) := by
  cases i <;> first | rfl | skip
  rename_i lo hi st p
  cases st with
  | none => simp [isIx] at h
  | some st => rfl
mutual
theorem evS_ok (g : GS T fa ca k EX C X) : ∀ (s : S) (x : Stmt), chkS T C s x = true → PS X x (tS X.K fa ca EX (evS (T.cfg k) s))
  | .asg tg e, x, hc => by
    rw [chkS] at hc
    split at hc
    · rename_i t x ea
      obtain ⟨p, rfl⟩ := asAsg_eq ea
      simp only [Bool.and_eq_true] at hc
      obtain ⟨⟨h1, h2⟩, h3⟩ := hc
      have hns := chkTg_ns h1
      have gen : (∀ l, swapsWith x (some t) l X.env = pure false) → (isTuple t && isTuple x) = false → PS X (.Assign [t] x p) (tS X.K fa ca EX (evS (T.cfg k) (.asg tg e))) := fun hs hw =>
        (ps_asg (evW_ok e x C X EX g.gx h2) (pg_tg g.gx.gn h1) (hs _) (sw_none hw hns.2) (asg1 hns.1)).imp fun σ H Q q => asg_read (fun _ _ _ z => z) q
      unfold chkA at h3
      split at h3
      · rename_i elt gs scope p2
        split at h3
        · rename_i y py
          simp only [Bool.or_eq_true, decide_eq_true_eq] at h3
          by_cases hl : C.sc.names.lookup y = some .local
          · rcases h3 with h3 | h3
            · cases tg with
              | tp is => simp [chkTg] at h1
              | nm i =>
                have h1' : nmOk C i y = true := by simpa [chkTg] using h1
                unfold nmOk at h1'
                simp only [Bool.and_eq_true, decide_eq_true_eq] at h1'
                exact (lcS_ok g.gx h1'.1.1 hl h3 g.kind e h2).imp fun σ H Q q => asg_read (fun _ _ _ z => z) q
            · exact absurd hl h3
          · exact gen (fun l => sw_cell (by rw [g.gx.sc]; exact hl)) rfl
        · exact gen (fun l => by
            unfold swapsWith
            cases t <;> first | rfl | (exfalso; simp_all)) (by cases t <;> rfl)
      · simp only [Bool.and_eq_true, Bool.not_eq_true'] at h3
        exact gen (fun l => sw_comp h3.1) h3.2
    · cases hc
  | .par is es, x, hc => by
    rw [chkS] at hc
    split at hc
    · rename_i ts vs ea
      obtain ⟨k1, p1, k2, p2, p3, rfl⟩ := asPar_eq ea
      exact par_ok g hc
    · cases hc
  | .setix o i e, x, hc => by
    rw [chkS] at hc
    split at hc
    · rename_i a b x ea
      obtain ⟨p2, p, rfl⟩ := asSet_eq ea
      simp only [Bool.and_eq_true] at hc
      obtain ⟨⟨⟨h1, h2⟩, h3⟩, h4⟩ := hc
      refine (ps_asg (evW_ok e x C X EX g.gx h3) (pg_sub (evW_ok o a C X EX g.gx h1) (evW_ok i b C X EX g.gx h2) set_list (asg_ix h4)) ?_ (sw_none (by cases x <;> rfl) (fun _ _ e => by cases e)) rfl).imp fun σ H D => ?_
      · show swapsWith x (some (.Subscript a b p2)) p.line X.env = pure false
        unfold swapsWith
        cases x <;> rfl
      rintro ⟨P, m, h, env, R, E, G⟩
      simp only [evS] at G
      refine ⟨P, m, h, env, R, E, G.bind fun w1 h1 m1 x1 H1 e1 p1 t1 q1 G1 => ?_⟩
      have E1 := E.go R p1 t1.ext
      refine ⟨P, m1, h1, env, q1.rel, E1, G1.bind fun w2 h2 m2 x2 H2 e2 p2 t2 q2 G2 => ?_⟩
      have E2 := E1.go q1.rel p2 t2.ext
      refine ⟨P, m2, h2, env, q2.rel, E2, G2.bind fun w3 h3 m3 x3 H3 e3 p3 t3 q3 G3 => ?_⟩
      have E3 := E2.go q2.rel p3 t3.ext
      split at G3
      · rename_i n kk d ed
        split at G3
        · rename_i ds eds
          split at G3
          · rename_i j ej
            obtain ⟨R2, l, el, rfl⟩ := q2
            obtain ⟨R3, rfl⟩ := q3.int
            have el3 := pre_at p3 el
            obtain ⟨xs, s, r⟩ := R3.cell n ds l eds el3
            have rd := asD_ok ed ((q1.val.go q1.rel p2 t2.ext).go R2 p3 t3.ext)
            obtain ⟨R4, t4⟩ := R3.put eds el3 (r.set rd j)
            exact ⟨l, xs, kk, j, rfl, rfl, s, by rw [← r.length]; exact ej, G3 m3 σ _ (List.prefix_refl _) t4 R4 (E3.go R3 (List.prefix_refl _) t4)⟩
          · exact G3.elim
        · exact G3.elim
      · exact G3.elim
    · cases hc
  | .aug i o e, x, hc => by
    cases x with
    | AugAssign t op x p =>
      cases t <;> first | (simp [chkS] at hc; done) | skip
      rename_i y py
      simp only [chkS, Bool.and_eq_true, decide_eq_true_eq] at hc
      obtain ⟨⟨⟨h1, rfl⟩, h3⟩, h6⟩ := hc
      unfold nmOk at h1
      simp only [Bool.and_eq_true, Bool.or_eq_true, decide_eq_true_eq] at h1
      obtain ⟨⟨h1, h4⟩, h5⟩ := h1
      have ip : PIp X (opB o) (ipI (augI o)) := by
        rcases h6 with rfl | rfl
        · exact ip_add
        · exact ip_sub
      refine (ps_aug (by rw [g.gx.hN]; exact g.gx.nd) (by rw [g.gx.hN]; exact h1) (by rw [g.gx.sc]; exact loc_of h4) (evW_ok e x C X EX g.gx h3) ip (by rw [g.gx.fn, g.gx.sc]; exact h5)).imp fun σ H D => ?_
      rintro ⟨P, m, h, env, R, E, G⟩
      simp only [evS] at G
      split at G
      · rename_i p ep
        obtain ⟨z, ez, rz⟩ := E.at_ i _ ep
        cases rz.int
        refine ⟨_, ez, P, m, h, env, R, E, G.bind fun w1 h1 m1 x1 H1 e1 p1 t1 q1 G1 => ?_⟩
        have E1 := E.go R p1 t1.ext
        split at G1
        · obtain ⟨R1, rfl⟩ := q1.int
          exact ⟨_, _, rfl, rfl, G1 m1 _ H1 (List.prefix_refl _) (HExt.refl _ _) R1 (E1.set i (RepD.int _))⟩
        · exact G1.elim
      · exact G.elim
    | _ => simp [chkS] at hc
  | .expr e, x, hc => by
    cases x with
    | Expr x p =>
      simp only [chkS, Bool.and_eq_true] at hc
      refine (ps_expr (evW_ok e x C X EX g.gx hc.1) (sw_comp hc.2)).imp fun σ H D => ?_
      rintro ⟨P, m, h, env, R, E, G⟩
      simp only [evS] at G
      exact ⟨P, m, h, env, R, E, G.bind fun w1 h1 m1 x1 H1 e1 p1 t1 q1 G1 => G1 m1 σ H1 (List.prefix_refl _) (HExt.refl _ _) q1.rel (E.go R p1 t1.ext)⟩
    | _ => simp [chkS] at hc
  | .ret e, x, hc => by
    cases x with
    | Return x p =>
      cases x with
      | none => simp [chkS] at hc
      | some x =>
        simp only [chkS] at hc
        refine (ps_ret (evW_ok e x C X EX g.gx hc)).imp fun σ H D => ?_
        rintro ⟨P, m, h, env, R, E, G⟩
        simp only [evS] at G
        exact ⟨P, m, h, env, R, E, G.bind fun w1 h1 m1 x1 H1 e1 p1 t1 q1 G1 => G1 m1 x1 H1 (List.prefix_refl _) (HExt.refl _ _) q1.rel q1.val⟩
    | _ => simp [chkS] at hc
  | .ife c a b, x, hc => by
    cases x with
    | If x y z p =>
      simp only [chkS, Bool.and_eq_true] at hc
      obtain ⟨⟨h1, h2⟩, h3⟩ := hc
      refine (ps_if (evT_ok c x C X EX g.gx h1) (evSs_ok g a y h2) (evSs_ok g b z h3)).imp fun σ H D => ?_
      rintro ⟨P, m, h, env, R, E, G⟩
      simp only [evS] at G
      refine ⟨P, m, h, env, R, E, G.bind fun kb h1 m1 x1 H1 e1 p1 t1 q1 G1 => ?_⟩
      obtain ⟨R1, rfl⟩ := q1
      cases kb with
      | true =>
        rw [if_pos rfl]
        exact ⟨P, m1, h1, env, R1, E.go R p1 t1.ext, by simpa using G1⟩
      | false =>
        rw [if_neg Bool.false_ne_true]
        exact ⟨P, m1, h1, env, R1, E.go R p1 t1.ext, by simpa using G1⟩
    | _ => simp [chkS] at hc
  | .for_ tg it b, x, hc => by
    cases x with
    | For t i y o p =>
      cases o with
      | cons _ _ => simp [chkS] at hc
      | nil =>
        simp only [chkS, Bool.and_eq_true] at hc
        obtain ⟨⟨⟨h1, h2⟩, h3⟩, h4⟩ := hc
        refine (ps_for g.po g.gx.calm (evI_ok it i t C X EX g.gx h2) (pg_tg g.gx.gn h1) (evSs_ok g b y h4) (fun x => folded_no h3 x)).imp fun σ H D => ?_
        rintro ⟨P, m, h, env, R, E, G⟩
        simp only [evS] at G
        refine ⟨P, m, h, env, R, E, G.bind fun items h1 m1 J H1 e1 p1 t1 q1 G1 => ?_⟩
        exact for_run q1.2 q1.1 (E.go R p1 t1.ext) G1
    | _ => simp [chkS] at hc
  | .whl c b, x, hc => by
    cases x with
    | While x y o p =>
      cases o with
      | cons _ _ => simp [chkS] at hc
      | nil =>
        simp only [chkS, Bool.and_eq_true] at hc
        refine (ps_while g.po (evT_ok c x C X EX g.gx hc.1) (evSs_ok g b y hc.2)).imp fun σ H D => ?_
        rintro ⟨P, m, h, env, R, E, G⟩
        simp only [evS] at G
        exact whl_run R E G
    | _ => simp [chkS] at hc
  | .brk, x, hc => by
    cases x with
    | Break p =>
      refine ps_break.imp fun σ H D => ?_
      rintro ⟨P, m, h, env, R, E, G⟩
      simp only [evS] at G
      exact G m σ H (List.prefix_refl _) (HExt.refl _ _) R E
    | _ => simp [chkS] at hc
  | .cnt, x, hc => by
    cases x with
    | Continue p =>
      refine ps_continue.imp fun σ H D => ?_
      rintro ⟨P, m, h, env, R, E, G⟩
      simp only [evS] at G
      exact G m σ H (List.prefix_refl _) (HExt.refl _ _) R E
    | _ => simp [chkS] at hc
  | .pass, x, hc => by
    cases x with
    | Pass p =>
      refine ps_pass.imp fun σ H D => ?_
      rintro ⟨P, m, h, env, R, E, G⟩
      simp only [evS] at G
      exact G m σ H (List.prefix_refl _) (HExt.refl _ _) R E
    | _ => simp [chkS] at hc
  | .any, x, hc => by
    refine ⟨fun pins s σ H D I q => ?_⟩
    obtain ⟨P, m, h, env, R, E, G⟩ := q
    simp only [evS] at G
    exact G.elim
  | .rse c, x, hc => by
    rw [chkS] at hc
    split at hc
    · rename_i x ea
      obtain ⟨p1, msg, j, p2, p3, p4, rfl⟩ := asRse_eq ea
      simp only [Bool.and_eq_true] at hc
      obtain ⟨⟨h1, h2⟩, h3⟩ := hc
      cases ei : T.xs[c]? with
      | none => rw [ei] at h3; cases h3
      | some nm =>
        rw [ei] at h3
        cases (of_decide_eq_true h3)
        obtain ⟨e1, e2, e3, e4, e5⟩ := g.xs c _ ei
        refine (ps_raise g.gx.calm g.tk (pmk_own PySem.F.excBase_ValueError e2 e1 e3 (raises_own e4 e5) (g.gx.gl h1) (nameOk_1 h2))).imp fun σ H D => ?_
        rintro ⟨P, m, h, env, R, E, G⟩
        simp only [evS] at G
        exact G m H (List.prefix_refl _) (HExt.refl _ _) R
    · cases hc
  | .frz i, x, hc => by cases x <;> simp [chkS] at hc
  | .lots i j p s q, x, hc => by cases x <;> simp [chkS] at hc
theorem evSs_ok (g : GS T fa ca k EX C X) : ∀ (s : Ss) (x : List Stmt), chkSs T C s x = true → PSs X x (tS X.K fa ca EX (evSs (T.cfg k) s))
  | .nil, x, hc => by
    cases x with
    | cons _ _ => simp [chkSs] at hc
    | nil =>
      refine pss_nil.imp fun σ H D => ?_
      rintro ⟨P, m, h, env, R, E, G⟩
      simp only [evSs] at G
      exact G m σ H (List.prefix_refl _) (HExt.refl _ _) R E
  | .cons s r, x, hc => by
    by_cases hf : ∃ i, s = .frz i
    · obtain ⟨i, rfl⟩ := hf
      have hc' : chkSs T C r x = true := by rw [chkSs] at hc; exact hc
      exact (evSs_ok g r x hc').imp fun σ H Q q => frz_S q
    · cases x with
      | nil => cases s <;> first | (simp [chkSs] at hc; done) | exact absurd ⟨_, rfl⟩ hf
      | cons x xs =>
        by_cases hl : ∃ i j p z q, s = .lots i j p z q
        · obtain ⟨i, j, p, z, q, rfl⟩ := hl
          cases xs with
          | nil => rw [chkSs, Bool.and_eq_true] at hc <;> first | (cases x <;> simp [chkS] at hc; done) | (intros; simp_all; done)
          | cons y ys =>
            rw [chkSs, Bool.and_eq_true] at hc
            exact lots_ok g hc.1 (evSs_ok g r ys hc.2)
        have hc' : chkS T C s x = true ∧ chkSs T C r xs = true := by
          cases s <;> first | exact absurd ⟨_, rfl⟩ hf | exact absurd ⟨_, _, _, _, _, rfl⟩ hl | simpa only [chkSs, Bool.and_eq_true] using hc
        exact (pss_cons (evS_ok g s x hc'.1) (evSs_ok g r xs hc'.2)).imp fun σ H Q q => seq_S q
end
end
end Ev
set_option linter.all false
set_option maxRecDepth 100000
set_option maxHeartbeats 8000000
/-! Ev12: defs, the law. -/
namespace Ev
open PySem PySem.Spec PyProof.Rows L2
/-! ### arguments -/
theorem lookup_zip_some : ∀ {ps : List Str} {us : List Value} {x : Str}, x ∈ ps → us.length = ps.length → ((ps.zip us).lookup x).isSome = true
  | [], _, _, h, _ => by simp at h
  | p :: ps, [], _, _, h => by simp at h
  | p :: ps, u :: us, x, h, hl => by
    rw [List.zip_cons_cons, List.lookup_cons]
    by_cases e : x = p
    · subst e; simp
    · have : (x == p) = false := by simpa using e
      rw [this]
      exact lookup_zip_some ((List.mem_cons.mp h).resolve_left e) (by simpa using hl)
theorem filterMap_zip : ∀ {ps : List Str} {us : List Value}, ps.Nodup → us.length = ps.length → (ps.filterMap fun n => ((ps.zip us).lookup n).map (n, ·)) = ps.zip us := by
  intro ps us nd hl
  have key : ∀ (qs : List Str) (ws : List Value) (L : List (Str × Value)), qs.Nodup → ws.length = qs.length → (∀ (i : Nat) (q : Str) (w : Value), qs[i]? = some q → ws[i]? = some w → L.lookup q = some w) → (qs.filterMap fun n => (L.lookup n).map (n, ·)) = qs.zip ws := by
    intro qs
    induction qs with
    | nil => intro ws L _ _ _; rfl
    | cons q qs ih =>
      intro ws L nd hl hL
      cases ws with
      | nil => simp at hl
      | cons w ws =>
        rw [List.filterMap_cons, hL 0 q w rfl rfl]
        simp only [Option.map_some, List.zip_cons_cons]
        rw [ih ws L (List.nodup_cons.mp nd).2 (by simpa using hl) fun i q' w' h1 h2 => hL (i + 1) q' w' (by simpa using h1) (by simpa using h2)]
  refine key ps us _ nd hl fun i q w h1 h2 => ?_
  clear key
  induction ps generalizing us i with
  | nil => simp at h1
  | cons p ps ih =>
    cases us with
    | nil => simp at hl
    | cons u us =>
      rw [List.zip_cons_cons, List.lookup_cons]
      cases i with
      | zero =>
        simp at h1 h2
        subst h1 h2
        simp
      | succ i =>
        have hm : q ∈ ps := List.mem_of_getElem? (by simpa using h1)
        have : (q == p) = false := by
          have : q ≠ p := fun e => (List.nodup_cons.mp nd).1 (e ▸ hm)
          simpa using this
        rw [this]
        exact ih (List.nodup_cons.mp nd).2 (by simpa using hl) i (by simpa using h1) (by simpa using h2)
theorem bind_plain {fd : FuncData} {ps : List Str} {us : List Value} (h1 : fd.params.posonlyargs = []) (h2 : fd.params.args.map (·.arg) = ps) (h3 : fd.params.vararg = none) (h4 : fd.params.kwonlyargs = []) (h5 : fd.params.kwarg = none) (h6 : fd.defaults = .none)
    (nd : ps.Nodup) (hl : us.length = ps.length) : bindArgs fd ⟨us, []⟩ = pure (ps.zip us) := by
  have e0 : seqItems? Value.none = pure none := rfl
  have e1 : (ps.filter fun n => ((ps.zip us).lookup n).isNone) = [] := by
    rw [List.filter_eq_nil_iff]
    intro x hx
    have := lookup_zip_some hx hl
    cases q : (ps.zip us).lookup x with
    | none => rw [q] at this; cases this
    | some v => simp
  have e2 := filterMap_zip nd hl
  unfold bindArgs
  simp only [h1, h2, h3, h4, h5, h6, e0, List.map_nil, List.nil_append, pure_bind, List.forIn_nil, Option.getD_none, Array.toList_empty, List.length_nil, hl, Nat.lt_irrefl, gt_iff_lt, decide_false, Bool.false_and, Bool.false_eq_true, if_false, List.drop_nil, Nat.sub_zero, List.take_length, e1, List.isEmpty_nil, Bool.not_true, List.drop_length, List.zip_nil_left, List.append_nil, e2]

/-! ### a def -/
def scB (N ps : List Str) (sc : Scope) : Bool := decide (sc.kind = .function) && !sc.isCoroutine && !sc.isGenerator && decide N.Nodup && decide (N.take ps.length = ps) && ps.all (fun x => isLoc sc x) && sc.names.all (fun y => decide (y.2 ≠ .free))
theorem scB_ok {N ps : List Str} {sc : Scope} (h : scB N ps sc = true) : FnScope N ps sc := by
  unfold scB at h
  simp only [Bool.and_eq_true, decide_eq_true_eq, Bool.not_eq_true', List.all_eq_true] at h
  obtain ⟨⟨⟨⟨⟨⟨h1, h2⟩, h3⟩, h4⟩, h5⟩, h6⟩, h7⟩ := h
  exact ⟨h1, h2, h3, h4, h5, fun x hx => loc_of (h6 x hx), fun y hy => h7 y hy⟩
def argsB (a : Arguments) (ps : List Str) : Bool := a.posonlyargs.isEmpty && decide (a.args.map (·.arg) = ps) && a.vararg.isNone && a.kwonlyargs.isEmpty && a.kwarg.isNone
def chkFn (T : Tab) (F : Fn) (q : List Str × List Str) (st : Stmt) : Bool :=
  scB q.1 q.2 (defScope st) && argsB (defArgs st) q.2 && chkSs T ⟨q.1, defScope st, fun _ => true, false, false⟩ F.body (defBody st) && decide (F.np = q.2.length) && decide (F.nn = q.1.length) && decide (F.tr = none)
/-- what the program's top has left -/
structure Facts (T : Tab) (K : PySem.W.Frag) (mg : Str → Option Value) (fa : FA) (ca : Nat → Addr) : Prop where
  fns : ∀ (f : Nat) (nm : Str) (F : Fn), T.fs[f]? = some (nm, F) → mg nm = some (.ref (fa f)) ∧ ∃ (st : Stmt) (q : List Str × List Str) (fd : FuncData), FunD K nm nm (defArgs st) (defBody st) (defScope st) [] [] (fa f) fd ∧ chkFn T F q st = true
  cs : ∀ (g : Nat) (nm : Str) (d : D), T.cs[g]? = some (nm, d) → ∃ u v, mg nm = some u ∧ RelV v u ∧ ∀ Y H, RepD K fa Y H d v
  free : ∀ x ∈ T.free, mg x = none
  xs : ∀ (c : Nat) (nm : Str), T.xs[c]? = some nm → mg nm = some (.ref (ca c)) ∧ PySem.W.excIn K (ca c) He.veBase "ValueError.__new__" = true ∧ PySem.W.keepIn K (.ref (ca c)) = true ∧
    PySem.W.subIn K (.ref (ca c)) (.type "BaseException") = some true ∧ PySem.W.typeIn K (.ref (ca c)) = some (.type "type")
section
variable {T : Tab} {P : Program} {w : World} {K : PySem.W.Frag} {mg : Str → Option Value} {base : Heap} {fa : FA} {ca : Nat → Addr}
theorem RepVs.get {Ph m : List Addr} {h : Hh} {H : Hp} : ∀ {vs : List Val} {xs : List V} {i : Nat} {v : Val}, RepVs K fa Ph m h H vs xs → vs[i]? = some v → ∃ x, xs[i]? = some x ∧ RepV K fa Ph m h H v x
  | _, _, _, _, .nil, e => by simp at e
  | _, _, 0, v, .cons q _, e => by simp at e; subst e; exact ⟨_, rfl, q⟩
  | _, _, i + 1, v, .cons _ r, e => by
    obtain ⟨x, h1, h2⟩ := RepVs.get (i := i) r (by simpa using e)
    exact ⟨x, by simpa using h1, h2⟩
theorem start_rel {Ph m : List Addr} {h : Hh} {H : Hp} {F : Fn} {N : List Str} {vs : List Val} {xs : List V} (r : RepVs K fa Ph m h H vs xs) (h1 : vs.length = F.np) (h2 : F.nn = N.length) : ERel K fa Ph m h H (start F vs) (L2.start N xs) := by
  have hl := r.len
  refine ⟨?_, fun i v e => ?_⟩
  · unfold start L2.start
    simp only [List.length_append, List.length_map, List.length_replicate]
    omega
  · unfold start at e
    by_cases hi : i < vs.length
    · rw [List.getElem?_append_left (by simpa using hi), List.getElem?_map] at e
      cases ev : vs[i]? with
      | none => rw [ev] at e; cases e
      | some u =>
        rw [ev] at e
        cases e
        obtain ⟨x, ex, rx⟩ := r.get ev
        refine ⟨x, ?_, rx⟩
        unfold L2.start
        rw [List.getElem?_append_left (by rw [List.length_map, ← hl]; exact hi), List.getElem?_map, ex]
        rfl
    · rw [List.getElem?_append_right (by simpa using hi), List.getElem?_replicate] at e
      split at e <;> cases e
theorem take_pre {m m' : List Addr} (p : m <+: m') : m'.take m.length = m := by
  obtain ⟨t, rfl⟩ := p
  rw [List.take_left']
  rfl
/-- each def, at each level -/
theorem fn_one (Fa : Facts T K mg fa ca) (k : Nat) (ih : ∀ k', k' ≤ k → ∀ (f : Nat) (nm : Str) (F : Fn) (st : Stmt) (q : List Str × List Str) (fd : FuncData), T.fs[f]? = some (nm, F) → FunD K nm nm (defArgs st) (defBody st) (defScope st) [] [] (fa f) fd → chkFn T F q st = true →
    FnOk P w K mg base (L2.CX P w) k' (fa f) fd q.2 (spF T K fa ca k' f)) (f : Nat) (nm : Str) (F : Fn) (st : Stmt) (q : List Str × List Str) (fd : FuncData) (ef : T.fs[f]? = some (nm, F)) (fn : FunD K nm nm (defArgs st) (defBody st) (defScope st) [] [] (fa f) fd) (hc : chkFn T F q st = true) :
    FnOk P w K mg base (L2.CX P w) (k + 1) (fa f) fd q.2 (spF T K fa ca (k + 1) f) := by
    unfold chkFn at hc
    simp only [Bool.and_eq_true, decide_eq_true_eq] at hc
    obtain ⟨⟨⟨⟨⟨h1, h2⟩, h3⟩, h4⟩, h5⟩, h6⟩ := hc
    have eF : T.fn f = some F := by unfold Tab.fn; rw [ef]; rfl
    have ec : ∀ args h, T.call (k + 1) f args h = runFn (T.cfg k) F args h := fun args h => by
      show (match T.fn f with
        | some F => runFn (T.cfg k) F args h
        | none => .stuck) = _
      rw [eF]
    refine fn.ok (scB_ok h1) (fun vs H Q E z => ?_) fun cdv A outer s H vs Q E hr z => ?_
    · obtain ⟨Ph, m, h, args, R, r, G⟩ := z
      rw [ec] at G
      unfold runFn at G
      split at G
      · rename_i e
        rw [← r.len, e.2, h4]
      · exact G.elim
    · refine ⟨tS K fa ca E (evSs (T.cfg k) F.body), ?_, ?_⟩
      · have tk : Takes (cxOf (L2.CX P w) P w K mg base q.1 nm (defScope st) (fa f) cdv A outer s H E) (fun cls d _ H => E cls d H) := takes_of rfl rfl rfl rfl
        have gx : GX T fa ca k E ⟨q.1, defScope st, fun _ => true, false, false⟩ (cxOf (L2.CX P w) P w K mg base q.1 nm (defScope st) (fa f) cdv A outer s H E) :=
          ⟨⟨rfl, (scB_ok h1).nd, rfl, rfl, rfl, hr, fun f' nm' F' ef' => by
            obtain ⟨e1, st', q', fd', fn', hc'⟩ := Fa.fns f' nm' F' ef'
            have hc2 := hc'
            unfold chkFn at hc2
            simp only [Bool.and_eq_true, decide_eq_true_eq] at hc2
            have ha := hc2.1.1.1.1.2
            have hsc := scB_ok hc2.1.1.1.1.1
            unfold argsB at ha
            simp only [Bool.and_eq_true, decide_eq_true_eq, List.isEmpty_iff, Option.isNone_iff_eq_none] at ha
            refine ⟨e1, fn'.kp, fd', q'.2, fn'.bindsN fun kV doc pm an cdv ct us hl => ?_, fun k' hk => ih k' hk f' nm' F' st' q' fd' ef' fn' hc'⟩
            exact bind_plain ha.1.1.1.1 ha.1.1.1.2 ha.1.1.2 ha.1.2 ha.2 rfl (by rw [← hsc.pre]; exact hsc.nd.sublist (List.take_sublist _ _)) hl,
          Fa.cs, Fa.free, passes_call tk fun _ _ _ _ z => z, fun f' nm' F' q0 ef' et => (by
            obtain ⟨e1, st', q', fd', fn', hc'⟩ := Fa.fns f' nm' F' ef'
            unfold chkFn at hc'
            simp only [Bool.and_eq_true, decide_eq_true_eq] at hc'
            rw [hc'.2] at et
            cases et), fun z => (by cases z), fun z => (by cases z)⟩, fun k' hk => lvAll T fa ca k k' hk⟩
        exact evSs_ok ⟨gx, (scB_ok h1).kind, tk, passes_of rfl, Fa.xs⟩ F.body (defBody st) h3
      · obtain ⟨Ph, m, h, args, R, r, G⟩ := z
        rw [ec] at G
        unfold runFn at G
        split at G
        · rename_i el
          refine ⟨Ph, m, h, start F args, R, start_rel r el.2 h5, ?_⟩
          have hml := R.len
          have dr : ∀ {m' : List Addr} {h' : Hh} {H' : Hp}, m <+: m' → HRel K fa Ph m' h' H' → HRel K fa Ph m (h'.take h.length) H' ∧ HExt (Lv m' h') (Lv m (h'.take h.length)) H' H' := fun p R' => by
            have := R'.drop m.length
            rw [take_pre p] at this
            rw [← hml]
            exact this
          -- what is handed back
          have fin : ∀ (v : Val) (h' : Hh), Goes K fa ca E (pV K fa Ph) Ph m h H (leave F.keep h.length v h') Q → ∀ m' x H', m <+: m' → HExt (Lv m h) (Lv m' h') H H' → HRel K fa Ph m' h' H' → RepV K fa Ph m' h' H' v x → Q x H' := fun v h' G m' x H' p e R' rv => by
            unfold leave at G
            split at G
            · exact G.ok m' x H' p ⟨e, fun _ z => z.elim⟩ ⟨R', rv⟩
            · obtain ⟨R2, e2⟩ := dr p R'
              cases v with
              | d d => exact G.ok m x H' (List.prefix_refl _) ⟨e.trans e2, fun _ z => z.elim⟩ ⟨R2, RepD.go R' e2 rv⟩
              | ref j =>
                simp only at G
                split at G
                · rename_i hj
                  obtain ⟨a, ea, rfl⟩ := rv
                  refine G.ok m _ H' (List.prefix_refl _) ⟨e.trans e2, fun _ z => z.elim⟩ ⟨R2, a, ?_, rfl⟩
                  rw [← take_pre p, List.getElem?_take_of_lt (by rw [hml]; exact hj)]
                  exact ea
                · exact G.elim
          split at G
          · rename_i v h' er
            rw [er]
            exact fun m' x H' p e R' rv => fin v h' G m' x H' p e R' rv
          · rename_i env' h' er
            rw [er]
            exact fun m' σ' H' p e R' _ => fin (.d .non) h' G m' .non H' p e R' .non
          · rename_i c h' er
            rw [er]
            exact fun m' H' p e R' => G m H' (List.prefix_refl _) (e.trans (dr p R').2) (dr p R').1
          · exact G.elim
        · exact G.elim
theorem fn_all (Fa : Facts T K mg fa ca) : ∀ (k f : Nat) (nm : Str) (F : Fn) (st : Stmt) (q : List Str × List Str) (fd : FuncData), T.fs[f]? = some (nm, F) → FunD K nm nm (defArgs st) (defBody st) (defScope st) [] [] (fa f) fd → chkFn T F q st = true →
    FnOk P w K mg base (L2.CX P w) k (fa f) fd q.2 (spF T K fa ca k f) := by
  have key : ∀ n k, k ≤ n → ∀ (f : Nat) (nm : Str) (F : Fn) (st : Stmt) (q : List Str × List Str) (fd : FuncData), T.fs[f]? = some (nm, F) → FunD K nm nm (defArgs st) (defBody st) (defScope st) [] [] (fa f) fd → chkFn T F q st = true →
      FnOk P w K mg base (L2.CX P w) k (fa f) fd q.2 (spF T K fa ca k f) := by
    have zero : ∀ (f : Nat) (nm : Str) (F : Fn) (st : Stmt) (q : List Str × List Str) (fd : FuncData), T.fs[f]? = some (nm, F) → FunD K nm nm (defArgs st) (defBody st) (defScope st) [] [] (fa f) fd → chkFn T F q st = true →
        FnOk P w K mg base (L2.CX P w) 0 (fa f) fd q.2 (spF T K fa ca 0 f) := fun f nm F st q fd ef fn hc => by
      have no : ∀ vs H Q E, ¬ spF T K fa ca 0 f vs H Q E := fun vs H Q E z => by
        obtain ⟨Ph, m, h, args, R, r, G⟩ := z
        exact G
      exact ⟨fun vs H Q E z => (no _ _ _ _ z).elim, fun A outer s H args us vs Q E _ _ _ _ z => (no _ _ _ _ z).elim⟩
    intro n
    induction n with
    | zero =>
      intro k hk
      have : k = 0 := by omega
      subst this
      exact zero
    | succ n ih =>
      intro k hk
      cases k with
      | zero => exact zero
      | succ k => exact fn_one Fa k fun k' hk' => ih k' (by omega)
  exact fun k => key k k (Nat.le_refl k)
end
end Ev
set_option linter.all false
set_option maxRecDepth 100000
set_option maxHeartbeats 8000000
/-! Ev13: the law's end. -/
namespace Ev
open PySem PySem.Spec PyProof.Rows L2
/-- the name of the n-th def -/
def Tab.nm (T : Tab) (n : Nat) : Str := match T.fs[n]? with
  | some p => p.1
  | none => Str.empty
def Tab.fa (T : Tab) (K : PySem.W.Frag) (n : Nat) : Addr := He.ga K (T.nm n)
def Tab.FA (T : Tab) (K : PySem.W.Frag) : FA := ⟨T.fa K, []⟩
def Tab.ca (T : Tab) (K : PySem.W.Frag) (n : Nat) : Addr := match T.xs[n]? with
  | some p => He.ga K p
  | none => 0
mutual
/-- the written value u is d -/
def repB (K : PySem.W.Frag) (fa : FA) : D → Value → Bool
  | .non, .none => true
  | .bl b, .bool c => b == c
  | .int i, .int j _ => decide (i = j)
  | .str x, .str y _ => decide (x = y)
  | .fn n, .ref a => decide (a = fa n)
  | .scr ds, .ref a => (match K.lookup a with
    | some ⟨.type c, none, .seq its _, _⟩ => decide (c = "list") && (decide (its.size ≤ sizeLine) && repBs K fa ds its.toList)
    | _ => false)
  | _, _ => false
def repBs (K : PySem.W.Frag) (fa : FA) : List D → List Value → Bool
  | [], [] => true
  | d :: ds, u :: us => repB K fa d u && repBs K fa ds us
  | _, _ => false
end
theorem bandT {a b : Bool} (h : (a && b) = true) : a = true ∧ b = true := Bool.and_eq_true_iff.mp h
mutual
theorem repB_ok {K : PySem.W.Frag} {fa : FA} : ∀ (d : D) (u : Value), repB K fa d u = true → ∃ v, RelV v u ∧ ∀ Y H, RepD K fa Y H d v
  | .non, u, h => by
    cases u with
    | none => exact ⟨.non, rfl, fun _ _ => .non⟩
    | _ => simp [repB] at h
  | .bl b, u, h => by
    cases u with
    | bool c =>
      have e : b = c := eq_of_beq (show (b == c) = true from h)
      subst e
      exact ⟨.bl b, rfl, fun _ _ => .bl b⟩
    | _ => simp [repB] at h
  | .int i, u, h => by
    cases u with
    | int j t =>
      have e : i = j := of_decide_eq_true h
      subst e
      exact ⟨.int i, ⟨t, rfl⟩, fun _ _ => .int i⟩
    | _ => simp [repB] at h
  | .str x, u, h => by
    cases u with
    | str y t =>
      have e : x = y := of_decide_eq_true h
      subst e
      exact ⟨.str x, ⟨t, rfl⟩, fun _ _ => .str x⟩
    | _ => simp [repB] at h
  | .fn n, u, h => by
    cases u with
    | ref a =>
      have e : a = fa n := of_decide_eq_true h
      subst e
      exact ⟨.ref (fa n), rfl, fun _ _ => .fn n⟩
    | _ => simp [repB] at h
  | .tup ds, u, h => by simp [repB] at h
  | .scr ds, u, h => by
    cases u with
    | ref a =>
      unfold repB at h
      split at h
      · rename_i c its n sl q
        obtain ⟨h1, h2⟩ := bandT h
        obtain ⟨h3, h4⟩ := bandT h2
        obtain ⟨vs, r, z⟩ := repBs_ok ds its.toList h4
        exact ⟨.ref a, rfl, fun Y H => .scr (.inr ⟨_, its, n, q, congrArg Value.type (of_decide_eq_true h1), rfl, rfl, of_decide_eq_true h3, r⟩) (z Y H)⟩
      · cases h
    | _ => simp [repB] at h
  | .lst ds, u, h => by simp [repB] at h
theorem repBs_ok {K : PySem.W.Frag} {fa : FA} : ∀ (ds : List D) (us : List Value), repBs K fa ds us = true → ∃ vs, Vals vs us ∧ ∀ Y H, RepDs K fa Y H ds vs
  | [], [], _ => ⟨[], .nil, fun _ _ => .nil⟩
  | [], _ :: _, h => by simp [repBs] at h
  | _ :: _, [], h => by simp [repBs] at h
  | d :: ds, u :: us, h => by
    obtain ⟨h1, h2⟩ := bandT (show (repB K fa d u && repBs K fa ds us) = true from h)
    obtain ⟨v, r, z⟩ := repB_ok d u h1
    obtain ⟨vs, r2, z2⟩ := repBs_ok ds us h2
    exact ⟨v :: vs, .cons r r2, fun Y H => .cons (z Y H) (z2 Y H)⟩
end
/-! ### the head -/
/-- a module's name that holds a plain value -/
def conK (T : Tab) (K : PySem.W.Frag) (x : Str) (d : D) : Bool := match PySem.W.nsIn K mainGlobals x with
  | some (some u) => repB K (T.FA K) d u
  | _ => false
def defOf (x : Str) (st : Stmt) : He.DefD := ⟨(x, none), x, x, defArgs st, defBody st, defScope st, [], []⟩
def defsOf (T : Tab) (sts : List Stmt) : List He.DefD := List.zipWith (fun f st => defOf f.1 st) T.fs sts
def lookK (T : Tab) (K : PySem.W.Frag) : Bool := (T.fs.all fun f => (He.Fa.glo f.1).ok K) && ((T.cs.all fun c => conK T K c.1 c.2) && ((T.free.all fun x => (He.Fa.free x).ok K) && T.xs.all fun x => (He.Fa.glo x).ok K && (He.Fa.exc x).ok K))
def obsT (T : Tab) (sts : List Stmt) (K : PySem.W.Frag) : He.AlD := (lookK T K && (defsOf T sts).all fun d => d.ok K, (defsOf T sts).map fun d => He.fnW K d.at_)
def valT (T : Tab) (sts : List Stmt) : He.AlD := (true, (defsOf T sts).map He.DefD.val)
def obsTG (n : Nat) (T : Tab) (sts : List Stmt) (g : Addr → Option Obj) : He.AlD := obsT T sts (He.frG g (He.asD g n))
def hookT (n : Nat) (T : Tab) (sts : List Stmt) : PySem.W.Hook where
  α := He.AlD
  obs := fun s => obsTG n T sts s.heap.get?
  val := fun _ => valT T sts
  says := fun _ h => ∃ K : PySem.W.Frag, K.In h ∧ obsT T sts K = valT T sts
  of := fun _ _ e => ⟨_, He.frG_in, e⟩
  keeps := fun _ _ _ ⟨K, hK, c⟩ k => ⟨K, PySem.W.Frag.In.keeps hK k, c⟩
theorem obsTG_eq {n : Nat} {T : Tab} {sts : List Stmt} {g : Addr → Option Obj} {s : Shared} (h : ∀ a, g a = s.heap.get? a) : obsTG n T sts g = (hookT n T sts).obs s := by
  have e : g = s.heap.get? := funext h
  rw [e] <;> rfl
/-- all defs are as the table has them -/
def chkAll (T : Tab) : List (Str × Fn) → List Stmt → List (List Str × List Str) → Bool
  | [], [], [] => true
  | f :: fs, s :: ss, q :: qs => chkFn T f.2 q s && chkAll T fs ss qs
  | _, _, _ => false
theorem chkAll_at {T : Tab} : ∀ {fs : List (Str × Fn)} {ss : List Stmt} {qs : List (List Str × List Str)} {i : Nat} {f : Str × Fn}, chkAll T fs ss qs = true → fs[i]? = some f → ∃ s q, ss[i]? = some s ∧ qs[i]? = some q ∧ chkFn T f.2 q s = true
  | [], _, _, i, f, _, e => by simp at e
  | _ :: _, [], _, _, _, h, _ => by simp [chkAll] at h
  | _ :: _, _ :: _, [], _, _, h, _ => by simp [chkAll] at h
  | f :: fs, s :: ss, q :: qs, 0, g, h, e => by
    simp at e
    subst e
    exact ⟨s, q, rfl, rfl, (bandT (show (chkFn T f.2 q s && chkAll T fs ss qs) = true from h)).1⟩
  | f :: fs, s :: ss, q :: qs, i + 1, g, h, e => by
    obtain ⟨s', q', h1, h2, h3⟩ := chkAll_at (i := i) (bandT (show (chkFn T f.2 q s && chkAll T fs ss qs) = true from h)).2 (by simpa using e)
    exact ⟨s', q', by simpa using h1, by simpa using h2, h3⟩
section
variable {T : Tab} {sts : List Stmt} {qs : List (List Str × List Str)} {K : PySem.W.Frag} {h : Heap} {mg : Str → Option Value}
theorem defs_at {i : Nat} {f : Str × Fn} {s : Stmt} (ef : T.fs[i]? = some f) (es : sts[i]? = some s) : (defsOf T sts)[i]? = some (defOf f.1 s) := by
  unfold defsOf
  rw [List.getElem?_zipWith, ef, es]
theorem facts_of (c : obsT T sts K = valT T sts) (hc : chkAll T T.fs sts qs = true) (X : K.In h) (G : h.Ns mainGlobals mg) : Facts T K mg (T.FA K) (T.ca K) := by
  have c0 : (lookK T K && (defsOf T sts).all fun d => d.ok K) = true := congrArg (fun z : He.AlD => z.1) c
  obtain ⟨c1, c2⟩ := bandT c0
  obtain ⟨l1, l2⟩ := bandT (show ((T.fs.all fun f => (He.Fa.glo f.1).ok K) && ((T.cs.all fun c => conK T K c.1 c.2) && ((T.free.all fun x => (He.Fa.free x).ok K) && T.xs.all fun x => (He.Fa.glo x).ok K && (He.Fa.exc x).ok K))) = true from c1)
  obtain ⟨l2, l3⟩ := bandT l2
  obtain ⟨l3, l4⟩ := bandT l3
  have c3 : (defsOf T sts).map (fun d => He.fnW K d.at_) = (defsOf T sts).map He.DefD.val := congrArg (fun z : He.AlD => z.2) c
  refine ⟨fun f nm F ef => ?_, fun g nm d eg => ?_, fun x hx => ?_, fun cc nm ec => ?_⟩
  · have e1 : (T.FA K).f f = He.ga K nm := by
      show T.fa K f = _
      unfold Tab.fa Tab.nm
      rw [ef]
    obtain ⟨st, q, es, eq, hck⟩ := chkAll_at hc ef
    refine ⟨?_, st, q, ?_⟩
    · rw [e1]
      exact He.glo_ok X G (List.all_eq_true.mp l1 _ (List.mem_of_getElem? ef))
    · have hd := defs_at ef es
      have e3 : ((defsOf T sts).map fun d => He.fnW K d.at_)[f]? = ((defsOf T sts).map He.DefD.val)[f]? := by rw [c3]
      rw [List.getElem?_map, List.getElem?_map, hd] at e3
      obtain ⟨fd, F1⟩ := He.DefD.funD (Option.some.inj e3) (List.all_eq_true.mp c2 _ (List.mem_of_getElem? hd))
      refine ⟨fd, ?_, hck⟩
      rw [e1]
      exact F1
  · have z := List.all_eq_true.mp l2 _ (List.mem_of_getElem? eg)
    unfold conK at z
    split at z
    · rename_i u eu
      obtain ⟨v, r, rr⟩ := repB_ok d u z
      exact ⟨u, v, PySem.W.mg_of X G eu, r, rr⟩
    · cases z
  · exact He.free_ok X G (List.all_eq_true.mp l3 _ hx)
  · have e1 : T.ca K cc = He.ga K nm := by
      unfold Tab.ca
      rw [ec]
    obtain ⟨z1, z2⟩ := bandT (List.all_eq_true.mp l4 _ (List.mem_of_getElem? ec))
    obtain ⟨y1, y2, y3, y4⟩ := He.exc_ok z2
    rw [e1]
    exact ⟨He.glo_ok X G z1, y1, y2, y3, y4⟩
end
/-! ### the law -/
theorem walkT {l : PySem.W.OpenLaw} {n k m i : Nat} {q : Program} {loose : List Str} {XP : (Str → Option Value) → Heap → Prop} {d : DefRec} {x : Str} {T : Tab} {sts : List Stmt} {qs : List (List Str × List Str)} {F0 : Fn}
    (hn : l.most = some n) (hn2 : n ≤ sizeLine) (hdf : d.params.defaults = []) (hr : Room k callerA) (hc : chkAll T T.fs sts qs = true)
    (hi : T.fs[i]? = some (d.name, F0)) (hp : (qs[i]?).map (·.2) = some [x])
    (main : ∀ ns : List Int, ns.length ≤ n → (∀ z ∈ ns, Builtin.Int.intBits z ≤ 1048576) → ∃ h', T.call k i [.d (.scr (ns.map .int))] [] = .ok (.d (.bl true)) h') :
    PySem.W.WalkO q loose XP (hookT m T sts).says l.row.toRowW d [] (fun f vs => PySem.call f vs) := by
  refine Att.attach_callB hn hdf fun w s₀ s₁ mg mb fA o pm cd doc a vs ns G Y ho hd hcd hmg hobj hints hlen hbits hg => ?_
  obtain ⟨K, KX, c⟩ := Y
  have Fc := facts_of c hc KX G.T.g
  obtain ⟨g1, st, q', fd, FD, hck⟩ := Fc.fns i _ _ hi
  have e0 : fA = (T.FA K).f i := by
    have := hmg.symm.trans g1
    cases this
    rfl
  obtain ⟨st2, q2, es2, eq2, hck2⟩ := chkAll_at hc hi
  rw [eq2] at hp
  have hp2 : q2.2 = [x] := Option.some.inj hp
  have ps : chkFn T F0 q2 st2 = true := hck2
  -- the def at hand is the i-th
  have hdl := defs_at hi es2
  have c0 : (lookK T K && (defsOf T sts).all fun d => d.ok K) = true := congrArg (fun z : He.AlD => z.1) c
  have c3 : (defsOf T sts).map (fun d => He.fnW K d.at_) = (defsOf T sts).map He.DefD.val := congrArg (fun z : He.AlD => z.2) c
  have e3 : ((defsOf T sts).map fun d => He.fnW K d.at_)[i]? = ((defsOf T sts).map He.DefD.val)[i]? := by rw [c3]
  rw [List.getElem?_map, List.getElem?_map, hdl] at e3
  obtain ⟨fd2, F1⟩ := He.DefD.funD (Option.some.inj e3) (List.all_eq_true.mp (bandT c0).2 _ (List.mem_of_getElem? hdl))
  have F1' : FunD K d.name d.name (defArgs st2) (defBody st2) (defScope st2) [] [] ((T.FA K).f i) fd2 := by
    have e1 : (T.FA K).f i = He.ga K d.name := by
      show T.fa K i = _
      unfold Tab.fa Tab.nm
      rw [hi]
    rw [e1]
    exact F1
  have ha := ps
  unfold chkFn at ha
  simp only [Bool.and_eq_true, decide_eq_true_eq] at ha
  have hsc := scB_ok ha.1.1.1.1.1
  have hab := ha.1.1.1.1.2
  unfold argsB at hab
  simp only [Bool.and_eq_true, decide_eq_true_eq, List.isEmpty_iff, Option.isNone_iff_eq_none] at hab
  have nd : q2.2.Nodup := by rw [← hsc.pre]; exact hsc.nd.sublist (List.take_sublist _ _)
  have hb : ∀ (s : Shared) (u : Value), BindsTo s fd2 ⟨[u], []⟩ [(x, u)] := fun s u => by
    have b := FunD.bindsA (ps := q2.2) F1' (fun kV doc pm an cdv ct us hl => bind_plain hab.1.1.1.1 hab.1.1.1.2 hab.1.1.2 hab.1.2 hab.2 rfl nd hl) s [u] (by rw [hp2]; rfl)
    rw [hp2] at b
    exact b
  have core := fun base => fn_all (P := l.prog) (w := w) (base := base) Fc k i _ F0 st2 q2 fd2 hi F1' ps
  rw [hp2] at core
  rw [e0]
  rw [e0] at hmg
  refine law_call (CX := L2.CX l.prog w) (sp := spF T K (T.FA K) (T.ca K) k i) KX G.T.g G.T.b G.T.builtins G.T.nolimit hg hobj hints (Nat.le_trans hlen hn2) hr (fun base _ _ => core base) hb (fun H hO hS => ?_) fun H e s' z => ?_
  · obtain ⟨h', em⟩ := main ns hlen hbits
    refine ⟨[], [], [], [.d (.scr (ns.map .int))], ⟨rfl, fun n c a e => by simp at e, fun i j a c d e => by simp at e, fun a z => by simp at z, fun p hp => by simp [Tab.FA] at hp⟩, .cons (RepD.scr (xs := ns.map V.int) ?_ ?_) .nil, ?_⟩
    · rcases hS with z | z
      · exact .inl ⟨z, fun y => by
          rcases y with ⟨_, _, y, _, _⟩ | y
          · simp at y
          · simp at y⟩
      · exact .inr z
    · clear em hlen hbits hints hS
      induction ns with
      | nil => exact .nil
      | cons n ns ih => exact .cons (.int n) ih
    · rw [em]
      intro m' v H' _ _ ⟨_, r⟩
      cases r
      rfl
  · obtain ⟨_, _, _, _, _, _, _, _, _, _, _, _, z⟩ := z
    exact z
end Ev
set_option linter.all false
set_option maxRecDepth 100000
set_option maxHeartbeats 4000000
/-! Ev14: reasoning about the evaluator, backwards from what is to hold. -/
namespace Ev
open PySem
/-- r ends well, with Q -/
def Holds {α : Type} (r : Res α) (Q : α → Hh → Prop) : Prop := match r with
  | .ok a h => Q a h
  | _ => False
theorem Holds_ok {α : Type} (a : α) (h : Hh) (Q : α → Hh → Prop) : Holds (.ok a h) Q ↔ Q a h := Iff.rfl
theorem Holds_stuck {α : Type} (Q : α → Hh → Prop) : Holds .stuck Q ↔ False := Iff.rfl
theorem Holds.of {α : Type} {r : Res α} {Q : α → Hh → Prop} {a : α} {h : Hh} (e : r = .ok a h) (q : Q a h) : Holds r Q := by subst e; exact q
theorem Holds.ex {α : Type} {r : Res α} {Q : α → Hh → Prop} (q : Holds r Q) : ∃ a h, r = .ok a h ∧ Q a h := by
  cases r with
  | ok a h => exact ⟨a, h, rfl, q⟩
  | err c h => exact q.elim
  | stuck => exact q.elim
theorem Holds.eq {α : Type} {r : Res α} {a : α} {h : Hh} (q : Holds r fun b h' => b = a ∧ h' = h) : r = .ok a h := by
  obtain ⟨b, h', e, rfl, rfl⟩ := q.ex
  exact e
theorem Holds.imp {α : Type} {r : Res α} {Q Q' : α → Hh → Prop} (q : Holds r Q) (f : ∀ a h, Q a h → Q' a h) : Holds r Q' := by
  obtain ⟨a, h, e, z⟩ := q.ex
  exact .of e (f _ _ z)
theorem Hb {α β : Type} {r : Res α} {f : α → Hh → Res β} {K : β → Hh → Prop} {K' : α → Hh → Prop} (e : ∀ a h, Holds (f a h) K ↔ K' a h) : Holds (r.bind f) K ↔ Holds r K' := by
  cases r with
  | ok a h => exact e a h
  | err c h => exact Iff.rfl
  | stuck => exact Iff.rfl
theorem Hif {α : Type} {b : Bool} {r s : Res α} {K : α → Hh → Prop} {A B : Prop} (x : Holds r K ↔ A) (y : Holds s K ↔ B) : Holds (if b then r else s) K ↔ (b = true → A) ∧ (b = false → B) := by
  cases b <;> simp [x, y]
theorem Hifp {α : Type} {c : Prop} [Decidable c] {r : Res α} {K : α → Hh → Prop} {A : Prop} (x : Holds r K ↔ A) : Holds (if c then r else .stuck) K ↔ c ∧ A := by
  by_cases h : c <;> simp [h, x, Holds_stuck]
/-! ### pieces -/
def opt {α : Type} (o : Option α) (K : α → Prop) : Prop := match o with
  | some a => K a
  | none => False
theorem opt_some {α : Type} (a : α) (K : α → Prop) : opt (some a) K ↔ K a := Iff.rfl
theorem HoD {β : Type} {o : Option (D)} {f : D → Res β} {K : β → Hh → Prop} {K' : D → Prop} (e : ∀ a, Holds (f a) K ↔ K' a) : Holds (match o with
    | some a => f a
    | none => .stuck) K ↔ opt o K' := by
  cases o with
  | some a => exact e a
  | none => exact Iff.rfl
theorem HoL {β : Type} {o : Option (List D)} {f : List D → Res β} {K : β → Hh → Prop} {K' : List D → Prop} (e : ∀ a, Holds (f a) K ↔ K' a) : Holds (match o with
    | some a => f a
    | none => .stuck) K ↔ opt o K' := by
  cases o with
  | some a => exact e a
  | none => exact Iff.rfl
theorem HoB {β : Type} {o : Option (Bool)} {f : Bool → Res β} {K : β → Hh → Prop} {K' : Bool → Prop} (e : ∀ a, Holds (f a) K ↔ K' a) : Holds (match o with
    | some a => f a
    | none => .stuck) K ↔ opt o K' := by
  cases o with
  | some a => exact e a
  | none => exact Iff.rfl
theorem HoV {β : Type} {o : Option (Ve)} {f : Ve → Res β} {K : β → Hh → Prop} {K' : Ve → Prop} (e : ∀ a, Holds (f a) K ↔ K' a) : Holds (match o with
    | some a => f a
    | none => .stuck) K ↔ opt o K' := by
  cases o with
  | some a => exact e a
  | none => exact Iff.rfl
theorem HoN {β : Type} {o : Option (Nat)} {f : Nat → Res β} {K : β → Hh → Prop} {K' : Nat → Prop} (e : ∀ a, Holds (f a) K ↔ K' a) : Holds (match o with
    | some a => f a
    | none => .stuck) K ↔ opt o K' := by
  cases o with
  | some a => exact e a
  | none => exact Iff.rfl
theorem HofO {α : Type} {o : Option α} {h : Hh} {K : α → Hh → Prop} : Holds (ofO o h) K ↔ opt o fun a => K a h := by
  cases o <;> exact Iff.rfl
def gV (env : Ve) (i : Nat) (K : Val → Prop) : Prop := match env[i]? with
  | some (some v) => K v
  | _ => False
def sV (env : Ve) (i : Nat) (v : Option Val) (K : Ve → Prop) : Prop := K (env.set i v)
def gC (h : Hh) (n : Nat) (K : List D → Prop) : Prop := match h[n]? with
  | some (.lst ds) => K ds
  | _ => False
def sC (h : Hh) (n : Nat) (c : Cell) (K : Hh → Prop) : Prop := K (h.set n c)
def vW (h : Hh) (w : W) (K : D → Prop) : Prop := opt (view h w.val) K
def vL (h : Hh) (vs : List Val) (K : List D → Prop) : Prop := opt (views h vs) K
def aW (w : W) (K : D → Prop) : Prop := opt (asD w.val) K
def aL (vs : List Val) (K : List D → Prop) : Prop := opt (asDs vs) K
def bn (o : Op) (p q : D) (K : W → Prop) : Prop := opt (binD o p q) K
def cm (o : Cm) (p q : D) (K : Bool → Prop) : Prop := opt (cmpD o p q) K
def tr (p : D) (K : Bool → Prop) : Prop := opt (truD p) K
def tY (t : Ty) (p : D) (K : Bool → Prop) : Prop := opt (isTy t p) K
def bI (b : Bi) (ds : List D) (K : W → Prop) : Prop := opt (biD b ds) K
def iX (p q : D) (K : D → Prop) : Prop := opt (ixD p q) K
def sL (p : D) (l u : Option Int) (K : W → Prop) : Prop := opt (slD p l u) K
def iW (w : W) (K : Int → Prop) : Prop := match w with
  | .v (.d (.int i)) => K i
  | _ => False
def bB (w : W) (K : Bool → Prop) : Prop := opt (bW w) K
def rW (w : W) (K : Nat → Prop) : Prop := match w with
  | .v (.ref n) => K n
  | _ => False
def fW (w : W) (K : List D → Prop) : Prop := match w with
  | .fresh ds => K ds
  | _ => False
def bT (tg : Tg) (v : Val) (env : Ve) (K : Ve → Prop) : Prop := opt (bindT tg v env) K
def pA (is : List Nat) (vs : List Val) (env : Ve) (K : Ve → Prop) : Prop := opt (putAll is vs env) K
def sQ (p : D) (K : List D → Prop) : Prop := opt (seqD p) K
def zP (p q : D) (K : List D → Prop) : Prop := opt (zipD p q) K
def iN (n : Nat) (i : Int) (K : Nat → Prop) : Prop := opt (L2.ixN n i) K
/-- a list with one item put in -/
def iS (ds : List D) (i : Int) (d : D) (K : List D → Prop) : Prop := iN ds.length i fun j => K (ds.set j d)
theorem HiW {β : Type} {x : W} {f : Int → Res β} {K : β → Hh → Prop} {K' : Int → Prop} (e : ∀ a, Holds (f a) K ↔ K' a) : Holds (match x with
    | .v (.d (.int i)) => f i
    | _ => .stuck) K ↔ iW x K' := by
  cases x with
  | fresh ds => exact Iff.rfl
  | v x => cases x with
    | ref n => exact Iff.rfl
    | d x => cases x <;> first | exact e _ | exact Iff.rfl
theorem HrW {β : Type} {x : W} {f : Nat → Res β} {K : β → Hh → Prop} {K' : Nat → Prop} (e : ∀ a, Holds (f a) K ↔ K' a) : Holds (match x with
    | .v (.ref i) => f i
    | _ => .stuck) K ↔ rW x K' := by
  cases x with
  | fresh ds => exact Iff.rfl
  | v x => cases x <;> first | exact e _ | exact Iff.rfl
theorem HfW {β : Type} {x : W} {f : List D → Res β} {K : β → Hh → Prop} {K' : List D → Prop} (e : ∀ a, Holds (f a) K ↔ K' a) : Holds (match x with
    | .fresh i => f i
    | _ => .stuck) K ↔ fW x K' := by
  cases x <;> first | exact e _ | exact Iff.rfl
theorem HgC {β : Type} {h : Hh} {n : Nat} {f : List D → Res β} {K : β → Hh → Prop} {K' : List D → Prop} (e : ∀ ds, Holds (f ds) K ↔ K' ds) : Holds (match h[n]? with
    | some (.lst ds) => f ds
    | _ => .stuck) K ↔ gC h n K' := by
  unfold gC
  cases h[n]? with
  | none => exact Iff.rfl
  | some c => cases c <;> first | exact e _ | exact Iff.rfl
def nS (p : D) (K : W → Prop) : Prop := opt (nsetD p) K
def rV (p : D) (K : W → Prop) : Prop := opt (revD p) K
def pP (ds : List D) (vs : List Val) (K : D → List D → Prop) : Prop := opt (popD ds vs) fun q => K q.1 q.2
def eN (p : D) (K : List D → Prop) : Prop := match p with
  | .lst ds => K (enuL 0 ds)
  | .tup ds => K (enuL 0 ds)
  | _ => False
theorem HoQ {β : Type} {o : Option (D × List D)} {f : D × List D → Res β} {K : β → Hh → Prop} {K' : D × List D → Prop} (e : ∀ a, Holds (f a) K ↔ K' a) : Holds (match o with
    | some a => f a
    | none => .stuck) K ↔ opt o K' := by
  cases o with
  | some a => exact e a
  | none => exact Iff.rfl
section
variable (C : Cfg)
def wW (e : E) (env : Ve) (h : Hh) (K : W → Hh → Prop) : Prop := Holds (evW C e env h) K
def wT (e : B) (env : Ve) (h : Hh) (K : Bool → Hh → Prop) : Prop := Holds (evT C e env h) K
def wA (e : Es) (env : Ve) (h : Hh) (K : W → Hh → Prop) : Prop := Holds (evAnd C e env h) K
def wR (e : Es) (env : Ve) (h : Hh) (K : W → Hh → Prop) : Prop := Holds (evOr C e env h) K
def wAT (e : Bs) (env : Ve) (h : Hh) (K : Bool → Hh → Prop) : Prop := Holds (evAndT C e env h) K
def wRT (e : Bs) (env : Ve) (h : Hh) (K : Bool → Hh → Prop) : Prop := Holds (evOrT C e env h) K
def wC (e : Bs) (env : Ve) (h : Hh) (K : Bool → Hh → Prop) : Prop := Holds (evC C e env h) K
def wO (e : Es) (env : Ve) (h : Hh) (K : Option Int → Hh → Prop) : Prop := Holds (evO C e env h) K
def wL (e : Es) (env : Ve) (h : Hh) (K : List Val → Hh → Prop) : Prop := Holds (evL C e env h) K
def wI (e : It) (env : Ve) (h : Hh) (K : List D → Hh → Prop) : Prop := Holds (evI C e env h) K
def wS (e : S) (env : Ve) (h : Hh) (K : Flow → Hh → Prop) : Prop := Holds (evS C e env h) K
def wQ (e : Ss) (env : Ve) (h : Hh) (K : Flow → Hh → Prop) : Prop := Holds (evSs C e env h) K
def wF (f : Nat) (vs : List Val) (h : Hh) (K : Val → Hh → Prop) : Prop := Holds (C.call f vs h) K
/-- one item of a comprehension -/
def lcF (elt : E) (tg : Tg) (c : Bs) (env : Ve) (d : D) (h : Hh) : Res (Option D) := match bindT tg (.d d) env with
  | some env1 => (evC C c env1 h).bind fun k h => if k then (evW C elt env1 h).bind fun w h => (match asD w.val with
      | some d => .ok (some d) h
      | none => .stuck) else .ok none h
  | none => .stuck
def wLc (elt : E) (tg : Tg) (c : Bs) (env : Ve) (items acc : List D) (h : Hh) (K : List D → Hh → Prop) : Prop := Holds (compL (lcF C elt tg c env) items acc h) K
/-- one turn of a for -/
def frF (tg : Tg) (b : Ss) (d : D) (env : Ve) (h : Hh) : Res Flow := match bindT tg (.d d) env with
  | some env => evSs C b env h
  | none => .stuck
def wFr (tg : Tg) (b : Ss) (items : List D) (env : Ve) (h : Hh) (K : Flow → Hh → Prop) : Prop := Holds (forL (frF C tg b) items env h) K
def wWh (c : B) (b : Ss) (n : Nat) (env : Ve) (h : Hh) (K : Flow → Hh → Prop) : Prop := Holds (whlL (evT C c) (evSs C b) n env h) K
variable {C}
variable {env : Ve} {h : Hh}
@[simp ↓] theorem wW_var {i : Nat} {K : W → Hh → Prop} : wW C (.var i) env h K ↔ gV env i fun v => K (.v v) h := by
  show Holds (match env[i]? with
    | some (some v) => .ok (.v v) h
    | _ => .stuck) K ↔ _
  unfold gV
  split <;> exact Iff.rfl
@[simp ↓] theorem wW_con {c : D} {K : W → Hh → Prop} : wW C (.con c) env h K ↔ K (.v (.d c)) h := Iff.rfl
@[simp ↓] theorem wW_glb {g : Nat} {K : W → Hh → Prop} : wW C (.glb g) env h K ↔ K (.v (.d (C.glb g))) h := Iff.rfl
@[simp ↓] theorem wW_tup {es : Es} {K : W → Hh → Prop} : wW C (.tup es) env h K ↔ wL C es env h fun vs h => aL vs fun ds => ds.length ≤ lim ∧ K (.v (.d (.tup ds))) h :=
  Hb fun vs h => HoL fun ds => Hifp Iff.rfl
@[simp ↓] theorem wW_lst {es : Es} {K : W → Hh → Prop} : wW C (.lst es) env h K ↔ wL C es env h fun vs h => aL vs fun ds => ds.length ≤ lim ∧ K (.fresh ds) h :=
  Hb fun vs h => HoL fun ds => Hifp Iff.rfl
theorem Hvv {β : Type} {h : Hh} {x y : W} {f : D → D → Res β} {K : β → Hh → Prop} {K' : D → D → Prop} (e : ∀ p q, Holds (f p q) K ↔ K' p q) : Holds (match view h x.val, view h y.val with
    | some p, some q => f p q
    | _, _ => .stuck) K ↔ vW h x fun p => vW h y fun q => K' p q := by
  unfold vW
  cases view h x.val <;> cases view h y.val <;> first | exact e _ _ | exact Iff.rfl
@[simp ↓] theorem wW_bin {o : Op} {a b : E} {K : W → Hh → Prop} : wW C (.bin o a b) env h K ↔ wW C a env h fun x h => wW C b env h fun y h => vW h x fun p => vW h y fun q => bn o p q fun w => K w h :=
  Hb fun x h => Hb fun y h => Hvv fun p q => HofO
@[simp ↓] theorem wW_neg {a : E} {K : W → Hh → Prop} : wW C (.neg a) env h K ↔ wW C a env h fun x h => iW x fun i => K (.v (.d (.int (-i)))) h :=
  Hb fun x h => HiW fun i => Iff.rfl
@[simp ↓] theorem wW_not {a : E} {K : W → Hh → Prop} : wW C (.not a) env h K ↔ wW C a env h fun x h => vW h x fun p => tr p fun b => K (.v (.d (.bl (!b)))) h :=
  Hb fun x h => HoD fun p => (Hb fun b h => Iff.rfl).trans HofO
@[simp ↓] theorem wW_and {es : Es} {K : W → Hh → Prop} : wW C (.and es) env h K ↔ wA C es env h K := Iff.rfl
@[simp ↓] theorem wW_or {es : Es} {K : W → Hh → Prop} : wW C (.or es) env h K ↔ wR C es env h K := Iff.rfl
@[simp ↓] theorem wW_cmp {o : Cm} {a b : E} {K : W → Hh → Prop} : wW C (.cmp o a b) env h K ↔ wW C a env h fun x h => wW C b env h fun y h => vW h x fun p => vW h y fun q => cm o p q fun k => K (.v (.d (.bl k))) h :=
  Hb fun x h => Hb fun y h => Hvv fun p q => (Hb fun b h => Iff.rfl).trans HofO
@[simp ↓] theorem wW_chain {o p : Cm} {a b c : E} {K : W → Hh → Prop} : wW C (.chain o p a b c) env h K ↔ wW C a env h fun x h => wW C b env h fun y h => vW h x fun u => vW h y fun v => cm o u v fun k =>
    (k = true → wW C c env h fun z h => vW h y fun v => vW h z fun t => cm p v t fun k => K (.v (.d (.bl k))) h) ∧ (k = false → K (.v (.d (.bl false))) h) :=
  Hb fun x h => Hb fun y h => Hvv fun u v => (Hb fun k h => Hif (Hb fun z h => Hvv fun v t => (Hb fun b h => Iff.rfl).trans HofO) Iff.rfl).trans HofO
@[simp ↓] theorem wW_ife {c : B} {a b : E} {K : W → Hh → Prop} : wW C (.ife c a b) env h K ↔ wT C c env h fun k h => (k = true → wW C a env h K) ∧ (k = false → wW C b env h K) :=
  Hb fun k h => Hif Iff.rfl Iff.rfl
/-- .. two ints -/
@[simp ↓ high] theorem wW_ifeI {c : B} {i j : Int} {K : W → Hh → Prop} : wW C (.ife c (.con (.int i)) (.con (.int j))) env h K ↔ wT C c env h fun k h => K (.v (.d (.int (if k then i else j)))) h :=
  wW_ife.trans (iff_of_eq (congrArg (wT C c env h) (funext fun k => funext fun h => by cases k <;> simp [wW_con])))
@[simp ↓] theorem wW_call {f : Nat} {es : Es} {K : W → Hh → Prop} : wW C (.call f es) env h K ↔ wL C es env h fun vs h => wF C f vs h fun v h => K (.v v) h :=
  Hb fun vs h => Hb fun v h => Iff.rfl
@[simp ↓] theorem wW_bi {b : Bi} {es : Es} {K : W → Hh → Prop} : wW C (.bi b es) env h K ↔ wL C es env h fun vs h => vL h vs fun ds => bI b ds fun w => K w h :=
  Hb fun vs h => HoL fun ds => HofO
@[simp ↓] theorem wW_isi {t : Ty} {a : E} {K : W → Hh → Prop} : wW C (.isi t a) env h K ↔ wW C a env h fun x h => vW h x fun p => tY t p fun b => K (.v (.d (.bl b))) h :=
  Hb fun x h => HoD fun p => (Hb fun b h => Iff.rfl).trans HofO
@[simp ↓] theorem wW_ix {a b : E} {K : W → Hh → Prop} : wW C (.ix a b) env h K ↔ wW C a env h fun x h => wW C b env h fun y h => vW h x fun p => vW h y fun q => iX p q fun d => K (.v (.d d)) h :=
  Hb fun x h => Hb fun y h => Hvv fun p q => (Hb fun b h => Iff.rfl).trans HofO
@[simp ↓] theorem wW_sl {a : E} {lo hi : Es} {K : W → Hh → Prop} : wW C (.sl a lo hi) env h K ↔ wW C a env h fun x h => wO C lo env h fun l h => wO C hi env h fun u h => vW h x fun p => sL p l u fun w => K w h :=
  Hb fun x h => Hb fun l h => Hb fun u h => HoD fun p => HofO
@[simp ↓] theorem wW_mk {a : E} {K : W → Hh → Prop} : wW C (.mk a) env h K ↔ wW C a env h fun x h => fW x fun ds => K (.v (.ref h.length)) (h ++ [.lst ds]) :=
  Hb fun x h => HfW fun ds => Iff.rfl
@[simp ↓] theorem wW_frz {a : E} {K : W → Hh → Prop} : wW C (.frz a) env h K ↔ wW C a env h fun x h => rW x fun n => gC h n fun ds => sC h n .dead fun h => K (.v (.d (.lst ds))) h :=
  Hb fun x h => HrW fun n => HgC fun ds => Iff.rfl
@[simp ↓] theorem wW_app {o e : E} {K : W → Hh → Prop} : wW C (.app o e) env h K ↔ wW C o env h fun x h => rW x fun n => gC h n fun _ => wW C e env h fun y h => aW y fun d => gC h n fun ds => ds.length < lim ∧ sC h n (.lst (ds ++ [d])) fun h => K (.v (.d .non)) h :=
  Hb fun x h => HrW fun n => HgC fun ds => Hb fun y h => by
    unfold aW gC
    cases asD y.val with
    | none => exact Iff.rfl
    | some d =>
      cases e : h[n]? with
      | none => exact Iff.rfl
      | some c => cases c with
        | dead => exact Iff.rfl
        | dct ds => exact Iff.rfl
        | dtt ds => exact Iff.rfl
        | lst ds => exact Hifp Iff.rfl
@[simp ↓] theorem wW_lc {elt : E} {tg : Tg} {it : It} {c : Bs} {own : List Nat} {K : W → Hh → Prop} : wW C (.lc elt tg it c own) env h K ↔ wI C it env h fun items h => wLc C elt tg c (wipeE env own) items [] h fun ds h => K (.fresh ds) h :=
  Hb fun items h => Hb fun ds h => Iff.rfl
@[simp ↓] theorem wW_rev {a : E} {K : W → Hh → Prop} : wW C (.rev a) env h K ↔ wW C a env h fun x h => vW h x fun p => rV p fun w => K w h :=
  Hb fun x h => HoD fun p => HofO
@[simp ↓] theorem wW_nset {a : E} {K : W → Hh → Prop} : wW C (.nset a) env h K ↔ wW C a env h fun x h => vW h x fun p => nS p fun w => K w h :=
  Hb fun x h => HoD fun p => HofO
@[simp ↓] theorem wW_rgT {it : It} {K : W → Hh → Prop} : wW C (.rgL true it) env h K ↔ wI C it env h fun ds h => ds.length ≤ lim ∧ K (.v (.d (.tup ds))) h :=
  Hb fun ds h => Hifp Iff.rfl
@[simp ↓] theorem wW_rgF {it : It} {K : W → Hh → Prop} : wW C (.rgL false it) env h K ↔ wI C it env h fun ds h => ds.length ≤ lim ∧ K (.fresh ds) h :=
  Hb fun ds h => Hifp Iff.rfl
@[simp ↓] theorem wW_pop {o : E} {i : Es} {K : W → Hh → Prop} : wW C (.pop o i) env h K ↔ wW C o env h fun x h => rW x fun n => gC h n fun _ => wL C i env h fun vs h => gC h n fun ds => pP ds vs fun d es => sC h n (.lst es) fun h => K (.v (.d d)) h :=
  Hb fun x h => HrW fun n => HgC fun ds => Hb fun vs h => HgC fun ds => HoQ fun q => Iff.rfl
def isL (p : D) : Prop := match p with
  | .lst _ => True
  | _ => False
@[simp ↓] theorem isL_lst {ds : List D} : isL (.lst ds) ↔ True := Iff.rfl
def cX (ix : Bool) (p : D) (i : Int) (K : D → Prop) : Prop := match p with
  | .lst ds => opt (cntD ix ds i) K
  | _ => False
@[simp ↓] theorem wW_cnt {ix : Bool} {a x : E} {K : W → Hh → Prop} : wW C (.cnt ix a x) env h K ↔ wW C a env h fun u h => vW h u fun p => isL p ∧ wW C x env h fun w h => vW h u fun p => iW w fun i => cX ix p i fun d => K (.v (.d d)) h :=
  Hb fun u h => by
    unfold vW
    cases view h u.val with
    | none => exact Iff.rfl
    | some p => cases p with
      | lst ds0 =>
        refine Iff.trans (Hb (K' := fun w h => opt (view h u.val) fun p => iW w fun i => cX ix p i fun d => K (.v (.d d)) h) fun w h => ?_) (Iff.symm (and_iff_right True.intro))
        cases view h u.val with
        | none => exact Iff.rfl
        | some p => cases p with
          | lst ds => cases w with
            | fresh ds => exact Iff.rfl
            | v w => cases w with
              | ref n => exact Iff.rfl
              | d w => cases w with
                | int i =>
                  refine HofO.trans ?_
                  show opt ((cntD ix ds i).map _) _ ↔ opt (cntD ix ds i) _
                  cases cntD ix ds i <;> exact Iff.rfl
                | _ => exact Iff.rfl
          | _ => cases w with
            | fresh ds => exact Iff.rfl
            | v w => cases w with
              | ref n => exact Iff.rfl
              | d w => cases w <;> exact Iff.rfl
      | _ => exact ⟨fun z => z.elim, fun z => z.1.elim⟩
/-- one item of the outer walk -/
def l2F (C : Cfg) (elt : E) (tg tg2 : Tg) (it2 : It) (env : Ve) (d : D) (acc : List D) (h : Hh) : Res (List D) := match bindT tg (.d d) env with
  | some env1 => (evI C it2 env1 h).bindN fun items2 h => compL (lcF C elt tg2 .nil (wipeE env1 (tgIs0 tg2))) items2 acc h
  | none => .stuck
def wL2 (C : Cfg) (elt : E) (tg tg2 : Tg) (it2 : It) (env : Ve) (items acc : List D) (h : Hh) (K : List D → Hh → Prop) : Prop := Holds (comp2 (l2F C elt tg tg2 it2 env) items acc h) K
@[simp ↓] theorem wW_lc2 {elt : E} {tg tg2 : Tg} {it it2 : It} {own : List Nat} {K : W → Hh → Prop} : wW C (.lc2 elt tg it tg2 it2 own) env h K ↔ wI C it env h fun items h => wL2 C elt tg tg2 it2 (wipeE env own) items [] h fun ds h => K (.fresh ds) h :=
  Hb fun items h => Hb fun ds h => Iff.rfl
theorem HbN {α β : Type} {r : Res α} {f : α → Hh → Res β} {K : β → Hh → Prop} {K' : α → Hh → Prop} (e : ∀ a h, Holds (f a h) K ↔ K' a h) : Holds (r.bindN f) K ↔ Holds r K' := by
  cases r with
  | ok a h => exact e a h
  | err c h => exact Iff.rfl
  | stuck => exact Iff.rfl
theorem wL2_0 {elt : E} {tg tg2 : Tg} {it2 : It} {acc : List D} {K : List D → Hh → Prop} : wL2 C elt tg tg2 it2 env [] acc h K ↔ K acc h := Iff.rfl
theorem wL2_1 {elt : E} {tg tg2 : Tg} {it2 : It} {d : D} {ds acc : List D} {K : List D → Hh → Prop} : wL2 C elt tg tg2 it2 env (d :: ds) acc h K ↔ bT tg (.d d) env fun env1 => wI C it2 env1 h fun items2 h =>
    wLc C elt tg2 .nil (wipeE env1 (tgIs0 tg2)) items2 acc h fun acc h => wL2 C elt tg tg2 it2 env ds acc h K := by
  show Holds ((l2F C elt tg tg2 it2 env d acc h).bindN _) K ↔ _
  refine (HbN fun a h => Iff.rfl).trans ?_
  unfold l2F
  exact HoV fun env1 => HbN fun items2 h => Iff.rfl
@[simp ↓] theorem wI_enu {e : E} {K : List D → Hh → Prop} : wI C (.enu e) env h K ↔ wW C e env h fun x h => aW x fun p => eN p fun ds => K ds h :=
  Hb fun x h => by
    unfold aW eN
    cases asD x.val with
    | none => exact Iff.rfl
    | some p => cases p <;> exact Iff.rfl
@[simp ↓] theorem wT_e {a : E} {K : Bool → Hh → Prop} : wT C (.e a) env h K ↔ wW C a env h fun x h => vW h x fun p => tr p fun b => K b h :=
  Hb fun x h => HoD fun p => HofO
@[simp ↓] theorem wT_not {a : B} {K : Bool → Hh → Prop} : wT C (.not a) env h K ↔ wT C a env h fun b h => K (!b) h := Hb fun b h => Iff.rfl
@[simp ↓] theorem wT_and {a : Bs} {K : Bool → Hh → Prop} : wT C (.and a) env h K ↔ wAT C a env h K := Iff.rfl
@[simp ↓] theorem wT_or {a : Bs} {K : Bool → Hh → Prop} : wT C (.or a) env h K ↔ wRT C a env h K := Iff.rfl
@[simp ↓] theorem wT_ife {c a b : B} {K : Bool → Hh → Prop} : wT C (.ife c a b) env h K ↔ wT C c env h fun k h => (k = true → wT C a env h K) ∧ (k = false → wT C b env h K) := Hb fun k h => Hif Iff.rfl Iff.rfl
@[simp ↓] theorem wA_1 {a : E} {K : W → Hh → Prop} : wA C (.cons a .nil) env h K ↔ wW C a env h K := Iff.rfl
@[simp ↓] theorem wA_2 {a b : E} {r : Es} {K : W → Hh → Prop} : wA C (.cons a (.cons b r)) env h K ↔ wW C a env h fun x h => bB x fun k => (k = true → wA C (.cons b r) env h K) ∧ (k = false → K (.v (.d (.bl false))) h) :=
  Hb fun x h => HoB fun k => Hif Iff.rfl Iff.rfl
@[simp ↓] theorem wR_1 {a : E} {K : W → Hh → Prop} : wR C (.cons a .nil) env h K ↔ wW C a env h K := Iff.rfl
@[simp ↓] theorem wR_2 {a b : E} {r : Es} {K : W → Hh → Prop} : wR C (.cons a (.cons b r)) env h K ↔ wW C a env h fun x h => bB x fun k => (k = true → K (.v (.d (.bl true))) h) ∧ (k = false → wR C (.cons b r) env h K) :=
  Hb fun x h => HoB fun k => Hif Iff.rfl Iff.rfl
@[simp ↓] theorem wAT_1 {a : B} {K : Bool → Hh → Prop} : wAT C (.cons a .nil) env h K ↔ wT C a env h K := Iff.rfl
@[simp ↓] theorem wAT_2 {a b : B} {r : Bs} {K : Bool → Hh → Prop} : wAT C (.cons a (.cons b r)) env h K ↔ wT C a env h fun k h => (k = true → wAT C (.cons b r) env h K) ∧ (k = false → K false h) :=
  Hb fun k h => Hif Iff.rfl Iff.rfl
@[simp ↓] theorem wRT_1 {a : B} {K : Bool → Hh → Prop} : wRT C (.cons a .nil) env h K ↔ wT C a env h K := Iff.rfl
@[simp ↓] theorem wRT_2 {a b : B} {r : Bs} {K : Bool → Hh → Prop} : wRT C (.cons a (.cons b r)) env h K ↔ wT C a env h fun k h => (k = true → K true h) ∧ (k = false → wRT C (.cons b r) env h K) :=
  Hb fun k h => Hif Iff.rfl Iff.rfl
@[simp ↓] theorem wC_0 {K : Bool → Hh → Prop} : wC C .nil env h K ↔ K true h := Iff.rfl
@[simp ↓] theorem wC_1 {a : B} {K : Bool → Hh → Prop} : wC C (.cons a .nil) env h K ↔ wT C a env h K := Iff.rfl
@[simp ↓] theorem wO_0 {K : Option Int → Hh → Prop} : wO C .nil env h K ↔ K none h := Iff.rfl
@[simp ↓] theorem wO_1 {a : E} {K : Option Int → Hh → Prop} : wO C (.cons a .nil) env h K ↔ wW C a env h fun x h => iW x fun i => K (some i) h :=
  Hb fun x h => HiW fun i => Iff.rfl
@[simp ↓] theorem wL_0 {K : List Val → Hh → Prop} : wL C .nil env h K ↔ K [] h := Iff.rfl
@[simp ↓] theorem wL_1 {a : E} {r : Es} {K : List Val → Hh → Prop} : wL C (.cons a r) env h K ↔ wW C a env h fun x h => wL C r env h fun xs h => K (x.val :: xs) h :=
  Hb fun x h => Hb fun xs h => Iff.rfl
@[simp ↓] theorem wI_seq {e : E} {K : List D → Hh → Prop} : wI C (.seq e) env h K ↔ wW C e env h fun x h => aW x fun p => sQ p fun ds => K ds h :=
  Hb fun x h => HoD fun p => HofO
@[simp ↓] theorem wI_rng1 {e : E} {K : List D → Hh → Prop} : wI C (.rng1 e) env h K ↔ wW C e env h fun x h => iW x fun j => smallI j = true ∧ K (rngL 0 j) h :=
  Hb fun x h => HiW fun i => Hifp Iff.rfl
@[simp ↓] theorem wI_rng2 {a b : E} {K : List D → Hh → Prop} : wI C (.rng2 a b) env h K ↔ wW C a env h fun x h => wW C b env h fun y h => iW x fun i => iW y fun j => (smallI i && smallI j) = true ∧ K (rngL i j) h :=
  Hb fun x h => Hb fun y h => by
    cases x with
    | fresh ds => exact Iff.rfl
    | v x => cases x with
      | ref n => exact Iff.rfl
      | d x => cases x with
        | int i => cases y with
          | fresh ds => exact Iff.rfl
          | v y => cases y with
            | ref n => exact Iff.rfl
            | d y => cases y <;> first | exact Hifp Iff.rfl | exact Iff.rfl
        | _ => exact Iff.rfl
@[simp ↓] theorem wI_zip {a b : E} {K : List D → Hh → Prop} : wI C (.zip a b) env h K ↔ wW C a env h fun x h => wW C b env h fun y h => aW x fun p => aW y fun q => zP p q fun ds => K ds h :=
  Hb fun x h => Hb fun y h => by
    unfold aW
    cases asD x.val <;> cases asD y.val <;> first | exact HofO | exact Iff.rfl
/-- what comes behind a statement -/
def nxt (C : Cfg) (r : Ss) (K : Flow → Hh → Prop) (f : Flow) (h : Hh) : Prop := match f with
  | .next env => wQ C r env h K
  | f => K f h
@[simp ↓] theorem nxt_next {r : Ss} {K : Flow → Hh → Prop} : nxt C r K (.next env) h ↔ wQ C r env h K := Iff.rfl
@[simp ↓] theorem nxt_ret {r : Ss} {K : Flow → Hh → Prop} {v : Val} : nxt C r K (.ret v) h ↔ K (.ret v) h := Iff.rfl
@[simp ↓] theorem nxt_brk {r : Ss} {K : Flow → Hh → Prop} : nxt C r K (.brk env) h ↔ K (.brk env) h := Iff.rfl
@[simp ↓] theorem nxt_cnt {r : Ss} {K : Flow → Hh → Prop} : nxt C r K (.cnt env) h ↔ K (.cnt env) h := Iff.rfl
@[simp ↓] theorem wQ_0 {K : Flow → Hh → Prop} : wQ C .nil env h K ↔ K (.next env) h := Iff.rfl
@[simp ↓] theorem wQ_1 {s : S} {r : Ss} {K : Flow → Hh → Prop} : wQ C (.cons s r) env h K ↔ wS C s env h (nxt C r K) :=
  Hb fun f h => by cases f <;> exact Iff.rfl
@[simp ↓] theorem wS_asg {tg : Tg} {e : E} {K : Flow → Hh → Prop} : wS C (.asg tg e) env h K ↔ wW C e env h fun x h => bT tg x.val env fun env => K (.next env) h :=
  Hb fun x h => (Hb fun env h => Iff.rfl).trans HofO
@[simp ↓] theorem wS_par {is : List Nat} {es : Es} {K : Flow → Hh → Prop} : wS C (.par is es) env h K ↔ wL C es env h fun vs h => is.length ≤ lim ∧ pA is vs env fun env => K (.next env) h :=
  Hb fun vs h => Hifp ((Hb fun env h => Iff.rfl).trans HofO)
@[simp ↓] theorem wS_setix {o i e : E} {K : Flow → Hh → Prop} : wS C (.setix o i e) env h K ↔ wW C e env h fun z h => wW C o env h fun x h => wW C i env h fun y h => rW x fun n => iW y fun k => aW z fun d => gC h n fun ds => iS ds k d fun ds => sC h n (.lst ds) fun h => K (.next env) h :=
  Hb fun z h => Hb fun x h => Hb fun y h => by
    unfold rW iW aW
    cases x with
    | fresh ds => exact Iff.rfl
    | v x => cases x with
      | d x => exact Iff.rfl
      | ref n => cases y with
        | fresh ds => exact Iff.rfl
        | v y => cases y with
          | ref m => exact Iff.rfl
          | d y => cases y with
            | int k =>
              cases asD z.val with
              | none => exact Iff.rfl
              | some d => exact HgC fun ds => HoN fun j => Iff.rfl
            | _ => exact Iff.rfl
@[simp ↓] theorem wS_aug {i : Nat} {o : Op} {e : E} {K : Flow → Hh → Prop} : wS C (.aug i o e) env h K ↔ gV env i fun v => iW (.v v) fun p => wW C e env h fun y h => iW y fun q => sV env i (some (.d (.int (augI o p q)))) fun env => K (.next env) h := by
  show Holds (match env[i]? with
    | some (some (.d (.int p))) => (evW C e env h).bind fun y h => (match y with
      | .v (.d (.int q)) => .ok (.next (env.set i (some (.d (.int (augI o p q)))))) h
      | _ => .stuck)
    | _ => .stuck) K ↔ _
  unfold gV
  cases e0 : env[i]? with
  | none => exact Iff.rfl
  | some u => cases u with
    | none => exact Iff.rfl
    | some v => cases v with
      | ref n => exact Iff.rfl
      | d x => cases x with
        | int p => exact Hb fun y h => HiW fun i => Iff.rfl
        | _ => exact Iff.rfl
@[simp ↓] theorem wS_lots {i j p s q : Nat} {K : Flow → Hh → Prop} : wS C (.lots i j p s q) env h K ↔ gV env p fun v => iW (.v v) fun P => gV env s fun u => iW (.v u) fun S => lotsOk i j p s env.length P S = true ∧ sV env i (some (.d (.lst (lotsD P.toNat (P * S).toNat)))) fun env => sV env j (some (.d (.int (P * S - 1)))) fun env => K (.next env) h := by
  show Holds (match env[p]?, env[s]? with
    | some (some (.d (.int P))), some (some (.d (.int S))) => if lotsOk i j p s env.length P S then .ok (.next ((env.set i (some (.d (.lst (lotsD P.toNat (P * S).toNat))))).set j (some (.d (.int (P * S - 1)))))) h else .stuck
    | _, _ => .stuck) K ↔ _
  unfold gV
  cases e0 : env[p]? with
  | none => exact Iff.rfl
  | some u => cases u with
    | none => exact Iff.rfl
    | some v => cases v with
      | ref n => exact Iff.rfl
      | d x => cases x with
        | int P =>
          cases e1 : env[s]? with
          | none => exact Iff.rfl
          | some u => cases u with
            | none => exact Iff.rfl
            | some v => cases v with
              | ref n => exact Iff.rfl
              | d x => cases x with
                | int S => exact Hifp Iff.rfl
                | _ => exact Iff.rfl
        | _ =>
          cases e1 : env[s]? with
          | none => exact Iff.rfl
          | some u => cases u <;> exact Iff.rfl
@[simp ↓] theorem wS_expr {e : E} {K : Flow → Hh → Prop} : wS C (.expr e) env h K ↔ wW C e env h fun _ h => K (.next env) h := Hb fun x h => Iff.rfl
@[simp ↓] theorem wS_ret {e : E} {K : Flow → Hh → Prop} : wS C (.ret e) env h K ↔ wW C e env h fun x h => K (.ret x.val) h := Hb fun x h => Iff.rfl
@[simp ↓] theorem wS_ife {c : B} {a b : Ss} {K : Flow → Hh → Prop} : wS C (.ife c a b) env h K ↔ wT C c env h fun k h => (k = true → wQ C a env h K) ∧ (k = false → wQ C b env h K) := Hb fun k h => Hif Iff.rfl Iff.rfl
@[simp ↓] theorem wS_for {tg : Tg} {it : It} {b : Ss} {K : Flow → Hh → Prop} : wS C (.for_ tg it b) env h K ↔ wI C it env h fun items h => wFr C tg b items env h K := Hb fun items h => Iff.rfl
@[simp ↓] theorem wS_whl {c : B} {b : Ss} {K : Flow → Hh → Prop} : wS C (.whl c b) env h K ↔ wWh C c b fuel env h K := Iff.rfl
@[simp ↓] theorem wS_brk {K : Flow → Hh → Prop} : wS C .brk env h K ↔ K (.brk env) h := Iff.rfl
@[simp ↓] theorem wS_cnt {K : Flow → Hh → Prop} : wS C .cnt env h K ↔ K (.cnt env) h := Iff.rfl
@[simp ↓] theorem wS_any {K : Flow → Hh → Prop} : wS C .any env h K ↔ False := Iff.rfl
@[simp ↓] theorem wS_pass {K : Flow → Hh → Prop} : wS C .pass env h K ↔ K (.next env) h := Iff.rfl
@[simp ↓] theorem wS_rse {c : Nat} {K : Flow → Hh → Prop} : wS C (.rse c) env h K ↔ False := Iff.rfl
@[simp ↓] theorem wS_frz {i : Nat} {K : Flow → Hh → Prop} : wS C (.frz i) env h K ↔ gV env i fun v => rW (.v v) fun n => gC h n fun ds => sV env i (some (.d (.lst ds))) fun env => sC h n .dead fun h => K (.next env) h := by
  show Holds (match env[i]? with
    | some (some (.ref n)) => (match h[n]? with
      | some (.lst ds) => .ok (.next (env.set i (some (.d (.lst ds))))) (h.set n .dead)
      | _ => .stuck)
    | _ => .stuck) K ↔ _
  unfold gV
  cases e0 : env[i]? with
  | none => exact Iff.rfl
  | some u => cases u with
    | none => exact Iff.rfl
    | some v => cases v with
      | ref n => exact HgC fun ds => Iff.rfl
      | d x => exact Iff.rfl
/-! ### loops -/
theorem wFr_0 {tg : Tg} {b : Ss} {K : Flow → Hh → Prop} : wFr C tg b [] env h K ↔ K (.next env) h := Iff.rfl
/-- what comes behind a turn -/
def trn (C : Cfg) (tg : Tg) (b : Ss) (items : List D) (K : Flow → Hh → Prop) (f : Flow) (h : Hh) : Prop := match f with
  | .next env => wFr C tg b items env h K
  | .cnt env => wFr C tg b items env h K
  | .brk env => K (.next env) h
  | .ret v => K (.ret v) h
@[simp ↓] theorem trn_next {tg : Tg} {b : Ss} {ds : List D} {K : Flow → Hh → Prop} : trn C tg b ds K (.next env) h ↔ wFr C tg b ds env h K := Iff.rfl
@[simp ↓] theorem trn_cnt {tg : Tg} {b : Ss} {ds : List D} {K : Flow → Hh → Prop} : trn C tg b ds K (.cnt env) h ↔ wFr C tg b ds env h K := Iff.rfl
@[simp ↓] theorem trn_brk {tg : Tg} {b : Ss} {ds : List D} {K : Flow → Hh → Prop} : trn C tg b ds K (.brk env) h ↔ K (.next env) h := Iff.rfl
@[simp ↓] theorem trn_ret {tg : Tg} {b : Ss} {ds : List D} {K : Flow → Hh → Prop} {v : Val} : trn C tg b ds K (.ret v) h ↔ K (.ret v) h := Iff.rfl
theorem wFr_1 {tg : Tg} {b : Ss} {d : D} {ds : List D} {K : Flow → Hh → Prop} : wFr C tg b (d :: ds) env h K ↔ bT tg (.d d) env fun env => wQ C b env h (trn C tg b ds K) := by
  refine (Hb (K' := trn C tg b ds K) fun f h => by cases f <;> exact Iff.rfl).trans ?_
  exact HoV fun env => Iff.rfl
theorem wFr_inv {tg : Tg} {b : Ss} (I : List D → Ve → Hh → Prop) {K : Flow → Hh → Prop} {ds : List D} (h0 : I ds env h) (hK : ∀ env h, I [] env h → K (.next env) h)
    (step : ∀ d ds env h, I (d :: ds) env h → bT tg (.d d) env fun env => wQ C b env h fun f h => match f with
      | .next env => I ds env h
      | .cnt env => I ds env h
      | .brk env => K (.next env) h
      | .ret v => K (.ret v) h) : wFr C tg b ds env h K := by
  induction ds generalizing env h with
  | nil => exact hK _ _ h0
  | cons d ds ih =>
    rw [wFr_1]
    have := step d ds env h h0
    unfold bT at this ⊢
    cases e : bindT tg (.d d) env with
    | none => rw [e] at this; exact this
    | some env1 =>
      rw [e] at this
      refine Holds.imp (show Holds _ _ from this) fun f h q => ?_
      cases f with
      | next env => exact ih q
      | cnt env => exact ih q
      | brk env => exact q
      | ret v => exact q
def trw (C : Cfg) (c : B) (b : Ss) (n : Nat) (K : Flow → Hh → Prop) (f : Flow) (h : Hh) : Prop := match f with
  | .next env => wWh C c b n env h K
  | .cnt env => wWh C c b n env h K
  | .brk env => K (.next env) h
  | .ret v => K (.ret v) h
@[simp ↓] theorem trw_next {c : B} {b : Ss} {n : Nat} {K : Flow → Hh → Prop} : trw C c b n K (.next env) h ↔ wWh C c b n env h K := Iff.rfl
@[simp ↓] theorem trw_cnt {c : B} {b : Ss} {n : Nat} {K : Flow → Hh → Prop} : trw C c b n K (.cnt env) h ↔ wWh C c b n env h K := Iff.rfl
@[simp ↓] theorem trw_brk {c : B} {b : Ss} {n : Nat} {K : Flow → Hh → Prop} : trw C c b n K (.brk env) h ↔ K (.next env) h := Iff.rfl
@[simp ↓] theorem trw_ret {c : B} {b : Ss} {n : Nat} {K : Flow → Hh → Prop} {v : Val} : trw C c b n K (.ret v) h ↔ K (.ret v) h := Iff.rfl
theorem wWh_1 {c : B} {b : Ss} {n : Nat} {K : Flow → Hh → Prop} : wWh C c b (n + 1) env h K ↔ wT C c env h fun k h => (k = true → wQ C b env h (trw C c b n K)) ∧ (k = false → K (.next env) h) :=
  Hb fun k h => Hif (Hb fun f h => by cases f <;> exact Iff.rfl) Iff.rfl
theorem wLc_0 {elt : E} {tg : Tg} {c : Bs} {acc : List D} {K : List D → Hh → Prop} : wLc C elt tg c env [] acc h K ↔ K acc h := Iff.rfl
theorem wLc_1 {elt : E} {tg : Tg} {c : Bs} {d : D} {ds acc : List D} {K : List D → Hh → Prop} : wLc C elt tg c env (d :: ds) acc h K ↔ bT tg (.d d) env fun env1 => wC C c env1 h fun k h =>
    (k = true → wW C elt env1 h fun w h => aW w fun x => acc.length < lim ∧ wLc C elt tg c env ds (acc ++ [x]) h K) ∧ (k = false → wLc C elt tg c env ds acc h K) := by
  show Holds ((lcF C elt tg c env d h).bindN _) K ↔ _
  have e : ∀ (r : Res (Option D)) (f : Option D → Hh → Res (List D)), Holds (r.bindN f) K ↔ Holds r fun o h => Holds (f o h) K := fun r f => by cases r <;> exact Iff.rfl
  rw [e]
  unfold lcF
  refine HoV fun env1 => Hb fun k h => Hif (Hb fun w h => HoD fun x => ?_) Iff.rfl
  exact Hifp Iff.rfl
theorem compL_pure {F : D → Hh → Res (Option D)} {h : Hh} (g : D → Option D) : ∀ {items acc : List D}, (∀ d ∈ items, F d h = .ok (g d) h) → acc.length + items.length ≤ lim → compL F items acc h = .ok (acc ++ items.filterMap g) h
  | [], acc, _, _ => by rw [List.filterMap_nil, List.append_nil]; rfl
  | d :: ds, acc, hF, hl => by
    have e0 : compL F (d :: ds) acc h = (F d h).bindN fun o h => match o with
      | some x => if acc.length < lim then compL F ds (acc ++ [x]) h else .stuck
      | none => compL F ds acc h := rfl
    rw [List.length_cons] at *
    rw [e0, hF d List.mem_cons_self, Res.bindN_ok]
    cases e : g d with
    | none =>
      show compL F ds acc h = _
      rw [compL_pure g (fun d hd => hF d (List.mem_cons_of_mem _ hd)) (by omega), List.filterMap_cons, e]
    | some x =>
      show (if acc.length < lim then compL F ds (acc ++ [x]) h else .stuck) = _
      rw [if_pos (by omega), compL_pure g (fun d hd => hF d (List.mem_cons_of_mem _ hd)) (by rw [List.length_append, List.length_singleton]; omega), List.filterMap_cons, e, List.append_assoc]
      rfl
/-- a comprehension, each item by itself -/
theorem wLc_fm {elt : E} {tg : Tg} {c : Bs} {items : List D} {K : List D → Hh → Prop} (g : D → Option D)
    (hF : ∀ d ∈ items, bT tg (.d d) env fun env1 => wC C c env1 h fun k h1 => (k = true → wW C elt env1 h1 fun w h' => aW w fun x => g d = some x ∧ h' = h) ∧ (k = false → g d = none ∧ h1 = h)) (hl : items.length ≤ lim) (q : K (items.filterMap g) h) :
    wLc C elt tg c env items [] h K := by
  refine Holds.of (compL_pure g (fun d hd => ?_) (by simpa using hl)) (by simpa using q)
  refine Holds.eq ?_
  unfold lcF
  refine (HoV fun env1 => Hb fun k h => Hif (Hb fun w h => HoD fun x => Iff.rfl) Iff.rfl).mpr ?_
  have := hF d hd
  unfold bT at this
  cases e : bindT tg (.d d) env with
  | none => rw [e] at this; exact this
  | some env1 =>
    rw [e] at this
    refine Holds.imp (show Holds _ _ from this) fun k h1 z => ⟨fun hk => ?_, fun hk => ?_⟩
    · refine Holds.imp (show Holds _ _ from z.1 hk) fun w h' z => ?_
      unfold aW at z
      cases e2 : asD w.val with
      | none => rw [e2] at z; exact z.elim
      | some x =>
        rw [e2] at z
        exact ⟨by rw [z.1], z.2⟩
    · obtain ⟨z1, z2⟩ := z.2 hk
      exact ⟨by rw [z1], z2⟩
/-- a comprehension that lets nothing in -/
theorem wLc_none {elt : E} {tg : Tg} {c : Bs} {items : List D} {K : List D → Hh → Prop} (hF : ∀ d ∈ items, bT tg (.d d) env fun env1 => wC C c env1 h fun k h1 => k = false ∧ h1 = h) (q : K [] h) :
    wLc C elt tg c env items [] h K := by
  induction items with
  | nil => exact q
  | cons d ds ih =>
    rw [wLc_1]
    have := hF d List.mem_cons_self
    unfold bT at this ⊢
    cases e : bindT tg (.d d) env with
    | none => rw [e] at this; exact this
    | some env1 =>
      rw [e] at this
      refine Holds.imp (show Holds _ _ from this) fun k h1 z => ?_
      obtain ⟨rfl, rfl⟩ := z
      exact ⟨fun z => (by cases z), fun _ => ih fun d hd => hF d (List.mem_cons_of_mem _ hd)⟩
/-- a comprehension of no test, each item by itself -/
theorem wLc_map {elt : E} {tg : Tg} {items : List D} {K : List D → Hh → Prop} (g : D → D) (hF : ∀ d ∈ items, bT tg (.d d) env fun env1 => wW C elt env1 h fun w h' => aW w fun x => x = g d ∧ h' = h) (hl : items.length ≤ lim) (q : K (items.map g) h) : wLc C elt tg .nil env items [] h K := by
  refine Holds.of (compL_pure (fun d => some (g d)) (fun d hd => ?_) (by simpa using hl)) ?_
  · refine Holds.eq ?_
    unfold lcF
    refine (HoV fun env1 => Hb fun k h => Hif (Hb fun w h => HoD fun x => Iff.rfl) Iff.rfl).mpr ?_
    have := hF d hd
    unfold bT at this
    cases e : bindT tg (.d d) env with
    | none => rw [e] at this; exact this
    | some env1 =>
      rw [e] at this
      refine ⟨fun _ => Holds.imp (show Holds _ _ from this) fun w h' z => ?_, fun z => by cases z⟩
      unfold aW at z
      cases e2 : asD w.val with
      | none => rw [e2] at z; exact z.elim
      | some x => rw [e2] at z; exact ⟨by rw [z.1], z.2⟩
  · simpa using q
end
/-! ### values -/
section
variable {h : Hh}
@[simp ↓] theorem opt_someS {α : Type} {a : α} {K : α → Prop} : opt (some a) K ↔ K a := Iff.rfl
@[simp ↓] theorem gV_s {x : Option Val} {xs : Ve} {i : Nat} {K : Val → Prop} : gV (x :: xs) (i + 1) K ↔ gV xs i K := Iff.rfl
@[simp ↓] theorem gV_0 {v : Val} {xs : Ve} {K : Val → Prop} : gV (some v :: xs) 0 K ↔ K v := Iff.rfl
@[simp ↓] theorem sV_s {x : Option Val} {xs : Ve} {i : Nat} {v : Option Val} {K : Ve → Prop} : sV (x :: xs) (i + 1) v K ↔ sV xs i v fun ys => K (x :: ys) := Iff.rfl
@[simp ↓] theorem sV_0 {x : Option Val} {xs : Ve} {v : Option Val} {K : Ve → Prop} : sV (x :: xs) 0 v K ↔ K (v :: xs) := Iff.rfl
@[simp ↓] theorem gC_s {x : Cell} {xs : Hh} {i : Nat} {K : List D → Prop} : gC (x :: xs) (i + 1) K ↔ gC xs i K := Iff.rfl
@[simp ↓] theorem gC_0 {ds : List D} {xs : Hh} {K : List D → Prop} : gC (.lst ds :: xs) 0 K ↔ K ds := Iff.rfl
@[simp ↓] theorem sC_s {x : Cell} {xs : Hh} {i : Nat} {v : Cell} {K : Hh → Prop} : sC (x :: xs) (i + 1) v K ↔ sC xs i v fun ys => K (x :: ys) := Iff.rfl
@[simp ↓] theorem sC_0 {x : Cell} {xs : Hh} {v : Cell} {K : Hh → Prop} : sC (x :: xs) 0 v K ↔ K (v :: xs) := Iff.rfl
@[simp ↓] theorem gC_last {xs : Hh} {ds : List D} {K : List D → Prop} : gC (xs ++ [.lst ds]) xs.length K ↔ K ds := by unfold gC; simp
@[simp ↓] theorem sC_last {xs : Hh} {c d : Cell} {K : Hh → Prop} : sC (xs ++ [c]) xs.length d K ↔ K (xs ++ [d]) := by unfold sC; simp
@[simp ↓] theorem vW_d {p : D} {K : D → Prop} : vW h (.v (.d p)) K ↔ K p := Iff.rfl
@[simp ↓] theorem vW_f {ds : List D} {K : D → Prop} : vW h (.fresh ds) K ↔ K (.lst ds) := Iff.rfl
@[simp ↓] theorem vW_r {n : Nat} {K : D → Prop} : vW h (.v (.ref n)) K ↔ gC h n fun ds => K (.lst ds) := by
  show opt (match h[n]? with
    | some (.lst ds) => some (.lst ds)
    | _ => none) K ↔ _
  unfold gC
  cases h[n]? with
  | none => exact Iff.rfl
  | some c => cases c <;> exact Iff.rfl
@[simp ↓] theorem aW_d {p : D} {K : D → Prop} : aW (.v (.d p)) K ↔ K p := Iff.rfl
@[simp ↓] theorem aW_f {ds : List D} {K : D → Prop} : aW (.fresh ds) K ↔ K (.lst ds) := Iff.rfl
@[simp ↓] theorem iW_i {i : Int} {K : Int → Prop} : iW (.v (.d (.int i))) K ↔ K i := Iff.rfl
@[simp ↓] theorem bB_b {b : Bool} {K : Bool → Prop} : bB (.v (.d (.bl b))) K ↔ K b := Iff.rfl
@[simp ↓] theorem rW_r {n : Nat} {K : Nat → Prop} : rW (.v (.ref n)) K ↔ K n := Iff.rfl
@[simp ↓] theorem fW_f {ds : List D} {K : List D → Prop} : fW (.fresh ds) K ↔ K ds := Iff.rfl
@[simp ↓] theorem aL_0 {K : List D → Prop} : aL [] K ↔ K [] := Iff.rfl
theorem aL_c {v : Val} {vs : List Val} {d : D} (e : asD v = some d) {K : List D → Prop} : aL (v :: vs) K ↔ aL vs fun ds => K (d :: ds) := by
  unfold aL
  rw [asDs, e]
  cases asDs vs <;> exact Iff.rfl
@[simp ↓] theorem aL_d {d : D} {vs : List Val} {K : List D → Prop} : aL (W.val (.v (.d d)) :: vs) K ↔ aL vs fun ds => K (d :: ds) := aL_c rfl
@[simp ↓] theorem aL_d' {d : D} {vs : List Val} {K : List D → Prop} : aL (.d d :: vs) K ↔ aL vs fun ds => K (d :: ds) := aL_c rfl
@[simp ↓] theorem aL_f {ds : List D} {vs : List Val} {K : List D → Prop} : aL (W.val (.fresh ds) :: vs) K ↔ aL vs fun es => K (.lst ds :: es) := aL_c rfl
@[simp ↓] theorem vL_0 {K : List D → Prop} : vL h [] K ↔ K [] := Iff.rfl
theorem vL_c {v : Val} {vs : List Val} {K : List D → Prop} : vL h (v :: vs) K ↔ opt (view h v) fun d => vL h vs fun ds => K (d :: ds) := by
  unfold vL
  rw [views]
  cases view h v <;> cases views h vs <;> exact Iff.rfl
@[simp ↓] theorem vL_w {w : W} {vs : List Val} {K : List D → Prop} : vL h (w.val :: vs) K ↔ vW h w fun d => vL h vs fun ds => K (d :: ds) := vL_c
@[simp ↓] theorem vL_d {d : D} {vs : List Val} {K : List D → Prop} : vL h (.d d :: vs) K ↔ vL h vs fun ds => K (d :: ds) := vL_c
@[simp ↓] theorem vL_r {n : Nat} {vs : List Val} {K : List D → Prop} : vL h (.ref n :: vs) K ↔ gC h n fun es => vL h vs fun ds => K (.lst es :: ds) := vL_c.trans vW_r
@[simp ↓] theorem bT_nm {i : Nat} {v : Val} {env : Ve} {K : Ve → Prop} : bT (.nm i) v env K ↔ sV env i (some v) K := Iff.rfl
@[simp ↓] theorem bT_tp {is : List Nat} {ds : List D} {env : Ve} {K : Ve → Prop} : bT (.tp is) (.d (.tup ds)) env K ↔ pA is (ds.map .d) env K := Iff.rfl
@[simp ↓] theorem pA_0 {env : Ve} {K : Ve → Prop} : pA [] [] env K ↔ K env := Iff.rfl
@[simp ↓] theorem pA_1 {i : Nat} {is : List Nat} {v : Val} {vs : List Val} {env : Ve} {K : Ve → Prop} : pA (i :: is) (v :: vs) env K ↔ sV env i (some v) fun env => pA is vs env K := Iff.rfl
@[simp ↓] theorem sQ_t {ds : List D} {K : List D → Prop} : sQ (.tup ds) K ↔ K ds := Iff.rfl
@[simp ↓] theorem sQ_l {ds : List D} {K : List D → Prop} : sQ (.lst ds) K ↔ K ds := Iff.rfl
@[simp ↓] theorem zP_t {ds es : List D} {K : List D → Prop} : zP (.tup ds) (.tup es) K ↔ K (zipL ds es) := Iff.rfl
@[simp ↓] theorem zP_l {ds es : List D} {K : List D → Prop} : zP (.lst ds) (.lst es) K ↔ K (zipL ds es) := Iff.rfl
@[simp ↓] theorem bn_add {i j : Int} {K : W → Prop} : bn .add (.int i) (.int j) K ↔ K (.v (.d (.int (i + j)))) := Iff.rfl
@[simp ↓] theorem bn_sub {i j : Int} {K : W → Prop} : bn .sub (.int i) (.int j) K ↔ K (.v (.d (.int (i - j)))) := Iff.rfl
theorem opt_if {α : Type} {c : Prop} [Decidable c] {a : α} {K : α → Prop} : opt (if c then some a else none) K ↔ c ∧ K a := by
  by_cases h : c <;> simp [h, opt]
@[simp ↓] theorem bn_mul {i j : Int} {K : W → Prop} : bn .mul (.int i) (.int j) K ↔ mulOk i j = true ∧ K (.v (.d (.int (i * j)))) := opt_if
@[simp ↓] theorem bn_div {i j : Int} {K : W → Prop} : bn .fdiv (.int i) (.int j) K ↔ divOk j = true ∧ K (.v (.d (.int (i / j)))) := opt_if
@[simp ↓] theorem bn_mod {i j : Int} {K : W → Prop} : bn .mod (.int i) (.int j) K ↔ 0 < j ∧ K (.v (.d (.int (i % j)))) := by
  refine opt_if.trans ?_
  rw [decide_eq_true_eq]
@[simp ↓] theorem bn_pow {i j : Int} {K : W → Prop} : bn .pow (.int i) (.int j) K ↔ powOk i j = true ∧ K (.v (.d (.int (i ^ j.toNat)))) := opt_if
@[simp ↓] theorem bn_addT {a b : List D} {K : W → Prop} : bn .add (.tup a) (.tup b) K ↔ a.length + b.length ≤ lim ∧ K (.v (.d (.tup (a ++ b)))) := opt_if
@[simp ↓] theorem bn_addL {a b : List D} {K : W → Prop} : bn .add (.lst a) (.lst b) K ↔ a.length + b.length ≤ lim ∧ K (.fresh (a ++ b)) := opt_if
@[simp ↓] theorem bn_repL {a : List D} {k : Int} {K : W → Prop} : bn .mul (.lst a) (.int k) K ↔ repOk k a.length = true ∧ K (.fresh (List.replicate k.toNat a).flatten) := opt_if
@[simp ↓] theorem cm_lt {i j : Int} {K : Bool → Prop} : cm .lt (.int i) (.int j) K ↔ K (decide (i < j)) := Iff.rfl
@[simp ↓] theorem cm_le {i j : Int} {K : Bool → Prop} : cm .le (.int i) (.int j) K ↔ K (decide (i ≤ j)) := Iff.rfl
@[simp ↓] theorem cm_gt {i j : Int} {K : Bool → Prop} : cm .gt (.int i) (.int j) K ↔ K (decide (j < i)) := Iff.rfl
@[simp ↓] theorem cm_ge {i j : Int} {K : Bool → Prop} : cm .ge (.int i) (.int j) K ↔ K (decide (j ≤ i)) := Iff.rfl
@[simp ↓] theorem cm_eqI {i j : Int} {K : Bool → Prop} : cm .eq (.int i) (.int j) K ↔ K (decide (i = j)) := Iff.rfl
@[simp ↓] theorem cm_neI {i j : Int} {K : Bool → Prop} : cm .ne (.int i) (.int j) K ↔ K (!decide (i = j)) := Iff.rfl
@[simp ↓] theorem cm_eqB {i j : Bool} {K : Bool → Prop} : cm .eq (.bl i) (.bl j) K ↔ K (i == j) := Iff.rfl
@[simp ↓] theorem cm_isN {d : D} {K : Bool → Prop} : cm .isN d .non K ↔ K (match d with | .non => true | _ => false) := Iff.rfl
@[simp ↓] theorem cm_notN {d : D} {K : Bool → Prop} : cm .notN d .non K ↔ K (match d with | .non => false | _ => true) := Iff.rfl
theorem cm_eq {p q : D} {K : Bool → Prop} : cm .eq p q K ↔ (shp 60 p && shp 60 q) = true ∧ K (deq p q) := opt_if
theorem cm_ne {p q : D} {K : Bool → Prop} : cm .ne p q K ↔ (shp 60 p && shp 60 q) = true ∧ K (!deq p q) := opt_if
theorem cm_inT {p : D} {ds : List D} {K : Bool → Prop} : cm .in_ p (.tup ds) K ↔ (flat p && ds.all flat) = true ∧ K (ds.any fun y => deq y p) := opt_if
theorem cm_inL {p : D} {ds : List D} {K : Bool → Prop} : cm .in_ p (.lst ds) K ↔ (flat p && ds.all flat) = true ∧ K (ds.any fun y => deq y p) := opt_if
theorem cm_ninT {p : D} {ds : List D} {K : Bool → Prop} : cm .notIn p (.tup ds) K ↔ (flat p && ds.all flat) = true ∧ K (!ds.any fun y => deq y p) := opt_if
theorem cm_ninL {p : D} {ds : List D} {K : Bool → Prop} : cm .notIn p (.lst ds) K ↔ (flat p && ds.all flat) = true ∧ K (!ds.any fun y => deq y p) := opt_if
@[simp ↓] theorem cm_eqS {x y : Str} {K : Bool → Prop} : cm .eq (.str x) (.str y) K ↔ (shp 60 (.str x) && shp 60 (.str y)) = true ∧ K (decide (x = y)) := opt_if
@[simp ↓] theorem cm_eqL {x y : List D} {K : Bool → Prop} : cm .eq (.lst x) (.lst y) K ↔ (shp 60 (.lst x) && shp 60 (.lst y)) = true ∧ K (deqs x y) := opt_if
@[simp ↓] theorem cm_eqT {x y : List D} {K : Bool → Prop} : cm .eq (.tup x) (.tup y) K ↔ (shp 60 (.tup x) && shp 60 (.tup y)) = true ∧ K (deqs x y) := opt_if
@[simp ↓] theorem tr_b {b : Bool} {K : Bool → Prop} : tr (.bl b) K ↔ K b := Iff.rfl
@[simp ↓] theorem tr_i {i : Int} {K : Bool → Prop} : tr (.int i) K ↔ K (i != 0) := Iff.rfl
@[simp ↓] theorem tr_n {K : Bool → Prop} : tr .non K ↔ K false := Iff.rfl
@[simp ↓] theorem tr_t {ds : List D} {K : Bool → Prop} : tr (.tup ds) K ↔ K (!ds.isEmpty) := Iff.rfl
@[simp ↓] theorem tr_l {ds : List D} {K : Bool → Prop} : tr (.lst ds) K ↔ K (!ds.isEmpty) := Iff.rfl
@[simp ↓] theorem tY_ii {i : Int} {K : Bool → Prop} : tY .int (.int i) K ↔ K true := Iff.rfl
@[simp ↓] theorem tY_ib {i : Int} {K : Bool → Prop} : tY .bool (.int i) K ↔ K false := Iff.rfl
@[simp ↓] theorem tY_is {i : Int} {K : Bool → Prop} : tY .str (.int i) K ↔ K false := Iff.rfl
@[simp ↓] theorem tY_it {i : Int} {K : Bool → Prop} : tY .tup (.int i) K ↔ K false := Iff.rfl
@[simp ↓] theorem tY_il {i : Int} {K : Bool → Prop} : tY .lst (.int i) K ↔ K false := Iff.rfl
@[simp ↓] theorem tY_bi {b : Bool} {K : Bool → Prop} : tY .int (.bl b) K ↔ K true := Iff.rfl
@[simp ↓] theorem tY_bb {b : Bool} {K : Bool → Prop} : tY .bool (.bl b) K ↔ K true := Iff.rfl
@[simp ↓] theorem tY_si {x : Str} {K : Bool → Prop} : tY .int (.str x) K ↔ K false := Iff.rfl
@[simp ↓] theorem tY_sb {x : Str} {K : Bool → Prop} : tY .bool (.str x) K ↔ K false := Iff.rfl
@[simp ↓] theorem tY_ss {x : Str} {K : Bool → Prop} : tY .str (.str x) K ↔ K true := Iff.rfl
@[simp ↓] theorem tY_st {x : Str} {K : Bool → Prop} : tY .tup (.str x) K ↔ K false := Iff.rfl
@[simp ↓] theorem tY_sl {x : Str} {K : Bool → Prop} : tY .lst (.str x) K ↔ K false := Iff.rfl
@[simp ↓] theorem tY_ti {x : List D} {K : Bool → Prop} : tY .int (.tup x) K ↔ K false := Iff.rfl
@[simp ↓] theorem tY_tb {x : List D} {K : Bool → Prop} : tY .bool (.tup x) K ↔ K false := Iff.rfl
@[simp ↓] theorem tY_ts {x : List D} {K : Bool → Prop} : tY .str (.tup x) K ↔ K false := Iff.rfl
@[simp ↓] theorem tY_tt {x : List D} {K : Bool → Prop} : tY .tup (.tup x) K ↔ K true := Iff.rfl
@[simp ↓] theorem tY_tl {x : List D} {K : Bool → Prop} : tY .lst (.tup x) K ↔ K false := Iff.rfl
@[simp ↓] theorem tY_li {x : List D} {K : Bool → Prop} : tY .int (.lst x) K ↔ K false := Iff.rfl
@[simp ↓] theorem tY_lb {x : List D} {K : Bool → Prop} : tY .bool (.lst x) K ↔ K false := Iff.rfl
@[simp ↓] theorem tY_ls {x : List D} {K : Bool → Prop} : tY .str (.lst x) K ↔ K false := Iff.rfl
@[simp ↓] theorem tY_lt {x : List D} {K : Bool → Prop} : tY .tup (.lst x) K ↔ K false := Iff.rfl
@[simp ↓] theorem tY_ll {x : List D} {K : Bool → Prop} : tY .lst (.lst x) K ↔ K true := Iff.rfl
@[simp ↓] theorem bI_lenT {ds : List D} {K : W → Prop} : bI .len [.tup ds] K ↔ K (.v (.d (.int ds.length))) := Iff.rfl
@[simp ↓] theorem bI_lenL {ds : List D} {K : W → Prop} : bI .len [.lst ds] K ↔ K (.v (.d (.int ds.length))) := Iff.rfl
@[simp ↓] theorem bI_lenS {ds : List D} {K : W → Prop} : bI .len [.scr ds] K ↔ K (.v (.d (.int ds.length))) := Iff.rfl
@[simp ↓] theorem bI_abs {i : Int} {K : W → Prop} : bI .abs [.int i] K ↔ K (.v (.d (.int (if i < 0 then -i else i)))) := Iff.rfl
@[simp ↓] theorem bI_int {i : Int} {K : W → Prop} : bI .int [.int i] K ↔ K (.v (.d (.int i))) := Iff.rfl
@[simp ↓] theorem bI_listT {ds : List D} {K : W → Prop} : bI .list [.tup ds] K ↔ K (.fresh ds) := Iff.rfl
@[simp ↓] theorem bI_listL {ds : List D} {K : W → Prop} : bI .list [.lst ds] K ↔ K (.fresh ds) := Iff.rfl
@[simp ↓] theorem bI_listS {ds : List D} {K : W → Prop} : bI .list [.scr ds] K ↔ K (.fresh ds) := Iff.rfl
@[simp ↓] theorem bI_tupT {ds : List D} {K : W → Prop} : bI .tuple [.tup ds] K ↔ K (.v (.d (.tup ds))) := Iff.rfl
@[simp ↓] theorem bI_tupL {ds : List D} {K : W → Prop} : bI .tuple [.lst ds] K ↔ K (.v (.d (.tup ds))) := Iff.rfl
theorem bI_all {bs : List Bool} {ds : List D} {K : W → Prop} (e : blsD ds = some bs) : bI .all [.lst ds] K ↔ K (.v (.d (.bl (bs.all id)))) := by
  show opt ((blsD ds).map _) K ↔ _
  rw [e] <;> exact Iff.rfl
theorem bI_any {bs : List Bool} {ds : List D} {K : W → Prop} (e : blsD ds = some bs) : bI .any [.lst ds] K ↔ K (.v (.d (.bl (bs.any id)))) := by
  show opt ((blsD ds).map _) K ↔ _
  rw [e] <;> exact Iff.rfl
@[simp ↓] theorem bI_max {i j : Int} {K : W → Prop} : bI .max2 [.int i, .int j] K ↔ K (.v (.d (.int (if j > i then j else i)))) := Iff.rfl
@[simp ↓] theorem bI_min {i j : Int} {K : W → Prop} : bI .min2 [.int i, .int j] K ↔ K (.v (.d (.int (if j < i then j else i)))) := Iff.rfl
@[simp ↓] theorem rV_t {ds : List D} {K : W → Prop} : rV (.tup ds) K ↔ K (.v (.d (.tup ds.reverse))) := Iff.rfl
@[simp ↓] theorem rV_l {ds : List D} {K : W → Prop} : rV (.lst ds) K ↔ K (.fresh ds.reverse) := Iff.rfl
@[simp ↓] theorem eN_t {ds : List D} {K : List D → Prop} : eN (.tup ds) K ↔ K (enuL 0 ds) := Iff.rfl
@[simp ↓] theorem eN_l {ds : List D} {K : List D → Prop} : eN (.lst ds) K ↔ K (enuL 0 ds) := Iff.rfl
theorem pP_i {ds : List D} {i : Int} {j : Nat} {K : D → List D → Prop} (hi : i = j) (hj : j < ds.length) (hl : ds.length ≤ 16777216) : pP ds [.d (.int i)] K ↔ K (ds[j]) (ds.eraseIdx j) := by
  subst hi
  unfold pP popD L2.ixN
  have e1 : (decide (-(2 ^ 63) ≤ (j : Int)) && decide ((j : Int) < 2 ^ 63)) = true := by
    rw [Bool.and_eq_true, decide_eq_true_eq, decide_eq_true_eq]; omega
  simp only [e1, if_true]
  rw [if_pos (by omega), if_pos (by omega)]
  simp [hj, opt]
theorem iX_t {ds : List D} {i : Int} {K : D → Prop} : iX (.tup ds) (.int i) K ↔ opt (atD ds i) K := Iff.rfl
theorem iX_l {ds : List D} {i : Int} {K : D → Prop} : iX (.lst ds) (.int i) K ↔ opt (atD ds i) K := Iff.rfl
theorem atD_nat {ds : List D} {n : Nat} (h : n < ds.length) : atD ds (n : Int) = some ds[n] := by
  unfold atD L2.ixN
  rw [if_pos (by omega), if_pos (by omega)]
  simp [h]
theorem iN_nat {n j : Nat} {K : Nat → Prop} (h : j < n) : iN n (j : Int) K ↔ K j := by
  unfold iN L2.ixN
  rw [if_pos (by omega), if_pos (by omega)]
  exact Iff.rfl
@[simp ↓] theorem iX_l0 {d : D} {ds : List D} {K : D → Prop} : iX (.lst (d :: ds)) (.int 0) K ↔ K d := by
  rw [iX_l, show atD (d :: ds) 0 = some d from atD_nat (n := 0) (by simp)]
  exact Iff.rfl
@[simp ↓] theorem iX_t0 {d : D} {ds : List D} {K : D → Prop} : iX (.tup (d :: ds)) (.int 0) K ↔ K d := by
  rw [iX_t, show atD (d :: ds) 0 = some d from atD_nat (n := 0) (by simp)]
  exact Iff.rfl
@[simp ↓] theorem iX_l1 {d e : D} {ds : List D} {K : D → Prop} : iX (.lst (d :: e :: ds)) (.int 1) K ↔ K e := by
  rw [iX_l, show atD (d :: e :: ds) 1 = some e from atD_nat (n := 1) (by simp)]
  exact Iff.rfl
@[simp ↓] theorem iX_t1 {d e : D} {ds : List D} {K : D → Prop} : iX (.tup (d :: e :: ds)) (.int 1) K ↔ K e := by
  rw [iX_t, show atD (d :: e :: ds) 1 = some e from atD_nat (n := 1) (by simp)]
  exact Iff.rfl
@[simp ↓] theorem iX_l2 {d e f : D} {ds : List D} {K : D → Prop} : iX (.lst (d :: e :: f :: ds)) (.int 2) K ↔ K f := by
  rw [iX_l, show atD (d :: e :: f :: ds) 2 = some f from atD_nat (n := 2) (by simp)]
  exact Iff.rfl
@[simp ↓] theorem iX_t2 {d e f : D} {ds : List D} {K : D → Prop} : iX (.tup (d :: e :: f :: ds)) (.int 2) K ↔ K f := by
  rw [iX_t, show atD (d :: e :: f :: ds) 2 = some f from atD_nat (n := 2) (by simp)]
  exact Iff.rfl
@[simp ↓] theorem iX_l3 {d e f g : D} {ds : List D} {K : D → Prop} : iX (.lst (d :: e :: f :: g :: ds)) (.int 3) K ↔ K g := by
  rw [iX_l, show atD (d :: e :: f :: g :: ds) 3 = some g from atD_nat (n := 3) (by simp)]
  exact Iff.rfl
@[simp ↓] theorem iX_t3 {d e f g : D} {ds : List D} {K : D → Prop} : iX (.tup (d :: e :: f :: g :: ds)) (.int 3) K ↔ K g := by
  rw [iX_t, show atD (d :: e :: f :: g :: ds) 3 = some g from atD_nat (n := 3) (by simp)]
  exact Iff.rfl
@[simp ↓] theorem iX_l4 {d e f g p : D} {ds : List D} {K : D → Prop} : iX (.lst (d :: e :: f :: g :: p :: ds)) (.int 4) K ↔ K p := by
  rw [iX_l, show atD (d :: e :: f :: g :: p :: ds) 4 = some p from atD_nat (n := 4) (by simp)]
  exact Iff.rfl
@[simp ↓] theorem iX_t4 {d e f g p : D} {ds : List D} {K : D → Prop} : iX (.tup (d :: e :: f :: g :: p :: ds)) (.int 4) K ↔ K p := by
  rw [iX_t, show atD (d :: e :: f :: g :: p :: ds) 4 = some p from atD_nat (n := 4) (by simp)]
  exact Iff.rfl
@[simp ↓] theorem iX_l5 {d e f g p q : D} {ds : List D} {K : D → Prop} : iX (.lst (d :: e :: f :: g :: p :: q :: ds)) (.int 5) K ↔ K q := by
  rw [iX_l, show atD (d :: e :: f :: g :: p :: q :: ds) 5 = some q from atD_nat (n := 5) (by simp)]
  exact Iff.rfl
@[simp ↓] theorem iX_t5 {d e f g p q : D} {ds : List D} {K : D → Prop} : iX (.tup (d :: e :: f :: g :: p :: q :: ds)) (.int 5) K ↔ K q := by
  rw [iX_t, show atD (d :: e :: f :: g :: p :: q :: ds) 5 = some q from atD_nat (n := 5) (by simp)]
  exact Iff.rfl
@[simp ↓] theorem iS_0 {d x : D} {ds : List D} {K : List D → Prop} : iS (d :: ds) 0 x K ↔ K (x :: ds) := by
  unfold iS
  exact iN_nat (n := (d :: ds).length) (j := 0) (by simp)
@[simp ↓] theorem iS_1 {d e x : D} {ds : List D} {K : List D → Prop} : iS (d :: e :: ds) 1 x K ↔ K (d :: x :: ds) := by
  unfold iS
  exact iN_nat (n := (d :: e :: ds).length) (j := 1) (by simp)
@[simp ↓] theorem iS_2 {d e f x : D} {ds : List D} {K : List D → Prop} : iS (d :: e :: f :: ds) 2 x K ↔ K (d :: e :: x :: ds) := by
  unfold iS
  exact iN_nat (n := (d :: e :: f :: ds).length) (j := 2) (by simp)
@[simp ↓] theorem iS_3 {d e f g x : D} {ds : List D} {K : List D → Prop} : iS (d :: e :: f :: g :: ds) 3 x K ↔ K (d :: e :: f :: x :: ds) := by
  unfold iS
  exact iN_nat (n := (d :: e :: f :: g :: ds).length) (j := 3) (by simp)
@[simp ↓] theorem iS_4 {d e f g p x : D} {ds : List D} {K : List D → Prop} : iS (d :: e :: f :: g :: p :: ds) 4 x K ↔ K (d :: e :: f :: g :: x :: ds) := by
  unfold iS
  exact iN_nat (n := (d :: e :: f :: g :: p :: ds).length) (j := 4) (by simp)
@[simp ↓] theorem iS_5 {d e f g p q x : D} {ds : List D} {K : List D → Prop} : iS (d :: e :: f :: g :: p :: q :: ds) 5 x K ↔ K (d :: e :: f :: g :: p :: x :: ds) := by
  unfold iS
  exact iN_nat (n := (d :: e :: f :: g :: p :: q :: ds).length) (j := 5) (by simp)
end
@[simp] theorem mulOk_l {i j : Int} (h0 : 0 ≤ i) (h1 : i < 18446744073709551616) : mulOk i j = true := by
  unfold mulOk
  simp only [Bool.or_eq_true, decide_eq_true_eq]
  exact .inl (.inl (by omega))
@[simp] theorem mulOk_r {i j : Int} (h0 : 0 ≤ j) (h1 : j < 18446744073709551616) : mulOk i j = true := by
  unfold mulOk
  simp only [Bool.or_eq_true, decide_eq_true_eq]
  exact .inl (.inr (by omega))
theorem log2_lt {n : Nat} (h : n < 2 ^ 8999) : n.log2 < 9000 := by
  by_cases z : n = 0
  · subst z; decide
  · exact (Nat.log2_lt z).mpr (Nat.lt_of_lt_of_le h (Nat.pow_le_pow_right (by decide) (by decide)))
@[simp] theorem divOk_of {j : Int} (h : 0 < j) (h1 : j < 1606938044258990275541962092341162602522202993782792835301376) : divOk j = true := by
  unfold divOk
  rw [decide_eq_true h, Bool.true_and]
  refine decide_eq_true (log2_lt ?_)
  have e : (1606938044258990275541962092341162602522202993782792835301376 : Nat) = 2 ^ 200 := by decide
  have : j.natAbs < 2 ^ 200 := by rw [← e]; omega
  exact Nat.lt_of_lt_of_le this (Nat.pow_le_pow_right (by decide) (by decide))
@[simp] theorem deq_ii {i j : Int} : deq (.int i) (.int j) = decide (i = j) := rfl
@[simp] theorem deq_ss {x y : Str} : deq (.str x) (.str y) = decide (x = y) := rfl
@[simp] theorem deq_bb {x y : Bool} : deq (.bl x) (.bl y) = (x == y) := rfl
@[simp] theorem deq_nn : deq .non .non = true := rfl
@[simp] theorem deq_tt {x y : List D} : deq (.tup x) (.tup y) = deqs x y := rfl
@[simp] theorem deq_ll {x y : List D} : deq (.lst x) (.lst y) = deqs x y := rfl
@[simp] theorem deq_is {i : Int} {x : Str} : deq (.int i) (.str x) = false := rfl
@[simp] theorem deq_si {i : Int} {x : Str} : deq (.str x) (.int i) = false := rfl
@[simp] theorem deqs_nil : deqs [] [] = true := rfl
@[simp] theorem deqs_nc {x : D} {xs : List D} : deqs [] (x :: xs) = false := rfl
@[simp] theorem deqs_cn {x : D} {xs : List D} : deqs (x :: xs) [] = false := rfl
@[simp] theorem deqs_cc {x y : D} {xs ys : List D} : deqs (x :: xs) (y :: ys) = (deq x y && deqs xs ys) := rfl
mutual
theorem deq_refl : ∀ (d : D) (n : Nat), shp n d = true → deq d d = true
  | .non, _, _ => rfl
  | .bl b, _, _ => by simp [deq]
  | .int i, _, _ => by simp [deq]
  | .str x, _, _ => by simp [deq]
  | .tup xs, 0, h => by simp [shp] at h
  | .tup xs, n + 1, h => by rw [deq]; exact deqs_refl xs n (by simpa [shp] using h)
  | .lst xs, 0, h => by simp [shp] at h
  | .lst xs, n + 1, h => by rw [deq]; exact deqs_refl xs n (by simpa [shp] using h)
  | .scr xs, n, h => by cases n <;> simp [shp] at h
  | .fn f, n, h => by cases n <;> simp [shp] at h
theorem deqs_refl : ∀ (xs : List D) (n : Nat), shps n xs = true → deqs xs xs = true
  | [], _, _ => rfl
  | x :: xs, n, h => by
    rw [shps, Bool.and_eq_true] at h
    rw [deqs, deq_refl x n h.1, deqs_refl xs n h.2]
    rfl
end
theorem shps_mem : ∀ {xs : List D} {n : Nat} {x : D}, shps n xs = true → x ∈ xs → shp n x = true
  | y :: ys, n, x, h, hm => by
    rw [shps, Bool.and_eq_true] at h
    rcases List.mem_cons.mp hm with rfl | hm
    · exact h.1
    · exact shps_mem h.2 hm
theorem zipL_mem : ∀ {xs : List D} {d : D}, d ∈ zipL xs xs → ∃ x ∈ xs, d = .tup [x, x]
  | x :: xs, d, h => by
    rw [zipL] at h
    rcases List.mem_cons.mp h with rfl | h
    · exact ⟨x, List.mem_cons_self, rfl⟩
    · obtain ⟨y, hy, e⟩ := zipL_mem h
      exact ⟨y, List.mem_cons_of_mem _ hy, e⟩
  | [], d, h => by simp [zipL] at h
mutual
theorem shp_mono : ∀ (d : D) (n : Nat), shp n d = true → shp (n + 1) d = true
  | .non, _, _ => rfl
  | .bl b, _, _ => rfl
  | .int i, _, _ => rfl
  | .str x, 0, h => by simp [shp] at h
  | .str x, n + 1, h => by simpa [shp] using h
  | .tup xs, 0, h => by simp [shp] at h
  | .tup xs, n + 1, h => by rw [shp] at h ⊢; exact shps_mono xs n h
  | .lst xs, 0, h => by simp [shp] at h
  | .lst xs, n + 1, h => by rw [shp] at h ⊢; exact shps_mono xs n h
  | .scr xs, n, h => by cases n <;> simp [shp] at h
  | .fn f, n, h => by cases n <;> simp [shp] at h
theorem shps_mono : ∀ (xs : List D) (n : Nat), shps n xs = true → shps (n + 1) xs = true
  | [], _, _ => rfl
  | x :: xs, n, h => by
    rw [shps, Bool.and_eq_true] at h ⊢
    exact ⟨shp_mono x n h.1, shps_mono xs n h.2⟩
end
theorem shp_le {d : D} {n m : Nat} (h : shp n d = true) (hm : n ≤ m) : shp m d = true := by
  obtain ⟨k, rfl⟩ := Nat.exists_eq_add_of_le hm
  clear hm
  induction k with
  | zero => exact h
  | succ k ih => exact shp_mono _ _ ih
@[simp] theorem le_lim (n : Nat) : (n ≤ lim) ↔ (n ≤ 16777216) := Iff.rfl
@[simp] theorem lt_lim (n : Nat) : (n < lim) ↔ (n < 16777216) := Iff.rfl
/-! ### a def's end -/
/-- what comes behind a body: keep, the count of the cells at the start -/
def fin (keep : Bool) (n : Nat) (K : Val → Hh → Prop) (f : Flow) (h : Hh) : Prop := match f with
  | .ret v => Holds (leave keep n v h) K
  | .next _ => Holds (leave keep n (.d .non) h) K
  | _ => False
theorem wF_run {C : Cfg} {F : Fn} {vs : List Val} {h : Hh} {K : Val → Hh → Prop} : Holds (runFn C F vs h) K ↔ (F.tr = none ∧ vs.length = F.np) ∧ wQ C F.body (start F vs) h (fin F.keep h.length K) := by
  unfold runFn
  refine Hifp ?_
  unfold wQ
  cases evSs C F.body (start F vs) h with
  | ok f h' => cases f <;> exact Iff.rfl
  | err c h' => exact Iff.rfl
  | stuck => exact Iff.rfl
section
variable {h t u : Hh} {K : Val → Hh → Prop} {n : Nat}
@[simp ↓] theorem fin_keep {v : Val} : fin true n K (.ret v) h ↔ K v h := Iff.rfl
theorem fin_d {x : D} : fin false n K (.ret (.d x)) h ↔ K (.d x) (h.take n) := Iff.rfl
theorem fin_n {env : Ve} : fin false n K (.next env) h ↔ K (.d .non) (h.take n) := Iff.rfl
@[simp ↓] theorem fin_d0 {x : D} : fin false h.length K (.ret (.d x)) h ↔ K (.d x) h := by rw [fin_d, List.take_length]
@[simp ↓] theorem fin_n0 {env : Ve} : fin false h.length K (.next env) h ↔ K (.d .non) h := by rw [fin_n, List.take_length]
theorem take1 {c c' : Cell} : (c' :: t).take (c :: t).length = c' :: t := by simp
@[simp ↓] theorem fin_d1 {x : D} {c c' : Cell} : fin false (c :: t).length K (.ret (.d x)) (c' :: t) ↔ K (.d x) (c' :: t) := by rw [fin_d, take1]
@[simp ↓] theorem fin_n1 {env : Ve} {c c' : Cell} : fin false (c :: t).length K (.next env) (c' :: t) ↔ K (.d .non) (c' :: t) := by rw [fin_n, take1]
@[simp ↓] theorem fin_d1' {x : D} {c' : Cell} : fin false (t.length + 1) K (.ret (.d x)) (c' :: t) ↔ K (.d x) (c' :: t) := fin_d1 (c := c')
@[simp ↓] theorem fin_n1' {env : Ve} {c' : Cell} : fin false (t.length + 1) K (.next env) (c' :: t) ↔ K (.d .non) (c' :: t) := fin_n1 (c := c')
theorem take2 {c c' : Cell} : (c' :: (t ++ u)).take (c :: t).length = c' :: t := by simp
@[simp ↓] theorem fin_d2 {x : D} {c c' : Cell} : fin false (c :: t).length K (.ret (.d x)) (c' :: (t ++ u)) ↔ K (.d x) (c' :: t) := by rw [fin_d, take2]
@[simp ↓] theorem fin_d3 {x : D} : fin false h.length K (.ret (.d x)) (h ++ u) ↔ K (.d x) h := by rw [fin_d, List.take_left]
@[simp ↓] theorem fin_w {keep : Bool} {x : D} : fin keep n K (.ret (W.val (.v (.d x)))) h ↔ fin keep n K (.ret (.d x)) h := Iff.rfl
@[simp ↓] theorem fin_f {keep : Bool} {ds : List D} : fin keep n K (.ret (W.val (.fresh ds))) h ↔ fin keep n K (.ret (.d (.lst ds))) h := Iff.rfl
end
end Ev
set_option linter.all false
set_option maxRecDepth 100000
set_option maxHeartbeats 4000000
/-! Ev15: more lemmas for walks. -/
namespace Ev
open PySem
theorem wF_eq {C : Cfg} {f : Nat} {vs : List Val} {h h' : Hh} {v : Val} (q : wF C f vs h fun v' h'' => v' = v ∧ h'' = h') (K : Val → Hh → Prop) : wF C f vs h K ↔ K v h' := by
  have e : C.call f vs h = .ok v h' := Holds.eq q
  unfold wF
  rw [e]
  exact Iff.rfl
theorem wF_imp {C : Cfg} {f : Nat} {vs : List Val} {h : Hh} {K K' : Val → Hh → Prop} (q : wF C f vs h K) (i : ∀ v h, K v h → K' v h) : wF C f vs h K' := Holds.imp q i
section
variable {C : Cfg} {env : Ve} {h : Hh}
/-- a comprehension over the images of a list -/
theorem wLc_fmA {α : Type} {elt : E} {tg : Tg} {c : Bs} (f : α → D) (g : α → Option D) {K : List D → Hh → Prop} : ∀ (xs : List α) (acc : List D),
    (∀ x ∈ xs, bT tg (.d (f x)) env fun env1 => wC C c env1 h fun k h1 => (k = true → wW C elt env1 h1 fun w h' => aW w fun y => g x = some y ∧ h' = h) ∧ (k = false → g x = none ∧ h1 = h)) → acc.length + xs.length ≤ lim → K (acc ++ xs.filterMap g) h → wLc C elt tg c env (xs.map f) acc h K
  | [], acc, _, _, q => by
    rw [List.map_nil, wLc_0]
    simpa using q
  | x :: xs, acc, hF, hl, q => by
    rw [List.map_cons, wLc_1]
    rw [List.length_cons] at hl
    have h0 := hF x List.mem_cons_self
    have rest : ∀ acc' h1, h1 = h → acc'.length + xs.length ≤ lim → K (acc' ++ xs.filterMap g) h → wLc C elt tg c env (xs.map f) acc' h1 K := fun acc' h1 e l k => by
      rw [e]
      exact wLc_fmA f g xs acc' (fun y hy => hF y (List.mem_cons_of_mem _ hy)) l k
    unfold bT at h0 ⊢
    cases e : bindT tg (.d (f x)) env with
    | none => rw [e] at h0; exact h0
    | some env1 =>
      rw [e] at h0
      refine Holds.imp (show Holds _ _ from h0) fun k h1 z => ⟨fun hk => ?_, fun hk => ?_⟩
      · refine Holds.imp (show Holds _ _ from z.1 hk) fun w h' z => ?_
        unfold aW at z ⊢
        cases e2 : asD w.val with
        | none => rw [e2] at z; exact z.elim
        | some y =>
          rw [e2] at z
          obtain ⟨z1, z2⟩ := z
          show acc.length < lim ∧ _
          refine ⟨by omega, rest _ _ z2 (by rw [List.length_append, List.length_singleton]; omega) ?_⟩
          rw [List.filterMap_cons, z1] at q
          simpa using q
      · obtain ⟨z1, z2⟩ := z.2 hk
        rw [List.filterMap_cons, z1] at q
        exact rest _ _ z2 (by omega) q
theorem wLc_fmM {α : Type} {elt : E} {tg : Tg} {c : Bs} (f : α → D) (g : α → Option D) {K : List D → Hh → Prop} {xs : List α}
    (hF : ∀ x ∈ xs, bT tg (.d (f x)) env fun env1 => wC C c env1 h fun k h1 => (k = true → wW C elt env1 h1 fun w h' => aW w fun y => g x = some y ∧ h' = h) ∧ (k = false → g x = none ∧ h1 = h)) (hl : xs.length ≤ lim) (q : K (xs.filterMap g) h) : wLc C elt tg c env (xs.map f) [] h K :=
  wLc_fmA f g xs [] hF (by simpa using hl) (by simpa using q)
theorem wLc_mapM {α : Type} {elt : E} {tg : Tg} (f : α → D) (g : α → D) {K : List D → Hh → Prop} {xs : List α}
    (hF : ∀ x ∈ xs, bT tg (.d (f x)) env fun env1 => wW C elt env1 h fun w h' => aW w fun y => y = g x ∧ h' = h) (hl : xs.length ≤ lim) (q : K (xs.map g) h) : wLc C elt tg .nil env (xs.map f) [] h K := by
  refine wLc_fmM f (fun x => some (g x)) (fun x hx => ?_) hl (by simpa using q)
  have h0 := hF x hx
  unfold bT at h0 ⊢
  cases e : bindT tg (.d (f x)) env with
  | none => rw [e] at h0; exact h0
  | some env1 =>
    rw [e] at h0
    show wC C .nil env1 h _
    rw [wC_0]
    refine ⟨fun _ => Holds.imp (show Holds _ _ from h0) fun w h' z => ?_, fun z => by cases z⟩
    unfold aW at z ⊢
    cases e2 : asD w.val with
    | none => rw [e2] at z; exact z.elim
    | some y =>
      rw [e2] at z
      obtain ⟨z1, z2⟩ := z
      exact ⟨by rw [z1], z2⟩
/-- a comprehension with a state -/
theorem wLc_inv {elt : E} {tg : Tg} {c : Bs} {K : List D → Hh → Prop} (I : List D → List D → Hh → Prop) {items acc : List D} (h0 : I items acc h) (hK : ∀ acc h, I [] acc h → K acc h)
    (step : ∀ d ds acc h, I (d :: ds) acc h → bT tg (.d d) env fun env1 => wC C c env1 h fun k h1 => (k = true → wW C elt env1 h1 fun w h2 => aW w fun y => acc.length < lim ∧ I ds (acc ++ [y]) h2) ∧ (k = false → I ds acc h1)) : wLc C elt tg c env items acc h K := by
  induction items generalizing acc h with
  | nil => exact hK _ _ h0
  | cons d ds ih =>
    rw [wLc_1]
    have s := step d ds acc h h0
    unfold bT at s ⊢
    cases e : bindT tg (.d d) env with
    | none => rw [e] at s; exact s
    | some env1 =>
      rw [e] at s
      refine Holds.imp (show Holds _ _ from s) fun k h1 z => ⟨fun hk => ?_, fun hk => ih (z.2 hk)⟩
      refine Holds.imp (show Holds _ _ from z.1 hk) fun w h' z => ?_
      unfold aW at z ⊢
      cases e2 : asD w.val with
      | none => rw [e2] at z; exact z.elim
      | some y =>
        rw [e2] at z
        exact ⟨z.1, ih z.2⟩
end
/-! ### cuts, ints, sorted -/
theorem cut_to {ds : List D} {m : Int} (h : 0 ≤ m) : cutD ds none (some m) = ds.take m.toNat := by
  unfold cutD
  show (ds.drop 0).take ((if m < 0 then (m + (ds.length : Int)).toNat else min m.toNat ds.length) - 0) = _
  rw [if_neg (by omega), List.drop_zero, Nat.sub_zero]
  by_cases z : m.toNat ≤ ds.length
  · rw [Nat.min_eq_left z]
  · rw [Nat.min_eq_right (by omega), List.take_of_length_le (Nat.le_refl _), List.take_of_length_le (by omega)]
theorem cut_from {ds : List D} {m : Int} (h : 0 ≤ m) : cutD ds (some m) none = ds.drop m.toNat := by
  unfold cutD
  show (ds.drop (if m < 0 then (m + (ds.length : Int)).toNat else min m.toNat ds.length)).take (ds.length - (if m < 0 then (m + (ds.length : Int)).toNat else min m.toNat ds.length)) = _
  rw [if_neg (by omega)]
  by_cases z : m.toNat ≤ ds.length
  · rw [Nat.min_eq_left z, List.take_of_length_le (by rw [List.length_drop]; exact Nat.le_refl _)]
  · rw [Nat.min_eq_right (by omega), Nat.sub_self, List.take_zero, List.drop_of_length_le (by omega)]
theorem sL_to {ds : List D} {m : Int} {K : W → Prop} (h : 0 ≤ m) : sL (.tup ds) none (some m) K ↔ K (.v (.d (.tup (ds.take m.toNat)))) := by
  show K (.v (.d (.tup (cutD ds none (some m))))) ↔ _
  rw [cut_to h]
theorem sL_from {ds : List D} {m : Int} {K : W → Prop} (h : 0 ≤ m) : sL (.tup ds) (some m) none K ↔ K (.v (.d (.tup (ds.drop m.toNat)))) := by
  show K (.v (.d (.tup (cutD ds (some m) none)))) ↔ _
  rw [cut_from h]
theorem intsD_map : ∀ ds : List Int, intsD (ds.map D.int) = some ds
  | [] => rfl
  | d :: ds => by rw [List.map_cons, intsD, intsD_map ds]; rfl
theorem blsD_true : ∀ {α : Type} (os : List α), blsD (os.map fun _ => D.bl true) = some (os.map fun _ => true)
  | _, [] => rfl
  | _, o :: os => by rw [List.map_cons, blsD, blsD_true os]; rfl
theorem nubI_id : ∀ {ds : List Int}, ds.Nodup → nubI ds = ds
  | [], _ => rfl
  | d :: ds, h => by
    have h' := List.nodup_cons.mp h
    unfold nubI
    rw [if_neg (by simpa using h'.1), nubI_id h'.2]
theorem nS_tup {ns : List Int} {K : W → Prop} (h : ns.length ≤ 4000) : nS (.tup (ns.map D.int)) K ↔ K (.v (.d (.int (nubI ns).length))) := by
  show opt ((intsD (ns.map D.int)).bind fun ns => if ns.length ≤ 4000 then some (W.v (.d (.int (nubI ns).length))) else none) K ↔ _
  rw [intsD_map]
  simp only [Option.bind_some]
  rw [if_pos h]
  exact Iff.rfl
theorem nS_lst {ns : List Int} {K : W → Prop} (h : ns.length ≤ 4000) : nS (.lst (ns.map D.int)) K ↔ K (.v (.d (.int (nubI ns).length))) := by
  show opt ((intsD (ns.map D.int)).bind fun ns => if ns.length ≤ 4000 then some (W.v (.d (.int (nubI ns).length))) else none) K ↔ _
  rw [intsD_map]
  simp only [Option.bind_some]
  rw [if_pos h]
  exact Iff.rfl
theorem bI_sortI {ns : List Int} {K : W → Prop} : bI .sorted [.lst (ns.map D.int)] K ↔ K (.fresh ((sortI ns).map D.int)) := by
  show opt (bSorted [.lst (ns.map D.int)]) K ↔ _
  unfold bSorted
  simp only [intsD_map]
  exact Iff.rfl
theorem tupsD_map : ∀ ts : List (List Int), tupsD (ts.map tupI) = some ts
  | [] => rfl
  | t :: ts => by
    have ih := tupsD_map ts
    rw [List.map_cons]
    show (match intsD (t.map D.int), tupsD (ts.map tupI) with
      | some ns, some ts => some (ns :: ts)
      | _, _ => none) = _
    rw [intsD_map, ih]
theorem bI_sortT {ts : List (List Int)} {l : Nat} {K : W → Prop} (h1 : ts.length ≤ 63) (hl : 1 ≤ l) (hb : ∀ t ∈ ts, t.length = l ∧ ∀ i ∈ t, 0 ≤ i ∧ i < 1000000) : bI .sorted [.lst (ts.map tupI)] K ↔ K (.fresh ((sortC ts).map tupI)) := by
  show opt (bSorted [.lst (ts.map tupI)]) K ↔ _
  cases ts with
  | nil => exact Iff.rfl
  | cons t ts =>
    have e1 : intsD ((t :: ts).map tupI) = none := rfl
    have e2 : tupsOk (t :: ts) = true := by
      rw [List.length_cons] at h1
      have ht := hb t List.mem_cons_self
      show (decide (1 ≤ t.length) && (decide (ts.length < 63) && (t :: ts).all fun u => decide (u.length = t.length) && u.all fun i => decide (0 ≤ i) && decide (i < bnd))) = true
      rw [decide_eq_true (show 1 ≤ t.length by omega), decide_eq_true (show ts.length < 63 by omega), Bool.true_and, Bool.true_and, List.all_eq_true]
      intro u hu
      have := hb u hu
      rw [decide_eq_true (show u.length = t.length by omega), Bool.true_and, List.all_eq_true]
      intro i hi
      have := this.2 i hi
      rw [decide_eq_true this.1, Bool.true_and]
      exact decide_eq_true this.2
    unfold bSorted
    simp only [e1, tupsD_map, e2, if_true]
    exact Iff.rfl
/-! ### items from the end -/
theorem atD_m1 {ds : List D} {d : D} : atD (ds ++ [d]) (-1) = some d := by
  unfold atD L2.ixN
  rw [if_neg (by omega), if_pos (by simp; omega)]
  simp
  rw [show (-1 + ((ds.length : Int) + 1)).toNat = ds.length by omega]
  simp
theorem atD_m2 {ds : List D} {d e : D} : atD (ds ++ [d, e]) (-2) = some d := by
  unfold atD L2.ixN
  rw [if_neg (by omega), if_pos (by simp; omega)]
  simp
  rw [show (-2 + ((ds.length : Int) + 2)).toNat = ds.length by omega]
  simp
@[simp ↓] theorem zP_m {ds es : List D} {K : List D → Prop} : zP (.tup ds) (.lst es) K ↔ K (zipL ds es) := Iff.rfl
@[simp ↓] theorem bI_str {i : Int} {K : W → Prop} : bI .str [.int i] K ↔ i.natAbs.log2 < 1920 ∧ K (.v (.d (.str (toString i)))) := opt_if
@[simp ↓] theorem bn_repT {a : List D} {k : Int} {K : W → Prop} : bn .mul (.tup a) (.int k) K ↔ (2 ≤ k ∧ k ≤ 1000 ∧ a.length ≤ 1000) ∧ K (.v (.d (.tup (List.replicate k.toNat a).flatten))) := by
  refine opt_if.trans ?_
  rw [decide_eq_true_eq]
theorem cX_cnt {ns : List Int} {k : Int} {K : D → Prop} : cX false (.lst (ns.map D.int)) k K ↔ K (.int (ns.count k : Nat)) := by
  show opt (cntD false (ns.map D.int) k) K ↔ _
  unfold cntD
  rw [intsD_map]
  exact Iff.rfl
theorem cX_idx {ns : List Int} {k : Int} (h : k ∈ ns) {K : D → Prop} : cX true (.lst (ns.map D.int)) k K ↔ K (.int (ns.idxOf k : Nat)) := by
  show opt (cntD true (ns.map D.int) k) K ↔ _
  unfold cntD
  rw [intsD_map]
  simp only [Option.bind_some, if_true]
  rw [if_pos h]
  exact Iff.rfl
@[simp ↓] theorem cm_isBB {a b : Bool} {K : Bool → Prop} : cm .isB (.bl a) (.bl b) K ↔ K (a == b) := Iff.rfl
@[simp ↓] theorem cm_notBB {a b : Bool} {K : Bool → Prop} : cm .notB (.bl a) (.bl b) K ↔ K (!(a == b)) := Iff.rfl
theorem wW_con_neg {C : Cfg} {env : Ve} {h : Hh} {i : Int} {K : W → Hh → Prop} : wW C (.neg (.con (.int i))) env h K ↔ K (.v (.d (.int (-i)))) h := Iff.rfl
end Ev
/-! the table of law_k56_whole_asked_deals, printed by gen.py -/
namespace Lw
open PySem PySem.Spec PyProof.Rows L2 Ev
def top (i : Nat) : Stmt := PySem.Challenge.pw_decktold_k56_whole_asked_deals.main.body.getD i (.Pass ⟨0, 0, 0, 0⟩)
def b_is_whole : Ss := .cons (.ret (.and (.cons (.isi .int (.var 0)) (.cons (.not (.isi .bool (.var 0))) (.cons (.chain .le .le (.var 1) (.var 0) (.var 2)) .nil)))))
  .nil
abbrev F_is_whole : Fn := ⟨3, 3, b_is_whole, false, none⟩
def b_need_whole : Ss := .cons (.ife (.not (.e (.call 0 (.cons (.var 0) (.cons (.var 1) (.cons (.var 2) .nil)))))) (.cons (.rse 0)
  .nil) .nil)
  .nil
abbrev F_need_whole : Fn := ⟨3, 3, b_need_whole, false, none⟩
def b_is_tuple_of : Ss := .cons (.ret (.and (.cons (.isi .tup (.var 0)) (.cons (.chain .le .le (.var 1) (.bi .len (.cons (.var 0) .nil)) (.var 2)) .nil))))
  .nil
abbrev F_is_tuple_of : Fn := ⟨3, 3, b_is_tuple_of, false, none⟩
def b_need_deal : Ss := .cons (.expr (.call 1 (.cons (.var 0) (.cons (.con (.int 2)) (.cons (.glb 0) .nil)))))
  (.cons (.expr (.call 1 (.cons (.var 1) (.cons (.con (.int 1)) (.cons (.glb 1) .nil)))))
  .nil)
abbrev F_need_deal : Fn := ⟨2, 2, b_need_deal, false, none⟩
def b_need_choices : Ss := .cons (.expr (.call 3 (.cons (.var 0) (.cons (.var 1) .nil))))
  (.cons (.ife (.or (.cons (.not (.e (.call 2 (.cons (.var 2) (.cons (.con (.int 0)) (.cons (.glb 2) .nil)))))) (.cons (.not (.e (.bi .all (.cons (.lc (.call 0 (.cons (.var 3) (.cons (.con (.int 0)) (.cons (.bin .sub (.var 0) (.con (.int 1))) .nil)))) (.nm 3) (.seq (.var 2)) .nil [3]) .nil)))) .nil))) (.cons (.rse 1)
  .nil) .nil)
  .nil)
abbrev F_need_choices : Fn := ⟨3, 4, b_need_choices, false, none⟩
def b_power_of : Ss := .cons (.asg (.nm 2) (.con (.int 1)))
  (.cons (.for_ (.nm 3) (.rng1 (.var 1)) (.cons (.asg (.nm 2) (.bin .mul (.var 2) (.var 0)))
  .nil))
  (.cons (.ret (.var 2))
  .nil))
abbrev F_power_of : Fn := ⟨2, 4, b_power_of, false, none⟩
def b_number_of : Ss := .cons (.asg (.nm 2) (.con (.int 0)))
  (.cons (.for_ (.nm 3) (.seq (.rev (.var 1))) (.cons (.asg (.nm 2) (.bin .add (.bin .mul (.var 2) (.var 0)) (.var 3)))
  .nil))
  (.cons (.ret (.var 2))
  .nil))
abbrev F_number_of : Fn := ⟨2, 4, b_number_of, false, none⟩
def b_place_in : Ss := .cons (.ret (.bin .fdiv (.bin .add (.var 3) (.bin .mul (.bin .mul (.var 0) (.var 1)) (.call 6 (.cons (.var 0) (.cons (.var 2) .nil))))) (.call 5 (.cons (.var 0) (.cons (.bi .len (.cons (.var 2) .nil)) .nil)))))
  .nil
abbrev F_place_in : Fn := ⟨4, 4, b_place_in, false, none⟩
def b_told_in : Ss := .cons (.par [3, 4] (.cons (.call 7 (.cons (.var 0) (.cons (.var 1) (.cons (.var 2) (.cons (.con (.int 0)) .nil))))) (.cons (.call 7 (.cons (.var 0) (.cons (.var 1) (.cons (.var 2) (.cons (.bin .sub (.bin .mul (.var 0) (.var 1)) (.con (.int 1))) .nil))))) .nil)))
  (.cons (.ret (.ife (.e (.cmp .eq (.var 3) (.var 4))) (.var 3) (.con (.non))))
  .nil)
abbrev F_told_in : Fn := ⟨3, 5, b_told_in, false, none⟩
def b_asked_place : Ss := .cons (.expr (.call 4 (.cons (.var 0) (.cons (.var 1) (.cons (.var 2) .nil)))))
  (.cons (.expr (.call 1 (.cons (.var 3) (.cons (.con (.int 0)) (.cons (.bin .sub (.bin .mul (.var 0) (.var 1)) (.con (.int 1))) .nil)))))
  (.cons (.ret (.call 7 (.cons (.var 0) (.cons (.var 1) (.cons (.var 2) (.cons (.var 3) .nil))))))
  .nil))
abbrev F_asked_place : Fn := ⟨4, 4, b_asked_place, false, none⟩
def b_asked_places : Ss := .cons (.expr (.call 4 (.cons (.var 0) (.cons (.var 1) (.cons (.var 2) .nil)))))
  (.cons (.ret (.tup (.cons (.call 7 (.cons (.var 0) (.cons (.var 1) (.cons (.var 2) (.cons (.con (.int 0)) .nil))))) (.cons (.call 7 (.cons (.var 0) (.cons (.var 1) (.cons (.var 2) (.cons (.bin .sub (.bin .mul (.var 0) (.var 1)) (.con (.int 1))) .nil))))) .nil))))
  .nil)
abbrev F_asked_places : Fn := ⟨3, 3, b_asked_places, false, none⟩
def b_told_place : Ss := .cons (.expr (.call 4 (.cons (.var 0) (.cons (.var 1) (.cons (.var 2) .nil)))))
  (.cons (.ret (.call 8 (.cons (.var 0) (.cons (.var 1) (.cons (.var 2) .nil)))))
  .nil)
abbrev F_told_place : Fn := ⟨3, 3, b_told_place, false, none⟩
def b_parted_cards : Ss := .cons (.expr (.call 4 (.cons (.var 0) (.cons (.var 1) (.cons (.var 2) .nil)))))
  (.cons (.ret (.ife (.e (.cmp .isN (.call 8 (.cons (.var 0) (.cons (.var 1) (.cons (.var 2) .nil)))) (.con (.non)))) (.tup (.cons (.con (.int 0)) (.cons (.bin .sub (.bin .mul (.var 0) (.var 1)) (.con (.int 1))) .nil))) (.con (.non))))
  .nil)
abbrev F_parted_cards : Fn := ⟨3, 3, b_parted_cards, false, none⟩
def b_are_parted : Ss := .cons (.expr (.call 4 (.cons (.var 0) (.cons (.var 1) (.cons (.var 2) .nil)))))
  (.cons (.asg (.nm 4) (.bin .sub (.bin .mul (.var 0) (.var 1)) (.con (.int 1))))
  (.cons (.ife (.or (.cons (.not (.e (.call 2 (.cons (.var 3) (.cons (.con (.int 2)) (.cons (.con (.int 2)) .nil)))))) (.cons (.not (.e (.call 0 (.cons (.ix (.var 3) (.con (.int 0))) (.cons (.con (.int 0)) (.cons (.var 4) .nil)))))) (.cons (.not (.e (.call 0 (.cons (.ix (.var 3) (.con (.int 1))) (.cons (.con (.int 0)) (.cons (.var 4) .nil)))))) .nil)))) (.cons (.ret (.con (.bl false)))
  .nil) .nil)
  (.cons (.asg (.tp [5, 6]) (.var 3))
  (.cons (.ret (.and (.cons (.cmp .lt (.var 5) (.var 6)) (.cons (.cmp .ne (.call 7 (.cons (.var 0) (.cons (.var 1) (.cons (.var 2) (.cons (.var 5) .nil))))) (.call 7 (.cons (.var 0) (.cons (.var 1) (.cons (.var 2) (.cons (.var 6) .nil)))))) .nil))))
  .nil))))
abbrev F_are_parted : Fn := ⟨4, 7, b_are_parted, false, none⟩
def b_fewest_deals : Ss := .cons (.expr (.call 3 (.cons (.var 0) (.cons (.var 1) .nil))))
  (.cons (.asg (.nm 2) (.con (.int 0)))
  (.cons (.whl (.e (.cmp .lt (.call 5 (.cons (.var 0) (.cons (.var 2) .nil))) (.bin .mul (.var 0) (.var 1)))) (.cons (.asg (.nm 2) (.bin .add (.var 2) (.con (.int 1))))
  .nil))
  (.cons (.ret (.var 2))
  .nil)))
abbrev F_fewest_deals : Fn := ⟨2, 3, b_fewest_deals, false, none⟩
def b_choices_for : Ss := .cons (.expr (.call 3 (.cons (.var 0) (.cons (.var 1) .nil))))
  (.cons (.expr (.call 1 (.cons (.var 2) (.cons (.con (.int 0)) (.cons (.glb 2) .nil)))))
  (.cons (.expr (.call 1 (.cons (.var 3) (.cons (.con (.int 0)) (.cons (.bin .sub (.bin .mul (.var 0) (.var 1)) (.con (.int 1))) .nil)))))
  (.cons (.par [4, 5] (.cons (.call 5 (.cons (.var 0) (.cons (.var 2) .nil))) (.cons (.bin .mul (.var 0) (.var 1)) .nil)))
  (.cons (.par [6, 7] (.cons (.neg (.bin .fdiv (.bin .mul (.neg (.var 3)) (.var 4)) (.var 5))) (.cons (.tup .nil) .nil)))
  (.cons (.for_ (.nm 8) (.rng1 (.var 2)) (.cons (.par [7, 6] (.cons (.bin .add (.var 7) (.tup (.cons (.bin .mod (.var 6) (.var 0)) .nil))) (.cons (.bin .fdiv (.var 6) (.var 0)) .nil)))
  .nil))
  (.cons (.ret (.ife (.e (.cmp .eq (.call 8 (.cons (.var 0) (.cons (.var 1) (.cons (.var 7) .nil)))) (.var 3))) (.var 7) (.con (.non))))
  .nil))))))
abbrev F_choices_for : Fn := ⟨4, 9, b_choices_for, false, none⟩
def b__law_cup : Ss := .cons (.asg (.nm 1) (.bi .abs (.cons (.ix (.bin .add (.bi .list (.cons (.var 0) .nil)) (.lst (.cons (.con (.int 0)) .nil))) (.con (.int 0))) .nil)))
  (.cons (.ret (.mk (.lst (.cons (.ife (.e (.cmp .ge (.var 1) (.bin .pow (.con (.int 10)) (.con (.int 18))))) (.bin .fdiv (.var 1) (.con (.int 107))) (.con (.int 0))) (.cons (.bin .add (.bin .mod (.bi .int (.cons (.bin .add (.bin .mul (.var 1) (.con (.int 353))) (.con (.int 5101))) .nil)) (.con (.int 2004129359))) (.con (.int 211))) .nil)))))
  .nil)
abbrev F__law_cup : Fn := ⟨1, 2, b__law_cup, true, none⟩
def b__law_roll : Ss := .cons (.ife (.e (.cmp .gt (.ix (.var 0) (.con (.int 0))) (.con (.int 0)))) (.cons (.asg (.nm 2) (.bin .mod (.bi .int (.cons (.ix (.var 0) (.con (.int 0))) .nil)) (.var 1)))
  (.cons (.setix (.var 0) (.con (.int 0)) (.bin .fdiv (.ix (.var 0) (.con (.int 0))) (.var 1)))
  (.cons (.ret (.var 2))
  .nil))) .nil)
  (.cons (.setix (.var 0) (.con (.int 1)) (.bin .mod (.bi .int (.cons (.bin .add (.bin .mul (.ix (.var 0) (.con (.int 1))) (.con (.int 30203))) (.con (.int 8803))) .nil)) (.con (.int 2147483543))))
  (.cons (.asg (.nm 3) (.bin .mod (.bi .int (.cons (.bin .mul (.ix (.var 0) (.con (.int 1))) (.bin .add (.ix (.var 0) (.con (.int 1))) (.con (.int 281)))) .nil)) (.con (.int 2147483587))))
  (.cons (.ret (.bin .mod (.bi .int (.cons (.bin .fdiv (.var 3) (.con (.int 877))) .nil)) (.var 1)))
  .nil)))
abbrev F__law_roll : Fn := ⟨2, 4, b__law_roll, false, none⟩
def b__law_some : Ss := .cons (.ret (.ix (.var 1) (.call 17 (.cons (.var 0) (.cons (.bi .len (.cons (.var 1) .nil)) .nil)))))
  .nil
abbrev F__law_some : Fn := ⟨2, 2, b__law_some, false, none⟩
def b__law_sort : Ss := .cons (.ife (.or (.cons (.e (.cmp .isN (.var 0) (.con (.non)))) (.cons (.e (.isi .bool (.var 0))) .nil))) (.cons (.ret (.ife (.e (.cmp .isN (.var 0) (.con (.non)))) (.con (.int 0)) (.con (.int 1))))
  .nil) .nil)
  (.cons (.ife (.or (.cons (.e (.isi .int (.var 0))) (.cons (.e (.isi .str (.var 0))) .nil))) (.cons (.ret (.ife (.e (.isi .int (.var 0))) (.con (.int 2)) (.con (.int 3))))
  .nil) .nil)
  (.cons (.ret (.ife (.e (.isi .tup (.var 0))) (.con (.int 4)) (.ife (.e (.isi .lst (.var 0))) (.con (.int 5)) (.con (.int 6)))))
  .nil))
abbrev F__law_sort : Fn := ⟨1, 1, b__law_sort, false, none⟩
def b__law_like : Ss := .cons (.asg (.nm 2) (.call 19 (.cons (.var 1) .nil)))
  (.cons (.ife (.or (.cons (.e (.cmp .ne (.call 19 (.cons (.var 0) .nil)) (.var 2))) (.cons (.e (.cmp .eq (.var 2) (.con (.int 6)))) .nil))) (.cons (.ret (.con (.bl false)))
  .nil) .nil)
  (.cons (.ife (.e (.cmp .in_ (.var 2) (.tup (.cons (.con (.int 4)) (.cons (.con (.int 5)) .nil))))) (.cons (.ret (.and (.cons (.cmp .eq (.bi .len (.cons (.var 0) .nil)) (.bi .len (.cons (.var 1) .nil))) (.cons (.cmp .eq (.lc (.con (.int 1)) (.tp [3, 4]) (.zip (.var 0) (.var 1)) (.cons (.not (.e (.call 20 (.cons (.var 3) (.cons (.var 4) .nil))))) .nil) [3, 4]) (.lst .nil)) .nil))))
  .nil) .nil)
  (.cons (.ret (.cmp .eq (.var 0) (.var 1)))
  .nil)))
abbrev F__law_like : Fn := ⟨2, 5, b__law_like, false, none⟩
def b__law_bent : Ss := .cons (.ife (.and (.cons (.e (.isi .tup (.var 1))) (.cons (.e (.cmp .ne (.var 1) (.tup .nil))) (.cons (.e (.cmp .gt (.call 17 (.cons (.var 0) (.cons (.con (.int 4)) .nil))) (.con (.int 0)))) .nil)))) (.cons (.asg (.nm 2) (.call 17 (.cons (.var 0) (.cons (.bi .len (.cons (.var 1) .nil)) .nil))))
  (.cons (.ret (.bin .add (.bin .add (.sl (.var 1) .nil (.cons (.var 2) .nil)) (.tup (.cons (.call 21 (.cons (.var 0) (.cons (.ix (.var 1) (.var 2)) .nil))) .nil))) (.sl (.var 1) (.cons (.bin .add (.var 2) (.con (.int 1))) .nil) .nil)))
  .nil)) .nil)
  (.cons (.asg (.nm 3) (.call 17 (.cons (.var 0) (.cons (.con (.int 5)) .nil))))
  (.cons (.ife (.e (.isi .tup (.var 1))) (.cons (.asg (.nm 2) (.call 17 (.cons (.var 0) (.cons (.bin .add (.bi .len (.cons (.var 1) .nil)) (.con (.int 1))) .nil))))
  (.cons (.ife (.e (.cmp .eq (.var 3) (.con (.int 0)))) (.cons (.ret (.bi .list (.cons (.var 1) .nil)))
  .nil) .nil)
  (.cons (.ife (.e (.cmp .eq (.var 3) (.con (.int 1)))) (.cons (.ret (.bin .add (.sl (.var 1) .nil (.cons (.var 2) .nil)) (.sl (.var 1) (.cons (.bin .add (.var 2) (.con (.int 1))) .nil) .nil)))
  .nil) .nil)
  (.cons (.ret (.ife (.e (.cmp .eq (.var 3) (.con (.int 2)))) (.bin .add (.bin .add (.sl (.var 1) .nil (.cons (.var 2) .nil)) (.bin .mul (.sl (.var 1) (.cons (.var 2) .nil) (.cons (.bin .add (.var 2) (.con (.int 1))) .nil)) (.con (.int 2)))) (.sl (.var 1) (.cons (.bin .add (.var 2) (.con (.int 1))) .nil) .nil)) (.ife (.e (.cmp .eq (.var 3) (.con (.int 3)))) (.rev (.var 1)) (.con (.non)))))
  .nil)))) .nil)
  (.cons (.ife (.or (.cons (.e (.cmp .isN (.var 1) (.con (.non)))) (.cons (.e (.isi .str (.var 1))) .nil))) (.cons (.ret (.call 18 (.cons (.var 0) (.cons (.lst (.cons (.con (.int 0)) (.cons (.con (.int 1)) (.cons (.tup .nil) (.cons (.con (.str "")) (.cons (.con (.non)) (.cons (.tup (.cons (.con (.str "sign")) .nil)) .nil))))))) .nil))))
  .nil) .nil)
  (.cons (.ret (.call 18 (.cons (.var 0) (.cons (.lst (.cons (.bin .add (.var 1) (.con (.int 1))) (.cons (.bin .sub (.var 1) (.con (.int 1))) (.cons (.neg (.var 1)) (.cons (.cmp .eq (.var 1) (.con (.int 1))) (.cons (.con (.non)) (.cons (.con (.int 0)) (.cons (.bi .str (.cons (.var 1) .nil)) (.cons (.tup (.cons (.var 1) .nil)) .nil))))))))) .nil))))
  .nil))))
abbrev F__law_bent : Fn := ⟨2, 4, b__law_bent, false, none⟩
def b__law_whole : Ss := .cons (.ret (.and (.cons (.cmp .eq (.call 19 (.cons (.var 0) .nil)) (.con (.int 2))) (.cons (.chain .le .le (.var 1) (.var 0) (.var 2)) .nil))))
  .nil
abbrev F__law_whole : Fn := ⟨3, 3, b__law_whole, false, none⟩
def b__law_dealt : Ss := .cons (.lots 4 5 0 1 10)
  (.cons (.asg (.nm 6) (.bin .mod (.bi .int (.cons (.var 3) .nil)) (.var 0)))
  (.cons (.asg (.nm 7) (.lc (.var 9) (.tp [11, 9]) (.enu (.var 4)) (.cons (.e (.cmp .ne (.var 11) (.var 6))) .nil) [11, 9]))
  (.cons (.asg (.nm 8) (.lst .nil))
  (.cons (.for_ (.nm 9) (.seq (.bin .add (.bin .add (.sl (.var 7) .nil (.cons (.var 2) .nil)) (.lst (.cons (.ix (.var 4) (.var 6)) .nil))) (.sl (.var 7) (.cons (.var 2) .nil) .nil))) (.cons (.asg (.nm 8) (.bin .add (.var 8) (.var 9)))
  .nil))
  (.cons (.ret (.cnt true (.var 8) (.var 3)))
  .nil)))))
abbrev F__law_dealt : Fn := ⟨4, 12, b__law_dealt, false, none⟩
def b__law_places : Ss := .cons (.asg (.nm 3) (.rgL false (.rng1 (.bin .mul (.var 0) (.var 1)))))
  (.cons (.for_ (.nm 4) (.seq (.var 2)) (.cons (.asg (.nm 5) (.lc (.call 23 (.cons (.var 0) (.cons (.var 1) (.cons (.var 4) (.cons (.var 6) .nil))))) (.nm 6) (.rng1 (.bin .mul (.var 0) (.var 1))) .nil [6]))
  (.cons (.asg (.nm 3) (.lc (.ix (.var 5) (.var 6)) (.nm 6) (.seq (.var 3)) .nil [6]))
  .nil)))
  (.cons (.ret (.var 3))
  .nil))
abbrev F__law_places : Fn := ⟨3, 7, b__law_places, false, none⟩
def b__law_choices : Ss := .cons (.ret (.bi .tuple (.cons (.lc (.call 17 (.cons (.var 0) (.cons (.var 1) .nil))) (.nm 3) (.rng1 (.call 17 (.cons (.var 0) (.cons (.bin .add (.var 2) (.con (.int 1))) .nil)))) .nil [3]) .nil)))
  .nil
abbrev F__law_choices : Fn := ⟨3, 4, b__law_choices, false, none⟩
def b__law_small_right : Ss := .cons (.par [1, 2] (.cons (.bin .add (.con (.int 2)) (.call 17 (.cons (.var 0) (.cons (.con (.int 4)) .nil)))) (.cons (.bin .add (.con (.int 1)) (.call 17 (.cons (.var 0) (.cons (.con (.int 5)) .nil)))) .nil)))
  (.cons (.asg (.nm 3) (.bin .mul (.var 1) (.var 2)))
  (.cons (.asg (.nm 4) (.call 25 (.cons (.var 0) (.cons (.var 1) (.cons (.con (.int 5)) .nil)))))
  (.cons (.asg (.nm 5) (.call 24 (.cons (.var 1) (.cons (.var 2) (.cons (.var 4) .nil)))))
  (.cons (.par [6, 7] (.cons (.call 17 (.cons (.var 0) (.cons (.var 3) .nil))) (.cons (.ife (.e (.cmp .eq (.bi .min1 (.cons (.var 5) .nil)) (.bi .max1 (.cons (.var 5) .nil)))) (.ix (.var 5) (.con (.int 0))) (.con (.non))) .nil)))
  (.cons (.asg (.nm 8) (.lst (.cons (.call 9 (.cons (.var 1) (.cons (.var 2) (.cons (.var 4) (.cons (.var 6) .nil))))) (.cons (.call 10 (.cons (.var 1) (.cons (.var 2) (.cons (.var 4) .nil)))) (.cons (.call 11 (.cons (.var 1) (.cons (.var 2) (.cons (.var 4) .nil)))) .nil)))))
  (.cons (.ife (.not (.e (.call 20 (.cons (.var 8) (.cons (.lst (.cons (.ix (.var 5) (.var 6)) (.cons (.tup (.cons (.bi .min1 (.cons (.var 5) .nil)) (.cons (.bi .max1 (.cons (.var 5) .nil)) .nil))) (.cons (.var 7) .nil)))) .nil))))) (.cons (.ret (.con (.bl false)))
  .nil) .nil)
  (.cons (.asg (.nm 9) (.call 12 (.cons (.var 1) (.cons (.var 2) (.cons (.var 4) .nil)))))
  (.cons (.ife (.e (.cmp .ne (.cmp .isN (.var 9) (.con (.non))) (.cmp .notN (.var 7) (.con (.non))))) (.cons (.ret (.con (.bl false)))
  .nil) .nil)
  (.cons (.asg (.nm 10) (.lc (.tup (.cons (.call 17 (.cons (.var 0) (.cons (.var 3) .nil))) (.cons (.call 17 (.cons (.var 0) (.cons (.var 3) .nil))) .nil))) (.nm 14) (.rng1 (.con (.int 4))) .nil [14]))
  (.cons (.for_ (.nm 11) (.seq (.bin .add (.var 10) (.lst (.cons (.var 9) (.cons (.call 21 (.cons (.var 0) (.cons (.var 9) .nil))) (.cons (.tup (.cons (.con (.int 0)) (.cons (.bin .sub (.var 3) (.con (.int 1))) .nil))) (.cons (.tup (.cons (.con (.int 0)) (.cons (.var 3) .nil))) (.cons (.tup (.cons (.bin .sub (.var 3) (.con (.int 1))) (.cons (.con (.int 0)) .nil))) (.cons (.con (.non)) (.cons (.tup (.cons (.con (.int 0)) .nil)) .nil)))))))))) (.cons (.asg (.nm 12) (.and (.cons (.cmp .eq (.call 19 (.cons (.var 11) .nil)) (.con (.int 4))) (.cons (.cmp .eq (.bi .len (.cons (.var 11) .nil)) (.con (.int 2))) (.cons (.cmp .eq (.lc (.con (.int 1)) (.nm 15) (.seq (.var 11)) (.cons (.not (.e (.call 22 (.cons (.var 15) (.cons (.con (.int 0)) (.cons (.bin .sub (.var 3) (.con (.int 1))) .nil)))))) .nil) [15]) (.lst .nil)) .nil)))))
  (.cons (.asg (.nm 13) (.and (.cons (.var 12) (.cons (.cmp .lt (.ix (.var 11) (.con (.int 0))) (.ix (.var 11) (.con (.int 1)))) (.cons (.cmp .ne (.ix (.var 5) (.ix (.var 11) (.con (.int 0)))) (.ix (.var 5) (.ix (.var 11) (.con (.int 1))))) .nil)))))
  (.cons (.ife (.not (.e (.call 20 (.cons (.call 13 (.cons (.var 1) (.cons (.var 2) (.cons (.var 4) (.cons (.var 11) .nil))))) (.cons (.var 13) .nil))))) (.cons (.ret (.con (.bl false)))
  .nil) .nil)
  (.cons (.ife (.and (.cons (.e (.call 20 (.cons (.var 11) (.cons (.var 9) .nil)))) (.cons (.e (.cmp .notN (.var 9) (.con (.non)))) (.cons (.not (.e (.var 13))) .nil)))) (.cons (.ret (.con (.bl false)))
  .nil) .nil)
  .nil)))))
  (.cons (.ret (.con (.bl true)))
  .nil)))))))))))
abbrev F__law_small_right : Fn := ⟨1, 16, b__law_small_right, false, none⟩
def b__law_told_right : Ss := .cons (.par [3, 4] (.cons (.con (.int 0)) (.cons (.con (.int 1)) .nil)))
  (.cons (.for_ (.nm 5) (.rng1 (.con (.int 20))) (.cons (.ife (.e (.cmp .lt (.var 4) (.bin .mul (.var 1) (.var 2)))) (.cons (.par [3, 4] (.cons (.bin .add (.var 3) (.con (.int 1))) (.cons (.bin .mul (.var 4) (.var 1)) .nil)))
  .nil) .nil)
  .nil))
  (.cons (.ife (.not (.e (.call 20 (.cons (.call 14 (.cons (.var 1) (.cons (.var 2) .nil))) (.cons (.var 3) .nil))))) (.cons (.ret (.con (.bl false)))
  .nil) .nil)
  (.cons (.par [6, 7] (.cons (.call 17 (.cons (.var 0) (.cons (.bin .mul (.var 1) (.var 2)) .nil))) (.cons (.call 18 (.cons (.var 0) (.cons (.lst (.cons (.con (.int 0)) (.cons (.con (.int 0)) (.cons (.con (.int 1)) .nil)))) .nil))) .nil)))
  (.cons (.asg (.nm 8) (.bin .mul (.var 4) (.ife (.e (.cmp .eq (.var 7) (.con (.int 1)))) (.var 1) (.con (.int 1)))))
  (.cons (.asg (.nm 9) (.call 15 (.cons (.var 1) (.cons (.var 2) (.cons (.bin .add (.var 3) (.var 7)) (.cons (.var 6) .nil))))))
  (.cons (.asg (.nm 10) (.bin .mul (.bin .mul (.neg (.bin .fdiv (.bin .mul (.neg (.var 6)) (.var 8)) (.bin .mul (.var 1) (.var 2)))) (.var 1)) (.var 2)))
  (.cons (.asg (.nm 11) (.cmp .le (.bin .add (.var 10) (.bin .mul (.var 1) (.var 2))) (.bin .mul (.bin .add (.var 6) (.con (.int 1))) (.var 8))))
  (.cons (.ife (.not (.e (.var 11))) (.cons (.ret (.cmp .isN (.var 9) (.con (.non))))
  .nil) .nil)
  (.cons (.ife (.or (.cons (.e (.cmp .isN (.var 9) (.con (.non)))) (.cons (.e (.cmp .ne (.bi .len (.cons (.var 9) .nil)) (.bin .add (.var 3) (.var 7)))) (.cons (.e (.cmp .ne (.lc (.con (.int 1)) (.nm 13) (.seq (.var 9)) (.cons (.not (.e (.call 22 (.cons (.var 13) (.cons (.con (.int 0)) (.cons (.bin .sub (.var 1) (.con (.int 1))) .nil)))))) .nil) [13]) (.lst .nil))) .nil)))) (.cons (.ret (.con (.bl false)))
  .nil) .nil)
  (.cons (.asg (.nm 12) (.bi .sum (.cons (.lc (.bin .mul (.var 13) (.call 28 (.cons (.var 1) (.cons (.var 14) .nil)))) (.tp [14, 13]) (.enu (.var 9)) .nil [14, 13]) .nil)))
  (.cons (.ife (.or (.cons (.e (.cmp .ne (.bin .fdiv (.bin .mul (.bin .mul (.var 12) (.var 1)) (.var 2)) (.var 8)) (.var 6))) (.cons (.e (.cmp .ne (.bin .fdiv (.bin .sub (.bin .add (.bin .mul (.bin .mul (.var 12) (.var 1)) (.var 2)) (.bin .mul (.var 1) (.var 2))) (.con (.int 1))) (.var 8)) (.var 6))) .nil))) (.cons (.ret (.con (.bl false)))
  .nil) .nil)
  (.cons (.ret (.and (.cons (.call 20 (.cons (.call 11 (.cons (.var 1) (.cons (.var 2) (.cons (.var 9) .nil)))) (.cons (.var 6) .nil))) (.cons (.or (.cons (.cmp .eq (.var 3) (.con (.int 1))) (.cons (.cmp .isN (.call 15 (.cons (.var 1) (.cons (.var 2) (.cons (.bin .sub (.var 3) (.con (.int 1))) (.cons (.var 6) .nil))))) (.con (.non))) .nil))) .nil))))
  .nil))))))))))))
abbrev F__law_told_right : Fn := ⟨3, 15, b__law_told_right, false, none⟩
def b__law_power : Ss := .cons (.asg (.nm 2) (.con (.int 1)))
  (.cons (.for_ (.nm 3) (.rng1 (.var 1)) (.cons (.asg (.nm 2) (.bin .mul (.var 2) (.var 0)))
  .nil))
  (.cons (.ret (.var 2))
  .nil))
abbrev F__law_power : Fn := ⟨2, 4, b__law_power, false, none⟩
def b__law_great_right : Ss := .cons (.asg (.tp [1, 2]) (.call 18 (.cons (.var 0) (.cons (.lst (.cons (.tup (.cons (.con (.int 2)) (.cons (.con (.int 8)) .nil))) (.cons (.tup (.cons (.con (.int 3)) (.cons (.con (.int 5)) .nil))) (.cons (.tup (.cons (.con (.int 3)) (.cons (.con (.int 6)) .nil))) (.cons (.tup (.cons (.con (.int 5)) (.cons (.con (.int 4)) .nil))) (.cons (.tup (.cons (.con (.int 10)) (.cons (.con (.int 3)) .nil))) (.cons (.tup (.cons (.con (.int 20)) (.cons (.con (.int 2)) .nil))) (.cons (.tup (.cons (.con (.int 7)) (.cons (.con (.int 4)) .nil))) .nil)))))))) .nil))))
  (.cons (.asg (.nm 3) (.call 28 (.cons (.var 1) (.cons (.bin .sub (.var 2) (.con (.int 1))) .nil))))
  (.cons (.asg (.nm 4) (.call 17 (.cons (.var 0) (.cons (.bin .mul (.var 1) (.var 3)) .nil))))
  (.cons (.asg (.nm 5) (.bi .tuple (.cons (.lc (.bin .mod (.bi .int (.cons (.bin .fdiv (.var 4) (.call 28 (.cons (.var 1) (.cons (.var 11) .nil)))) .nil)) (.var 1)) (.nm 11) (.rng1 (.var 2)) .nil [11]) .nil)))
  (.cons (.asg (.nm 6) (.lst (.cons (.call 15 (.cons (.var 1) (.cons (.var 3) (.cons (.var 2) (.cons (.var 4) .nil))))) (.cons (.call 11 (.cons (.var 1) (.cons (.var 3) (.cons (.var 5) .nil)))) (.cons (.call 14 (.cons (.var 1) (.cons (.var 3) .nil))) (.cons (.call 11 (.cons (.var 1) (.cons (.var 3) (.cons (.sl (.var 5) (.cons (.con (.int 1)) .nil) .nil) .nil)))) .nil))))))
  (.cons (.ife (.not (.e (.call 20 (.cons (.var 6) (.cons (.lst (.cons (.var 5) (.cons (.var 4) (.cons (.var 2) (.cons (.con (.non)) .nil))))) .nil))))) (.cons (.ret (.con (.bl false)))
  .nil) .nil)
  (.cons (.asg (.nm 7) (.bi .tuple (.cons (.lc (.call 17 (.cons (.var 0) (.cons (.con (.int 20)) .nil))) (.nm 12) (.rng1 (.con (.int 20))) .nil [12]) .nil)))
  (.cons (.asg (.nm 8) (.bi .sum (.cons (.lc (.bin .mul (.var 13) (.call 28 (.cons (.con (.int 20)) (.cons (.var 11) .nil)))) (.tp [11, 13]) (.enu (.var 7)) .nil [11, 13]) .nil)))
  (.cons (.par [9, 10] (.cons (.call 17 (.cons (.var 0) (.cons (.con (.int 10000)) .nil))) (.cons (.call 28 (.cons (.con (.int 20)) (.cons (.con (.int 20)) .nil))) .nil)))
  (.cons (.asg (.nm 6) (.lst (.cons (.call 9 (.cons (.con (.int 20)) (.cons (.con (.int 500)) (.cons (.var 7) (.cons (.var 9) .nil))))) (.cons (.call 14 (.cons (.con (.int 20)) (.cons (.con (.int 500)) .nil))) (.cons (.call 14 (.cons (.con (.int 2)) (.cons (.con (.int 500)) .nil))) (.cons (.call 10 (.cons (.con (.int 20)) (.cons (.con (.int 500)) (.cons (.tup .nil) .nil)))) .nil))))))
  (.cons (.ret (.call 20 (.cons (.var 6) (.cons (.lst (.cons (.bin .fdiv (.bin .add (.var 9) (.bin .mul (.con (.int 10000)) (.var 8))) (.var 10)) (.cons (.con (.int 4)) (.cons (.con (.int 10)) (.cons (.tup (.cons (.con (.int 0)) (.cons (.con (.int 9999)) .nil))) .nil))))) .nil))))
  .nil))))))))))
abbrev F__law_great_right : Fn := ⟨1, 14, b__law_great_right, false, none⟩
def b__law_written_right : Ss := .cons (.asg (.nm 0) (.lst (.cons (.call 9 (.cons (.con (.int 3)) (.cons (.con (.int 9)) (.cons (.tup (.cons (.con (.int 1)) (.cons (.con (.int 1)) .nil))) (.cons (.con (.int 26)) .nil))))) (.cons (.call 10 (.cons (.con (.int 3)) (.cons (.con (.int 9)) (.cons (.tup (.cons (.con (.int 1)) (.cons (.con (.int 1)) .nil))) .nil)))) (.cons (.call 11 (.cons (.con (.int 3)) (.cons (.con (.int 9)) (.cons (.tup (.cons (.con (.int 1)) (.cons (.con (.int 1)) (.cons (.con (.int 1)) .nil)))) .nil)))) (.cons (.call 11 (.cons (.con (.int 3)) (.cons (.con (.int 7)) (.cons (.tup (.cons (.con (.int 1)) (.cons (.con (.int 1)) (.cons (.con (.int 1)) .nil)))) .nil)))) (.cons (.call 11 (.cons (.con (.int 3)) (.cons (.con (.int 9)) (.cons (.tup (.cons (.con (.int 1)) (.cons (.con (.int 1)) .nil))) .nil)))) (.cons (.call 14 (.cons (.con (.int 3)) (.cons (.con (.int 9)) .nil))) (.cons (.call 14 (.cons (.con (.int 3)) (.cons (.con (.int 7)) .nil))) .nil)))))))))
  (.cons (.asg (.nm 0) (.bin .add (.var 0) (.lst (.cons (.call 15 (.cons (.con (.int 3)) (.cons (.con (.int 9)) (.cons (.con (.int 3)) (.cons (.con (.int 5)) .nil))))) (.cons (.call 9 (.cons (.con (.int 2)) (.cons (.con (.int 1)) (.cons (.tup .nil) (.cons (.con (.int 1)) .nil))))) (.cons (.call 13 (.cons (.con (.int 3)) (.cons (.con (.int 9)) (.cons (.tup (.cons (.con (.int 1)) (.cons (.con (.int 1)) .nil))) (.cons (.tup (.cons (.con (.int 0)) (.cons (.con (.int 26)) .nil))) .nil))))) (.cons (.call 12 (.cons (.con (.int 3)) (.cons (.con (.int 9)) (.cons (.tup (.cons (.con (.int 1)) (.cons (.con (.int 1)) (.cons (.con (.int 1)) .nil)))) .nil)))) (.cons (.call 15 (.cons (.con (.int 3)) (.cons (.con (.int 9)) (.cons (.con (.int 2)) (.cons (.con (.int 0)) .nil))))) (.cons (.call 14 (.cons (.con (.int 2)) (.cons (.con (.int 1)) .nil))) .nil)))))))))
  (.cons (.asg (.nm 0) (.bin .add (.var 0) (.lst (.cons (.call 15 (.cons (.con (.int 2)) (.cons (.con (.int 1)) (.cons (.con (.int 1)) (.cons (.con (.int 1)) .nil))))) (.cons (.call 15 (.cons (.con (.int 2)) (.cons (.con (.int 1)) (.cons (.con (.int 0)) (.cons (.con (.int 0)) .nil))))) (.cons (.call 13 (.cons (.con (.int 2)) (.cons (.con (.int 1)) (.cons (.tup .nil) (.cons (.tup (.cons (.con (.int 0)) (.cons (.con (.int 1)) .nil))) .nil))))) (.cons (.call 13 (.cons (.con (.int 2)) (.cons (.con (.int 1)) (.cons (.tup .nil) (.cons (.tup (.cons (.con (.bl false)) (.cons (.con (.int 1)) .nil))) .nil))))) (.cons (.call 10 (.cons (.con (.int 3)) (.cons (.con (.int 9)) (.cons (.tup (.cons (.con (.int 2)) (.cons (.con (.int 2)) (.cons (.con (.int 2)) .nil)))) .nil)))) (.cons (.call 12 (.cons (.con (.int 2)) (.cons (.con (.int 1)) (.cons (.tup .nil) .nil)))) .nil)))))))))
  (.cons (.asg (.nm 1) (.lst (.cons (.con (.int 14)) (.cons (.tup (.cons (.con (.int 12)) (.cons (.con (.int 14)) .nil))) (.cons (.con (.int 13)) (.cons (.con (.int 10)) (.cons (.con (.non)) (.cons (.con (.int 3)) (.cons (.con (.int 3)) (.cons (.tup (.cons (.con (.int 2)) (.cons (.con (.int 1)) (.cons (.con (.int 0)) .nil)))) (.cons (.con (.int 1)) (.cons (.con (.bl true)) (.cons (.con (.non)) (.cons (.con (.non)) (.cons (.con (.int 1)) (.cons (.tup (.cons (.con (.int 1)) .nil)) (.cons (.con (.non)) (.cons (.con (.bl true)) (.cons (.con (.bl false)) (.cons (.tup (.cons (.con (.int 26)) (.cons (.con (.int 26)) .nil))) (.cons (.tup (.cons (.con (.int 0)) (.cons (.con (.int 1)) .nil))) .nil)))))))))))))))))))))
  (.cons (.ret (.call 20 (.cons (.var 0) (.cons (.var 1) .nil))))
  .nil))))
abbrev F__law_written_right : Fn := ⟨0, 2, b__law_written_right, false, none⟩
def b_law : Ss := .cons (.asg (.nm 1) (.call 16 (.cons (.var 0) .nil)))
  (.cons (.for_ (.nm 2) (.rng1 (.con (.int 5))) (.cons (.ife (.or (.cons (.not (.e (.call 26 (.cons (.var 1) .nil)))) (.cons (.not (.e (.call 27 (.cons (.var 1) (.cons (.bin .add (.con (.int 2)) (.call 17 (.cons (.var 1) (.cons (.con (.int 19)) .nil)))) (.cons (.bin .add (.con (.int 1)) (.call 17 (.cons (.var 1) (.cons (.con (.int 500)) .nil)))) .nil)))))) .nil))) (.cons (.ret (.con (.bl false)))
  .nil) .nil)
  .nil))
  (.cons (.ret (.and (.cons (.call 29 (.cons (.var 1) .nil)) (.cons (.call 30 .nil) .nil))))
  .nil))
abbrev F_law : Fn := ⟨1, 3, b_law, false, none⟩
def fs : List (Str × Fn) := [(("is_whole" : Str), F_is_whole), (("need_whole" : Str), F_need_whole), (("is_tuple_of" : Str), F_is_tuple_of), (("need_deal" : Str), F_need_deal), (("need_choices" : Str), F_need_choices), (("power_of" : Str), F_power_of), (("number_of" : Str), F_number_of), (("place_in" : Str), F_place_in), (("told_in" : Str), F_told_in), (("asked_place" : Str), F_asked_place), (("asked_places" : Str), F_asked_places), (("told_place" : Str), F_told_place), (("parted_cards" : Str), F_parted_cards), (("are_parted" : Str), F_are_parted), (("fewest_deals" : Str), F_fewest_deals), (("choices_for" : Str), F_choices_for), (("_law_cup" : Str), F__law_cup), (("_law_roll" : Str), F__law_roll), (("_law_some" : Str), F__law_some), (("_law_sort" : Str), F__law_sort), (("_law_like" : Str), F__law_like), (("_law_bent" : Str), F__law_bent), (("_law_whole" : Str), F__law_whole), (("_law_dealt" : Str), F__law_dealt), (("_law_places" : Str), F__law_places), (("_law_choices" : Str), F__law_choices), (("_law_small_right" : Str), F__law_small_right), (("_law_told_right" : Str), F__law_told_right), (("_law_power" : Str), F__law_power), (("_law_great_right" : Str), F__law_great_right), (("_law_written_right" : Str), F__law_written_right), (("law" : Str), F_law)]
def cs : List (Str × D) := [(("PILES" : Str), .int 20), (("SIZE" : Str), .int 500), (("DEALS" : Str), .int 20)]
def T : Tab := ⟨fs, cs, (["isinstance", "bool", "int", "len", "tuple", "all", "range", "abs", "list", "str", "zip", "enumerate", "min", "max", "sum"] : List PySem.Str), (["InvalidNumber", "InvalidWord"] : List PySem.Str), [], [], none⟩
def sts : List Stmt := [top 5, top 6, top 7, top 12, top 13, top 14, top 15, top 16, top 17, top 18, top 19, top 20, top 21, top 22, top 23, top 24, top 26, top 27, top 28, top 29, top 30, top 31, top 32, top 33, top 34, top 35, top 36, top 37, top 38, top 39, top 40, top 41]
def nms : List (List Str × List Str) := [(((["value", "low", "high"] : List PySem.Str)), ((["value", "low", "high"] : List PySem.Str))), (((["value", "low", "high"] : List PySem.Str)), ((["value", "low", "high"] : List PySem.Str))), (((["value", "low", "high"] : List PySem.Str)), ((["value", "low", "high"] : List PySem.Str))), (((["piles", "size"] : List PySem.Str)), ((["piles", "size"] : List PySem.Str))), (((["piles", "size", "choices", "choice"] : List PySem.Str)), ((["piles", "size", "choices"] : List PySem.Str))), (((["piles", "deals", "found", "turn"] : List PySem.Str)), ((["piles", "deals"] : List PySem.Str))), (((["piles", "choices", "found", "choice"] : List PySem.Str)), ((["piles", "choices"] : List PySem.Str))), (((["piles", "size", "choices", "place"] : List PySem.Str)), ((["piles", "size", "choices", "place"] : List PySem.Str))), (((["piles", "size", "choices", "first", "last"] : List PySem.Str)), ((["piles", "size", "choices"] : List PySem.Str))), (((["piles", "size", "choices", "place"] : List PySem.Str)), ((["piles", "size", "choices", "place"] : List PySem.Str))), (((["piles", "size", "choices"] : List PySem.Str)), ((["piles", "size", "choices"] : List PySem.Str))), (((["piles", "size", "choices"] : List PySem.Str)), ((["piles", "size", "choices"] : List PySem.Str))), (((["piles", "size", "choices"] : List PySem.Str)), ((["piles", "size", "choices"] : List PySem.Str))), (((["piles", "size", "choices", "value", "last", "one", "other"] : List PySem.Str)), ((["piles", "size", "choices", "value"] : List PySem.Str))), (((["piles", "size", "found"] : List PySem.Str)), ((["piles", "size"] : List PySem.Str))), (((["piles", "size", "deals", "place", "whole", "cards", "number", "choices", "turn"] : List PySem.Str)), ((["piles", "size", "deals", "place"] : List PySem.Str))), (((["script", "cell"] : List PySem.Str)), ((["script"] : List PySem.Str))), (((["cup", "many", "found", "deep"] : List PySem.Str)), ((["cup", "many"] : List PySem.Str))), (((["cup", "things"] : List PySem.Str)), ((["cup", "things"] : List PySem.Str))), (((["value"] : List PySem.Str)), ((["value"] : List PySem.Str))), (((["one", "other", "sort", "first", "second"] : List PySem.Str)), ((["one", "other"] : List PySem.Str))), (((["cup", "value", "at", "way"] : List PySem.Str)), ((["cup", "value"] : List PySem.Str))), (((["value", "low", "high"] : List PySem.Str)), ((["value", "low", "high"] : List PySem.Str))), (((["piles", "size", "choice", "place", "lots", "card", "own", "rest", "deck", "lot", "pile", "at"] : List PySem.Str)), ((["piles", "size", "choice", "place"] : List PySem.Str))), (((["piles", "size", "choices", "found", "choice", "deal", "place"] : List PySem.Str)), ((["piles", "size", "choices"] : List PySem.Str))), (((["cup", "piles", "most", "deal"] : List PySem.Str)), ((["cup", "piles", "most"] : List PySem.Str))), (((["cup", "piles", "size", "cards", "choices", "places", "place", "due", "told", "pair", "some", "value", "fits", "is_due", "turn", "one"] : List PySem.Str)), ((["cup"] : List PySem.Str))), (((["cup", "piles", "size", "deals", "power", "turn", "place", "more", "whole", "told", "first", "is_there", "number", "choice", "at"] : List PySem.Str)), ((["cup", "piles", "size"] : List PySem.Str))), (((["piles", "times", "found", "turn"] : List PySem.Str)), ((["piles", "times"] : List PySem.Str))), (((["cup", "piles", "long", "size", "place", "digits", "told", "choices", "number", "spot", "whole", "at", "deal", "choice"] : List PySem.Str)), ((["cup"] : List PySem.Str))), (((["told", "due"] : List PySem.Str)), (([] : List PySem.Str))), (((["script", "cup", "turn"] : List PySem.Str)), ((["script"] : List PySem.Str)))]
section
variable {k : Nat} {h : Hh} {K : Val → Hh → Prop}
theorem w_is_whole {a0 a1 a2 : Val} : wF (T.cfg (k + 1)) 0 [a0, a1, a2] h K ↔ wQ (T.cfg k) b_is_whole [some a0, some a1, some a2] h (fin false h.length K) := by
  have e : T.call (k + 1) 0 [a0, a1, a2] h = runFn (T.cfg k) F_is_whole [a0, a1, a2] h := rfl
  exact (iff_of_eq (congrArg (fun r => Holds r K) e)).trans ((wF_run (F := F_is_whole) (vs := [a0, a1, a2])).trans (and_iff_right ⟨rfl, rfl⟩))
theorem w_need_whole {a0 a1 a2 : Val} : wF (T.cfg (k + 1)) 1 [a0, a1, a2] h K ↔ wQ (T.cfg k) b_need_whole [some a0, some a1, some a2] h (fin false h.length K) := by
  have e : T.call (k + 1) 1 [a0, a1, a2] h = runFn (T.cfg k) F_need_whole [a0, a1, a2] h := rfl
  exact (iff_of_eq (congrArg (fun r => Holds r K) e)).trans ((wF_run (F := F_need_whole) (vs := [a0, a1, a2])).trans (and_iff_right ⟨rfl, rfl⟩))
theorem w_is_tuple_of {a0 a1 a2 : Val} : wF (T.cfg (k + 1)) 2 [a0, a1, a2] h K ↔ wQ (T.cfg k) b_is_tuple_of [some a0, some a1, some a2] h (fin false h.length K) := by
  have e : T.call (k + 1) 2 [a0, a1, a2] h = runFn (T.cfg k) F_is_tuple_of [a0, a1, a2] h := rfl
  exact (iff_of_eq (congrArg (fun r => Holds r K) e)).trans ((wF_run (F := F_is_tuple_of) (vs := [a0, a1, a2])).trans (and_iff_right ⟨rfl, rfl⟩))
theorem w_need_deal {a0 a1 : Val} : wF (T.cfg (k + 1)) 3 [a0, a1] h K ↔ wQ (T.cfg k) b_need_deal [some a0, some a1] h (fin false h.length K) := by
  have e : T.call (k + 1) 3 [a0, a1] h = runFn (T.cfg k) F_need_deal [a0, a1] h := rfl
  exact (iff_of_eq (congrArg (fun r => Holds r K) e)).trans ((wF_run (F := F_need_deal) (vs := [a0, a1])).trans (and_iff_right ⟨rfl, rfl⟩))
theorem w_need_choices {a0 a1 a2 : Val} : wF (T.cfg (k + 1)) 4 [a0, a1, a2] h K ↔ wQ (T.cfg k) b_need_choices [some a0, some a1, some a2, none] h (fin false h.length K) := by
  have e : T.call (k + 1) 4 [a0, a1, a2] h = runFn (T.cfg k) F_need_choices [a0, a1, a2] h := rfl
  exact (iff_of_eq (congrArg (fun r => Holds r K) e)).trans ((wF_run (F := F_need_choices) (vs := [a0, a1, a2])).trans (and_iff_right ⟨rfl, rfl⟩))
theorem w_power_of {a0 a1 : Val} : wF (T.cfg (k + 1)) 5 [a0, a1] h K ↔ wQ (T.cfg k) b_power_of [some a0, some a1, none, none] h (fin false h.length K) := by
  have e : T.call (k + 1) 5 [a0, a1] h = runFn (T.cfg k) F_power_of [a0, a1] h := rfl
  exact (iff_of_eq (congrArg (fun r => Holds r K) e)).trans ((wF_run (F := F_power_of) (vs := [a0, a1])).trans (and_iff_right ⟨rfl, rfl⟩))
theorem w_number_of {a0 a1 : Val} : wF (T.cfg (k + 1)) 6 [a0, a1] h K ↔ wQ (T.cfg k) b_number_of [some a0, some a1, none, none] h (fin false h.length K) := by
  have e : T.call (k + 1) 6 [a0, a1] h = runFn (T.cfg k) F_number_of [a0, a1] h := rfl
  exact (iff_of_eq (congrArg (fun r => Holds r K) e)).trans ((wF_run (F := F_number_of) (vs := [a0, a1])).trans (and_iff_right ⟨rfl, rfl⟩))
theorem w_place_in {a0 a1 a2 a3 : Val} : wF (T.cfg (k + 1)) 7 [a0, a1, a2, a3] h K ↔ wQ (T.cfg k) b_place_in [some a0, some a1, some a2, some a3] h (fin false h.length K) := by
  have e : T.call (k + 1) 7 [a0, a1, a2, a3] h = runFn (T.cfg k) F_place_in [a0, a1, a2, a3] h := rfl
  exact (iff_of_eq (congrArg (fun r => Holds r K) e)).trans ((wF_run (F := F_place_in) (vs := [a0, a1, a2, a3])).trans (and_iff_right ⟨rfl, rfl⟩))
theorem w_told_in {a0 a1 a2 : Val} : wF (T.cfg (k + 1)) 8 [a0, a1, a2] h K ↔ wQ (T.cfg k) b_told_in [some a0, some a1, some a2, none, none] h (fin false h.length K) := by
  have e : T.call (k + 1) 8 [a0, a1, a2] h = runFn (T.cfg k) F_told_in [a0, a1, a2] h := rfl
  exact (iff_of_eq (congrArg (fun r => Holds r K) e)).trans ((wF_run (F := F_told_in) (vs := [a0, a1, a2])).trans (and_iff_right ⟨rfl, rfl⟩))
theorem w_asked_place {a0 a1 a2 a3 : Val} : wF (T.cfg (k + 1)) 9 [a0, a1, a2, a3] h K ↔ wQ (T.cfg k) b_asked_place [some a0, some a1, some a2, some a3] h (fin false h.length K) := by
  have e : T.call (k + 1) 9 [a0, a1, a2, a3] h = runFn (T.cfg k) F_asked_place [a0, a1, a2, a3] h := rfl
  exact (iff_of_eq (congrArg (fun r => Holds r K) e)).trans ((wF_run (F := F_asked_place) (vs := [a0, a1, a2, a3])).trans (and_iff_right ⟨rfl, rfl⟩))
theorem w_asked_places {a0 a1 a2 : Val} : wF (T.cfg (k + 1)) 10 [a0, a1, a2] h K ↔ wQ (T.cfg k) b_asked_places [some a0, some a1, some a2] h (fin false h.length K) := by
  have e : T.call (k + 1) 10 [a0, a1, a2] h = runFn (T.cfg k) F_asked_places [a0, a1, a2] h := rfl
  exact (iff_of_eq (congrArg (fun r => Holds r K) e)).trans ((wF_run (F := F_asked_places) (vs := [a0, a1, a2])).trans (and_iff_right ⟨rfl, rfl⟩))
theorem w_told_place {a0 a1 a2 : Val} : wF (T.cfg (k + 1)) 11 [a0, a1, a2] h K ↔ wQ (T.cfg k) b_told_place [some a0, some a1, some a2] h (fin false h.length K) := by
  have e : T.call (k + 1) 11 [a0, a1, a2] h = runFn (T.cfg k) F_told_place [a0, a1, a2] h := rfl
  exact (iff_of_eq (congrArg (fun r => Holds r K) e)).trans ((wF_run (F := F_told_place) (vs := [a0, a1, a2])).trans (and_iff_right ⟨rfl, rfl⟩))
theorem w_parted_cards {a0 a1 a2 : Val} : wF (T.cfg (k + 1)) 12 [a0, a1, a2] h K ↔ wQ (T.cfg k) b_parted_cards [some a0, some a1, some a2] h (fin false h.length K) := by
  have e : T.call (k + 1) 12 [a0, a1, a2] h = runFn (T.cfg k) F_parted_cards [a0, a1, a2] h := rfl
  exact (iff_of_eq (congrArg (fun r => Holds r K) e)).trans ((wF_run (F := F_parted_cards) (vs := [a0, a1, a2])).trans (and_iff_right ⟨rfl, rfl⟩))
theorem w_are_parted {a0 a1 a2 a3 : Val} : wF (T.cfg (k + 1)) 13 [a0, a1, a2, a3] h K ↔ wQ (T.cfg k) b_are_parted [some a0, some a1, some a2, some a3, none, none, none] h (fin false h.length K) := by
  have e : T.call (k + 1) 13 [a0, a1, a2, a3] h = runFn (T.cfg k) F_are_parted [a0, a1, a2, a3] h := rfl
  exact (iff_of_eq (congrArg (fun r => Holds r K) e)).trans ((wF_run (F := F_are_parted) (vs := [a0, a1, a2, a3])).trans (and_iff_right ⟨rfl, rfl⟩))
theorem w_fewest_deals {a0 a1 : Val} : wF (T.cfg (k + 1)) 14 [a0, a1] h K ↔ wQ (T.cfg k) b_fewest_deals [some a0, some a1, none] h (fin false h.length K) := by
  have e : T.call (k + 1) 14 [a0, a1] h = runFn (T.cfg k) F_fewest_deals [a0, a1] h := rfl
  exact (iff_of_eq (congrArg (fun r => Holds r K) e)).trans ((wF_run (F := F_fewest_deals) (vs := [a0, a1])).trans (and_iff_right ⟨rfl, rfl⟩))
theorem w_choices_for {a0 a1 a2 a3 : Val} : wF (T.cfg (k + 1)) 15 [a0, a1, a2, a3] h K ↔ wQ (T.cfg k) b_choices_for [some a0, some a1, some a2, some a3, none, none, none, none, none] h (fin false h.length K) := by
  have e : T.call (k + 1) 15 [a0, a1, a2, a3] h = runFn (T.cfg k) F_choices_for [a0, a1, a2, a3] h := rfl
  exact (iff_of_eq (congrArg (fun r => Holds r K) e)).trans ((wF_run (F := F_choices_for) (vs := [a0, a1, a2, a3])).trans (and_iff_right ⟨rfl, rfl⟩))
theorem w__law_cup {a0 : Val} : wF (T.cfg (k + 1)) 16 [a0] h K ↔ wQ (T.cfg k) b__law_cup [some a0, none] h (fin true h.length K) := by
  have e : T.call (k + 1) 16 [a0] h = runFn (T.cfg k) F__law_cup [a0] h := rfl
  exact (iff_of_eq (congrArg (fun r => Holds r K) e)).trans ((wF_run (F := F__law_cup) (vs := [a0])).trans (and_iff_right ⟨rfl, rfl⟩))
theorem w__law_roll {a0 a1 : Val} : wF (T.cfg (k + 1)) 17 [a0, a1] h K ↔ wQ (T.cfg k) b__law_roll [some a0, some a1, none, none] h (fin false h.length K) := by
  have e : T.call (k + 1) 17 [a0, a1] h = runFn (T.cfg k) F__law_roll [a0, a1] h := rfl
  exact (iff_of_eq (congrArg (fun r => Holds r K) e)).trans ((wF_run (F := F__law_roll) (vs := [a0, a1])).trans (and_iff_right ⟨rfl, rfl⟩))
theorem w__law_some {a0 a1 : Val} : wF (T.cfg (k + 1)) 18 [a0, a1] h K ↔ wQ (T.cfg k) b__law_some [some a0, some a1] h (fin false h.length K) := by
  have e : T.call (k + 1) 18 [a0, a1] h = runFn (T.cfg k) F__law_some [a0, a1] h := rfl
  exact (iff_of_eq (congrArg (fun r => Holds r K) e)).trans ((wF_run (F := F__law_some) (vs := [a0, a1])).trans (and_iff_right ⟨rfl, rfl⟩))
theorem w__law_sort {a0 : Val} : wF (T.cfg (k + 1)) 19 [a0] h K ↔ wQ (T.cfg k) b__law_sort [some a0] h (fin false h.length K) := by
  have e : T.call (k + 1) 19 [a0] h = runFn (T.cfg k) F__law_sort [a0] h := rfl
  exact (iff_of_eq (congrArg (fun r => Holds r K) e)).trans ((wF_run (F := F__law_sort) (vs := [a0])).trans (and_iff_right ⟨rfl, rfl⟩))
theorem w__law_like {a0 a1 : Val} : wF (T.cfg (k + 1)) 20 [a0, a1] h K ↔ wQ (T.cfg k) b__law_like [some a0, some a1, none, none, none] h (fin false h.length K) := by
  have e : T.call (k + 1) 20 [a0, a1] h = runFn (T.cfg k) F__law_like [a0, a1] h := rfl
  exact (iff_of_eq (congrArg (fun r => Holds r K) e)).trans ((wF_run (F := F__law_like) (vs := [a0, a1])).trans (and_iff_right ⟨rfl, rfl⟩))
theorem w__law_bent {a0 a1 : Val} : wF (T.cfg (k + 1)) 21 [a0, a1] h K ↔ wQ (T.cfg k) b__law_bent [some a0, some a1, none, none] h (fin false h.length K) := by
  have e : T.call (k + 1) 21 [a0, a1] h = runFn (T.cfg k) F__law_bent [a0, a1] h := rfl
  exact (iff_of_eq (congrArg (fun r => Holds r K) e)).trans ((wF_run (F := F__law_bent) (vs := [a0, a1])).trans (and_iff_right ⟨rfl, rfl⟩))
theorem w__law_whole {a0 a1 a2 : Val} : wF (T.cfg (k + 1)) 22 [a0, a1, a2] h K ↔ wQ (T.cfg k) b__law_whole [some a0, some a1, some a2] h (fin false h.length K) := by
  have e : T.call (k + 1) 22 [a0, a1, a2] h = runFn (T.cfg k) F__law_whole [a0, a1, a2] h := rfl
  exact (iff_of_eq (congrArg (fun r => Holds r K) e)).trans ((wF_run (F := F__law_whole) (vs := [a0, a1, a2])).trans (and_iff_right ⟨rfl, rfl⟩))
theorem w__law_dealt {a0 a1 a2 a3 : Val} : wF (T.cfg (k + 1)) 23 [a0, a1, a2, a3] h K ↔ wQ (T.cfg k) b__law_dealt [some a0, some a1, some a2, some a3, none, none, none, none, none, none, none, none] h (fin false h.length K) := by
  have e : T.call (k + 1) 23 [a0, a1, a2, a3] h = runFn (T.cfg k) F__law_dealt [a0, a1, a2, a3] h := rfl
  exact (iff_of_eq (congrArg (fun r => Holds r K) e)).trans ((wF_run (F := F__law_dealt) (vs := [a0, a1, a2, a3])).trans (and_iff_right ⟨rfl, rfl⟩))
theorem w__law_places {a0 a1 a2 : Val} : wF (T.cfg (k + 1)) 24 [a0, a1, a2] h K ↔ wQ (T.cfg k) b__law_places [some a0, some a1, some a2, none, none, none, none] h (fin false h.length K) := by
  have e : T.call (k + 1) 24 [a0, a1, a2] h = runFn (T.cfg k) F__law_places [a0, a1, a2] h := rfl
  exact (iff_of_eq (congrArg (fun r => Holds r K) e)).trans ((wF_run (F := F__law_places) (vs := [a0, a1, a2])).trans (and_iff_right ⟨rfl, rfl⟩))
theorem w__law_choices {a0 a1 a2 : Val} : wF (T.cfg (k + 1)) 25 [a0, a1, a2] h K ↔ wQ (T.cfg k) b__law_choices [some a0, some a1, some a2, none] h (fin false h.length K) := by
  have e : T.call (k + 1) 25 [a0, a1, a2] h = runFn (T.cfg k) F__law_choices [a0, a1, a2] h := rfl
  exact (iff_of_eq (congrArg (fun r => Holds r K) e)).trans ((wF_run (F := F__law_choices) (vs := [a0, a1, a2])).trans (and_iff_right ⟨rfl, rfl⟩))
theorem w__law_small_right {a0 : Val} : wF (T.cfg (k + 1)) 26 [a0] h K ↔ wQ (T.cfg k) b__law_small_right [some a0, none, none, none, none, none, none, none, none, none, none, none, none, none, none, none] h (fin false h.length K) := by
  have e : T.call (k + 1) 26 [a0] h = runFn (T.cfg k) F__law_small_right [a0] h := rfl
  exact (iff_of_eq (congrArg (fun r => Holds r K) e)).trans ((wF_run (F := F__law_small_right) (vs := [a0])).trans (and_iff_right ⟨rfl, rfl⟩))
theorem w__law_told_right {a0 a1 a2 : Val} : wF (T.cfg (k + 1)) 27 [a0, a1, a2] h K ↔ wQ (T.cfg k) b__law_told_right [some a0, some a1, some a2, none, none, none, none, none, none, none, none, none, none, none, none] h (fin false h.length K) := by
  have e : T.call (k + 1) 27 [a0, a1, a2] h = runFn (T.cfg k) F__law_told_right [a0, a1, a2] h := rfl
  exact (iff_of_eq (congrArg (fun r => Holds r K) e)).trans ((wF_run (F := F__law_told_right) (vs := [a0, a1, a2])).trans (and_iff_right ⟨rfl, rfl⟩))
theorem w__law_power {a0 a1 : Val} : wF (T.cfg (k + 1)) 28 [a0, a1] h K ↔ wQ (T.cfg k) b__law_power [some a0, some a1, none, none] h (fin false h.length K) := by
  have e : T.call (k + 1) 28 [a0, a1] h = runFn (T.cfg k) F__law_power [a0, a1] h := rfl
  exact (iff_of_eq (congrArg (fun r => Holds r K) e)).trans ((wF_run (F := F__law_power) (vs := [a0, a1])).trans (and_iff_right ⟨rfl, rfl⟩))
theorem w__law_great_right {a0 : Val} : wF (T.cfg (k + 1)) 29 [a0] h K ↔ wQ (T.cfg k) b__law_great_right [some a0, none, none, none, none, none, none, none, none, none, none, none, none, none] h (fin false h.length K) := by
  have e : T.call (k + 1) 29 [a0] h = runFn (T.cfg k) F__law_great_right [a0] h := rfl
  exact (iff_of_eq (congrArg (fun r => Holds r K) e)).trans ((wF_run (F := F__law_great_right) (vs := [a0])).trans (and_iff_right ⟨rfl, rfl⟩))
theorem w__law_written_right : wF (T.cfg (k + 1)) 30 [] h K ↔ wQ (T.cfg k) b__law_written_right [none, none] h (fin false h.length K) := by
  have e : T.call (k + 1) 30 [] h = runFn (T.cfg k) F__law_written_right [] h := rfl
  exact (iff_of_eq (congrArg (fun r => Holds r K) e)).trans ((wF_run (F := F__law_written_right) (vs := [])).trans (and_iff_right ⟨rfl, rfl⟩))
theorem w_law {a0 : Val} : wF (T.cfg (k + 1)) 31 [a0] h K ↔ wQ (T.cfg k) b_law [some a0, none, none] h (fin false h.length K) := by
  have e : T.call (k + 1) 31 [a0] h = runFn (T.cfg k) F_law [a0] h := rfl
  exact (iff_of_eq (congrArg (fun r => Holds r K) e)).trans ((wF_run (F := F_law) (vs := [a0])).trans (and_iff_right ⟨rfl, rfl⟩))
end
@[simp] theorem g_PILES (k : Nat) : (T.cfg k).glb 0 = .int 20 := rfl
@[simp] theorem g_SIZE (k : Nat) : (T.cfg k).glb 1 = .int 500 := rfl
@[simp] theorem g_DEALS (k : Nat) : (T.cfg k).glb 2 = .int 20 := rfl
@[simp] theorem so_0 (n : Nat) : shp (n + 1) (.str "") = true := by
  show (Str.ofString "").cps.all _ = true
  decide +kernel
@[simp] theorem so_1 (n : Nat) : shp (n + 1) (.str "sign") = true := by
  show (Str.ofString "sign").cps.all _ = true
  decide +kernel
@[simp] theorem ne_0_1 : ((Str.ofString "") = (Str.ofString "sign")) = False := eq_false (by decide +kernel)
@[simp] theorem ne_1_0 : ((Str.ofString "sign") = (Str.ofString "")) = False := eq_false (by decide +kernel)
theorem to_call {k f : Nat} {vs : List Val} {h : Hh} {K : Val → Hh → Prop} (q : wF (T.cfg k) f vs h K) : Holds (T.call k f vs h) K := q
end Lw
set_option maxHeartbeats 0
namespace Lw
open PySem PySem.Spec PyProof.Rows L2 Ev
theorem chk : chkAll T T.fs sts nms = true := by kernel_rfl
def loose : List Str := (["CardError", "InvalidNumber", "InvalidWord", "PILES", "SIZE", "DEALS", "is_whole", "need_whole", "is_tuple_of", "need_deal", "need_choices", "power_of", "number_of", "place_in", "told_in", "asked_place", "asked_places", "told_place", "parted_cards", "are_parted", "fewest_deals", "choices_for", "_law_cup", "_law_roll", "_law_some", "_law_sort", "_law_like", "_law_bent", "_law_whole", "_law_dealt"] : List PySem.Str) ++ (["_law_places", "_law_choices", "_law_small_right", "_law_told_right", "_law_power", "_law_great_right", "_law_written_right"] : List PySem.Str)
abbrev R : PySem.W.OpenRow := PySem.W.OpenLaw.row PySem.Challenge.rw_decktold_k56_whole_asked_deals
abbrev hk : PySem.W.Hook := hookT 4 T sts
def ob (s : PySem.W.SharedT) : He.AlD := obsTG 4 T sts (HandSHeadRun.getT s)
theorem ob_eq (s : PySem.W.SharedT) : ob s = hk.obs s.abs := obsTG_eq (HandSHeadRun.getT_eq s)
theorem run (w : World) : HandSHeadRun.RunEq R (PySem.W.view R.prog [41]) hk ob 6000 loose w := by
  intro os
  kernel_rfl
end Lw
set_option linter.all false
set_option maxRecDepth 100000
set_option maxHeartbeats 4000000
namespace Lw
open PySem Ev
section
variable {n : Nat} {h t : Hh} {K : Val → Hh → Prop}
/-! ### the law's dice -/
def cup (s : Int × Int) : Cell := .lst [.int s.1, .int s.2]
def nx (i : Int) : Int := (i * 30203 + 8803) % 2147483543
def rv (m : Int) (s : Int × Int) : Int := if 0 < s.1 then s.1 % m else (nx s.2 * (nx s.2 + 281)) % 2147483587 / 877 % m
def rn (m : Int) (s : Int × Int) : Int × Int := if 0 < s.1 then (s.1 / m, s.2) else (s.1, nx s.2)
theorem rv_0 {m : Int} {s : Int × Int} (hm : 0 < m) : 0 ≤ rv m s := by
  unfold rv; split <;> exact Int.emod_nonneg _ (by omega)
theorem rv_lt {m : Int} {s : Int × Int} (hm : 0 < m) : rv m s < m := by
  unfold rv; split <;> exact Int.emod_lt_of_pos _ hm
theorem p_roll {m : Int} {s : Int × Int} (hm : 0 < m) (hm2 : m < 1606938044258990275541962092341162602522202993782792835301376) : wF (T.cfg (n + 1)) 17 [.ref 0, .d (.int m)] (cup s :: t) K ↔ K (.d (.int (rv m s))) (cup (rn m s) :: t) := by
  rw [w__law_roll, b__law_roll]
  have d1 := divOk_of hm hm2
  unfold rv rn cup
  by_cases h1 : 0 < s.1
  · simp [h1, d1, hm]
  · have a1 : 0 ≤ nx s.2 := Int.emod_nonneg _ (by decide)
    have a2 : nx s.2 < 2147483543 := Int.emod_lt_of_pos _ (by decide)
    have a3 : nx s.2 < 18446744073709551616 := by omega
    have e : mulOk (nx s.2) (nx s.2 + 281) = true := mulOk_l a1 a3
    unfold nx at e ⊢
    simp [h1, d1, hm, e]
def at_ (ds : List D) (i : Int) : D := (ds[i.toNat]?).getD .non
theorem p_some {ds : List D} {s : Int × Int} (h0 : 0 < ds.length) (h1 : ds.length ≤ 16777216) : wF (T.cfg (n + 2)) 18 [.ref 0, .d (.lst ds)] (cup s :: t) K ↔ K (.d (at_ ds (rv ds.length s))) (cup (rn ds.length s) :: t) := by
  rw [w__law_some, b__law_some]
  have b0 : 0 ≤ rv ds.length s := rv_0 (by omega)
  have b1 : rv ds.length s < ds.length := rv_lt (by omega)
  obtain ⟨j, ej⟩ := Int.eq_ofNat_of_zero_le b0
  have hj : j < ds.length := by omega
  simp [p_roll (m := (ds.length : Int)) (by omega) (by omega), iX_l, ej, atD_nat hj, at_, hj]
theorem p_cup {ns : List Int} (hl : ns.length ≤ 63) (q : ∀ s, K (.ref 0) [cup s]) : wF (T.cfg (n + 1)) 16 [.d (.scr (ns.map .int))] [] K := by
  rw [w__law_cup, b__law_cup]
  have e1 : powOk 10 18 = true := by decide
  cases ns with
  | nil => simp [e1]; exact q (_, _)
  | cons i ns =>
    simp only [List.map_cons]
    have h2 : ns.length ≤ 16777214 := by simp at hl; omega
    simp [e1, h2]
    exact ⟨fun _ => q (_, _), fun _ => q (_, _)⟩
def srt : D → Int
  | .non => 0
  | .bl _ => 1
  | .int _ => 2
  | .str _ => 3
  | .tup _ => 4
  | .lst _ => 5
  | _ => 6
theorem p_sort {d : D} {N : Nat} (hd : shp N d = true) : wF (T.cfg (n + 1)) 19 [.d d] h K ↔ K (.d (.int (srt d))) h := by
  rw [w__law_sort, b__law_sort]
  cases d with
  | scr ds => cases N <;> simp [shp] at hd
  | fn f => cases N <;> simp [shp] at hd
  | non => simp [srt]
  | _ => simp [srt]
theorem p_like : ∀ {N n : Nat} {d : D} {h : Hh} {K : Val → Hh → Prop}, shp N d = true → N ≤ 60 → K (.d (.bl true)) h → wF (T.cfg (N + 1 + n)) 20 [.d d, .d d] h K
  | 0, _, d, _, _, hd, _, _ => by simp [shp] at hd
  | N + 1, n, d, h, K, hd, hN, q => by
    have e1 : N + 1 + 1 + n = N + n + 1 + 1 := by omega
    rw [e1, w__law_like, b__law_like]
    have h60 := shp_le hd hN
    have items : ∀ ds : List D, shps N ds = true → ∀ x ∈ zipL ds ds, ∀ (a b c : Option Val), bT (.tp [3, 4]) (.d x) [a, b, c, none, none] fun env1 => wC (T.cfg (N + n + 1)) (.cons (.not (.e (.call 20 (.cons (.var 3) (.cons (.var 4) .nil))))) .nil) env1 h fun k h1 => k = false ∧ h1 = h := by
      intro ds hds x hx a b c
      obtain ⟨y, hy, rfl⟩ := zipL_mem hx
      have := fun K q => p_like (N := N) (n := n) (d := y) (h := h) (K := K) (shps_mem hds hy) (by omega) q
      rw [show N + 1 + n = N + n + 1 by omega] at this
      simp
      exact this _ ⟨rfl, rfl⟩
    cases d with
    | scr ds => simp [shp] at hd
    | fn f => simp [shp] at hd
    | non => simp [p_sort hd, srt, cm_inT, flat, cm_eq, shp, q]
    | bl b => simp [p_sort hd, srt, cm_inT, flat, cm_eq, shp, q]
    | int b => simp [p_sort hd, srt, cm_inT, flat, cm_eq, shp, q]
    | str b => simp [p_sort hd, srt, cm_inT, flat, h60, q]
    | tup ds =>
      simp [p_sort hd, srt, cm_inT, flat]
      refine wLc_none (fun d hd' => items ds (by simpa [shp] using hd) d hd' _ _ _) ?_
      simp [shp, shps, q]
    | lst ds =>
      simp [p_sort hd, srt, cm_inT, flat]
      refine wLc_none (fun d hd' => items ds (by simpa [shp] using hd) d hd' _ _ _) ?_
      simp [shp, shps, q]
section
variable {s : Int × Int}
theorem p_rollI {m : Int} (hm : 0 < m) (hm2 : m < 1606938044258990275541962092341162602522202993782792835301376) (q : ∀ r s', 0 ≤ r → r < m → K (.d (.int r)) (cup s' :: t)) : wF (T.cfg (n + 1)) 17 [.ref 0, .d (.int m)] (cup s :: t) K :=
  (p_roll hm hm2).mpr (q _ _ (rv_0 hm) (rv_lt hm))
theorem p_someI {is : List Int} (h0 : 0 < is.length) (h1 : is.length ≤ 16777216) (q : ∀ i s', i ∈ is → K (.d (.int i)) (cup s' :: t)) : wF (T.cfg (n + 2)) 18 [.ref 0, .d (.lst (is.map .int))] (cup s :: t) K := by
  refine (p_some (by simpa using h0) (by simpa using h1)).mpr ?_
  have b0 : 0 ≤ rv (is.map D.int).length s := rv_0 (by simpa using h0)
  have b1 : rv (is.map D.int).length s < (is.map D.int).length := rv_lt (by simpa using h0)
  obtain ⟨j, ej⟩ := Int.eq_ofNat_of_zero_le b0
  rw [ej] at b1 ⊢
  rw [List.length_map] at b1
  have hj : j < is.length := by omega
  simp [at_, hj]
  exact q _ _ (List.getElem_mem hj)
theorem p_someD {ds : List D} (h0 : 0 < ds.length) (h1 : ds.length ≤ 16777216) (q : ∀ d s', d ∈ ds → K (.d d) (cup s' :: t)) : wF (T.cfg (n + 2)) 18 [.ref 0, .d (.lst ds)] (cup s :: t) K := by
  refine (p_some h0 h1).mpr ?_
  have b0 : 0 ≤ rv ds.length s := rv_0 (by omega)
  have b1 : rv ds.length s < ds.length := rv_lt (by omega)
  obtain ⟨j, ej⟩ := Int.eq_ofNat_of_zero_le b0
  rw [ej] at b1 ⊢
  have hj : j < ds.length := by omega
  simp [at_, hj]
  exact q _ _ (List.getElem_mem hj)
theorem p_like3 {d : D} (hd : shp 3 d = true) (q : K (.d (.bl true)) h) : wF (T.cfg (n + 4)) 20 [.d d, .d d] h K := by
  have := p_like (n := n) hd (by decide) q
  rwa [show 3 + 1 + n = n + 4 by omega] at this
theorem p_like4 {d : D} (hd : shp 4 d = true) (q : K (.d (.bl true)) h) : wF (T.cfg (n + 5)) 20 [.d d, .d d] h K := by
  have := p_like (n := n) hd (by decide) q
  rwa [show 4 + 1 + n = n + 5 by omega] at this
/-- .. for simp: no unfolding at great data -/
theorem p_likeI {d : D} (hd : shp 4 d = true) : wF (T.cfg (n + 5)) 20 [.d d, .d d] h K ↔ K (.d (.bl true)) h := wF_eq (p_like4 hd ⟨rfl, rfl⟩) K
theorem smallI_of2 {i : Int} (h0 : 0 ≤ i) (h1 : i < 4611686018427387904) : smallI i = true := by
  unfold smallI
  simp only [Bool.and_eq_true, decide_eq_true_eq]
  omega
theorem rngL_len {i : Int} {N : Nat} (hi : i = N) : rngL 0 i = (List.range N).map fun j => D.int (j : Nat) := by
  unfold rngL
  subst hi
  simp
end
theorem p_like2 {d : D} (hd : shp 2 d = true) (q : K (.d (.bl true)) h) : wF (T.cfg (n + 3)) 20 [.d d, .d d] h K := by
  have := p_like (n := n) hd (by decide) q
  rwa [show 2 + 1 + n = n + 3 by omega] at this
end
end Lw
set_option linter.all false
set_option maxRecDepth 100000
set_option maxHeartbeats 1600000
namespace Lw
open PySem Ev
section
variable {n : Nat} {h t : Hh} {K : Val → Hh → Prop}
theorem blsD_map {α : Type} (f : α → Bool) : ∀ xs : List α, blsD (xs.map fun x => D.bl (f x)) = some (xs.map f)
  | [] => rfl
  | x :: xs => by rw [List.map_cons, blsD, blsD_map f xs]; rfl
theorem bI_allM {α : Type} (f : α → Bool) {xs : List α} {K : W → Prop} : bI .all [.lst (xs.map fun x => D.bl (f x))] K ↔ K (.v (.d (.bl (xs.all f)))) := by
  rw [bI_all (blsD_map f xs), List.all_map]
  rfl
/-! ### lists of what is wrong -/
def bad {α : Type} (p : α → Bool) (xs : List α) : List D := xs.filterMap fun x => if p x then none else some (.int 1)
theorem bad_shps {α : Type} (p : α → Bool) (k : Nat) : ∀ xs : List α, shps (k + 1) (bad p xs) = true
  | [] => rfl
  | x :: xs => by
    unfold bad
    rw [List.filterMap_cons]
    have ih := bad_shps p k xs
    unfold bad at ih
    by_cases e : p x = true
    · rw [if_pos e]; exact ih
    · rw [if_neg e]
      show (shp (k + 1) (.int 1) && shps (k + 1) _) = true
      rw [ih]; rfl
theorem bad_nil {α : Type} (p : α → Bool) : ∀ xs : List α, deqs (bad p xs) [] = xs.all p
  | [] => rfl
  | x :: xs => by
    have ih := bad_nil p xs
    unfold bad at ih ⊢
    rw [List.filterMap_cons, List.all_cons]
    by_cases e : p x = true
    · rw [if_pos e, e, Bool.true_and]; exact ih
    · rw [if_neg e, show p x = false by simpa using e]; rfl
theorem cm_neE {α : Type} {p : α → Bool} {xs : List α} {K : Bool → Prop} : cm .ne (.lst (bad p xs)) (.lst []) K ↔ K (!(xs.all p)) := by
  rw [cm_ne]
  have e : shp 60 (.lst (bad p xs)) = true := by rw [shp]; exact bad_shps p _ xs
  rw [e, deq_ll, bad_nil]
  exact and_iff_right rfl
theorem cm_eqE {α : Type} {p : α → Bool} {xs : List α} {K : Bool → Prop} : cm .eq (.lst (bad p xs)) (.lst []) K ↔ K (xs.all p) := by
  rw [cm_eq]
  have e : shp 60 (.lst (bad p xs)) = true := by rw [shp]; exact bad_shps p _ xs
  rw [e, deq_ll, bad_nil]
  exact and_iff_right rfl
/-! ### judges of plain values -/
@[simp ↓] theorem tY_nn {y : Ty} {K : Bool → Prop} : tY y .non K ↔ K false := by cases y <;> exact Iff.rfl
@[simp ↓] theorem tY_bs {b : Bool} {K : Bool → Prop} : tY .str (.bl b) K ↔ K false := Iff.rfl
@[simp ↓] theorem tY_bt {b : Bool} {K : Bool → Prop} : tY .tup (.bl b) K ↔ K false := Iff.rfl
@[simp ↓] theorem tY_bl {b : Bool} {K : Bool → Prop} : tY .lst (.bl b) K ↔ K false := Iff.rfl
def wh (lo hi : Int) : D → Bool
  | .int i => decide (lo ≤ i) && decide (i ≤ hi)
  | _ => false
def tpo (lo hi : Int) : D → Bool
  | .tup ds => decide (lo ≤ ds.length) && decide ((ds.length : Int) ≤ hi)
  | _ => false
theorem p_whole {d : D} {N : Nat} {lo hi : Int} (hd : shp N d = true) : wF (T.cfg (n + 1)) 0 [.d d, .d (.int lo), .d (.int hi)] h K ↔ K (.d (.bl (wh lo hi d))) h := by
  rw [w_is_whole, b_is_whole]
  cases d with
  | scr ds => cases N <;> simp [shp] at hd
  | fn f => cases N <;> simp [shp] at hd
  | int i => by_cases c : lo ≤ i <;> simp [wh, c] <;> omega
  | bl i => simp [wh]
  | _ => simp [wh]
theorem p_tup_of {d : D} {N : Nat} {lo hi : Int} (hd : shp N d = true) : wF (T.cfg (n + 1)) 2 [.d d, .d (.int lo), .d (.int hi)] h K ↔ K (.d (.bl (tpo lo hi d))) h := by
  rw [w_is_tuple_of, b_is_tuple_of]
  cases d with
  | scr ds => cases N <;> simp [shp] at hd
  | fn f => cases N <;> simp [shp] at hd
  | tup ds => by_cases c : lo ≤ (ds.length : Int) <;> simp [tpo, c] <;> omega
  | _ => simp [tpo]
theorem p_law_whole {d : D} {N : Nat} {lo hi : Int} (hd : shp N d = true) : wF (T.cfg (n + 2)) 22 [.d d, .d (.int lo), .d (.int hi)] h K ↔ K (.d (.bl (wh lo hi d))) h := by
  rw [w__law_whole, b__law_whole]
  cases d with
  | scr ds => cases N <;> simp [shp] at hd
  | fn f => cases N <;> simp [shp] at hd
  | int i => by_cases c : lo ≤ i <;> simp [wh, c, p_sort hd, srt] <;> omega
  | _ => simp [wh, p_sort hd, srt]
theorem wh_ints {lo hi : Int} : ∀ {ds : List D}, ds.all (wh lo hi) = true → ∃ ns : List Int, ds = ns.map D.int ∧ ∀ i ∈ ns, lo ≤ i ∧ i ≤ hi
  | [], _ => ⟨[], rfl, fun _ z => by cases z⟩
  | d :: ds, h => by
    rw [List.all_cons, Bool.and_eq_true] at h
    obtain ⟨ns, rfl, h2⟩ := wh_ints h.2
    cases d with
    | int i =>
      have h1 := h.1
      unfold wh at h1
      simp only [Bool.and_eq_true, decide_eq_true_eq] at h1
      refine ⟨i :: ns, rfl, fun j hj => ?_⟩
      rcases List.mem_cons.mp hj with rfl | hj
      · exact h1
      · exact h2 j hj
    | _ => simp [wh] at h
theorem enuL_zip : ∀ (ds : List D) (n : Nat), enuL n ds = (ds.zipIdx n).map fun q => D.tup [.int (q.2 : Nat), q.1]
  | [], n => rfl
  | d :: ds, n => by rw [enuL, enuL_zip ds (n + 1)]; rfl
/-! ### numbers by their digits -/
def nb (p : Nat) : List Nat → Nat
  | [] => 0
  | c :: cs => c + p * nb p cs
def il (p : List Nat) : List D := p.map fun y => D.int (y : Nat)
theorem il_len (p : List Nat) : (il p).length = p.length := by simp [il]
theorem il_app (p q : List Nat) : il (p ++ q) = il p ++ il q := by simp [il]
theorem il_shp (k : Nat) : ∀ p : List Nat, shps (k + 1) (il p) = true
  | [] => rfl
  | y :: p => by
    show (shp (k + 1) (.int y) && shps (k + 1) (il p)) = true
    rw [il_shp k p]; rfl
theorem nb_lt {p : Nat} : ∀ {cs : List Nat}, (∀ c ∈ cs, c < p) → nb p cs < p ^ cs.length
  | [], _ => by simp [nb]
  | c :: cs, h => by
    have h1 := h c List.mem_cons_self
    have h2 := nb_lt fun c hc => h c (List.mem_cons_of_mem _ hc)
    rw [nb, List.length_cons, Nat.pow_succ]
    calc c + p * nb p cs < p + p * nb p cs := by omega
      _ = p * (nb p cs + 1) := by rw [Nat.mul_add, Nat.mul_one, Nat.add_comm]
      _ ≤ p * p ^ cs.length := Nat.mul_le_mul_left _ h2
      _ = p ^ cs.length * p := Nat.mul_comm _ _
theorem pow_le20 {p k : Nat} (hp : p ≤ 20) (hk : k ≤ 20) : p ^ k ≤ 20 ^ 20 := Nat.le_trans (Nat.pow_le_pow_left hp k) (Nat.pow_le_pow_right (by decide) hk)
theorem p_need_whole {i lo hi : Int} (h1 : lo ≤ i) (h2 : i ≤ hi) : wF (T.cfg (n + 2)) 1 [.d (.int i), .d (.int lo), .d (.int hi)] h K ↔ K (.d .non) h := by
  refine wF_eq ?_ K
  rw [w_need_whole, b_need_whole]
  have e : wh lo hi (.int i) = true := by simp [wh, h1, h2]
  simp [p_whole (d := .int i) (N := 1) rfl, e]
theorem p_need_deal {p s : Nat} (p1 : 2 ≤ p) (p2 : p ≤ 20) (s1 : 1 ≤ s) (s2 : s ≤ 500) : wF (T.cfg (n + 3)) 3 [.d (.int p), .d (.int s)] h K ↔ K (.d .non) h := by
  refine wF_eq ?_ K
  rw [w_need_deal, b_need_deal]
  simp [p_need_whole (i := (p : Int)) (lo := 2) (hi := 20) (by omega) (by omega), p_need_whole (i := (s : Int)) (lo := 1) (hi := 500) (by omega) (by omega)]
theorem p_need_choices {p s : Nat} {cs : List Nat} (p1 : 2 ≤ p) (p2 : p ≤ 20) (s1 : 1 ≤ s) (s2 : s ≤ 500) (hc : ∀ c ∈ cs, c < p) (hl : cs.length ≤ 20) : wF (T.cfg (n + 4)) 4 [.d (.int p), .d (.int s), .d (.tup (il cs))] h K ↔ K (.d .non) h := by
  refine wF_eq ?_ K
  rw [w_need_choices, b_need_choices]
  have e1 : tpo 0 20 (.tup (il cs)) = true := by
    simp [tpo, il_len]; omega
  have e2 : shp 3 (.tup (il cs)) = true := by rw [shp]; exact il_shp 1 cs
  simp [p_need_deal p1 p2 s1 s2, p_tup_of (d := .tup (il cs)) e2, e1, wipeE]
  refine wLc_mapM (xs := cs) (fun y : Nat => D.int (y : Nat)) (fun _ => .bl true) (fun y hy => ?_) (by show _ ≤ 16777216; omega) ?_
  · have := hc y hy
    have e : wh 0 ((p : Int) - 1) (.int (y : Nat)) = true := by simp [wh]; omega
    simp [p_whole (d := .int (y : Nat)) (N := 1) rfl, e]
  · simp [-List.map_map, bI_allM (fun _ : Nat => true)]
theorem pow_loop {p : Nat} {C : Ev.Flow → Hh → Prop} {b : Option Val} (hp : p < 1000) : ∀ (ds : List D) (m : Nat) (z : Int) (x : Option Val), z = ((p ^ m : Nat) : Int) → (∀ z x, z = ((p ^ (m + ds.length) : Nat) : Int) → C (.next [some (.d (.int (p : Nat))), b, some (.d (.int z)), x]) h) →
    wFr (T.cfg n) (.nm 3) (.cons (.asg (.nm 2) (.bin .mul (.var 2) (.var 0)))
  .nil) ds [some (.d (.int (p : Nat))), b, some (.d (.int z)), x] h C
  | [], m, z, x, hz, q => by rw [wFr_0]; exact q z x hz
  | d :: ds, m, z, x, hz, q => by
    rw [wFr_1]
    have e : mulOk z (p : Int) = true := mulOk_r (by omega) (by omega)
    simp [e]
    refine pow_loop hp ds (m + 1) _ _ ?_ fun z x hz => q z x ?_
    · rw [hz, Nat.pow_succ, Int.natCast_mul]
    · rw [hz, List.length_cons, show m + 1 + ds.length = m + (ds.length + 1) by omega]
theorem p_power_of {p k : Nat} (hp : p < 1000) (hk : k ≤ 1000) : wF (T.cfg (n + 1)) 5 [.d (.int p), .d (.int k)] h K ↔ K (.d (.int ((p ^ k : Nat) : Int))) h := by
  refine wF_eq ?_ K
  rw [w_power_of, b_power_of]
  have sm : smallI (k : Int) = true := smallI_of2 (by omega) (by omega)
  simp [sm]
  rw [rngL_len (N := k) rfl]
  refine pow_loop hp _ 0 1 _ rfl fun z x hz => ?_
  rw [List.length_map, List.length_range, Nat.zero_add] at hz
  simp [hz]
theorem nb_snoc {p : Nat} : ∀ (cs : List Nat) (c : Nat), nb p (cs ++ [c]) = nb p cs + c * p ^ cs.length
  | [], c => by simp [nb]
  | d :: cs, c => by
    rw [List.cons_append, nb, nb, nb_snoc cs c, List.length_cons, Nat.pow_succ, Nat.mul_add, Nat.add_assoc]
    congr 2
    rw [Nat.mul_left_comm, Nat.mul_comm p]
def hn (p : Nat) : Nat → List Nat → Nat
  | a, [] => a
  | a, c :: cs => hn p (a * p + c) cs
theorem hn_snoc {p : Nat} : ∀ (cs : List Nat) (a c : Nat), hn p a (cs ++ [c]) = hn p a cs * p + c
  | [], a, c => rfl
  | d :: cs, a, c => by rw [List.cons_append, hn, hn, hn_snoc cs]
theorem hn_rev {p : Nat} : ∀ cs : List Nat, hn p 0 cs.reverse = nb p cs
  | [] => rfl
  | c :: cs => by rw [List.reverse_cons, hn_snoc, hn_rev cs, nb, Nat.mul_comm, Nat.add_comm]
theorem num_loop {p : Nat} {C : Ev.Flow → Hh → Prop} {b : Option Val} (hp : p < 1000) : ∀ (cs : List Nat) (m : Nat) (z : Int) (x : Option Val), z = (m : Int) → (∀ z x, z = ((hn p m cs : Nat) : Int) → C (.next [some (.d (.int (p : Nat))), b, some (.d (.int z)), x]) h) →
    wFr (T.cfg n) (.nm 3) (.cons (.asg (.nm 2) (.bin .add (.bin .mul (.var 2) (.var 0)) (.var 3)))
  .nil) (il cs) [some (.d (.int (p : Nat))), b, some (.d (.int z)), x] h C
  | [], m, z, x, hz, q => by show wFr _ _ _ [] _ _ _; rw [wFr_0]; exact q z x hz
  | c :: cs, m, z, x, hz, q => by
    show wFr _ _ _ (D.int (c : Nat) :: il cs) _ _ _
    rw [wFr_1]
    have e : mulOk z (p : Int) = true := mulOk_r (by omega) (by omega)
    simp [e]
    refine num_loop hp cs (m * p + c) _ _ ?_ q
    rw [hz, Int.natCast_add, Int.natCast_mul]
theorem il_rev (cs : List Nat) : (il cs).reverse = il cs.reverse := by simp [il]
theorem p_number_of {p : Nat} {cs : List Nat} (hp : p < 1000) : wF (T.cfg (n + 1)) 6 [.d (.int p), .d (.tup (il cs))] h K ↔ K (.d (.int (nb p cs : Nat))) h := by
  refine wF_eq ?_ K
  rw [w_number_of, b_number_of]
  simp [il_rev]
  refine num_loop hp cs.reverse 0 0 _ rfl fun z x hz => ?_
  rw [hn_rev] at hz
  simp [hz]
/-- where a card goes -/
def plc (p s : Nat) (cs : List Nat) (x : Nat) : Nat := (x + p * s * nb p cs) / p ^ cs.length
theorem p_place_in {p s x : Nat} {cs : List Nat} (p1 : 2 ≤ p) (p2 : p ≤ 20) (s2 : s ≤ 500) (hl : cs.length ≤ 20) : wF (T.cfg (n + 2)) 7 [.d (.int p), .d (.int s), .d (.tup (il cs)), .d (.int x)] h K ↔ K (.d (.int (plc p s cs x : Nat))) h := by
  refine wF_eq ?_ K
  rw [w_place_in, b_place_in]
  have e1 : mulOk (p : Int) (s : Int) = true := mulOk_l (by omega) (by omega)
  have hps : p * s ≤ 20 * 500 := Nat.mul_le_mul p2 s2
  have e2 : mulOk ((p : Int) * (s : Int)) (nb p cs : Nat) = true := mulOk_l (by rw [← Int.natCast_mul]; omega) (by rw [← Int.natCast_mul]; omega)
  have h0 : 0 < p ^ cs.length := Nat.pow_pos (by omega)
  have hb := pow_le20 p2 hl
  have e3 : divOk ((p ^ cs.length : Nat) : Int) = true := divOk_of (by omega) (by omega)
  simp [-Int.natCast_pow, e1, e2, e3, p_number_of (n := n) (p := p) (cs := cs) (by omega), p_power_of (n := n) (p := p) (k := cs.length) (by omega) (by omega), il_len]
  rw [plc, Int.natCast_ediv, Int.natCast_add, Int.natCast_mul, Int.natCast_mul]
def toD (p s : Nat) (cs : List Nat) : D := if plc p s cs 0 = plc p s cs (p * s - 1) then .int (plc p s cs 0 : Nat) else .non
theorem p_told_in {p s : Nat} {cs : List Nat} (p1 : 2 ≤ p) (p2 : p ≤ 20) (s1 : 1 ≤ s) (s2 : s ≤ 500) (hl : cs.length ≤ 20) : wF (T.cfg (n + 3)) 8 [.d (.int p), .d (.int s), .d (.tup (il cs))] h K ↔ K (.d (toD p s cs)) h := by
  refine wF_eq ?_ K
  rw [w_told_in, b_told_in]
  have e1 : mulOk (p : Int) (s : Int) = true := mulOk_l (by omega) (by omega)
  have hps : 0 < p * s := Nat.mul_pos (by omega) (by omega)
  have e2 : (p : Int) * (s : Int) - 1 = ((p * s - 1 : Nat) : Int) := by rw [← Int.natCast_mul]; omega
  have e0 : D.int 0 = D.int ((0 : Nat) : Int) := rfl
  simp [e1, e2, e0, p_place_in (n := n) (p := p) (s := s) (cs := cs) p1 p2 s2 hl]
  unfold toD
  by_cases e : plc p s cs 0 = plc p s cs (p * s - 1)
  · simp [e]
  · have : ¬ ((plc p s cs 0 : Nat) : Int) = (plc p s cs (p * s - 1) : Nat) := by omega
    simp [e, this]
end
end Lw
set_option linter.all false
set_option maxRecDepth 100000
set_option maxHeartbeats 1600000
namespace Lw
open PySem Ev
section
variable {n : Nat} {h t : Hh} {K : Val → Hh → Prop} {p s : Nat} {cs : List Nat}
/-- a right deal -/
structure Dl (p s : Nat) : Prop where
  p1 : 2 ≤ p
  p2 : p ≤ 20
  s1 : 1 ≤ s
  s2 : s ≤ 500
structure Ch (p : Nat) (cs : List Nat) : Prop where
  lt : ∀ c ∈ cs, c < p
  ln : cs.length ≤ 20
theorem Dl.pos (d : Dl p s) : 0 < p * s := Nat.mul_pos (by have := d.p1; omega) (by have := d.s1; omega)
theorem Dl.le (d : Dl p s) : p * s ≤ 10000 := Nat.mul_le_mul d.p2 d.s2
theorem Dl.two (d : Dl p s) : 2 ≤ p * s := Nat.mul_le_mul d.p1 d.s1
theorem Dl.ok (d : Dl p s) : mulOk (p : Int) (s : Int) = true := mulOk_l (by omega) (by have := d.p2; omega)
theorem Dl.last (d : Dl p s) : (p : Int) * (s : Int) - 1 = ((p * s - 1 : Nat) : Int) := by have := d.pos; rw [← Int.natCast_mul]; omega
theorem q_place (d : Dl p s) (hl : cs.length ≤ 20) {x : Nat} : wF (T.cfg (n + 2)) 7 [.d (.int p), .d (.int s), .d (.tup (il cs)), .d (.int x)] h K ↔ K (.d (.int (plc p s cs x : Nat))) h := p_place_in d.p1 d.p2 d.s2 hl
theorem q_place0 (d : Dl p s) (hl : cs.length ≤ 20) : wF (T.cfg (n + 2)) 7 [.d (.int p), .d (.int s), .d (.tup (il cs)), .d (.int 0)] h K ↔ K (.d (.int (plc p s cs 0 : Nat))) h := q_place (x := 0) d hl
theorem q_told (d : Dl p s) (hl : cs.length ≤ 20) : wF (T.cfg (n + 3)) 8 [.d (.int p), .d (.int s), .d (.tup (il cs))] h K ↔ K (.d (toD p s cs)) h := p_told_in d.p1 d.p2 d.s1 d.s2 hl
theorem q_deal (d : Dl p s) : wF (T.cfg (n + 3)) 3 [.d (.int p), .d (.int s)] h K ↔ K (.d .non) h := p_need_deal d.p1 d.p2 d.s1 d.s2
theorem q_choices (d : Dl p s) (c : Ch p cs) : wF (T.cfg (n + 4)) 4 [.d (.int p), .d (.int s), .d (.tup (il cs))] h K ↔ K (.d .non) h := p_need_choices d.p1 d.p2 d.s1 d.s2 c.lt c.ln
theorem p_asked_place (d : Dl p s) (c : Ch p cs) {x : Nat} (hx : x < p * s) : wF (T.cfg (n + 5)) 9 [.d (.int p), .d (.int s), .d (.tup (il cs)), .d (.int x)] h K ↔ K (.d (.int (plc p s cs x : Nat))) h := by
  refine wF_eq ?_ K
  rw [w_asked_place, b_asked_place]
  simp [q_choices (n := n) d c, d.ok, d.last, p_need_whole (n := n + 2) (i := (x : Int)) (lo := 0) (hi := ((p * s - 1 : Nat) : Int)) (by omega) (by omega), q_place (n := n + 2) (x := x) d c.ln]
theorem p_asked_places (d : Dl p s) (c : Ch p cs) : wF (T.cfg (n + 5)) 10 [.d (.int p), .d (.int s), .d (.tup (il cs))] h K ↔ K (.d (.tup [.int (plc p s cs 0 : Nat), .int (plc p s cs (p * s - 1) : Nat)])) h := by
  refine wF_eq ?_ K
  rw [w_asked_places, b_asked_places]
  simp [q_choices (n := n) d c, d.ok, d.last, q_place (n := n + 2) (x := p * s - 1) d c.ln, q_place0 (n := n + 2) d c.ln]
theorem p_told_place (d : Dl p s) (c : Ch p cs) : wF (T.cfg (n + 5)) 11 [.d (.int p), .d (.int s), .d (.tup (il cs))] h K ↔ K (.d (toD p s cs)) h := by
  refine wF_eq ?_ K
  rw [w_told_place, b_told_place]
  simp [q_choices (n := n) d c, q_told (n := n + 1) d c.ln]
def isNon : D → Bool
  | .non => true
  | _ => false
@[simp ↓ high] theorem cm_isNv {v : D} {K : Bool → Prop} : cm .isN v .non K ↔ K (isNon v) := by cases v <;> exact Iff.rfl
@[simp ↓ high] theorem cm_notNv {v : D} {K : Bool → Prop} : cm .notN v .non K ↔ K (!isNon v) := by cases v <;> exact Iff.rfl
@[simp] theorem isNon_n : isNon .non = true := rfl
@[simp] theorem isNon_i {i : Int} : isNon (.int i) = false := rfl
@[simp] theorem isNon_b {b : Bool} : isNon (.bl b) = false := rfl
@[simp] theorem isNon_s {x : Str} : isNon (.str x) = false := rfl
@[simp] theorem isNon_t {ds : List D} : isNon (.tup ds) = false := rfl
@[simp] theorem isNon_l {ds : List D} : isNon (.lst ds) = false := rfl
def prt (p s : Nat) (cs : List Nat) : D := if isNon (toD p s cs) then .tup [.int 0, .int ((p * s - 1 : Nat) : Int)] else .non
theorem p_parted (d : Dl p s) (c : Ch p cs) : wF (T.cfg (n + 5)) 12 [.d (.int p), .d (.int s), .d (.tup (il cs))] h K ↔ K (.d (prt p s cs)) h := by
  refine wF_eq ?_ K
  rw [w_parted_cards, b_parted_cards]
  unfold prt
  cases e : isNon (toD p s cs) <;> simp [q_choices (n := n) d c, q_told (n := n + 1) d c.ln, d.ok, d.last, e]
/-! ### fewest deals -/
structure Fw (p N k : Nat) : Prop where
  lo : ∀ j, j < k → p ^ j < N
  hi : N ≤ p ^ k
theorem fw_from {p N : Nat} : ∀ (m k : Nat), (∀ j, j < k → p ^ j < N) → N ≤ p ^ (k + m) → ∃ k', k ≤ k' ∧ k' ≤ k + m ∧ Fw p N k'
  | 0, k, h1, h2 => ⟨k, Nat.le_refl _, Nat.le_refl _, h1, h2⟩
  | m + 1, k, h1, h2 => by
    by_cases e : N ≤ p ^ k
    · exact ⟨k, Nat.le_refl _, by omega, h1, e⟩
    · obtain ⟨k', a, b, c⟩ := fw_from m (k + 1) (fun j hj => by
        by_cases z : j = k
        · rw [z]; exact Nat.lt_of_not_le e
        · exact h1 j (by omega)) (by rw [show k + 1 + m = k + (m + 1) by omega]; exact h2)
      exact ⟨k', by omega, by omega, c⟩
theorem Dl.fw (d : Dl p s) : ∃ k, 1 ≤ k ∧ k ≤ 14 ∧ Fw p (p * s) k := by
  have h14 : p * s ≤ p ^ (0 + 14) := Nat.le_trans d.le (Nat.le_trans (by decide : 10000 ≤ 2 ^ 14) (Nat.pow_le_pow_left d.p1 14))
  obtain ⟨k, _, k2, f⟩ := fw_from 14 0 (fun j hj => by omega) h14
  refine ⟨k, ?_, by omega, f⟩
  by_cases z : k = 0
  · subst z
    have := f.hi
    have := d.two
    rw [Nat.pow_zero] at *
    omega
  · omega
theorem few_loop {N k : Nat} {C : Ev.Flow → Hh → Prop} (d : Dl p s) (f : Fw p (p * s) k) (hk : k ≤ 20) : ∀ (m j : Nat) (z : Int), z = (j : Int) → j + m = k → ∀ M, m < M → (∀ z, z = (k : Int) → C (.next [some (.d (.int p)), some (.d (.int s)), some (.d (.int z))]) h) →
    wWh (T.cfg (n + 1)) (.e (.cmp .lt (.call 5 (.cons (.var 0) (.cons (.var 2) .nil))) (.bin .mul (.var 0) (.var 1)))) (.cons (.asg (.nm 2) (.bin .add (.var 2) (.con (.int 1))))
  .nil) M [some (.d (.int p)), some (.d (.int s)), some (.d (.int z))] h C := by
  intro m
  induction m with
  | zero =>
    intro j z hz hj M hM q
    cases M with
    | zero => omega
    | succ M =>
      rw [wWh_1]
      have e : ¬ ((p ^ j : Nat) : Int) < (p : Int) * (s : Int) := by
        have := f.hi
        rw [← Int.natCast_mul, show j = k by omega]
        omega
      subst hz
      have := d.p2
      simp [-Int.natCast_pow, p_power_of (n := n) (p := p) (k := j) (by omega) (by omega), d.ok, e]
      exact q _ (by omega)
  | succ m ih =>
    intro j z hz hj M hM q
    cases M with
    | zero => omega
    | succ M =>
      rw [wWh_1]
      have e : ((p ^ j : Nat) : Int) < (p : Int) * (s : Int) := by
        have := f.lo j (by omega)
        rw [← Int.natCast_mul]
        omega
      subst hz
      have := d.p2
      simp [-Int.natCast_pow, p_power_of (n := n) (p := p) (k := j) (by omega) (by omega), d.ok, e]
      exact ih (j + 1) _ (by omega) (by omega) M (by omega) q
theorem p_fewest {k : Nat} (d : Dl p s) (f : Fw p (p * s) k) (hk : k ≤ 20) : wF (T.cfg (n + 4)) 14 [.d (.int p), .d (.int s)] h K ↔ K (.d (.int (k : Nat))) h := by
  refine wF_eq ?_ K
  rw [w_fewest_deals, b_fewest_deals]
  simp [q_deal (n := n) d]
  refine few_loop (N := 0) d f hk k 0 0 rfl (by omega) fuel (by unfold fuel; omega) fun z hz => ?_
  simp [hz]
/-! ### choices for a place -/
theorem mulOk_abs {i j : Int} (h : i.natAbs < 18446744073709551616) : mulOk i j = true := by
  unfold mulOk
  rw [decide_eq_true (show i.natAbs < 2 ^ 64 from h), Bool.true_or, Bool.true_or]
def cl (a N : Nat) : Nat := (a + N - 1) / N
theorem cl_int {a N : Nat} (hN : 0 < N) : -((-(a : Int)) / (N : Int)) = ((cl a N : Nat) : Int) := by
  have h1 := Nat.div_add_mod (a + N - 1) N
  have h2 := Nat.mod_lt (a + N - 1) hN
  have : (-(a : Int)) / (N : Int) = -((cl a N : Nat) : Int) := by
    refine (Int.ediv_emod_unique (by omega : (0 : Int) < N) (r := ((N * cl a N - a : Int))) |>.mpr ?_).1
    have e : ((N * cl a N : Nat) : Int) = (N : Int) * (cl a N : Nat) := Int.natCast_mul _ _
    have h3 : N * cl a N + (a + N - 1) % N = a + N - 1 := h1
    refine ⟨?_, ?_, ?_⟩
    · rw [Int.mul_neg]; omega
    · omega
    · omega
  rw [this, Int.neg_neg]
def dg (p : Nat) : Nat → Nat → List Nat
  | 0, _ => []
  | k + 1, m => m % p :: dg p k (m / p)
theorem dg_len : ∀ k m : Nat, (dg p k m).length = k
  | 0, _ => rfl
  | k + 1, m => by rw [dg, List.length_cons, dg_len k]
theorem dg_lt (hp : 0 < p) : ∀ k m : Nat, ∀ c ∈ dg p k m, c < p
  | 0, _, c, h => by cases h
  | k + 1, m, c, h => by
    rw [dg] at h
    rcases List.mem_cons.mp h with rfl | h
    · exact Nat.mod_lt _ hp
    · exact dg_lt hp k _ c h
theorem nb_dg : ∀ k m : Nat, nb p (dg p k m) = m % p ^ k
  | 0, m => by rw [dg, nb, Nat.pow_zero, Nat.mod_one]
  | k + 1, m => by
    rw [dg, nb, nb_dg k, Nat.pow_succ, Nat.mul_comm (p ^ k) p, Nat.mod_mul]
theorem dg_loop {C : Ev.Flow → Hh → Prop} {b c d e f : Option Val} (hp : 0 < p) (hp2 : p ≤ 20) : ∀ (ds : List D) (m : Nat) (acc : List Nat) (z : Int) (x : Option Val), z = (m : Int) → acc.length + ds.length ≤ 1000 → (∀ z x, C (.next [some (.d (.int p)), b, c, d, e, f, z, some (.d (.tup (il (acc ++ dg p ds.length m)))), x]) h) →
    wFr (T.cfg n) (.nm 8) (.cons (.par [7, 6] (.cons (.bin .add (.var 7) (.tup (.cons (.bin .mod (.var 6) (.var 0)) .nil))) (.cons (.bin .fdiv (.var 6) (.var 0)) .nil)))
  .nil) ds [some (.d (.int p)), b, c, d, e, f, some (.d (.int z)), some (.d (.tup (il acc))), x] h C
  | [], m, acc, z, x, hz, hl, q => by
    rw [wFr_0]
    have := q (some (.d (.int z))) x
    rwa [List.length_nil, dg, List.append_nil] at this
  | y :: ds, m, acc, z, x, hz, hl, q => by
    rw [wFr_1]
    rw [List.length_cons] at hl
    have hl2 : (il acc).length + 1 ≤ 16777216 := by rw [il_len]; omega
    have dv : divOk (p : Int) = true := divOk_of (by omega) (by omega)
    have h0 : (0 : Int) < p := by omega
    have ez1 : z % (p : Int) = ((m % p : Nat) : Int) := by rw [hz, Int.natCast_emod]
    have ez2 : z / (p : Int) = ((m / p : Nat) : Int) := by rw [hz, Int.natCast_ediv]
    have ih := dg_loop (C := C) (b := b) (c := c) (d := d) (e := e) (f := f) hp hp2 ds (m / p) (acc ++ [m % p]) (z / (p : Int)) (some (.d y)) ez2 (by rw [List.length_append, List.length_singleton]; omega) (fun z x => by
      have := q z x
      rw [List.length_cons, dg] at this
      rwa [List.append_assoc])
    rw [il_app] at ih
    have ea : il [m % p] = [D.int (z % (p : Int))] := by rw [ez1]; rfl
    rw [ea] at ih
    simp [dv, hp, hl2]
    exact ih
def chF (p s k x : Nat) : List Nat := dg p k (cl (x * p ^ k) (p * s))
theorem chF_ch (d : Dl p s) {k x : Nat} (hk : k ≤ 20) : Ch p (chF p s k x) := ⟨dg_lt (by have := d.p1; omega) k _, by unfold chF; rw [dg_len]; exact hk⟩
def cfD (p s k x : Nat) : D := if deq (toD p s (chF p s k x)) (.int (x : Nat)) then .tup (il (chF p s k x)) else .non
theorem toD_cases (p s : Nat) (cs : List Nat) : toD p s cs = .non ∨ ∃ y : Nat, toD p s cs = .int (y : Nat) := by
  unfold toD
  split
  · exact .inr ⟨_, rfl⟩
  · exact .inl rfl
theorem cm_told {x : Nat} {K : Bool → Prop} : cm .eq (toD p s cs) (.int (x : Nat)) K ↔ K (deq (toD p s cs) (.int (x : Nat))) := by
  rw [cm_eq]
  have e : shp 60 (toD p s cs) = true := by
    rcases toD_cases p s cs with h | ⟨y, h⟩ <;> rw [h] <;> rfl
  rw [e]
  exact and_iff_right rfl
theorem p_choices_for {k x : Nat} (d : Dl p s) (hk : k ≤ 20) (hx : x < p * s) : wF (T.cfg (n + 4)) 15 [.d (.int p), .d (.int s), .d (.int k), .d (.int x)] h K ↔ K (.d (cfD p s k x)) h := by
  refine wF_eq ?_ K
  rw [w_choices_for, b_choices_for]
  obtain ⟨N, hN⟩ : ∃ N, p * s = N := ⟨_, rfl⟩
  obtain ⟨W, hW⟩ : ∃ W, p ^ k = W := ⟨_, rfl⟩
  have d1 := d.p1
  have d2 := d.p2
  have dN := d.le
  have dN0 := d.pos
  have pw := fun K h => p_power_of (n := n + 2) (p := p) (k := k) (h := h) (K := K) (by omega) (by omega)
  have hm : (p : Int) * (s : Int) = (N : Int) := by rw [← Int.natCast_mul, hN]
  rw [hW] at pw
  rw [hN] at hx dN dN0
  have o1 : mulOk (-(x : Int)) (W : Int) = true := mulOk_abs (by omega)
  have dv : divOk (N : Int) = true := divOk_of (by omega) (by omega)
  have hc : -(-(x : Int) * (W : Int) / (N : Int)) = ((cl (x * W) N : Nat) : Int) := by
    rw [Int.neg_mul, ← Int.natCast_mul]
    exact cl_int dN0
  have sm : smallI (k : Int) = true := smallI_of2 (by omega) (by omega)
  have nk := fun K h => p_need_whole (n := n + 1) (h := h) (K := K) (i := (k : Int)) (lo := 0) (hi := 20) (by omega) (by omega)
  have nx := fun K h => p_need_whole (n := n + 1) (h := h) (K := K) (i := (x : Int)) (lo := 0) (hi := (N : Int) - 1) (by omega) (by omega)
  simp [-Int.neg_mul, q_deal (n := n) d, nk, nx, d.ok, hm, pw, o1, dv, hc, sm]
  rw [rngL_len (N := k) rfl]
  refine dg_loop (p := p) (by omega) d2 _ (cl (x * W) N) [] _ none rfl (by simp; omega) fun z y => ?_
  rw [List.nil_append, List.length_map, List.length_range]
  have ec : dg p k (cl (x * W) N) = chF p s k x := by unfold chF; rw [hW, hN]
  rw [ec]
  have hl : (chF p s k x).length ≤ 20 := by unfold chF; rw [dg_len]; exact hk
  unfold cfD
  cases e : deq (toD p s (chF p s k x)) (.int (x : Nat)) <;> simp [q_told (n := n) d hl, cm_told, e]
/-! ### parted -/
def pls (p s : Nat) (cs : List Nat) : List D := (List.range (p * s)).map fun x => .int (plc p s cs x : Nat)
def isq (p s : Nat) (cs : List Nat) : D → D → Bool
  | .int i, .int j => decide (0 ≤ i) && decide (i < (p * s : Nat)) && decide (0 ≤ j) && decide (j < (p * s : Nat)) && decide (i < j) && !decide (plc p s cs i.toNat = plc p s cs j.toNat)
  | _, _ => false
def isp (p s : Nat) (cs : List Nat) : D → Bool
  | .tup ds => if ds.length = 2 then isq p s cs (ds.getD 0 .non) (ds.getD 1 .non) else false
  | _ => false
end
end Lw
set_option linter.all false
set_option maxRecDepth 100000
set_option maxHeartbeats 1600000
namespace Lw
open PySem Ev
section
variable {n : Nat} {h t : Hh} {K : Val → Hh → Prop} {p s : Nat} {cs : List Nat}
theorem isp_ab {a b : D} : isp p s cs (.tup [a, b]) = isq p s cs a b := rfl
theorem isq_ii {i j : Int} : isq p s cs (.int i) (.int j) = (decide (0 ≤ i) && decide (i < (p * s : Nat)) && decide (0 ≤ j) && decide (j < (p * s : Nat)) && decide (i < j) && !decide (plc p s cs i.toNat = plc p s cs j.toNat)) := rfl
theorem isp_two {a b : D} (e : (wh 0 (((p * s : Nat) : Int) - 1) a && wh 0 (((p * s : Nat) : Int) - 1) b) = false) : isp p s cs (.tup [a, b]) = false := by
  rw [isp_ab]
  cases a <;> cases b <;> first | rfl | skip
  rename_i i j
  rw [isq_ii]
  simp only [wh] at e
  by_cases h1 : 0 ≤ i
  · by_cases h2 : i < (p * s : Nat)
    · by_cases h3 : 0 ≤ j
      · by_cases h4 : j < (p * s : Nat)
        · rw [decide_eq_true h1, decide_eq_true h3, decide_eq_true (show i ≤ ((p * s : Nat) : Int) - 1 by omega), decide_eq_true (show j ≤ ((p * s : Nat) : Int) - 1 by omega)] at e
          cases e
        · rw [decide_eq_false h4]; simp
      · rw [decide_eq_false h3]; simp
    · rw [decide_eq_false h2]; simp
  · rw [decide_eq_false h1]; simp
theorem isp_len {ds : List D} (e : ds.length ≠ 2) : isp p s cs (.tup ds) = false := if_neg e
theorem isp_int {x y : Nat} (hx : x < p * s) (hy : y < p * s) : isp p s cs (.tup [.int x, .int y]) = (decide ((x : Int) < (y : Int)) && !decide (plc p s cs x = plc p s cs y)) := by
  rw [isp_ab, isq_ii, decide_eq_true (show (0 : Int) ≤ x by omega), decide_eq_true (show (0 : Int) ≤ y by omega), decide_eq_true (show (x : Int) < (p * s : Nat) by omega), decide_eq_true (show (y : Int) < (p * s : Nat) by omega)]
  simp
theorem p_are_parted (d : Dl p s) (c : Ch p cs) {v : D} {N : Nat} (hv : shp (N + 2) v = true) : wF (T.cfg (n + 5)) 13 [.d (.int p), .d (.int s), .d (.tup (il cs)), .d v] h K ↔ K (.d (.bl (isp p s cs v))) h := by
  refine wF_eq ?_ K
  rw [w_are_parted, b_are_parted]
  obtain ⟨M, hM⟩ : ∃ M, p * s = M := ⟨_, rfl⟩
  have hm : (p : Int) * (s : Int) = (M : Int) := by rw [← Int.natCast_mul, hM]
  have nt : tpo 2 2 v = false → isp p s cs v = false := fun e => by
    cases v with
    | tup ds =>
      refine isp_len fun z => ?_
      simp [tpo, z] at e
    | _ => rfl
  cases et : tpo 2 2 v with
  | false => simp [q_choices (n := n) d c, d.ok, hm, p_tup_of (d := v) hv, et, nt et]
  | true =>
    cases v with
    | tup ds =>
      have hl : ds.length = 2 := by
        unfold tpo at et
        simp only [Bool.and_eq_true, decide_eq_true_eq] at et
        omega
      match ds, hl with
      | [a, b], _ =>
        have hs : shps (N + 1) [a, b] = true := by simpa [shp] using hv
        have sa : shp (N + 1) a = true := shps_mem hs List.mem_cons_self
        have sb : shp (N + 1) b = true := shps_mem hs (List.mem_cons_of_mem _ List.mem_cons_self)
        cases ea : wh 0 ((M : Int) - 1) a with
        | false =>
          have := isp_two (cs := cs) (p := p) (s := s) (a := a) (b := b) (by rw [hM, ea]; rfl)
          simp [q_choices (n := n) d c, d.ok, hm, p_tup_of (d := .tup [a, b]) hv, et, p_whole sa, ea, this]
        | true =>
          cases eb : wh 0 ((M : Int) - 1) b with
          | false =>
            have := isp_two (cs := cs) (p := p) (s := s) (a := a) (b := b) (by rw [hM, eb, Bool.and_false])
            simp [q_choices (n := n) d c, d.ok, hm, p_tup_of (d := .tup [a, b]) hv, et, p_whole sa, p_whole sb, ea, eb, this]
          | true =>
            cases a with
            | int i =>
              cases b with
              | int j =>
                simp only [wh, Bool.and_eq_true, decide_eq_true_eq] at ea eb
                obtain ⟨x, rfl⟩ := Int.eq_ofNat_of_zero_le ea.1
                obtain ⟨y, rfl⟩ := Int.eq_ofNat_of_zero_le eb.1
                have ea' : wh 0 ((M : Int) - 1) (.int (x : Nat)) = true := by simp [wh]; omega
                have eb' : wh 0 ((M : Int) - 1) (.int (y : Nat)) = true := by simp [wh]; omega
                have hx : x < p * s := by omega
                have hy : y < p * s := by omega
                have ei := isp_int (cs := cs) hx hy
                by_cases exy : x < y
                · have exy' : (x : Int) < (y : Int) := by omega
                  simp [q_choices (n := n) d c, d.ok, hm, p_tup_of (d := .tup [.int (x : Nat), .int (y : Nat)]) hv, et, p_whole sa, p_whole sb, ea', eb', exy, q_place (n := n + 2) (x := x) d c.ln, q_place (n := n + 2) (x := y) d c.ln, ei]
                  omega
                · have exy' : ¬ (x : Int) < (y : Int) := by omega
                  simp [q_choices (n := n) d c, d.ok, hm, p_tup_of (d := .tup [.int (x : Nat), .int (y : Nat)]) hv, et, p_whole sa, p_whole sb, ea', eb', exy, ei]
              | _ => simp [wh] at eb
            | _ => simp [wh] at ea
    | _ => cases et
end
end Lw
set_option linter.all false
set_option maxRecDepth 100000
set_option maxHeartbeats 1600000
namespace Lw
open PySem Ev
section
variable {n : Nat} {h t : Hh} {K : Val → Hh → Prop} {x : Cell}
/-! ### values near others -/
theorem str_all : ∀ y : Fin 25, ((Str.ofString (toString ((y.val : Nat) : Int))).cps.all fun z => decide (z < 1114112)) = true := by decide +kernel
theorem str_ok {y : Nat} (hy : y < 25) (k : Nat) : shp (k + 1) (.str (toString (y : Int))) = true := str_all ⟨y, hy⟩
def Vb : Nat → D → Prop
  | 0, d => d = .non ∨ ∃ y : Nat, y < 25 ∧ d = .int (y : Nat)
  | j + 1, d => (d = .non ∨ ∃ y : Nat, y < 25 ∧ d = .int (y : Nat)) ∨ ∃ ds, d = .tup ds ∧ ds ≠ [] ∧ ds.length ≤ 1000 ∧ ∀ y ∈ ds, Vb j y
theorem shps_app {k : Nat} : ∀ {xs ys : List D}, shps k xs = true → shps k ys = true → shps k (xs ++ ys) = true
  | [], ys, _, h => h
  | x :: xs, ys, h, h2 => by
    rw [shps, Bool.and_eq_true] at h
    rw [List.cons_append, shps, h.1, shps_app h.2 h2]
    rfl
theorem shps_of {k : Nat} : ∀ {xs : List D}, (∀ x ∈ xs, Ev.shp k x = true) → shps k xs = true
  | [], _ => by cases k <;> rfl
  | x :: xs, h => by rw [shps, h x List.mem_cons_self, shps_of fun y hy => h y (List.mem_cons_of_mem _ hy)]; rfl
theorem Vb.shp : ∀ {j : Nat} {d : D}, Vb j d → Ev.shp (j + 1) d = true
  | 0, d, h => by rcases h with rfl | ⟨y, _, rfl⟩ <;> rfl
  | j + 1, d, h => by
    rcases h with (rfl | ⟨y, _, rfl⟩) | ⟨ds, rfl, _, _, h⟩
    · rfl
    · rfl
    · rw [Ev.shp]
      exact shps_of fun y hy => Vb.shp (h y hy)
/-- what may come -/
def Rb (j : Nat) (r : D) : Prop := Ev.shp (j + 2) r = true ∧ ∀ ds, r = .tup ds → ds.length ≤ 1001
theorem bent0 {s : Int × Int} {d : D} {j : Nat} (v : d = .non ∨ ∃ y : Nat, y < 25 ∧ d = .int (y : Nat)) (q : ∀ r s', Rb j r → K (.d r) (cup s' :: t)) : wF (T.cfg (n + 3)) 21 [.ref 0, .d d] (cup s :: t) K := by
  rw [w__law_bent, b__law_bent]
  rcases v with rfl | ⟨y, hy, rfl⟩
  · simp
    refine p_rollI (by omega) (by omega) fun r s' _ _ => ?_
    with_reducible refine p_someD ?_ ?_ ?_
    · simp
    · simp
    intro d s'' hd
    refine (fin_d1' (c' := _)).mpr ?_
    refine q _ _ ?_
    simp only [List.mem_cons, List.not_mem_nil, or_false] at hd
    rcases hd with rfl | rfl | rfl | rfl | rfl | rfl
    · exact ⟨rfl, fun ds e => by cases e⟩
    · exact ⟨rfl, fun ds e => by cases e⟩
    · exact ⟨rfl, fun ds e => by cases e; simp⟩
    · exact ⟨so_0 _, fun ds e => by cases e⟩
    · exact ⟨rfl, fun ds e => by cases e⟩
    · exact ⟨by rw [Ev.shp, shps, so_1]; rfl, fun ds e => by cases e; simp⟩
  · have hl : ((y : Nat) : Int).natAbs.log2 < 1920 := by
      rw [Int.natAbs_natCast]
      refine Nat.lt_of_le_of_lt (Nat.log2_le_self y) (by omega)
    simp
    refine p_rollI (by omega) (by omega) fun r s' _ _ => ?_
    have hl2 : y.log2 < 1920 := Nat.lt_of_le_of_lt (Nat.log2_le_self y) (by omega)
    simp [hl2]
    with_reducible refine p_someD ?_ ?_ ?_
    · simp
    · simp
    intro d s'' hd
    refine (fin_d1' (c' := _)).mpr ?_
    refine q _ _ ?_
    simp only [List.mem_cons, List.not_mem_nil, or_false] at hd
    rcases hd with rfl | rfl | rfl | rfl | rfl | rfl | rfl | rfl
    · exact ⟨rfl, fun ds e => by cases e⟩
    · exact ⟨rfl, fun ds e => by cases e⟩
    · exact ⟨rfl, fun ds e => by cases e⟩
    · exact ⟨rfl, fun ds e => by cases e⟩
    · exact ⟨rfl, fun ds e => by cases e⟩
    · exact ⟨rfl, fun ds e => by cases e⟩
    · exact ⟨str_ok hy _, fun ds e => by cases e⟩
    · exact ⟨rfl, fun ds e => by cases e; simp⟩
theorem cut_mid {ds : List D} {a : Nat} (ha : a ≤ ds.length) : cutD ds (some (a : Int)) (some ((a : Int) + 1)) = (ds.drop a).take 1 := by
  unfold cutD
  show (ds.drop (if (a : Int) < 0 then ((a : Int) + (ds.length : Int)).toNat else min (a : Int).toNat ds.length)).take ((if (a : Int) + 1 < 0 then ((a : Int) + 1 + (ds.length : Int)).toNat else min ((a : Int) + 1).toNat ds.length) - (if (a : Int) < 0 then ((a : Int) + (ds.length : Int)).toNat else min (a : Int).toNat ds.length)) = _
  rw [if_neg (by omega), if_neg (by omega), Int.toNat_natCast, Nat.min_eq_left ha, show ((a : Int) + 1).toNat = a + 1 by omega]
  by_cases z : a = ds.length
  · subst z
    rw [List.drop_length]
    simp
  · rw [Nat.min_eq_left (by omega), show a + 1 - a = 1 by omega]
theorem Rb.tup {j : Nat} {xs : List D} (h : ∀ y ∈ xs, Ev.shp (j + 1) y = true) (hl : xs.length ≤ 1001) : Rb j (.tup xs) :=
  ⟨by rw [Ev.shp]; exact shps_of h, fun ds e => by cases e; exact hl⟩
theorem p_bent : ∀ {j n : Nat} {d : D} {s : Int × Int} {K : Val → Hh → Prop}, j ≤ 50 → Vb j d → (∀ r s', Rb j r → K (.d r) (cup s' :: t)) → wF (T.cfg (n + j + 3)) 21 [.ref 0, .d d] (cup s :: t) K
  | 0, n, d, s, K, _, v, q => bent0 v q
  | j + 1, n, d, s, K, hj, v, q => by
    rcases v with v | ⟨ds, rfl, hne, hl, hv⟩
    · exact bent0 (n := n + (j + 1)) v q
    · have hs1 : ∀ y ∈ ds, Ev.shp (j + 1) y = true := fun y hy => (hv y hy).shp
      have hs2 : ∀ y ∈ ds, Ev.shp (j + 2) y = true := fun y hy => shp_mono _ _ (hs1 y hy)
      have h0 : 0 < ds.length := List.length_pos_iff.mpr hne
      have e0 : deqs ds [] = false := by cases ds with | nil => exact absurd rfl hne | cons a b => rfl
      have d60 : Ev.shp 60 (.tup ds) = true := shp_le (n := j + 2) (by rw [Ev.shp]; exact shps_of hs1) (by omega)
      have s60 : Ev.shp 60 (.tup ([] : List D)) = true := rfl
      rw [show n + (j + 1) + 3 = n + j + 3 + 1 by omega, w__law_bent, b__law_bent]
      simp [cm_ne, e0, s60, d60]
      refine p_rollI (by omega) (by omega) fun r0 s0 _ _ => ?_
      simp
      refine ⟨fun _ => ?_, fun _ => ?_⟩
      · refine p_rollI (by omega) (by omega) fun r s1 hr0 hr1 => ?_
        obtain ⟨a, rfl⟩ := Int.eq_ofNat_of_zero_le hr0
        have ha : a < ds.length := by omega
        have e1 : ∀ K, sL (.tup ds) none (some (a : Int)) K ↔ K (.v (.d (.tup (ds.take a)))) := fun K => by rw [sL_to (by omega), Int.toNat_natCast]
        have e2 : ∀ K, sL (.tup ds) (some ((a : Int) + 1)) none K ↔ K (.v (.d (.tup (ds.drop (a + 1))))) := fun K => by rw [sL_from (by omega), show ((a : Int) + 1).toNat = a + 1 by omega]
        simp [iX_t, atD_nat ha, e1]
        refine p_bent (by omega) (hv _ (List.getElem_mem ha)) fun r s' hr => ?_
        have l1 : (ds.take a).length = a := by rw [List.length_take]; omega
        have l2 : (ds.drop (a + 1)).length = ds.length - (a + 1) := List.length_drop
        have l3 : a + 1 ≤ 16777216 := by omega
        have l4 : a + 1 + (ds.length - (a + 1)) ≤ 16777216 := by omega
        have l5 : min a ds.length = a := by omega
        have l6 : a + (ds.length - (a + 1) + 1) ≤ 16777216 := by omega
        have fin : Rb (j + 1) (.tup (ds.take a ++ r :: ds.drop (a + 1))) := Rb.tup (fun y hy => by
          rcases List.mem_append.mp hy with hy | hy
          · exact hs2 y (List.mem_of_mem_take hy)
          · rcases List.mem_cons.mp hy with rfl | hy
            · exact hr.1
            · exact hs2 y (List.mem_of_mem_drop hy)) (by rw [List.length_append, List.length_cons, l1, l2]; omega)
        simp [e2, l3, l4, l5, l6]
        exact q _ _ fin
      · refine p_rollI (by omega) (by omega) fun w s1 hw0 hw1 => ?_
        simp
        refine p_rollI (by omega) (by omega) fun r s2 hr0 hr1 => ?_
        obtain ⟨a, rfl⟩ := Int.eq_ofNat_of_zero_le hr0
        have ha : a ≤ ds.length := by omega
        have e1 : ∀ K, sL (.tup ds) none (some (a : Int)) K ↔ K (.v (.d (.tup (ds.take a)))) := fun K => by rw [sL_to (by omega), Int.toNat_natCast]
        have e2 : ∀ K, sL (.tup ds) (some ((a : Int) + 1)) none K ↔ K (.v (.d (.tup (ds.drop (a + 1))))) := fun K => by rw [sL_from (by omega), show ((a : Int) + 1).toNat = a + 1 by omega]
        generalize hm : (ds.drop a).take 1 = md
        have e3 : ∀ K, sL (.tup ds) (some (a : Int)) (some ((a : Int) + 1)) K ↔ K (.v (.d (.tup md))) := fun K => by
          show K (.v (.d (.tup (cutD ds (some (a : Int)) (some ((a : Int) + 1)))))) ↔ _
          rw [cut_mid ha, hm]
        have mm : ∀ y ∈ md, y ∈ ds := fun y hy => by rw [← hm] at hy; exact List.mem_of_mem_drop (List.mem_of_mem_take hy)
        have lm : md.length + a ≤ ds.length ∧ md.length ≤ 1 := by rw [← hm, List.length_take, List.length_drop]; omega
        have l1 : (ds.take a).length = a := by rw [List.length_take]; omega
        have l2 : (ds.drop (a + 1)).length = ds.length - (a + 1) := List.length_drop
        have f1 : Rb (j + 1) (.lst ds) := ⟨by rw [Ev.shp]; exact shps_of hs2, fun ds e => by cases e⟩
        have f2 : Rb (j + 1) (.tup (ds.take a ++ ds.drop (a + 1))) := Rb.tup (fun y hy => by
          rcases List.mem_append.mp hy with hy | hy
          · exact hs2 y (List.mem_of_mem_take hy)
          · exact hs2 y (List.mem_of_mem_drop hy)) (by rw [List.length_append, l1, l2]; omega)
        have f3 : Rb (j + 1) (.tup (ds.take a ++ (md ++ (md ++ ds.drop (a + 1))))) := Rb.tup (fun y hy => by
          rcases List.mem_append.mp hy with hy | hy
          · exact hs2 y (List.mem_of_mem_take hy)
          · rcases List.mem_append.mp hy with hy | hy
            · exact hs2 y (mm y hy)
            · rcases List.mem_append.mp hy with hy | hy
              · exact hs2 y (mm y hy)
              · exact hs2 y (List.mem_of_mem_drop hy)) (by
          rw [List.length_append, List.length_append, List.length_append, l1, l2]
          omega)
        have f4 : Rb (j + 1) (.tup ds.reverse) := Rb.tup (fun y hy => hs2 y (List.mem_reverse.mp hy)) (by rw [List.length_reverse]; omega)
        have f5 : Rb (j + 1) .non := ⟨rfl, fun ds e => by cases e⟩
        have l5 : min a ds.length = a := by omega
        simp [e1, e2, e3, l5]
        refine ⟨fun _ => q _ _ f1, fun _ => ⟨fun _ => ⟨by omega, q _ _ f2⟩, fun _ => ⟨fun _ => ?_, fun _ => ⟨fun _ => q _ _ f4, fun _ => q _ _ f5⟩⟩⟩⟩
        exact ⟨by omega, by omega, by omega, q _ _ f3⟩
end
end Lw
set_option linter.all false
/-! cards dealt into lots -/
namespace Dk
def lot (p N r : Nat) : List Nat := (List.range N).filter fun c => c % p == r
theorem filter_one {p r : Nat} (hr : r < p) : (List.range p).filter (fun j => j == r) = [r] := by
  induction p with
  | zero => omega
  | succ p ih =>
    rw [List.range_succ, List.filter_append]
    by_cases e : r = p
    · subst e
      have : (List.range r).filter (fun j => j == r) = [] := by
        rw [List.filter_eq_nil_iff]
        intro a ha
        have := List.mem_range.mp ha
        simp; omega
      rw [this]
      simp
    · rw [ih (by omega)]
      have : ¬ (p == r) = true := by simp; omega
      simp [this]
theorem range_add' (a : Nat) : ∀ b, List.range (a + b) = List.range a ++ (List.range b).map (a + ·)
  | 0 => by simp
  | b + 1 => by rw [← Nat.add_assoc, List.range_succ, range_add' a b, List.range_succ, List.map_append, List.append_assoc]; rfl
theorem lot_eq {p r : Nat} (hr : r < p) : ∀ s, lot p (p * s) r = (List.range s).map fun t => t * p + r
  | 0 => rfl
  | s + 1 => by
    have ih := lot_eq hr s
    unfold lot at ih ⊢
    rw [Nat.mul_succ, range_add', List.filter_append, ih, List.range_succ, List.map_append]
    congr 1
    rw [List.filter_map]
    have e : ((fun c => c % p == r) ∘ fun x => p * s + x) = fun x : Nat => (x % p == r) := by
      funext x
      simp
    rw [e]
    have e2 : (List.range p).filter (fun x => x % p == r) = (List.range p).filter (fun x => x == r) := List.filter_congr fun x hx => by rw [Nat.mod_eq_of_lt (List.mem_range.mp hx)]
    rw [e2, filter_one hr]
    simp [Nat.mul_comm]
theorem lot_len {p r : Nat} (hr : r < p) (s : Nat) : (lot p (p * s) r).length = s := by rw [lot_eq hr, List.length_map, List.length_range]
theorem lot_mem {p N r x : Nat} : x ∈ lot p N r ↔ x < N ∧ x % p = r := by simp [lot]
theorem idx_at {x : Nat} : ∀ (l : List Nat) (i : Nat), l[i]? = some x → (∀ j, j < i → l[j]? ≠ some x) → l.idxOf x = i
  | [], i, h, _ => by simp at h
  | y :: l, 0, h, _ => by
    simp at h
    rw [h, List.idxOf_cons]
    simp
  | y :: l, i + 1, h, n => by
    have h0 := n 0 (by omega)
    have : ¬ (y == x) = true := by simpa using h0
    rw [List.idxOf_cons, show (y == x) = false by simpa using this, cond_false, idx_at l i (by simpa using h) fun j hj => by have := n (j + 1) (by omega); simpa using this]
theorem lot_idx {p s x : Nat} (hp : 0 < p) (hx : x < p * s) : (lot p (p * s) (x % p)).idxOf x = x / p := by
  have hr := Nat.mod_lt x hp
  have hd : x / p < s := by rw [Nat.div_lt_iff_lt_mul hp, Nat.mul_comm]; exact hx
  refine idx_at _ _ ?_ fun j hj => ?_
  · rw [lot_eq hr, List.getElem?_map, List.getElem?_range hd]
    have := Nat.div_add_mod x p
    show some (x / p * p + x % p) = _
    rw [Nat.mul_comm, this]
  · rw [lot_eq hr, List.getElem?_map, List.getElem?_range (by omega)]
    intro z
    have z := Option.some.inj z
    have := Nat.div_add_mod x p
    have z2 : j * p + x % p = p * (x / p) + x % p := by rw [this]; exact z
    have : p * j = p * (x / p) := by rw [Nat.mul_comm]; omega
    have := Nat.eq_of_mul_eq_mul_left hp this
    omega
def oth (p own : Nat) : List Nat := (List.range p).filter fun r => !(r == own)
theorem oth_len {own : Nat} : ∀ p, own < p → (oth p own).length = p - 1 := by
  have key : ∀ p, (oth p own).length = if own < p then p - 1 else p := by
    intro p
    induction p with
    | zero => rfl
    | succ p ih =>
      unfold oth at ih ⊢
      rw [List.range_succ, List.filter_append, List.length_append, ih]
      by_cases e : p = own
      · subst e
        simp
      · have : (!(p == own)) = true := by simp [e]
        simp only [List.filter_cons, this, if_true, List.filter_nil, List.length_singleton]
        by_cases h : own < p
        · rw [if_pos h, if_pos (by omega)]; omega
        · rw [if_neg h, if_neg (by omega)]
  intro p h
  rw [key, if_pos h]
theorem flat_len {p s : Nat} : ∀ rs : List Nat, (∀ r ∈ rs, r < p) → (rs.map (lot p (p * s))).flatten.length = rs.length * s
  | [], _ => by simp
  | r :: rs, h => by
    rw [List.map_cons, List.flatten_cons, List.length_append, lot_len (h r List.mem_cons_self), flat_len rs fun r hr => h r (List.mem_cons_of_mem _ hr), List.length_cons, Nat.succ_mul, Nat.add_comm]
def ord (p own ch : Nat) : List Nat := (oth p own).take ch ++ [own] ++ (oth p own).drop ch
def deck (p s own ch : Nat) : List Nat := ((ord p own ch).map (lot p (p * s))).flatten
theorem deck_idx {p s x ch : Nat} (hx : x < p * s) (hc : ch < p) : x ∈ deck p s (x % p) ch ∧ (deck p s (x % p) ch).idxOf x = ch * s + x / p := by
  have hp : 0 < p := by omega
  have hr := Nat.mod_lt x hp
  have hm : x ∈ lot p (p * s) (x % p) := lot_mem.mpr ⟨hx, rfl⟩
  unfold deck ord
  rw [List.map_append, List.map_append, List.flatten_append, List.flatten_append]
  have hA : x ∉ (((oth p (x % p)).take ch).map (lot p (p * s))).flatten := by
    intro z
    obtain ⟨l, hl, hxl⟩ := List.mem_flatten.mp z
    obtain ⟨r, hr', rfl⟩ := List.mem_map.mp hl
    have h1 := (lot_mem.mp hxl).2
    have h2 := List.mem_of_mem_take hr'
    unfold oth at h2
    have := (List.mem_filter.mp h2).2
    simp at this
    exact this h1.symm
  have hl : (((oth p (x % p)).take ch).map (lot p (p * s))).flatten.length = ch * s := by
    rw [flat_len, List.length_take, oth_len p hr, Nat.min_eq_left (by omega)]
    intro r hr'
    have h2 := List.mem_of_mem_take hr'
    unfold oth at h2
    exact List.mem_range.mp (List.mem_filter.mp h2).1
  have e : ([x % p].map (lot p (p * s))).flatten = lot p (p * s) (x % p) := by simp
  rw [e]
  refine ⟨List.mem_append_left _ (List.mem_append_right _ hm), ?_⟩
  rw [List.idxOf_append, if_pos (List.mem_append_right _ hm), List.idxOf_append, if_neg hA, lot_idx hp hx, hl, Nat.add_comm]
end Dk
set_option linter.all false
set_option maxRecDepth 100000
set_option maxHeartbeats 1600000
namespace Lw
open PySem Ev Dk
section
variable {n : Nat} {h t : Hh} {K : Val → Hh → Prop} {p s : Nat} {cs : List Nat}
def lotV (p N r : Nat) : D := .lst (il (lot p N r))
theorem lotsD_eq (p N : Nat) : lotsD p N = (List.range p).map (lotV p N) := rfl
theorem enuL_range (f : Nat → D) : ∀ k m, enuL m ((List.range' m k).map f) = (List.range' m k).map fun r => D.tup [.int (r : Nat), f r]
  | 0, m => rfl
  | k + 1, m => by
    rw [List.range'_succ, List.map_cons, enuL, enuL_range f k (m + 1)]
    rfl
theorem enu_lots (p N : Nat) : enuL 0 (lotsD p N) = (List.range p).map fun r => D.tup [.int (r : Nat), lotV p N r] := by
  rw [lotsD_eq, List.range_eq_range', enuL_range]
theorem fm_oth (p N own : Nat) : ((List.range p).filterMap fun r => if r = own then none else some (lotV p N r)) = (oth p own).map (lotV p N) := by
  unfold oth
  induction List.range p with
  | nil => rfl
  | cons r rs ih =>
    rw [List.filterMap_cons, List.filter_cons]
    by_cases e : r = own
    · subst e
      simp [ih]
    · simp [e, ih]
theorem sL_toF {ds : List D} {m : Int} {K : W → Prop} (h : 0 ≤ m) : sL (.lst ds) none (some m) K ↔ K (.fresh (ds.take m.toNat)) := by
  show K (.fresh (cutD ds none (some m))) ↔ _
  rw [cut_to h]
theorem sL_fromF {ds : List D} {m : Int} {K : W → Prop} (h : 0 ≤ m) : sL (.lst ds) (some m) none K ↔ K (.fresh (ds.drop m.toNat)) := by
  show K (.fresh (cutD ds (some m) none)) ↔ _
  rw [cut_from h]
theorem deck_loop {N : Nat} {C : Ev.Flow → Hh → Prop} {e0 e1 e2 e3 e4 e5 e6 e7 e10 e11 : Option Val} : ∀ (rs acc : List Nat) (x : Option Val), acc.length + (rs.map (lot p N)).flatten.length ≤ 1000000 → (∀ x, C (.next [e0, e1, e2, e3, e4, e5, e6, e7, some (.d (.lst (il (acc ++ (rs.map (lot p N)).flatten)))), x, e10, e11]) h) →
    wFr (T.cfg n) (.nm 9) (.cons (.asg (.nm 8) (.bin .add (.var 8) (.var 9)))
  .nil) (rs.map (lotV p N)) [e0, e1, e2, e3, e4, e5, e6, e7, some (.d (.lst (il acc))), x, e10, e11] h C
  | [], acc, x, _, q => by
    rw [List.map_nil, wFr_0]
    have := q x
    rwa [List.map_nil, List.flatten_nil, List.append_nil] at this
  | r :: rs, acc, x, hl, q => by
    rw [List.map_cons, wFr_1]
    rw [List.map_cons, List.flatten_cons, List.length_append] at hl
    have ih := deck_loop (N := N) (C := C) (e0 := e0) (e1 := e1) (e2 := e2) (e3 := e3) (e4 := e4) (e5 := e5) (e6 := e6) (e7 := e7) (e10 := e10) (e11 := e11) rs (acc ++ lot p N r) (some (.d (lotV p N r))) (by rw [List.length_append]; omega) (fun x => by
      have := q x
      rw [List.map_cons, List.flatten_cons] at this
      rwa [List.append_assoc])
    have hl2 : (il acc).length + (il (lot p N r)).length ≤ 16777216 := by rw [il_len, il_len]; omega
    rw [il_app] at ih
    unfold lotV at ih ⊢
    simp [hl2]
    exact ih
theorem il_int (l : List Nat) : il l = (l.map fun y : Nat => (y : Int)).map D.int := by simp [il]
theorem idx_map (X : Nat) : ∀ R : List Nat, (R.map fun y : Nat => (y : Int)).idxOf (X : Int) = R.idxOf X
  | [] => rfl
  | y :: R => by
    rw [List.map_cons, List.idxOf_cons, List.idxOf_cons, idx_map X R]
    by_cases e : y = X
    · simp [e]
    · have : ¬ (y : Int) = X := by omega
      rw [show ((y : Int) == (X : Int)) = false from beq_eq_false_iff_ne.mpr this, show (y == X) = false from beq_eq_false_iff_ne.mpr e]
theorem cX_il {R : List Nat} {X : Nat} (hX : X ∈ R) {K : D → Prop} : cX true (.lst (il R)) (X : Nat) K ↔ K (.int (R.idxOf X : Nat)) := by
  rw [il_int, cX_idx (List.mem_map.mpr ⟨X, hX, rfl⟩), idx_map]
def stp (p s c x : Nat) : Nat := c * s + x / p
theorem p_law_dealt (d : Dl p s) {ch x : Nat} (hc : ch < p) (hx : x < p * s) : wF (T.cfg (n + 1)) 23 [.d (.int p), .d (.int s), .d (.int ch), .d (.int x)] h K ↔ K (.d (.int (stp p s ch x : Nat))) h := by
  refine wF_eq ?_ K
  rw [w__law_dealt, b__law_dealt]
  have d1 := d.p1
  have d2 := d.p2
  have d3 := d.s1
  have d4 := d.s2
  have hN := d.le
  have hr := Nat.mod_lt x (show 0 < p by omega)
  obtain ⟨N, hNe⟩ : ∃ N, p * s = N := ⟨_, rfl⟩
  have hm : (p : Int) * (s : Int) = (N : Int) := by rw [← Int.natCast_mul, hNe]
  have lo : lotsOk 4 5 0 1 12 (p : Int) (s : Int) = true := by
    unfold lotsOk
    simp only [Bool.and_eq_true, decide_eq_true_eq]
    omega
  have em : (x : Int) % (p : Int) = ((x % p : Nat) : Int) := (Int.natCast_emod x p).symm
  obtain ⟨own, ho⟩ : ∃ own, x % p = own := ⟨_, rfl⟩
  rw [ho] at em hr
  have key := deck_idx hx hc
  rw [ho] at key
  have hdl : (deck p s own ch).length ≤ 1000000 := by
    unfold deck
    rw [flat_len]
    · have : (ord p own ch).length ≤ p + p := by
        unfold ord oth
        rw [List.length_append, List.length_append, List.length_take, List.length_drop]
        have := List.length_filter_le (fun r => !(r == own)) (List.range p)
        rw [List.length_range] at this
        simp only [List.length_singleton]
        omega
      exact Nat.le_trans (Nat.mul_le_mul this d4) (by omega)
    · intro r hr'
      unfold ord oth at hr'
      simp only [List.mem_append, List.mem_singleton] at hr'
      rcases hr' with (z | z) | z
      · exact List.mem_range.mp (List.mem_filter.mp (List.mem_of_mem_take z)).1
      · omega
      · exact List.mem_range.mp (List.mem_filter.mp (List.mem_of_mem_drop z)).1
  simp [lo, hm, em, show 0 < p by omega, enu_lots, wipeE]
  refine wLc_fmM (xs := List.range p) (fun r => D.tup [.int (r : Nat), lotV p N r]) (fun r => if r = own then none else some (lotV p N r)) (fun r hr' => ?_) (by rw [List.length_range]; show p ≤ 16777216; omega) ?_
  · by_cases e : r = own
    · subst e
      simp [lotV]
    · have : ¬ (r : Int) = own := by omega
      simp [e, this, lotV]
  rw [fm_oth]
  have ix : ∀ K, iX (.lst (lotsD p N)) (.int (own : Nat)) K ↔ K (lotV p N own) := fun K => by
    rw [iX_l, atD_nat (by rw [lotsD_eq, List.length_map, List.length_range]; exact hr)]
    simp [lotsD_eq]
  have ol := oth_len p hr
  have a1 : (oth p own).length ≤ 20 := by omega
  have a2 : min ch (oth p own).length + 1 ≤ 16777216 := by omega
  have a3 : min ch (oth p own).length + 1 + ((oth p own).length - ch) ≤ 16777216 := by omega
  have a4 : min ch (oth p own).length + ((oth p own).length - ch + 1) ≤ 16777216 := by omega
  rw [sL_toF (by omega)]
  simp [ix]
  rw [sL_fromF (by omega)]
  simp only [Int.toNat_natCast]
  have ei : (List.take ch (List.map (lotV p N) (oth p own)) ++ [lotV p N own] ++ List.drop ch (List.map (lotV p N) (oth p own))) = (ord p own ch).map (lotV p N) := by
    unfold ord
    rw [List.map_append, List.map_append, List.map_take, List.map_drop]
    rfl
  have ei' : (List.take ch (List.map (lotV p N) (oth p own)) ++ lotV p N own :: List.drop ch (List.map (lotV p N) (oth p own))) = (ord p own ch).map (lotV p N) := by
    rw [← ei]; simp
  simp [-List.map_drop, -List.map_take, ei, ei', a2, a3, a4]
  refine ⟨by omega, ?_⟩
  have e0 : (some (Val.d (D.lst [])) : Option Val) = some (.d (.lst (il []))) := rfl
  rw [e0]
  have edk : ((ord p own ch).map (lot p N)).flatten = deck p s own ch := by unfold deck; rw [hNe]
  refine deck_loop (N := N) (ord p own ch) [] none (by rw [edk, List.length_nil]; omega) fun y => ?_
  rw [List.nil_append, edk]
  have key2 : (deck p s own ch).idxOf x = stp p s ch x := key.2
  simp [cX_il key.1, key2]
def rnX (p s : Nat) : List Nat → Nat → Nat
  | [], x => x
  | c :: cs, x => rnX p s cs (stp p s c x)
theorem step_lt (d : Dl p s) {c x : Nat} (hc : c < p) (hx : x < p * s) : stp p s c x < p * s := by
  unfold stp
  have h1 : x / p < s := by rw [Nat.div_lt_iff_lt_mul (by have := d.p1; omega), Nat.mul_comm]; exact hx
  have h2 : (c + 1) * s ≤ p * s := Nat.mul_le_mul_right _ hc
  rw [Nat.succ_mul] at h2
  omega
theorem run_plc (d : Dl p s) : ∀ (cs : List Nat) (x : Nat), rnX p s cs x = plc p s cs x
  | [], x => by unfold plc; simp [rnX, nb]
  | c :: cs, x => by
    have hp : 0 < p := by have := d.p1; omega
    rw [rnX, run_plc d cs]
    unfold plc stp
    rw [nb, List.length_cons, Nat.pow_succ, Nat.mul_comm (p ^ cs.length) p, ← Nat.div_div_eq_div_mul]
    congr 1
    have e : x + p * s * (c + p * nb p cs) = x + p * (s * c + p * s * nb p cs) := by
      rw [Nat.mul_add, Nat.mul_add, Nat.mul_assoc p s c]
      congr 2
      rw [← Nat.mul_assoc, ← Nat.mul_assoc]
      congr 1
      rw [Nat.mul_comm (p * s) p]
    rw [e, Nat.add_mul_div_left _ _ hp, Nat.mul_comm c s]
    omega
theorem run_lt (d : Dl p s) : ∀ (cs : List Nat) (x : Nat), (∀ c ∈ cs, c < p) → x < p * s → rnX p s cs x < p * s
  | [], x, _, h => h
  | c :: cs, x, hc, h => run_lt d cs _ (fun c hc' => hc c (List.mem_cons_of_mem _ hc')) (step_lt d (hc c List.mem_cons_self) h)
theorem run_snoc : ∀ (cs : List Nat) (c x : Nat), rnX p s (cs ++ [c]) x = stp p s c (rnX p s cs x)
  | [], c, x => rfl
  | e :: cs, c, x => by rw [List.cons_append, rnX, rnX, run_snoc cs c]
def runL (p s : Nat) (cs : List Nat) : List D := (List.range (p * s)).map fun x => .int (rnX p s cs x : Nat)
theorem ixD {f : Nat → Nat} {N y : Nat} (hy : y < N) {K : D → Prop} : iX (.lst ((List.range N).map fun x => D.int (f x : Nat))) (.int (y : Nat)) K ↔ K (.int (f y : Nat)) := by
  rw [iX_l, atD_nat (by rw [List.length_map, List.length_range]; exact hy)]
  simp
theorem places_loop (d : Dl p s) {C : Ev.Flow → Hh → Prop} {e2 e6 : Option Val} : ∀ (cs pre : List Nat) (a b : Option Val), (∀ c ∈ pre ++ cs, c < p) → (∀ a b, C (.next [some (.d (.int p)), some (.d (.int s)), e2, some (.d (.lst (runL p s (pre ++ cs)))), a, b, none]) h) →
    wFr (T.cfg (n + 1)) (.nm 4) (.cons (.asg (.nm 5) (.lc (.call 23 (.cons (.var 0) (.cons (.var 1) (.cons (.var 4) (.cons (.var 6) .nil))))) (.nm 6) (.rng1 (.bin .mul (.var 0) (.var 1))) .nil [6]))
  (.cons (.asg (.nm 3) (.lc (.ix (.var 5) (.var 6)) (.nm 6) (.seq (.var 3)) .nil [6]))
  .nil)) (il cs) [some (.d (.int p)), some (.d (.int s)), e2, some (.d (.lst (runL p s pre))), a, b, none] h C
  | [], pre, a, b, _, q => by
    show wFr _ _ _ [] _ _ _
    rw [wFr_0]
    have := q a b
    rwa [List.append_nil] at this
  | c :: cs, pre, a, b, hc, q => by
    show wFr _ _ _ (D.int (c : Nat) :: il cs) _ _ _
    rw [wFr_1]
    have hcp : c < p := hc c (by simp)
    have hN := d.le
    have hm : (p : Int) * (s : Int) = ((p * s : Nat) : Int) := (Int.natCast_mul p s).symm
    have sm : smallI ((p : Int) * (s : Int)) = true := by rw [hm]; exact smallI_of2 (by omega) (by omega)
    simp [d.ok, sm, wipeE]
    rw [hm, rngL_len (N := p * s) rfl]
    refine wLc_mapM (xs := List.range (p * s)) (fun j : Nat => D.int (j : Nat)) (fun x => .int (stp p s c x : Nat)) (fun x hx => ?_) (by rw [List.length_range]; show _ ≤ 16777216; omega) ?_
    · have := fun K => p_law_dealt (n := n) (h := h) (K := K) d hcp (List.mem_range.mp hx)
      simp [this]
    unfold runL
    refine wLc_mapM (xs := List.range (p * s)) (fun x : Nat => D.int (rnX p s pre x : Nat)) (fun x => .int (rnX p s (pre ++ [c]) x : Nat)) (fun x hx => ?_) (by rw [List.length_range]; show _ ≤ 16777216; omega) ?_
    · have hl := run_lt d pre x (fun c' hc' => hc c' (List.mem_append_left _ hc')) (List.mem_range.mp hx)
      have ixx := fun K => ixD (f := stp p s c) (N := p * s) (K := K) hl
      simp [ixx, run_snoc]
    have ih := places_loop d (C := C) (e2 := e2) (e6 := e6) cs (pre ++ [c]) (some (.d (.int (c : Nat)))) (some (.d (.lst ((List.range (p * s)).map fun x => D.int (stp p s c x : Nat))))) (by rw [List.append_assoc]; exact hc) (fun a b => by rw [List.append_assoc]; exact q a b)
    unfold runL at ih
    simpa using ih
theorem p_law_places (d : Dl p s) (hc : ∀ c ∈ cs, c < p) : wF (T.cfg (n + 2)) 24 [.d (.int p), .d (.int s), .d (.tup (il cs))] h K ↔ K (.d (.lst (runL p s cs))) h := by
  refine wF_eq ?_ K
  rw [w__law_places, b__law_places]
  have hN := d.le
  have hm : (p : Int) * (s : Int) = ((p * s : Nat) : Int) := (Int.natCast_mul p s).symm
  have sm : smallI ((p : Int) * (s : Int)) = true := by rw [hm]; exact smallI_of2 (by omega) (by omega)
  have er : rngL 0 ((p : Int) * (s : Int)) = runL p s [] := by rw [hm, rngL_len (N := p * s) rfl]; rfl
  have el : (runL p s []).length ≤ 16777216 := by unfold runL; rw [List.length_map, List.length_range]; omega
  simp [d.ok, sm, er, el]
  refine places_loop d (e6 := none) cs [] none none (by simpa using hc) fun a b => ?_
  simp
theorem p_law_power {k : Nat} (hp : p < 1000) (hk : k ≤ 1000) : wF (T.cfg (n + 1)) 28 [.d (.int p), .d (.int k)] h K ↔ K (.d (.int ((p ^ k : Nat) : Int))) h := by
  refine wF_eq ?_ K
  rw [w__law_power, b__law_power]
  have sm : smallI (k : Int) = true := smallI_of2 (by omega) (by omega)
  simp [sm]
  rw [rngL_len (N := k) rfl]
  refine pow_loop hp _ 0 1 _ rfl fun z x hz => ?_
  rw [List.length_map, List.length_range, Nat.zero_add] at hz
  simp [hz]
theorem p_law_choices {most : Nat} {s : Int × Int} (hp : 0 < p) (hp2 : p ≤ 20) (hm : most ≤ 20) (q : ∀ cs s', (∀ c ∈ cs, c < p) → cs.length ≤ most → K (.d (.tup (il cs))) [cup s']) : wF (T.cfg (n + 2)) 25 [.ref 0, .d (.int p), .d (.int most)] [cup s] K := by
  rw [w__law_choices, b__law_choices]
  simp
  refine p_rollI (by omega) (by omega) fun r s1 h0 h1 => ?_
  obtain ⟨k, rfl⟩ := Int.eq_ofNat_of_zero_le h0
  have sm : smallI (k : Int) = true := smallI_of2 (by omega) (by omega)
  simp [sm, wipeE]
  rw [rngL_len (N := k) rfl]
  refine wLc_inv (I := fun items acc h => ∃ s zs, h = [cup s] ∧ acc = il zs ∧ (∀ z ∈ zs, z < p) ∧ zs.length + items.length = k) ⟨s1, [], rfl, rfl, fun _ z => (by cases z), by simp⟩ ?_ ?_
  · rintro acc h ⟨s, zs, rfl, rfl, hz, hl⟩
    rw [List.length_nil, Nat.add_zero] at hl
    exact q zs s hz (by omega)
  · rintro d items acc h ⟨s, zs, rfl, rfl, hz, hl⟩
    rw [List.length_cons] at hl
    simp
    refine p_rollI (by omega) (by omega) fun r s2 g0 g1 => ?_
    obtain ⟨j, rfl⟩ := Int.eq_ofNat_of_zero_le g0
    have hl2 : (il zs).length < 16777216 := by rw [il_len]; omega
    simp [hl2]
    refine ⟨⟨s2.1, s2.2, rfl⟩, zs ++ [j], by rw [il_app]; rfl, fun z hz' => ?_, by rw [List.length_append, List.length_singleton]; omega⟩
    rcases List.mem_append.mp hz' with z' | z'
    · exact hz z z'
    · rw [List.mem_singleton.mp z']; omega
end
end Lw
set_option linter.all false
set_option maxRecDepth 100000
set_option maxHeartbeats 1600000
namespace Lw
open PySem Ev Dk
section
variable {n : Nat} {h t : Hh} {K : Val → Hh → Prop} {p s : Nat} {cs : List Nat}
theorem wLc_bad {tg : Tg} {c : B} {env : Ve} {α : Type} {C : Cfg} {K : List D → Hh → Prop} (f : α → D) (p : α → Bool) {xs : List α} (hl : xs.length ≤ 16777216)
    (hF : ∀ x ∈ xs, bT tg (.d (f x)) env fun env1 => wT C c env1 h fun k h1 => h1 = h ∧ k = !p x) (q : K (bad p xs) h) : wLc C (.con (.int 1)) tg (.cons c .nil) env (xs.map f) [] h K := by
  refine wLc_fmM f (fun x => if p x then none else some (.int 1)) (fun x hx => ?_) hl q
  have h0 := hF x hx
  unfold bT at h0 ⊢
  cases e : bindT tg (.d (f x)) env with
  | none => rw [e] at h0; exact h0
  | some env1 =>
    rw [e] at h0
    refine Holds.imp (show Holds _ _ from h0) fun k h1 z => ?_
    obtain ⟨rfl, rfl⟩ := z
    cases p x <;> simp
theorem wLc_bad1 {tg : Tg} {c : B} {env : Ve} {C : Cfg} {K : List D → Hh → Prop} {xs : List D} (p : D → Bool) (hl : xs.length ≤ 16777216)
    (hF : ∀ x ∈ xs, bT tg (.d x) env fun env1 => wT C c env1 h fun k h1 => h1 = h ∧ k = !p x) (q : K (bad p xs) h) : wLc C (.con (.int 1)) tg (.cons c .nil) env xs [] h K := by
  have := wLc_bad id p hl hF q
  rwa [List.map_id] at this
theorem cm_neB {a b : Bool} {K : Bool → Prop} : cm .ne (.bl a) (.bl b) K ↔ K (!(a == b)) := by
  rw [cm_ne]
  exact and_iff_right rfl
/-! ### the judge of results, for any two -/
mutual
def likeb : D → D → Bool
  | .non, .non => true
  | .bl a, .bl b => a == b
  | .int i, .int j => decide (i = j)
  | .str x, .str y => decide (x = y)
  | .tup xs, .tup ys => likebs xs ys
  | .lst xs, .lst ys => likebs xs ys
  | _, _ => false
def likebs : List D → List D → Bool
  | [], [] => true
  | x :: xs, y :: ys => likeb x y && likebs xs ys
  | _, _ => false
end
mutual
theorem likeb_eq : ∀ {d e : D}, likeb d e = true → d = e
  | .non, e, h => by cases e <;> first | rfl | (simp [likeb] at h)
  | .bl a, e, h => by cases e <;> first | (simp [likeb] at h; done) | (simp [likeb] at h; rw [h])
  | .int a, e, h => by cases e <;> first | (simp [likeb] at h; done) | (simp [likeb] at h; rw [h])
  | .str a, e, h => by cases e <;> first | (simp [likeb] at h; done) | (simp [likeb] at h; rw [h])
  | .tup xs, e, h => by
    cases e <;> first | (simp [likeb] at h; done) | skip
    rename_i ys
    rw [likeb] at h
    rw [likebs_eq h]
  | .lst xs, e, h => by
    cases e <;> first | (simp [likeb] at h; done) | skip
    rename_i ys
    rw [likeb] at h
    rw [likebs_eq h]
  | .scr _, e, h => by cases e <;> simp [likeb] at h
  | .fn _, e, h => by cases e <;> simp [likeb] at h
theorem likebs_eq : ∀ {d e : List D}, likebs d e = true → d = e
  | [], [], _ => rfl
  | [], _ :: _, h => by simp [likebs] at h
  | _ :: _, [], h => by simp [likebs] at h
  | x :: xs, y :: ys, h => by
    rw [likebs, Bool.and_eq_true] at h
    rw [likeb_eq h.1, likebs_eq h.2]
end
theorem likebs_zip : ∀ (xs ys : List D), likebs xs ys = (decide (xs.length = ys.length) && (xs.zip ys).all fun q => likeb q.1 q.2)
  | [], [] => rfl
  | [], _ :: _ => by simp [likebs]
  | _ :: _, [] => by simp [likebs]
  | x :: xs, y :: ys => by
    rw [likebs, likebs_zip xs ys, List.zip_cons_cons, List.all_cons, List.length_cons, List.length_cons]
    by_cases e : xs.length = ys.length
    · simp [e]
    · simp [e]
theorem zipL_zip {α β : Type} (f : α → D) (g : β → D) : ∀ (xs : List α) (ys : List β), zipL (xs.map f) (ys.map g) = (xs.zip ys).map fun q => D.tup [f q.1, g q.2]
  | [], ys => by simp [zipL]
  | x :: xs, [] => by simp [zipL]
  | x :: xs, y :: ys => by rw [List.map_cons, List.map_cons, zipL, zipL_zip f g xs ys]; rfl
theorem zipL_pair (xs ys : List D) : zipL xs ys = (xs.zip ys).map fun q => D.tup [q.1, q.2] := by
  have := zipL_zip id id xs ys
  rwa [List.map_id, List.map_id] at this
mutual
def bnd : D → Bool
  | .tup ys => decide (ys.length ≤ 16777216) && bnds ys
  | .lst ys => decide (ys.length ≤ 16777216) && bnds ys
  | _ => true
def bnds : List D → Bool
  | [] => true
  | y :: ys => bnd y && bnds ys
end
theorem bnds_mem : ∀ {ys : List D} {y : D}, bnds ys = true → y ∈ ys → bnd y = true
  | [], _, _, h => by cases h
  | x :: ys, y, h, hy => by
    rw [bnds, Bool.and_eq_true] at h
    rcases List.mem_cons.mp hy with rfl | hy
    · exact h.1
    · exact bnds_mem h.2 hy
theorem p_likeG : ∀ {N n : Nat} {d e : D} {h : Hh} {K : Val → Hh → Prop}, shp N d = true → shp N e = true → bnd e = true → N ≤ 60 → (wF (T.cfg (N + 1 + n)) 20 [.d d, .d e] h K ↔ K (.d (.bl (likeb d e))) h)
  | 0, _, d, _, _, _, hd, _, _, _ => by simp [shp] at hd
  | N + 1, n, d, e, h, K, hd, he, hb, hN => by
    refine wF_eq ?_ K
    have e1 : N + 1 + 1 + n = N + n + 1 + 1 := by omega
    rw [e1, w__law_like, b__law_like]
    have h60 := shp_le hd hN
    have g60 := shp_le he hN
    have items : ∀ ds es : List D, shps N ds = true → shps N es = true → (decide (es.length ≤ 16777216) && bnds es) = true → ∀ (a b c : Option Val) (KK : List D → Hh → Prop), KK (bad (fun q : D × D => likeb q.1 q.2) (ds.zip es)) h → wLc (T.cfg (N + n + 1)) (.con (.int 1)) (.tp [3, 4]) (.cons (.not (.e (.call 20 (.cons (.var 3) (.cons (.var 4) .nil))))) .nil) [a, b, c, none, none] (zipL ds es) [] h KK := by
      intro ds es hds hes hl a b c KK q
      rw [zipL_pair]
      refine wLc_bad (fun q : D × D => D.tup [q.1, q.2]) (fun q => likeb q.1 q.2) (by rw [List.length_zip]; rw [Bool.and_eq_true, decide_eq_true_eq] at hl; omega) (fun q hq => ?_) q
      obtain ⟨x, y⟩ := q
      have hx := shps_mem hds (List.of_mem_zip hq).1
      have hy := shps_mem hes (List.of_mem_zip hq).2
      have := fun K => p_likeG (N := N) (n := n) (d := x) (e := y) (h := h) (K := K) hx hy (bnds_mem ((Bool.and_eq_true _ _).mp hl).2 (List.of_mem_zip hq).2) (by omega)
      rw [show N + 1 + n = N + n + 1 by omega] at this
      simp [this]
    cases d with
    | scr ds => simp [shp] at hd
    | fn f => simp [shp] at hd
    | tup xs =>
      cases e with
      | scr ds => simp [shp] at he
      | fn f => simp [shp] at he
      | tup ys =>
        simp [p_sort hd, p_sort he, srt, cm_inT, flat, likeb, likebs_zip]
        by_cases z : xs.length = ys.length
        · simp [z]
          refine items xs ys (by simpa [shp] using hd) (by simpa [shp] using he) (by simpa [bnd] using hb) _ _ _ _ ?_
          simp
          exact ⟨⟨by rw [shp]; exact bad_shps _ _ _, rfl⟩, bad_nil _ _⟩
        · have z' : ¬ (xs.length : Int) = ys.length := by omega
          simp [z]
          exact fun w => absurd w z'
      | _ => simp [p_sort hd, p_sort he, srt, cm_inT, flat, likeb]
    | lst xs =>
      cases e with
      | scr ds => simp [shp] at he
      | fn f => simp [shp] at he
      | lst ys =>
        simp [p_sort hd, p_sort he, srt, cm_inT, flat, likeb, likebs_zip]
        by_cases z : xs.length = ys.length
        · simp [z]
          refine items xs ys (by simpa [shp] using hd) (by simpa [shp] using he) (by simpa [bnd] using hb) _ _ _ _ ?_
          simp
          exact ⟨⟨by rw [shp]; exact bad_shps _ _ _, rfl⟩, bad_nil _ _⟩
        · have z' : ¬ (xs.length : Int) = ys.length := by omega
          simp [z]
          exact fun w => absurd w z'
      | _ => simp [p_sort hd, p_sort he, srt, cm_inT, flat, likeb]
    | str x =>
      cases e with
      | scr ds => simp [shp] at he
      | fn f => simp [shp] at he
      | str y => simp [p_sort hd, p_sort he, srt, cm_inT, flat, likeb, h60, g60]
      | _ => simp [p_sort hd, p_sort he, srt, cm_inT, flat, likeb]
    | non =>
      cases e with
      | scr ds => simp [shp] at he
      | fn f => simp [shp] at he
      | _ => simp [p_sort hd, p_sort he, srt, cm_inT, flat, cm_eq, shp, likeb]
    | bl b =>
      cases e with
      | scr ds => simp [shp] at he
      | fn f => simp [shp] at he
      | _ => simp [p_sort hd, p_sort he, srt, cm_inT, flat, cm_eq, shp, likeb]
    | int b =>
      cases e with
      | scr ds => simp [shp] at he
      | fn f => simp [shp] at he
      | _ => simp [p_sort hd, p_sort he, srt, cm_inT, flat, cm_eq, shp, likeb]
end
end Lw
set_option linter.all false
set_option maxRecDepth 100000
set_option maxHeartbeats 1600000
namespace Lw
open PySem Ev Dk
section
variable {n : Nat} {h t : Hh} {K : Val → Hh → Prop} {p s : Nat} {cs : List Nat}
@[simp ↓ high] theorem cm_eqEh {α : Type} {p : α → Bool} {xs : List α} {K : Bool → Prop} : cm .eq (.lst (bad p xs)) (.lst []) K ↔ K (xs.all p) := cm_eqE
theorem maxI_eq : ∀ (l : List Int) (i m : Int), (∀ y ∈ i :: l, y ≤ m) → m ∈ i :: l → maxI i l = m
  | [], i, m, _, h => by simp at h; exact h.symm
  | j :: l, i, m, h1, h2 => by
    show maxI (if i < j then j else i) l = m
    have hi := h1 i List.mem_cons_self
    have hj := h1 j (List.mem_cons_of_mem _ List.mem_cons_self)
    refine maxI_eq l _ m (fun y hy => ?_) ?_
    · rcases List.mem_cons.mp hy with rfl | hy
      · split <;> assumption
      · exact h1 y (List.mem_cons_of_mem _ (List.mem_cons_of_mem _ hy))
    · rcases List.mem_cons.mp h2 with rfl | h2
      · rw [if_neg (by omega)]; exact List.mem_cons_self
      · rcases List.mem_cons.mp h2 with rfl | h2
        · split
          · exact List.mem_cons_self
          · rw [show i = m by omega]; exact List.mem_cons_self
        · exact List.mem_cons_of_mem _ h2
theorem minI_eq : ∀ (l : List Int) (i m : Int), (∀ y ∈ i :: l, m ≤ y) → m ∈ i :: l → minI i l = m
  | [], i, m, _, h => by simp at h; exact h.symm
  | j :: l, i, m, h1, h2 => by
    show minI (if j < i then j else i) l = m
    have hi := h1 i List.mem_cons_self
    have hj := h1 j (List.mem_cons_of_mem _ List.mem_cons_self)
    refine minI_eq l _ m (fun y hy => ?_) ?_
    · rcases List.mem_cons.mp hy with rfl | hy
      · split <;> assumption
      · exact h1 y (List.mem_cons_of_mem _ (List.mem_cons_of_mem _ hy))
    · rcases List.mem_cons.mp h2 with rfl | h2
      · rw [if_neg (by omega)]; exact List.mem_cons_self
      · rcases List.mem_cons.mp h2 with rfl | h2
        · split
          · exact List.mem_cons_self
          · rw [show i = m by omega]; exact List.mem_cons_self
        · exact List.mem_cons_of_mem _ h2
theorem intsF (f : Nat → Nat) (N : Nat) : intsD ((List.range N).map fun x => D.int (f x : Nat)) = some ((List.range N).map fun x => ((f x : Nat) : Int)) := by
  have := intsD_map ((List.range N).map fun x => ((f x : Nat) : Int))
  rwa [List.map_map] at this
theorem bI_maxF {f : Nat → Nat} {N : Nat} (hN : 0 < N) (mono : ∀ x y, x ≤ y → f x ≤ f y) {K : W → Prop} : bI .max1 [.lst ((List.range N).map fun x => D.int (f x : Nat))] K ↔ K (.v (.d (.int (f (N - 1) : Nat)))) := by
  obtain ⟨M, rfl⟩ : ∃ M, N = M + 1 := ⟨N - 1, by omega⟩
  have e : biD .max1 [.lst ((List.range (M + 1)).map fun x => D.int (f x : Nat))] = some (.v (.d (.int (f M : Nat)))) := by
    show bMax1 [.lst ((List.range (M + 1)).map fun x => D.int (f x : Nat))] = _
    unfold bMax1
    simp only [intsF]
    simp only [List.range_succ_eq_map, List.map_cons]
    rw [maxI_eq _ _ (f M : Nat)]
    · intro y hy
      rw [← List.map_cons (f := fun x => ((f x : Nat) : Int)), ← List.range_succ_eq_map] at hy
      obtain ⟨x, hx, rfl⟩ := List.mem_map.mp hy
      have := List.mem_range.mp hx
      have := mono x M (by omega)
      omega
    · rw [← List.map_cons (f := fun x => ((f x : Nat) : Int)), ← List.range_succ_eq_map]
      exact List.mem_map.mpr ⟨M, List.mem_range.mpr (by omega), rfl⟩
  show opt (biD .max1 _) K ↔ _
  rw [e]
  exact Iff.rfl
theorem bI_minF {f : Nat → Nat} {N : Nat} (hN : 0 < N) (mono : ∀ x y, x ≤ y → f x ≤ f y) {K : W → Prop} : bI .min1 [.lst ((List.range N).map fun x => D.int (f x : Nat))] K ↔ K (.v (.d (.int (f 0 : Nat)))) := by
  obtain ⟨M, rfl⟩ : ∃ M, N = M + 1 := ⟨N - 1, by omega⟩
  have e : biD .min1 [.lst ((List.range (M + 1)).map fun x => D.int (f x : Nat))] = some (.v (.d (.int (f 0 : Nat)))) := by
    show bMin1 [.lst ((List.range (M + 1)).map fun x => D.int (f x : Nat))] = _
    unfold bMin1
    simp only [intsF]
    simp only [List.range_succ_eq_map, List.map_cons]
    rw [minI_eq _ _ (f 0 : Nat)]
    · intro y hy
      rw [← List.map_cons (f := fun x => ((f x : Nat) : Int)), ← List.range_succ_eq_map] at hy
      obtain ⟨x, hx, rfl⟩ := List.mem_map.mp hy
      have := mono 0 x (by omega)
      omega
    · exact List.mem_cons_self
  show opt (biD .min1 _) K ↔ _
  rw [e]
  exact Iff.rfl
theorem plc_mono {x y : Nat} (h : x ≤ y) : plc p s cs x ≤ plc p s cs y := by
  unfold plc
  exact Nat.div_le_div_right (by omega)
def plL (p s : Nat) (cs : List Nat) : List D := (List.range (p * s)).map fun x => D.int (plc p s cs x : Nat)
theorem runL_eq (d : Dl p s) : runL p s cs = plL p s cs := by
  unfold runL plL
  refine List.map_congr_left fun x _ => ?_
  rw [run_plc d]
theorem ixPl {y : Nat} (hy : y < p * s) {K : D → Prop} : iX (.lst (plL p s cs)) (.int (y : Nat)) K ↔ K (.int (plc p s cs y : Nat)) := ixD (f := plc p s cs) hy
theorem toD_shp : ∀ k, shp (k + 1) (toD p s cs) = true := fun k => by rcases toD_cases p s cs with h | ⟨y, h⟩ <;> rw [h] <;> rfl
theorem prt_cases (p s : Nat) (cs : List Nat) : (prt p s cs = .non ∧ isNon (toD p s cs) = false) ∨ (prt p s cs = .tup [.int ((0 : Nat) : Int), .int ((p * s - 1 : Nat) : Int)] ∧ isNon (toD p s cs) = true) := by
  unfold prt
  cases isNon (toD p s cs)
  · exact .inl ⟨rfl, rfl⟩
  · exact .inr ⟨rfl, rfl⟩
theorem prt_isp (d : Dl p s) (h : isNon (prt p s cs) = false) : isp p s cs (prt p s cs) = true := by
  rcases prt_cases p s cs with ⟨e, _⟩ | ⟨e, e2⟩
  · rw [e] at h; cases h
  · rw [e, isp_int d.pos (by have := d.pos; omega)]
    have h2 := d.two
    rw [decide_eq_true (by omega)]
    have : ¬ plc p s cs 0 = plc p s cs (p * s - 1) := fun z => by
      unfold toD at e2
      rw [if_pos z] at e2
      cases e2
    rw [decide_eq_false this]
    rfl
/-- what is asked about -/
structure Av (v : D) : Prop where
  sh : shp 4 v = true
  ln : ∀ ds, v = .tup ds → ds.length ≤ 4000
theorem val_loop (d : Dl p s) (c : Ch p cs) {C : Ev.Flow → Hh → Prop} {e0 e6 e7 e8 e10 e14 : Option Val} {N : Nat} (hN : p * s = N) : ∀ (items : List D) (a b f : Option Val), (∀ v ∈ items, Av v) → (∀ a b f, C (.next [e0, some (.d (.int p)), some (.d (.int s)), some (.d (.int (N : Nat))), some (.d (.tup (il cs))), some (.d (.lst (plL p s cs))), e6, e7, e8, some (.d (prt p s cs)), e10, a, b, f, e14, none]) h) →
    wFr (T.cfg (n + 6)) (.nm 11) (.cons (.asg (.nm 12) (.and (.cons (.cmp .eq (.call 19 (.cons (.var 11) .nil)) (.con (.int 4))) (.cons (.cmp .eq (.bi .len (.cons (.var 11) .nil)) (.con (.int 2))) (.cons (.cmp .eq (.lc (.con (.int 1)) (.nm 15) (.seq (.var 11)) (.cons (.not (.e (.call 22 (.cons (.var 15) (.cons (.con (.int 0)) (.cons (.bin .sub (.var 3) (.con (.int 1))) .nil)))))) .nil) [15]) (.lst .nil)) .nil)))))
  (.cons (.asg (.nm 13) (.and (.cons (.var 12) (.cons (.cmp .lt (.ix (.var 11) (.con (.int 0))) (.ix (.var 11) (.con (.int 1)))) (.cons (.cmp .ne (.ix (.var 5) (.ix (.var 11) (.con (.int 0)))) (.ix (.var 5) (.ix (.var 11) (.con (.int 1))))) .nil)))))
  (.cons (.ife (.not (.e (.call 20 (.cons (.call 13 (.cons (.var 1) (.cons (.var 2) (.cons (.var 4) (.cons (.var 11) .nil))))) (.cons (.var 13) .nil))))) (.cons (.ret (.con (.bl false)))
  .nil) .nil)
  (.cons (.ife (.and (.cons (.e (.call 20 (.cons (.var 11) (.cons (.var 9) .nil)))) (.cons (.e (.cmp .notN (.var 9) (.con (.non)))) (.cons (.not (.e (.var 13))) .nil)))) (.cons (.ret (.con (.bl false)))
  .nil) .nil)
  .nil)))) items [e0, some (.d (.int p)), some (.d (.int s)), some (.d (.int (N : Nat))), some (.d (.tup (il cs))), some (.d (.lst (plL p s cs))), e6, e7, e8, some (.d (prt p s cs)), e10, a, b, f, e14, none] h C := by
  intro items
  induction items with
  | nil => intro a b f _ q; rw [wFr_0]; exact q a b f
  | cons v items ih =>
    intro a b f hv q
    obtain ⟨sh, ln⟩ := hv v List.mem_cons_self
    have ih := fun a b f => ih a b f (fun v hv' => hv v (List.mem_cons_of_mem _ hv')) q
    have ap := fun K => p_are_parted (n := n + 1) (h := h) (K := K) (N := 2) d c sh
    have lk := fun K => p_likeI (n := n + 1) (h := h) (K := K) (d := .bl (isp p s cs v)) rfl
    have sp : shp 4 (prt p s cs) = true := by rcases prt_cases p s cs with ⟨e, _⟩ | ⟨e, _⟩ <;> rw [e] <;> rfl
    have bp : bnd (prt p s cs) = true := by rcases prt_cases p s cs with ⟨e, _⟩ | ⟨e, _⟩ <;> rw [e] <;> simp [bnd, bnds]
    have lg := fun K => p_likeG (n := n + 1) (h := h) (K := K) (N := 4) (d := v) (e := prt p s cs) sh sp bp (by omega)
    rw [show 4 + 1 + (n + 1) = n + 6 by omega] at lg
    have key : likeb v (prt p s cs) = true → isNon (prt p s cs) = false → isp p s cs v = true := fun e1 e2 => by
      rw [likeb_eq e1]; exact prt_isp d e2
    have hm : (p : Int) * (s : Int) = (N : Int) := by rw [← Int.natCast_mul, hN]
    have hN2 := d.le
    have hs := fun K => p_sort (n := n + 5) (h := h) (K := K) sh
    have fin : ∀ x y : Bool, isp p s cs v = y → likeb v (prt p s cs) = x → ((x = true → (isNon (prt p s cs) = false → y = true))) := fun x y e1 e2 z1 z2 => by
      rw [← e1]; exact key (e2.trans z1) z2
    cases v with
    | tup ds =>
      have hl := ln ds rfl
      by_cases h2 : ds.length = 2
      · match ds, h2 with
        | [u, w], _ =>
          have hss : shps 3 [u, w] = true := by simpa [shp] using sh
          have hbs : ∀ (q : D → Bool) (l : List D), shps 59 (bad q l) = true := fun q l => bad_shps q _ l
          cases eu : wh 0 ((N : Int) - 1) u with
          | false =>
            have ei : isp p s cs (.tup [u, w]) = false := isp_two (by rw [hN, eu]; rfl)
            rw [ei] at ap lk
            cases el : likeb (.tup [u, w]) (prt p s cs) with
            | false =>
              rw [wFr_1]
              simp [hs, srt, wipeE, shp]
              refine wLc_bad1 (wh 0 ((N : Int) - 1)) (by simp) (fun z hz => ?_) ?_
              · simp [p_law_whole (shps_mem hss hz)]
              simp [cm_eqE, bad_nil, hbs, shps, eu, ap, lk, lg, el]
              exact ih _ _ _
            | true =>
              cases en : isNon (prt p s cs) with
              | false =>
                exact absurd (fin _ _ ei el rfl en) Bool.false_ne_true
              | true =>
                rw [wFr_1]
                simp [hs, srt, wipeE, shp]
                refine wLc_bad1 (wh 0 ((N : Int) - 1)) (by simp) (fun z hz => ?_) ?_
                · simp [p_law_whole (shps_mem hss hz)]
                simp [cm_eqE, bad_nil, hbs, shps, eu, ap, lk, lg, el, en]
                exact ih _ _ _
          | true =>
            cases ew : wh 0 ((N : Int) - 1) w with
            | false =>
              have ei : isp p s cs (.tup [u, w]) = false := isp_two (by rw [hN, ew, Bool.and_false])
              rw [ei] at ap lk
              cases el : likeb (.tup [u, w]) (prt p s cs) with
              | false =>
                rw [wFr_1]
                simp [hs, srt, wipeE, shp]
                refine wLc_bad1 (wh 0 ((N : Int) - 1)) (by simp) (fun z hz => ?_) ?_
                · simp [p_law_whole (shps_mem hss hz)]
                simp [cm_eqE, bad_nil, hbs, shps, eu, ew, ap, lk, lg, el]
                exact ih _ _ _
              | true =>
                cases en : isNon (prt p s cs) with
                | false =>
                  exact absurd (fin _ _ ei el rfl en) Bool.false_ne_true
                | true =>
                  rw [wFr_1]
                  simp [hs, srt, wipeE, shp]
                  refine wLc_bad1 (wh 0 ((N : Int) - 1)) (by simp) (fun z hz => ?_) ?_
                  · simp [p_law_whole (shps_mem hss hz)]
                  simp [cm_eqE, bad_nil, hbs, shps, eu, ew, ap, lk, lg, el, en]
                  exact ih _ _ _
            | true =>
              cases u with
              | int i =>
                cases w with
                | int j =>
                  have eu' := eu
                  have ew' := ew
                  simp only [wh, Bool.and_eq_true, decide_eq_true_eq] at eu' ew'
                  obtain ⟨x, rfl⟩ := Int.eq_ofNat_of_zero_le eu'.1
                  obtain ⟨y, rfl⟩ := Int.eq_ofNat_of_zero_le ew'.1
                  have hx : x < p * s := by omega
                  have hy : y < p * s := by omega
                  have ii := isp_int (cs := cs) hx hy
                  by_cases exy : x < y
                  · have exy' : (x : Int) < (y : Int) := by omega
                    have exn : ¬ y ≤ x := by omega
                    by_cases epl : plc p s cs x = plc p s cs y
                    · have ei : isp p s cs (.tup [.int (x : Nat), .int (y : Nat)]) = false := by rw [ii, decide_eq_true exy', decide_eq_true epl]; rfl
                      rw [ei] at ap lk
                      cases el : likeb (.tup [.int (x : Nat), .int (y : Nat)]) (prt p s cs) with
                      | false =>
                        rw [wFr_1]
                        simp [hs, srt, wipeE, shp]
                        refine wLc_bad1 (wh 0 ((N : Int) - 1)) (by simp) (fun z hz => ?_) ?_
                        · simp [p_law_whole (shps_mem hss hz)]
                        simp [cm_eqE, bad_nil, hbs, shps, eu, ew, exy, exn, epl, ixPl hx, ixPl hy, ap, lk, lg, el]
                        exact ih _ _ _
                      | true =>
                        cases en : isNon (prt p s cs) with
                        | false =>
                          exact absurd (fin _ _ ei el rfl en) Bool.false_ne_true
                        | true =>
                          rw [wFr_1]
                          simp [hs, srt, wipeE, shp]
                          refine wLc_bad1 (wh 0 ((N : Int) - 1)) (by simp) (fun z hz => ?_) ?_
                          · simp [p_law_whole (shps_mem hss hz)]
                          simp [cm_eqE, bad_nil, hbs, shps, eu, ew, exy, exn, epl, ixPl hx, ixPl hy, ap, lk, lg, el, en]
                          exact ih _ _ _
                    · have ei : isp p s cs (.tup [.int (x : Nat), .int (y : Nat)]) = true := by rw [ii, decide_eq_true exy', decide_eq_false epl]; rfl
                      have epl' : ¬ ((plc p s cs x : Nat) : Int) = (plc p s cs y : Nat) := by omega
                      rw [ei] at ap lk
                      cases el : likeb (.tup [.int (x : Nat), .int (y : Nat)]) (prt p s cs) with
                      | false =>
                        rw [wFr_1]
                        simp [hs, srt, wipeE, shp]
                        refine wLc_bad1 (wh 0 ((N : Int) - 1)) (by simp) (fun z hz => ?_) ?_
                        · simp [p_law_whole (shps_mem hss hz)]
                        simp [cm_eqE, bad_nil, hbs, shps, eu, ew, exy, exn, epl, epl', ixPl hx, ixPl hy, ap, lk, lg, el]
                        exact ih _ _ _
                      | true =>
                        cases en : isNon (prt p s cs) with
                        | false =>
                          rw [wFr_1]
                          simp [hs, srt, wipeE, shp]
                          refine wLc_bad1 (wh 0 ((N : Int) - 1)) (by simp) (fun z hz => ?_) ?_
                          · simp [p_law_whole (shps_mem hss hz)]
                          simp [cm_eqE, bad_nil, hbs, shps, eu, ew, exy, exn, epl, epl', ixPl hx, ixPl hy, ap, lk, lg, el, en]
                          exact ih _ _ _
                        | true =>
                          rw [wFr_1]
                          simp [hs, srt, wipeE, shp]
                          refine wLc_bad1 (wh 0 ((N : Int) - 1)) (by simp) (fun z hz => ?_) ?_
                          · simp [p_law_whole (shps_mem hss hz)]
                          simp [cm_eqE, bad_nil, hbs, shps, eu, ew, exy, exn, epl, epl', ixPl hx, ixPl hy, ap, lk, lg, el, en]
                          exact ih _ _ _
                  · have exy' : ¬ (x : Int) < (y : Int) := by omega
                    have exn : y ≤ x := by omega
                    have ei : isp p s cs (.tup [.int (x : Nat), .int (y : Nat)]) = false := by rw [ii, decide_eq_false exy']; rfl
                    rw [ei] at ap lk
                    cases el : likeb (.tup [.int (x : Nat), .int (y : Nat)]) (prt p s cs) with
                    | false =>
                      rw [wFr_1]
                      simp [hs, srt, wipeE, shp]
                      refine wLc_bad1 (wh 0 ((N : Int) - 1)) (by simp) (fun z hz => ?_) ?_
                      · simp [p_law_whole (shps_mem hss hz)]
                      simp [cm_eqE, bad_nil, hbs, shps, eu, ew, exy, exn, ap, lk, lg, el]
                      exact ih _ _ _
                    | true =>
                      cases en : isNon (prt p s cs) with
                      | false =>
                        exact absurd (fin _ _ ei el rfl en) Bool.false_ne_true
                      | true =>
                        rw [wFr_1]
                        simp [hs, srt, wipeE, shp]
                        refine wLc_bad1 (wh 0 ((N : Int) - 1)) (by simp) (fun z hz => ?_) ?_
                        · simp [p_law_whole (shps_mem hss hz)]
                        simp [cm_eqE, bad_nil, hbs, shps, eu, ew, exy, exn, ap, lk, lg, el, en]
                        exact ih _ _ _
                | _ => simp [wh] at ew
              | _ => simp [wh] at eu
      · have ei : isp p s cs (.tup ds) = false := isp_len h2
        have h2' : ¬ (ds.length : Int) = 2 := by omega
        rw [ei] at ap lk
        cases el : likeb (.tup ds) (prt p s cs) with
        | false =>
          rw [wFr_1]
          simp [hs, srt, h2', h2, ap, lk, lg, el]
          exact ih _ _ _
        | true =>
          cases en : isNon (prt p s cs) with
          | false =>
            exact absurd (fin _ _ ei el rfl en) Bool.false_ne_true
          | true =>
            rw [wFr_1]
            simp [hs, srt, h2', h2, ap, lk, lg, el, en]
            exact ih _ _ _
    | non =>
      have ei : isp p s cs .non = false := rfl
      rw [ei] at ap lk
      cases el : likeb .non (prt p s cs) with
      | false =>
        rw [wFr_1]
        simp [hs, srt, ap, lk, lg, el]
        exact ih _ _ _
      | true =>
        cases en : isNon (prt p s cs) with
        | false =>
          exact absurd (fin _ _ ei el rfl en) Bool.false_ne_true
        | true =>
          rw [wFr_1]
          simp [hs, srt, ap, lk, lg, el, en]
          exact ih _ _ _
    | bl b0 =>
      have ei : isp p s cs (.bl b0) = false := rfl
      rw [ei] at ap lk
      cases el : likeb (.bl b0) (prt p s cs) with
      | false =>
        rw [wFr_1]
        simp [hs, srt, ap, lk, lg, el]
        exact ih _ _ _
      | true =>
        cases en : isNon (prt p s cs) with
        | false =>
          exact absurd (fin _ _ ei el rfl en) Bool.false_ne_true
        | true =>
          rw [wFr_1]
          simp [hs, srt, ap, lk, lg, el, en]
          exact ih _ _ _
    | int i0 =>
      have ei : isp p s cs (.int i0) = false := rfl
      rw [ei] at ap lk
      cases el : likeb (.int i0) (prt p s cs) with
      | false =>
        rw [wFr_1]
        simp [hs, srt, ap, lk, lg, el]
        exact ih _ _ _
      | true =>
        cases en : isNon (prt p s cs) with
        | false =>
          exact absurd (fin _ _ ei el rfl en) Bool.false_ne_true
        | true =>
          rw [wFr_1]
          simp [hs, srt, ap, lk, lg, el, en]
          exact ih _ _ _
    | str x0 =>
      have ei : isp p s cs (.str x0) = false := rfl
      rw [ei] at ap lk
      cases el : likeb (.str x0) (prt p s cs) with
      | false =>
        rw [wFr_1]
        simp [hs, srt, ap, lk, lg, el]
        exact ih _ _ _
      | true =>
        cases en : isNon (prt p s cs) with
        | false =>
          exact absurd (fin _ _ ei el rfl en) Bool.false_ne_true
        | true =>
          rw [wFr_1]
          simp [hs, srt, ap, lk, lg, el, en]
          exact ih _ _ _
    | lst l0 =>
      have ei : isp p s cs (.lst l0) = false := rfl
      rw [ei] at ap lk
      cases el : likeb (.lst l0) (prt p s cs) with
      | false =>
        rw [wFr_1]
        simp [hs, srt, ap, lk, lg, el]
        exact ih _ _ _
      | true =>
        cases en : isNon (prt p s cs) with
        | false =>
          exact absurd (fin _ _ ei el rfl en) Bool.false_ne_true
        | true =>
          rw [wFr_1]
          simp [hs, srt, ap, lk, lg, el, en]
          exact ih _ _ _
    | scr l0 => simp [shp] at sh
    | fn l0 => simp [shp] at sh
end
end Lw
set_option linter.all false
set_option maxRecDepth 100000
set_option maxHeartbeats 1600000
namespace Lw
open PySem Ev Dk
section
variable {n : Nat} {h t : Hh} {K : Val → Hh → Prop} {p z : Nat} {cs : List Nat} {s : Int × Int}
theorem bI_maxP (hN : 0 < p * z) {K : W → Prop} : bI .max1 [.lst (plL p z cs)] K ↔ K (.v (.d (.int (plc p z cs (p * z - 1) : Nat)))) := bI_maxF (f := plc p z cs) hN fun x y h => plc_mono h
theorem bI_minP (hN : 0 < p * z) {K : W → Prop} : bI .min1 [.lst (plL p z cs)] K ↔ K (.v (.d (.int (plc p z cs 0 : Nat)))) := bI_minF (f := plc p z cs) hN fun x y h => plc_mono h
theorem ixPl0 (hN : 0 < p * z) {K : D → Prop} : iX (.lst (plL p z cs)) (.int 0) K ↔ K (.int (plc p z cs 0 : Nat)) := ixPl (y := 0) hN
theorem p_bent1 {v : D} (hv : Vb 1 v) (q : ∀ r s', Rb 1 r → K (.d r) (cup s' :: t)) : wF (T.cfg (n + 6)) 21 [.ref 0, .d v] (cup s :: t) K := by
  have := fun K q => p_bent (t := t) (n := n + 2) (j := 1) (s := s) (K := K) (by omega) hv q
  rw [show n + 2 + 1 + 3 = n + 6 by omega] at this
  with_reducible exact this K q
theorem Av.rb {r : D} (h : Rb 1 r) : Av r := ⟨shp_le h.1 (by omega), fun ds e => by have := h.2 ds e; omega⟩
theorem Av.ii {i j : Int} : Av (.tup [.int i, .int j]) := ⟨rfl, fun ds e => by cases e; simp⟩
theorem p_small_right (q : ∀ s', K (.d (.bl true)) [cup s']) : wF (T.cfg (n + 7)) 26 [.ref 0] [cup s] K := by
  rw [w__law_small_right, b__law_small_right]
  simp
  with_reducible refine p_rollI (n := n + 5) ?_ ?_ ?_
  · omega
  · omega
  intro r1 s1 a0 a1
  simp
  with_reducible refine p_rollI (n := n + 5) ?_ ?_ ?_
  · omega
  · omega
  intro r2 s2 b0 b1
  obtain ⟨p, hp⟩ := Int.eq_ofNat_of_zero_le (show 0 ≤ 2 + r1 by omega)
  obtain ⟨z, hz⟩ := Int.eq_ofNat_of_zero_le (show 0 ≤ 1 + r2 by omega)
  have d : Dl p z := ⟨by omega, by omega, by omega, by omega⟩
  obtain ⟨N, hN⟩ : ∃ N, p * z = N := ⟨_, rfl⟩
  have hm : (p : Int) * (z : Int) = (N : Int) := by rw [← Int.natCast_mul, hN]
  have hN25 : N ≤ 25 := by rw [← hN]; exact Nat.mul_le_mul (show p ≤ 5 by omega) (show z ≤ 5 by omega)
  have hN2 : 2 ≤ N := by rw [← hN]; exact d.two
  simp [hp, hz, d.ok, hm]
  rw [show D.int 5 = D.int ((5 : Nat) : Int) from rfl]
  with_reducible refine p_law_choices (n := n + 4) ?_ ?_ ?_ ?_
  · omega
  · omega
  · omega
  intro cs s3 hc hl
  have c : Ch p cs := ⟨hc, by omega⟩
  simp [p_law_places (n := n + 4) d hc, runL_eq d]
  with_reducible refine p_rollI (n := n + 5) ?_ ?_ ?_
  · omega
  · omega
  intro r3 s4 c0 c1
  obtain ⟨x, rfl⟩ := Int.eq_ofNat_of_zero_le c0
  have hx : x < p * z := by omega
  have hx1 := fun K => ixPl (cs := cs) (K := K) hx
  have hx0 := fun K => ixPl0 (p := p) (z := z) (cs := cs) (K := K) d.pos
  have pos := d.pos
  have ak := fun K => p_asked_place (n := n + 1) (h := [cup s4]) (K := K) d c hx
  have as_ := fun K => p_asked_places (n := n + 1) (h := [cup s4]) (K := K) d c
  have at_ := fun K => p_told_place (n := n + 1) (h := [cup s4]) (K := K) d c
  have ap := fun K => p_parted (n := n + 1) (h := [cup s4]) (K := K) d c
  have s4' : smallI 4 = true := by decide
  have vb : Vb 1 (prt p z cs) := by
    rcases prt_cases p z cs with ⟨e, _⟩ | ⟨e, _⟩
    · rw [e]; exact .inl (.inl rfl)
    · rw [e]
      refine .inr ⟨_, rfl, by simp, by simp, fun y hy => ?_⟩
      simp only [List.mem_cons, List.not_mem_nil, or_false] at hy
      rcases hy with rfl | rfl
      · exact .inr ⟨0, by omega, rfl⟩
      · exact .inr ⟨p * z - 1, by omega, rfl⟩
  have avp : Av (prt p z cs) := ⟨shp_le vb.shp (by omega), fun ds e => by
    rcases prt_cases p z cs with ⟨e2, _⟩ | ⟨e2, _⟩
    · rw [e2] at e; cases e
    · rw [e2] at e; cases e; simp⟩
  have e0 : D.int 0 = D.int ((0 : Nat) : Int) := rfl
  by_cases e : plc p z cs 0 = plc p z cs (p * z - 1)
  · have td : toD p z cs = .int (plc p z cs 0 : Nat) := if_pos e
    have en : isNon (prt p z cs) = true := by unfold prt; rw [td]; rfl
    have lk := fun K h => p_likeI (n := n + 1) (h := h) (K := K) (d := .lst [.int (plc p z cs x : Nat), .tup [.int (plc p z cs 0 : Nat), .int (plc p z cs (p * z - 1) : Nat)], .int (plc p z cs 0 : Nat)]) rfl
    rw [td] at at_
    rw [← e] at lk as_
    simp [bI_maxP pos, bI_minP pos, ← e, hx0, hx1, ak, as_, at_, ap, lk, cm_neB, en, s4', wipeE]
    refine wLc_inv (I := fun items acc h => ∃ s, h = [cup s] ∧ (∀ w ∈ acc, Av w) ∧ acc.length + items.length = 4) ⟨s4, rfl, fun _ z => (by cases z), by unfold rngL; simp⟩ ?_ ?_
    · rintro acc h ⟨s5, rfl, ha, hl⟩
      rw [List.length_nil, Nat.add_zero] at hl
      with_reducible refine p_bent1 (n := n) vb ?_
      intro r s6 hr
      simp [hl]
      with_reducible refine val_loop d c hN _ _ _ _ ?_ ?_
      · intro w hw
        rcases List.mem_append.mp hw with hw | hw
        · exact ha w hw
        · simp only [List.mem_cons, List.not_mem_nil, or_false] at hw
          rcases hw with rfl | rfl | rfl | rfl | rfl | rfl | rfl
          · exact avp
          · exact Av.rb hr
          · exact Av.ii
          · exact Av.ii
          · exact Av.ii
          · exact ⟨rfl, fun ds e => by cases e⟩
          · exact ⟨rfl, fun ds e => by cases e; simp⟩
      · intro a b f
        simp
        exact q s6
    · rintro dd items acc h ⟨s5, rfl, ha, hl⟩
      rw [List.length_cons] at hl
      simp
      with_reducible refine p_rollI (n := n + 5) ?_ ?_ ?_
      · omega
      · omega
      intro u s6 u0 u1
      simp
      with_reducible refine p_rollI (n := n + 5) ?_ ?_ ?_
      · omega
      · omega
      intro w s7 w0 w1
      have hl2 : acc.length < 16777216 := by omega
      simp [hl2]
      exact ⟨⟨s7.1, s7.2, rfl⟩, fun w hw => hw.elim (ha w) (fun e => e ▸ Av.ii), by omega⟩
  · have td : toD p z cs = .non := if_neg e
    have en : isNon (prt p z cs) = false := by unfold prt; rw [td]; rfl
    have lk := fun K h => p_likeI (n := n + 1) (h := h) (K := K) (d := .lst [.int (plc p z cs x : Nat), .tup [.int (plc p z cs 0 : Nat), .int (plc p z cs (p * z - 1) : Nat)], .non]) rfl
    have e' : ¬ ((plc p z cs 0 : Nat) : Int) = (plc p z cs (p * z - 1) : Nat) := by omega
    rw [td] at at_
    simp [bI_maxP pos, bI_minP pos, e, e', hx0, hx1, ak, as_, at_, ap, lk, cm_neB, en, s4', wipeE]
    refine wLc_inv (I := fun items acc h => ∃ s, h = [cup s] ∧ (∀ w ∈ acc, Av w) ∧ acc.length + items.length = 4) ⟨s4, rfl, fun _ z => (by cases z), by unfold rngL; simp⟩ ?_ ?_
    · rintro acc h ⟨s5, rfl, ha, hl⟩
      rw [List.length_nil, Nat.add_zero] at hl
      with_reducible refine p_bent1 (n := n) vb ?_
      intro r s6 hr
      simp [hl]
      with_reducible refine val_loop d c hN _ _ _ _ ?_ ?_
      · intro w hw
        rcases List.mem_append.mp hw with hw | hw
        · exact ha w hw
        · simp only [List.mem_cons, List.not_mem_nil, or_false] at hw
          rcases hw with rfl | rfl | rfl | rfl | rfl | rfl | rfl
          · exact avp
          · exact Av.rb hr
          · exact Av.ii
          · exact Av.ii
          · exact Av.ii
          · exact ⟨rfl, fun ds e => by cases e⟩
          · exact ⟨rfl, fun ds e => by cases e; simp⟩
      · intro a b f
        simp
        exact q s6
    · rintro dd items acc h ⟨s5, rfl, ha, hl⟩
      rw [List.length_cons] at hl
      simp
      with_reducible refine p_rollI (n := n + 5) ?_ ?_ ?_
      · omega
      · omega
      intro u s6 u0 u1
      simp
      with_reducible refine p_rollI (n := n + 5) ?_ ?_ ?_
      · omega
      · omega
      intro w s7 w0 w1
      have hl2 : acc.length < 16777216 := by omega
      simp [hl2]
      exact ⟨⟨s7.1, s7.2, rfl⟩, fun w hw => hw.elim (ha w) (fun e => e ▸ Av.ii), by omega⟩
end
end Lw
set_option linter.all false
namespace Dk
/-! rounding up -/
theorem cl_spec {a N : Nat} (hN : 0 < N) : a ≤ ((a + N - 1) / N) * N ∧ ((a + N - 1) / N) * N < a + N := by
  have h1 := Nat.div_add_mod (a + N - 1) N
  have h2 := Nat.mod_lt (a + N - 1) hN
  rw [Nat.mul_comm] at h1
  omega
theorem cl_lt {x W N : Nat} (hx : x < N) (hW : N ≤ W) : (x * W + N - 1) / N < W := by
  rw [Nat.div_lt_iff_lt_mul (by omega)]
  have : x * W + W ≤ N * W := by
    rw [← Nat.succ_mul]
    exact Nat.mul_le_mul_right _ hx
  rw [Nat.mul_comm W N]
  omega
/-- the told place, where there is one -/
theorem there {x W N M : Nat} (hN : 0 < N) (hW : 0 < W) (h1 : x * W ≤ M * N) (h2 : M * N + N ≤ (x + 1) * W) : (N * M) / W = x ∧ (N * M + N - 1) / W = x := by
  rw [Nat.succ_mul] at h2
  rw [Nat.mul_comm N M]
  refine ⟨?_, ?_⟩
  · refine Nat.div_eq_of_lt_le h1 ?_
    rw [Nat.succ_mul]; omega
  · refine Nat.div_eq_of_lt_le (by omega) ?_
    rw [Nat.succ_mul]; omega
theorem not_there {x W N M : Nat} (hN : 0 < N) (hW : 0 < W) (h2 : ¬ M * N + N ≤ (x + 1) * W) : (N * M + N - 1) / W ≠ x := by
  intro e
  have : (N * M + N - 1) / W < x + 1 := by omega
  rw [Nat.div_lt_iff_lt_mul hW] at this
  rw [Nat.mul_comm N M] at this
  omega
theorem apart {W N A : Nat} (hW : 0 < W) (h : W < N) : A / W ≠ (A + N - 1) / W := by
  have : A / W + 1 ≤ (A + N - 1) / W := by
    rw [Nat.le_div_iff_mul_le hW, Nat.succ_mul]
    have := Nat.div_mul_le_self A W
    omega
  omega
end Dk
set_option linter.all false
set_option maxRecDepth 100000
set_option maxHeartbeats 1600000
namespace Lw
open PySem Ev Dk
section
variable {n : Nat} {h t : Hh} {K : Val → Hh → Prop} {p z k : Nat} {cs : List Nat} {s : Int × Int}
theorem deal_loop (d : Dl p z) (f : Fw p (p * z) k) {C : Ev.Flow → Hh → Prop} {e0 : Option Val} : ∀ (items : List D) (j : Nat) (dd w : Int) (x : Option Val), dd = (j : Int) → w = ((p ^ j : Nat) : Int) → j ≤ k → k ≤ j + items.length → (∀ dd w x, dd = (k : Int) → w = ((p ^ k : Nat) : Int) → C (.next [e0, some (.d (.int p)), some (.d (.int z)), some (.d (.int dd)), some (.d (.int w)), x, none, none, none, none, none, none, none, none, none]) h) →
    wFr (T.cfg n) (.nm 5) (.cons (.ife (.e (.cmp .lt (.var 4) (.bin .mul (.var 1) (.var 2)))) (.cons (.par [3, 4] (.cons (.bin .add (.var 3) (.con (.int 1))) (.cons (.bin .mul (.var 4) (.var 1)) .nil)))
  .nil) .nil)
  .nil) items [e0, some (.d (.int p)), some (.d (.int z)), some (.d (.int dd)), some (.d (.int w)), x, none, none, none, none, none, none, none, none, none] h C := by
  intro items
  induction items with
  | nil =>
    intro j dd w x h1 h2 h3 h4 q
    rw [wFr_0]
    rw [List.length_nil] at h4
    exact q dd w x (by omega) (by rw [h2, show j = k by omega])
  | cons y items ih =>
    intro j dd w x h1 h2 h3 h4 q
    rw [List.length_cons] at h4
    rw [wFr_1]
    have hm : (p : Int) * (z : Int) = ((p * z : Nat) : Int) := (Int.natCast_mul p z).symm
    have d2 := d.p2
    by_cases e : j < k
    · have hlt : w < (p : Int) * (z : Int) := by
        have := f.lo j e
        rw [h2, hm]
        omega
      have o : mulOk w (p : Int) = true := mulOk_r (by omega) (by omega)
      simp [d.ok, hlt, o]
      exact ih (j + 1) _ _ _ (by omega) (by rw [h2, Nat.pow_succ, Int.natCast_mul]) (by omega) (by omega) q
    · have hlt : ¬ w < (p : Int) * (z : Int) := by
        have := f.hi
        rw [h2, hm, show j = k by omega]
        omega
      simp [d.ok, hlt]
      exact ih j _ _ _ h1 h2 h3 (by omega) q
/-! ### what choices tell -/
theorem ch_plc {m x y : Nat} (hM : cl (x * p ^ m) (p * z) < p ^ m) : plc p z (chF p z m x) y = (y + p * z * cl (x * p ^ m) (p * z)) / p ^ m := by
  unfold plc chF
  rw [nb_dg, dg_len, Nat.mod_eq_of_lt hM]
theorem ch_nb {m x : Nat} (hM : cl (x * p ^ m) (p * z) < p ^ m) : nb p (chF p z m x) = cl (x * p ^ m) (p * z) := by
  unfold chF
  rw [nb_dg, Nat.mod_eq_of_lt hM]
theorem ch_len {m x : Nat} : (chF p z m x).length = m := dg_len _ _
theorem cf_there (d : Dl p z) {m x : Nat} (hx : x < p * z) (hW : p * z ≤ p ^ m) (ht : cl (x * p ^ m) (p * z) * (p * z) + p * z ≤ (x + 1) * p ^ m) : toD p z (chF p z m x) = .int (x : Nat) ∧ cfD p z m x = .tup (il (chF p z m x)) := by
  have hM : cl (x * p ^ m) (p * z) < p ^ m := cl_lt hx hW
  have h1 := (cl_spec (a := x * p ^ m) d.pos).1
  have hN := d.pos
  obtain ⟨e1, e2⟩ := there hN (Nat.pow_pos (by have := d.p1; omega)) h1 ht
  have q1 : plc p z (chF p z m x) 0 = x := by rw [ch_plc hM, Nat.zero_add]; exact e1
  have q2 : plc p z (chF p z m x) (p * z - 1) = x := by
    rw [ch_plc hM, show p * z - 1 + p * z * cl (x * p ^ m) (p * z) = p * z * cl (x * p ^ m) (p * z) + p * z - 1 by omega]
    exact e2
  have e3 : toD p z (chF p z m x) = .int (x : Nat) := by unfold toD; rw [q1, q2, if_pos rfl]
  refine ⟨e3, ?_⟩
  unfold cfD
  rw [e3, deq_ii, decide_eq_true rfl, if_pos rfl]
theorem cf_not (d : Dl p z) {m x : Nat} (hx : x < p * z) (hW : p * z ≤ p ^ m) (ht : ¬ cl (x * p ^ m) (p * z) * (p * z) + p * z ≤ (x + 1) * p ^ m) : cfD p z m x = .non := by
  have hM : cl (x * p ^ m) (p * z) < p ^ m := cl_lt hx hW
  have hN := d.pos
  have e2 := not_there hN (Nat.pow_pos (by have := d.p1; omega)) ht
  have q2 : plc p z (chF p z m x) (p * z - 1) ≠ x := by
    rw [ch_plc hM, show p * z - 1 + p * z * cl (x * p ^ m) (p * z) = p * z * cl (x * p ^ m) (p * z) + p * z - 1 by omega]
    exact e2
  have e3 : deq (toD p z (chF p z m x)) (.int (x : Nat)) = false := by
    unfold toD
    split
    · rename_i e
      rw [deq_ii, decide_eq_false]
      rw [e]
      omega
    · rfl
  unfold cfD
  rw [e3]
  rfl
theorem cf_few (d : Dl p z) {m x : Nat} (hW : p ^ m < p * z) : cfD p z m x = .non := by
  have e1 := apart (A := p * z * nb p (chF p z m x)) (Nat.pow_pos (show 0 < p by have := d.p1; omega)) hW
  have hN := d.pos
  have e3 : toD p z (chF p z m x) = .non := by
    unfold toD
    rw [if_neg]
    unfold plc
    rw [ch_len, Nat.zero_add, show p * z - 1 + p * z * nb p (chF p z m x) = p * z * nb p (chF p z m x) + p * z - 1 by omega]
    exact e1
  unfold cfD
  rw [e3]
  rfl
theorem bI_sumI {ns : List Int} {K : W → Prop} : bI .sum [.lst (ns.map D.int)] K ↔ K (.v (.d (.int ns.sum))) := by
  show opt (bSum [.lst (ns.map D.int)]) K ↔ _
  unfold bSum
  simp only [intsD_map]
  exact Iff.rfl
theorem enu_il (l : List Nat) : enuL 0 (il l) = l.zipIdx.map fun q => D.tup [.int (q.2 : Nat), .int (q.1 : Nat)] := by
  rw [enuL_zip]
  unfold il
  rw [List.zipIdx_map, List.map_map]
  rfl
theorem sum_nb : ∀ (l : List Nat) (m : Nat), ((l.zipIdx m).map fun q => ((q.1 * p ^ q.2 : Nat) : Int)).sum = ((p ^ m * nb p l : Nat) : Int)
  | [], m => by simp [nb]
  | c :: l, m => by
    rw [List.zipIdx_cons, List.map_cons, List.sum_cons, sum_nb l (m + 1), nb, ← Int.natCast_add]
    congr 1
    rw [Nat.mul_add, Nat.pow_succ, Nat.mul_comm c, Nat.mul_assoc]
end
end Lw
set_option linter.all false
set_option maxRecDepth 100000
set_option maxHeartbeats 1600000
namespace Lw
open PySem Ev Dk
section
variable {n : Nat} {h t : Hh} {K : Val → Hh → Prop} {p z k : Nat} {cs : List Nat} {s : Int × Int}
theorem p_told_right (d : Dl p z) (q : ∀ s', K (.d (.bl true)) [cup s']) : wF (T.cfg (n + 7)) 27 [.ref 0, .d (.int p), .d (.int z)] [cup s] K := by
  obtain ⟨k, k1, k2, f⟩ := d.fw
  rw [w__law_told_right, b__law_told_right]
  have s20 : smallI 20 = true := by decide
  simp [s20]
  refine deal_loop d f (rngL 0 20) 0 0 1 none rfl rfl (by omega) (by unfold rngL; simp; omega) fun dd w x0 h1 h2 => ?_
  subst h1
  have d1 := d.p1
  have d2 := d.p2
  obtain ⟨N, hN⟩ : ∃ N, p * z = N := ⟨_, rfl⟩
  have hm : (p : Int) * (z : Int) = (N : Int) := by rw [← Int.natCast_mul, hN]
  have hN1 : 2 ≤ N := by rw [← hN]; exact d.two
  have hN2 : N ≤ 10000 := by rw [← hN]; exact d.le
  have lk := fun K h => p_likeI (n := n + 1) (h := h) (K := K) (d := .int (k : Nat)) rfl
  simp [p_fewest (n := n + 2) d f (by omega), lk, d.ok, hm]
  with_reducible refine p_rollI (n := n + 5) ?_ ?_ ?_
  · omega
  · omega
  intro r s1 a0 a1
  obtain ⟨x, rfl⟩ := Int.eq_ofNat_of_zero_le a0
  simp
  rw [show [D.int 0, D.int 0, D.int 1] = [0, 0, 1].map D.int from rfl]
  with_reducible refine p_someI (n := n + 4) ?_ ?_ ?_
  · simp
  · simp
  intro i s2 hi
  have hi' : i = 0 ∨ i = 1 := by
    simp only [List.mem_cons, List.not_mem_nil, or_false] at hi
    omega
  rcases hi' with hi' | hi'
  · -- 0
    subst hi'
    obtain ⟨W, hW⟩ : ∃ W, p ^ (k) = W := ⟨_, rfl⟩
    have hw : w = (W : Int) := by rw [h2, hW]
    have hWN : N ≤ W := by
      have := f.hi
      rw [hN] at this
      rw [← hW]
      exact Nat.le_trans this (Nat.pow_le_pow_right (by omega) (by omega))
    have hWb : W ≤ 20 ^ 20 := by rw [← hW]; exact pow_le20 d2 (by omega)
    have hW0 : 0 < W := by omega
    have hx : x < p * z := by omega
    obtain ⟨M, hM⟩ : ∃ M, cl (x * W) N = M := ⟨_, rfl⟩
    have hc : -(-(x : Int) * (W : Int) / (N : Int)) = (M : Int) := by
      rw [Int.neg_mul, ← Int.natCast_mul, ← hM]
      exact cl_int (by omega)
    have o1 : mulOk (-(x : Int)) (W : Int) = true := mulOk_abs (by omega)
    have dv : divOk (N : Int) = true := divOk_of (by omega) (by omega)
    have dw : divOk (W : Int) = true := divOk_of (by omega) (by omega)
    have o2 : mulOk (M : Int) (p : Int) = true := mulOk_r (by omega) (by omega)
    have d4 := d.s2
    have o3 : mulOk ((M : Int) * (p : Int)) (z : Int) = true := mulOk_r (by omega) (by omega)
    have o4 : mulOk ((x : Int) + 1) (W : Int) = true := mulOk_l (by omega) (by omega)
    obtain ⟨F, hF⟩ : ∃ F, M * N = F := ⟨_, rfl⟩
    have hf : (M : Int) * (p : Int) * (z : Int) = (F : Int) := by rw [Int.mul_assoc, hm, ← Int.natCast_mul, hF]
    have hxw : ((x : Int) + 1) * (W : Int) = (((x + 1) * W : Nat) : Int) := by rw [Int.natCast_mul]; rfl
    have pc := fun K => p_choices_for (n := n + 2) (h := [cup s2]) (K := K) d (k := k) (x := x) (by omega) hx
    by_cases ht : F + N ≤ (x + 1) * W
    · have ht2 : cl (x * p ^ (k)) (p * z) * (p * z) + p * z ≤ (x + 1) * p ^ (k) := by rw [hN, hW, hM, hF]; exact ht
      have hle : (F : Int) + (N : Int) ≤ ((x : Int) + 1) * (W : Int) := by rw [hxw]; omega
      have hlt : ¬ ((x : Int) + 1) * (W : Int) < (F : Int) + (N : Int) := by omega
      obtain ⟨td, cf⟩ := cf_there d hx (by rw [hN, hW]; exact hWN) ht2
      have chc : Ch p (chF p z (k) x) := chF_ch d (by omega)
      have tl := fun K => p_told_place (n := n + 1) (h := [cup s2]) (K := K) d chc
      rw [td] at tl
      rw [cf] at pc
      have cln : (chF p z (k) x).length = k := ch_len
      have cnb : nb p (chF p z (k) x) = M := by
        rw [ch_nb, hN, hW, hM]
        rw [hN, hW]
        exact cl_lt (by omega) hWN
      generalize chF p z (k) x = ch at *
      have hs1 : x * W ≤ F := by
        have := (cl_spec (a := x * W) (N := N) (by omega)).1
        rw [← hF, ← hM]
        exact this
      obtain ⟨v1, v2⟩ := there (M := M) (by omega : 0 < N) hW0 (by rw [hF]; exact hs1) (by rw [hF]; exact ht)
      rw [Nat.mul_comm, hF] at v1 v2
      have q1 : (F : Int) / (W : Int) = (x : Int) := by rw [← Int.natCast_ediv, v1]
      have q2 : ((F : Int) + (N : Int) - 1) / (W : Int) = (x : Int) := by
        rw [show (F : Int) + (N : Int) - 1 = ((F + N - 1 : Nat) : Int) by omega, ← Int.natCast_ediv, v2]
      have lkx := fun K => p_likeI (n := n + 1) (h := [cup s2]) (K := K) (d := .int (x : Nat)) rfl
      simp [hw, pc, hc, o1, dv, dw, o2, o3, o4, hf, hle, hlt, il_len, cln, wipeE]
      refine wLc_bad (fun y : Nat => D.int (y : Nat)) (fun y => wh 0 ((p : Int) - 1) (.int (y : Nat))) (xs := ch) (by omega) (fun y hy => ?_) ?_
      · simp [p_law_whole (d := .int (y : Nat)) (N := 1) rfl]
      have eall : (ch.all fun y => wh 0 ((p : Int) - 1) (.int (y : Nat))) = true := by
        rw [List.all_eq_true]
        intro y hy
        have := chc.lt y hy
        simp [wh]
        omega
      simp [cm_neE, eall, enu_il]
      refine wLc_mapM (xs := ch.zipIdx) (fun q : Nat × Nat => D.tup [.int (q.2 : Nat), .int (q.1 : Nat)]) (fun q => .int ((q.1 * p ^ q.2 : Nat) : Int)) (fun q hq => ?_) (by rw [List.length_zipIdx, cln]; show _ ≤ 16777216; omega) ?_
      · obtain ⟨c0, j⟩ := q
        have hj : j < ch.length := by have := List.snd_lt_of_mem_zipIdx hq; simpa using this
        have hc0 : c0 ∈ ch := List.fst_mem_of_mem_zipIdx hq
        have := chc.lt c0 hc0
        have pw := fun K => p_law_power (n := n + 5) (h := [cup s2]) (K := K) (p := p) (k := j) (by omega) (by omega)
        have o : ∀ R : Int, mulOk (c0 : Int) R = true := fun R => mulOk_l (by omega) (by omega)
        generalize p ^ j = R at pw ⊢
        simp [pw, o]
      have hs := sum_nb (p := p) ch 0
      rw [Nat.pow_zero, Nat.one_mul, cnb] at hs
      have em : (List.map (fun q : Nat × Nat => D.int ((q.1 * p ^ q.2 : Nat) : Int)) ch.zipIdx) = (ch.zipIdx.map fun q => ((q.1 * p ^ q.2 : Nat) : Int)).map D.int := by rw [List.map_map]; rfl
      rw [em]
      generalize (ch.zipIdx.map fun q => ((q.1 * p ^ q.2 : Nat) : Int)) = ns at *
      simp [bI_sumI, hs, o2, o3, hf, dw, q1, q2, tl, lkx]
      with_reducible refine ⟨?_, ?_⟩
      · intro _
        exact q s2
      · intro hk
        have cf2 := cf_few d (x := x) (f.lo (k - 1) (by omega))
        have pc2 := fun K => p_choices_for (n := n + 2) (h := [cup s2]) (K := K) d (k := k - 1) (x := x) (by omega) hx
        rw [cf2, show ((k - 1 : Nat) : Int) = (k : Int) - 1 by omega] at pc2
        simp [pc2]
        exact q s2
    · have ht2 : ¬ cl (x * p ^ (k)) (p * z) * (p * z) + p * z ≤ (x + 1) * p ^ (k) := by rw [hN, hW, hM, hF]; exact ht
      have hle : ¬ (F : Int) + (N : Int) ≤ ((x : Int) + 1) * (W : Int) := by rw [hxw]; omega
      have hlt : ((x : Int) + 1) * (W : Int) < (F : Int) + (N : Int) := by omega
      have cf := cf_not d hx (by rw [hN, hW]; exact hWN) ht2
      rw [cf] at pc
      simp [hw, pc, hc, o1, dv, o2, o3, o4, hf, hle, hlt]
      exact q s2
  · -- 1
    subst hi'
    obtain ⟨W, hW⟩ : ∃ W, p ^ (k + 1) = W := ⟨_, rfl⟩
    have hw : w * (p : Int) = (W : Int) := by rw [h2, ← Int.natCast_mul, ← Nat.pow_succ, hW]
    have hWN : N ≤ W := by
      have := f.hi
      rw [hN] at this
      rw [← hW]
      exact Nat.le_trans this (Nat.pow_le_pow_right (by omega) (by omega))
    have hWb : W ≤ 20 ^ 20 := by rw [← hW]; exact pow_le20 d2 (by omega)
    have hW0 : 0 < W := by omega
    have hx : x < p * z := by omega
    obtain ⟨M, hM⟩ : ∃ M, cl (x * W) N = M := ⟨_, rfl⟩
    have hc : -(-(x : Int) * (W : Int) / (N : Int)) = (M : Int) := by
      rw [Int.neg_mul, ← Int.natCast_mul, ← hM]
      exact cl_int (by omega)
    have o1 : mulOk (-(x : Int)) (W : Int) = true := mulOk_abs (by omega)
    have dv : divOk (N : Int) = true := divOk_of (by omega) (by omega)
    have dw : divOk (W : Int) = true := divOk_of (by omega) (by omega)
    have o2 : mulOk (M : Int) (p : Int) = true := mulOk_r (by omega) (by omega)
    have d4 := d.s2
    have o3 : mulOk ((M : Int) * (p : Int)) (z : Int) = true := mulOk_r (by omega) (by omega)
    have o4 : mulOk ((x : Int) + 1) (W : Int) = true := mulOk_l (by omega) (by omega)
    obtain ⟨F, hF⟩ : ∃ F, M * N = F := ⟨_, rfl⟩
    have hf : (M : Int) * (p : Int) * (z : Int) = (F : Int) := by rw [Int.mul_assoc, hm, ← Int.natCast_mul, hF]
    have hxw : ((x : Int) + 1) * (W : Int) = (((x + 1) * W : Nat) : Int) := by rw [Int.natCast_mul]; rfl
    have pc := fun K => p_choices_for (n := n + 2) (h := [cup s2]) (K := K) d (k := k + 1) (x := x) (by omega) hx
    rw [show ((k + 1 : Nat) : Int) = (k : Int) + 1 by omega] at pc
    have ow : mulOk w (p : Int) = true := mulOk_r (by omega) (by omega)
    by_cases ht : F + N ≤ (x + 1) * W
    · have ht2 : cl (x * p ^ (k + 1)) (p * z) * (p * z) + p * z ≤ (x + 1) * p ^ (k + 1) := by rw [hN, hW, hM, hF]; exact ht
      have hle : (F : Int) + (N : Int) ≤ ((x : Int) + 1) * (W : Int) := by rw [hxw]; omega
      have hlt : ¬ ((x : Int) + 1) * (W : Int) < (F : Int) + (N : Int) := by omega
      obtain ⟨td, cf⟩ := cf_there d hx (by rw [hN, hW]; exact hWN) ht2
      have chc : Ch p (chF p z (k + 1) x) := chF_ch d (by omega)
      have tl := fun K => p_told_place (n := n + 1) (h := [cup s2]) (K := K) d chc
      rw [td] at tl
      rw [cf] at pc
      have cln : (chF p z (k + 1) x).length = k + 1 := ch_len
      have cnb : nb p (chF p z (k + 1) x) = M := by
        rw [ch_nb, hN, hW, hM]
        rw [hN, hW]
        exact cl_lt (by omega) hWN
      generalize chF p z (k + 1) x = ch at *
      have hs1 : x * W ≤ F := by
        have := (cl_spec (a := x * W) (N := N) (by omega)).1
        rw [← hF, ← hM]
        exact this
      obtain ⟨v1, v2⟩ := there (M := M) (by omega : 0 < N) hW0 (by rw [hF]; exact hs1) (by rw [hF]; exact ht)
      rw [Nat.mul_comm, hF] at v1 v2
      have q1 : (F : Int) / (W : Int) = (x : Int) := by rw [← Int.natCast_ediv, v1]
      have q2 : ((F : Int) + (N : Int) - 1) / (W : Int) = (x : Int) := by
        rw [show (F : Int) + (N : Int) - 1 = ((F + N - 1 : Nat) : Int) by omega, ← Int.natCast_ediv, v2]
      have lkx := fun K => p_likeI (n := n + 1) (h := [cup s2]) (K := K) (d := .int (x : Nat)) rfl
      simp [hw, ow, pc, hc, o1, dv, dw, o2, o3, o4, hf, hle, hlt, il_len, cln, wipeE]
      refine wLc_bad (fun y : Nat => D.int (y : Nat)) (fun y => wh 0 ((p : Int) - 1) (.int (y : Nat))) (xs := ch) (by omega) (fun y hy => ?_) ?_
      · simp [p_law_whole (d := .int (y : Nat)) (N := 1) rfl]
      have eall : (ch.all fun y => wh 0 ((p : Int) - 1) (.int (y : Nat))) = true := by
        rw [List.all_eq_true]
        intro y hy
        have := chc.lt y hy
        simp [wh]
        omega
      simp [cm_neE, eall, enu_il]
      refine wLc_mapM (xs := ch.zipIdx) (fun q : Nat × Nat => D.tup [.int (q.2 : Nat), .int (q.1 : Nat)]) (fun q => .int ((q.1 * p ^ q.2 : Nat) : Int)) (fun q hq => ?_) (by rw [List.length_zipIdx, cln]; show _ ≤ 16777216; omega) ?_
      · obtain ⟨c0, j⟩ := q
        have hj : j < ch.length := by have := List.snd_lt_of_mem_zipIdx hq; simpa using this
        have hc0 : c0 ∈ ch := List.fst_mem_of_mem_zipIdx hq
        have := chc.lt c0 hc0
        have pw := fun K => p_law_power (n := n + 5) (h := [cup s2]) (K := K) (p := p) (k := j) (by omega) (by omega)
        have o : ∀ R : Int, mulOk (c0 : Int) R = true := fun R => mulOk_l (by omega) (by omega)
        generalize p ^ j = R at pw ⊢
        simp [pw, o]
      have hs := sum_nb (p := p) ch 0
      rw [Nat.pow_zero, Nat.one_mul, cnb] at hs
      have em : (List.map (fun q : Nat × Nat => D.int ((q.1 * p ^ q.2 : Nat) : Int)) ch.zipIdx) = (ch.zipIdx.map fun q => ((q.1 * p ^ q.2 : Nat) : Int)).map D.int := by rw [List.map_map]; rfl
      rw [em]
      generalize (ch.zipIdx.map fun q => ((q.1 * p ^ q.2 : Nat) : Int)) = ns at *
      simp [bI_sumI, hs, o2, o3, hf, dw, q1, q2, tl, lkx]
      with_reducible refine ⟨?_, ?_⟩
      · intro _
        exact q s2
      · intro hk
        have cf2 := cf_few d (x := x) (f.lo (k - 1) (by omega))
        have pc2 := fun K => p_choices_for (n := n + 2) (h := [cup s2]) (K := K) d (k := k - 1) (x := x) (by omega) hx
        rw [cf2, show ((k - 1 : Nat) : Int) = (k : Int) - 1 by omega] at pc2
        simp [pc2]
        exact q s2
    · have ht2 : ¬ cl (x * p ^ (k + 1)) (p * z) * (p * z) + p * z ≤ (x + 1) * p ^ (k + 1) := by rw [hN, hW, hM, hF]; exact ht
      have hle : ¬ (F : Int) + (N : Int) ≤ ((x : Int) + 1) * (W : Int) := by rw [hxw]; omega
      have hlt : ((x : Int) + 1) * (W : Int) < (F : Int) + (N : Int) := by omega
      have cf := cf_not d hx (by rw [hN, hW]; exact hWN) ht2
      rw [cf] at pc
      simp [hw, ow, pc, hc, o1, dv, o2, o3, o4, hf, hle, hlt]
      exact q s2
end
end Lw
set_option linter.all false
set_option maxRecDepth 100000
set_option maxHeartbeats 1600000
namespace Lw
open PySem Ev Dk
section
variable {n : Nat} {h t : Hh} {K : Val → Hh → Prop} {p z k : Nat} {cs : List Nat} {s : Int × Int}
theorem dg_map (hp : 0 < p) : ∀ (k m x : Nat), (List.range' m k).map (fun a => x / p ^ a % p) = dg p k (x / p ^ m)
  | 0, _, _ => rfl
  | k + 1, m, x => by
    rw [List.range'_succ, List.map_cons, dg_map hp k (m + 1), dg, Nat.div_div_eq_div_mul, Nat.pow_succ]
theorem dg_digits (hp : 0 < p) (k x : Nat) : (List.range k).map (fun a => x / p ^ a % p) = dg p k x := by
  rw [List.range_eq_range', dg_map hp k 0, Nat.pow_zero, Nat.div_one]
theorem dg_tail (k x : Nat) : (dg p (k + 1) x).tail = dg p k (x / p) := rfl
def gls : List (Nat × Nat) := [(2, 8), (3, 5), (3, 6), (5, 4), (10, 3), (20, 2), (7, 4)]
theorem gls_ok : ∀ q ∈ gls, 2 ≤ q.1 ∧ q.1 ≤ 20 ∧ 2 ≤ q.2 ∧ q.2 ≤ 8 ∧ 1 ≤ q.1 ^ (q.2 - 1) ∧ q.1 ^ (q.2 - 1) ≤ 500 := by decide
theorem cl_exact {x W : Nat} (hW : 0 < W) : cl (x * W) W = x := by
  unfold cl
  refine Nat.div_eq_of_lt_le (by omega) ?_
  rw [Nat.succ_mul]
  omega
/-- packs of piles to the power L -/
theorem gr_facts (d : Dl p z) {L x : Nat} (hL : 1 ≤ L) (hz : p * z = p ^ L) (hx : x < p * z) : toD p z (dg p L x) = .int (x : Nat) ∧ cfD p z L x = .tup (il (dg p L x)) ∧ Fw p (p * z) L ∧ toD p z (dg p (L - 1) (x / p)) = .non := by
  have h0 := d.pos
  have ech : chF p z L x = dg p L x := by
    unfold chF
    rw [← hz, cl_exact h0]
  have ht : cl (x * p ^ L) (p * z) * (p * z) + p * z ≤ (x + 1) * p ^ L := by
    rw [← hz, cl_exact h0, Nat.succ_mul]
    omega
  obtain ⟨a, b⟩ := cf_there d hx (by rw [hz]; omega) ht
  rw [ech] at a b
  refine ⟨a, b, ⟨fun j hj => ?_, by omega⟩, ?_⟩
  · rw [hz]
    exact Nat.pow_lt_pow_right (by have := d.p1; omega) hj
  · have hp : 0 < p := by have := d.p1; omega
    have hW : p ^ (L - 1) < p * z := by
      rw [hz]
      exact Nat.pow_lt_pow_right (by have := d.p1; omega) (by omega)
    have e1 := apart (A := p * z * nb p (dg p (L - 1) (x / p))) (Nat.pow_pos (n := L - 1) hp) hW
    unfold toD
    rw [if_neg]
    unfold plc
    rw [dg_len, Nat.zero_add, show p * z - 1 + p * z * nb p (dg p (L - 1) (x / p)) = p * z * nb p (dg p (L - 1) (x / p)) + p * z - 1 by omega]
    exact e1
theorem p_great_right (q : ∀ s', K (.d (.bl true)) [cup s']) : wF (T.cfg (n + 7)) 29 [.ref 0] [cup s] K := by
  rw [w__law_great_right, b__law_great_right]
  simp
  have e7 : [D.tup [.int 2, .int 8], D.tup [.int 3, .int 5], D.tup [.int 3, .int 6], D.tup [.int 5, .int 4], D.tup [.int 10, .int 3], D.tup [.int 20, .int 2], D.tup [.int 7, .int 4]] = gls.map fun q => D.tup [.int (q.1 : Nat), .int (q.2 : Nat)] := rfl
  rw [e7]
  with_reducible refine p_someD (n := n + 4) ?_ ?_ ?_
  · simp [gls]
  · simp [gls]
  intro v s1 hv
  have hv2 : ∃ p L : Nat, (2 ≤ p ∧ p ≤ 20 ∧ 2 ≤ L ∧ L ≤ 8 ∧ 1 ≤ p ^ (L - 1) ∧ p ^ (L - 1) ≤ 500) ∧ v = .tup [.int (p : Nat), .int (L : Nat)] := by
    obtain ⟨⟨p, L⟩, hq, rfl⟩ := List.mem_map.mp hv
    exact ⟨p, L, gls_ok _ hq, rfl⟩
  obtain ⟨p, L, ⟨p1, p2, l1, l2, z1, z2⟩, rfl⟩ := hv2
  obtain ⟨z, hz⟩ : ∃ z, p ^ (L - 1) = z := ⟨_, rfl⟩
  rw [hz] at z1 z2
  have d : Dl p z := ⟨p1, p2, z1, z2⟩
  have hpz : p * z = p ^ L := by
    rw [← hz, Nat.mul_comm, ← Nat.pow_succ, show (L - 1).succ = L by omega]
  have eL : (L : Int) - 1 = ((L - 1 : Nat) : Int) := by omega
  have pw := fun K => p_law_power (n := n + 5) (h := [cup s1]) (K := K) (p := p) (k := L - 1) (by omega) (by omega)
  rw [hz] at pw
  have hm : (p : Int) * (z : Int) = ((p * z : Nat) : Int) := (Int.natCast_mul p z).symm
  obtain ⟨N, hN⟩ : ∃ N, p * z = N := ⟨_, rfl⟩
  rw [hN] at hm
  have hN2 : N ≤ 10000 := by rw [← hN]; exact d.le
  have hN1 : 2 ≤ N := by rw [← hN]; exact d.two
  simp [eL, pw, d.ok, hm]
  with_reducible refine p_rollI (n := n + 5) ?_ ?_ ?_
  · omega
  · omega
  intro r s2 a0 a1
  obtain ⟨x, rfl⟩ := Int.eq_ofNat_of_zero_le a0
  have hx : x < p * z := by omega
  obtain ⟨g1, g2, g3, g4⟩ := gr_facts d (by omega : 1 ≤ L) hpz hx
  have sm : smallI (L : Int) = true := smallI_of2 (by omega) (by omega)
  have chL : Ch p (dg p L x) := ⟨dg_lt (by omega) _ _, by rw [dg_len]; omega⟩
  have chT : Ch p (dg p (L - 1) (x / p)) := ⟨dg_lt (by omega) _ _, by rw [dg_len]; omega⟩
  have c1 := fun K => p_choices_for (n := n + 2) (h := [cup s2]) (K := K) d (k := L) (x := x) (by omega) hx
  have c2 := fun K => p_told_place (n := n + 1) (h := [cup s2]) (K := K) d chL
  have c3 := fun K => p_fewest (n := n + 2) (h := [cup s2]) (K := K) d g3 (by omega)
  have c4 := fun K => p_told_place (n := n + 1) (h := [cup s2]) (K := K) d chT
  rw [g2] at c1
  rw [g1] at c2
  rw [g4] at c4
  have ed : (List.range L).map (fun a => D.int ((x / p ^ a % p : Nat) : Int)) = il (dg p L x) := by
    rw [← dg_digits (by omega)]
    simp [il]
  have es : ∀ K, sL (.tup (il (dg p L x))) (some 1) none K ↔ K (.v (.d (.tup (il (dg p (L - 1) (x / p)))))) := fun K => by
    rw [sL_from (by omega)]
    have : (il (dg p L x)).drop (Int.toNat 1) = il (dg p (L - 1) (x / p)) := by
      obtain ⟨M, rfl⟩ : ∃ M, L = M + 1 := ⟨L - 1, by omega⟩
      rfl
    rw [this]
  generalize dg p L x = ch at *
  generalize dg p (L - 1) (x / p) = ch' at *
  have sh : shp 4 (.lst [.tup (il ch), .int (x : Nat), .int (L : Nat), .non]) = true := by
    have : shp 3 (.tup (il ch)) = true := by rw [shp]; exact il_shp 1 ch
    rw [shp, shps, this]
    rfl
  have lk := fun K h => p_likeI (n := n + 1) (h := h) (K := K) sh
  with_reducible refine ⟨sm, ?_⟩
  simp only [wipeE]
  rw [rngL_len (N := L) rfl]
  with_reducible refine wLc_mapM (xs := List.range L) (fun j : Nat => D.int (j : Nat)) (fun a => .int ((x / p ^ a % p : Nat) : Int)) ?_ ?_ ?_
  · intro a ha
    have := List.mem_range.mp ha
    have pw := fun K => p_law_power (n := n + 5) (h := [cup s2]) (K := K) (p := p) (k := a) (by omega) (by omega)
    have h0 : 0 < p ^ a := Nat.pow_pos (by omega)
    have hb := pow_le20 p2 (show a ≤ 20 by omega)
    generalize p ^ a = R at pw h0 hb ⊢
    have dv : divOk (R : Int) = true := divOk_of (by omega) (by omega)
    simp [pw, dv]
    omega
  · rw [List.length_range]
    show L ≤ 16777216
    omega
  rw [ed]
  simp [c1, c2, c3, c4, es, lk]
  with_reducible refine ⟨by decide, ?_⟩
  refine wLc_inv (I := fun items acc h => ∃ s zs, h = [cup s] ∧ acc = il zs ∧ (∀ y ∈ zs, y < 20) ∧ zs.length + items.length = 20) ⟨s2, [], rfl, rfl, fun _ z => (by cases z), by unfold rngL; simp⟩ ?_ ?_
  · rintro acc h ⟨s3, zs, rfl, rfl, hz', hl⟩
    rw [List.length_nil, Nat.add_zero] at hl
    have dd : Dl 20 500 := ⟨by omega, by omega, by omega, by omega⟩
    have d2 : Dl 2 500 := ⟨by omega, by omega, by omega, by omega⟩
    have cz : Ch 20 zs := ⟨hz', by omega⟩
    rw [enu_il]
    refine wLc_mapM (xs := zs.zipIdx) (fun q : Nat × Nat => D.tup [.int (q.2 : Nat), .int (q.1 : Nat)]) (fun q => .int ((q.1 * 20 ^ q.2 : Nat) : Int)) (fun q hq => ?_) (by rw [List.length_zipIdx, hl]; decide) ?_
    · obtain ⟨c0, j⟩ := q
      have hj : j < zs.length := by have := List.snd_lt_of_mem_zipIdx hq; simpa using this
      have hc0 : c0 ∈ zs := List.fst_mem_of_mem_zipIdx hq
      have := hz' c0 hc0
      have pw : ∀ K, wF (T.cfg (n + 6)) 28 [.d (.int 20), .d (.int (j : Nat))] [cup s3] K ↔ K (.d (.int ((20 ^ j : Nat) : Int))) [cup s3] := fun K => p_law_power (n := n + 5) (p := 20) (k := j) (by omega) (by omega)
      have o : ∀ R : Int, mulOk (c0 : Int) R = true := fun R => mulOk_l (by omega) (by omega)
      generalize 20 ^ j = R at pw ⊢
      simp [pw, o]
    have hs := sum_nb (p := 20) zs 0
    rw [Nat.pow_zero, Nat.one_mul] at hs
    have em : (List.map (fun q : Nat × Nat => D.int ((q.1 * 20 ^ q.2 : Nat) : Int)) zs.zipIdx) = (zs.zipIdx.map fun q => ((q.1 * 20 ^ q.2 : Nat) : Int)).map D.int := by rw [List.map_map]; rfl
    rw [em]
    generalize (zs.zipIdx.map fun q => ((q.1 * 20 ^ q.2 : Nat) : Int)) = ns at *
    simp [bI_sumI, hs]
    with_reducible refine p_rollI (n := n + 5) ?_ ?_ ?_
    · omega
    · omega
    intro r s4 b0 b1
    obtain ⟨y, rfl⟩ := Int.eq_ofNat_of_zero_le b0
    have hy : y < 20 * 500 := by omega
    have w1 : ∀ K, wF (T.cfg (n + 6)) 28 [.d (.int 20), .d (.int 20)] [cup s4] K ↔ K (.d (.int ((20 ^ 20 : Nat) : Int))) [cup s4] := fun K => p_law_power (n := n + 5) (p := 20) (k := 20) (by omega) (by omega)
    have w2 : ∀ K, wF (T.cfg (n + 6)) 9 [.d (.int 20), .d (.int 500), .d (.tup (il zs)), .d (.int (y : Nat))] [cup s4] K ↔ K (.d (.int (plc 20 500 zs y : Nat))) [cup s4] := fun K => p_asked_place (n := n + 1) (p := 20) (s := 500) dd cz hy
    have f3 : Fw 20 (20 * 500) 4 := ⟨by decide, by decide⟩
    have f4 : Fw 2 (2 * 500) 10 := ⟨by decide, by decide⟩
    have w3 : ∀ K, wF (T.cfg (n + 6)) 14 [.d (.int 20), .d (.int 500)] [cup s4] K ↔ K (.d (.int 4)) [cup s4] := fun K => p_fewest (n := n + 2) (p := 20) (s := 500) (k := 4) dd f3 (by omega)
    have w4 : ∀ K, wF (T.cfg (n + 6)) 14 [.d (.int 2), .d (.int 500)] [cup s4] K ↔ K (.d (.int 10)) [cup s4] := fun K => p_fewest (n := n + 2) (p := 2) (s := 500) (k := 10) d2 f4 (by omega)
    have w5 : ∀ K, wF (T.cfg (n + 6)) 10 [.d (.int 20), .d (.int 500), .d (.tup [])] [cup s4] K ↔ K (.d (.tup [.int 0, .int 9999])) [cup s4] := fun K => p_asked_places (n := n + 1) (p := 20) (s := 500) (cs := []) dd ⟨fun _ z => (by cases z), by decide⟩
    have ep : ((y : Int) + 10000 * (nb 20 zs : Nat)) / ((20 ^ 20 : Nat) : Int) = (plc 20 500 zs y : Nat) := by
      unfold plc
      rw [hl, Int.natCast_ediv, Int.natCast_add, Int.natCast_mul]
      rfl
    have hW : (20 ^ 20 : Nat) < 1606938044258990275541962092341162602522202993782792835301376 := by decide
    have hW0 : 0 < (20 ^ 20 : Nat) := by decide
    generalize (20 ^ 20 : Nat) = W at w1 ep hW hW0
    have dv : divOk (W : Int) = true := divOk_of (by omega) (by omega)
    have lk := fun K h => p_likeI (n := n + 1) (h := h) (K := K) (d := .lst [.int (plc 20 500 zs y : Nat), .int 4, .int 10, .tup [.int 0, .int 9999]]) rfl
    simp [w1, w2, w3, w4, w5, ep, dv, lk]
    exact q s4
  · rintro dd items acc h ⟨s3, zs, rfl, rfl, hz', hl⟩
    rw [List.length_cons] at hl
    simp
    with_reducible refine p_rollI (n := n + 5) ?_ ?_ ?_
    · omega
    · omega
    intro r s4 b0 b1
    obtain ⟨y, rfl⟩ := Int.eq_ofNat_of_zero_le b0
    have hl2 : (il zs).length < 16777216 := by rw [il_len]; omega
    simp [hl2]
    refine ⟨⟨s4.1, s4.2, rfl⟩, zs ++ [y], by rw [il_app]; rfl, fun u hu => ?_, by rw [List.length_append, List.length_singleton]; omega⟩
    rcases List.mem_append.mp hu with z' | z'
    · exact hz' u z'
    · rw [List.mem_singleton.mp z']; omega
end
end Lw
set_option linter.all false
set_option maxRecDepth 100000
set_option maxHeartbeats 3200000
namespace Lw
open PySem Ev Dk
section
variable {n : Nat} {h t : Hh} {K : Val → Hh → Prop} {x : Cell}
theorem chok {p : Nat} {cs : List Nat} (h1 : ∀ c ∈ cs, c < p) (h2 : cs.length ≤ 20) : Ch p cs := ⟨h1, h2⟩
theorem d39 : Dl 3 9 := ⟨by decide, by decide, by decide, by decide⟩
theorem d37 : Dl 3 7 := ⟨by decide, by decide, by decide, by decide⟩
theorem d21 : Dl 2 1 := ⟨by decide, by decide, by decide, by decide⟩
theorem wr0 : wF (T.cfg (n + 6)) 9 [.d (.int 3), .d (.int 9), .d (.tup [.int 1, .int 1]), .d (.int 26)] [x] K ↔ K (.d (.int 14)) [x] := p_asked_place (n := n + 1) (p := 3) (s := 9) (cs := [1, 1]) (x := 26) d39 (chok (by decide) (by decide)) (by decide)
theorem wr1 : wF (T.cfg (n + 6)) 10 [.d (.int 3), .d (.int 9), .d (.tup [.int 1, .int 1])] [x] K ↔ K (.d (.tup [.int 12, .int 14])) [x] := p_asked_places (n := n + 1) (p := 3) (s := 9) (cs := [1, 1]) d39 (chok (by decide) (by decide))
theorem wr2 : wF (T.cfg (n + 6)) 11 [.d (.int 3), .d (.int 9), .d (.tup [.int 1, .int 1, .int 1])] [x] K ↔ K (.d (.int 13)) [x] := p_told_place (n := n + 1) (p := 3) (s := 9) (cs := [1, 1, 1]) d39 (chok (by decide) (by decide))
theorem wr3 : wF (T.cfg (n + 6)) 11 [.d (.int 3), .d (.int 7), .d (.tup [.int 1, .int 1, .int 1])] [x] K ↔ K (.d (.int 10)) [x] := p_told_place (n := n + 1) (p := 3) (s := 7) (cs := [1, 1, 1]) d37 (chok (by decide) (by decide))
theorem wr4 : wF (T.cfg (n + 6)) 11 [.d (.int 3), .d (.int 9), .d (.tup [.int 1, .int 1])] [x] K ↔ K (.d (.non)) [x] := p_told_place (n := n + 1) (p := 3) (s := 9) (cs := [1, 1]) d39 (chok (by decide) (by decide))
theorem wr5 : wF (T.cfg (n + 6)) 14 [.d (.int 3), .d (.int 9)] [x] K ↔ K (.d (.int 3)) [x] := p_fewest (n := n + 2) (p := 3) (s := 9) (k := 3) d39 ⟨by decide, by decide⟩ (by omega)
theorem wr6 : wF (T.cfg (n + 6)) 14 [.d (.int 3), .d (.int 7)] [x] K ↔ K (.d (.int 3)) [x] := p_fewest (n := n + 2) (p := 3) (s := 7) (k := 3) d37 ⟨by decide, by decide⟩ (by omega)
theorem wr7 : wF (T.cfg (n + 6)) 15 [.d (.int 3), .d (.int 9), .d (.int 3), .d (.int 5)] [x] K ↔ K (.d (.tup [.int 2, .int 1, .int 0])) [x] := p_choices_for (n := n + 2) (p := 3) (s := 9) (k := 3) (x := 5) d39 (by omega) (by omega)
theorem wr8 : wF (T.cfg (n + 6)) 9 [.d (.int 2), .d (.int 1), .d (.tup []), .d (.int 1)] [x] K ↔ K (.d (.int 1)) [x] := p_asked_place (n := n + 1) (p := 2) (s := 1) (cs := []) (x := 1) d21 (chok (by decide) (by decide)) (by decide)
theorem wr9 : wF (T.cfg (n + 6)) 13 [.d (.int 3), .d (.int 9), .d (.tup [.int 1, .int 1]), .d (.tup [.int 0, .int 26])] [x] K ↔ K (.d (.bl true)) [x] := p_are_parted (n := n + 1) (p := 3) (s := 9) (cs := [1, 1]) (v := .tup [.int 0, .int 26]) (N := 0) d39 (chok (by decide) (by decide)) rfl
theorem wr10 : wF (T.cfg (n + 6)) 12 [.d (.int 3), .d (.int 9), .d (.tup [.int 1, .int 1, .int 1])] [x] K ↔ K (.d (.non)) [x] := p_parted (n := n + 1) (p := 3) (s := 9) (cs := [1, 1, 1]) d39 (chok (by decide) (by decide))
theorem wr11 : wF (T.cfg (n + 6)) 15 [.d (.int 3), .d (.int 9), .d (.int 2), .d (.int 0)] [x] K ↔ K (.d (.non)) [x] := p_choices_for (n := n + 2) (p := 3) (s := 9) (k := 2) (x := 0) d39 (by omega) (by omega)
theorem wr12 : wF (T.cfg (n + 6)) 14 [.d (.int 2), .d (.int 1)] [x] K ↔ K (.d (.int 1)) [x] := p_fewest (n := n + 2) (p := 2) (s := 1) (k := 1) d21 ⟨by decide, by decide⟩ (by omega)
theorem wr13 : wF (T.cfg (n + 6)) 15 [.d (.int 2), .d (.int 1), .d (.int 1), .d (.int 1)] [x] K ↔ K (.d (.tup [.int 1])) [x] := p_choices_for (n := n + 2) (p := 2) (s := 1) (k := 1) (x := 1) d21 (by omega) (by omega)
theorem wr14 : wF (T.cfg (n + 6)) 15 [.d (.int 2), .d (.int 1), .d (.int 0), .d (.int 0)] [x] K ↔ K (.d (.non)) [x] := p_choices_for (n := n + 2) (p := 2) (s := 1) (k := 0) (x := 0) d21 (by omega) (by omega)
theorem wr15 : wF (T.cfg (n + 6)) 13 [.d (.int 2), .d (.int 1), .d (.tup []), .d (.tup [.int 0, .int 1])] [x] K ↔ K (.d (.bl true)) [x] := p_are_parted (n := n + 1) (p := 2) (s := 1) (cs := []) (v := .tup [.int 0, .int 1]) (N := 0) d21 (chok (by decide) (by decide)) rfl
theorem wr16 : wF (T.cfg (n + 6)) 13 [.d (.int 2), .d (.int 1), .d (.tup []), .d (.tup [.bl false, .int 1])] [x] K ↔ K (.d (.bl false)) [x] := p_are_parted (n := n + 1) (p := 2) (s := 1) (cs := []) (v := .tup [.bl false, .int 1]) (N := 0) d21 (chok (by decide) (by decide)) rfl
theorem wr17 : wF (T.cfg (n + 6)) 10 [.d (.int 3), .d (.int 9), .d (.tup [.int 2, .int 2, .int 2])] [x] K ↔ K (.d (.tup [.int 26, .int 26])) [x] := p_asked_places (n := n + 1) (p := 3) (s := 9) (cs := [2, 2, 2]) d39 (chok (by decide) (by decide))
theorem wr18 : wF (T.cfg (n + 6)) 12 [.d (.int 2), .d (.int 1), .d (.tup [])] [x] K ↔ K (.d (.tup [.int 0, .int 1])) [x] := p_parted (n := n + 1) (p := 2) (s := 1) (cs := []) d21 (chok (by decide) (by decide))
theorem p_written (q : K (.d (.bl true)) [x]) : wF (T.cfg (n + 7)) 30 [] [x] K := by
  rw [w__law_written_right, b__law_written_right]
  have lk := fun K h => p_likeI (n := n + 1) (h := h) (K := K) (d := .lst [.int 14, .tup [.int 12, .int 14], .int 13, .int 10, .non, .int 3, .int 3, .tup [.int 2, .int 1, .int 0], .int 1, .bl true, .non, .non, .int 1, .tup [.int 1], .non, .bl true, .bl false, .tup [.int 26, .int 26], .tup [.int 0, .int 1]]) rfl
  simp [wr0, wr1, wr2, wr3, wr4, wr5, wr6, wr7, wr8, wr9, wr10, wr11, wr12, wr13, wr14, wr15, wr16, wr17, wr18, lk]
  exact q
end
end Lw
set_option linter.all false
set_option maxRecDepth 100000
set_option maxHeartbeats 3200000
namespace Lw
open PySem Ev Dk
theorem p_told_rightI {n : Nat} {K : Val → Hh → Prop} {s : Int × Int} {i j : Int} (h1 : 2 ≤ i) (h2 : i ≤ 20) (g1 : 1 ≤ j) (g2 : j ≤ 500) (q : ∀ s', K (.d (.bl true)) [cup s']) : wF (T.cfg (n + 7)) 27 [.ref 0, .d (.int i), .d (.int j)] [cup s] K := by
  have e1 : i = (i.toNat : Nat) := by omega
  have e2 : j = (j.toNat : Nat) := by omega
  have d : Dl i.toNat j.toNat := ⟨by omega, by omega, by omega, by omega⟩
  rw [e1, e2]
  with_reducible exact p_told_right d q
theorem main : ∀ ns : List Int, ns.length ≤ 63 → (∀ z ∈ ns, PySem.Builtin.Int.intBits z ≤ 1048576) → ∃ h', T.call 60 31 [.d (.scr (ns.map .int))] [] = .ok (.d (.bl true)) h' := by
  intro ns hl _
  have key : wF (T.cfg 60) 31 [.d (.scr (ns.map .int))] [] fun v _ => v = .d (.bl true) := by
    rw [w_law (k := 59), b_law]
    simp
    with_reducible refine p_cup (n := 58) hl ?_
    intro s
    have sm : smallI 5 = true := by decide
    simp [sm]
    with_reducible refine wFr_inv (fun _ env h => ∃ w s, env = [some (.d (.scr (ns.map .int))), some (.ref 0), w] ∧ h = [cup s]) ?_ ?_ ?_
    · exact ⟨_, s, rfl, rfl⟩
    · rintro env h ⟨w, s, rfl, rfl⟩
      simp
      with_reducible refine p_great_right (n := 52) ?_
      intro s'
      simp
      with_reducible refine p_written (n := 52) ?_
      simp [fin, leave, Holds]
    · rintro d ds env h ⟨w, s, rfl, rfl⟩
      simp
      with_reducible refine p_small_right (n := 52) ?_
      intro s1
      simp
      with_reducible refine p_rollI (n := 58) ?_ ?_ ?_
      · omega
      · omega
      intro r s2 h0 h1
      simp
      with_reducible refine p_rollI (n := 58) ?_ ?_ ?_
      · omega
      · omega
      intro r2 s3 g0 g1
      simp
      with_reducible refine p_told_rightI (n := 52) ?_ ?_ ?_ ?_ ?_
      · omega
      · omega
      · omega
      · omega
      intro s4
      simp
      exact ⟨s4.1, s4.2, rfl⟩
  obtain ⟨v, h', e, rfl⟩ := key.ex
  exact ⟨h', e⟩
end Lw
set_option maxHeartbeats 0
open PySem PySem.W PySem.Calls PyProof.Rows
theorem PySem.Challenge.cw_decktold_k56_whole_asked_deals_holds : PySem.Challenge.rw_decktold_k56_whole_asked_deals.Holds := by
  w_on; o_law
  refine HandSHeadRun.head_any (r := OpenLaw.row PySem.Challenge.rw_decktold_k56_whole_asked_deals) (q := view (OpenLaw.row PySem.Challenge.rw_decktold_k56_whole_asked_deals).prog [41]) (H := Lw.hk) (ob := Lw.ob) (M := 6000) (loose := Lw.loose) (d := HandSHeadRun.topDef (OpenLaw.row PySem.Challenge.rw_decktold_k56_whole_asked_deals).prog 41) (kwd := []) Lw.ob_eq
    (by kernel_rfl) (fun s => by kernel_rfl) Lw.run (by kernel_rfl) (by kernel_rfl) (by kernel_rfl) (by rfl) (by first | assumption | decide +kernel) (by decide +kernel) ⟨rfl, rfl, rfl, rfl, rfl, by decide +kernel⟩ ?hw ?hc
  case hw => w_witness2
  case hc =>
    exact Ev.walkT (l := PySem.Challenge.rw_decktold_k56_whole_asked_deals) (n := 63) (k := 60) (m := 4) (i := 31) (x := "script") (T := Lw.T) (sts := Lw.sts) (qs := Lw.nms) (F0 := Lw.F_law) rfl (by decide) (by kernel_rfl) ⟨rfl, by decide, by decide⟩ Lw.chk (by kernel_rfl) (by kernel_rfl) Lw.main
