import PyProof.Rows.All
import Wide.All
import OpenK.AllK
import Wide.FinOn
import HandS.ForMost
import HandS.ForExc
import HandS.Walk
import HandS.Style
import HandS.IsInst
import HandS.Zip
import HandS.SortInts
import KE.DataCmp
import HandS.Set
import HandS.SetFor
import HandS.Conv
import HandS.Replace
import PySem.Challenge.RW_huefloor_k02_whole_numbered
set_option Elab.async false
set_option linter.all false
set_option maxRecDepth 100000
namespace Hue
/-- what is met, each once, as first met -/
def met {α : Type} [BEq α] (l : List α) : List α := l.foldl (fun a x => if a.contains x then a else a ++ [x]) []
end Hue
/-! The plain reading of a def: data as trees, a small tongue, what it is worth. No Python here. -/
namespace Hue

/-- data as a tree: what a value is worth, whatever the heap -/
inductive D where
  | non | bl (b : Bool) | int (i : Int) | str (l : List Nat)
  | lst (xs : List D) | tup (xs : List D) | scr (xs : List D)
  | dct (ks : List (List Nat)) (vs : List D)
  | obj (c : Nat) (vs : List D)

/-- a value, a refusal by its number, or nothing is told -/
inductive R (α : Type) where
  | ok (a : α) | exc (c : Nat) | bad
def R.bind {α β : Type} (x : R α) (f : α → R β) : R β := match x with
  | .ok a => f a
  | .exc c => .exc c
  | .bad => .bad
@[simp] theorem R.bind_ok {α β : Type} (a : α) (f : α → R β) : (R.ok a).bind f = f a := rfl
@[simp] theorem R.bind_exc {α β : Type} (c : Nat) (f : α → R β) : (R.exc c : R α).bind f = R.exc c := rfl
@[simp] theorem R.bind_bad {α β : Type} (f : α → R β) : (R.bad : R α).bind f = R.bad := rfl
def R.of {α : Type} : Option α → R α
  | some a => .ok a
  | none => .bad
@[simp] theorem R.of_some {α : Type} (a : α) : R.of (some a) = R.ok a := rfl
@[simp] theorem R.of_none {α : Type} : R.of (none : Option α) = R.bad := rfl

abbrev lim : Nat := 10000000

mutual
def D.eqv : D → D → Bool
  | .non, .non => true
  | .bl a, .bl b => a == b
  | .bl a, .int j => (if a then 1 else 0) == j
  | .int i, .bl b => i == (if b then 1 else 0)
  | .int i, .int j => i == j
  | .str x, .str y => x == y
  | .lst xs, .lst ys => D.eqvs xs ys
  | .tup xs, .tup ys => D.eqvs xs ys
  | .scr xs, .scr ys => D.eqvs xs ys
  | .scr xs, .lst ys => D.eqvs xs ys
  | .lst xs, .scr ys => D.eqvs xs ys
  | _, _ => false
def D.eqvs : List D → List D → Bool
  | [], [] => true
  | x :: xs, y :: ys => D.eqv x y && D.eqvs xs ys
  | _, _ => false
end
mutual
/-- what may be compared: no dicts and objects within -/
def D.fine : D → Bool
  | .non | .bl _ | .int _ => true
  | .str l => l.all (· < 1114112)
  | .lst xs | .tup xs | .scr xs => D.fines xs
  | .dct _ _ | .obj _ _ => false
def D.fines : List D → Bool
  | [] => true
  | x :: xs => D.fine x && D.fines xs
end
mutual
def D.deep : D → Nat
  | .lst xs | .tup xs | .scr xs => D.deeps xs + 1
  | _ => 0
def D.deeps : List D → Nat
  | [] => 0
  | x :: xs => max (D.deep x) (D.deeps xs)
end
/-- a value without parts -/
def D.flat : D → Bool
  | .non | .bl _ | .int _ | .str _ => true
  | _ => false

def asInts : List D → Option (List Int)
  | [] => some []
  | .int i :: r => (asInts r).map (i :: ·)
  | _ => none
def asBools : List D → Option (List Bool)
  | [] => some []
  | .bl b :: r => (asBools r).map (b :: ·)
  | _ => none
def asStrs : List D → Option (List (List Nat))
  | [] => some []
  | .str l :: r => (asStrs r).map (l :: ·)
  | _ => none

def ltN : List Nat → List Nat → Bool
  | [], [] => false
  | [], _ :: _ => true
  | _ :: _, [] => false
  | x :: r, y :: s => if x < y then true else if y < x then false else ltN r s
def ltLL : List (List Nat) → List (List Nat) → Bool
  | [], [] => false
  | [], _ :: _ => true
  | _ :: _, [] => false
  | x :: r, y :: s => if x = y then ltLL r s else ltN x y

inductive BO where
  | add | sub | mul | fdiv | mod | pow
inductive CO where
  | eq | ne | lt | le | gt | ge | isin | notin

def ixN (n : Nat) (i : Int) : Option Nat := if 0 ≤ i then (if i < n then some i.toNat else none) else if -(n : Int) ≤ i then some (i + n).toNat else none
def atL {α : Type} (xs : List α) (i : Int) : Option α := (ixN xs.length i).bind fun j => xs[j]?
def cutIx (n d : Nat) : Option Int → Nat
  | none => d
  | some v => if v < 0 then (v + (n : Int)).toNat else min v.toNat n
def cutL {α : Type} (xs : List α) (lo hi : Option Int) : List α := (xs.drop (cutIx xs.length 0 lo)).take (cutIx xs.length xs.length hi - cutIx xs.length 0 lo)

def binF : BO → D → D → R D
  | .add, .int i, .int j => .ok (.int (i + j))
  | .sub, .int i, .int j => .ok (.int (i - j))
  | .mul, .int i, .int j => if (-(2 ^ 64) < i ∧ i < 2 ^ 64) ∨ (-(2 ^ 64) < j ∧ j < 2 ^ 64) then .ok (.int (i * j)) else .bad
  | .fdiv, .int i, .int j => if 0 < j ∧ j < 1073741824 then .ok (.int (i / j)) else .bad
  | .mod, .int i, .int j => if 0 < j then .ok (.int (i % j)) else .bad
  | .pow, .int i, .int j => if 0 ≤ j ∧ j ≤ 1000 ∧ i.natAbs < 2 ^ 64 then .ok (.int (i ^ j.toNat)) else .bad
  | .add, .str x, .str y => if x.length + y.length ≤ lim then .ok (.str (x ++ y)) else .bad
  | .add, .lst x, .lst y => if x.length + y.length ≤ lim then .ok (.lst (x ++ y)) else .bad
  | .mul, .str l, .int k => if 0 ≤ k ∧ k ≤ 100000 ∧ l.length * k.toNat ≤ 10000000 then .ok (.str (List.replicate k.toNat l).flatten) else .bad
  | .mul, .int k, .str l => if 0 ≤ k ∧ k ≤ 100000 ∧ l.length * k.toNat ≤ 10000000 then .ok (.str (List.replicate k.toNat l).flatten) else .bad
  | .mul, .lst x, .int k => if 0 ≤ k ∧ k ≤ 100000 ∧ x.length * k.toNat ≤ lim then .ok (.lst (List.replicate k.toNat x).flatten) else .bad
  | _, _, _ => .bad
/-- what may be compared by == -/
def eqOk (x y : D) : Bool := (x.flat && y.flat) || (x.fine && y.fine && decide (x.deep ≤ 60) && decide (y.deep ≤ 60))
def inF (x : D) : D → R Bool
  | .str l => match x with
    | .str k => match k with
      | [c] => .ok (decide (c ∈ l))
      | _ => .bad
    | _ => .bad
  | .tup xs => if x.flat && xs.all D.flat then .ok (xs.any fun y => D.eqv y x) else .bad
  | .lst xs => if x.flat && xs.all D.flat then .ok (xs.any fun y => D.eqv y x) else .bad
  | _ => .bad
def cmpF : CO → D → D → R D
  | .eq, x, y => if eqOk x y then .ok (.bl (D.eqv x y)) else .bad
  | .ne, x, y => if eqOk x y then .ok (.bl (!D.eqv x y)) else .bad
  | .lt, .int i, .int j => .ok (.bl (decide (i < j)))
  | .le, .int i, .int j => .ok (.bl (decide (i ≤ j)))
  | .gt, .int i, .int j => .ok (.bl (decide (j < i)))
  | .ge, .int i, .int j => .ok (.bl (decide (j ≤ i)))
  | .gt, .lst xs, .lst ys => (R.of (asStrs xs)).bind fun a => (R.of (asStrs ys)).bind fun b => .ok (.bl (ltLL b a))
  | .le, .lst xs, .lst ys => (R.of (asStrs xs)).bind fun a => (R.of (asStrs ys)).bind fun b => .ok (.bl (!ltLL b a))
  | .isin, x, y => (inF x y).bind fun b => .ok (.bl b)
  | .notin, x, y => (inF x y).bind fun b => .ok (.bl (!b))
  | _, _, _ => .bad
def idxF : D → D → R D
  | .lst xs, .int i => R.of (atL xs i)
  | .tup xs, .int i => R.of (atL xs i)
  | .str l, .int i => match atL l i with
    | some c => .ok (.str [c])
    | none => .bad
  | _, _ => .bad
def slcF (x : D) (lo hi : Option Int) : R D := match x with
  | .lst xs => .ok (.lst (cutL xs lo hi))
  | .scr xs => .ok (.lst (cutL xs lo hi))
  | .str l => .ok (.str (cutL l lo hi))
  | _ => .bad

/-- built-in functions and methods, by their values -/
inductive P where
  | len | sum | min1 | max1 | min2 | max2 | any | all | abs | list | int | str | sorted
  | join | index | count | lenset | sortset | lrng1 | lrng2 | rev2
  | isI | isB | isS | isL | isT
def minI : List Int → Option Int
  | [] => none
  | x :: r => some (r.foldl (fun a b => if b < a then b else a) x)
def maxI : List Int → Option Int
  | [] => none
  | x :: r => some (r.foldl (fun a b => if a < b then b else a) x)
def insI (x : Int) : List Int → List Int
  | [] => [x]
  | y :: r => if x ≤ y then x :: y :: r else y :: insI x r
def sortI : List Int → List Int
  | [] => []
  | x :: r => insI x (sortI r)
def insS (x : List Nat) : List (List Nat) → List (List Nat)
  | [] => [x]
  | y :: r => if ltN y x then y :: insS x r else x :: y :: r
def sortS : List (List Nat) → List (List Nat)
  | [] => []
  | x :: r => insS x (sortS r)
def idxOf {α : Type} (p : α → Bool) : List α → Option Nat
  | [] => none
  | x :: r => if p x then some 0 else (idxOf p r).map (· + 1)

def rangeL (lo : Int) (n : Nat) (c : Int) : List D := (List.range n).map fun (i : Nat) => .int (lo + (i : Int) * c)
def primF : P → List D → R D
  | .len, [.lst xs] => .ok (.int xs.length)
  | .len, [.tup xs] => .ok (.int xs.length)
  | .len, [.str l] => .ok (.int l.length)
  | .sum, [.lst xs] => (R.of (asInts xs)).bind fun ns => .ok (.int ns.sum)
  | .min1, [.lst xs] => (R.of ((asInts xs).bind minI)).bind fun n => .ok (.int n)
  | .max1, [.lst xs] => (R.of ((asInts xs).bind maxI)).bind fun n => .ok (.int n)
  | .min2, [.int i, .int j] => .ok (.int (if j < i then j else i))
  | .max2, [.int i, .int j] => .ok (.int (if j > i then j else i))
  | .any, [.lst xs] => (R.of (asBools xs)).bind fun bs => .ok (.bl (bs.any id))
  | .all, [.lst xs] => (R.of (asBools xs)).bind fun bs => .ok (.bl (bs.all id))
  | .abs, [.int i] => .ok (.int (if i < 0 then -i else i))
  | .list, [.lst xs] => .ok (.lst xs)
  | .list, [.tup xs] => .ok (.lst xs)
  | .int, [.int i] => .ok (.int i)
  | .int, [.bl b] => .ok (.int (if b then 1 else 0))
  | .sorted, [.lst xs] => (R.of (asInts xs)).bind fun ns => .ok (.lst ((sortI ns).map D.int))
  | .join, [.str [], .lst xs] => (R.of (asStrs xs)).bind fun ls => if (ls.map List.length).sum ≤ lim then .ok (.str ls.flatten) else .bad
  | .index, [.lst xs, y] => if y.flat && xs.all D.flat then (R.of (idxOf (fun x => D.eqv x y) xs)).bind fun j => .ok (.int j) else .bad
  | .index, [.str l, .str [c]] => if l = [48, 49, 50] then (R.of (idxOf (fun x => x == c) l)).bind fun j => .ok (.int j) else .bad
  | .lrng1, [.int n] => if 0 ≤ n ∧ n ≤ 1000000 then .ok (.lst (rangeL 0 n.toNat 1)) else .bad
  | .lrng2, [.int a, .int b] => if 0 ≤ a ∧ a ≤ 1000000 ∧ 0 ≤ b ∧ b ≤ 1000000 then .ok (.lst (rangeL a (b - a).toNat 1)) else .bad
  | .sortset, [.lst xs] => if xs.length < 60 then (match asInts xs with
    | some ns => .ok (.lst ((sortI (met ns)).map D.int))
    | none => match asStrs xs with
      | some ls => .ok (.lst ((sortS (met ls)).map D.str))
      | none => .bad) else .bad
  | .rev2, [.lst xs] => .ok (.lst xs.dropLast.reverse)
  | .str, [.int i] => if 0 ≤ i ∧ i < 10 then .ok (.str [48 + i.toNat]) else .bad
  | .int, [.str [c]] => if 48 ≤ c ∧ c < 58 then .ok (.int ((c : Int) - 48)) else .bad
  | .lenset, [.str l] => if l.length ≤ 50 then .ok (.int (met l).length) else .bad
  | .isI, [x] => match x with
    | .int _ | .bl _ => .ok (.bl true)
    | .non | .str _ | .lst _ | .tup _ => .ok (.bl false)
    | _ => .bad
  | .isB, [x] => match x with
    | .bl _ => .ok (.bl true)
    | .non | .int _ | .str _ | .lst _ | .tup _ => .ok (.bl false)
    | _ => .bad
  | .isS, [x] => match x with
    | .str _ => .ok (.bl true)
    | .non | .int _ | .bl _ | .lst _ | .tup _ => .ok (.bl false)
    | _ => .bad
  | .isL, [x] => match x with
    | .lst _ => .ok (.bl true)
    | .non | .int _ | .bl _ | .str _ | .tup _ => .ok (.bl false)
    | _ => .bad
  | .isT, [x] => match x with
    | .tup _ => .ok (.bl true)
    | .non | .int _ | .bl _ | .str _ | .lst _ => .ok (.bl false)
    | _ => .bad
  | _, _ => .bad

/-- what has such a method -/
def recvOk : P → D → Bool
  | .join, .str _ => true
  | .index, .str _ => true
  | .index, .lst _ => true
  | _, _ => false
/-- a value that can't hold what was lent -/
def allFlat (ds : List D) : Bool := ds.all D.flat
def shal (b : Bool) : D → Bool
  | .lst ds => b && allFlat ds
  | .tup ds => allFlat ds
  | d => d.flat
abbrev Env := List (Option D)
inductive Tg where
  | nm (i : Nat) | tp (is : List Nat)
def setAll : List Nat → List D → Env → Option Env
  | [], [], e => some e
  | i :: is, d :: ds, e => setAll is ds (e.set i (some d))
  | _, _, _ => none
def bindTg : Tg → D → Env → Option Env
  | .nm i, d, e => some (e.set i (some d))
  | .tp is, .tup ds, e => setAll is ds e
  | _, _, _ => none
def wipeE (e : Env) : List Nat → Env
  | [] => e
  | v :: vs => (wipeE e vs).set v none

mutual
inductive Tm where
  | var (i : Nat)
  | lit (d : D)
  | bin (o : BO) (a b : Tm)
  | neg (a : Tm)
  | cmp (o : CO) (a b : Tm)
  | chn (o p : CO) (a b c : Tm)
  | isN (a : Tm)
  | notN (a : Tm)
  | and (a b : Tm)
  | or (a b : Tm)
  | not (a : Tm)
  | ite (c a b : Tm)
  | call (den : List D → R D) (fresh : Bool) (as : Tms)
  | prim (p : P) (as : Tms)
  | meth (p : P) (o a : Tm)
  | idx (a i : Tm)
  | slc (a : Tm) (lo hi : OTm)
  | rev (a : Tm)
  | lst (as : Tms)
  | tup (as : Tms)
  | comp (elt : Tm) (tg : Tg) (it : ITm) (c : OTm) (own : List Nat)
inductive Tms where
  | nil
  | cons (a : Tm) (r : Tms)
inductive OTm where
  | none
  | some (a : Tm)
inductive ITm where
  | seq (a : Tm)
  | rng1 (a : Tm)
  | rng2 (a b : Tm)
  | rng3 (a b c : Tm)
  | enm (a : Tm)
  | zip (a b : Tm)
end

def compL (f : Env → R D) (c : Env → R Bool) (tg : Tg) (e : Env) : List D → R (List D)
  | [] => .ok []
  | d :: ds => match bindTg tg d e with
    | none => .bad
    | some e1 => (c e1).bind fun b => if b then (f e1).bind fun y => (compL f c tg e ds).bind fun ys => .ok (y :: ys) else compL f c tg e ds
def noExc {α : Type} : R α → R α
  | .exc _ => .bad
  | r => r
def seqOf : D → R (List D)
  | .lst xs => .ok xs
  | .tup xs => .ok xs
  | .str l => .ok (l.map fun c => .str [c])
  | _ => .bad
def rngOk (i : Int) : Bool := decide (-1000000 ≤ i) && decide (i ≤ 1000000)
def rng1F : D → R (List D)
  | .int n => if rngOk n then .ok (rangeL 0 n.toNat 1) else .bad
  | _ => .bad
def rng2F : D → D → R (List D)
  | .int a, .int b => if rngOk a && rngOk b then .ok (rangeL a (b - a).toNat 1) else .bad
  | _, _ => .bad
def rng3F : D → D → D → R (List D)
  | .int a, .int b, .int c => if rngOk a && rngOk b && decide (c = -1) then .ok (rangeL a (a - b).toNat (-1)) else .bad
  | _, _, _ => .bad
def enmL : Nat → List D → List D
  | _, [] => []
  | k, d :: ds => .tup [.int (k : Int), d] :: enmL (k + 1) ds
def enmF : D → R (List D)
  | .lst xs => .ok (enmL 0 xs)
  | _ => .bad
def zipL : List D → List D → List D
  | x :: xs, y :: ys => .tup [x, y] :: zipL xs ys
  | _, _ => []
def zipF : D → D → R (List D)
  | .lst xs, .lst ys => .ok (zipL xs ys)
  | _, _ => .bad
def truth : D → R Bool
  | .bl b => .ok b
  | _ => .bad
def revF : D → R D
  | .lst xs => .ok (.lst xs.reverse)
  | .str l => .ok (.str l.reverse)
  | _ => .bad
def asPart : D → R (Option Int)
  | .int i => .ok (some i)
  | _ => .bad
def isNon : D → Bool
  | .non => true
  | _ => false

mutual
def ev : Tm → Env → R D
  | .var i => fun e => match e[i]? with
    | some (some d) => .ok d
    | _ => .bad
  | .lit d => fun _ => .ok d
  | .bin o a b => fun e => (ev a e).bind fun x => (ev b e).bind fun y => binF o x y
  | .neg a => fun e => (ev a e).bind fun x => match x with
    | .int i => .ok (.int (-i))
    | _ => .bad
  | .cmp o a b => fun e => (ev a e).bind fun x => (ev b e).bind fun y => cmpF o x y
  | .chn o p a b c => fun e => (ev a e).bind fun x => (ev b e).bind fun y => (cmpF o x y).bind fun z => (truth z).bind fun k => if k then (ev c e).bind fun w => cmpF p y w else .ok (.bl false)
  | .isN a => fun e => (ev a e).bind fun x => .ok (.bl (isNon x))
  | .notN a => fun e => (ev a e).bind fun x => .ok (.bl (!isNon x))
  | .and a b => fun e => (ev a e).bind fun x => (truth x).bind fun k => if k then ev b e else .ok (.bl false)
  | .or a b => fun e => (ev a e).bind fun x => (truth x).bind fun k => if k then .ok (.bl true) else ev b e
  | .not a => fun e => (ev a e).bind fun x => (truth x).bind fun k => .ok (.bl (!k))
  | .ite c a b => fun e => (ev c e).bind fun x => (truth x).bind fun k => if k then ev a e else ev b e
  | .call den _ as => fun e => (evs as e).bind fun ds => den ds
  | .prim p as => fun e => (evs as e).bind fun ds => primF p ds
  | .meth p o a => fun e => (ev o e).bind fun x => if recvOk p x then (ev a e).bind fun y => primF p [x, y] else .bad
  | .idx a i => fun e => (ev a e).bind fun x => (ev i e).bind fun y => idxF x y
  | .slc a lo hi => fun e => (ev a e).bind fun x => (evO lo e).bind fun l => (evO hi e).bind fun h => slcF x l h
  | .rev a => fun e => (ev a e).bind revF
  | .lst as => fun e => (evs as e).bind fun ds => if ds.length ≤ lim then .ok (.lst ds) else .bad
  | .tup as => fun e => (evs as e).bind fun ds => if ds.length ≤ lim then .ok (.tup ds) else .bad
  | .comp elt tg it c own => fun e => (evI it e).bind fun items => (noExc (compL (ev elt) (evC c) tg (wipeE e own) items)).bind fun ys => .ok (.lst ys)
def evs : Tms → Env → R (List D)
  | .nil => fun _ => .ok []
  | .cons a r => fun e => (ev a e).bind fun x => (evs r e).bind fun xs => .ok (x :: xs)
def evO : OTm → Env → R (Option Int)
  | .none => fun _ => .ok none
  | .some a => fun e => (ev a e).bind asPart
/-- a clause's test -/
def evC : OTm → Env → R Bool
  | .none => fun _ => .ok true
  | .some a => fun e => (ev a e).bind truth
def evI : ITm → Env → R (List D)
  | .seq a => fun e => (ev a e).bind seqOf
  | .rng1 a => fun e => (ev a e).bind rng1F
  | .rng2 a b => fun e => (ev a e).bind fun x => (ev b e).bind fun y => rng2F x y
  | .rng3 a b c => fun e => (ev a e).bind fun x => (ev b e).bind fun y => (ev c e).bind fun z => rng3F x y z
  | .enm a => fun e => (ev a e).bind enmF
  | .zip a b => fun e => (ev a e).bind fun x => (ev b e).bind fun y => zipF x y
end

/-! ### statements -/
inductive SR where
  | nx (e : Env) | rt (d : D) | ex (c : Nat) (e : Env) | bad
mutual
inductive St where
  | asg (tg : Tg) (a : Tm)
  | asgR (i : Nat) (b : Bool) (a : Tm)
  | par (is : List Nat) (as : Tms)
  | aug (i : Nat) (o : BO) (a : Tm)
  | app (i : Nat) (a : Tm)
  | ext (i : Nat) (a : Tm)
  | setI (i : Nat) (k a : Tm)
  | rvs (i : Nat)
  | pop (i : Nat)
  | ite (c : Tm) (a b : Sts)
  | for_ (tg : Tg) (it : ITm) (b : Sts)
  | whl (c : Tm) (b : Sts)
  | ret (a : Tm)
  | raise (c : Nat)
  | expr (a : Tm)
  | pass
inductive Sts where
  | nil
  | cons (s : St) (r : Sts)
end
def forL (f : Env → SR) (tg : Tg) : List D → Env → SR
  | [], e => .nx e
  | d :: ds, e => match bindTg tg d e with
    | none => .bad
    | some e1 => match f e1 with
      | .nx e2 => forL f tg ds e2
      | r => r
/-- a value, then what follows -/
def R.then {α : Type} (e : Env) (x : R α) (f : α → SR) : SR := match x with
  | .ok a => f a
  | .exc c => .ex c e
  | .bad => .bad
def whlL (c : Env → R Bool) (f : Env → SR) : Nat → Env → SR
  | 0, _ => .bad
  | n + 1, e => R.then e (c e) fun b => if b then (match f e with
      | .nx e2 => whlL c f n e2
      | r => r) else .nx e
def SR.andThen (r : SR) (f : Env → SR) : SR := match r with
  | .nx e => f e
  | r => r
def lstAt (e : Env) (i : Nat) : Option (List D) := match e[i]? with
  | some (some (.lst xs)) => some xs
  | _ => none
mutual
def evS : St → Env → SR
  | .asg tg a => fun e => R.then e (ev a e) fun d => match bindTg tg d e with
    | some e1 => .nx e1
    | none => .bad
  | .asgR i b a => fun e => R.then e (ev a e) fun d => if shal b d then .nx (e.set i (some d)) else .bad
  | .par is as => fun e => R.then e (evs as e) fun ds => match setAll is ds e with
    | some e1 => .nx e1
    | none => .bad
  | .aug i o a => fun e => match e[i]? with
    | some (some (.int x)) => R.then e (ev a e) fun d => match o, d with
      | .add, .int y => .nx (e.set i (some (.int (x + y))))
      | .sub, .int y => .nx (e.set i (some (.int (x - y))))
      | _, _ => .bad
    | _ => .bad
  | .app i a => fun e => match lstAt e i with
    | some xs => R.then e (ev a e) fun d => if xs.length < lim then .nx (e.set i (some (.lst (xs ++ [d])))) else .bad
    | none => .bad
  | .ext i a => fun e => match lstAt e i with
    | some xs => R.then e (ev a e) fun d => match d with
      | .lst ys => if xs.length + ys.length ≤ lim then .nx (e.set i (some (.lst (xs ++ ys)))) else .bad
      | _ => .bad
    | none => .bad
  | .setI i k a => fun e => R.then e (ev a e) fun d => match lstAt e i with
    | some xs => R.then e (ev k e) fun j => match j with
      | .int j => match ixN xs.length j with
        | some m => .nx (e.set i (some (.lst (xs.set m d))))
        | none => .bad
      | _ => .bad
    | none => .bad
  | .rvs i => fun e => match lstAt e i with
    | some xs => .nx (e.set i (some (.lst xs.reverse)))
    | none => .bad
  | .pop i => fun e => match lstAt e i with
    | some xs => if xs.length = 0 then .bad else .nx (e.set i (some (.lst xs.dropLast)))
    | none => .bad
  | .ite c a b => fun e => R.then e ((ev c e).bind truth) fun k => if k then evSs a e else evSs b e
  | .for_ tg it b => fun e => R.then e (evI it e) fun ds => forL (evSs b) tg ds e
  | .whl c b => fun e => whlL (fun e => (ev c e).bind truth) (evSs b) 10000 e
  | .ret a => fun e => R.then e (ev a e) fun d => .rt d
  | .raise c => fun e => .ex c e
  | .expr a => fun e => R.then e (ev a e) fun _ => .nx e
  | .pass => fun e => .nx e
def evSs : Sts → Env → SR
  | .nil => fun e => .nx e
  | .cons s r => fun e => (evS s e).andThen (evSs r)
end
/-- what a def is worth: n names, the parameters first -/
def run (n : Nat) (b : Sts) (args : List D) : R D := match evSs b (args.map some ++ List.replicate (n - args.length) none) with
  | .nx _ => .ok .non
  | .rt d => .ok d
  | .ex c _ => .exc c
  | _ => .bad
end Hue
/-! Trees and the heap: what stands still (F), what is one's own and may be changed. -/
namespace Hue
open PySem L2

structure Wo where
  K : PySem.W.Frag
  exA : Nat → Addr
  clA : Nat → Addr
  clF : Nat → List Str

abbrev S (l : List Nat) : Str := ⟨l.toArray⟩
mutual
/-- the value is worth the tree, in what stands still -/
inductive Rep (Z : Wo) (F : Hp) : V → D → Prop
  | non : Rep Z F .non .non
  | bl (b : Bool) : Rep Z F (.bl b) (.bl b)
  | int (i : Int) : Rep Z F (.int i) (.int i)
  | str (l : List Nat) : l.length ≤ sizeLine → Rep Z F (.str (S l)) (.str l)
  | lst {a : Addr} {xs : List V} {ds : List D} : F a = some (.lst xs) → RepL Z F xs ds → ds.length ≤ sizeLine → Rep Z F (.ref a) (.lst ds)
  | scr {a : Addr} {xs : List V} {ds : List D} : SqL Z.K F a xs → RepL Z F xs ds → ds.length ≤ sizeLine → Rep Z F (.ref a) (.scr ds)
  | tup {a : Addr} {xs : List V} {ds : List D} : SqT Z.K F a xs → RepL Z F xs ds → ds.length ≤ sizeLine → Rep Z F (.ref a) (.tup ds)
  | dct {a : Addr} {kvs : List (Key × V)} {ks : List (List Nat)} {ds : List D} : Rd F a (.dK kvs) → kvs.map (·.1) = ks.map (fun l => Sum.inr (S l)) → RepL Z F (kvs.map (·.2)) ds → Rep Z F (.ref a) (.dct ks ds)
  | obj {a dx : Addr} {fs : List (Str × V)} {c : Nat} {ds : List D} : F a = some (.ins (Z.clA c) dx fs) → F dx = some (.own a) → fs.map (·.1) = Z.clF c → RepL Z F (fs.map (·.2)) ds → Rep Z F (.ref a) (.obj c ds)
inductive RepL (Z : Wo) (F : Hp) : List V → List D → Prop
  | nil : RepL Z F [] []
  | cons {v : V} {vs : List V} {d : D} {ds : List D} : Rep Z F v d → RepL Z F vs ds → RepL Z F (v :: vs) (d :: ds)
end

theorem same_rd {F F' : Hp} {a : Addr} {u : HO} (s : Same F F') (h : Rd F a u) : Rd F' a u := by
  rcases h with h | ⟨o, h⟩
  · exact .inl (s _ _ h)
  · exact .inr ⟨o, s _ _ h⟩
theorem same_sqL {K : PySem.W.Frag} {F F' : Hp} {a : Addr} {xs : List V} (s : Same F F') (h : SqL K F a xs) : SqL K F' a xs := s.seq h
theorem same_sqT {K : PySem.W.Frag} {F F' : Hp} {a : Addr} {xs : List V} (s : Same F F') (h : SqT K F a xs) : SqT K F' a xs := by
  rcases h with h | h
  · exact .inl (same_rd s h)
  · exact .inr h
mutual
theorem Rep.mono {Z : Wo} {F F' : Hp} (s : Same F F') : ∀ {v : V} {d : D}, Rep Z F v d → Rep Z F' v d
  | _, _, .non => .non
  | _, _, .bl b => .bl b
  | _, _, .int i => .int i
  | _, _, .str l h => .str l h
  | _, _, .lst h1 h2 h3 => .lst (s _ _ h1) (RepL.mono s h2) h3
  | _, _, .scr h1 h2 h3 => .scr (same_sqL s h1) (RepL.mono s h2) h3
  | _, _, .tup h1 h2 h3 => .tup (same_sqT s h1) (RepL.mono s h2) h3
  | _, _, .dct h1 h2 h3 => .dct (same_rd s h1) h2 (RepL.mono s h3)
  | _, _, .obj h1 h2 h3 h4 => .obj (s _ _ h1) (s _ _ h2) h3 (RepL.mono s h4)
theorem RepL.mono {Z : Wo} {F F' : Hp} (s : Same F F') : ∀ {vs : List V} {ds : List D}, RepL Z F vs ds → RepL Z F' vs ds
  | _, _, .nil => .nil
  | _, _, .cons h1 h2 => .cons (Rep.mono s h1) (RepL.mono s h2)
end
section
variable {Z : Wo} {F : Hp}
theorem RepL.length : ∀ {vs : List V} {ds : List D}, RepL Z F vs ds → vs.length = ds.length
  | _, _, .nil => rfl
  | _, _, .cons _ h => by rw [List.length_cons, List.length_cons, RepL.length h]
theorem RepL.get : ∀ {vs : List V} {ds : List D} {i : Nat} {d : D}, RepL Z F vs ds → ds[i]? = some d → ∃ v, vs[i]? = some v ∧ Rep Z F v d
  | _, _, _, _, .nil, h => by simp at h
  | _, _, 0, _, .cons h1 _, h => by
    simp at h
    subst h
    exact ⟨_, rfl, h1⟩
  | _, _, i + 1, d, .cons _ h2, h => by
    obtain ⟨v, e, r⟩ := RepL.get (i := i) (d := d) h2 (by simpa using h)
    exact ⟨v, by simpa using e, r⟩
theorem RepL.getV : ∀ {vs : List V} {ds : List D} {i : Nat} {v : V}, RepL Z F vs ds → vs[i]? = some v → ∃ d, ds[i]? = some d ∧ Rep Z F v d
  | _, _, _, _, .nil, h => by simp at h
  | _, _, 0, _, .cons h1 _, h => by
    simp at h
    subst h
    exact ⟨_, rfl, h1⟩
  | _, _, i + 1, v, .cons _ h2, h => by
    obtain ⟨d, e, r⟩ := RepL.getV (i := i) (v := v) h2 (by simpa using h)
    exact ⟨d, by simpa using e, r⟩
theorem RepL.append : ∀ {vs ws : List V} {ds es : List D}, RepL Z F vs ds → RepL Z F ws es → RepL Z F (vs ++ ws) (ds ++ es)
  | _, _, _, _, .nil, h => h
  | _, _, _, _, .cons h1 h2, h => .cons h1 (RepL.append h2 h)
theorem RepL.take : ∀ {vs : List V} {ds : List D} (n : Nat), RepL Z F vs ds → RepL Z F (vs.take n) (ds.take n)
  | _, _, 0, _ => .nil
  | _, _, _ + 1, .nil => .nil
  | _, _, n + 1, .cons h t => .cons h (RepL.take n t)
theorem RepL.drop : ∀ {vs : List V} {ds : List D} (n : Nat), RepL Z F vs ds → RepL Z F (vs.drop n) (ds.drop n)
  | _, _, 0, h => h
  | _, _, _ + 1, .nil => .nil
  | _, _, n + 1, .cons _ t => RepL.drop n t
theorem RepL.set : ∀ {vs : List V} {ds : List D} {v : V} {d : D} (n : Nat), Rep Z F v d → RepL Z F vs ds → RepL Z F (vs.set n v) (ds.set n d)
  | _, _, _, _, _, _, .nil => .nil
  | _, _, _, _, 0, h, .cons _ t => .cons h t
  | _, _, _, _, n + 1, h, .cons q t => .cons q (RepL.set n h t)
theorem RepL.reverse : ∀ {vs : List V} {ds : List D}, RepL Z F vs ds → RepL Z F vs.reverse ds.reverse
  | _, _, .nil => .nil
  | _, _, .cons h t => by
    rw [List.reverse_cons, List.reverse_cons]
    exact (RepL.reverse t).append (.cons h .nil)
theorem RepL.flatten : ∀ {n : Nat} {vs : List V} {ds : List D}, RepL Z F vs ds → RepL Z F (List.replicate n vs).flatten (List.replicate n ds).flatten
  | 0, _, _, _ => .nil
  | n + 1, vs, ds, h => by
    rw [List.replicate_succ, List.replicate_succ, List.flatten_cons, List.flatten_cons]
    exact h.append (RepL.flatten h)
theorem RepL.ints : ∀ {vs : List V} {ds : List D} {ns : List Int}, RepL Z F vs ds → asInts ds = some ns → vs = ns.map V.int
  | _, _, _, .nil, h => by
    have e := Option.some.inj h
    subst e
    rfl
  | _, _, ns, .cons (d := d) (ds := ds) h1 h2, h => by
    cases h1 with
    | int i =>
      unfold asInts at h
      cases q : asInts ds with
      | none => rw [q] at h; cases h
      | some ms =>
        rw [q] at h
        have e := Option.some.inj h
        subst e
        rw [RepL.ints h2 q]
        rfl
    | _ => cases h
theorem RepL.bools : ∀ {vs : List V} {ds : List D} {ns : List Bool}, RepL Z F vs ds → asBools ds = some ns → vs = ns.map V.bl
  | _, _, _, .nil, h => by
    have e := Option.some.inj h
    subst e
    rfl
  | _, _, ns, .cons (d := d) (ds := ds) h1 h2, h => by
    cases h1 with
    | bl i =>
      unfold asBools at h
      cases q : asBools ds with
      | none => rw [q] at h; cases h
      | some ms =>
        rw [q] at h
        have e := Option.some.inj h
        subst e
        rw [RepL.bools h2 q]
        rfl
    | _ => cases h
theorem RepL.strs : ∀ {vs : List V} {ds : List D} {ns : List (List Nat)}, RepL Z F vs ds → asStrs ds = some ns → vs = (ns.map S).map V.str
  | _, _, _, .nil, h => by
    have e := Option.some.inj h
    subst e
    rfl
  | _, _, ns, .cons (d := d) (ds := ds) h1 h2, h => by
    cases h1 with
    | str l hl =>
      unfold asStrs at h
      cases q : asStrs ds with
      | none => rw [q] at h; cases h
      | some ms =>
        rw [q] at h
        have e := Option.some.inj h
        subst e
        rw [RepL.strs h2 q]
        rfl
    | _ => cases h
theorem RepL.ofInts : ∀ ns : List Int, RepL Z F (ns.map V.int) (ns.map D.int)
  | [] => .nil
  | n :: r => .cons (.int n) (RepL.ofInts r)
theorem RepL.ofSigns : ∀ l : List Nat, RepL Z F (l.map fun c => V.str (S [c])) (l.map fun c => D.str [c])
  | [] => .nil
  | c :: r => .cons (.str [c] (show 1 ≤ sizeLine by decide)) (RepL.ofSigns r)
end

/-! ### what grows -/
structure Ext (F H F' H' : Hp) : Prop where
  ff : Same F F'
  hh : Same H H'
  sub : Same F' H'
  new : ∀ p, F p = none → H p ≠ none → F' p = none
section
variable {F H F1 H1 F2 H2 : Hp}
theorem Ext.refl (s : Same F H) : Ext F H F H := ⟨Same.refl _, Same.refl _, s, fun _ h _ => h⟩
theorem Ext.trans (a : Ext F H F1 H1) (b : Ext F1 H1 F2 H2) : Ext F H F2 H2 :=
  ⟨a.ff.trans b.ff, a.hh.trans b.hh, b.sub, fun p h1 h2 => b.new p (a.new p h1 h2) (fun e => by
    cases q : H p with
    | none => exact h2 q
    | some o => rw [a.hh p o q] at e; cases e)⟩
theorem same_updN {H : Hp} {p : Addr} {o : HO} (h : H p = none) : Same H (upd H p o) := fun b x e => by
  rw [upd_ne (ne_of_none e h)]
  exact e
theorem same_up {F H : Hp} {p : Addr} {o : HO} (s : Same F H) (h : F p = none) : Same F (upd H p o) := fun b x e => by
  rw [upd_ne (ne_of_none e h)]
  exact s _ _ e
theorem same_both {F H : Hp} {p : Addr} {o : HO} (s : Same F H) : Same (upd F p o) (upd H p o) := fun b x e => by
  by_cases hb : b = p
  · subst hb
    rw [upd_same] at e ⊢
    exact e
  · rw [upd_ne hb] at e ⊢
    exact s _ _ e
theorem same_in {F H : Hp} {p : Addr} {o : HO} (s : Same F H) (h : H p = some o) : Same (upd F p o) H := fun b x e => by
  by_cases hb : b = p
  · subst hb
    rw [upd_same] at e
    rw [h, e]
  · rw [upd_ne hb] at e
    exact s _ _ e
theorem none_of_same {F H : Hp} {p : Addr} (s : Same F H) (h : H p = none) : F p = none := s.free h
/-- a new object that stands still -/
theorem Ext.still {p : Addr} {o : HO} (s : Same F H) (h : H p = none) : Ext F H (upd F p o) (upd H p o) :=
  ⟨same_updN (s.free h), same_updN h, same_both s, fun q h1 h2 => by
    have hq : q ≠ p := fun e => h2 (by rw [e]; exact h)
    rw [upd_ne hq]
    exact h1⟩
/-- a new object of one's own -/
theorem Ext.own {p : Addr} {o : HO} (s : Same F H) (h : H p = none) : Ext F H F (upd H p o) :=
  ⟨Same.refl _, same_updN h, same_up s (s.free h), fun q h1 _ => h1⟩
/-- what is one's own comes to stand still -/
theorem Ext.freeze {p : Addr} {o : HO} (e : Ext F H F1 H1) (hn : H p = none) (h : H1 p = some o) (hf : F1 p = none) : Ext F H (upd F1 p o) H1 :=
  ⟨e.ff.trans (same_updN hf), e.hh, same_in e.sub h, fun q h1 h2 => by
    have hq : q ≠ p := fun z => h2 (by rw [z]; exact hn)
    rw [upd_ne hq]
    exact e.new q h1 h2⟩
end

def D.mut : D → Bool
  | .lst _ | .dct _ _ | .obj _ _ => true
  | _ => false
/-- the object of the tree's root, its parts standing still -/
def RootIs (Z : Wo) (F : Hp) (a : Addr) (o : HO) : D → Prop
  | .lst ds => ∃ xs, o = .lst xs ∧ RepL Z F xs ds ∧ ds.length ≤ sizeLine
  | .dct ks ds => ∃ kvs : List (Key × V), o = .dK kvs ∧ kvs.map (·.1) = ks.map (fun l => Sum.inr (S l)) ∧ RepL Z F (kvs.map (·.2)) ds
  | .obj c ds => ∃ dx fs, o = .ins (Z.clA c) dx fs ∧ F dx = some (.own a) ∧ fs.map (·.1) = Z.clF c ∧ RepL Z F (fs.map (·.2)) ds
  | _ => False
/-- one's own: the root isn't in F -/
def OwnRep (Z : Wo) (F H : Hp) (v : V) (d : D) : Prop :=
  if d.mut = true then ∃ p o, v = .ref p ∧ F p = none ∧ H p = some o ∧ RootIs Z F p o d else Rep Z F v d
section
variable {Z : Wo} {F F' H H' : Hp} {v : V} {d : D}
theorem RootIs.mono {a : Addr} {o : HO} (s : Same F F') (h : RootIs Z F a o d) : RootIs Z F' a o d := by
  cases d with
  | lst ds => obtain ⟨xs, e, r, z⟩ := h; exact ⟨xs, e, r.mono s, z⟩
  | dct ks ds => obtain ⟨kvs, e, k, r⟩ := h; exact ⟨kvs, e, k, r.mono s⟩
  | obj c ds => obtain ⟨dx, fs, e, q, n, r⟩ := h; exact ⟨dx, fs, e, s _ _ q, n, r.mono s⟩
  | _ => exact h
theorem RootIs.rep {a : Addr} {o : HO} (h : RootIs Z F a o d) (hf : F a = none) : Rep Z (upd F a o) (.ref a) d := by
  have s : Same F (upd F a o) := same_updN hf
  cases d with
  | lst ds => obtain ⟨xs, e, r, z⟩ := h; subst e; exact .lst upd_same (r.mono s) z
  | dct ks ds => obtain ⟨kvs, e, k, r⟩ := h; subst e; exact .dct (.inl upd_same) k (r.mono s)
  | obj c ds => obtain ⟨dx, fs, e, q, n, r⟩ := h; subst e; exact .obj upd_same (s _ _ q) n (r.mono s)
  | _ => exact h.elim
theorem OwnRep.ext (h : OwnRep Z F H v d) (e : Ext F H F' H') : OwnRep Z F' H' v d := by
  unfold OwnRep at h ⊢
  by_cases m : d.mut = true
  · rw [if_pos m] at h ⊢
    obtain ⟨p, o, ev, hf, hh, r⟩ := h
    exact ⟨p, o, ev, e.new p hf (by rw [hh]; exact fun z => nomatch z), e.hh _ _ hh, r.mono e.ff⟩
  · rw [if_neg m] at h ⊢
    exact h.mono e.ff
end

inductive Md where
  | keep | fresh | read
def RepM (Z : Wo) (m : Md) (F' H H' : Hp) (v : V) (d : D) : Prop := match m with
  | .keep => Rep Z F' v d
  | .fresh => OwnRep Z F' H' v d ∧ ∀ p, d.mut = true → v = .ref p → H p = none
  | .read => Rep Z F' v d ∨ OwnRep Z F' H' v d
theorem freeze {Z : Wo} {F H F' H' : Hp} {v : V} {d : D} (e : Ext F H F' H') (h : RepM Z .fresh F' H H' v d) : ∃ F'', Ext F H F'' H' ∧ Same F' F'' ∧ Rep Z F'' v d := by
  obtain ⟨h, hn⟩ := h
  unfold OwnRep at h
  by_cases m : d.mut = true
  · rw [if_pos m] at h
    obtain ⟨p, o, rfl, hf, hh, r⟩ := h
    exact ⟨upd F' p o, e.freeze (hn p m rfl) hh hf, same_updN hf, r.rep hf⟩
  · rw [if_neg m] at h
    exact ⟨F', e, Same.refl _, h⟩

/-! ### the slots -/
abbrev Gm := Nat → Bool
structure Inv0 (Z : Wo) (F0 H0 : Hp) (Γ : Gm) (F H : Hp) (σ : L2.St) (e : Env) : Prop where
  ext : Ext F0 H0 F H
  len : e.length = σ.length
  slot : ∀ i d, e[i]? = some (some d) → ∃ v, σ[i]? = some (some v) ∧ (Γ i = false → Rep Z F v d) ∧ (Γ i = true → OwnRep Z F H v d ∧ ∀ p, d.mut = true → v = .ref p → H0 p = none)
  dist : ∀ i j p d d', i ≠ j → Γ i = true → Γ j = true → e[i]? = some (some d) → e[j]? = some (some d') → d.mut = true → d'.mut = true → σ[i]? = some (some (.ref p)) → σ[j]? = some (some (.ref p)) → False
section
variable {Z : Wo} {F0 H0 F H F' H' : Hp} {Γ Γ' : Gm} {σ : L2.St} {e : Env}
theorem Inv0.sub (I : Inv0 Z F0 H0 Γ F H σ e) : Same F H := I.ext.sub
theorem Inv0.grow (I : Inv0 Z F0 H0 Γ F H σ e) (x : Ext F H F' H') : Inv0 Z F0 H0 Γ F' H' σ e :=
  ⟨I.ext.trans x, I.len, fun i d h => by
    obtain ⟨v, hv, h1, h2⟩ := I.slot i d h
    exact ⟨v, hv, fun g => (h1 g).mono x.ff, fun g => ⟨(h2 g).1.ext x, (h2 g).2⟩⟩, I.dist⟩
/-- one slot comes to stand still -/
theorem Inv0.frz1 (I : Inv0 Z F0 H0 Γ F H σ e) (i : Nat) : ∃ F', Same F F' ∧ Inv0 Z F0 H0 (fun j => if j = i then false else Γ j) F' H σ e := by
  have dd : ∀ a b p d d', a ≠ b → (if a = i then false else Γ a) = true → (if b = i then false else Γ b) = true → e[a]? = some (some d) → e[b]? = some (some d') → d.mut = true → d'.mut = true → σ[a]? = some (some (.ref p)) → σ[b]? = some (some (.ref p)) → False := by
    intro a b p d d' n ga gb
    by_cases ha : a = i
    · rw [if_pos ha] at ga; cases ga
    by_cases hb : b = i
    · rw [if_pos hb] at gb; cases gb
    rw [if_neg ha] at ga
    rw [if_neg hb] at gb
    exact I.dist a b p d d' n ga gb
  by_cases q : ∃ d p, Γ i = true ∧ e[i]? = some (some d) ∧ d.mut = true ∧ σ[i]? = some (some (.ref p))
  · obtain ⟨d, p, g, hd, m, hp⟩ := q
    obtain ⟨v, hv, _, h2⟩ := I.slot i d hd
    rw [hp] at hv
    cases hv
    obtain ⟨ow, hB⟩ := h2 g
    unfold OwnRep at ow
    rw [if_pos m] at ow
    obtain ⟨p', o, ev, hf, hh, r⟩ := ow
    cases ev
    have hn : H0 p = none := hB p m rfl
    have sF : Same F (upd F p o) := same_updN hf
    refine ⟨upd F p o, sF, ⟨I.ext.ff.trans sF, I.ext.hh, same_in I.sub hh, fun b h1 h2 => ?_⟩, I.len, fun j d' h => ?_, dd⟩
    · have hb : b ≠ p := fun z => h2 (by rw [z]; exact hn)
      rw [upd_ne hb]
      exact I.ext.new b h1 h2
    · obtain ⟨v, hv, k1, k2⟩ := I.slot j d' h
      refine ⟨v, hv, fun gj => ?_, fun gj => ?_⟩
      · by_cases hj : j = i
        · subst hj
          rw [hd] at h
          cases h
          rw [hp] at hv
          cases hv
          exact r.rep hf
        · rw [if_neg hj] at gj
          exact (k1 gj).mono sF
      · by_cases hj : j = i
        · rw [if_pos hj] at gj; cases gj
        rw [if_neg hj] at gj
        obtain ⟨ow, hB'⟩ := k2 gj
        refine ⟨?_, hB'⟩
        unfold OwnRep at ow ⊢
        by_cases m' : d'.mut = true
        · rw [if_pos m'] at ow ⊢
          obtain ⟨p2, o2, ev2, hf2, hh2, r2⟩ := ow
          subst ev2
          have hne : p2 ≠ p := fun z => by
            subst z
            exact I.dist j i p2 d' d hj gj g h hd m' m hv hp
          exact ⟨p2, o2, rfl, by rw [upd_ne hne]; exact hf2, hh2, r2.mono sF⟩
        · rw [if_neg m'] at ow ⊢
          exact ow.mono sF
  · refine ⟨F, Same.refl _, I.ext, I.len, fun j d' h => ?_, dd⟩
    obtain ⟨v, hv, k1, k2⟩ := I.slot j d' h
    by_cases hj : j = i
    · subst hj
      refine ⟨v, hv, fun _ => ?_, fun gj => by rw [if_pos rfl] at gj; cases gj⟩
      cases g : Γ j with
      | false => exact k1 g
      | true =>
        obtain ⟨ow, _⟩ := k2 g
        unfold OwnRep at ow
        by_cases m : d'.mut = true
        · rw [if_pos m] at ow
          obtain ⟨p, o, ev, _⟩ := ow
          subst ev
          exact absurd ⟨d', p, g, h, m, hv⟩ q
        · rw [if_neg m] at ow
          exact ow
    · simp only [if_neg hj]
      exact ⟨v, hv, k1, k2⟩
/-- only the flags of slots that hold something count -/
theorem Inv0.flags (I : Inv0 Z F0 H0 Γ F H σ e) (h : ∀ i, i < e.length → Γ' i = Γ i) : Inv0 Z F0 H0 Γ' F H σ e := by
  have lt : ∀ {i : Nat} {d : D}, e[i]? = some (some d) → i < e.length := fun q => (List.getElem?_eq_some_iff.mp q).1
  refine ⟨I.ext, I.len, fun i d q => ?_, fun a b p d d' n ga gb ea eb => ?_⟩
  · rw [h i (lt q)]
    exact I.slot i d q
  · rw [h a (lt ea)] at ga
    rw [h b (lt eb)] at gb
    exact I.dist a b p d d' n ga gb ea eb
/-- fewer slots are one's own -/
theorem Inv0.weak (I : Inv0 Z F0 H0 Γ F H σ e) (hw : ∀ i, Γ' i = true → Γ i = true) : ∃ F', Same F F' ∧ Inv0 Z F0 H0 Γ' F' H σ e := by
  have step : ∀ n : Nat, ∃ F', Same F F' ∧ Inv0 Z F0 H0 (fun j => if j < n then Γ' j else Γ j) F' H σ e := by
    intro n
    induction n with
    | zero => exact ⟨F, Same.refl _, I.flags fun i _ => by simp⟩
    | succ n ih =>
      obtain ⟨F1, s1, I1⟩ := ih
      by_cases g : Γ' n = true
      · refine ⟨F1, s1, I1.flags fun i _ => ?_⟩
        by_cases hi : i = n
        · subst hi
          simp [g, hw i g]
        · by_cases h2 : i < n
          · simp [h2, Nat.lt_succ_of_lt h2]
          · simp [h2, show ¬ i < n + 1 by omega]
      · obtain ⟨F2, s2, I2⟩ := I1.frz1 n
        refine ⟨F2, s1.trans s2, I2.flags fun i _ => ?_⟩
        by_cases hi : i = n
        · subst hi
          simp [Bool.eq_false_iff.mpr g]
        · by_cases h2 : i < n
          · simp [h2, hi, Nat.lt_succ_of_lt h2]
          · simp [h2, hi, show ¬ i < n + 1 by omega]
  obtain ⟨F', s, I'⟩ := step e.length
  exact ⟨F', s, I'.flags fun i hi => by simp [hi]⟩
/-- a slot is stored: what stands still -/
theorem Inv0.put (I : Inv0 Z F0 H0 Γ F H σ e) {v : V} {d : D} (i : Nat) (r : Rep Z F v d) : Inv0 Z F0 H0 (fun j => if j = i then false else Γ j) F H (σ.set i (some v)) (e.set i (some d)) := by
  have key : ∀ {j : Nat} {d' : D}, (e.set i (some d))[j]? = some (some d') → (j = i ∧ i < e.length ∧ d' = d) ∨ (j ≠ i ∧ e[j]? = some (some d')) := fun {j d'} h => by
    by_cases hj : j = i
    · subst hj
      by_cases hl : j < e.length
      · rw [List.getElem?_set_self hl] at h
        cases h
        exact .inl ⟨rfl, hl, rfl⟩
      · rw [List.getElem?_eq_none (by simpa using hl)] at h
        cases h
    · rw [List.getElem?_set_ne (Ne.symm hj)] at h
      exact .inr ⟨hj, h⟩
  refine ⟨I.ext, by rw [List.length_set, List.length_set]; exact I.len, fun j d' h => ?_, fun a b p d1 d2 n ga gb ea eb m1 m2 sa sb => ?_⟩
  · rcases key h with ⟨rfl, hl, rfl⟩ | ⟨hj, h⟩
    · exact ⟨v, List.getElem?_set_self (by rw [← I.len]; exact hl), fun _ => r, fun g => by rw [if_pos rfl] at g; cases g⟩
    · obtain ⟨w, hw, k1, k2⟩ := I.slot j d' h
      exact ⟨w, by rw [List.getElem?_set_ne (Ne.symm hj)]; exact hw, fun g => k1 (by rw [if_neg hj] at g; exact g), fun g => k2 (by rw [if_neg hj] at g; exact g)⟩
  · rcases key ea with ⟨rfl, _, _⟩ | ⟨ha, ea⟩
    · rw [if_pos rfl] at ga; cases ga
    rcases key eb with ⟨rfl, _, _⟩ | ⟨hb, eb⟩
    · rw [if_pos rfl] at gb; cases gb
    rw [if_neg ha] at ga
    rw [if_neg hb] at gb
    rw [List.getElem?_set_ne (Ne.symm ha)] at sa
    rw [List.getElem?_set_ne (Ne.symm hb)] at sb
    exact I.dist a b p d1 d2 n ga gb ea eb m1 m2 sa sb
/-- a slot is stored: one's own, new since Hb -/
theorem Inv0.putO (I : Inv0 Z F0 H0 Γ F H σ e) {v : V} {d : D} (i : Nat) (r : OwnRep Z F H v d) (h0 : ∀ p, d.mut = true → v = .ref p → H0 p = none)
    (hne : ∀ j p d', j ≠ i → Γ j = true → e[j]? = some (some d') → d'.mut = true → d.mut = true → σ[j]? = some (some (.ref p)) → v ≠ .ref p) :
    Inv0 Z F0 H0 (fun j => if j = i then true else Γ j) F H (σ.set i (some v)) (e.set i (some d)) := by
  have key : ∀ {j : Nat} {d' : D}, (e.set i (some d))[j]? = some (some d') → (j = i ∧ i < e.length ∧ d' = d) ∨ (j ≠ i ∧ e[j]? = some (some d')) := fun {j d'} h => by
    by_cases hj : j = i
    · subst hj
      by_cases hl : j < e.length
      · rw [List.getElem?_set_self hl] at h
        cases h
        exact .inl ⟨rfl, hl, rfl⟩
      · rw [List.getElem?_eq_none (by simpa using hl)] at h
        cases h
    · rw [List.getElem?_set_ne (Ne.symm hj)] at h
      exact .inr ⟨hj, h⟩
  refine ⟨I.ext, by rw [List.length_set, List.length_set]; exact I.len, fun j d' h => ?_, fun a b p d1 d2 n ga gb ea eb m1 m2 sa sb => ?_⟩
  · rcases key h with ⟨rfl, hl, rfl⟩ | ⟨hj, h⟩
    · exact ⟨v, List.getElem?_set_self (by rw [← I.len]; exact hl), fun g => (by rw [if_pos rfl] at g; cases g), fun _ => ⟨r, h0⟩⟩
    · obtain ⟨w, hw, k1, k2⟩ := I.slot j d' h
      exact ⟨w, by rw [List.getElem?_set_ne (Ne.symm hj)]; exact hw, fun g => k1 (by rw [if_neg hj] at g; exact g), fun g => k2 (by rw [if_neg hj] at g; exact g)⟩
  · rcases key ea with ⟨rfl, la, rfl⟩ | ⟨ha, ea'⟩
    · rcases key eb with ⟨rfl, _, _⟩ | ⟨hb, eb'⟩
      · exact n rfl
      · rw [if_neg hb] at gb
        rw [List.getElem?_set_self (by rw [← I.len]; exact la)] at sa
        rw [List.getElem?_set_ne (Ne.symm hb)] at sb
        have ev : v = .ref p := Option.some.inj (Option.some.inj sa)
        exact hne b p d2 hb gb eb' m2 m1 sb ev
    · rw [if_neg ha] at ga
      rw [List.getElem?_set_ne (Ne.symm ha)] at sa
      rcases key eb with ⟨rfl, lb, rfl⟩ | ⟨hb, eb'⟩
      · rw [List.getElem?_set_self (by rw [← I.len]; exact lb)] at sb
        have ev : v = .ref p := Option.some.inj (Option.some.inj sb)
        exact hne a p d1 ha ga ea' m1 m2 sa ev
      · rw [if_neg hb] at gb
        rw [List.getElem?_set_ne (Ne.symm hb)] at sb
        exact I.dist a b p d1 d2 n ga gb ea' eb' m1 m2 sa sb
/-- the object of a slot of one's own is changed -/
theorem Inv0.change (I : Inv0 Z F0 H0 Γ F H σ e) {i : Nat} {p : Addr} {d d' : D} {o : HO} (g : Γ i = true) (hd : e[i]? = some (some d)) (hp : σ[i]? = some (some (.ref p))) (m : d.mut = true) (m' : d'.mut = true) (r : RootIs Z F p o d') :
    Inv0 Z F0 H0 Γ F (upd H p o) σ (e.set i (some d')) := by
  obtain ⟨v, hv, _, h2⟩ := I.slot i d hd
  rw [hp] at hv
  cases hv
  obtain ⟨ow, hB⟩ := h2 g
  unfold OwnRep at ow
  rw [if_pos m] at ow
  obtain ⟨p', o', ev, hf, hh, _⟩ := ow
  cases ev
  have hn : H0 p = none := hB p m rfl
  have hl : i < e.length := (List.getElem?_eq_some_iff.mp hd).1
  refine ⟨⟨I.ext.ff, fun b x q => ?_, same_up I.sub hf, I.ext.new⟩, by rw [List.length_set]; exact I.len, fun j dj h => ?_, fun a b q d1 d2 n ga gb ea eb m1 m2 sa sb => ?_⟩
  · rw [upd_ne (ne_of_none q hn)]
    exact I.ext.hh _ _ q
  · by_cases hj : j = i
    · subst hj
      rw [List.getElem?_set_self hl] at h
      cases h
      refine ⟨.ref p, hp, fun z => (by rw [g] at z; cases z), fun _ => ⟨?_, fun q _ ev => (by cases ev; exact hn)⟩⟩
      unfold OwnRep
      rw [if_pos m']
      exact ⟨p, o, rfl, hf, upd_same, r⟩
    · rw [List.getElem?_set_ne (Ne.symm hj)] at h
      obtain ⟨w, hw, k1, k2⟩ := I.slot j dj h
      refine ⟨w, hw, k1, fun gj => ?_⟩
      obtain ⟨ow2, hB2⟩ := k2 gj
      refine ⟨?_, hB2⟩
      unfold OwnRep at ow2 ⊢
      by_cases mj : dj.mut = true
      · rw [if_pos mj] at ow2 ⊢
        obtain ⟨p2, o2, ev2, hf2, hh2, r2⟩ := ow2
        subst ev2
        have hne : p2 ≠ p := fun z => by
          subst z
          exact I.dist j i p2 dj d hj gj g h hd mj m hw hp
        exact ⟨p2, o2, rfl, hf2, by rw [upd_ne hne]; exact hh2, r2⟩
      · rw [if_neg mj] at ow2 ⊢
        exact ow2
  · have ba : ∃ da, e[a]? = some (some da) ∧ da.mut = true := by
      by_cases ha : a = i
      · exact ⟨d, by rw [ha]; exact hd, m⟩
      · rw [List.getElem?_set_ne (Ne.symm ha)] at ea
        exact ⟨d1, ea, m1⟩
    have bb : ∃ db, e[b]? = some (some db) ∧ db.mut = true := by
      by_cases hb : b = i
      · exact ⟨d, by rw [hb]; exact hd, m⟩
      · rw [List.getElem?_set_ne (Ne.symm hb)] at eb
        exact ⟨d2, eb, m2⟩
    obtain ⟨da, xa, ya⟩ := ba
    obtain ⟨db, xb, yb⟩ := bb
    exact I.dist a b q da db n ga gb xa xb ya yb sa sb
end
end Hue
/-! From the text of a def to the small tongue. -/
namespace Hue
open PySem L2

inductive Ent where
  | fn (den : List D → R D) (fresh : Bool) (ar : Nat)
  | const (d : D)
  | exc (c : Nat)
abbrev Tab := List (Str × Ent)
structure Cc where
  N : List Str
  sc : Scope
  tab : Tab
  fr : Bool

def slotOf (x : Str) : List Str → Option Nat
  | [] => none
  | y :: r => if y = x then some 0 else (slotOf x r).map (· + 1)
theorem slotOf_get : ∀ {N : List Str} {x : Str} {i : Nat}, slotOf x N = some i → N[i]? = some x
  | [], _, _, h => by cases h
  | y :: r, x, i, h => by
    unfold slotOf at h
    by_cases e : y = x
    · rw [if_pos e] at h
      cases h
      simp [e]
    · rw [if_neg e] at h
      cases q : slotOf x r with
      | none => rw [q] at h; cases h
      | some j =>
        rw [q] at h
        cases h
        simpa using slotOf_get q
def nameOk (x : Str) : Bool := !(x == ("__debug__" : Str)) && !(x == ("__classdict__" : Str)) && !(x == ("__name__" : Str))
def isVis : Option NameKind → Bool
  | some .local => true
  | some .cell => true
  | some .free => true
  | _ => false
def isLoc : Option NameKind → Bool
  | some .local => true
  | some .cell => true
  | _ => false
def varOf (c : Cc) (x : Str) : Option Nat := if isVis (c.sc.names.lookup x) && nameOk x then slotOf x c.N else none
/-- a name that may be stored -/
def locOf (c : Cc) (x : Str) : Option Nat := if isLoc (c.sc.names.lookup x) then slotOf x c.N else none
def isGl (c : Cc) (x : Str) : Bool := (c.sc.names.lookup x == some .globalImplicit) && nameOk x
/-- a built-in's name: global, and no name of the module -/
def bltn (c : Cc) (x : Str) : Bool := isGl c x && (c.tab.lookup x).isNone

def bop : Operator → Option BO
  | .Add => some .add | .Sub => some .sub | .Mult => some .mul | .FloorDiv => some .fdiv | .Mod => some .mod | .Pow => some .pow
  | _ => none
def cop : CmpOp → Option CO
  | .Eq => some .eq | .NotEq => some .ne | .Lt => some .lt | .LtE => some .le | .Gt => some .gt | .GtE => some .ge | .In => some .isin | .NotIn => some .notin
  | _ => none

def flatT : Tm → Bool
  | .lit d => !d.mut
  | _ => false
def litI : Tm → Bool
  | .lit (.int _) => true
  | _ => false
mutual
/-- whether the root of what it is worth is new -/
def owns : Tm → Bool
  | .lst _ => true
  | .comp _ _ _ _ _ => true
  | .slc _ _ _ => true
  | .rev _ => true
  | .call _ f _ => f
  | .prim .list _ => true
  | .prim .sorted _ => true
  | .prim .sortset _ => true
  | .prim .lrng1 _ => true
  | .prim .lrng2 _ => true
  | .prim .rev2 _ => true
  | .bin .add a b => !litI a && !litI b
  | .bin .mul _ _ => true
  | .ite _ a b => (owns a || flatT a) && (owns b || flatT b)
  | _ => false
end
def md (o : Bool) : Md := if o then .fresh else .keep

def clr (Γ : Gm) (is : List Nat) : Gm := fun i => Γ i && !is.contains i
def setG (Γ : Gm) (i : Nat) (b : Bool) : Gm := fun j => if j = i then b else Γ j
def andG (Γ Δ : Gm) : Gm := fun i => Γ i && Δ i
def below (n : Nat) (Γ : Gm) : Gm := fun i => Γ i && decide (i < n)
def leG (n : Nat) (Γ Δ : Gm) : Bool := (List.range n).all fun i => !Γ i || Δ i

def ownNames (N : List Str) (scope : Scope) : List (Str × Nat) := scope.names.filterMap fun y => match y.2 with
  | .local => (slotOf y.1 N).map fun i => (y.1, i)
  | .cell => (slotOf y.1 N).map fun i => (y.1, i)
  | _ => none
/-- a comprehension's target: its own names -/
def tgName (N : List Str) (scope : Scope) : Expr → Option Nat
  | .Name x _ => if isLoc (scope.names.lookup x) then slotOf x N else none
  | _ => none
def tgList (nm : Expr → Option Nat) : List Expr → Option (List Nat)
  | [] => some []
  | e :: es => (nm e).bind fun i => (tgList nm es).bind fun is => some (i :: is)
def tgWith (nm : Expr → Option Nat) : Expr → Option Tg
  | .Tuple es _ _ => (tgList nm es).bind fun is => some (.tp is)
  | .Name x p => (nm (.Name x p)).bind fun i => some (.nm i)
  | _ => none
def tgOf (N : List Str) (scope : Scope) : Expr → Option Tg := tgWith (tgName N scope)
def oneArg : List Expr → Option Expr
  | [a] => some a
  | _ => none
def prims1 : List (Str × P) := [("len", .len), ("sum", .sum), ("min", .min1), ("max", .max1), ("any", .any), ("all", .all), ("abs", .abs), ("list", .list), ("int", .int), ("sorted", .sorted), ("str", .str)]
def prim1 (f : Str) : Option P := prims1.lookup f
def prims2 : List (Str × P) := [("min", .min2), ("max", .max2)]
def prim2 (f : Str) : Option P := prims2.lookup f
def isis : List (Str × P) := [("int", .isI), ("bool", .isB), ("str", .isS), ("list", .isL), ("tuple", .isT)]
def isiOf (t : Str) : Option P := isis.lookup t
theorem lookup_mem {α β : Type} [BEq α] [LawfulBEq α] : ∀ {l : List (α × β)} {a : α} {b : β}, l.lookup a = some b → (a, b) ∈ l
  | [], _, _, h => by cases h
  | (x, y) :: r, a, b, h => by
    rw [List.lookup_cons] at h
    cases q : a == x with
    | true =>
      rw [q] at h
      cases h
      rw [eq_of_beq q]
      exact List.mem_cons_self
    | false =>
      rw [q] at h
      exact List.mem_cons_of_mem _ (lookup_mem h)
def setArg : Expr → Option Expr
  | .Call (.Name g _) [a] [] _ => if g = "set" then some a else none
  | _ => none
def setPrim (f : Str) : Option P := if f = "len" then some .lenset else if f = "sorted" then some .sortset else none
/-- range(..) within list(..) -/
def rngArg : Expr → Option (List Expr)
  | .Call (.Name g _) args [] _ => if g = "range" then some args else none
  | _ => none
/-- methods of one thing -/
def meth1 (m : Str) : Option P := if m = "join" then some .join else if m = "index" then some .index else none
/-- the step of a slice: -1 -/
def isM1 : Expr → Bool
  | .UnaryOp .USub (.Constant (.int 1) _ _) _ => true
  | _ => false
def isM2 : Expr → Bool
  | .UnaryOp .USub (.Constant (.int 2) _ _) _ => true
  | _ => false
inductive RevK where
  | all | but
def revOf (lo hi : Option Expr) (st : Expr) : Option RevK := if isM1 st then (match lo, hi with
    | none, none => some .all
    | some l, none => if isM2 l then some .but else none
    | _, _ => none) else none
def plainIx : Expr → Bool
  | .Slice _ _ _ _ => false
  | _ => true

def mkBool : BoolOp → Tm → Tm → Tm
  | .And, a, b => .and a b
  | .Or, a, b => .or a b
def isNoneC : Expr → Bool
  | .Constant .none _ _ => true
  | _ => false
mutual
def cmpE (c : Cc) (Γ : Gm) : Nat → Expr → Option Tm
  | 0, _ => none
  | n + 1, e => match e with
    | .Name x _ => match varOf c x with
      | some i => if Γ i then none else some (.var i)
      | none => if isGl c x then (match c.tab.lookup x with
        | some (.const d) => some (.lit d)
        | _ => none) else none
    | .Constant k _ _ => match k with
      | .int i => some (.lit (.int i))
      | .bool b => some (.lit (.bl b))
      | .str s => if s.cps.size ≤ lim then some (.lit (.str s.cps.toList)) else none
      | .none => some (.lit .non)
      | _ => none
    | .BinOp a op b _ => (bop op).bind fun o => (cmpE c Γ n a).bind fun ta => (cmpE c Γ n b).bind fun tb => some (.bin o ta tb)
    | .UnaryOp op a _ => match op with
      | .USub => (cmpE c Γ n a).bind fun ta => some (.neg ta)
      | .Not => (cmpE c Γ n a).bind fun ta => some (.not ta)
      | _ => none
    | .BoolOp op vs p => match vs with
      | a :: b :: r => (cmpE c Γ n a).bind fun ta => (match r with
        | [] => cmpE c Γ n b
        | _ :: _ => cmpE c Γ n (.BoolOp op (b :: r) p)).bind fun tb => some (mkBool op ta tb)
      | _ => none
    | .IfExp t a b _ => (cmpT c Γ n t).bind fun tt => (cmpE c Γ n a).bind fun ta => (cmpE c Γ n b).bind fun tb => some (.ite tt ta tb)
    | .Compare a ops bs _ => match ops, bs with
      | [op], [b] => if isNoneC b then (match op with
          | .Is => (cmpR c Γ n a).bind fun ta => some (.isN ta)
          | .IsNot => (cmpR c Γ n a).bind fun ta => some (.notN ta)
          | _ => none)
        else (cop op).bind fun o => (cmpR c Γ n a).bind fun ta => (cmpR c Γ n b).bind fun tb => some (.cmp o ta tb)
      | [op, op2], [b, b2] => (cop op).bind fun o => (cop op2).bind fun o2 => (cmpE c Γ n a).bind fun ta => (cmpE c Γ n b).bind fun tb => (cmpE c Γ n b2).bind fun tc => some (.chn o o2 ta tb tc)
      | _, _ => none
    | .Call f args kws p => match f, kws with
      | .Name f _, [] => if isGl c f then (match c.tab.lookup f with
        | some (.fn den fr ar) => (cmpEs c Γ n args).bind fun ts => if args.length = ar ∧ args ≠ [] then some (.call den fr ts) else none
        | some _ => none
        | none => match args with
          | [a] => (match setArg a with
            | some b => if bltn c "set" then (setPrim f).bind fun p => (cmpE c Γ n b).bind fun tb => some (.prim p (.cons tb .nil)) else none
            | none => match rngArg a with
              | some rs => if f = "list" ∧ bltn c "range" = true then (match rs with
                | [x] => (cmpE c Γ n x).bind fun tx => some (.prim .lrng1 (.cons tx .nil))
                | [x, y] => (cmpE c Γ n x).bind fun tx => (cmpE c Γ n y).bind fun ty => some (.prim .lrng2 (.cons tx (.cons ty .nil)))
                | _ => none) else none
              | none => (prim1 f).bind fun p => (cmpR c Γ n a).bind fun ta => some (.prim p (.cons ta .nil)))
          | [a, b] => if f = "isinstance" then (match b with
              | .Name t _ => if bltn c t then (isiOf t).bind fun p => (cmpE c Γ n a).bind fun ta => some (.prim p (.cons ta .nil)) else none
              | _ => none)
            else (prim2 f).bind fun p => (cmpE c Γ n a).bind fun ta => (cmpE c Γ n b).bind fun tb => some (.prim p (.cons ta (.cons tb .nil)))
          | _ => none) else none
      | .Attribute o m ap, [] => (match args with
        | [a] => (meth1 m).bind fun pr => if ap.endLine == p.line then (cmpR c Γ n o).bind fun to => (cmpE c Γ n a).bind fun ta => some (.meth pr to ta) else none
        | _ => none)
      | _, _ => none
    | .Subscript a s _ => match s with
      | .Slice lo hi st _ => match st with
        | none => (cmpR c Γ n a).bind fun ta => (cmpO c Γ n lo).bind fun tl => (cmpO c Γ n hi).bind fun th => some (.slc ta tl th)
        | some st => (revOf lo hi st).bind fun k => (cmpR c Γ n a).bind fun ta => match k with
          | .all => some (.rev ta)
          | .but => some (.prim .rev2 (.cons ta .nil))
      | s => (cmpR c Γ n a).bind fun ta => (cmpE c Γ n s).bind fun tb => some (.idx ta tb)
    | .List es _ => if es.length ≤ 10000 then (cmpEs c Γ n es).bind fun ts => some (.lst ts) else none
    | .Tuple es _ _ => if es.length ≤ 10000 then (cmpEs c Γ n es).bind fun ts => some (.tup ts) else none
    | .ListComp elt gens scope _ => match gens with
      | [⟨tg, it, ifs, asy⟩] =>
        if asy = 0 ∧ blkC c.N c.sc scope (ownNames c.N scope) = true then
          (cmpI c Γ n tg it).bind fun ti => (tgOf c.N scope tg).bind fun g =>
          (match ifs with
            | [] => some OTm.none
            | [i] => (cmpT { c with sc := relS scope c.sc } (clr Γ ((ownNames c.N scope).map Prod.snd)) n i).bind fun t => some (OTm.some t)
            | _ => none).bind fun tc => (cmpE { c with sc := relS scope c.sc } (clr Γ ((ownNames c.N scope).map Prod.snd)) n elt).bind fun te => some (.comp te g ti tc ((ownNames c.N scope).map Prod.snd))
        else none
      | _ => none
    | _ => none
def cmpR (c : Cc) (Γ : Gm) : Nat → Expr → Option Tm
  | 0, _ => none
  | n + 1, e => match e with
    | .Name x p => match varOf c x with
      | some i => some (.var i)
      | none => cmpE c Γ n (.Name x p)
    | e => cmpE c Γ n e
def cmpT (c : Cc) (Γ : Gm) : Nat → Expr → Option Tm
  | 0, _ => none
  | n + 1, e => match e with
    | .UnaryOp op a p => match op with
      | .Not => (cmpT c Γ n a).bind fun ta => some (.not ta)
      | op => cmpE c Γ n (.UnaryOp op a p)
    | .BoolOp op vs p => match vs with
      | a :: b :: r => (cmpT c Γ n a).bind fun ta => (match r with
        | [] => cmpT c Γ n b
        | _ :: _ => cmpT c Γ n (.BoolOp op (b :: r) p)).bind fun tb => some (mkBool op ta tb)
      | _ => none
    | .IfExp _ _ _ _ => none
    | e => cmpE c Γ n e
def cmpEs (c : Cc) (Γ : Gm) : Nat → List Expr → Option Tms
  | 0, _ => none
  | _ + 1, [] => some .nil
  | n + 1, e :: es => (cmpE c Γ n e).bind fun t => (cmpEs c Γ n es).bind fun ts => some (.cons t ts)
def cmpO (c : Cc) (Γ : Gm) : Nat → Option Expr → Option OTm
  | 0, _ => none
  | _ + 1, none => some .none
  | n + 1, some e => (cmpE c Γ n e).bind fun t => some (.some t)
def cmpI (c : Cc) (Γ : Gm) : Nat → Expr → Expr → Option ITm
  | 0, _, _ => none
  | n + 1, tg, e => match e with
    | .Call f args kws p => match f, kws with
      | .Name f fp, [] => if bltn c f = true then (if f = "range" then (match args with
          | [a] => (cmpE c Γ n a).bind fun ta => some (.rng1 ta)
          | [a, b] => (cmpE c Γ n a).bind fun ta => (cmpE c Γ n b).bind fun tb => some (.rng2 ta tb)
          | [a, b, d] => (cmpE c Γ n a).bind fun ta => (cmpE c Γ n b).bind fun tb => (cmpE c Γ n d).bind fun td => some (.rng3 ta tb td)
          | _ => none)
        else if f = "enumerate" then (match tg, args with
          | .Tuple _ _ _, [a] => (cmpE c Γ n a).bind fun ta => some (.enm ta)
          | _, _ => none)
        else if f = "zip" then (match tg, args with
          | .Tuple _ _ _, [a, b] => (cmpE c Γ n a).bind fun ta => (cmpE c Γ n b).bind fun tb => some (.zip ta tb)
          | _, _ => none)
        else (cmpE c Γ n (.Call (.Name f fp) args [] p)).bind fun t => some (.seq t))
        else (cmpE c Γ n (.Call (.Name f fp) args [] p)).bind fun t => some (.seq t)
      | f, kws => (cmpE c Γ n (.Call f args kws p)).bind fun t => some (.seq t)
    | e => (cmpE c Γ n e).bind fun t => some (.seq t)
end
end Hue
/-! Rules that the hand layer lacks: a text times a number, the order of lists of texts. -/
namespace Hue
open PySem PySem.Spec PyProof.Rows L2
theorem rep_foldl (l : List Nat) : ∀ (n : Nat) (a : List Nat), (List.replicate n l.toArray).foldl (· ++ ·) a.toArray = (a ++ (List.replicate n l).flatten).toArray
  | 0, a => by simp
  | n + 1, a => by
    rw [List.replicate_succ, List.foldl_cons, List.append_toArray, rep_foldl l n (a ++ l), List.replicate_succ, List.flatten_cons, List.append_assoc]
theorem mul_S (l : List Nat) {k : Int} (h : 0 ≤ k) : Txt.mul (S l) k = S (List.replicate k.toNat l).flatten := by
  unfold Txt.mul
  by_cases h1 : k < 1
  · rw [if_pos h1]
    have : k.toNat = 0 := by omega
    rw [this]
    rfl
  · rw [if_neg h1]
    by_cases h2 : (k == 1 || (S l).length == 0) = true
    · rw [if_pos h2]
      rw [Bool.or_eq_true] at h2
      rcases h2 with h2 | h2
      · rw [eq_of_beq h2]
        simp
      · have : l = [] := by
          have := eq_of_beq h2
          simpa [Str.length] using this
        subst this
        simp
    · rw [if_neg h2]
      have := rep_foldl l k.toNat []
      rw [List.nil_append] at this
      show (⟨(List.replicate k.toNat l.toArray).foldl (· ++ ·) #[]⟩ : Str) = _
      rw [this]
theorem mulOk_of {l : List Nat} {k : Int} (h0 : 0 ≤ k) (h1 : k ≤ 100000) (h2 : l.length * k.toNat ≤ 10000000) : MulOk (S l) k := by
  have hl : (S l).length = l.length := by simp [Str.length]
  refine ⟨?_, fun h _ z => ?_, fun h _ => ?_⟩
  · rw [decide_eq_false (by omega), decide_eq_false (by omega)]
    rfl
  · rw [hl] at z
    have hk : 0 < k := by omega
    have h3 : (l.length : Int) * k ≤ 10000000 := by
      have : ((l.length * k.toNat : Nat) : Int) ≤ 10000000 := by omega
      rw [Int.natCast_mul, Int.toNat_of_nonneg h0] at this
      exact this
    have h4 : (l.length : Int) ≤ l.length * k := by
      have : (l.length : Int) * 1 ≤ l.length * k := Int.mul_le_mul_of_nonneg_left (by omega) (by omega)
      omega
    have h5 : (2 ^ 63 - 1) / k ≥ (2 ^ 63 - 1) / 100000 := by
      have : (2 ^ 63 - 1 : Int) / 100000 ≤ (2 ^ 63 - 1) / k := by
        refine (Int.le_ediv_iff_mul_le hk).mpr ?_
        have e : (2 ^ 63 - 1 : Int) / 100000 = 92233720368547 := by decide
        rw [e]
        omega
      exact this
    have e : (2 ^ 63 - 1 : Int) / 100000 = 92233720368547 := by decide
    rw [e] at h5
    omega
  · rw [hl]
    show decide (l.length * k.toNat > sizeLine) = false
    have : (10000000 : Nat) ≤ sizeLine := by decide
    exact decide_eq_false (by omega)
def CRep (l : List Nat) (k : Int) : Prop := 0 ≤ k ∧ k ≤ 100000 ∧ l.length * k.toNat ≤ 10000000
def rMulS : R2 := fun x y H Q => ∃ (l : List Nat) (k : Int), x = .str (S l) ∧ y = .int k ∧ CRep l k ∧ Q (.str (S (List.replicate k.toNat l).flatten)) H
def rMulSR : R2 := fun x y H Q => ∃ (l : List Nat) (k : Int), x = .int k ∧ y = .str (S l) ∧ CRep l k ∧ Q (.str (S (List.replicate k.toNat l).flatten)) H
section
variable {X : Cx}
theorem op_mulS : OpR X (binaryOp .Mult) rMulS := by
  intro pins s σ H x y v u Q I rx ry h
  obtain ⟨l, k, rfl, rfl, ⟨h0, h1, h2⟩, q⟩ := h
  obtain ⟨t, rfl⟩ := rx
  obtain ⟨t2, rfl⟩ := ry
  refine SB.mul (mulOk_of h0 h1 h2) fun t' kk => ?_
  rw [mul_S l h0]
  exact ⟨.str _, H, I.tok kk, ⟨t', rfl⟩, q⟩
theorem op_mulSR : OpR X (binaryOp .Mult) rMulSR := by
  intro pins s σ H x y v u Q I rx ry h
  obtain ⟨l, n, rfl, rfl, ⟨h0, h1, h2⟩, q⟩ := h
  obtain ⟨t, rfl⟩ := rx
  obtain ⟨t2, rfl⟩ := ry
  have hok := mulOk_of (l := l) h0 h1 h2
  refine lm_binaryOp_repeat_right (T := "str") (U := "int") (by decide) (fun s' => typeIs_int s' n t) (typeIs_str s (S l) t2) PySem.F.fills_int_mul noFill_str_mul PySem.F.slot_int_mul lm_noRepeat_int repeat_str PySem.F.slot_int_index.lookup
    (call_gives PySem.F.slot_int_mul (typeIs_int s n t) PySem.F.entry_int_mul (PySem.F.args_int_mul_2 _ _) (AutoIntG3.int___mul___int_str_0 n t (S l) t2)
      ⟨rfl, typeIs_str s (S l) t2, call_gives PySem.F.slot_str_mul (typeIs_str s (S l) t2) PySem.F.entry_str_mul (PySem.F.args_str_mul_2 _ _) (gives_str_mul (S l) n t2 t hok.1 hok.2.1 hok.2.2) ?_⟩)
  have h' : ∀ t' kk, (EP X pins σ Q) (.str (Txt.mul (S l) n) t') { s with toks := kk } := fun t' kk => by
    rw [mul_S l h0]
    exact ⟨.str _, H, I.tok kk, ⟨t', rfl⟩, q⟩
  unfold Txt.mul at h'
  by_cases h1 : n < 1
  · rw [if_pos h1]; have h2 := h' s.toks (s.toks + 1); rw [if_pos h1] at h2; exact ⟨by decide, h2⟩
  · rw [if_neg h1]; refine post_val_or_made (fun hc => fits_reps (hok.2.2 h1 (by simpa using hc))) fun t' k => ?_
    have h2 := h' t' k; rw [if_neg h1] at h2; exact h2
end
/-! ### the order of lists of texts -/
theorem ltN_iff : ∀ x y : List Nat, ltN x y = decide (x < y)
  | [], [] => by simp [ltN]
  | [], _ :: _ => by simp [ltN]
  | _ :: _, [] => by simp [ltN]
  | x :: r, y :: s => by
    rw [ltN, ltN_iff r s]
    by_cases h1 : x < y
    · rw [if_pos h1]
      simp [List.cons_lt_cons_iff, h1]
    · rw [if_neg h1]
      by_cases h2 : y < x
      · rw [if_pos h2]
        have : ¬ (x < y ∨ x = y ∧ r < s) := by
          rintro (h | ⟨h, _⟩)
          · exact h1 h
          · omega
        simp [List.cons_lt_cons_iff, this]
      · rw [if_neg h2]
        have : x = y := by omega
        subst this
        simp [List.cons_lt_cons_iff]
/-- by places -/
theorem first_LL : ∀ (xs ys : List (List Nat)) (k : Nat) (e r : Nat → Bool), (∀ j, e (k + j) = decide (xs[j]? = ys[j]?)) → (∀ j x y, xs[j]? = some x → ys[j]? = some y → r (k + j) = ltN y x) →
    SeqAt.firstLt e r (decide (xs.length > ys.length)) (List.range' k (min xs.length ys.length)) = ltLL ys xs
  | [], [], k, e, r, _, _ => rfl
  | [], y :: s, k, e, r, _, _ => by simp [SeqAt.firstLt, ltLL]
  | x :: t, [], k, e, r, _, _ => by simp [SeqAt.firstLt, ltLL]
  | x :: t, y :: s, k, e, r, he, hr => by
    have hm : min (x :: t).length (y :: s).length = min t.length s.length + 1 := by simp
    rw [hm, List.range'_succ]
    have h0 := he 0
    have ih := first_LL t s (k + 1) e r (fun j => by have := he (j + 1); simpa [Nat.add_assoc, Nat.add_comm 1 j] using this) (fun j a b h1 h2 => by
      have := hr (j + 1) a b (by simpa using h1) (by simpa using h2)
      simpa [Nat.add_assoc, Nat.add_comm 1 j] using this)
    by_cases hxy : x = y
    · subst hxy
      rw [SeqAt.firstLt_yes (by simpa using h0), ltLL, if_pos rfl]
      simpa using ih
    · rw [SeqAt.firstLt_no (by simpa [hxy] using h0), ltLL, if_neg (fun z => hxy z.symm)]
      simpa using hr 0 x y rfl rfl
theorem ltLL_anti : ∀ (xs ys : List (List Nat)) (k : Nat) (e r : Nat → Bool), (∀ j, e (k + j) = decide (xs[j]? = ys[j]?)) → (∀ j x y, xs[j]? = some x → ys[j]? = some y → r (k + j) = !ltN y x) →
    SeqAt.firstLt e r (decide (xs.length ≤ ys.length)) (List.range' k (min xs.length ys.length)) = !ltLL ys xs := fun xs ys k e r he hr => by
  have h := first_LL xs ys k e (fun j => !r j) he (fun j x y h1 h2 => by rw [hr j x y h1 h2, Bool.not_not])
  rw [← h, ← SeqAt.firstLt_not]
  have e1 : (!decide (xs.length > ys.length)) = decide (xs.length ≤ ys.length) := by
    by_cases q : xs.length ≤ ys.length
    · simp [q]
    · simp [q]; omega
  rw [e1]
  congr 1
  funext j
  rw [Bool.not_not]
def rGtL (K : PySem.W.Frag) : R2 := fun x y H Q => ∃ (a b : Addr) (xs ys : List (List Nat)), x = .ref a ∧ y = .ref b ∧ SqL K H a ((xs.map S).map V.str) ∧ SqL K H b ((ys.map S).map V.str) ∧ Q (.bl (ltLL ys xs)) H
def rLeL (K : PySem.W.Frag) : R2 := fun x y H Q => ∃ (a b : Addr) (xs ys : List (List Nat)), x = .ref a ∧ y = .ref b ∧ SqL K H a ((xs.map S).map V.str) ∧ SqL K H b ((ys.map S).map V.str) ∧ Q (.bl (!ltLL ys xs)) H
section
variable {X : Cx}
theorem strs_get {xs : List (List Nat)} {its : List Value} (r : Vals ((xs.map S).map V.str) its) : its.toArray.size = xs.length ∧ ∀ j (h : j < its.toArray.size), ∃ t, its.toArray[j] = .str (S (xs.getD j [])) t := by
  have hl := r.length
  rw [List.length_map, List.length_map] at hl
  refine ⟨by rw [List.size_toArray]; exact hl.symm, fun j h => ?_⟩
  have hj : j < xs.length := by rw [List.size_toArray] at h; omega
  obtain ⟨u, hu, t, e⟩ := r.get (i := j) (x := .str (S xs[j])) (by simp [hj])
  refine ⟨t, ?_⟩
  have : its.toArray[j] = u := by
    have := (List.getElem?_eq_some_iff.mp hu).2
    rw [← this]
    simp
  rw [this, e, List.getD_eq_getElem?_getD, List.getElem?_eq_getElem hj]
  rfl
theorem S_eq_iff (l m : List Nat) : (S l == S m) = decide (l = m) := by
  by_cases h : l = m
  · subst h; simp
  · have h2 : S l ≠ S m := fun e => h (by injection e with e; injection e)
    rw [beq_eq_false_iff_ne.mpr h2, decide_eq_false h]
theorem at_same (xs ys : List (List Nat)) (j : Nat) (h1 : j < xs.length) (h2 : j < ys.length) : decide (xs.getD j [] = ys.getD j []) = decide (xs[j]? = ys[j]?) := by
  rw [List.getD_eq_getElem?_getD, List.getD_eq_getElem?_getD, List.getElem?_eq_getElem h1, List.getElem?_eq_getElem h2]
  simp
theorem op_gtL (hu : X.A.units < cLine) : OpR X (compareOp .Gt) (rGtL X.K) := by
  intro pins s σ H x y v u Q I rx ry h
  obtain ⟨a, b, xs, ys, rfl, rfl, ha, hb, q⟩ := h
  cases rx
  cases ry
  obtain ⟨its, r1, p1, _⟩ := I.list ha
  obtain ⟨its2, r2, p2, _⟩ := I.list hb
  obtain ⟨e1, at1⟩ := strs_get r1
  obtain ⟨e2, at2⟩ := strs_get r2
  have R := SeqAt.RcOp.lists_gt (A := X.A) (s := s) (e := fun j => decide (xs[j]? = ys[j]?)) (r := fun j => ltN (ys.getD j []) (xs.getD j [])) p1.isList p2.isList hu (fun j h1 h2 => by
    obtain ⟨t, et⟩ := at1 j h1
    obtain ⟨t', et'⟩ := at2 j h2
    rw [et, et', ← at_same xs ys j (by omega) (by omega), ← S_eq_iff]
    exact SeqAt.EqAt.str_str _ _ _ _) (fun j h1 h2 _ => by
    obtain ⟨t, et⟩ := at1 j h1
    obtain ⟨t', et'⟩ := at2 j h2
    rw [et, et', ltN_iff]
    exact fun prog w E Q h => PySem.P.gt_str h)
  rw [e1, e2, List.range_eq_range', first_LL xs ys 0 _ _ (fun j => by simp) (fun j x y h1 h2 => by
    simp only [Nat.zero_add, List.getD_eq_getElem?_getD, h1, h2]
    rfl)] at R
  have z : wpAny (model X.prog X.w) X.A (compareOp .Gt (.ref a) (.ref b)) (EP X pins σ Q) X.xe s := R X.prog X.w X.xe (EP X pins σ Q) ⟨.bl _, H, I, rfl, q⟩
  exact z
theorem op_leL (hu : X.A.units < cLine) : OpR X (compareOp .LtE) (rLeL X.K) := by
  intro pins s σ H x y v u Q I rx ry h
  obtain ⟨a, b, xs, ys, rfl, rfl, ha, hb, q⟩ := h
  cases rx
  cases ry
  obtain ⟨its, r1, p1, _⟩ := I.list ha
  obtain ⟨its2, r2, p2, _⟩ := I.list hb
  obtain ⟨e1, at1⟩ := strs_get r1
  obtain ⟨e2, at2⟩ := strs_get r2
  have R := SeqAt.RcOp.lists_le (A := X.A) (s := s) (e := fun j => decide (xs[j]? = ys[j]?)) (r := fun j => !ltN (ys.getD j []) (xs.getD j [])) p1.isList p2.isList hu (fun j h1 h2 => by
    obtain ⟨t, et⟩ := at1 j h1
    obtain ⟨t', et'⟩ := at2 j h2
    rw [et, et', ← at_same xs ys j (by omega) (by omega), ← S_eq_iff]
    exact SeqAt.EqAt.str_str _ _ _ _) (fun j h1 h2 _ => by
    obtain ⟨t, et⟩ := at1 j h1
    obtain ⟨t', et'⟩ := at2 j h2
    rw [et, et', ltN_iff]
    exact fun prog w E Q h => PySem.P.le_str h)
  rw [e1, e2, List.range_eq_range', ltLL_anti xs ys 0 _ _ (fun j => by simp) (fun j x y h1 h2 => by
    simp only [Nat.zero_add, List.getD_eq_getElem?_getD, h1, h2]
    rfl)] at R
  have z : wpAny (model X.prog X.w) X.A (compareOp .LtE (.ref a) (.ref b)) (EP X pins σ Q) X.xe s := R X.prog X.w X.xe (EP X pins σ Q) ⟨.bl _, H, I, rfl, q⟩
  exact z
end
end Hue
/-! Readings, operators, built-ins: what they are worth as trees. -/
namespace Hue
open PySem PySem.Spec PyProof.Rows L2

/-! ### trees as data that is compared -/
mutual
def toPy : D → PyData
  | .non => .none
  | .bl b => .bool b
  | .int i => .int i
  | .str l => .str (S l)
  | .lst xs => .list (toPys xs)
  | .scr xs => .list (toPys xs)
  | .tup xs => .tuple (toPys xs)
  | .dct _ _ => .none
  | .obj _ _ => .none
def toPys : List D → List PyData
  | [] => []
  | x :: xs => toPy x :: toPys xs
end
theorem S_inj {l m : List Nat} (h : S l = S m) : l = m := by
  injection h with h
  injection h
theorem S_beq (l m : List Nat) : (S l == S m) = (l == m) := by
  by_cases h : l = m
  · subst h; simp
  · have h2 : S l ≠ S m := fun e => h (S_inj e)
    rw [beq_eq_false_iff_ne.mpr h, beq_eq_false_iff_ne.mpr h2]
mutual
theorem toPy_lay : ∀ d : D, d.fine = true → (toPy d).canLay0 = true
  | .non, _ => rfl
  | .bl _, _ => rfl
  | .int _, _ => rfl
  | .str l, h => by
    simp only [toPy, PyData.canLay0, PyData.strOk]
    simp only [D.fine] at h
    simpa using h
  | .lst xs, h => by
    simp only [toPy, PyData.canLay0]
    simp only [D.fine] at h
    exact toPys_lay xs h
  | .scr xs, h => by
    simp only [toPy, PyData.canLay0]
    simp only [D.fine] at h
    exact toPys_lay xs h
  | .tup xs, h => by
    simp only [toPy, PyData.canLay0]
    simp only [D.fine] at h
    exact toPys_lay xs h
  | .dct _ _, h => by simp [D.fine] at h
  | .obj _ _, h => by simp [D.fine] at h
theorem toPys_lay : ∀ ds : List D, D.fines ds = true → PyData.canLayAll0 (toPys ds) = true
  | [], _ => rfl
  | d :: ds, h => by
    simp only [D.fines, Bool.and_eq_true] at h
    simp only [toPys, PyData.canLayAll0, Bool.and_eq_true]
    exact ⟨toPy_lay d h.1, toPys_lay ds h.2⟩
end
mutual
theorem toPy_deep : ∀ d : D, (toPy d).depth ≤ d.deep
  | .non => Nat.le_refl _
  | .bl _ => Nat.le_refl _
  | .int _ => Nat.le_refl _
  | .str _ => Nat.le_refl _
  | .lst xs => by
    simp only [toPy, PyData.depth, D.deep]
    exact Nat.succ_le_succ (toPys_deep xs)
  | .scr xs => by
    simp only [toPy, PyData.depth, D.deep]
    exact Nat.succ_le_succ (toPys_deep xs)
  | .tup xs => by
    simp only [toPy, PyData.depth, D.deep]
    exact Nat.succ_le_succ (toPys_deep xs)
  | .dct _ _ => Nat.zero_le _
  | .obj _ _ => Nat.zero_le _
theorem toPys_deep : ∀ ds : List D, PyData.depthAll (toPys ds) ≤ D.deeps ds
  | [] => Nat.le_refl _
  | d :: ds => by
    simp only [toPys, PyData.depthAll, D.deeps]
    have h1 := toPy_deep d
    have h2 := toPys_deep ds
    omega
end
mutual
theorem toPy_eqv : ∀ d e : D, d.fine = true → e.fine = true → PyData.eqv (toPy d) (toPy e) = D.eqv d e := fun d e hd he => by
  cases d <;> cases e <;> first
    | rfl
    | (simp only [toPy, PyData.eqv, D.eqv]; done)
    | (simp only [toPy, PyData.eqv, D.eqv, S_beq]; done)
    | (simp [D.fine] at hd; done)
    | (simp [D.fine] at he; done)
    | (simp only [toPy, PyData.eqv, D.eqv]; simp only [D.fine] at hd he; exact toPys_eqv _ _ hd he)
theorem toPys_eqv : ∀ ds es : List D, D.fines ds = true → D.fines es = true → PyData.eqvAll (toPys ds) (toPys es) = D.eqvs ds es
  | [], [], _, _ => rfl
  | [], _ :: _, _, _ => rfl
  | _ :: _, [], _, _ => rfl
  | d :: ds, e :: es, hd, he => by
    simp only [D.fines, Bool.and_eq_true] at hd he
    simp only [toPys, PyData.eqvAll, D.eqvs]
    rw [toPy_eqv d e hd.1 he.1, toPys_eqv ds es hd.2 he.2]
end
mutual
theorem Rep.dp {Z : Wo} {F : Hp} : ∀ {v : V} {d : D}, Rep Z F v d → d.fine = true → Dp Z.K F v (toPy d)
  | _, _, .non, _ => .non
  | _, _, .bl b, _ => .bl b
  | _, _, .int i, _ => .int i
  | _, _, .str l _, _ => .str (S l)
  | _, _, .lst h1 h2 _, h => .lst (.inl (.inl h1)) (RepL.dp h2 (by simpa only [D.fine] using h))
  | _, _, .scr h1 h2 _, h => .lst h1 (RepL.dp h2 (by simpa only [D.fine] using h))
  | _, _, .tup h1 h2 _, h => .tup h1 (RepL.dp h2 (by simpa only [D.fine] using h))
  | _, _, .dct _ _ _, h => by simp [D.fine] at h
  | _, _, .obj _ _ _ _, h => by simp [D.fine] at h
theorem RepL.dp {Z : Wo} {F : Hp} : ∀ {vs : List V} {ds : List D}, RepL Z F vs ds → D.fines ds = true → DpAll Z.K F vs (toPys ds)
  | _, _, .nil, _ => .nil
  | _, _, .cons h1 h2, h => by
    simp only [D.fines, Bool.and_eq_true] at h
    exact .cons (Rep.dp h1 h.1) (RepL.dp h2 h.2)
end
theorem OwnRep.whole {Z : Wo} {F H : Hp} {v : V} {d : D} (h : OwnRep Z F H v d) (s : Same F H) : Rep Z H v d := by
  unfold OwnRep at h
  by_cases m : d.mut = true
  · rw [if_pos m] at h
    obtain ⟨p, o, rfl, hf, hh, r⟩ := h
    cases d with
    | lst ds => obtain ⟨xs, e, r, z⟩ := r; subst e; exact .lst hh (r.mono s) z
    | dct ks ds => obtain ⟨kvs, e, k, r⟩ := r; subst e; exact .dct (.inl hh) k (r.mono s)
    | obj c ds => obtain ⟨dx, fs, e, q, n, r⟩ := r; subst e; exact .obj hh (s _ _ q) n (r.mono s)
    | _ => exact r.elim
  · rw [if_neg m] at h
    exact h.mono s
theorem RepM.whole {Z : Wo} {m : Md} {F Hs H : Hp} {v : V} {d : D} (h : RepM Z m F Hs H v d) (s : Same F H) : Rep Z H v d := by
  cases m with
  | keep => exact Rep.mono s h
  | fresh => exact h.1.whole s
  | read =>
    rcases h with h | h
    · exact h.mono s
    · exact h.whole s
/-- a list that is read: its place and its parts -/
theorem RepM.rdL {Z : Wo} {F Hs H : Hp} {v : V} {ds : List D} (h : RepM Z .read F Hs H v (.lst ds)) (s : Same F H) : ∃ p xs, v = .ref p ∧ H p = some (.lst xs) ∧ RepL Z F xs ds ∧ ds.length ≤ sizeLine := by
  rcases h with h | h
  · cases h with
    | lst h1 h2 h3 => exact ⟨_, _, rfl, s _ _ h1, h2, h3⟩
  · unfold OwnRep at h
    rw [if_pos (show (D.lst ds).mut = true from rfl)] at h
    obtain ⟨p, o, rfl, hf, hh, xs, e, r, z⟩ := h
    subst e
    exact ⟨p, xs, rfl, hh, r, z⟩
/-- what isn't of one's own kind stands still -/
theorem RepM.rdV {Z : Wo} {F Hs H : Hp} {v : V} {d : D} (h : RepM Z .read F Hs H v d) (m : d.mut = false) : Rep Z F v d := by
  rcases h with h | h
  · exact h
  · unfold OwnRep at h
    rw [if_neg (by rw [m]; exact Bool.false_ne_true)] at h
    exact h

/-! ### readings -/
def pst (Z : Wo) (W : WX) (F H : Hp) (σ : L2.St) {α : Type} (r : R α) (G : α → Hp → Hp → Prop) : Prop := match r with
  | .ok a => ∀ F' H', Ext F H F' H' → G a F' H'
  | .exc c => ∀ F' H', Ext F H F' H' → W (.ref (Z.exA c)) none σ H'
  | .bad => False
section
variable {Z : Wo} {W : WX} {F H F1 H1 : Hp} {σ : L2.St} {α β : Type}
theorem pst_ext {r : R α} {G : α → Hp → Hp → Prop} (h : pst Z W F H σ r G) (x : Ext F H F1 H1) : pst Z W F1 H1 σ r G := by
  cases r with
  | ok a => exact fun F' H' y => h F' H' (x.trans y)
  | exc c => exact fun F' H' y => h F' H' (x.trans y)
  | bad => exact h
theorem pst_bind {r : R α} {k : α → R β} {G : β → Hp → Hp → Prop} {G' : α → Hp → Hp → Prop} (h : pst Z W F H σ (r.bind k) G)
    (f : ∀ a F1 H1, Ext F H F1 H1 → pst Z W F1 H1 σ (k a) G → G' a F1 H1) : pst Z W F H σ r G' := by
  cases r with
  | ok a => exact fun F' H' y => f a F' H' y (pst_ext (r := k a) h y)
  | exc c => exact h
  | bad => exact h
theorem pst_ok {a : α} {G : α → Hp → Hp → Prop} (s : Same F H) (h : pst Z W F H σ (.ok a) G) : G a F H := h F H (Ext.refl s)
theorem pst_imp {r : R α} {G G' : α → Hp → Hp → Prop} (h : pst Z W F H σ r G) (f : ∀ a F1 H1, Ext F H F1 H1 → G a F1 H1 → G' a F1 H1) : pst Z W F H σ r G' := by
  cases r with
  | ok a => exact fun F' H' y => f a F' H' y (h F' H' y)
  | exc c => exact h
  | bad => exact h
end
def GV (Z : Wo) (m : Md) (Hs : Hp) (Q : VK) : D → Hp → Hp → Prop := fun d F' H' => ∀ v, RepM Z m F' Hs H' v d → Q v H'
def RE (Z : Wo) (W : WX) (Γ : Gm) (m : Md) (f : Env → R D) : TE := fun σ H Q => ∃ F0 H0 F e, Inv0 Z F0 H0 Γ F H σ e ∧ pst Z W F H σ (f e) (GV Z m H Q)
def RT (Z : Wo) (W : WX) (Γ : Gm) (f : Env → R Bool) : TT := fun σ H Q => ∃ F0 H0 F e, Inv0 Z F0 H0 Γ F H σ e ∧ pst Z W F H σ (f e) (fun b _ H' => Q b H')
def RA (Z : Wo) (W : WX) (Γ : Gm) (f : Env → R (List D)) : TA := fun σ H Q => ∃ F0 H0 F e, Inv0 Z F0 H0 Γ F H σ e ∧ pst Z W F H σ (f e) (fun ds F' H' => ∀ vs, RepL Z F' vs ds → Q vs H')
def RO (Z : Wo) (W : WX) (Γ : Gm) (f : Env → R (Option Int)) : TO := fun σ H Q => ∃ F0 H0 F e, Inv0 Z F0 H0 Γ F H σ e ∧ pst Z W F H σ (f e) (fun o _ H' => Q o H')

theorem PEi {X : Cx} {e : Expr} {t t' : TE} (h : PE X e t) (hi : ∀ σ H Q, t' σ H Q → t σ H Q) : PE X e t' := ⟨fun pins s σ H Q I q => h.run pins s σ H Q I (hi σ H Q q)⟩
theorem PTi {X : Cx} {e : Expr} {t t' : TT} (h : PT X e t) (hi : ∀ σ H Q, t' σ H Q → t σ H Q) : PT X e t' := ⟨fun pins s σ H Q I q => h.run pins s σ H Q I (hi σ H Q q)⟩
theorem PWi {X : Cx} {e : Expr} {t t' : TT} (h : PW X e t) (hi : ∀ σ H Q, t' σ H Q → t σ H Q) : PW X e t' := ⟨fun wh pins s σ H Q I q => h.run wh pins s σ H Q I (hi σ H Q q)⟩
theorem PAi {X : Cx} {e : List Expr} {t t' : TA} (h : PA X e t) (hi : ∀ σ H Q, t' σ H Q → t σ H Q) : PA X e t' := ⟨fun p pins s σ H Q I q => h.run p pins s σ H Q I (hi σ H Q q)⟩
theorem POi {X : Cx} {e : Option Expr} {t t' : TO} (h : PO X e t) (hi : ∀ σ H Q, t' σ H Q → t σ H Q) : PO X e t' := ⟨fun pins s σ H Q I q => h.run pins s σ H Q I (hi σ H Q q)⟩
theorem PSi {X : Cx} {e : Stmt} {t t' : TS} (h : PS X e t) (hi : ∀ D σ H, t' D σ H → t D σ H) : PS X e t' := ⟨fun pins s σ H D I q => h.run pins s σ H D I (hi D σ H q)⟩
theorem PSsi {X : Cx} {e : List Stmt} {t t' : TS} (h : PSs X e t) (hi : ∀ D σ H, t' D σ H → t D σ H) : PSs X e t' := ⟨fun pins s σ H D I q => h.run pins s σ H D I (hi D σ H q)⟩
theorem PIi {X : Cx} {tg e : Expr} {t t' : TI} (h : PI X tg e t) (hi : ∀ σ H Q, t' σ H Q → t σ H Q) : PI X tg e t' := ⟨fun pins s σ H Q I q => h.run pins s σ H Q I (hi σ H Q q)⟩

section
variable {Z : Wo} {W : WX} {Γ : Gm} {f : Env → R D} {X : Cx} {e : Expr}
theorem re_keep {m : Md} (hm : m = .keep ∨ m = .fresh) (h : PE X e (RE Z W Γ m f)) : PE X e (RE Z W Γ .keep f) := by
  rcases hm with rfl | rfl
  · exact h
  refine PEi h fun σ H Q q => ?_
  obtain ⟨F0, H0, F, e, I, q⟩ := q
  refine ⟨F0, H0, F, e, I, ?_⟩
  cases r : f e with
  | ok d =>
    rw [r] at q
    intro F' H' x v hv
    obtain ⟨F'', x2, _, hr⟩ := freeze x hv
    exact q F'' H' x2 v hr
  | exc c => rw [r] at q; exact q
  | bad => rw [r] at q; exact q
theorem re_read (h : PE X e (RE Z W Γ .keep f)) : PE X e (RE Z W Γ .read f) := by
  refine PEi h fun σ H Q q => ?_
  obtain ⟨F0, H0, F, e, I, q⟩ := q
  exact ⟨F0, H0, F, e, I, pst_imp q fun a F1 H1 _ k v hv => k v (.inl hv)⟩
theorem re_fresh (h : PE X e (RE Z W Γ .keep f)) (hf : ∀ e d, f e = .ok d → d.mut = false) : PE X e (RE Z W Γ .fresh f) := by
  refine PEi h fun σ H Q q => ?_
  obtain ⟨F0, H0, F, e, I, q⟩ := q
  refine ⟨F0, H0, F, e, I, ?_⟩
  cases r : f e with
  | ok d =>
    rw [r] at q
    intro F' H' x v hv
    have m := hf e d r
    refine q F' H' x v ⟨?_, fun p z => by rw [m] at z; cases z⟩
    unfold OwnRep
    rw [if_neg (by rw [m]; exact Bool.false_ne_true)]
    exact hv
  | exc c => rw [r] at q; exact q
  | bad => rw [r] at q; exact q
end

/-! ### two-place operations -/
section
variable {X : Cx}
def opOf : BO → Operator
  | .add => .Add | .sub => .Sub | .mul => .Mult | .fdiv => .FloorDiv | .mod => .Mod | .pow => .Pow
theorem bop_opOf {op : Operator} {o : BO} (h : bop op = some o) : op = opOf o := by
  cases op <;> first | (cases h; rfl) | cases h
def rBin : BO → R2
  | .add => fun x y H Q => (rI0 fun i j => .int (i + j)) x y H Q ∨ ((∃ i j, x = .str i ∧ y = .str j ∧ i.length + j.length ≤ sizeLine ∧ Q (.str (i ++ j)) H) ∨ rCat x y H Q)
  | .sub => rI0 fun i j => .int (i - j)
  | .mul => fun x y H Q => (rI CMul fun i j => .int (i * j)) x y H Q ∨ (rRep x y H Q ∨ (rMulS x y H Q ∨ rMulSR x y H Q))
  | .fdiv => rI CDiv fun i j => .int (i / j)
  | .mod => rI (fun _ j => 0 < j) fun i j => .int (i % j)
  | .pow => rI CPow fun i j => .int (i ^ j.toNat)
theorem op_bin (o : BO) : OpR X (binaryOp (opOf o)) (rBin o) := by
  cases o with
  | add => exact op_add.or (op_add_str.or op_cat)
  | sub => exact op_sub
  | mul => exact op_mul.or (op_rep.or (op_mulS.or op_mulSR))
  | fdiv => exact op_fdiv
  | mod => exact op_mod
  | pow => exact op_pow
end
end Hue
namespace Hue
open PySem PySem.Spec PyProof.Rows L2

section
variable {Z : Wo} {W : WX} {F H Hs : Hp} {σ : L2.St} {m : Md} {Q : VK}
theorem GV_lst {p : Addr} {xs : List V} {ds : List D} (hm : m = .keep ∨ m = .fresh) (s : Same F H) (hs : Same Hs H) (hp : H p = none) (hr : RepL Z F xs ds) (hl : ds.length ≤ sizeLine)
    (h : pst Z W F H σ (.ok (.lst ds)) (GV Z m Hs Q)) : Q (.ref p) (upd H p (.lst xs)) := by
  rcases hm with rfl | rfl
  · exact h _ _ (Ext.still s hp) (.ref p) (Rep.lst upd_same (hr.mono (same_updN (s.free hp))) hl)
  · refine h _ _ (Ext.own s hp) (.ref p) ⟨?_, fun q _ ev => by cases ev; exact hs.free hp⟩
    unfold OwnRep
    rw [if_pos (show (D.lst ds).mut = true from rfl)]
    exact ⟨p, _, rfl, s.free hp, upd_same, xs, rfl, hr, hl⟩
theorem GV_val {v : V} {d : D} (hm : m = .keep ∨ m = .fresh) (s : Same F H) (hd : d.mut = false) (r : Rep Z F v d) (h : pst Z W F H σ (.ok d) (GV Z m Hs Q)) : Q v H := by
  rcases hm with rfl | rfl
  · exact h F H (Ext.refl s) v r
  · refine h F H (Ext.refl s) v ⟨?_, fun p z => by rw [hd] at z; cases z⟩
    unfold OwnRep
    rw [if_neg (by rw [hd]; exact Bool.false_ne_true)]
    exact r
theorem GV_tup {p : Addr} {xs : List V} {ds : List D} (hm : m = .keep ∨ m = .fresh) (s : Same F H) (hp : H p = none) (hr : RepL Z F xs ds) (hl : ds.length ≤ sizeLine)
    (h : pst Z W F H σ (.ok (.tup ds)) (GV Z m Hs Q)) : Q (.ref p) (upd H p (.tup xs)) := by
  have x : Ext F H (upd F p (.tup xs)) (upd H p (.tup xs)) := Ext.still s hp
  exact GV_val hm x.sub rfl (Rep.tup (.inl (.inl upd_same)) (hr.mono x.ff) hl) (pst_ext h x)
theorem GV_bl {b : Bool} (hm : m = .keep ∨ m = .fresh) (s : Same F H) (h : pst Z W F H σ (.ok (.bl b)) (GV Z m Hs Q)) : Q (.bl b) H := GV_val hm s rfl (.bl b) h
theorem GV_int {b : Int} (hm : m = .keep ∨ m = .fresh) (s : Same F H) (h : pst Z W F H σ (.ok (.int b)) (GV Z m Hs Q)) : Q (.int b) H := GV_val hm s rfl (.int b) h
theorem GV_str {l : List Nat} (hm : m = .keep ∨ m = .fresh) (s : Same F H) (hl : l.length ≤ sizeLine) (h : pst Z W F H σ (.ok (.str l)) (GV Z m Hs Q)) : Q (.str (S l)) H := GV_val hm s rfl (.str l hl) h
theorem lim_le {n : Nat} (h : n ≤ lim) : n ≤ sizeLine := Nat.le_trans h (by decide)
theorem S_len (l : List Nat) : (S l).length = l.length := by simp [Str.length]
theorem S_add (l r : List Nat) : S l ++ S r = S (l ++ r) := by
  show Str.append (S l) (S r) = S (l ++ r)
  unfold Str.append
  simp

theorem bin_ok {o : BO} {x y : D} {v1 v2 : V} (hm : m = .keep ∨ m = .fresh) (r1 : Rep Z F v1 x) (r2 : Rep Z F v2 y) (s : Same F H) (hs : Same Hs H) (h : pst Z W F H σ (binF o x y) (GV Z m Hs Q)) : rBin o v1 v2 H Q := by
  cases r1 with
  | int i =>
    cases r2 with
    | int j =>
      cases o with
      | add => exact .inl ⟨i, j, rfl, rfl, GV_int hm s h⟩
      | sub => exact ⟨i, j, rfl, rfl, GV_int hm s h⟩
      | mul =>
        simp only [binF] at h
        by_cases q : (-(2 ^ 64) < i ∧ i < 2 ^ 64) ∨ (-(2 ^ 64) < j ∧ j < 2 ^ 64)
        · rw [if_pos q] at h
          exact .inl ⟨i, j, rfl, rfl, q, GV_int hm s h⟩
        · rw [if_neg q] at h
          exact h.elim
      | fdiv =>
        simp only [binF] at h
        by_cases q : 0 < j ∧ j < 1073741824
        · rw [if_pos q] at h
          exact ⟨i, j, rfl, rfl, q, GV_int hm s h⟩
        · rw [if_neg q] at h
          exact h.elim
      | mod =>
        simp only [binF] at h
        by_cases q : 0 < j
        · rw [if_pos q] at h
          exact ⟨i, j, rfl, rfl, q, GV_int hm s h⟩
        · rw [if_neg q] at h
          exact h.elim
      | pow =>
        simp only [binF] at h
        by_cases q : 0 ≤ j ∧ j ≤ 1000 ∧ i.natAbs < 2 ^ 64
        · rw [if_pos q] at h
          exact ⟨i, j, rfl, rfl, ⟨q.1, by omega, q.2.2⟩, GV_int hm s h⟩
        · rw [if_neg q] at h
          exact h.elim
    | str l hl =>
      cases o with
      | mul =>
        simp only [binF] at h
        by_cases q : 0 ≤ i ∧ i ≤ 100000 ∧ l.length * i.toNat ≤ 10000000
        · rw [if_pos q] at h
          refine .inr (.inr (.inr ⟨l, i, rfl, rfl, q, GV_str hm s ?_ h⟩))
          rw [List.length_flatten, List.map_replicate, List.sum_replicate_nat, Nat.mul_comm]
          exact lim_le q.2.2
        · rw [if_neg q] at h
          exact h.elim
      | _ => exact False.elim h
    | _ => cases o <;> exact False.elim h
  | str l hl =>
    cases r2 with
    | int k =>
      cases o with
      | mul =>
        simp only [binF] at h
        by_cases q : 0 ≤ k ∧ k ≤ 100000 ∧ l.length * k.toNat ≤ 10000000
        · rw [if_pos q] at h
          refine .inr (.inr (.inl ⟨l, k, rfl, rfl, q, GV_str hm s ?_ h⟩))
          rw [List.length_flatten, List.map_replicate, List.sum_replicate_nat, Nat.mul_comm]
          exact lim_le q.2.2
        · rw [if_neg q] at h
          exact h.elim
      | _ => exact False.elim h
    | str k hk =>
      cases o with
      | add =>
        simp only [binF] at h
        by_cases q : l.length + k.length ≤ lim
        · rw [if_pos q] at h
          refine .inr (.inl ⟨S l, S k, rfl, rfl, by rw [S_len, S_len]; exact lim_le q, ?_⟩)
          rw [S_add]
          exact GV_str hm s (by rw [List.length_append]; exact lim_le q) h
        · rw [if_neg q] at h
          exact h.elim
      | _ => exact False.elim h
    | _ => cases o <;> exact False.elim h
  | lst h1 h2 h3 =>
    cases r2 with
    | lst k1 k2 k3 =>
      cases o with
      | add =>
        rename_i xs ds _ ys es
        simp only [binF] at h
        by_cases q : ds.length + es.length ≤ lim
        · rw [if_pos q] at h
          refine .inr (.inr ⟨_, _, _, _, rfl, rfl, s _ _ h1, s _ _ k1, by rw [h2.length, k2.length]; exact lim_le q, fun p hp => ?_⟩)
          exact GV_lst hm s hs hp (h2.append k2) (by rw [List.length_append]; exact lim_le q) h
        · rw [if_neg q] at h
          exact h.elim
      | _ => exact False.elim h
    | int k =>
      cases o with
      | mul =>
        rename_i xs ds
        simp only [binF] at h
        by_cases q : 0 ≤ k ∧ k ≤ 100000 ∧ ds.length * k.toNat ≤ lim
        · rw [if_pos q] at h
          refine .inr (.inl ⟨_, k, _, rfl, rfl, s _ _ h1, by omega, by omega, by rw [h2.length]; exact lim_le q.2.2, fun p hp => ?_⟩)
          refine GV_lst hm s hs hp h2.flatten ?_ h
          rw [List.length_flatten, List.map_replicate, List.sum_replicate_nat, Nat.mul_comm]
          exact lim_le q.2.2
        · rw [if_neg q] at h
          exact h.elim
      | _ => exact False.elim h
    | _ => cases o <;> exact False.elim h
  | _ => cases o <;> exact False.elim h

/-! ### comparisons -/
def copOf : CO → CmpOp
  | .eq => .Eq | .ne => .NotEq | .lt => .Lt | .le => .LtE | .gt => .Gt | .ge => .GtE | .isin => .In | .notin => .NotIn
theorem cop_copOf {op : CmpOp} {o : CO} (h : cop op = some o) : op = copOf o := by
  cases op <;> first | (cases h; rfl) | cases h
def rCmp (K : PySem.W.Frag) : CO → R2
  | .eq => fun x y H Q => rEq x y H Q ∨ rEqD K x y H Q
  | .ne => fun x y H Q => rNe x y H Q ∨ rNeD K x y H Q
  | .lt => rI0 fun i j => .bl (decide (i < j))
  | .le => fun x y H Q => (rI0 fun i j => .bl (decide (i ≤ j))) x y H Q ∨ rLeL K x y H Q
  | .gt => fun x y H Q => (rI0 fun i j => .bl (decide (j < i))) x y H Q ∨ rGtL K x y H Q
  | .ge => rI0 fun i j => .bl (decide (j ≤ i))
  | .isin => fun x y H Q => (∃ (c : Nat) (z : Str), x = .str ⟨#[c]⟩ ∧ y = .str z ∧ Q (.bl (decide (c ∈ z.cps.toList))) H) ∨ rIn K false x y H Q
  | .notin => fun x y H Q => (∃ (c : Nat) (z : Str), x = .str ⟨#[c]⟩ ∧ y = .str z ∧ Q (.bl (!decide (c ∈ z.cps.toList))) H) ∨ rIn K true x y H Q
theorem op_cmp {X : Cx} (hu : X.A.units + 64 < cLine) (o : CO) : OpR X (compareOp (copOf o)) (rCmp X.K o) := by
  cases o with
  | eq => exact op_eq.or (op_eqD hu)
  | ne => exact op_ne.or (op_neD hu)
  | lt => exact op_lt
  | le => exact op_le.or (op_leL (by omega))
  | gt => exact op_gt.or (op_gtL (by omega))
  | ge => exact op_ge
  | isin => exact op_in_sign.or op_in_seq
  | notin => exact op_notIn_sign.or op_notIn_seq
/-- flat values, as trees and as values -/
theorem Rep.eqV {F1 F2 : Hp} {x y : V} {d e : D} (h1 : Rep Z F1 x d) (h2 : Rep Z F2 y e) (f1 : d.flat = true) (f2 : e.flat = true) : L2.eqV x y = D.eqv d e ∧ flatV x = true ∧ flatV y = true := by
  cases h1 <;> first | (simp [D.flat] at f1; done) | skip
  all_goals (cases h2 <;> first | (simp [D.flat] at f2; done) | skip)
  all_goals (refine ⟨?_, rfl, rfl⟩; first | rfl | (simp only [L2.eqV, D.eqv, S_beq]; done) | (simp only [L2.eqV, D.eqv]; done))
theorem RepL.inV {x : V} {d : D} (hx : Rep Z F x d) (fx : d.flat = true) : ∀ {vs : List V} {ds : List D}, RepL Z F vs ds → ds.all D.flat = true → L2.inV x vs = (ds.any fun y => D.eqv y d) ∧ vs.all flatV = true
  | _, _, .nil, _ => ⟨rfl, rfl⟩
  | _, _, .cons h t, f => by
    rw [List.all_cons, Bool.and_eq_true] at f
    obtain ⟨i1, i2⟩ := RepL.inV hx fx t f.2
    obtain ⟨e1, e2, _⟩ := Rep.eqV h hx f.1 fx
    refine ⟨?_, ?_⟩
    · unfold L2.inV at i1 ⊢
      rw [List.any_cons, List.any_cons, e1, i1]
    · rw [List.all_cons, e2, i2]
      rfl
theorem shaped_of {d : D} (f : d.fine = true) (q : d.deep ≤ 60) : SeqAt.shaped (toPy d) = true := by
  unfold SeqAt.shaped
  rw [toPy_lay d f, Bool.true_and]
  exact decide_eq_true (Nat.le_trans (toPy_deep d) (by omega))
theorem flat_eq {x y : V} {d e : D} (r1 : Rep Z H x d) (r2 : Rep Z H y e) (f1 : d.flat = true) (f2 : e.flat = true) :
    (scal x y = true ∧ decide (x = y) = D.eqv d e) ∨ (d.fine = true ∧ e.fine = true ∧ d.deep = 0 ∧ e.deep = 0) := by
  cases r1 <;> first | (simp [D.flat] at f1; done) | skip
  all_goals (cases r2 <;> first | (simp [D.flat] at f2; done) | skip)
  all_goals first
    | exact .inr ⟨rfl, rfl, rfl, rfl⟩
    | (refine .inl ⟨rfl, ?_⟩; simp [D.eqv]; done)
    | (refine .inl ⟨rfl, ?_⟩; simp only [D.eqv]; rw [dec_str, S_beq]; done)
theorem eq_ok {neg : Bool} {x y : V} {d e : D} (hm : m = .keep ∨ m = .fresh) (r1 : Rep Z H x d) (r2 : Rep Z H y e) (s : Same F H)
    (h : pst Z W F H σ (if eqOk d e then .ok (.bl (if neg then !D.eqv d e else D.eqv d e)) else .bad) (GV Z m Hs Q)) :
    (scal x y = true ∧ Q (.bl (if neg then !decide (x = y) else decide (x = y))) H) ∨ ∃ d' e', Dp Z.K H x d' ∧ Dp Z.K H y e' ∧ SeqAt.shaped d' = true ∧ SeqAt.shaped e' = true ∧ Q (.bl (if neg then !PyData.eqv d' e' else PyData.eqv d' e')) H := by
  by_cases q : eqOk d e = true
  · rw [if_pos q] at h
    have hq := GV_bl hm s h
    have deep : d.fine = true → e.fine = true → d.deep ≤ 60 → e.deep ≤ 60 → ∃ d' e', Dp Z.K H x d' ∧ Dp Z.K H y e' ∧ SeqAt.shaped d' = true ∧ SeqAt.shaped e' = true ∧ Q (.bl (if neg then !PyData.eqv d' e' else PyData.eqv d' e')) H := fun h1 h2 h3 h4 => by
      refine ⟨toPy d, toPy e, r1.dp h1, r2.dp h2, shaped_of h1 h3, shaped_of h2 h4, ?_⟩
      rw [toPy_eqv d e h1 h2]
      exact hq
    unfold eqOk at q
    rw [Bool.or_eq_true] at q
    rcases q with q | q
    · rw [Bool.and_eq_true] at q
      rcases flat_eq r1 r2 q.1 q.2 with ⟨a, b⟩ | ⟨a, b, c, c'⟩
      · refine .inl ⟨a, ?_⟩
        rw [b]
        exact hq
      · exact .inr (deep a b (by omega) (by omega))
    · simp only [Bool.and_eq_true, decide_eq_true_eq] at q
      exact .inr (deep q.1.1.1 q.1.1.2 q.1.2 q.2)
  · rw [if_neg q] at h
    exact h.elim
theorem ints2 (x y : D) : (∃ i j, x = .int i ∧ y = .int j) ∨ ¬ (∃ i j, x = .int i ∧ y = .int j) := Classical.em _
theorem cmp_ok {o : CO} {x y : D} {v1 v2 : V} {H1 : Hp} (hm : m = .keep ∨ m = .fresh) (r1 : RepM Z .read F H1 H v1 x) (r2 : RepM Z .read F H1 H v2 y) (s : Same F H) (h : pst Z W F H σ (cmpF o x y) (GV Z m Hs Q)) : rCmp Z.K o v1 v2 H Q := by
  have w1 := r1.whole s
  have w2 := r2.whole s
  have hInt : ∀ {g : Int → Int → Bool}, (∀ i j, x = .int i → y = .int j → pst Z W F H σ (.ok (.bl (g i j))) (GV Z m Hs Q)) → (∃ i j, x = .int i ∧ y = .int j) → (rI0 fun i j => .bl (g i j)) v1 v2 H Q := fun {g} k z => by
    obtain ⟨i, j, rfl, rfl⟩ := z
    have e1 : v1 = .int i := by cases w1; rfl
    have e2 : v2 = .int j := by cases w2; rfl
    exact ⟨i, j, e1, e2, GV_bl hm s (k i j rfl rfl)⟩
  have inn : ∀ {neg : Bool}, x.flat = true → ∀ xs : List D, y = .tup xs ∨ y = .lst xs → xs.all D.flat = true → pst Z W F H σ (.ok (.bl (if neg then !xs.any (fun z => D.eqv z x) else xs.any fun z => D.eqv z x))) (GV Z m Hs Q) → rIn Z.K neg v1 v2 H Q := fun {neg} fx xs hy fs k => by
    have key : ∃ p vs, v2 = .ref p ∧ (SqL Z.K H p vs ∨ SqT Z.K H p vs) ∧ RepL Z H vs xs := by
      rcases hy with rfl | rfl
      · cases w2 with
        | tup a b _ => exact ⟨_, _, rfl, .inr a, b⟩
      · cases w2 with
        | lst a b _ => exact ⟨_, _, rfl, .inl (.inl (.inl a)), b⟩
    obtain ⟨p, vs, e, sq, rl⟩ := key
    obtain ⟨i1, i2⟩ := RepL.inV w1 fx rl fs
    refine ⟨p, vs, e, sq, ?_, i2, ?_⟩
    · exact (Rep.eqV w1 w1 fx fx).2.1
    · rw [i1]
      exact GV_bl hm s k
  have lsts : ∀ {g : List (List Nat) → List (List Nat) → Bool}, (∃ xs ys, x = .lst xs ∧ y = .lst ys) → (∀ xs ys, x = .lst xs → y = .lst ys → pst Z W F H σ ((R.of (asStrs xs)).bind fun a => (R.of (asStrs ys)).bind fun b => .ok (.bl (g a b))) (GV Z m Hs Q)) →
      ∃ (a b : Addr) (xs ys : List (List Nat)), v1 = .ref a ∧ v2 = .ref b ∧ SqL Z.K H a ((xs.map S).map V.str) ∧ SqL Z.K H b ((ys.map S).map V.str) ∧ Q (.bl (g xs ys)) H := fun {g} z k => by
    obtain ⟨xs, ys, rfl, rfl⟩ := z
    have k := k xs ys rfl rfl
    cases ha : asStrs xs with
    | none => rw [ha] at k; exact False.elim k
    | some as =>
      cases hb : asStrs ys with
      | none => rw [ha, hb] at k; exact False.elim k
      | some bs =>
        rw [ha, hb] at k
        cases w1 with
        | lst a1 a2 _ =>
          cases w2 with
          | lst b1 b2 _ =>
            have e1 := a2.strs ha
            have e2 := b2.strs hb
            subst e1 e2
            exact ⟨_, _, as, bs, rfl, rfl, .inl (.inl a1), .inl (.inl b1), GV_bl hm s k⟩
  cases o with
  | eq =>
    rcases eq_ok (neg := false) hm w1 w2 s h with q | q
    · exact .inl q
    · exact .inr q
  | ne =>
    rcases eq_ok (neg := true) hm w1 w2 s h with q | q
    · exact .inl q
    · exact .inr q
  | lt => exact hInt (g := fun i j => decide (i < j)) (fun i j a b => by subst a b; exact h) (by cases x <;> cases y <;> first | exact ⟨_, _, rfl, rfl⟩ | exact False.elim h)
  | le =>
    rcases ints2 x y with z | z
    · exact .inl (hInt (g := fun i j => decide (i ≤ j)) (fun i j a b => by subst a b; exact h) z)
    · refine .inr (lsts (g := fun a b => !ltLL b a) (by cases x <;> cases y <;> first | exact absurd ⟨_, _, rfl, rfl⟩ z | exact ⟨_, _, rfl, rfl⟩ | exact False.elim h) (fun xs ys e1 e2 => by subst e1 e2; exact h))
  | gt =>
    rcases ints2 x y with z | z
    · exact .inl (hInt (g := fun i j => decide (j < i)) (fun i j a b => by subst a b; exact h) z)
    · refine .inr (lsts (g := fun a b => ltLL b a) (by cases x <;> cases y <;> first | exact absurd ⟨_, _, rfl, rfl⟩ z | exact ⟨_, _, rfl, rfl⟩ | exact False.elim h) (fun xs ys e1 e2 => by subst e1 e2; exact h))
  | ge => exact hInt (g := fun i j => decide (j ≤ i)) (fun i j a b => by subst a b; exact h) (by cases x <;> cases y <;> first | exact ⟨_, _, rfl, rfl⟩ | exact False.elim h)
  | isin =>
    cases y with
    | str l =>
      cases x with
      | str k =>
        match k, h, w1 with
        | [c], h, w1 =>
          have e1 : v1 = .str (S [c]) := by cases w1; rfl
          have e2 : v2 = .str (S l) := by cases w2; rfl
          exact .inl ⟨c, S l, e1, e2, GV_bl hm s h⟩
        | [], h, _ => exact h.elim
        | _ :: _ :: _, h, _ => exact h.elim
      | _ => exact False.elim h
    | tup xs =>
      simp only [cmpF, inF] at h
      by_cases q : (x.flat && xs.all D.flat) = true
      · rw [if_pos q] at h
        rw [Bool.and_eq_true] at q
        exact .inr (inn (neg := false) q.1 xs (.inl rfl) q.2 h)
      · rw [if_neg q] at h
        exact h.elim
    | lst xs =>
      simp only [cmpF, inF] at h
      by_cases q : (x.flat && xs.all D.flat) = true
      · rw [if_pos q] at h
        rw [Bool.and_eq_true] at q
        exact .inr (inn (neg := false) q.1 xs (.inr rfl) q.2 h)
      · rw [if_neg q] at h
        exact h.elim
    | _ => exact False.elim h
  | notin =>
    cases y with
    | str l =>
      cases x with
      | str k =>
        match k, h, w1 with
        | [c], h, w1 =>
          have e1 : v1 = .str (S [c]) := by cases w1; rfl
          have e2 : v2 = .str (S l) := by cases w2; rfl
          exact .inl ⟨c, S l, e1, e2, GV_bl hm s h⟩
        | [], h, _ => exact h.elim
        | _ :: _ :: _, h, _ => exact h.elim
      | _ => exact False.elim h
    | tup xs =>
      simp only [cmpF, inF] at h
      by_cases q : (x.flat && xs.all D.flat) = true
      · rw [if_pos q] at h
        rw [Bool.and_eq_true] at q
        exact .inr (inn (neg := true) q.1 xs (.inl rfl) q.2 h)
      · rw [if_neg q] at h
        exact h.elim
    | lst xs =>
      simp only [cmpF, inF] at h
      by_cases q : (x.flat && xs.all D.flat) = true
      · rw [if_pos q] at h
        rw [Bool.and_eq_true] at q
        exact .inr (inn (neg := true) q.1 xs (.inr rfl) q.2 h)
      · rw [if_neg q] at h
        exact h.elim
    | _ => exact False.elim h
end
end Hue
namespace Hue
open PySem PySem.Spec PyProof.Rows L2

/-! ### sorting, least and greatest -/
theorem insI_perm (x : Int) : ∀ l : List Int, (insI x l).Perm (x :: l)
  | [] => .refl _
  | y :: r => by
    unfold insI
    split
    · exact .refl _
    · exact (List.Perm.cons y (insI_perm x r)).trans (List.Perm.swap x y r)
theorem sortI_perm : ∀ l : List Int, (sortI l).Perm l
  | [] => .refl _
  | x :: r => (insI_perm x (sortI r)).trans (List.Perm.cons x (sortI_perm r))
theorem insI_sorted (x : Int) : ∀ l : List Int, l.Pairwise (· ≤ ·) → (insI x l).Pairwise (· ≤ ·)
  | [], _ => List.pairwise_singleton _ _
  | y :: r, h => by
    rw [List.pairwise_cons] at h
    unfold insI
    split
    · rename_i hxy
      rw [List.pairwise_cons]
      refine ⟨fun z hz => ?_, List.pairwise_cons.mpr h⟩
      rcases List.mem_cons.mp hz with rfl | hz
      · exact hxy
      · have := h.1 z hz; omega
    · rename_i hxy
      rw [List.pairwise_cons]
      refine ⟨fun z hz => ?_, insI_sorted x r h.2⟩
      rcases List.mem_cons.mp ((insI_perm x r).mem_iff.mp hz) with rfl | hz
      · omega
      · exact h.1 z hz
theorem sortI_sorted : ∀ l : List Int, (sortI l).Pairwise (· ≤ ·)
  | [] => .nil
  | x :: r => insI_sorted x _ (sortI_sorted r)
theorem sorted_uniq : ∀ {l m : List Int}, l.Perm m → l.Pairwise (· ≤ ·) → m.Pairwise (· ≤ ·) → l = m
  | [], m, p, _, _ => by rw [List.nil_perm.mp p]
  | x :: l, [], p, _, _ => by
    have := p.length_eq
    simp at this
  | x :: l, y :: m, p, hl, hm => by
    rw [List.pairwise_cons] at hl hm
    have e : x = y := by
      have h1 : x ∈ y :: m := p.mem_iff.mp List.mem_cons_self
      have h2 : y ∈ x :: l := p.mem_iff.mpr List.mem_cons_self
      rcases List.mem_cons.mp h1 with h | h
      · exact h
      rcases List.mem_cons.mp h2 with h' | h'
      · exact h'.symm
      have a := hl.1 y h'
      have b := hm.1 x h
      omega
    subst e
    rw [sorted_uniq (List.Perm.cons_inv p) hl.2 hm.2]
theorem minI_fold : ∀ (r : List Int) (x : Int), (r.foldl (fun a b => if b < a then b else a) x ∈ x :: r) ∧ ∀ y ∈ x :: r, r.foldl (fun a b => if b < a then b else a) x ≤ y
  | [], x => ⟨List.mem_cons_self, fun y hy => by
    rcases List.mem_cons.mp hy with rfl | h
    · exact Int.le_refl _
    · cases h⟩
  | b :: r, x => by
    rw [List.foldl_cons]
    have ih := minI_fold r (if b < x then b else x)
    generalize hm : r.foldl (fun a b => if b < a then b else a) (if b < x then b else x) = q at ih
    obtain ⟨i1, i2⟩ := ih
    have h0 := i2 _ List.mem_cons_self
    refine ⟨?_, fun y hy => ?_⟩
    · rcases List.mem_cons.mp i1 with h | h
      · by_cases c : b < x
        · rw [if_pos c] at h; rw [h]; simp
        · rw [if_neg c] at h; rw [h]; simp
      · simp [h]
    · rcases List.mem_cons.mp hy with rfl | hy
      · by_cases c : b < y
        · rw [if_pos c] at h0; omega
        · rw [if_neg c] at h0; exact h0
      rcases List.mem_cons.mp hy with rfl | hy
      · by_cases c : y < x
        · rw [if_pos c] at h0; exact h0
        · rw [if_neg c] at h0; omega
      · exact i2 y (List.mem_cons_of_mem _ hy)
theorem maxI_fold : ∀ (r : List Int) (x : Int), (r.foldl (fun a b => if a < b then b else a) x ∈ x :: r) ∧ ∀ y ∈ x :: r, y ≤ r.foldl (fun a b => if a < b then b else a) x
  | [], x => ⟨List.mem_cons_self, fun y hy => by
    rcases List.mem_cons.mp hy with rfl | h
    · exact Int.le_refl _
    · cases h⟩
  | b :: r, x => by
    rw [List.foldl_cons]
    have ih := maxI_fold r (if x < b then b else x)
    generalize hm : r.foldl (fun a b => if a < b then b else a) (if x < b then b else x) = q at ih
    obtain ⟨i1, i2⟩ := ih
    have h0 := i2 _ List.mem_cons_self
    refine ⟨?_, fun y hy => ?_⟩
    · rcases List.mem_cons.mp i1 with h | h
      · by_cases c : x < b
        · rw [if_pos c] at h; rw [h]; simp
        · rw [if_neg c] at h; rw [h]; simp
      · simp [h]
    · rcases List.mem_cons.mp hy with rfl | hy
      · by_cases c : y < b
        · rw [if_pos c] at h0; omega
        · rw [if_neg c] at h0; exact h0
      rcases List.mem_cons.mp hy with rfl | hy
      · by_cases c : x < y
        · rw [if_pos c] at h0; exact h0
        · rw [if_neg c] at h0; omega
      · exact i2 y (List.mem_cons_of_mem _ hy)
theorem minI_ok {ns : List Int} {m : Int} (h : minI ns = some m) : m ∈ ns ∧ ∀ y ∈ ns, m ≤ y := by
  cases ns with
  | nil => cases h
  | cons x r =>
    have e := Option.some.inj h
    subst e
    exact minI_fold r x
theorem maxI_ok {ns : List Int} {m : Int} (h : maxI ns = some m) : m ∈ ns ∧ ∀ y ∈ ns, y ≤ m := by
  cases ns with
  | nil => cases h
  | cons x r =>
    have e := Option.some.inj h
    subst e
    exact maxI_fold r x
theorem cutIx_eq (n d : Nat) (o : Option Int) : cutIx n d o = HT.sIx n d o := by cases o <;> rfl
theorem RepL.cut {Z : Wo} {F : Hp} {vs : List V} {ds : List D} (h : RepL Z F vs ds) (lo hi : Option Int) : RepL Z F (cutV vs lo hi) (cutL ds lo hi) := by
  unfold cutV cutL
  rw [cutIx_eq, cutIx_eq, h.length]
  exact (h.drop _).take _
theorem cutL_length {α : Type} (xs : List α) (lo hi : Option Int) : (cutL xs lo hi).length ≤ xs.length := by
  unfold cutL
  rw [List.length_take, List.length_drop]
  omega
theorem S_cut (l : List Nat) (lo hi : Option Int) : cutS (S l) lo hi = S (cutL l lo hi) := by
  unfold cutS cutL
  rw [cutIx_eq, cutIx_eq, S_len]
theorem atL_eq {α : Type} (xs : List α) (i : Int) : atL xs i = L2.atI xs i := rfl
theorem RepL.at {Z : Wo} {F : Hp} {vs : List V} {ds : List D} {i : Int} {d : D} (h : RepL Z F vs ds) (e : atL ds i = some d) : ∃ v, L2.atI vs i = some v ∧ Rep Z F v d := by
  unfold atL at e
  cases q : ixN ds.length i with
  | none => rw [q] at e; cases e
  | some j =>
    rw [q] at e
    obtain ⟨v, hv, r⟩ := h.get (i := j) (d := d) e
    refine ⟨v, ?_, r⟩
    show (ixN vs.length i).bind (fun j => vs[j]?) = some v
    rw [h.length, q]
    exact hv

section
variable {Z : Wo} {W : WX} {F H Hs : Hp} {σ : L2.St} {m : Md} {Q : VK}
theorem idx_ok {x y : D} {v1 v2 : V} {H1 : Hp} (r1 : RepM Z .read F H1 H v1 x) (r2 : Rep Z F v2 y) (s : Same F H) (h : pst Z W F H σ (idxF x y) (GV Z .keep Hs Q)) : L2.rIx Z.K v1 v2 H Q := by
  cases y with
  | int i =>
    have e2 : v2 = .int i := by cases r2; rfl
    subst e2
    cases x with
    | lst ds =>
      obtain ⟨p, xs, rfl, hp, rl, _⟩ := r1.rdL s
      simp only [idxF] at h
      cases q : atL ds i with
      | none => rw [q] at h; exact h.elim
      | some d =>
        rw [q] at h
        obtain ⟨v, hv, r⟩ := rl.at q
        exact .inl ⟨p, xs, i, v, rfl, rfl, .inl (.inl hp), hv, h F H (Ext.refl s) v r⟩
    | tup ds =>
      have r := r1.rdV rfl
      cases r with
      | tup h1 h2 h3 =>
        simp only [idxF] at h
        cases q : atL ds i with
        | none => rw [q] at h; exact h.elim
        | some d =>
          rw [q] at h
          obtain ⟨v, hv, r⟩ := h2.at q
          exact .inr (.inl ⟨_, _, i, v, rfl, rfl, same_sqT s h1, hv, h F H (Ext.refl s) v r⟩)
    | str l =>
      have r := r1.rdV rfl
      cases r with
      | str _ hl =>
        simp only [idxF] at h
        cases q : atL l i with
        | none => rw [q] at h; exact h.elim
        | some c =>
          rw [q] at h
          exact .inr (.inr ⟨S l, i, c, rfl, rfl, by rw [S_len]; exact hl, q, h F H (Ext.refl s) _ (.str [c] (show 1 ≤ sizeLine by decide))⟩)
    | _ => exact False.elim h
  | _ => cases x <;> exact False.elim h
def rSlc (K : PySem.W.Frag) : V → Option Int → Option Int → Hp → VK → Prop := fun x lo hi H Q => rSlL K x lo hi H Q ∨ rSlS x lo hi H Q
theorem sl_slc {X : Cx} : SlR X (rSlc X.K) := sl_list.or sl_str
theorem slc_ok {x : D} {lo hi : Option Int} {v : V} {H1 : Hp} (hm : m = .keep ∨ m = .fresh) (r1 : RepM Z .read F H1 H v x) (s : Same F H) (hs : Same Hs H) (h : pst Z W F H σ (slcF x lo hi) (GV Z m Hs Q)) : rSlc Z.K v lo hi H Q := by
  cases x with
  | lst ds =>
    obtain ⟨p, xs, rfl, hp, rl, hl⟩ := r1.rdL s
    exact .inl ⟨p, xs, rfl, .inl (.inl hp), fun q hq => GV_lst hm s hs hq (rl.cut lo hi) (Nat.le_trans (cutL_length _ _ _) hl) h⟩
  | scr ds =>
    have r := r1.rdV rfl
    cases r with
    | scr h1 h2 h3 => exact .inl ⟨_, _, rfl, same_sqL s h1, fun q hq => GV_lst hm s hs hq (h2.cut lo hi) (Nat.le_trans (cutL_length _ _ _) h3) h⟩
  | str l =>
    have r := r1.rdV rfl
    cases r with
    | str _ hl =>
      refine .inr ⟨S l, rfl, by rw [S_len]; exact hl, ?_⟩
      rw [S_cut]
      exact GV_str hm s (Nat.le_trans (cutL_length _ _ _) hl) h
  | _ => exact False.elim h

/-! ### built-ins of one thing -/
def fOf : P → Value
  | .len => .builtin "len" | .sum => .builtin "sum" | .min1 => .builtin "min" | .max1 => .builtin "max" | .min2 => .builtin "min" | .max2 => .builtin "max"
  | .any => .builtin "any" | .all => .builtin "all" | .abs => .builtin "abs" | .list => .type "list" | .int => .type "int" | .sorted => .builtin "sorted" | .str => .type "str"
  | _ => .none
def rPrim (K : PySem.W.Frag) : P → List V → Hp → VK → Prop
  | .len => fun xs H Q => ∃ x n, xs = [x] ∧ LenV K x H n ∧ Q (.int n) H
  | .sum => rSum K
  | .min1 => rMin K
  | .max1 => rMax K
  | .any => rAny K
  | .all => rAll K
  | .abs => fun xs H Q => ∃ i, xs = [.int i] ∧ Q (.int (if i < 0 then -i else i)) H
  | .list => fun xs H Q => ∃ p ys, xs = [.ref p] ∧ (SqL K H p ys ∨ SqT K H p ys) ∧ ∀ l, H l = none → Q (.ref l) (upd H l (.lst ys))
  | .int => fun xs H Q => ((∃ i, xs = [.int i] ∧ Q (.int i) H) ∨ ∃ k, xs = [.bl k] ∧ Q (.int (if k then 1 else 0)) H) ∨ ∃ a n, xs = [.str a] ∧ PySem.intText? a = some n ∧ a.length ≤ 640 ∧ Q (.int n) H
  | .str => fun xs H Q => ∃ i, xs = [.int i] ∧ i.natAbs.log2 < 1920 ∧ Q (.str (toString i)) H
  | .sorted => rSortedI K
  | .min2 => fun xs H Q => ∃ i j, xs = [.int i, .int j] ∧ Q (.int (if j < i then j else i)) H
  | .max2 => fun xs H Q => ∃ i j, xs = [.int i, .int j] ∧ Q (.int (if j > i then j else i)) H
  | _ => fun _ _ _ => False
theorem call_prim {X : Cx} (hc : X.calm = true) (p : P) : CallR X (fOf p) (rPrim X.K p) := by
  cases p with
  | len => exact call_len
  | sum => exact cr_sum hc
  | min1 => exact cr_min hc
  | max1 => exact cr_max hc
  | any => exact cr_any hc
  | all => exact cr_all hc
  | abs => exact call_abs
  | list => exact call_list_of
  | int => exact call_int1.or call_int_str
  | str => exact call_str_int
  | sorted => exact cr_sortedI
  | min2 => exact call_min2 hc
  | max2 => exact call_max2 hc
  | _ => exact fun _ _ _ _ _ _ _ _ _ h => False.elim h
theorem bind_of {α β : Type} {o : Option α} {k : α → R β} {G : β → Hp → Hp → Prop} (h : pst Z W F H σ ((R.of o).bind k) G) : ∃ a, o = some a ∧ pst Z W F H σ (k a) G := by
  cases o with
  | none => exact False.elim h
  | some a => exact ⟨a, rfl, h⟩
def is1 : P → Bool
  | .len | .sum | .min1 | .max1 | .any | .all | .abs | .list | .int | .sorted | .str => true
  | _ => false
theorem is1_of {f : Str} {p : P} (h : prim1 f = some p) : is1 p = true := by
  have k : prims1.all (fun q => is1 q.2) = true := rfl
  exact List.all_eq_true.mp k _ (lookup_mem h)
def is2 : P → Bool
  | .min2 | .max2 => true
  | _ => false
theorem is2_of {f : Str} {p : P} (h : prim2 f = some p) : is2 p = true := by
  have k : prims2.all (fun q => is2 q.2) = true := rfl
  exact List.all_eq_true.mp k _ (lookup_mem h)
def isT1 : P → Bool
  | .isI | .isB | .isS | .isL | .isT => true
  | _ => false
theorem isT1_of {f : Str} {p : P} (h : isiOf f = some p) : isT1 p = true := by
  have k : isis.all (fun q => isT1 q.2) = true := rfl
  exact List.all_eq_true.mp k _ (lookup_mem h)
theorem int_sign : ∀ k : Nat, k < 10 → PySem.intText? (S [48 + k]) = some (k : Int) := by decide +kernel
theorem sign_int : ∀ k : Nat, k < 10 → ((toString (k : Int) : String) : Str) = S [48 + k] := by decide +kernel
theorem prim1_ok {p : P} {x : D} {v : V} {H1 : Hp} (hm : m = .keep ∨ m = .fresh) (r : RepM Z .read F H1 H v x) (s : Same F H) (hs : Same Hs H) (hp : is1 p = true) (h : pst Z W F H σ (primF p [x]) (GV Z m Hs Q)) : rPrim Z.K p [v] H Q := by
  cases p with
  | len =>
    cases x with
    | lst ds =>
      obtain ⟨p, xs, rfl, hp, rl, hl⟩ := r.rdL s
      refine ⟨_, ds.length, rfl, .inl ⟨xs, .inl (.inl hp), rl.length.symm⟩, GV_int hm s h⟩
    | tup ds =>
      cases r.rdV rfl with
      | tup h1 h2 h3 => exact ⟨_, ds.length, rfl, .inr ⟨_, same_sqT s h1, h2.length.symm⟩, GV_int hm s h⟩
    | str l =>
      cases r.rdV rfl with
      | str _ hl => exact ⟨_, l.length, rfl, ⟨by rw [S_len]; exact hl, (S_len l).symm⟩, GV_int hm s h⟩
    | _ => exact False.elim h
  | sum =>
    cases x with
    | lst ds =>
      obtain ⟨p, xs, rfl, hp, rl, hl⟩ := r.rdL s
      obtain ⟨ns, e, h⟩ := bind_of h
      have ex := rl.ints e
      subst ex
      exact ⟨p, ns, rfl, .inl (.inl hp), GV_int hm s h⟩
    | _ => exact False.elim h
  | min1 =>
    cases x with
    | lst ds =>
      obtain ⟨p, xs, rfl, hp, rl, hl⟩ := r.rdL s
      obtain ⟨n, e, h⟩ := bind_of h
      cases q : asInts ds with
      | none => rw [q] at e; cases e
      | some ns =>
        rw [q] at e
        have ex := rl.ints q
        subst ex
        obtain ⟨m1, m2⟩ := minI_ok (show minI ns = some n from e)
        refine ⟨p, ns, rfl, .inl (.inl hp), List.length_pos_of_mem m1, fun k k1 k2 => ?_⟩
        have ek : k = n := Int.le_antisymm (k2 n m1) (m2 k k1)
        rw [ek]
        exact GV_int hm s h
    | _ => exact False.elim h
  | max1 =>
    cases x with
    | lst ds =>
      obtain ⟨p, xs, rfl, hp, rl, hl⟩ := r.rdL s
      obtain ⟨n, e, h⟩ := bind_of h
      cases q : asInts ds with
      | none => rw [q] at e; cases e
      | some ns =>
        rw [q] at e
        have ex := rl.ints q
        subst ex
        obtain ⟨m1, m2⟩ := maxI_ok (show maxI ns = some n from e)
        refine ⟨p, ns, rfl, .inl (.inl hp), List.length_pos_of_mem m1, fun k k1 k2 => ?_⟩
        have ek : k = n := Int.le_antisymm (m2 k k1) (k2 n m1)
        rw [ek]
        exact GV_int hm s h
    | _ => exact False.elim h
  | any =>
    cases x with
    | lst ds =>
      obtain ⟨p, xs, rfl, hp, rl, hl⟩ := r.rdL s
      obtain ⟨ns, e, h⟩ := bind_of h
      have ex := rl.bools e
      subst ex
      exact ⟨p, ns, rfl, .inl (.inl hp), GV_bl hm s h⟩
    | _ => exact False.elim h
  | all =>
    cases x with
    | lst ds =>
      obtain ⟨p, xs, rfl, hp, rl, hl⟩ := r.rdL s
      obtain ⟨ns, e, h⟩ := bind_of h
      have ex := rl.bools e
      subst ex
      exact ⟨p, ns, rfl, .inl (.inl hp), GV_bl hm s h⟩
    | _ => exact False.elim h
  | abs =>
    cases x with
    | int i =>
      cases r.rdV rfl
      exact ⟨i, rfl, GV_int hm s h⟩
    | _ => exact False.elim h
  | list =>
    cases x with
    | lst ds =>
      obtain ⟨p, xs, rfl, hp, rl, hl⟩ := r.rdL s
      exact ⟨p, xs, rfl, .inl (.inl (.inl hp)), fun q hq => GV_lst hm s hs hq rl hl h⟩
    | tup ds =>
      cases r.rdV rfl with
      | tup h1 h2 h3 => exact ⟨_, _, rfl, .inr (same_sqT s h1), fun q hq => GV_lst hm s hs hq h2 h3 h⟩
    | _ => exact False.elim h
  | int =>
    cases x with
    | int i =>
      cases r.rdV rfl
      exact .inl (.inl ⟨i, rfl, GV_int hm s h⟩)
    | bl b =>
      cases r.rdV rfl
      exact .inl (.inr ⟨b, rfl, GV_int hm s h⟩)
    | str l =>
      match l, h, r with
      | [c], h, r =>
        cases r.rdV rfl
        simp only [primF] at h
        by_cases q : 48 ≤ c ∧ c < 58
        · rw [if_pos q] at h
          obtain ⟨k, rfl⟩ : ∃ k, c = 48 + k := ⟨c - 48, by omega⟩
          have e : ((48 + k : Nat) : Int) - 48 = (k : Int) := by omega
          rw [e] at h
          exact .inr ⟨S [48 + k], (k : Int), rfl, int_sign k (by omega), (show (1 : Nat) ≤ 640 by decide), GV_int hm s h⟩
        · rw [if_neg q] at h
          exact h.elim
      | [], h, _ => exact False.elim h
      | _ :: _ :: _, h, _ => exact False.elim h
    | _ => exact False.elim h
  | str =>
    cases x with
    | int i =>
      cases r.rdV rfl
      simp only [primF] at h
      by_cases q : 0 ≤ i ∧ i < 10
      · rw [if_pos q] at h
        obtain ⟨k, rfl⟩ : ∃ k : Nat, i = (k : Int) := ⟨i.toNat, by omega⟩
        refine ⟨(k : Int), rfl, ?_, ?_⟩
        · have : ((k : Int).natAbs).log2 < 1920 := by
            have hk : k < 10 := by omega
            have : ∀ k : Nat, k < 10 → ((k : Int).natAbs).log2 < 1920 := by decide +kernel
            exact this k hk
          exact this
        · rw [sign_int k (by omega)]
          exact GV_str hm s (show 1 ≤ sizeLine by decide) h
      · rw [if_neg q] at h
        exact h.elim
    | _ => exact False.elim h
  | sorted =>
    cases x with
    | lst ds =>
      obtain ⟨p, xs, rfl, hp, rl, hl⟩ := r.rdL s
      obtain ⟨ns, e, h⟩ := bind_of h
      have ex := rl.ints e
      have len := rl.length
      subst ex
      refine ⟨p, ns, rfl, .inl (.inl hp), fun ns' q pm so hq => ?_⟩
      have en : ns' = sortI ns := sorted_uniq (pm.trans (sortI_perm ns).symm) so (sortI_sorted ns)
      subst en
      refine GV_lst hm s hs hq (RepL.ofInts _) ?_ h
      rw [List.length_map, (sortI_perm ns).length_eq]
      rw [List.length_map] at len
      rw [len]
      exact hl
    | _ => exact False.elim h
  | _ => cases hp
theorem prim2_ok {p : P} {x y : D} {v w : V} (hm : m = .keep ∨ m = .fresh) (r : Rep Z F v x) (r2 : Rep Z F w y) (s : Same F H) (hp : is2 p = true) (h : pst Z W F H σ (primF p [x, y]) (GV Z m Hs Q)) : rPrim Z.K p [v, w] H Q := by
  cases p with
  | min2 =>
    cases x with
    | int i =>
      cases y with
      | int j =>
        cases r
        cases r2
        exact ⟨i, j, rfl, GV_int hm s h⟩
      | _ => exact False.elim h
    | _ => cases y <;> exact False.elim h
  | max2 =>
    cases x with
    | int i =>
      cases y with
      | int j =>
        cases r
        cases r2
        exact ⟨i, j, rfl, GV_int hm s h⟩
      | _ => exact False.elim h
    | _ => cases y <;> exact False.elim h
  | _ => cases hp
/-! ### isinstance of built-in kinds -/
def tyOf : P → String
  | .isI => "int" | .isB => "bool" | .isS => "str" | .isL => "list" | .isT => "tuple"
  | _ => ""
theorem isi_ok {p : P} {x : D} {v : V} (r : Rep Z F v x) (s : Same F H) (hp : isT1 p = true) (h : pst Z W F H σ (primF p [x]) (GV Z .keep Hs Q)) : rIsi Z.K [v, .ty (tyOf p)] H Q := by
  have key : ∀ b : Bool, ∀ t : String, TyX Z.K H v (.type t) → kitB t (tyOf p) = some b → pst Z W F H σ (.ok (.bl b)) (GV Z .keep Hs Q) → rIsi Z.K [v, .ty (tyOf p)] H Q := fun b t ty hb h =>
    ⟨v, .ty (tyOf p), .type t, .type (tyOf p), b, rfl, .ty _, ty, kit_ty hb, GV_bl (.inl rfl) s h⟩
  have sqt : ∀ {a : Addr} {xs : List V}, SqT Z.K F a xs → TyX Z.K H (.ref a) (.type "tuple") := fun {a xs} q => by
    rcases same_sqT s q with (q | ⟨o, q⟩) | ⟨o, its, n, q1, q2, _⟩
    · exact .base (.tup q)
    · exact .fTuple q
    · exact .kTuple q1 q2
  have all : rIsi Z.K [v, .ty (tyOf p)] H Q := by
    cases p <;> first | (cases hp; done) | skip
    all_goals (
      cases r with
      | non => exact key _ "NoneType" (.base .non) (by decide +kernel) h
      | bl b => exact key _ "bool" (.base (.bl b)) (by decide +kernel) h
      | int i => exact key _ "int" (.base (.int i)) (by decide +kernel) h
      | str l hl => exact key _ "str" (.base (.str _)) (by decide +kernel) h
      | lst h1 h2 h3 => exact key _ "list" (.base (.lst (s _ _ h1))) (by decide +kernel) h
      | tup h1 h2 h3 => exact key _ "tuple" (sqt h1) (by decide +kernel) h
      | scr _ _ _ => exact False.elim h
      | dct _ _ _ => exact False.elim h
      | obj _ _ _ _ => exact False.elim h)
  exact all
end
end Hue
namespace Hue
open PySem PySem.Spec PyProof.Rows L2

/-! ### what is walked -/
def YD (Z : Wo) (F : Hp) (items : List D) : Nat → Hp → V → Hp → Prop := fun i H x H' => ∀ F1, Same F F1 → Same F1 H → ∃ F2, Ext F1 H F2 H' ∧ ∃ d, items[i]? = some d ∧ Rep Z F2 x d
def WalkD (Z : Wo) (F : Hp) (J : It) (items : List D) : Prop := Walk J items.length (fun H => Same F H) (YD Z F items)
def RI (Z : Wo) (W : WX) (Γ : Gm) (f : Env → R (List D)) : TI := fun σ H R => ∃ F0 H0 F e, Inv0 Z F0 H0 Γ F H σ e ∧ pst Z W F H σ (f e) (fun items F' H' => ∀ J, items.length ≤ sizeLine → WalkD Z F' J items → R J H')
section
variable {Z : Wo} {F : Hp}
theorem yat_D {xs : List V} {ds : List D} (rl : RepL Z F xs ds) {i : Nat} {H H' : Hp} {x : V} (y : YAt xs i H x H') : YD Z F ds i H x H' := fun F1 s1 s2 => by
  obtain ⟨rfl, hx⟩ := y
  obtain ⟨d, hd, r⟩ := rl.getV hx
  exact ⟨F1, Ext.refl s2, d, hd, r.mono s1⟩
theorem walkD_list {K : PySem.W.Frag} {a : Addr} {xs : List V} {ds : List D} (h : SqL K F a xs) (rl : RepL Z F xs ds) : WalkD Z F (Itl K a) ds := by
  unfold WalkD
  rw [← rl.length]
  exact walk_list.mono (fun H s => same_sqL s h) (fun i H x H' _ _ y => yat_D rl y)
theorem walkD_tup {K : PySem.W.Frag} {a : Addr} {xs : List V} {ds : List D} (h : SqT K F a xs) (rl : RepL Z F xs ds) : WalkD Z F (Itt K a) ds := by
  unfold WalkD
  rw [← rl.length]
  exact walk_tup.mono (fun H s => same_sqT s h) (fun i H x H' _ _ y => yat_D rl y)
theorem walkD_str (l : List Nat) : WalkD Z F (Its (S l)) (l.map fun c => D.str [c]) := by
  unfold WalkD
  rw [List.length_map, show l.length = (S l).cps.size by simp]
  refine walk_str.mono (fun H _ => trivial) (fun i H x H' hi _ y F1 s1 s2 => ?_)
  obtain ⟨rfl, c, hc, rfl⟩ := y
  refine ⟨F1, Ext.refl s2, .str [c], ?_, .str [c] (show 1 ≤ sizeLine by decide)⟩
  have hc' : l[i]? = some c := by simpa using hc
  rw [List.getElem?_map, hc']
  rfl
theorem rangeL_len (lo : Int) (n : Nat) (c : Int) : (rangeL lo n c).length = n := by
  unfold rangeL
  rw [List.length_map, List.length_range]
theorem rangeL_get {lo : Int} {n : Nat} {c : Int} {i : Nat} (h : i < n) : (rangeL lo n c)[i]? = some (.int (lo + (i : Int) * c)) := by
  unfold rangeL
  rw [List.getElem?_map, List.getElem?_range h]
  rfl
theorem walkD_rng (lo : Int) (n : Nat) : WalkD Z F (Itr lo n) (rangeL lo n 1) := by
  unfold WalkD
  rw [rangeL_len]
  refine walk_range.mono (fun H _ => trivial) (fun i H x H' hi _ y F1 s1 s2 => ?_)
  obtain ⟨rfl, rfl⟩ := y
  refine ⟨F1, Ext.refl s2, _, rangeL_get hi, ?_⟩
  rw [Int.mul_one]
  exact .int _
theorem walkD_rngC (lo c : Int) (n : Nat) : WalkD Z F (Itc lo c n) (rangeL lo n c) := by
  unfold WalkD
  rw [rangeL_len]
  refine walk_rangeC.mono (fun H _ => trivial) (fun i H x H' hi _ y F1 s1 s2 => ?_)
  obtain ⟨rfl, rfl⟩ := y
  exact ⟨F1, Ext.refl s2, _, rangeL_get hi, .int _⟩
theorem enmL_len : ∀ (k : Nat) (ds : List D), (enmL k ds).length = ds.length
  | _, [] => rfl
  | k, d :: ds => by
    show (enmL (k + 1) ds).length + 1 = ds.length + 1
    rw [enmL_len]
theorem enmL_get : ∀ (k : Nat) (ds : List D) (i : Nat) (d : D), ds[i]? = some d → (enmL k ds)[i]? = some (.tup [.int ((k + i : Nat) : Int), d])
  | _, [], _, _, h => by simp at h
  | k, x :: ds, 0, d, h => by
    simp at h
    subst h
    rfl
  | k, x :: ds, i + 1, d, h => by
    have ih := enmL_get (k + 1) ds i d (by simpa using h)
    show (enmL (k + 1) ds)[i]? = _
    rw [ih, show k + 1 + i = k + (i + 1) by omega]
theorem pair_D {xs ys : Nat → Option V} {ds : List D} (hg : ∀ i x y, xs i = some x → ys i = some y → ∃ d e, ds[i]? = some (.tup [d, e]) ∧ Rep Z F x d ∧ Rep Z F y e) {i : Nat} {H H' : Hp} {v : V} (y : YPair xs ys i H v H') : YD Z F ds i H v H' := fun F1 s1 s2 => by
  obtain ⟨T, x, z, rfl, hT, rfl, hx, hz⟩ := y
  obtain ⟨d, e, hd, r1, r2⟩ := hg i x z hx hz
  have x1 : Ext F1 H (upd F1 T (.tup [x, z])) (upd H T (.tup [x, z])) := Ext.still s2 hT
  exact ⟨_, x1, _, hd, .tup (.inl (.inl upd_same)) (.cons (r1.mono (s1.trans x1.ff)) (.cons (r2.mono (s1.trans x1.ff)) .nil)) (show 2 ≤ sizeLine by decide)⟩
theorem walkD_enm {K : PySem.W.Frag} {a : Addr} {xs : List V} {ds : List D} (h : SqL K F a xs) (rl : RepL Z F xs ds) : WalkD Z F (Ite K a) (enmL 0 ds) := by
  unfold WalkD
  rw [enmL_len, ← rl.length]
  refine walk_enum.mono (fun H s => same_sqL s h) (fun i H x H' _ _ y => pair_D (fun i x y hx hy => ?_) y)
  obtain ⟨d, hd, r⟩ := rl.getV hy
  cases hx
  exact ⟨.int (i : Nat), d, by rw [enmL_get 0 ds i d hd, Nat.zero_add], .int _, r⟩
theorem zipL_len : ∀ (ds es : List D), (zipL ds es).length = min ds.length es.length
  | [], _ => by simp [zipL]
  | _ :: _, [] => by simp [zipL]
  | d :: ds, e :: es => by
    show (zipL ds es).length + 1 = min (ds.length + 1) (es.length + 1)
    rw [zipL_len]
    omega
theorem zipL_get : ∀ (ds es : List D) (i : Nat) (d e : D), ds[i]? = some d → es[i]? = some e → (zipL ds es)[i]? = some (.tup [d, e])
  | [], _, _, _, _, h, _ => by simp at h
  | _ :: _, [], _, _, _, _, h => by simp at h
  | x :: ds, y :: es, 0, d, e, h, h' => by
    simp at h h'
    subst h h'
    rfl
  | x :: ds, y :: es, i + 1, d, e, h, h' => zipL_get ds es i d e (by simpa using h) (by simpa using h')
theorem walkD_zip {K : PySem.W.Frag} {a b : Addr} {xs ys : List V} {ds es : List D} (h : SqL K F a xs) (rl : RepL Z F xs ds) (h' : SqL K F b ys) (rl' : RepL Z F ys es) : WalkD Z F (Itz K a b) (zipL ds es) := by
  unfold WalkD
  rw [zipL_len, ← rl.length, ← rl'.length]
  refine (walk_zip rfl).mono (fun H s => ⟨same_sqL s h, same_sqL s h'⟩) (fun i H x H' _ _ y => pair_D (fun i x y hx hy => ?_) y)
  obtain ⟨d, hd, r⟩ := rl.getV hx
  obtain ⟨e, he, r'⟩ := rl'.getV hy
  exact ⟨d, e, zipL_get ds es i d e hd he, r, r'⟩
end

/-! ### targets -/
def gNames : List Nat → TGs
  | [] => gNil
  | i :: is => gCons (gName i) (gNames is)
def gOf (K : PySem.W.Frag) : Tg → TG
  | .nm i => gName i
  | .tp is => gTup K is.length (gNames is)
def tgSlots : Tg → List Nat
  | .nm i => [i]
  | .tp is => is
section
variable {Z : Wo} {F0 H0 F H : Hp} {Γ Γ' : Gm} {σ : L2.St} {e e1 : Env} {Q : L2.St → Hp → Prop}
theorem wipe_setIn {x : Option V} : ∀ {vs : List Nat} {j : Nat} {σ : L2.St}, j ∈ vs → wipe (σ.set j x) vs = wipe σ vs
  | v :: vs, j, σ, h => by
    show (wipe (σ.set j x) vs).set v none = (wipe σ vs).set v none
    by_cases hj : j ∈ vs
    · rw [wipe_setIn hj]
    · rcases List.mem_cons.mp h with rfl | h
      · have ex : ∀ (ws : List Nat), wipe (σ.set j x) ws = (wipe σ ws).set j ((wipe (σ.set j x) ws)[j]?.getD none) := by
          intro ws
          induction ws with
          | nil =>
            show σ.set j x = σ.set j (((σ.set j x)[j]?).getD none)
            by_cases hl : j < σ.length
            · rw [List.getElem?_set_self hl]
              rfl
            · rw [List.set_eq_of_length_le (by omega), List.set_eq_of_length_le (by omega)]
          | cons w ws ih =>
            show (wipe (σ.set j x) ws).set w none = ((wipe σ ws).set w none).set j ((((wipe (σ.set j x) ws).set w none)[j]?).getD none)
            by_cases hw : w = j
            · subst hw
              rw [ih, List.set_set, List.set_set]
              congr 1
              by_cases hl : w < (wipe σ ws).length
              · rw [List.getElem?_set_self hl]
                rfl
              · rw [List.getElem?_eq_none (by rw [List.length_set]; omega)]
                rfl
            · rw [List.getElem?_set_ne hw, List.set_comm _ _ hw, ← ih]
        rw [ex vs, List.set_set]
      · exact absurd h hj
theorem clr_nil (Γ : Gm) (i : Nat) : clr Γ [] i = Γ i := by simp [clr]
theorem setAll_ok : ∀ {is : List Nat} {ds : List D} {vs : List V} {σ : L2.St} {Γ : Gm} {e e1 : Env}, Inv0 Z F0 H0 Γ F H σ e → RepL Z F vs ds → setAll is ds e = some e1 →
    (∀ σ1, Inv0 Z F0 H0 (clr Γ is) F H σ1 e1 → (∀ ws, (∀ j ∈ is, j ∈ ws) → wipe σ1 ws = wipe σ ws) → Q σ1 H) → gNames is vs σ H Q
  | [], [], vs, σ, Γ, e, e1, I, r, h, q => by
    cases r
    cases h
    exact ⟨rfl, q σ (I.flags fun i _ => clr_nil Γ i) fun _ _ => rfl⟩
  | i :: is, d :: ds, vs, σ, Γ, e, e1, I, r, h, q => by
    cases r with
    | cons r1 r2 =>
      refine ⟨_, _, rfl, setAll_ok (I.put i r1) r2 h fun σ1 I1 w => q σ1 (I1.flags fun j _ => ?_) fun ws hw => ?_⟩
      · by_cases hj : j = i
        · simp [clr, hj]
        · simp [clr, hj]
      · rw [w ws fun j hj => hw j (List.mem_cons_of_mem _ hj)]
        exact wipe_setIn (hw i List.mem_cons_self)
  | [], _ :: _, _, _, _, _, _, _, _, h, _ => by cases h
  | _ :: _, [], _, _, _, _, _, _, _, h, _ => by cases h
theorem setAll_len : ∀ {is : List Nat} {ds : List D} {e e1 : Env}, setAll is ds e = some e1 → ds.length = is.length
  | [], [], _, _, _ => rfl
  | i :: is, d :: ds, e, e1, h => by
    rw [List.length_cons, List.length_cons, setAll_len (is := is) (ds := ds) h]
  | [], _ :: _, _, _, h => by cases h
  | _ :: _, [], _, _, h => by cases h
theorem bind_ok {tg : Tg} {d : D} {x : V} (I : Inv0 Z F0 H0 Γ F H σ e) (r : Rep Z F x d) (hb : bindTg tg d e = some e1)
    (q : ∀ σ1, Inv0 Z F0 H0 (clr Γ (tgSlots tg)) F H σ1 e1 → (∀ ws, (∀ j ∈ tgSlots tg, j ∈ ws) → wipe σ1 ws = wipe σ ws) → Q σ1 H) : gOf Z.K tg x σ H Q := by
  cases tg with
  | nm i =>
    cases hb
    refine q _ ((I.put i r).flags fun j _ => ?_) fun ws hw => wipe_setIn (hw i List.mem_cons_self)
    by_cases hj : j = i
    · simp [clr, tgSlots, hj]
    · simp [clr, tgSlots, hj]
  | tp is =>
    cases d with
    | tup ds =>
      cases r with
      | tup h1 h2 h3 => exact ⟨_, _, rfl, same_sqT I.sub h1, by rw [h2.length]; exact setAll_len hb, setAll_ok I h2 hb q⟩
    | _ => cases hb
theorem wipe_idem (σ : L2.St) : ∀ vs : List Nat, wipe (wipe σ vs) vs = wipe σ vs
  | [] => rfl
  | v :: vs => by
    have h : ∀ ws : List Nat, (∀ j ∈ ws, j ∈ vs ∨ j = v) → wipe ((wipe σ vs).set v none) ws = (wipe ((wipe σ vs)) ws).set v none := by
      intro ws hw
      induction ws with
      | nil => rfl
      | cons w ws ih =>
        show (wipe ((wipe σ vs).set v none) ws).set w none = ((wipe (wipe σ vs) ws).set w none).set v none
        rw [ih fun j hj => hw j (List.mem_cons_of_mem _ hj)]
        by_cases e : w = v
        · subst e
          rfl
        · rw [List.set_comm _ _ e]
    show (wipe ((wipe σ vs).set v none) vs).set v none = (wipe σ vs).set v none
    rw [h vs fun j hj => .inl hj, List.set_set, wipe_idem σ vs]
theorem wipeE_len (e : Env) : ∀ vs : List Nat, (wipeE e vs).length = e.length
  | [] => rfl
  | v :: vs => by unfold wipeE; rw [List.length_set, wipeE_len e vs]
theorem wipeE_some {e : Env} {i : Nat} {x : D} : ∀ {vs : List Nat}, (wipeE e vs)[i]? = some (some x) → e[i]? = some (some x) ∧ i ∉ vs
  | [], h => ⟨h, by simp⟩
  | v :: vs, h => by
    unfold wipeE at h
    by_cases hi : v = i
    · subst hi
      by_cases hv : v < (wipeE e vs).length
      · rw [List.getElem?_set_self hv] at h; cases h
      · rw [List.getElem?_eq_none (by simpa using hv)] at h; cases h
    · rw [List.getElem?_set_ne hi] at h
      obtain ⟨h1, h2⟩ := wipeE_some h
      exact ⟨h1, by simp only [List.mem_cons, not_or]; exact ⟨fun e => hi e.symm, h2⟩⟩
theorem Inv0.wiped (I : Inv0 Z F0 H0 Γ F H σ e) (vs : List Nat) : Inv0 Z F0 H0 (clr Γ vs) F H (wipe σ vs) (wipeE e vs) := by
  have cl : ∀ i, i ∉ vs → clr Γ vs i = Γ i := fun i hi => by simp [clr, hi]
  refine ⟨I.ext, by rw [wipeE_len, wipe_length]; exact I.len, fun i d h => ?_, fun a b p d d' n ga gb ea eb m1 m2 sa sb => ?_⟩
  · obtain ⟨h1, h2⟩ := wipeE_some h
    rw [cl i h2, wipe_out h2]
    exact I.slot i d h1
  · obtain ⟨xa, ya⟩ := wipeE_some ea
    obtain ⟨xb, yb⟩ := wipeE_some eb
    rw [cl a ya] at ga
    rw [cl b yb] at gb
    rw [wipe_out ya] at sa
    rw [wipe_out yb] at sb
    exact I.dist a b p d d' n ga gb xa xb m1 m2 sa sb
end

/-! ### a comprehension -/
def W0 : WX := fun _ _ _ _ => False
theorem compL_cons {fE : Env → R D} {fC : Env → R Bool} {tg : Tg} {e : Env} {d : D} {ds ys : List D} (h : compL fE fC tg e (d :: ds) = .ok ys) :
    ∃ e1, bindTg tg d e = some e1 ∧ ∃ b, fC e1 = .ok b ∧ ((b = false ∧ compL fE fC tg e ds = .ok ys) ∨ (b = true ∧ ∃ y r, fE e1 = .ok y ∧ compL fE fC tg e ds = .ok r ∧ ys = y :: r)) := by
  unfold compL at h
  cases q : bindTg tg d e with
  | none => rw [q] at h; cases h
  | some e1 =>
    rw [q] at h
    refine ⟨e1, rfl, ?_⟩
    simp only at h
    cases hc : fC e1 with
    | exc c => rw [hc] at h; cases h
    | bad => rw [hc] at h; cases h
    | ok b =>
      rw [hc] at h
      refine ⟨b, rfl, ?_⟩
      cases b with
      | false => exact .inl ⟨rfl, by simpa using h⟩
      | true =>
        simp only [R.bind_ok, if_true] at h
        cases he : fE e1 with
        | exc c => rw [he] at h; cases h
        | bad => rw [he] at h; cases h
        | ok y =>
          rw [he] at h
          cases hr : compL fE fC tg e ds with
          | exc c => rw [hr] at h; cases h
          | bad => rw [hr] at h; cases h
          | ok r =>
            rw [hr] at h
            cases h
            exact .inr ⟨rfl, y, r, rfl, rfl, rfl⟩
section
variable {Z : Wo} {W : WX} {F0 H0 F1 H1 Hs : Hp} {Γ : Gm} {σ : L2.St} {e : Env} {m : Md} {Q : VK}
theorem comp_ok {fE : Env → R D} {fC : Env → R Bool} {tg : Tg} {own : List Nat} {items : List D} {J : It} {Dl : Addr} {tt : TT} {te : TE} (hm : m = .keep ∨ m = .fresh) (I : Inv0 Z F0 H0 Γ F1 H1 σ e) (hs : Same Hs H1) (w : WalkD Z F1 J items) (hl : items.length ≤ sizeLine)
    (hD : H1 Dl = none) (hown : ∀ j ∈ tgSlots tg, j ∈ own)
    (ht : ∀ σ' H' Q', RT Z W0 (clr Γ own) fC σ' H' Q' → tt σ' H' Q') (he : ∀ σ' H' Q', RE Z W0 (clr Γ own) .keep fE σ' H' Q' → te σ' H' Q')
    (h : pst Z W F1 H1 σ ((noExc (compL fE fC tg (wipeE e own) items)).bind fun ys => .ok (.lst ys)) (GV Z m Hs Q)) :
    ∃ Wt : Nat → Nat → Hp → Prop, (∃ m, Wt 0 m (upd H1 Dl (.lst []))) ∧ ∀ i m H, Wt i m H →
      (J.stop i H ∧ Q (.ref Dl) H) ∨ (J.go i H ∧ ∃ Nx : Hp → Prop, (∀ H', Nx H' → ∃ m', m' < m ∧ Wt (i + 1) m' H') ∧ ∀ x H', J.yld i H x H' → gOf Z.K tg x (wipe σ own) H' fun σ2 H2 => wipe σ2 own = wipe σ own ∧ tt σ2 H2 fun b H3 =>
        if b = true then te σ2 H3 fun y H4 => ∃ acc, H4 Dl = some (.lst acc) ∧ acc.length < sizeLine ∧ Nx (upd H4 Dl (.lst (acc ++ [y]))) else Nx H3) := by
  cases hc : compL fE fC tg (wipeE e own) items with
  | exc c => rw [hc] at h; exact False.elim h
  | bad => rw [hc] at h; exact False.elim h
  | ok ys =>
    rw [hc] at h
    have h : pst Z W F1 H1 σ (.ok (.lst ys)) (GV Z m Hs Q) := h
    have sD : Same F1 (upd H1 Dl (.lst [])) := same_up I.sub (I.sub.free hD)
    refine lc_it w (Qd := fun H => Q (.ref Dl) H) (fun i H => ∃ F', Ext F1 H1 F' H ∧ F' Dl = none ∧ ∃ acc dn rest, H Dl = some (.lst acc) ∧ RepL Z F' acc dn ∧ dn.length ≤ i ∧ compL fE fC tg (wipeE e own) (items.drop i) = .ok rest ∧ dn ++ rest = ys)
      ⟨F1, Ext.own I.sub hD, I.sub.free hD, [], [], ys, upd_same, .nil, Nat.le_refl _, hc, rfl⟩ (fun i H _ p => ?_) (fun i x H H' hi p y => ?_) (fun H p => ?_)
    · obtain ⟨F', x, _⟩ := p
      exact x.ff.trans x.sub
    · obtain ⟨F', x1, fD, acc, dn, rest, hacc, rl, hlen, hcr, hys⟩ := p
      obtain ⟨F2, x2, d, hd, rx⟩ := y F' x1.ff x1.sub
      have hdrop : items.drop i = d :: items.drop (i + 1) := by
        obtain ⟨hlt, hget⟩ := List.getElem?_eq_some_iff.mp hd
        rw [List.drop_eq_getElem_cons hlt, hget]
      rw [hdrop] at hcr
      obtain ⟨e1, hb, b, hcb, hcase⟩ := compL_cons hcr
      have hne : H Dl ≠ none := by rw [hacc]; exact fun z => nomatch z
      have fD2 : F2 Dl = none := x2.new Dl fD hne
      have I2 : Inv0 Z F0 H0 (clr Γ own) F2 H' (wipe σ own) (wipeE e own) := (I.grow (x1.trans x2)).wiped own
      refine bind_ok I2 rx hb fun σ2 I3 hw => ⟨?_, ?_⟩
      · rw [hw own hown, wipe_idem]
      have I3' : Inv0 Z F0 H0 (clr Γ own) F2 H' σ2 e1 := I3.flags fun j _ => by
        by_cases hj : j ∈ tgSlots tg
        · simp [clr, hown j hj]
        · simp [clr, hj]
      refine ht _ _ _ ⟨F0, H0, F2, e1, I3', ?_⟩
      rw [hcb]
      intro F3 H3 x3
      have hne' : H' Dl ≠ none := by rw [x2.hh _ _ hacc]; exact fun z => nomatch z
      have fD3 : F3 Dl = none := x3.new Dl fD2 hne'
      have hacc3 : H3 Dl = some (.lst acc) := x3.hh _ _ (x2.hh _ _ hacc)
      rcases hcase with ⟨rfl, hr⟩ | ⟨rfl, y, r, hy, hr, rfl⟩
      · refine L2.iteF ?_
        exact ⟨F3, x1.trans (x2.trans x3), fD3, acc, dn, rest, hacc3, rl.mono (x2.ff.trans x3.ff), by omega, hr, hys⟩
      · refine L2.iteT ?_
        refine he _ _ _ ⟨F0, H0, F3, e1, I3'.grow x3, ?_⟩
        rw [hy]
        intro F4 H4 x4 v rv
        have hne3 : H3 Dl ≠ none := by rw [hacc3]; exact fun z => nomatch z
        have fD4 : F4 Dl = none := x4.new Dl fD3 hne3
        have hacc4 := x4.hh _ _ hacc3
        have x14 := x1.trans (x2.trans (x3.trans x4))
        have rl4 := rl.mono (x2.ff.trans (x3.ff.trans x4.ff))
        refine ⟨acc, hacc4, by rw [rl4.length]; omega, F4, ⟨x14.ff, fun b o q => ?_, same_up x14.sub fD4, x14.new⟩, fD4, acc ++ [v], dn ++ [y], r, upd_same, rl4.append (.cons rv .nil), by rw [List.length_append]; simp; omega, hr, by rw [List.append_assoc]; exact hys⟩
        rw [upd_ne (ne_of_none q hD)]
        exact x14.hh _ _ q
    · obtain ⟨F', x1, fD, acc, dn, rest, hacc, rl, hlen, hcr, hys⟩ := p
      rw [List.drop_length] at hcr
      cases hcr
      rw [List.append_nil] at hys
      subst hys
      have hz : dn.length ≤ sizeLine := Nat.le_trans hlen hl
      rcases hm with rfl | rfl
      · exact h _ _ (x1.freeze hD hacc fD) (.ref Dl) (.lst upd_same (rl.mono (same_updN fD)) hz)
      · refine h _ _ x1 (.ref Dl) ⟨?_, fun p _ ev => by cases ev; exact hs.free hD⟩
        unfold OwnRep
        rw [if_pos (show (D.lst dn).mut = true from rfl)]
        exact ⟨Dl, _, rfl, fD, hacc, acc, rfl, rl, hz⟩
end
end Hue
namespace Hue
open PySem PySem.Spec PyProof.Rows L2

/-! ### what a def is worth, as a promise -/
def spD (Z : Wo) (ar : Nat) (den : List D → R D) (fr : Bool) : Sp := fun vs H Q E => ∃ F ds, vs.length = ar ∧ Same F H ∧ RepL Z F vs ds ∧ match den ds with
  | .ok d => ∀ F' H' v, Ext F H F' H' → RepM Z (md fr) F' H H' v d → Q v H'
  | .exc c => ∀ F' H', Ext F H F' H' → E (.ref (Z.exA c)) none H'
  | .bad => False
def bnames : List Str := ["len", "sum", "min", "max", "any", "all", "abs", "list", "int", "sorted", "set", "range", "enumerate", "zip", "isinstance", "bool", "str", "tuple"]
/-- a name of the table stands for what the table says -/
def EntOk (X : Cx) (k : Nat) (Z : Wo) (x : Str) : Ent → Prop
  | .fn den fr ar => ∃ f fd ps, X.mg x = some (.ref f) ∧ PySem.W.keepIn X.K (.ref f) = true ∧ Binds X.K fd ps [] ∧ FnOk X.prog X.w X.K X.mg X.base (L2.CX X.prog X.w) k f fd ps (spD Z ar den fr)
  | .const d => d.mut = false ∧ ∃ u v, X.mg x = some u ∧ RelV v u ∧ ∀ F, Rep Z F v d
  | .exc c => X.mg x = some (.ref (Z.exA c)) ∧ PySem.W.excIn X.K (Z.exA c) [.type "ValueError", .type "Exception", .type "BaseException", .type "object"] "ValueError.__new__" = true ∧ PySem.W.keepIn X.K (.ref (Z.exA c)) = true ∧
      PySem.W.subIn X.K (.ref (Z.exA c)) (.type "BaseException") = some true ∧ PySem.W.typeIn X.K (.ref (Z.exA c)) = some (.type "type")
structure DX (X : Cx) (c : Cc) (k : Nat) (W : WX) (Z : Wo) : Prop where
  hN : X.N = c.N
  nd : c.N.Nodup
  hs : X.env.scope = c.sc
  calm : X.calm = true
  room : Room k X.A
  tk : Takes X W
  po : PassesOwn (model X.prog X.w) X.A X.env X.xe
  kz : Z.K = X.K
  blt : ∀ x ∈ bnames, X.mg x = none
  ent : ∀ x en, c.tab.lookup x = some en → EntOk X k Z x en

section
variable {X : Cx} {c : Cc} {k : Nat} {W : WX} {Z : Wo}
theorem DX.units (dx : DX X c k W Z) : X.A.units + 64 < cLine := dx.room.units
theorem isVis_vis {o : Option NameKind} (h : isVis o = true) : o = some .local ∨ o = some .cell ∨ o = some .free := by
  match o, h with
  | some .local, _ => exact .inl rfl
  | some .cell, _ => exact .inr (.inl rfl)
  | some .free, _ => exact .inr (.inr rfl)
theorem isLoc_loc {o : Option NameKind} (h : isLoc o = true) : o = some .local ∨ o = some .cell := by
  match o, h with
  | some .local, _ => exact .inl rfl
  | some .cell, _ => exact .inr rfl
theorem nameOk_of {x : Str} (h : nameOk x = true) : (x == ("__debug__" : Str)) = false ∧ (x == ("__classdict__" : Str)) = false ∧ x ≠ "__name__" := by
  unfold nameOk at h
  simp only [Bool.and_eq_true, Bool.not_eq_true'] at h
  exact ⟨h.1.1, h.1.2, fun e => by rw [e] at h; simp at h⟩
theorem varOf_ok (dx : DX X c k W Z) {x : Str} {i : Nat} (h : varOf c x = some i) : X.N[i]? = some x ∧ Vis X.env.scope x ∧ (x == ("__debug__" : Str)) = false ∧ (x == ("__classdict__" : Str)) = false := by
  unfold varOf at h
  by_cases q : (isVis (c.sc.names.lookup x) && nameOk x) = true
  · rw [if_pos q] at h
    rw [Bool.and_eq_true] at q
    obtain ⟨n1, n2, _⟩ := nameOk_of q.2
    refine ⟨by rw [dx.hN]; exact slotOf_get h, ?_, n1, n2⟩
    rw [dx.hs]
    exact isVis_vis q.1
  · rw [if_neg q] at h
    cases h
theorem isGl_ok (dx : DX X c k W Z) {x : Str} (h : isGl c x = true) : Gl X x ∧ (x == ("__debug__" : Str)) = false ∧ x ≠ "__name__" := by
  unfold isGl at h
  rw [Bool.and_eq_true] at h
  obtain ⟨n1, _, n3⟩ := nameOk_of h.2
  refine ⟨?_, n1, n3⟩
  show X.env.scope.names.lookup x = some .globalImplicit
  rw [dx.hs]
  exact eq_of_beq h.1
theorem bltn_ok (dx : DX X c k W Z) {x : Str} (h : bltn c x = true) : Gl X x ∧ (x == ("__debug__" : Str)) = false ∧ x ≠ "__name__" := by
  unfold bltn at h
  rw [Bool.and_eq_true] at h
  exact isGl_ok dx h.1
/-- a block of a comprehension -/
theorem DX.blk (dx : DX X c k W Z) (s : Shared) (H : Hp) (scope : Scope) (cl : List (Str × Addr)) (C : Addr) (fp : List Addr) :
    DX (X.blk s H scope (compEnvC scope cl C X.env) fp) { c with sc := relS scope c.sc } k W0 Z where
  hN := dx.hN
  nd := dx.nd
  hs := by
    show relabel scope X.env = relS scope c.sc
    rw [← dx.hs]
    rfl
  calm := dx.calm
  room := dx.room
  tk := takes0
  po := PassesOwn.never
  kz := dx.kz
  blt := dx.blt
  ent := fun x en h => by
    have q := dx.ent x en h
    cases en with
    | fn den fr ar => exact q
    | const d => exact q
    | exc c => exact q

/-! ### targets of the text -/
theorem each_names {nm : Expr → Option Nat} (hn : ∀ e i, nm e = some i → ∃ x p, e = .Name x p) (env : PySem.Env) : ∀ {es : List Expr} {is : List Nat}, tgList nm es = some is → assignEach es env = es.map (fun e => (false, assign e env)) ∧ es.length = is.length
  | [], is, h => by cases h; exact ⟨rfl, rfl⟩
  | e :: es, is, h => by
    unfold tgList at h
    cases q : nm e with
    | none => rw [q] at h; cases h
    | some i =>
      rw [q] at h
      cases q2 : tgList nm es with
      | none => rw [q2] at h; cases h
      | some js =>
        rw [q2] at h
        cases h
        obtain ⟨x, p, rfl⟩ := hn e i q
        obtain ⟨h1, h2⟩ := each_names hn env q2
        refine ⟨?_, by rw [List.length_cons, List.length_cons, h2]⟩
        show (false, assign (.Name x p) env) :: assignEach es env = _
        rw [h1]
        rfl
theorem pgs_names {nm : Expr → Option Nat} (hn : ∀ e i, nm e = some i → ∃ x p, e = .Name x p) (hg : ∀ e i, nm e = some i → PG X e (gName i)) : ∀ {es : List Expr} {is : List Nat}, tgList nm es = some is → PGs X es (gNames is)
  | [], is, h => by cases h; exact pgs_nil
  | e :: es, is, h => by
    unfold tgList at h
    cases q : nm e with
    | none => rw [q] at h; cases h
    | some i =>
      rw [q] at h
      cases q2 : tgList nm es with
      | none => rw [q2] at h; cases h
      | some js =>
        rw [q2] at h
        cases h
        obtain ⟨x, p, rfl⟩ := hn e i q
        exact pgs_cons (hg _ i q) (pgs_names hn hg q2)
theorem pg_with {nm : Expr → Option Nat} (hc : X.calm = true) (hn : ∀ e i, nm e = some i → ∃ x p, e = .Name x p) (hg : ∀ e i, nm e = some i → PG X e (gName i)) {tg : Expr} {g : Tg} (h : tgWith nm tg = some g) : PG X tg (gOf X.K g) := by
  cases tg with
  | Name x p =>
    have h : ((nm (.Name x p)).bind fun i => some (Tg.nm i)) = some g := h
    cases q : nm (.Name x p) with
    | none => rw [q] at h; cases h
    | some i =>
      rw [q] at h
      cases h
      exact hg _ i q
  | Tuple es kk p =>
    have h : ((tgList nm es).bind fun is => some (Tg.tp is)) = some g := h
    cases q : tgList nm es with
    | none => rw [q] at h; cases h
    | some is =>
      rw [q] at h
      cases h
      obtain ⟨h1, h2⟩ := each_names hn X.env q
      refine pg_tup hc (pgs_names hn hg q) ?_ ?_
      · rw [h1, List.length_map]
        exact h2
      · rw [h1]
        clear h1 h2 q
        induction es with
        | nil => rfl
        | cons e es ih => simp [List.findIdx?_cons]
  | _ => cases h
theorem tgName_ok {N : List Str} {scope : Scope} {e : Expr} {i : Nat} (h : tgName N scope e = some i) : ∃ x p, e = .Name x p ∧ (scope.names.lookup x = some .local ∨ scope.names.lookup x = some .cell) ∧ slotOf x N = some i := by
  cases e with
  | Name x p =>
    have h : (if isLoc (scope.names.lookup x) then slotOf x N else none) = some i := h
    by_cases q : isLoc (scope.names.lookup x) = true
    · rw [if_pos q] at h
      exact ⟨x, p, rfl, isLoc_loc q, h⟩
    · rw [if_neg q] at h
      cases h
  | _ => cases h
theorem own_of {N : List Str} {scope : Scope} {e : Expr} {i : Nat} (h : tgName N scope e = some i) : i ∈ (ownNames N scope).map Prod.snd := by
  obtain ⟨x, p, _, hk, hs⟩ := tgName_ok h
  refine List.mem_map.mpr ⟨(x, i), ?_, rfl⟩
  unfold ownNames
  rcases hk with hk | hk
  · exact List.mem_filterMap.mpr ⟨(x, .local), lookup_mem hk, by rw [hs]; rfl⟩
  · exact List.mem_filterMap.mpr ⟨(x, .cell), lookup_mem hk, by rw [hs]; rfl⟩
theorem own_list {N : List Str} {scope : Scope} : ∀ {es : List Expr} {is : List Nat}, tgList (tgName N scope) es = some is → ∀ j ∈ is, j ∈ (ownNames N scope).map Prod.snd
  | [], is, h, j, hj => by cases h; cases hj
  | e :: es, is, h, j, hj => by
    unfold tgList at h
    cases q : tgName N scope e with
    | none => rw [q] at h; cases h
    | some i =>
      rw [q] at h
      cases q2 : tgList (tgName N scope) es with
      | none => rw [q2] at h; cases h
      | some js =>
        rw [q2] at h
        cases h
        rcases List.mem_cons.mp hj with rfl | hj
        · exact own_of q
        · exact own_list q2 j hj
theorem own_tg {N : List Str} {scope : Scope} {tg : Expr} {g : Tg} (h : tgOf N scope tg = some g) : ∀ j ∈ tgSlots g, j ∈ (ownNames N scope).map Prod.snd := by
  cases tg with
  | Name x p =>
    have h : ((tgName N scope (.Name x p)).bind fun i => some (Tg.nm i)) = some g := h
    cases q : tgName N scope (.Name x p) with
    | none => rw [q] at h; cases h
    | some i =>
      rw [q] at h
      cases h
      intro j hj
      rw [List.mem_singleton.mp hj]
      exact own_of q
  | Tuple es kk p =>
    have h : ((tgList (tgName N scope) es).bind fun is => some (Tg.tp is)) = some g := h
    cases q : tgList (tgName N scope) es with
    | none => rw [q] at h; cases h
    | some is =>
      rw [q] at h
      cases h
      exact own_list q
  | _ => cases h
theorem pg_blk (dx : DX X c k W Z) {scope : Scope} {tg : Expr} {g : Tg} (h : tgOf c.N scope tg = some g) (s : Shared) (H : Hp) (C : Addr) (cl : List (Str × Addr)) (fp : List Addr) : PG (X.blk s H scope (compEnvC scope cl C X.env) fp) tg (gOf Z.K g) := by
  rw [dx.kz]
  refine pg_with (X := X.blk s H scope (compEnvC scope cl C X.env) fp) dx.calm (fun e i q => ?_) (fun e i q => ?_) h
  · obtain ⟨x, p, e1, _⟩ := tgName_ok q
    exact ⟨x, p, e1⟩
  · obtain ⟨x, p, rfl, hk, hs⟩ := tgName_ok q
    have keep : ∀ kk : NameKind, kk ≠ .free → scope.names.lookup x = some kk → (relS scope X.env.scope).names.lookup x = some kk := fun kk hf hl => lookup_relS_keep hf hl
    refine pg_name (X := X.blk s H scope (compEnvC scope cl C X.env) fp) (by show X.N.Nodup; rw [dx.hN]; exact dx.nd) (by show X.N[i]? = some x; rw [dx.hN]; exact slotOf_get hs) ?_ ?_
    · rcases hk with hk | hk
      · exact .inl (keep .local (by decide) hk)
      · exact .inr (keep .cell (by decide) hk)
    · rcases hk with hk | hk
      · exact .inr (keep .local (by decide) hk)
      · refine .inl ?_
        show (scope.names.lookup x == some .cell) = true
        rw [hk]
        rfl
end
end Hue
namespace Hue
open PySem PySem.Spec PyProof.Rows L2

theorem R.bind_assoc {α β γ : Type} (x : R α) (f : α → R β) (g : β → R γ) : (x.bind f).bind g = x.bind fun a => (f a).bind g := by cases x <;> rfl
theorem R.bind_pure {α : Type} (x : R α) : (x.bind fun a => .ok a) = x := by cases x <;> rfl
section
variable {X : Cx} {c : Cc} {k : Nat} {W : WX} {Z : Wo} {Γ : Gm} {a b e : Expr} {fa fb fc : Env → R D} {m : Md} {pos p : Pos}

theorem repM_back {F' H1 Hs H' : Hp} {v : V} {d : D} (s : Same Hs H1) (h : RepM Z m F' H1 H' v d) : RepM Z m F' Hs H' v d := by
  cases m with
  | keep => exact h
  | fresh => exact ⟨h.1, fun q z e => s.free (h.2 q z e)⟩
  | read => exact h
theorem truth_of {β : Type} {F H : Hp} {σ : L2.St} {v : V} {x : D} {g : Bool → R β} {G : β → Hp → Hp → Prop} (r : Rep Z F v x) (h : pst Z W F H σ ((truth x).bind g) G) : ∃ kk, x = .bl kk ∧ v = .bl kk ∧ pst Z W F H σ (g kk) G := by
  cases r with
  | bl b => exact ⟨b, rfl, rfl, h⟩
  | _ => exact False.elim h

/-! ### names -/
theorem re_var (dx : DX X c k W Z) {x : Str} {i : Nat} (hv : varOf c x = some i) (g : Γ i = false) : PE X (.Name x p) (RE Z W Γ .keep (ev (.var i))) := by
  obtain ⟨h1, h2, h3, h4⟩ := varOf_ok dx hv
  refine PEi (pe_var h1 h2 h3 h4) fun σ H Q q => ?_
  obtain ⟨F0, H0, F, e, I, q⟩ := q
  simp only [ev] at q
  cases he : e[i]? with
  | none => rw [he] at q; exact False.elim q
  | some od =>
    cases od with
    | none => rw [he] at q; exact False.elim q
    | some d =>
      rw [he] at q
      obtain ⟨v, hv, r, _⟩ := I.slot i d he
      exact ⟨v, hv, q F H (Ext.refl I.sub) v (r g)⟩
theorem re_varR (dx : DX X c k W Z) {x : Str} {i : Nat} (hv : varOf c x = some i) : PE X (.Name x p) (RE Z W Γ .read (ev (.var i))) := by
  obtain ⟨h1, h2, h3, h4⟩ := varOf_ok dx hv
  refine PEi (pe_var h1 h2 h3 h4) fun σ H Q q => ?_
  obtain ⟨F0, H0, F, e, I, q⟩ := q
  simp only [ev] at q
  cases he : e[i]? with
  | none => rw [he] at q; exact False.elim q
  | some od =>
    cases od with
    | none => rw [he] at q; exact False.elim q
    | some d =>
      rw [he] at q
      obtain ⟨v, hv, r1, r2⟩ := I.slot i d he
      refine ⟨v, hv, q F H (Ext.refl I.sub) v ?_⟩
      cases g : Γ i with
      | false => exact .inl (r1 g)
      | true => exact .inr (r2 g).1
theorem re_C {v : V} {d : D} (h : PE X e (tC v)) (r : ∀ F, Rep Z F v d) : PE X e (RE Z W Γ .keep (ev (.lit d))) := by
  refine PEi h fun σ H Q q => ?_
  obtain ⟨F0, H0, F, e, I, q⟩ := q
  exact q F H (Ext.refl I.sub) v (r F)

/-! ### operators -/
theorem re_bin {o : BO} (hm : m = .keep ∨ m = .fresh) (ha : PE X a (RE Z W Γ .keep fa)) (hb : PE X b (RE Z W Γ .keep fb)) :
    PE X (.BinOp a (opOf o) b p) (RE Z W Γ m (fun e => (fa e).bind fun x => (fb e).bind fun y => binF o x y)) := by
  refine PEi (pe_op (op_bin o) ha hb) fun σ H Q q => ?_
  obtain ⟨F0, H0, F, e, I, q⟩ := q
  exact ⟨F0, H0, F, e, I, pst_bind q fun x F1 H1 x1 q1 v1 r1 => ⟨F0, H0, F1, e, I.grow x1, pst_bind q1 fun y F2 H2 x2 q2 v2 r2 => bin_ok hm (Rep.mono x2.ff r1) r2 x2.sub (x1.hh.trans x2.hh) q2⟩⟩
theorem re_neg (ha : PE X a (RE Z W Γ .keep fa)) : PE X (.UnaryOp .USub a p) (RE Z W Γ .keep (fun e => (fa e).bind fun x => match x with
    | .int i => .ok (.int (-i))
    | _ => .bad)) := by
  refine PEi (pe_un un_neg ha) fun σ H Q q => ?_
  obtain ⟨F0, H0, F, e, I, q⟩ := q
  refine ⟨F0, H0, F, e, I, pst_bind q fun x F1 H1 x1 q1 v1 r1 => ?_⟩
  cases (show Rep Z F1 v1 x from r1) with
  | int i => exact ⟨i, rfl, GV_int (.inl rfl) x1.sub q1⟩
  | _ => exact False.elim q1
theorem re_not (ha : PE X a (RE Z W Γ .keep fa)) : PE X (.UnaryOp .Not a p) (RE Z W Γ .keep (fun e => (fa e).bind fun x => (truth x).bind fun kk => .ok (.bl (!kk)))) := by
  refine PEi (pe_not ha) fun σ H Q q => ?_
  obtain ⟨F0, H0, F, e, I, q⟩ := q
  refine ⟨F0, H0, F, e, I, pst_bind q fun x F1 H1 x1 q1 v1 r1 => ?_⟩
  obtain ⟨kk, rfl, rfl, q2⟩ := truth_of r1 q1
  exact ⟨kk, rfl, GV_bl (.inl rfl) x1.sub q2⟩
theorem re_and {rest : List Expr} (ha : PE X a (RE Z W Γ .keep fa)) (hb : PE X (.BoolOp .And (b :: rest) p) (RE Z W Γ .keep fb)) :
    PE X (.BoolOp .And (a :: b :: rest) p) (RE Z W Γ .keep (fun e => (fa e).bind fun x => (truth x).bind fun kk => if kk then fb e else .ok (.bl false))) := by
  refine PEi (pe_and ha hb) fun σ H Q q => ?_
  obtain ⟨F0, H0, F, e, I, q⟩ := q
  refine ⟨F0, H0, F, e, I, pst_bind q fun x F1 H1 x1 q1 v1 r1 => ?_⟩
  obtain ⟨kk, rfl, rfl, q2⟩ := truth_of r1 q1
  refine ⟨kk, rfl, ?_⟩
  cases kk with
  | true => exact iteT ⟨F0, H0, F1, e, I.grow x1, q2⟩
  | false => exact iteF (GV_bl (.inl rfl) x1.sub q2)
theorem re_or {rest : List Expr} (ha : PE X a (RE Z W Γ .keep fa)) (hb : PE X (.BoolOp .Or (b :: rest) p) (RE Z W Γ .keep fb)) :
    PE X (.BoolOp .Or (a :: b :: rest) p) (RE Z W Γ .keep (fun e => (fa e).bind fun x => (truth x).bind fun kk => if kk then .ok (.bl true) else fb e)) := by
  refine PEi (pe_or ha hb) fun σ H Q q => ?_
  obtain ⟨F0, H0, F, e, I, q⟩ := q
  refine ⟨F0, H0, F, e, I, pst_bind q fun x F1 H1 x1 q1 v1 r1 => ?_⟩
  obtain ⟨kk, rfl, rfl, q2⟩ := truth_of r1 q1
  refine ⟨kk, rfl, ?_⟩
  cases kk with
  | false => exact iteF ⟨F0, H0, F1, e, I.grow x1, q2⟩
  | true => exact iteT (GV_bl (.inl rfl) x1.sub q2)
theorem re_ite {t : Expr} (ht : PT X t (RT Z W Γ (fun e => (fc e).bind truth))) (ha : PE X a (RE Z W Γ .keep fa)) (hb : PE X b (RE Z W Γ .keep fb)) :
    PE X (.IfExp t a b p) (RE Z W Γ .keep (fun e => (fc e).bind fun x => (truth x).bind fun kk => if kk then fa e else fb e)) := by
  refine PEi (pe_ifExp ht ha hb) fun σ H Q q => ?_
  obtain ⟨F0, H0, F, e, I, q⟩ := q
  dsimp only at q
  rw [← R.bind_assoc] at q
  refine ⟨F0, H0, F, e, I, pst_bind q fun kk F1 H1 x1 q1 => ?_⟩
  cases kk with
  | true => exact iteT (pst_bind_back x1 I q1)
  | false => exact iteF (pst_bind_back x1 I q1)
where pst_bind_back {F0 H0 F H F1 H1 : Hp} {σ : L2.St} {e : Env} {f : Env → R D} {Q : VK} (x1 : Ext F H F1 H1) (I : Inv0 Z F0 H0 Γ F H σ e) (q : pst Z W F1 H1 σ (f e) (GV Z .keep H Q)) : RE Z W Γ .keep f σ H1 Q := ⟨F0, H0, F1, e, I.grow x1, q⟩
theorem rep_non {F : Hp} {v : V} {x : D} (r : Rep Z F v x) : decide (v = .non) = isNon x := by cases r <;> simp [isNon]
theorem read_non {F Hs H : Hp} {v : V} {x : D} (r : RepM Z .read F Hs H v x) : decide (v = .non) = isNon x := by
  rcases r with r | r
  · exact rep_non r
  · unfold OwnRep at r
    by_cases m : x.mut = true
    · rw [if_pos m] at r
      obtain ⟨p, o, rfl, _⟩ := r
      cases x <;> first | (cases m; done) | simp [isNon]
    · rw [if_neg m] at r
      exact rep_non r
theorem flat_ev {t : Tm} (h : flatT t = true) (en : Env) (d : D) (hd : ev t en = .ok d) : d.mut = false := by
  cases t with
  | lit x =>
    simp only [ev] at hd
    cases hd
    simpa [flatT] using h
  | _ => cases h
theorem re_iteF {t : Expr} (ht : PT X t (RT Z W Γ (fun e => (fc e).bind truth))) (ha : PE X a (RE Z W Γ .fresh fa)) (hb : PE X b (RE Z W Γ .fresh fb)) :
    PE X (.IfExp t a b p) (RE Z W Γ .fresh (fun e => (fc e).bind fun x => (truth x).bind fun kk => if kk then fa e else fb e)) := by
  refine PEi (pe_ifExp ht ha hb) fun σ H Q q => ?_
  obtain ⟨F0, H0, F, e, I, q⟩ := q
  dsimp only at q
  rw [← R.bind_assoc] at q
  refine ⟨F0, H0, F, e, I, pst_bind q fun kk F1 H1 x1 q1 => ?_⟩
  have back : ∀ {f : Env → R D}, pst Z W F1 H1 σ (f e) (GV Z .fresh H Q) → RE Z W Γ .fresh f σ H1 Q := fun {f} q => ⟨F0, H0, F1, e, I.grow x1, pst_imp q fun d F2 H2 _ k v r => k v (repM_back x1.hh r)⟩
  cases kk with
  | true => exact iteT (back q1)
  | false => exact iteF (back q1)
theorem re_isN {j : Nat} {p' : Pos} (ha : PE X a (RE Z W Γ .read fa)) : PE X (.Compare a [.Is] [.Constant .none j p'] p) (RE Z W Γ .keep (fun e => (fa e).bind fun x => .ok (.bl (isNon x)))) := by
  refine PEi (pe_cmp (pc_isN ha)) fun σ H Q q => ?_
  obtain ⟨F0, H0, F, e, I, q⟩ := q
  refine ⟨F0, H0, F, e, I, pst_bind q fun x F1 H1 x1 q1 v1 r1 => ?_⟩
  have hb : decide (v1 = .non) = isNon x := read_non r1
  dsimp only
  rw [hb]
  exact GV_bl (.inl rfl) x1.sub q1
theorem re_notN {j : Nat} {p' : Pos} (ha : PE X a (RE Z W Γ .read fa)) : PE X (.Compare a [.IsNot] [.Constant .none j p'] p) (RE Z W Γ .keep (fun e => (fa e).bind fun x => .ok (.bl (!isNon x)))) := by
  refine PEi (pe_cmp (pc_notN ha)) fun σ H Q q => ?_
  obtain ⟨F0, H0, F, e, I, q⟩ := q
  refine ⟨F0, H0, F, e, I, pst_bind q fun x F1 H1 x1 q1 v1 r1 => ?_⟩
  have hb : decide (v1 = .non) = isNon x := read_non r1
  dsimp only
  rw [hb]
  exact GV_bl (.inl rfl) x1.sub q1
theorem repR_grow {F H Hs F1 H1 : Hp} {v : V} {d : D} (h : RepM Z .read F Hs H v d) (x : Ext F H F1 H1) : RepM Z .read F1 Hs H1 v d := by
  rcases h with h | h
  · exact .inl (h.mono x.ff)
  · exact .inr (h.ext x)
theorem re_cmp (dx : DX X c k W Z) {o : CO} (ha : PE X a (RE Z W Γ .read fa)) (hb : PE X b (RE Z W Γ .read fb)) (hm : behindInMarks (copOf o) b = false) :
    PE X (.Compare a [copOf o] [b] p) (RE Z W Γ .keep (fun e => (fa e).bind fun x => (fb e).bind fun y => cmpF o x y)) := by
  refine PEi (pe_cmpR (op_cmp dx.units o) ha hb hm) fun σ H Q q => ?_
  obtain ⟨F0, H0, F, e, I, q⟩ := q
  refine ⟨F0, H0, F, e, I, pst_bind q fun x F1 H1 x1 q1 v1 r1 => ⟨F0, H0, F1, e, I.grow x1, pst_bind q1 fun y F2 H2 x2 q2 v2 r2 => ?_⟩⟩
  rw [← dx.kz]
  exact cmp_ok (.inl rfl) (repM_back (Same.refl H) (repR_grow r1 x2)) (repM_back x1.hh r2) x2.sub q2
theorem rt_cmp (dx : DX X c k W Z) {o : CO} (ha : PE X a (RE Z W Γ .read fa)) (hb : PE X b (RE Z W Γ .read fb)) (hm : behindInMarks (copOf o) b = false) :
    PT X (.Compare a [copOf o] [b] p) (RT Z W Γ (fun e => ((fa e).bind fun x => (fb e).bind fun y => cmpF o x y).bind truth)) := by
  refine PTi (pt_cmpR (op_cmp dx.units o) ha hb hm) fun σ H Q q => ?_
  obtain ⟨F0, H0, F, e, I, q⟩ := q
  dsimp only at q
  rw [R.bind_assoc] at q
  refine ⟨F0, H0, F, e, I, pst_bind q fun x F1 H1 x1 q1 v1 r1 => ⟨F0, H0, F1, e, I.grow x1, ?_⟩⟩
  rw [R.bind_assoc] at q1
  refine pst_bind q1 fun y F2 H2 x2 q2 v2 r2 => ?_
  rw [← dx.kz]
  refine cmp_ok (Hs := H) (.inl rfl) (repM_back (Same.refl H) (repR_grow r1 x2)) (repM_back x1.hh r2) x2.sub (pst_bind q2 fun z F3 H3 x3 q3 v3 r3 => ?_)
  have q3' : pst Z W F3 H3 σ ((truth z).bind fun b => .ok b) (fun b _ H' => Q b H') := by rw [R.bind_pure]; exact q3
  obtain ⟨kk, rfl, rfl, q4⟩ := truth_of r3 q3'
  exact ⟨kk, rfl, pst_ok x3.sub q4⟩
theorem cmp_bl {o : CO} {x y z : D} (h : cmpF o x y = .ok z) : ∃ b, z = .bl b := by
  cases o with
  | eq =>
    simp only [cmpF] at h
    split at h
    · cases h; exact ⟨_, rfl⟩
    · cases h
  | ne =>
    simp only [cmpF] at h
    split at h
    · cases h; exact ⟨_, rfl⟩
    · cases h
  | isin =>
    simp only [cmpF] at h
    cases q : inF x y with
    | ok b => rw [q] at h; cases h; exact ⟨_, rfl⟩
    | exc c => rw [q] at h; cases h
    | bad => rw [q] at h; cases h
  | notin =>
    simp only [cmpF] at h
    cases q : inF x y with
    | ok b => rw [q] at h; cases h; exact ⟨_, rfl⟩
    | exc c => rw [q] at h; cases h
    | bad => rw [q] at h; cases h
  | _ => cases x <;> cases y <;> first
    | (cases h; exact ⟨_, rfl⟩)
    | (cases h; done)
    | (rename_i xs ys
       simp only [cmpF] at h
       cases ha : asStrs xs with
       | none => rw [ha] at h; cases h
       | some a =>
         cases hb : asStrs ys with
         | none => rw [ha, hb] at h; cases h
         | some b =>
           rw [ha, hb] at h
           cases h
           exact ⟨_, rfl⟩)
theorem chn_ok (dx : DX X c k W Z) {o o2 : CO} {F0 H0 F H Hs : Hp} {σ : L2.St} {e : Env} {Q : VK} (I : Inv0 Z F0 H0 Γ F H σ e) (hs : Same Hs H)
    (q : pst Z W F H σ ((fa e).bind fun x => (fb e).bind fun y => (cmpF o x y).bind fun z => (truth z).bind fun kk => if kk then (fc e).bind fun w => cmpF o2 y w else .ok (.bl false)) (GV Z .keep Hs Q)) :
    tChain (rCmp X.K o) (rCmp X.K o2) (RE Z W Γ .keep fa) (RE Z W Γ .keep fb) (RE Z W Γ .keep fc) σ H Q := by
  rw [← dx.kz]
  refine ⟨F0, H0, F, e, I, pst_bind q fun x F1 H1 x1 q1 v1 r1 => ⟨F0, H0, F1, e, I.grow x1, pst_bind q1 fun y F2 H2 x2 q2 v2 r2 => ?_⟩⟩
  have r1 : Rep Z F1 v1 x := r1
  have r2 : Rep Z F2 v2 y := r2
  refine cmp_ok (Hs := H) (H1 := H) (.inl rfl) (.inl (r1.mono x2.ff)) (.inl r2) x2.sub (pst_bind q2 fun z F3 H3 x3 q3 v3 r3 => ?_)
  obtain ⟨kk, rfl, rfl, q4⟩ := truth_of r3 q3
  refine ⟨kk, rfl, ?_⟩
  have I3 := ((I.grow x1).grow x2).grow x3
  cases kk with
  | false => exact iteF (GV_bl (.inl rfl) x3.sub q4)
  | true =>
    refine iteT ⟨F0, H0, F3, e, I3, pst_bind q4 fun w F4 H4 x4 q5 v4 r4 => ?_⟩
    have r4 : Rep Z F4 v4 w := r4
    exact cmp_ok (H1 := H) (.inl rfl) (.inl (r2.mono (x3.ff.trans x4.ff))) (.inl r4) x4.sub q5
theorem re_chn (dx : DX X c k W Z) {o o2 : CO} {d : Expr} (ha : PE X a (RE Z W Γ .keep fa)) (hb : PE X b (RE Z W Γ .keep fb)) (hd : PE X d (RE Z W Γ .keep fc)) (hm : lastMarks [copOf o, copOf o2] [b, d] = false) :
    PE X (.Compare a [copOf o, copOf o2] [b, d] p) (RE Z W Γ .keep (fun e => (fa e).bind fun x => (fb e).bind fun y => (cmpF o x y).bind fun z => (truth z).bind fun kk => if kk then (fc e).bind fun w => cmpF o2 y w else .ok (.bl false))) := by
  refine PEi (pe_chain (op_cmp dx.units o) (op_cmp dx.units o2) ha hb hd hm) fun σ H Q q => ?_
  obtain ⟨F0, H0, F, e, I, q⟩ := q
  exact chn_ok dx I (Same.refl _) q
theorem rt_chn (dx : DX X c k W Z) {o o2 : CO} {d : Expr} (ha : PE X a (RE Z W Γ .keep fa)) (hb : PE X b (RE Z W Γ .keep fb)) (hd : PE X d (RE Z W Γ .keep fc)) (hm : lastMarks [copOf o, copOf o2] [b, d] = false) :
    PT X (.Compare a [copOf o, copOf o2] [b, d] p) (RT Z W Γ (fun e => ((fa e).bind fun x => (fb e).bind fun y => (cmpF o x y).bind fun z => (truth z).bind fun kk => if kk then (fc e).bind fun w => cmpF o2 y w else .ok (.bl false)).bind truth)) := by
  refine PTi (pt_chain (op_cmp dx.units o) (op_cmp dx.units o2) ha hb hd hm) fun σ H Q q => ?_
  obtain ⟨F0, H0, F, e, I, q⟩ := q
  refine chn_ok dx I (Same.refl _) (pst_bind q fun z F3 H3 x3 q3 v3 r3 => ?_)
  have q3' : pst Z W F3 H3 σ ((truth z).bind fun b => .ok b) (fun b _ H' => Q b H') := by rw [R.bind_pure]; exact q3
  obtain ⟨kk, rfl, rfl, q4⟩ := truth_of r3 q3'
  exact ⟨kk, rfl, pst_ok x3.sub q4⟩

/-! ### tests -/
theorem rt_val (h : PE X e (RE Z W Γ .keep fa)) (he : ∀ whole, isTrue e X.env whole = (do let v ← whole; standAt e.pos; holding [v] (truthy v))) : PT X e (RT Z W Γ (fun en => (fa en).bind truth)) := by
  refine PTi (pt_val h he) fun σ H Q q => ?_
  obtain ⟨F0, H0, F, en, I, q⟩ := q
  refine ⟨F0, H0, F, en, I, pst_bind q fun z F3 H3 x3 q3 v3 r3 => ?_⟩
  have q3' : pst Z W F3 H3 σ ((truth z).bind fun b => .ok b) (fun b _ H' => Q b H') := by rw [R.bind_pure]; exact q3
  obtain ⟨kk, rfl, rfl, q4⟩ := truth_of r3 q3'
  exact ⟨kk, rfl, pst_ok x3.sub q4⟩
theorem rt_not (ha : PT X a (RT Z W Γ (fun en => (fa en).bind truth))) : PT X (.UnaryOp .Not a p) (RT Z W Γ (fun e => ((fa e).bind fun x => (truth x).bind fun kk => .ok (.bl (!kk))).bind truth)) := by
  refine PTi (pt_not ha) fun σ H Q q => ?_
  obtain ⟨F0, H0, F, e, I, q⟩ := q
  dsimp only at q
  rw [← R.bind_assoc, R.bind_assoc] at q
  exact ⟨F0, H0, F, e, I, pst_bind q fun kk F1 H1 x1 q1 => pst_ok x1.sub q1⟩
theorem rt_and {rest : List Expr} (ha : PT X a (RT Z W Γ (fun en => (fa en).bind truth))) (hb : PW X (.BoolOp .And (b :: rest) p) (RT Z W Γ (fun en => (fb en).bind truth))) :
    PW X (.BoolOp .And (a :: b :: rest) p) (RT Z W Γ (fun e => ((fa e).bind fun x => (truth x).bind fun kk => if kk then fb e else .ok (.bl false)).bind truth)) := by
  refine PWi (pw_and ha hb) fun σ H Q q => ?_
  obtain ⟨F0, H0, F, e, I, q⟩ := q
  dsimp only at q
  rw [← R.bind_assoc, R.bind_assoc] at q
  refine ⟨F0, H0, F, e, I, pst_bind q fun kk F1 H1 x1 q1 => ?_⟩
  cases kk with
  | true => exact iteT ⟨F0, H0, F1, e, I.grow x1, q1⟩
  | false => exact iteF (pst_ok x1.sub q1)
theorem rt_or {rest : List Expr} (ha : PT X a (RT Z W Γ (fun en => (fa en).bind truth))) (hb : PW X (.BoolOp .Or (b :: rest) p) (RT Z W Γ (fun en => (fb en).bind truth))) :
    PW X (.BoolOp .Or (a :: b :: rest) p) (RT Z W Γ (fun e => ((fa e).bind fun x => (truth x).bind fun kk => if kk then .ok (.bl true) else fb e).bind truth)) := by
  refine PWi (pw_or ha hb) fun σ H Q q => ?_
  obtain ⟨F0, H0, F, e, I, q⟩ := q
  dsimp only at q
  rw [← R.bind_assoc, R.bind_assoc] at q
  refine ⟨F0, H0, F, e, I, pst_bind q fun kk F1 H1 x1 q1 => ?_⟩
  cases kk with
  | false => exact iteF ⟨F0, H0, F1, e, I.grow x1, q1⟩
  | true => exact iteT (pst_ok x1.sub q1)

/-! ### arguments, calls -/
theorem ra_nil : PA X [] (RA Z W Γ (evs .nil)) := by
  refine PAi pa_nil fun σ H Q q => ?_
  obtain ⟨F0, H0, F, e, I, q⟩ := q
  exact q F H (Ext.refl I.sub) [] .nil
theorem ra_cons {es : List Expr} {fs : Env → R (List D)} (ha : PE X a (RE Z W Γ .keep fa)) (hr : PA X es (RA Z W Γ fs)) (hs : starEach (a :: es) X.env = (false, eval a X.env) :: starEach es X.env) :
    PA X (a :: es) (RA Z W Γ (fun e => (fa e).bind fun x => (fs e).bind fun xs => .ok (x :: xs))) := by
  refine PAi (pa_cons ha hr hs) fun σ H Q q => ?_
  obtain ⟨F0, H0, F, e, I, q⟩ := q
  exact ⟨F0, H0, F, e, I, pst_bind q fun x F1 H1 x1 q1 v1 r1 => ⟨F0, H0, F1, e, I.grow x1, pst_bind q1 fun xs F2 H2 x2 q2 vs rs => q2 F2 H2 (Ext.refl x2.sub) _ (.cons (Rep.mono x2.ff r1) rs)⟩⟩
theorem re_call (dx : DX X c k W Z) {x : Str} {den : List D → R D} {fr : Bool} {ar : Nat} {es : List Expr} {fs : Env → R (List D)} (hg : isGl c x = true) (ht : c.tab.lookup x = some (.fn den fr ar)) (hl : (a :: es).length = ar)
    (ha : PA X (a :: es) (RA Z W Γ fs)) (hs : starEach (a :: es) X.env = (false, eval a X.env) :: starEach es X.env) (hpl : (backTo pos (starEach es X.env)).any (·.1) = false) (hlen : ∀ e ds, fs e = .ok ds → ds.length = ar) :
    PE X (.Call (.Name x p) (a :: es) [] pos) (RE Z W Γ (md fr) (fun e => (fs e).bind fun ds => den ds)) := by
  obtain ⟨f, fd, ps, h1, h2, h3, h4⟩ := dx.ent x _ ht
  obtain ⟨g1, g2, _⟩ := isGl_ok dx hg
  refine PEi (pe_callS h4 dx.room g1 h1 h2 h3 (fun σ => passAt dx.tk σ) ha g2 hs hpl) fun σ H Q q => ?_
  obtain ⟨F0, H0, F, e, I, q⟩ := q
  refine ⟨F0, H0, F, e, I, ?_⟩
  dsimp only at q
  cases hf : fs e with
  | exc c => rw [hf] at q; exact q
  | bad => rw [hf] at q; exact q
  | ok ds =>
    rw [hf] at q
    intro F1 H1 x1 vs rs
    have q1 := pst_ext (r := den ds) q x1
    refine ⟨F1, ds, by rw [rs.length]; exact hlen e ds hf, x1.sub, rs, ?_⟩
    cases hd : den ds with
    | ok d => rw [hd] at q1; exact fun F' H' v x r => q1 F' H' x v (repM_back x1.hh r)
    | exc c => rw [hd] at q1; exact q1
    | bad => rw [hd] at q1; exact q1
end
end Hue
namespace Hue
open PySem PySem.Spec PyProof.Rows L2
section
variable {X : Cx} {c : Cc} {k : Nat} {W : WX} {Z : Wo} {Γ : Gm} {a b e : Expr} {fa fb fc : Env → R D} {m : Md} {pos p : Pos}
theorem re_idx (dx : DX X c k W Z) (ha : PE X a (RE Z W Γ .read fa)) (hb : PE X b (RE Z W Γ .keep fb)) (hs : PlainIx b) :
    PE X (.Subscript a b p) (RE Z W Γ .keep (fun e => (fa e).bind fun x => (fb e).bind fun y => idxF x y)) := by
  refine PEi (pe_ix ix_seq ha hb hs) fun σ H Q q => ?_
  obtain ⟨F0, H0, F, e, I, q⟩ := q
  refine ⟨F0, H0, F, e, I, pst_bind q fun x F1 H1 x1 q1 v1 r1 => ⟨F0, H0, F1, e, I.grow x1, pst_bind q1 fun y F2 H2 x2 q2 v2 r2 => ?_⟩⟩
  rw [← dx.kz]
  exact idx_ok (repR_grow r1 x2) r2 x2.sub q2
theorem re_slc (dx : DX X c k W Z) {lo hi : Option Expr} {fl fh : Env → R (Option Int)} {p2 : Pos} (hm : m = .keep ∨ m = .fresh) (ha : PE X a (RE Z W Γ .read fa)) (hl : PO X lo (RO Z W Γ fl)) (hh : PO X hi (RO Z W Γ fh)) :
    PE X (.Subscript a (.Slice lo hi none p2) p) (RE Z W Γ m (fun e => (fa e).bind fun x => (fl e).bind fun l => (fh e).bind fun h => slcF x l h)) := by
  refine PEi (pe_slice sl_slc ha hl hh) fun σ H Q q => ?_
  obtain ⟨F0, H0, F, e, I, q⟩ := q
  refine ⟨F0, H0, F, e, I, pst_bind q fun x F1 H1 x1 q1 v1 r1 => ⟨F0, H0, F1, e, I.grow x1, pst_bind q1 fun l F2 H2 x2 q2 => ⟨F0, H0, F2, e, (I.grow x1).grow x2, pst_bind q2 fun h F3 H3 x3 q3 => ?_⟩⟩⟩
  rw [← dx.kz]
  exact slc_ok hm (repR_grow (repR_grow r1 x2) x3) x3.sub (x1.hh.trans (x2.hh.trans x3.hh)) q3
theorem ro_none : PO X none (RO Z W Γ (evO .none)) := by
  refine POi po_none fun σ H Q q => ?_
  obtain ⟨F0, H0, F, e, I, q⟩ := q
  exact pst_ok I.sub q
theorem ro_some (ha : PE X a (RE Z W Γ .keep fa)) : PO X (some a) (RO Z W Γ (fun e => (fa e).bind asPart)) := by
  refine POi (po_some ha) fun σ H Q q => ?_
  obtain ⟨F0, H0, F, e, I, q⟩ := q
  refine ⟨F0, H0, F, e, I, pst_bind q fun x F1 H1 x1 q1 v1 r1 => ?_⟩
  cases (show Rep Z F1 v1 x from r1) with
  | int i => exact ⟨i, rfl, pst_ok x1.sub q1⟩
  | _ => exact False.elim q1
theorem re_lst {es : List Expr} {fs : Env → R (List D)} (hm : m = .keep ∨ m = .fresh) (ha : PA X es (RA Z W Γ fs)) : PE X (.List es p) (RE Z W Γ m (fun e => (fs e).bind fun ds => if ds.length ≤ lim then .ok (.lst ds) else .bad)) := by
  refine PEi (pe_lst ha) fun σ H Q q => ?_
  obtain ⟨F0, H0, F, e, I, q⟩ := q
  refine ⟨F0, H0, F, e, I, pst_bind q fun ds F1 H1 x1 q1 vs rs => ?_⟩
  by_cases hl : ds.length ≤ lim
  · rw [if_pos hl] at q1
    exact ⟨by rw [rs.length]; exact lim_le hl, fun q hq => GV_lst hm x1.sub x1.hh hq rs (lim_le hl) q1⟩
  · rw [if_neg hl] at q1
    exact q1.elim
theorem re_tup {es : List Expr} {fs : Env → R (List D)} {kk : Nat} (ha : PA X es (RA Z W Γ fs)) : PE X (.Tuple es kk p) (RE Z W Γ .keep (fun e => (fs e).bind fun ds => if ds.length ≤ lim then .ok (.tup ds) else .bad)) := by
  refine PEi (pe_tup ha) fun σ H Q q => ?_
  obtain ⟨F0, H0, F, e, I, q⟩ := q
  refine ⟨F0, H0, F, e, I, pst_bind q fun ds F1 H1 x1 q1 vs rs => ?_⟩
  by_cases hl : ds.length ≤ lim
  · rw [if_pos hl] at q1
    exact ⟨by rw [rs.length]; exact lim_le hl, fun q hq => GV_tup (.inl rfl) x1.sub hq rs (lim_le hl) q1⟩
  · rw [if_neg hl] at q1
    exact q1.elim

/-! ### built-ins -/
theorem boot1 : ∀ q ∈ prims1 ++ prims2, bootBuiltins q.1 = some (fOf q.2) := by
  intro q hq
  simp only [prims1, prims2, List.cons_append, List.nil_append, List.mem_cons, List.not_mem_nil, or_false] at hq
  rcases hq with rfl | rfl | rfl | rfl | rfl | rfl | rfl | rfl | rfl | rfl | rfl | rfl | rfl <;> decide +kernel
theorem bn1 : ∀ q ∈ prims1 ++ prims2, q.1 ∈ bnames := by
  intro q hq
  simp only [prims1, prims2, List.cons_append, List.nil_append, List.mem_cons, List.not_mem_nil, or_false] at hq
  rcases hq with rfl | rfl | rfl | rfl | rfl | rfl | rfl | rfl | rfl | rfl | rfl | rfl | rfl <;> decide +kernel
theorem boot_isi : ∀ q ∈ isis, bootBuiltins q.1 = some (.type (tyOf q.2)) ∧ q.1 ∈ bnames := by
  intro q hq
  simp only [isis, List.mem_cons, List.not_mem_nil, or_false] at hq
  rcases hq with rfl | rfl | rfl | rfl | rfl <;> exact ⟨by decide +kernel, by decide +kernel⟩
theorem pe_prim (hc : X.calm = true) {f : Str} {pr : P} {es : List Expr} {t : TA} (hg : Gl X f) (hm : X.mg f = none) (hv : bootBuiltins f = some (fOf pr)) (hp : is1 pr = true ∨ is2 pr = true) (ha : PA X (a :: es) t) (hn : f ≠ "__name__") (hdb : (f == ("__debug__" : Str)) = false)
    (he : starEach (a :: es) X.env = (false, eval a X.env) :: starEach es X.env) (hpl : (backTo pos (starEach es X.env)).any (·.1) = false) : PE X (.Call (.Name f p) (a :: es) [] pos) (tCB (rPrim X.K pr) t) := by
  have cp := call_prim (X := X) hc pr
  cases pr <;> first
    | (exfalso; rcases hp with hp | hp <;> cases hp; done)
    | exact pe_callB cp hg hm hv ha hn hdb he hpl
    | exact pe_callTy cp hg hm hv ha hn hdb he hpl
theorem md_or (o : Bool) : md o = .keep ∨ md o = .fresh := by cases o <;> simp [md]
theorem re_prim1 (dx : DX X c k W Z) {f : Str} {pr : P} (hg : isGl c f = true) (hp : prim1 f = some pr) (hm : m = .keep ∨ m = .fresh) (ha : PE X a (RE Z W Γ .read fa)) (hs : starEach [a] X.env = [(false, eval a X.env)]) :
    PE X (.Call (.Name f p) [a] [] pos) (RE Z W Γ m (fun e => ((fa e).bind fun x => .ok [x]).bind fun ds => primF pr ds)) := by
  obtain ⟨g1, g2, g3⟩ := isGl_ok dx hg
  have hmem : (f, pr) ∈ prims1 ++ prims2 := List.mem_append_left _ (lookup_mem hp)
  refine PEi (pe_prim dx.calm g1 (dx.blt f (bn1 _ hmem)) (boot1 _ hmem) (.inl (is1_of hp)) (pa_cons ha pa_nil hs) g3 g2 hs rfl) fun σ H Q q => ?_
  obtain ⟨F0, H0, F, e, I, q⟩ := q
  dsimp only at q
  rw [R.bind_assoc] at q
  refine ⟨F0, H0, F, e, I, pst_bind q fun x F1 H1 x1 q1 v1 r1 => ?_⟩
  show rPrim X.K pr [v1] H1 Q
  rw [← dx.kz]
  exact prim1_ok hm r1 x1.sub x1.hh (is1_of hp) q1
theorem re_prim2 (dx : DX X c k W Z) {f : Str} {pr : P} (hg : isGl c f = true) (hp : prim2 f = some pr) (ha : PE X a (RE Z W Γ .keep fa)) (hb : PE X b (RE Z W Γ .keep fb)) (hs : starEach [a, b] X.env = (false, eval a X.env) :: starEach [b] X.env) (hs2 : starEach [b] X.env = [(false, eval b X.env)]) :
    PE X (.Call (.Name f p) [a, b] [] pos) (RE Z W Γ .keep (fun e => ((fa e).bind fun x => ((fb e).bind fun y => .ok [y]).bind fun ys => .ok (x :: ys)).bind fun ds => primF pr ds)) := by
  obtain ⟨g1, g2, g3⟩ := isGl_ok dx hg
  have hmem : (f, pr) ∈ prims1 ++ prims2 := List.mem_append_right _ (lookup_mem hp)
  refine PEi (pe_prim dx.calm g1 (dx.blt f (bn1 _ hmem)) (boot1 _ hmem) (.inr (is2_of hp)) (pa_cons ha (pa_cons hb pa_nil hs2) hs) g3 g2 hs (by rw [hs2]; rfl)) fun σ H Q q => ?_
  obtain ⟨F0, H0, F, e, I, q⟩ := q
  dsimp only at q
  rw [R.bind_assoc] at q
  refine ⟨F0, H0, F, e, I, pst_bind q fun x F1 H1 x1 q1 v1 r1 => ⟨F0, H0, F1, e, I.grow x1, ?_⟩⟩
  rw [R.bind_assoc, R.bind_assoc] at q1
  refine pst_bind q1 fun y F2 H2 x2 q2 v2 r2 => ?_
  show rPrim X.K pr [v1, v2] H2 Q
  rw [← dx.kz]
  exact prim2_ok (.inl rfl) (Rep.mono x2.ff r1) r2 x2.sub (is2_of hp) q2
theorem re_isi (dx : DX X c k W Z) {t : Str} {pr : P} {p2 : Pos} (hg : isGl c "isinstance" = true) (ht : bltn c t = true) (hp : isiOf t = some pr) (ha : PE X a (RE Z W Γ .keep fa)) (hs : starEach [a, .Name t p2] X.env = (false, eval a X.env) :: starEach [.Name t p2] X.env) :
    PE X (.Call (.Name "isinstance" p) [a, .Name t p2] [] pos) (RE Z W Γ .keep (fun e => ((fa e).bind fun x => .ok [x]).bind fun ds => primF pr ds)) := by
  obtain ⟨g1, g2, g3⟩ := isGl_ok dx hg
  obtain ⟨t1, t2, t3⟩ := bltn_ok dx ht
  obtain ⟨b1, b2⟩ := boot_isi _ (lookup_mem hp)
  refine PEi (pe_callB call_isi g1 (dx.blt _ (by decide +kernel)) boot_isinstance (pa_cons ha (pa_cons (pe_bltn (v := .ty (tyOf pr)) t1 (dx.blt t b2) b1 rfl t3 t2) pa_nil) hs) g3 g2 hs rfl) fun σ H Q q => ?_
  obtain ⟨F0, H0, F, e, I, q⟩ := q
  dsimp only at q
  rw [R.bind_assoc] at q
  refine ⟨F0, H0, F, e, I, pst_bind q fun x F1 H1 x1 q1 v1 r1 => ?_⟩
  show rIsi X.K [v1, .ty (tyOf pr)] H1 Q
  rw [← dx.kz]
  exact isi_ok r1 x1.sub (isT1_of hp) q1

/-! ### what is walked -/
theorem pi_or {tg e : Expr} {w1 w2 : TI} (h1 : PI X tg e w1) (h2 : PI X tg e w2) : PI X tg e (fun σ H R => w1 σ H R ∨ w2 σ H R) := ⟨fun pins s σ H R I q => by
  rcases q with q | q
  · exact h1.run pins s σ H R I q
  · exact h2.run pins s σ H R I q⟩
theorem ri_seq (dx : DX X c k W Z) {tg : Expr} (ha : PE X a (RE Z W Γ .keep fa)) : PI X tg a (RI Z W Γ (fun e => (fa e).bind seqOf)) := by
  refine PIi (pi_or (pi_list ha) (pi_or (pi_tup ha) (pi_str ha))) fun σ H R q => ?_
  obtain ⟨F0, H0, F, e, I, q⟩ := q
  dsimp only at q
  cases hf : fa e with
  | exc cc =>
    rw [hf] at q
    refine .inl ⟨F0, H0, F, e, I, ?_⟩
    rw [hf]
    exact q
  | bad => rw [hf] at q; exact False.elim q
  | ok d =>
    rw [hf] at q
    cases d with
    | lst ds =>
      refine .inl ⟨F0, H0, F, e, I, ?_⟩
      rw [hf]
      intro F1 H1 x1 v r
      cases (show Rep Z F1 v (.lst ds) from r) with
      | lst h1 h2 h3 => exact ⟨_, rfl, ⟨_, .inl (.inl (x1.sub _ _ h1))⟩, q F1 H1 x1 _ h3 (walkD_list (.inl (.inl h1)) h2)⟩
    | tup ds =>
      refine .inr (.inl ⟨F0, H0, F, e, I, ?_⟩)
      rw [hf]
      intro F1 H1 x1 v r
      cases (show Rep Z F1 v (.tup ds) from r) with
      | tup h1 h2 h3 => exact ⟨_, rfl, ⟨_, by rw [← dx.kz]; exact same_sqT x1.sub h1⟩, q F1 H1 x1 _ h3 (walkD_tup (by rw [← dx.kz]; exact h1) h2)⟩
    | str l =>
      refine .inr (.inr ⟨F0, H0, F, e, I, ?_⟩)
      rw [hf]
      intro F1 H1 x1 v r
      cases (show Rep Z F1 v (.str l) from r) with
      | str _ hl => exact ⟨_, rfl, q F1 H1 x1 _ (by rw [List.length_map]; exact hl) (walkD_str l)⟩
    | _ => exact False.elim q
theorem rngOk_of {i : Int} (h : rngOk i = true) : -1000000 ≤ i ∧ i ≤ 1000000 := by
  unfold rngOk at h
  simp only [Bool.and_eq_true, decide_eq_true_eq] at h
  exact h
theorem line_big : 2000001 ≤ sizeLine := by decide
theorem ri_rng1 (dx : DX X c k W Z) {tg : Expr} (hg : bltn c "range" = true) (ha : PE X a (RE Z W Γ .keep fa)) (hs : starEach [a] X.env = [(false, eval a X.env)]) : PI X tg (.Call (.Name "range" p) [a] [] pos) (RI Z W Γ (fun e => (fa e).bind rng1F)) := by
  obtain ⟨g1, _, _⟩ := bltn_ok dx hg
  refine PIi (pi_range1 g1 (dx.blt _ (by decide +kernel)) (pa_cons ha pa_nil hs) hs) fun σ H R q => ?_
  obtain ⟨F0, H0, F, e, I, q⟩ := q
  refine ⟨F0, H0, F, e, I, pst_bind q fun x F1 H1 x1 q1 v1 r1 => ?_⟩
  cases (show Rep Z F1 v1 x from r1) with
  | int i =>
    simp only [rng1F] at q1
    by_cases h : rngOk i = true
    · rw [if_pos h] at q1
      obtain ⟨h1, h2⟩ := rngOk_of h
      exact ⟨i, rfl, by omega, by omega, q1 F1 H1 (Ext.refl x1.sub) _ (by rw [rangeL_len]; have := line_big; omega) (walkD_rng 0 i.toNat)⟩
    · rw [if_neg h] at q1
      exact q1.elim
  | _ => exact False.elim q1
theorem ri_rng2 (dx : DX X c k W Z) {tg : Expr} (hg : bltn c "range" = true) (ha : PE X a (RE Z W Γ .keep fa)) (hb : PE X b (RE Z W Γ .keep fb)) (hs : starEach [a, b] X.env = [(false, eval a X.env), (false, eval b X.env)]) (hs2 : starEach [b] X.env = [(false, eval b X.env)]) :
    PI X tg (.Call (.Name "range" p) [a, b] [] pos) (RI Z W Γ (fun e => (fa e).bind fun x => (fb e).bind fun y => rng2F x y)) := by
  obtain ⟨g1, _, _⟩ := bltn_ok dx hg
  refine PIi (pi_range2 g1 (dx.blt _ (by decide +kernel)) (pa_cons ha (pa_cons hb pa_nil hs2) (by rw [hs, hs2])) hs hs2) fun σ H R q => ?_
  obtain ⟨F0, H0, F, e, I, q⟩ := q
  refine ⟨F0, H0, F, e, I, pst_bind q fun x F1 H1 x1 q1 v1 r1 => ⟨F0, H0, F1, e, I.grow x1, pst_bind q1 fun y F2 H2 x2 q2 v2 r2 => ?_⟩⟩
  cases (show Rep Z F1 v1 x from r1) with
  | int i =>
    cases (show Rep Z F2 v2 y from r2) with
    | int j =>
      simp only [rng2F] at q2
      by_cases h : (rngOk i && rngOk j) = true
      · rw [if_pos h] at q2
        rw [Bool.and_eq_true] at h
        obtain ⟨h1, h2⟩ := rngOk_of h.1
        obtain ⟨h3, h4⟩ := rngOk_of h.2
        exact ⟨i, j, rfl, ⟨by omega, by omega, by omega, by omega⟩, q2 F2 H2 (Ext.refl x2.sub) _ (by rw [rangeL_len]; have := line_big; omega) (walkD_rng i (j - i).toNat)⟩
      · rw [if_neg h] at q2
        exact q2.elim
    | _ => exact False.elim q2
  | _ => cases y <;> exact False.elim q2
theorem ri_rng3 (dx : DX X c k W Z) {tg d : Expr} (hg : bltn c "range" = true) (ha : PE X a (RE Z W Γ .keep fa)) (hb : PE X b (RE Z W Γ .keep fb)) (hd : PE X d (RE Z W Γ .keep fc)) (hs : starEach [a, b, d] X.env = (false, eval a X.env) :: starEach [b, d] X.env) (hs2 : starEach [b, d] X.env = (false, eval b X.env) :: starEach [d] X.env)
    (hs3 : starEach [d] X.env = [(false, eval d X.env)]) : PI X tg (.Call (.Name "range" p) [a, b, d] [] pos) (RI Z W Γ (fun e => (fa e).bind fun x => (fb e).bind fun y => (fc e).bind fun z => rng3F x y z)) := by
  obtain ⟨g1, _, _⟩ := bltn_ok dx hg
  refine PIi (pi_range3 g1 (dx.blt _ (by decide +kernel)) (pa_cons ha (pa_cons hb (pa_cons hd pa_nil hs3) hs2) hs) hs (by rw [hs2, hs3]; rfl)) fun σ H R q => ?_
  obtain ⟨F0, H0, F, e, I, q⟩ := q
  refine ⟨F0, H0, F, e, I, pst_bind q fun x F1 H1 x1 q1 v1 r1 => ⟨F0, H0, F1, e, I.grow x1, pst_bind q1 fun y F2 H2 x2 q2 v2 r2 => ⟨F0, H0, F2, e, (I.grow x1).grow x2, pst_bind q2 fun z F3 H3 x3 q3 v3 r3 => ?_⟩⟩⟩
  cases (show Rep Z F1 v1 x from r1) with
  | int i =>
    cases (show Rep Z F2 v2 y from r2) with
    | int j =>
      cases (show Rep Z F3 v3 z from r3) with
      | int s =>
        simp only [rng3F] at q3
        by_cases h : (rngOk i && rngOk j && decide (s = -1)) = true
        · rw [if_pos h] at q3
          simp only [Bool.and_eq_true, decide_eq_true_eq] at h
          obtain ⟨⟨h1, h2⟩, rfl⟩ := h
          obtain ⟨a1, a2⟩ := rngOk_of h1
          obtain ⟨b1, b2⟩ := rngOk_of h2
          exact ⟨i, j, -1, (i - j).toNat, rfl, RgC.neg (by omega) (by omega) (by omega) (by omega), q3 F3 H3 (Ext.refl x3.sub) _ (by rw [rangeL_len]; have := line_big; omega) (walkD_rngC i (-1) (i - j).toNat)⟩
        · rw [if_neg h] at q3
          exact q3.elim
      | _ => exact False.elim q3
    | _ => cases z <;> exact False.elim q3
  | _ => cases y <;> cases z <;> exact False.elim q3
end
end Hue
namespace Hue
open PySem PySem.Spec PyProof.Rows L2
section
variable {X : Cx} {c : Cc} {k : Nat} {W : WX} {Z : Wo} {Γ : Gm} {a b e : Expr} {fa fb fc : Env → R D} {m : Md} {pos p : Pos}
theorem ri_enm (dx : DX X c k W Z) {elts : List Expr} {kk : Nat} {tp : Pos} (hg : bltn c "enumerate" = true) (ha : PE X a (RE Z W Γ .keep fa)) (hs : starEach [a] X.env = [(false, eval a X.env)]) :
    PI X (.Tuple elts kk tp) (.Call (.Name "enumerate" p) [a] [] pos) (RI Z W Γ (fun e => (fa e).bind enmF)) := by
  obtain ⟨g1, _, _⟩ := bltn_ok dx hg
  refine PIi (pi_enum g1 (dx.blt _ (by decide +kernel)) (pa_cons ha pa_nil hs) hs) fun σ H R q => ?_
  obtain ⟨F0, H0, F, e, I, q⟩ := q
  refine ⟨F0, H0, F, e, I, pst_bind q fun x F1 H1 x1 q1 v1 r1 => ?_⟩
  cases (show Rep Z F1 v1 x from r1) with
  | lst h1 h2 h3 => exact ⟨_, _, rfl, .inl (.inl (x1.sub _ _ h1)), q1 F1 H1 (Ext.refl x1.sub) _ (by rw [enmL_len]; exact h3) (walkD_enm (.inl (.inl h1)) h2)⟩
  | _ => exact False.elim q1
theorem ri_zip (dx : DX X c k W Z) {elts : List Expr} {kk : Nat} {tp : Pos} (hg : bltn c "zip" = true) (ha : PE X a (RE Z W Γ .keep fa)) (hb : PE X b (RE Z W Γ .keep fb)) (hs : starEach [a, b] X.env = (false, eval a X.env) :: starEach [b] X.env) (hs2 : starEach [b] X.env = [(false, eval b X.env)]) :
    PI X (.Tuple elts kk tp) (.Call (.Name "zip" p) [a, b] [] pos) (RI Z W Γ (fun e => (fa e).bind fun x => (fb e).bind fun y => zipF x y)) := by
  obtain ⟨g1, _, _⟩ := bltn_ok dx hg
  refine PIi (pi_zip g1 (dx.blt _ (by decide +kernel)) (pa_cons ha (pa_cons hb pa_nil hs2) hs) hs (by rw [hs2]; rfl)) fun σ H R q => ?_
  obtain ⟨F0, H0, F, e, I, q⟩ := q
  refine ⟨F0, H0, F, e, I, pst_bind q fun x F1 H1 x1 q1 v1 r1 => ⟨F0, H0, F1, e, I.grow x1, pst_bind q1 fun y F2 H2 x2 q2 v2 r2 => ?_⟩⟩
  cases (show Rep Z F1 v1 x from r1) with
  | lst h1 h2 h3 =>
    cases (show Rep Z F2 v2 y from r2) with
    | lst k1 k2 k3 =>
      exact ⟨_, _, _, _, rfl, .inl (.inl (x2.sub _ _ (x2.ff _ _ h1))), .inl (.inl (x2.sub _ _ k1)), q2 F2 H2 (Ext.refl x2.sub) _ (by rw [zipL_len]; omega) (walkD_zip (.inl (.inl (x2.ff _ _ h1))) (h2.mono x2.ff) (.inl (.inl k1)) k2)⟩
    | _ => exact False.elim q2
  | _ => cases y <;> exact False.elim q2
/-- what a comprehension's parts give -/
structure CompParts (X : Cx) (c : Cc) (Z : Wo) (W : WX) (Γ : Gm) (scope : Scope) (tg it elt : Expr) (ifs : List Expr) (g : Tg) (fi : Env → R (List D)) (fC : Env → R Bool) (fE : Env → R D) : Prop where
  ok : BlkOk X.N X.env.scope scope (ownNames c.N scope)
  hi : PI X tg it (RI Z W Γ fi)
  hg : ∀ (s : Shared) (H : Hp) (C : Addr) (cl : List (Str × Addr)) (fp : List Addr), PG (X.blk s H scope (compEnvC scope cl C X.env) fp) tg (gOf Z.K g)
  ht : ∀ (s : Shared) (H : Hp) (C : Addr) (cl : List (Str × Addr)) (fp : List Addr), PTs (X.blk s H scope (compEnvC scope cl C X.env) fp) ifs (RT Z W0 (clr Γ ((ownNames c.N scope).map Prod.snd)) fC)
  he : ∀ (s : Shared) (H : Hp) (C : Addr) (cl : List (Str × Addr)) (fp : List Addr), PE (X.blk s H scope (compEnvC scope cl C X.env) fp) elt (RE Z W0 (clr Γ ((ownNames c.N scope).map Prod.snd)) .keep fE)
  own : ∀ j ∈ tgSlots g, j ∈ (ownNames c.N scope).map Prod.snd
  fold : ∀ x, foldedSetIterable it X.env x = pure x
theorem lc_read {scope : Scope} {tg it elt : Expr} {ifs : List Expr} {g : Tg} {fi : Env → R (List D)} {fC : Env → R Bool} {fE : Env → R D} (cp : CompParts X c Z W Γ scope tg it elt ifs g fi fC fE) (hm : m = .keep ∨ m = .fresh) (σ : L2.St) (H : Hp) (Q : VK)
    (q : RE Z W Γ m (fun e => (fi e).bind fun items => (noExc (compL fE fC g (wipeE e ((ownNames c.N scope).map Prod.snd)) items)).bind fun ys => .ok (.lst ys)) σ H Q) :
    tLc (RI Z W Γ fi) (gOf Z.K g) (RT Z W0 (clr Γ ((ownNames c.N scope).map Prod.snd)) fC) (RE Z W0 (clr Γ ((ownNames c.N scope).map Prod.snd)) .keep fE) ((ownNames c.N scope).map (·.2)) σ H Q := by
  obtain ⟨F0, H0, F, e, I, q⟩ := q
  exact ⟨F0, H0, F, e, I, pst_bind q fun items F1 H1 x1 q1 J hl w Dl hD => comp_ok hm (I.grow x1) x1.hh w hl hD cp.own (fun _ _ _ z => z) (fun _ _ _ z => z) q1⟩
theorem re_comp (dx : DX X c k W Z) {scope : Scope} {tg it elt : Expr} {ifs : List Expr} {g : Tg} {fi : Env → R (List D)} {fC : Env → R Bool} {fE : Env → R D} (cp : CompParts X c Z W Γ scope tg it elt ifs g fi fC fE) (hm : m = .keep ∨ m = .fresh) :
    PE X (.ListComp elt [⟨tg, it, ifs, 0⟩] scope pos) (RE Z W Γ m (fun e => (fi e).bind fun items => (noExc (compL fE fC g (wipeE e ((ownNames c.N scope).map Prod.snd)) items)).bind fun ys => .ok (.lst ys))) :=
  PEi (pe_lc dx.calm (by rw [dx.hN]; exact dx.nd) cp.hi cp.ok cp.hg cp.ht cp.he cp.fold) (lc_read cp hm)

/-! ### side conditions of the text -/
theorem star_of {n : Nat} {t : Tm} (h : cmpE c Γ n e = some t) (es : List Expr) (env : PySem.Env) : starEach (e :: es) env = (false, eval e env) :: starEach es env := by
  cases n with
  | zero => cases h
  | succ n => cases e <;> first | rfl | cases h
theorem starR_of {n : Nat} {t : Tm} (h : cmpR c Γ n e = some t) (es : List Expr) (env : PySem.Env) : starEach (e :: es) env = (false, eval e env) :: starEach es env := by
  cases n with
  | zero => cases h
  | succ n => cases e <;> first | rfl | exact star_of (n := n) (show cmpE c Γ n _ = some t from h) es env
theorem marks_of {n : Nat} {t : Tm} {op : CmpOp} (h : cmpR c Γ n e = some t) : behindInMarks op e = false := by
  cases n with
  | zero => cases h
  | succ n => cases e <;> first
    | rfl
    | (have h : cmpE c Γ n _ = some t := h; cases n with
       | zero => cases h
       | succ n => cases h)
theorem marksE_of {n : Nat} {t : Tm} {op : CmpOp} (h : cmpE c Γ n e = some t) : behindInMarks op e = false := by
  cases n with
  | zero => cases h
  | succ n => cases e <;> first | rfl | cases h
theorem evs_len : ∀ (ts : Tms) (en : Env) (ds : List D), evs ts en = .ok ds → ∀ {n : Nat} {es : List Expr}, cmpEs c Γ n es = some ts → ds.length = es.length
  | .nil, en, ds, h, n, es, hc => by
    cases h
    cases n with
    | zero => cases hc
    | succ n =>
      cases es with
      | nil => rfl
      | cons e es =>
        have hc : ((cmpE c Γ n e).bind fun t => (cmpEs c Γ n es).bind fun ts => some (Tms.cons t ts)) = some Tms.nil := hc
        cases q : cmpE c Γ n e with
        | none => rw [q] at hc; cases hc
        | some t =>
          rw [q] at hc
          cases q2 : cmpEs c Γ n es with
          | none => rw [q2] at hc; cases hc
          | some ts => rw [q2] at hc; cases hc
  | .cons t ts, en, ds, h, n, es, hc => by
    cases n with
    | zero => cases hc
    | succ n =>
      cases es with
      | nil => cases hc
      | cons e es =>
        have hc : ((cmpE c Γ n e).bind fun t => (cmpEs c Γ n es).bind fun ts => some (Tms.cons t ts)) = some (Tms.cons t ts) := hc
        cases q : cmpE c Γ n e with
        | none => rw [q] at hc; cases hc
        | some t' =>
          rw [q] at hc
          cases q2 : cmpEs c Γ n es with
          | none => rw [q2] at hc; cases hc
          | some ts' =>
            rw [q2] at hc
            have hc : some (Tms.cons t' ts') = some (Tms.cons t ts) := hc
            injection hc with hc
            injection hc with e1 e2
            subst e1 e2
            simp only [evs] at h
            cases h1 : ev t' en with
            | exc _ => rw [h1] at h; cases h
            | bad => rw [h1] at h; cases h
            | ok d =>
              rw [h1] at h
              cases h2 : evs ts' en with
              | exc _ => rw [h2] at h; cases h
              | bad => rw [h2] at h; cases h
              | ok ds' =>
                rw [h2] at h
                cases h
                rw [List.length_cons, List.length_cons, evs_len ts' en ds' h2 q2]
theorem plain_of : ∀ {n : Nat} {es : List Expr} {ts : Tms}, cmpEs c Γ n es = some ts → ∀ (env : PySem.Env) (q : Pos), (backTo q (starEach es env)).any (·.1) = false
  | 0, _, _, h => by cases h
  | n + 1, [], _, _ => fun _ _ => rfl
  | n + 1, e :: es, ts, h => fun env q => by
    have h : ((cmpE c Γ n e).bind fun t => (cmpEs c Γ n es).bind fun ts => some (Tms.cons t ts)) = some ts := h
    cases q1 : cmpE c Γ n e with
    | none => rw [q1] at h; cases h
    | some t =>
      rw [q1] at h
      cases q2 : cmpEs c Γ n es with
      | none => rw [q2] at h; cases h
      | some ts' =>
        rw [star_of q1]
        have ih := plain_of q2 env q
        unfold backTo at ih ⊢
        rw [List.map_cons, List.any_cons]
        simp only [Bool.false_or]
        exact ih
end
end Hue
namespace Hue
open PySem PySem.Spec PyProof.Rows L2

/-- what is compiled is right -/
structure Snd (Z : Wo) (W : WX) (X : Cx) (c : Cc) (n : Nat) : Prop where
  e : ∀ Γ e t, cmpE c Γ n e = some t → PE X e (RE Z W Γ (md (owns t)) (ev t))
  r : ∀ Γ e t, cmpR c Γ n e = some t → PE X e (RE Z W Γ .read (ev t))
  t : ∀ Γ e t, cmpT c Γ n e = some t → PT X e (RT Z W Γ (fun en => (ev t en).bind truth))
  w : ∀ Γ op vs p t, cmpT c Γ n (.BoolOp op vs p) = some t → PW X (.BoolOp op vs p) (RT Z W Γ (fun en => (ev t en).bind truth))
  s : ∀ Γ es ts, cmpEs c Γ n es = some ts → PA X es (RA Z W Γ (evs ts))
  o : ∀ Γ oe t, cmpO c Γ n oe = some t → PO X oe (RO Z W Γ (evO t))
  i : ∀ Γ tg e t, cmpI c Γ n tg e = some t → PI X tg e (RI Z W Γ (evI t)) ∧ ∀ x, foldedSetIterable e X.env x = pure x
theorem Snd.k {Z : Wo} {W : WX} {X : Cx} {c : Cc} {n : Nat} (S : Snd Z W X c n) {Γ : Gm} {e : Expr} {t : Tm} (h : cmpE c Γ n e = some t) : PE X e (RE Z W Γ .keep (ev t)) := re_keep (md_or _) (S.e Γ e t h)
theorem some_bind {α β : Type} {o : Option α} {f : α → Option β} {b : β} (h : o.bind f = some b) : ∃ a, o = some a ∧ f a = some b := by
  cases o with
  | none => cases h
  | some a => exact ⟨a, rfl, h⟩
theorem md_false : md false = .keep := rfl
theorem md_true : md true = .fresh := rfl
/-- the test of what is no and, or, not, if, comparison -/
theorem isTrue_other {e : Expr} {env : PySem.Env} (h1 : ∀ op vs p, e ≠ .BoolOp op vs p) (h2 : ∀ op a p, e ≠ .UnaryOp op a p) (h3 : ∀ a b d p, e ≠ .IfExp a b d p) (h4 : ∀ a o b p, e ≠ .Compare a o b p) (whole : Sem Value) : isTrue e env whole = (do let v ← whole; standAt e.pos; holding [v] (truthy v)) := by
  cases e with
  | BoolOp op vs p => exact absurd rfl (h1 _ _ _)
  | UnaryOp op a p => exact absurd rfl (h2 _ _ _)
  | IfExp a b d p => exact absurd rfl (h3 _ _ _ _)
  | Compare a o b p => exact absurd rfl (h4 _ _ _ _)
  | _ => rfl
theorem isNoneC_of {b : Expr} (h : isNoneC b = true) : ∃ j p, b = .Constant .none j p := by
  cases b with
  | Constant kk j p =>
    cases kk with
    | none => exact ⟨j, p, rfl⟩
    | _ => cases h
  | _ => cases h
theorem snd_cmp {Z : Wo} {k n : Nat} {W : WX} {X : Cx} {c : Cc} (dx : DX X c k W Z) (S : Snd Z W X c n) {Γ : Gm} {a : Expr} {ops : List CmpOp} {bs : List Expr} {p : Pos} {t : Tm} (h : cmpE c Γ (n + 1) (.Compare a ops bs p) = some t) :
    owns t = false ∧ PE X (.Compare a ops bs p) (RE Z W Γ .keep (ev t)) ∧ PT X (.Compare a ops bs p) (RT Z W Γ (fun en => (ev t en).bind truth)) := by
  match ops, bs, h with
  | [op], [b], h =>
    have h : (if isNoneC b then (match op with
          | .Is => (cmpR c Γ n a).bind fun ta => some (.isN ta)
          | .IsNot => (cmpR c Γ n a).bind fun ta => some (.notN ta)
          | _ => none)
        else (cop op).bind fun o => (cmpR c Γ n a).bind fun ta => (cmpR c Γ n b).bind fun tb => some (.cmp o ta tb)) = some t := h
    by_cases hb : isNoneC b = true
    · rw [if_pos hb] at h
      obtain ⟨j, p', rfl⟩ := isNoneC_of hb
      cases op with
      | Is =>
        obtain ⟨ta, h1, h2⟩ := some_bind h
        cases h2
        have pe := re_isN (j := j) (p' := p') (p := p) (S.r Γ a ta h1)
        refine ⟨rfl, pe, ?_⟩
        refine PTi (pt_cmp (pc_isN (S.r Γ a ta h1))) fun σ H Q q => ?_
        obtain ⟨F0, H0, F, en, I, q⟩ := q
        refine ⟨F0, H0, F, en, I, ?_⟩
        have q : pst Z W F H σ ((ev ta en).bind fun x => .ok (isNon x)) (fun b _ H' => Q b H') := by
          have e : ((ev (Tm.isN ta) en).bind truth) = (ev ta en).bind fun x => .ok (isNon x) := by
            simp only [ev]
            rw [R.bind_assoc]
            rfl
          rw [← e]
          exact q
        refine pst_bind q fun x F1 H1 x1 q1 v1 r1 => ?_
        have hv : decide (v1 = .non) = isNon x := read_non r1
        exact ⟨_, rfl, by rw [hv]; exact pst_ok x1.sub q1⟩
      | IsNot =>
        obtain ⟨ta, h1, h2⟩ := some_bind h
        cases h2
        have pe := re_notN (j := j) (p' := p') (p := p) (S.r Γ a ta h1)
        refine ⟨rfl, pe, ?_⟩
        refine PTi (pt_cmp (pc_notN (S.r Γ a ta h1))) fun σ H Q q => ?_
        obtain ⟨F0, H0, F, en, I, q⟩ := q
        refine ⟨F0, H0, F, en, I, ?_⟩
        have q : pst Z W F H σ ((ev ta en).bind fun x => .ok (!isNon x)) (fun b _ H' => Q b H') := by
          have e : ((ev (Tm.notN ta) en).bind truth) = (ev ta en).bind fun x => .ok (!isNon x) := by
            simp only [ev]
            rw [R.bind_assoc]
            rfl
          rw [← e]
          exact q
        refine pst_bind q fun x F1 H1 x1 q1 v1 r1 => ?_
        have hv : decide (v1 = .non) = isNon x := read_non r1
        exact ⟨_, rfl, by rw [hv]; exact pst_ok x1.sub q1⟩
      | _ => cases h
    · rw [if_neg hb] at h
      obtain ⟨o, h0, h⟩ := some_bind h
      obtain ⟨ta, h1, h⟩ := some_bind h
      obtain ⟨tb, h2, h⟩ := some_bind h
      cases h
      have eo := cop_copOf h0
      subst eo
      refine ⟨rfl, ?_, ?_⟩
      · simp only [ev]
        exact re_cmp dx (S.r Γ a ta h1) (S.r Γ b tb h2) (marks_of h2)
      · simp only [ev]
        exact rt_cmp dx (S.r Γ a ta h1) (S.r Γ b tb h2) (marks_of h2)
  | [op, op2], [b, b2], h =>
    have h : ((cop op).bind fun o => (cop op2).bind fun o2 => (cmpE c Γ n a).bind fun ta => (cmpE c Γ n b).bind fun tb => (cmpE c Γ n b2).bind fun tc => some (.chn o o2 ta tb tc)) = some t := h
    obtain ⟨o, h0, h⟩ := some_bind h
    obtain ⟨o2, h0', h⟩ := some_bind h
    obtain ⟨ta, h1, h⟩ := some_bind h
    obtain ⟨tb, h2, h⟩ := some_bind h
    obtain ⟨tc, h3, h⟩ := some_bind h
    cases h
    have eo := cop_copOf h0
    have eo2 := cop_copOf h0'
    subst eo eo2
    have hm : lastMarks [copOf o, copOf o2] [b, b2] = false := marksE_of h3
    refine ⟨rfl, ?_, ?_⟩
    · simp only [ev]
      exact re_chn dx (S.k h1) (S.k h2) (S.k h3) hm
    · simp only [ev]
      exact rt_chn dx (S.k h1) (S.k h2) (S.k h3) hm
  | [], _, h => cases h
  | [_], [], h => cases h
  | [_], _ :: _ :: _, h => cases h
  | [_, _], [], h => cases h
  | [_, _], [_], h => cases h
  | [_, _], _ :: _ :: _ :: _, h => cases h
  | _ :: _ :: _ :: _, _, h => cases h
end Hue
/-! x[::-1] of a list or a text; xs[-2::-1] -/
namespace Hue
open PySem PySem.Spec PyProof.Rows L2
section
variable {X : Cx}
theorem krv_allN (l : List Nat) : (List.range l.length).filterMap (l.toArray[·]?) = l := by
  have : ∀ (n : Nat), n ≤ l.length → (List.range n).filterMap (l.toArray[·]?) = l.take n := by
    intro n
    induction n with
    | zero => intro _; rfl
    | succ n ih =>
      intro h
      rw [List.range_succ, List.filterMap_append, ih (by omega), List.take_add_one]
      congr 1
      have hn : n < l.length := by omega
      simp [hn]
  rw [this l.length (Nat.le_refl _), List.take_length]
theorem str_rev (l : List Nat) : ((Builtin.Str.strSliceIndices none none (-1) (S l).length).filterMap ((S l).cps[·]?)).toArray = l.reverse.toArray := by
  have hl : (S l).length = l.length := by simp [Str.length]
  rw [hl]
  have e : Builtin.Str.strSliceIndices none none (-1) l.length = sliceRange ((l.length : Int) - 1) (-1) (-1) := rfl
  rw [e, PySem.W.krv_sliceRange, PySem.W.krv_range, List.filterMap_reverse]
  show ((List.range l.length).filterMap (l.toArray[·]?)).reverse.toArray = _
  rw [krv_allN]
theorem take_all {α : Type} (xs : Array α) : ∀ n, n ≤ xs.size → (List.range n).filterMap (xs[·]?) = xs.toList.take n := by
  intro n
  induction n with
  | zero => intro _; simp
  | succ n ih =>
    intro h
    rw [List.range_succ, List.filterMap_append, ih (by omega), List.take_add_one]
    congr 1
    have hn : n < xs.size := by omega
    simp [hn]
theorem rev2_pick (items : Array Value) : slicePick items (some (-2)) none (some (-1)) = items.toList.dropLast.reverse.toArray := by
  unfold slicePick
  have e : sliceBounds (some (-2)) none (some (-1)) items.size = (((items.size - 1 : Nat) : Int) - 1, -1, -1) := by
    unfold sliceBounds
    simp
    omega
  rw [e]
  show ((sliceRange (((items.size - 1 : Nat) : Int) - 1) (-1) (-1)).filterMap (items[·]?)).toArray = _
  rw [PySem.W.krv_sliceRange, PySem.W.krv_range, List.filterMap_reverse, take_all _ _ (by omega), List.dropLast_eq_take, Array.length_toList]
def tRev (K : PySem.W.Frag) (te : TE) : TE := fun σ H Q => te σ H fun x H1 => (∃ a xs, x = .ref a ∧ SqL K H1 a xs ∧ ∀ p, H1 p = none → Q (.ref p) (upd H1 p (.lst xs.reverse))) ∨ (∃ l, x = .str (S l) ∧ l.length ≤ sizeLine ∧ Q (.str (S l.reverse)) H1)
theorem pe_rev {e : Expr} {te : TE} {k : Nat} {p1 p2 p3 pos : Pos} (he : PE X e te) : PE X (.Subscript e (.Slice none none (some (.UnaryOp .USub (.Constant (.int 1) k p1) p2)) p3) pos) (tRev X.K te) := by
  refine ⟨fun pins s σ H Q I h => ?_⟩
  refine Subscript_ (thn (he.run pins s σ H _ I h) fun v s1 ⟨x, H1, I1, r1, q1⟩ => ?_)
  have hst : PO X (some (.UnaryOp .USub (.Constant (.int 1) k p1) p2)) (tPart (tUn (rU fun i => .int (-i)) (tC (.int 1)))) := po_some (pe_un un_neg pe_int)
  refine wpAny_Slice (thn (po_none.run pins s1 σ H1 (fun o H2 => o = none ∧ H2 = H1) I1 ⟨rfl, rfl⟩) fun vl s2 ⟨l, H2, I2, pl, el, e2⟩ => ?_)
  subst el e2
  refine thn (po_none.run pins s2 σ H2 (fun o H3 => o = none ∧ H3 = H2) I2 ⟨rfl, rfl⟩) fun vu s3 ⟨u, H3, I3, pu, eu, e3⟩ => ?_
  subst eu e3
  refine thn (hst.run pins s3 σ H3 (fun o H4 => o = some (-1) ∧ H4 = H3) I3 ⟨1, rfl, -1, rfl, rfl, rfl⟩) fun vs s4 ⟨o, H4, I4, ps, eo, e4⟩ => ?_
  subst eo e4
  have I5 : Inv X pins σ H4 { s4 with heap := s4.heap.push { cls := .type "slice", data := .fields #[vl, vu, vs] } } := I4.kept (t' := s4.toks) fun b ob q => Heap.get?_push_of_some _ q
  rcases q1 with ⟨a, xs, ex, hx, q⟩ | ⟨l, ex, hl, q⟩
  · subst ex
    cases r1
    obtain ⟨its, r, ht, hz⟩ := I5.list hx
    have hlen := r.length
    show wpAny (model X.prog X.w) X.A (subscriptTail e (.Slice none none (some (.UnaryOp .USub (.Constant (.int 1) k p1) p2)) p3) (.ref a) (.ref s4.heap.objs.size)) (EP X pins σ Q) X.xe { s4 with heap := s4.heap.push { cls := .type "slice", data := .fields #[vl, vu, vs] } }
    refine tail_any (ops := [.ref a, .ref s4.heap.objs.size]) ht.isList.typeIs (PySem.slot_list_getitem.lookup) ?_ (by with_unfolding_all rfl)
    refine wpAny_getItem_list_slice ht.isList (Heap.IsSliceOf.new _ vl vu vs) pl pu ps (by decide) ?_ (by rw [List.size_toArray]; omega)
    rw [PySem.W.krv_pick]
    refine ⟨.ref _, _, I5.laid (t' := s4.toks) (o := .lst xs.reverse) (fun b ob q => Heap.get?_push_of_some _ q) (Nat.le_refl _) ?_, rfl, q _ (I5.hok.fresh (Nat.le_refl _))⟩
    exact ⟨by rw [List.length_reverse]; exact hz, _, 0, r.reverse, Heap.get?_push_size _ rfl⟩
  · subst ex
    obtain ⟨t, rfl⟩ := r1
    obtain ⟨l', el, el'⟩ := IsPart.raw pl
    obtain ⟨u', eu, eu'⟩ := IsPart.raw pu
    obtain ⟨s', es, es'⟩ := IsPart.raw ps
    show wpAny (model X.prog X.w) X.A (subscriptTail e (.Slice none none (some (.UnaryOp .USub (.Constant (.int 1) k p1) p2)) p3) (.str (S l) t) (.ref s4.heap.objs.size)) (EP X pins σ Q) X.xe { s4 with heap := s4.heap.push { cls := .type "slice", data := .fields #[vl, vu, vs] } }
    refine tail_any (ops := [.str (S l) t, .ref s4.heap.objs.size]) (typeIs_str _ _ _) (PySem.F.slot_str_getitem.lookup) ?_ (by with_unfolding_all rfl)
    refine wpAny_getItem_str_slice (l := l') (u := u') (st := s') ⟨_, Heap.get?_push_size _ rfl, rfl, by rw [el, eu, es]⟩ (by rw [es']; rfl) ?_
    unfold sliceMade slicePicked
    rw [el', eu', es']
    show Made.post (if (((-1 : Int) == 1) && (Builtin.Str.strSliceIndices none none (-1) (S l).length).length == (S l).length) = true then Made.val (.str (S l) t) else Made.str ⟨((Builtin.Str.strSliceIndices none none (-1) (S l).length).filterMap ((S l).cps[·]?)).toArray⟩) (EP X pins σ Q) _
    rw [if_neg (by simp), str_rev]
    have hl2 : (S l.reverse).length ≤ sizeLine := by
      simp only [Str.length, List.size_toArray, List.length_reverse]
      exact hl
    exact ⟨hl2, .str _, H4, I5.tok _, ⟨_, rfl⟩, q⟩
def tRev2 (K : PySem.W.Frag) (te : TE) : TE := fun σ H Q => te σ H fun x H1 => ∃ a xs, x = .ref a ∧ SqL K H1 a xs ∧ ∀ p, H1 p = none → Q (.ref p) (upd H1 p (.lst xs.dropLast.reverse))
theorem pe_rev2 {e : Expr} {te : TE} {k k2 : Nat} {p1 p2 p3 pos q1 q2 : Pos} (he : PE X e te) : PE X (.Subscript e (.Slice (some (.UnaryOp .USub (.Constant (.int 2) k2 q1) q2)) none (some (.UnaryOp .USub (.Constant (.int 1) k p1) p2)) p3) pos) (tRev2 X.K te) := by
  refine ⟨fun pins s σ H Q I h => ?_⟩
  refine Subscript_ (thn (he.run pins s σ H _ I h) fun v s1 ⟨x, H1, I1, r1, z1⟩ => ?_)
  have hst : PO X (some (.UnaryOp .USub (.Constant (.int 1) k p1) p2)) (tPart (tUn (rU fun i => .int (-i)) (tC (.int 1)))) := po_some (pe_un un_neg pe_int)
  have hs2 : PO X (some (.UnaryOp .USub (.Constant (.int 2) k2 q1) q2)) (tPart (tUn (rU fun i => .int (-i)) (tC (.int 2)))) := po_some (pe_un un_neg pe_int)
  refine wpAny_Slice (thn (hs2.run pins s1 σ H1 (fun o H2 => o = some (-2) ∧ H2 = H1) I1 ⟨2, rfl, -2, rfl, rfl, rfl⟩) fun vl s2 ⟨l, H2, I2, pl, el, e2⟩ => ?_)
  subst el e2
  refine thn (po_none.run pins s2 σ H2 (fun o H3 => o = none ∧ H3 = H2) I2 ⟨rfl, rfl⟩) fun vu s3 ⟨u, H3, I3, pu, eu, e3⟩ => ?_
  subst eu e3
  refine thn (hst.run pins s3 σ H3 (fun o H4 => o = some (-1) ∧ H4 = H3) I3 ⟨1, rfl, -1, rfl, rfl, rfl⟩) fun vs s4 ⟨o, H4, I4, ps, eo, e4⟩ => ?_
  subst eo e4
  have I5 : Inv X pins σ H4 { s4 with heap := s4.heap.push { cls := .type "slice", data := .fields #[vl, vu, vs] } } := I4.kept (t' := s4.toks) fun b ob q => Heap.get?_push_of_some _ q
  obtain ⟨a, xs, ex, hx, q⟩ := z1
  subst ex
  cases r1
  obtain ⟨its, r, ht, hz⟩ := I5.list hx
  have hlen := r.length
  show wpAny (model X.prog X.w) X.A (subscriptTail e (.Slice (some (.UnaryOp .USub (.Constant (.int 2) k2 q1) q2)) none (some (.UnaryOp .USub (.Constant (.int 1) k p1) p2)) p3) (.ref a) (.ref s4.heap.objs.size)) (EP X pins σ Q) X.xe { s4 with heap := s4.heap.push { cls := .type "slice", data := .fields #[vl, vu, vs] } }
  refine tail_any (ops := [.ref a, .ref s4.heap.objs.size]) ht.isList.typeIs (PySem.slot_list_getitem.lookup) ?_ (by with_unfolding_all rfl)
  refine wpAny_getItem_list_slice ht.isList (Heap.IsSliceOf.new _ vl vu vs) pl pu ps (by decide) ?_ (by rw [List.size_toArray]; omega)
  rw [rev2_pick]
  refine ⟨.ref _, _, I5.laid (t' := s4.toks) (o := .lst xs.dropLast.reverse) (fun b ob q => Heap.get?_push_of_some _ q) (Nat.le_refl _) ?_, rfl, q _ (I5.hok.fresh (Nat.le_refl _))⟩
  exact ⟨by rw [List.length_reverse, List.length_dropLast]; omega, _, 0, r.dropLast.reverse, Heap.get?_push_size _ rfl⟩
end
end Hue
/-! sorted(set(xs)), xs a list of numbers or of texts -/
namespace Hue
open PySem PySem.Spec PyProof.Rows L2
section
variable {P : Program} {w : World} {K : Type} [DecidableEq K] {knd : KeyKind P w K}
/-- a set of any kind of keys that can be walked -/
def SetG (knd : KeyKind P w K) (h : Heap) (a : Addr) (S : K → Bool) (n : Nat) : Prop :=
  ∃ o es ep t, h.get? a = some o ∧ o.ExactSet ∧ o.data = .set es ep t ∧ ElemsOf knd es.toList ∧ (∀ k, S k = true ↔ ∃ e ∈ es.toList, knd.is k e.2 = true) ∧ es.size < scanBound ∧ t.fits es.size = true ∧ es.size = n ∧
    Ris t.place.toList ∧ (w.params.followText "set-order" = true ∨ t.led = true)
theorem SetG.at {h h' : Heap} {a : Addr} {S : K → Bool} {n : Nat} (R : SetG knd h a S n) (k : ∀ o, h.get? a = some o → h'.get? a = some o) : SetG knd h' a S n := by
  obtain ⟨o, es, ep, t, ho, r⟩ := R
  exact ⟨o, es, ep, t, k o ho, r⟩
theorem SetG.congr {h : Heap} {a : Addr} {S S' : K → Bool} {n n' : Nat} (R : SetG knd h a S n) (e : ∀ k, S' k = S k) (en : n' = n) : SetG knd h a S' n' := by
  have q : S' = S := funext e
  rw [q, en]
  exact R
variable {A : Around} {E : Value → Shared → Prop} {s : Shared} {a : Addr} {S : K → Bool} {n : Nat}
theorem setG_tail {g : Bool → Sem Unit} (hg : ∀ (b : Bool) (s₁ : Shared) (Q' : Unit → Shared → Prop), Q' () s₁ → wpAny (model P w) A (g b) Q' E s₁)
    {o : Obj} {es : Array (Int × Value)} {ep : Nat} {t : SetTable} (ho : s.heap.get? a = some o) (hex : o.ExactSet) (hd : o.data = .set es ep t)
    {es1 : Array (Int × Value)} {t2 : SetTable} {S' : K → Bool} (g1 : ElemsOf knd es1.toList) (m1 : ∀ k, S' k = true ↔ ∃ e ∈ es1.toList, knd.is k e.2 = true)
    (hb1 : es1.size < scanBound) (hf2 : t2.fits es1.size = true) (hr : Ris t2.place.toList) (hl : w.params.followText "set-order" = true ∨ t2.led = true) {wasDummy : Bool} {R : Option Bool → Shared → Prop}
    (hR : ∀ h', Heap.SameBut a s.heap h' → SetG knd h' a S' es1.size → R (some true) { s with heap := h' }) :
    wpAny (model P w) A (do
        storeSet a es1 t2
        if (!wasDummy && t2.tooFull) = true then do
            g (relayAll t2 es1 (SetTable.grown es1.size)).2.2
            storeSet a (relayAll t2 es1 (SetTable.grown es1.size)).1 (relayAll t2 es1 (SetTable.grown es1.size)).2.1
            pure (some true)
          else pure (some true)) R E s := by
  refine wpAny_bind (wpAny_storeSet_of ho hd ?_ (fits_of_scanBound hb1))
  have ho1 := store_at (es' := es1) (t' := t2) ho hd
  have sb1 := Heap.SameBut.update s.heap a (Obj.putSet es1 t2)
  by_cases full : (!wasDummy && t2.tooFull) = true
  · rw [if_pos full]
    have pm := relayAll_perm t2 es1 (SetTable.grown es1.size)
    have hf3 := relayAll_fits t2 es1 (SetTable.grown es1.size)
    have hr3 := relayAll_ris t2 es1 (SetTable.grown es1.size)
    have hl3 := relayAll_led t2 es1 (SetTable.grown es1.size)
    generalize relayAll t2 es1 (SetTable.grown es1.size) = Z at pm hf3 hr3 hl3 ⊢
    obtain ⟨es2, t3, gave⟩ := Z
    dsimp only at pm hf3 hr3 hl3 ⊢
    have hsz : es2.size = es1.size := by rw [← Array.length_toList, pm.length_eq, Array.length_toList]
    have hb2 : es2.size < scanBound := by rw [hsz]; exact hb1
    refine wpAny_bind (hg _ _ _ (wpAny_bind (wpAny_storeSet_of ho1 rfl (wpAny_pure (hR _ (sb1.trans (Heap.SameBut.update _ a _)) ?_)) (fits_of_scanBound hb2))))
    exact ⟨_, es2, _, t3, store_at (es' := es2) (t' := t3) ho1 rfl, hex, rfl, g1.perm pm, fun k => (m1 k).trans ⟨fun ⟨e, he, q⟩ => ⟨e, pm.mem_iff.mpr he, q⟩, fun ⟨e, he, q⟩ => ⟨e, pm.mem_iff.mp he, q⟩⟩, hb2, hf3, hsz, hr3,
      hl.imp id fun z => by rw [hl3]; exact z⟩
  · rw [if_neg full]
    exact wpAny_pure (hR _ sb1 ⟨_, es1, _, t2, ho1, hex, rfl, g1, m1, hb1, hf2, rfl, hr, hl⟩)
theorem setG_add {k : K} {x : Value} {Q : Bool → Shared → Prop} (hkey : knd.is k x = true) (hsc : x.scannable = true) (R : SetG knd s.heap a S n) (room : n + 1 < scanBound)
    (hQ : ∀ h', Heap.SameBut a s.heap h' → SetG knd h' a (fun j => S j || decide (j = k)) (if S k = true then n else n + 1) → Q (!S k) { s with heap := h' }) :
    wpAny (model P w) A (setAddHashed a x (knd.hash k)) Q E s := by
  obtain ⟨o, es, ep, t, ho, hex, hd, hel, hm, hb, hf, hn, hr, hl⟩ := R
  unfold setAddHashed setAddHashedIn
  refine wpAny_holding (wpAny_bind (wpAny_setState_of ho hd hf ?_))
  dsimp only
  rw [byScan_of hsc hb hel]
  simp only [↓reduceIte]
  unfold setAddByScan
  refine wpAny_bind (wpAny_bind (wpAny_rule (wpAny_bind (wpAny_setScan_of hkey ho hd hf hel ?_))))
  cases hfi : List.findIdx? (fun e => knd.is k e.2) es.toList with
  | some j =>
    dsimp only
    obtain ⟨hj, pj, _⟩ := List.findIdx?_eq_some_iff_getElem.mp hfi
    have hSk : S k = true := (hm k).2 ⟨es.toList[j], List.getElem_mem hj, pj⟩
    refine wpAny_pure (wpAny_pure ?_)
    have q := hQ s.heap (Heap.SameBut.refl a s.heap) ⟨o, es, ep, t, ho, hex, hd, hel, fun i => by
      rw [Bool.or_eq_true, decide_eq_true_eq, ← hm i]
      exact ⟨fun z => z.elim id (fun e => e ▸ hSk), .inl⟩, hb, hf, by rw [if_pos hSk]; exact hn, hr, hl⟩
    rw [hSk] at q
    exact q
  | none =>
    dsimp only
    have hSk : S k = false := by
      cases q : S k with
      | false => rfl
      | true =>
        obtain ⟨e, he, q⟩ := (hm k).1 q
        have c := List.findIdx?_eq_none_iff.mp hfi e he
        rw [q] at c
        cases c
    have hgw : ∀ (b : Bool) {s₁ : Shared} {Q' : Unit → Shared → Prop}, Q' () s₁ → wpAny (model P w) A (match b with | true => rule "set.scan.the-table-gave-way" | false => pure ()) Q' E s₁ :=
      fun b s₁ Q' q => by cases b <;> first | exact wpAny_pure q | exact wpAny_rule q
    have pm := layNew_perm t es (knd.hash k) x
    have hf1 := layNew_fits t es (knd.hash k) x
    have hr1 := layNew_ris t es (knd.hash k) x hr
    have hl1 := layNew_led t es (knd.hash k) x
    generalize layNew t es (knd.hash k) x = Z at pm hf1 hr1 hl1 ⊢
    obtain ⟨es1, t1, wasDummy, gave⟩ := Z
    dsimp only at pm hf1 hr1 hl1 ⊢
    rw [Array.toList_push] at pm
    have g1 : ElemsOf knd es1.toList := (hel.push hkey hsc).perm pm
    have m1 : ∀ i, (S i || decide (i = k)) = true ↔ ∃ e ∈ es1.toList, knd.is i e.2 = true := mem_push_iff hkey hm pm
    have hsz : es1.size = n + 1 := by rw [← Array.length_toList, pm.length_eq, List.length_append, Array.length_toList, hn] <;> rfl
    have hb1 : es1.size < scanBound := by rw [hsz]; exact room
    have hled : w.params.followText "set-order" = true ∨ t1.led = true := hl.imp id fun z => by rw [hl1]; exact z
    have fin : ∀ h', Heap.SameBut a s.heap h' → SetG knd h' a (fun j => S j || decide (j = k)) es1.size → Q true { s with heap := h' } := fun h' sb r => by
      have q := hQ h' sb
      rw [hSk] at q
      rw [hsz] at r
      exact q r
    refine wpAny_bind (hgw _ ?_)
    split
    · refine wpAny_bind ?_
      rw [hashByValue_scannable 8 hsc]
      refine wpAny_pure ?_
      refine setG_tail ?_ ho hex hd g1 m1 hb1 ?_ ?_ ?_ ?_
      · intro b s₁ Q' q; cases b <;> first | exact wpAny_pure q | exact wpAny_rule q
      · first | (split <;> first | exact hf1 | exact SetTable.fits_plain_off hf1) | exact hf1
      · first | (split <;> exact hr1) | exact hr1
      · first | (split <;> exact hled) | exact hled
      · intro h' sb r; dsimp only; exact wpAny_pure (fin h' sb r)
    · refine wpAny_bind (wpAny_pure ?_)
      simp only [↓reduceIte]
      refine setG_tail ?_ ho hex hd g1 m1 hb1 hf1 hr1 hled ?_
      · intro b s₁ Q' q; cases b <;> first | exact wpAny_pure q | exact wpAny_rule q
      · intro h' sb r; dsimp only; exact wpAny_pure (fin h' sb r)
theorem metG_snoc (l : List K) (x : K) : met (l ++ [x]) = if (met l).contains x then met l else met l ++ [x] := by
  unfold met
  rw [List.foldl_append]
  rfl
theorem metG_len (l : List K) : (met l).length ≤ l.length := by
  have h : ∀ (l a : List K), (l.foldl (fun a x => if a.contains x then a else a ++ [x]) a).length ≤ a.length + l.length := by
    intro l
    induction l with
    | nil => intro a; exact Nat.le_refl _
    | cons y r ih =>
      intro a
      rw [List.foldl_cons]
      refine Nat.le_trans (ih _) ?_
      split
      · rw [List.length_cons]; omega
      · rw [List.length_append, List.length_cons, List.length_cons, List.length_nil]; omega
  have := h l []
  rw [List.length_nil, Nat.zero_add] at this
  exact this
theorem updG {I : Addr} {fp wr : List Addr} {G : Array GenState → Array GenState → Prop} {n : Nat} {Pv : Nat → Value → Prop} {St : Nat → Shared → Prop} {R : Result → Shared → Prop}
    (W : WalksS P w A.in1 I fp wr G n Pv St) (S : Addr) (hSf : S ∉ fp) (ks : List K) (hn : n = ks.length) (hb : ks.length + 1 < scanBound) (hval : ∀ i v, Pv i v → ∃ k, ks[i]? = some k ∧ knd.is k v = true ∧ v.scannable = true) :
    ∀ (j i : Nat) (s : Shared), n - i = j → i ≤ n → St i s → SetG knd s.heap S ((met (ks.take i)).contains ·) (met (ks.take i)).length →
      (∀ s', Moved (S :: wr) G s s' → SetG knd s'.heap S ((met ks).contains ·) (met ks).length → R (.ok (.ret .none)) s') →
      codeAny (model P w) A (.builtin "set.update.loop" ⟨[.ref S, .ref I], []⟩) R s := by
  have hSw : S ∉ wr := fun h => hSf (W.sub _ h)
  have hsub : ∀ b ∈ wr, b ∈ S :: wr := fun b hb => List.mem_cons_of_mem _ hb
  intro j
  induction j with
  | zero =>
    intro i s hk' hi hst hS hR
    have hin : i = n := by omega
    subst hin
    refine codeAny_builtin PyProof.Rows.F.entry_set_update_loop ?_
    rw [Around.under_plainId PyProof.Rows.F.plain_set_update_loop _]
    show wpAny _ A.in1 (pyNext (.ref I) >>= _) _ _ s
    refine wpAny_bind (W.done s _ _ hst fun s' hm => ?_)
    show wpAny _ A.in1 (ret Value.none) _ _ s'
    have e : ks.take i = ks := List.take_of_length_le (by omega)
    rw [e] at hS
    exact wpAny_pure (hR s' (hm.mono hsub) (hS.at fun o e => hm.heap S o hSw e))
  | succ j ih =>
    intro i s hk' hi hst hS hR
    have hlt : i < n := by omega
    refine codeAny_builtin PyProof.Rows.F.entry_set_update_loop ?_
    rw [Around.under_plainId PyProof.Rows.F.plain_set_update_loop _]
    show wpAny _ A.in1 (pyNext (.ref I) >>= _) _ _ s
    refine wpAny_bind (W.item i s _ _ hlt hst fun v s' hP hst' hm => ?_)
    obtain ⟨z, hz, his, hsc⟩ := hval i v hP
    have hS' := hS.at (h' := s'.heap) fun o e => hm.heap S o hSw e
    have hml : (met (ks.take i)).length ≤ ks.length := Nat.le_trans (metG_len _) (by rw [List.length_take]; omega)
    show wpAny _ A.in1 (holding [v] (setAdd S v) >>= _) _ _ s'
    refine wpAny_bind (wpAny_holding ?_)
    unfold setAdd
    refine wpAny_holding (wpAny_bind (knd.pyHash (k := z) his ?_))
    refine setG_add (s := { s' with toks := s'.toks + 1 }) his hsc hS' (by omega) fun h' hsb hS2 => ?_
    have hmm : met (ks.take (i + 1)) = if (met (ks.take i)).contains z then met (ks.take i) else met (ks.take i) ++ [z] := by
      rw [List.take_add_one, hz]
      exact metG_snoc _ _
    have hS3 : SetG knd h' S ((met (ks.take (i + 1))).contains ·) (met (ks.take (i + 1))).length := by
      refine hS2.congr (fun k' => ?_) ?_
      · rw [hmm]
        by_cases c : (met (ks.take i)).contains z = true
        · rw [if_pos c]
          by_cases e : k' = z
          · rw [e, c]; rfl
          · simp [e]
        · rw [if_neg c]
          by_cases e : k' = z
          · subst e; simp
          · simp [e]
      · rw [hmm]
        split
        · rfl
        · rw [List.length_append] <;> rfl
    refine wpAny_pure ⟨plainId_quiet PyProof.Rows.F.plain_set_update_loop _, ih (i + 1) _ (by omega) hlt (W.frame _ s' _ _ hst' (Nat.le_succ _) fun b hb o e => ?_) hS3 fun s'' hm'' hS'' => ?_⟩
    · rw [hsb.2 b (fun h : b = S => hSf (by rw [← h]; exact hb))]; exact e
    · refine hR s'' (Moved.trans W.gtrans ((hm.mono hsub).then_heap (Nat.le_succ _) fun b o hb e => ?_) hm'') hS''
      rw [hsb.2 b (fun h : b = S => hb (by rw [h]; exact List.mem_cons_self))]; exact e
theorem freshG {h : Heap} {a : Addr} (ho : h.get? a = some { cls := .type "set", dict := none, data := .set #[] 0 (.fresh 0 0 (!w.params.followText "set-order")) }) : SetG knd h a (([] : List K).contains ·) 0 :=
  ⟨_, #[], 0, _, ho, ⟨rfl, rfl, rfl⟩, rfl, (fun e he => by simp at he), (fun k => by simp), (by decide), (by rfl), rfl, List.Pairwise.nil, by
    show _ ∨ (!w.params.followText "set-order") = true
    cases w.params.followText "set-order"
    · exact .inr rfl
    · exact .inl rfl⟩
set_option maxRecDepth 100000 in
set_option maxHeartbeats 3200000 in
theorem call_setG {l : Addr} {items : Array Value} (ks : List K) {Q : Value → Shared → Prop} (hh : A.handled = none) (hl : s.heap.IsList l items) (hlen : items.size = ks.length) (hb : ks.length + 1 < scanBound)
    (hval : ∀ (i : Nat) (v : Value), items[i]? = some v → ∃ k, ks[i]? = some k ∧ knd.is k v = true ∧ v.scannable = true)
    (h : ∀ (h' : Heap) (tk : Nat), SetG knd h' s.heap.objs.size ((met ks).contains ·) (met ks).length → (∀ b o, s.heap.get? b = some o → h'.get? b = some o) → Q (.ref s.heap.objs.size) { s with heap := h', toks := tk }) :
    wpAny (model P w) A (call (.type "set") [.ref l]) Q E s := by
  obtain ⟨c, tl, hmro⟩ := PySem.F.called_set.mro
  have hmade := PySem.F.called_set.made
  have hsub := PySem.F.called_set.sub
  refine wpAny_call (codeAny_of_tree ?_)
  show wpAny _ _ (callAny (.type "set") _) _ _ _
  refine wpAny_pure ⟨Code.quiet_builtin _ (by decide +kernel), codeAny_builtin PySem.F.entry_type_call ?_⟩
  rw [Around.under_plain (weight_type_call_type "set" [.ref l] []) rfl]
  have h1 := PySem.F.called_set.notType
  have h2 := PySem.F.called_set.canCreate
  have hct := PySem.F.typeCall_set_1 (.ref l)
  repeat (any_goals (first | assumption | wp_step))
  refine codeAny_mono (L2.code_set_led1 (.ref l) (E := E) (Q₁ := fun obj s₁ => obj = .ref s.heap.objs.size ∧ s₁ = { s with heap := s.heap.push { cls := .type "set", dict := none, data := .set #[] 0 (.fresh 0 0 (!w.params.followText "set-order")) } }) ⟨rfl, rfl⟩) fun r s₁ hr => ?_
  cases r with
  | error e => exact hr
  | ok fl =>
    cases fl with
    | ret obj =>
      obtain ⟨rfl, rfl⟩ := hr
      have hS : (s.heap.push { cls := .type "set", dict := none, data := .set #[] 0 (.fresh 0 0 (!w.params.followText "set-order")) }).get? s.heap.objs.size = some { cls := .type "set", dict := none, data := .set #[] 0 (.fresh 0 0 (!w.params.followText "set-order")) } := Heap.get?_push_size _ rfl
      have hT : Shared.TypeIs { s with heap := s.heap.push { cls := .type "set", dict := none, data := .set #[] 0 (.fresh 0 0 (!w.params.followText "set-order")) } } (.ref s.heap.objs.size) "set" := ⟨_, hS, rfl⟩
      have hli := PySem.F.called_set.init.lookup
      have hbi := PySem.F.called_set.init.bind (.ref s.heap.objs.size)
      repeat (any_goals (first | assumption | wp_step))
      refine codeAny_mono (codeAny_call_builtin (R := wants (fun r s₂ => r = .none ∧ ∃ h' tk, s₂ = { s with heap := h', toks := tk } ∧ SetG knd h' s.heap.objs.size ((met ks).contains ·) (met ks).length ∧
          (∀ b o, s.heap.get? b = some o → h'.get? b = some o)) E) PySem.F.called_set.init.plain PySem.F.entry_set_init (check_set_init_1 hT ?_)) fun r₂ s₂ hr₂ => ?_
      · obtain ⟨ol, hol, hcl, nl, hdl⟩ := hl
        obtain ⟨ocls, odict, odata, oslots⟩ := ol
        simp only at hcl hdl
        subst hcl; subst hdl
        have hol' : (s.heap.push { cls := .type "set", dict := none, data := .set #[] 0 (.fresh 0 0 (!w.params.followText "set-order")) }).get? l = some { cls := .type "list", dict := odict, data := .seq items nl, slots := oslots } := Heap.get?_push_of_some _ hol
        have hsls := PySem.F.sub_list_set
        have hslf := PySem.F.sub_list_frozenset
        have hne : (Value.type "list" == Value.type "dict") = false := by decide
        have hl1 : (s.heap.push { cls := .type "set", dict := none, data := .set #[] 0 (.fresh 0 0 (!w.params.followText "set-order")) }).IsList l items := ⟨_, hol', rfl, nl, rfl⟩
        unfold Builtin.«set.__init__» noKeywords Builtin.Frozenset.updateFrom
        generalize hPI : pyIter = PI
        wp_walk
        subst hPI
        refine wpAny_pyIter_list hl1 (wpAny_bind (wpAny_runValue ?_))
        have hlS : l < s.heap.objs.size := Heap.lt_size hol
        have hh3 : A.in1.in1.in1.handled = none := by simp [hh]
        have hneI : l ≠ (s.heap.push { cls := .type "set", dict := none, data := .set #[] 0 (.fresh 0 0 (!w.params.followText "set-order")) }).objs.size := by
          rw [Heap.size_push]; exact Nat.ne_of_lt (Nat.lt_succ_of_lt hlS)
        have hSf : s.heap.objs.size ∉ [(s.heap.push { cls := .type "set", dict := none, data := .set #[] 0 (.fresh 0 0 (!w.params.followText "set-order")) }).objs.size, l] := by
          rw [Heap.size_push]; simp only [List.mem_cons, List.mem_singleton, List.not_mem_nil, or_false, not_or]
          exact ⟨Nat.ne_of_lt (Nat.lt_succ_self _), Nat.ne_of_gt hlS⟩
        refine updG ((Walks.list hh3 _ l hneI items).toS) s.heap.objs.size
          hSf ks hlen hb hval _ 0 _ rfl (Nat.zero_le _) ⟨⟨_, Heap.get?_push_size _ rfl, rfl, rfl⟩, (hl1.push _)⟩ ?hS0 ?hR
        case hS0 => exact freshG (Heap.get?_push_of_some _ hS)
        case hR =>
          intro s' hm hS'
          obtain ⟨h', g2, d', tk', os'⟩ := s'
          have eg : g2 = s.gens := hm.gens
          have ed : d' = s.drawn := hm.drawn
          have eo : os' = s.os := hm.os
          subst eg; subst ed; subst eo
          show wpAny _ _ _ _ _ _
          refine wpAny_pure ?_
          show wpAny _ _ (ret Value.none) _ _ _
          refine wpAny_pure ⟨rfl, h', tk', rfl, hS', fun b o' e => ?_⟩
          have hb0 : b < s.heap.objs.size := Heap.lt_size e
          have hb1 : b ≠ s.heap.objs.size := Nat.ne_of_lt hb0
          have hb2 : b ≠ (s.heap.push { cls := .type "set", dict := none, data := .set #[] 0 (.fresh 0 0 (!w.params.followText "set-order")) }).objs.size := by
            rw [Heap.size_push]; exact Nat.ne_of_lt (Nat.lt_succ_of_lt hb0)
          exact hm.heap b o' (by simp only [List.mem_cons, List.mem_singleton, List.not_mem_nil, or_false, not_or]; exact ⟨hb1, hb2⟩) (Heap.get?_push_of_some _ (Heap.get?_push_of_some _ e))
      · cases r₂ with
        | error e => exact hr₂
        | ok fl₂ =>
          cases fl₂ with
          | ret r =>
            obtain ⟨rfl, h', tk, rfl, hS', hk'⟩ := hr₂
            repeat (any_goals (first | assumption | wp_step))
            exact h _ _ hS' hk'
          | _ => exact hr₂.elim
    | _ => exact hr.elim
end
end Hue
namespace Hue
open PySem PySem.Spec PyProof.Rows L2
theorem perm_of_sub {α : Type} [BEq α] [LawfulBEq α] : ∀ {m l : List α}, m.Nodup → (∀ x ∈ m, x ∈ l) → l.length ≤ m.length → l.Perm m
  | [], l, _, _, h => by
    have : l = [] := List.eq_nil_of_length_eq_zero (by simpa using h)
    rw [this]
  | x :: r, l, nd, sub, h => by
    have hx : x ∈ l := sub x List.mem_cons_self
    obtain ⟨n1, n2⟩ := List.nodup_cons.mp nd
    refine (List.perm_cons_erase hx).trans (List.Perm.cons x (perm_of_sub n2 (fun y hy => ?_) ?_))
    · have hne : y ≠ x := fun e => n1 (e ▸ hy)
      exact (List.mem_erase_of_ne hne).mpr (sub y (List.mem_cons_of_mem _ hy))
    · rw [List.length_erase_of_mem hx]
      rw [List.length_cons] at h
      omega
theorem met_spec {α : Type} [BEq α] [LawfulBEq α] (l : List α) : (met l).Nodup ∧ ∀ x, x ∈ met l ↔ x ∈ l := by
  have h : ∀ (l a : List α), a.Nodup → (l.foldl (fun a x => if a.contains x then a else a ++ [x]) a).Nodup ∧ ∀ x, x ∈ l.foldl (fun a x => if a.contains x then a else a ++ [x]) a ↔ x ∈ a ∨ x ∈ l := by
    intro l
    induction l with
    | nil => intro a ha; exact ⟨ha, fun x => by simp⟩
    | cons y r ih =>
      intro a ha
      rw [List.foldl_cons]
      by_cases c : a.contains y = true
      · rw [if_pos c]
        obtain ⟨h1, h2⟩ := ih a ha
        refine ⟨h1, fun x => (h2 x).trans ?_⟩
        have : y ∈ a := by simpa using c
        constructor
        · rintro (h | h)
          · exact .inl h
          · exact .inr (List.mem_cons_of_mem _ h)
        · rintro (h | h)
          · exact .inl h
          · rcases List.mem_cons.mp h with rfl | h
            · exact .inl this
            · exact .inr h
      · rw [if_neg c]
        have hy : y ∉ a := by simpa using c
        obtain ⟨h1, h2⟩ := ih (a ++ [y]) (by
          rw [List.nodup_append]
          refine ⟨ha, by simp, fun p hp q hq e => ?_⟩
          rw [List.mem_singleton] at hq
          exact hy (hq ▸ e ▸ hp))
        refine ⟨h1, fun x => (h2 x).trans ?_⟩
        simp [List.mem_append, List.mem_cons, or_assoc]
  obtain ⟨h1, h2⟩ := h l [] List.nodup_nil
  exact ⟨h1, fun x => (h2 x).trans (by simp)⟩
/-! ### the order of texts -/
theorem ltN_anti : ∀ x y : List Nat, ltN x y = false → ltN y x = false → x = y
  | [], [], _, _ => rfl
  | [], _ :: _, h, _ => by cases h
  | _ :: _, [], _, h => by cases h
  | x :: r, y :: s, h1, h2 => by
    rw [ltN] at h1 h2
    by_cases a : x < y
    · rw [if_pos a] at h1; cases h1
    · rw [if_neg a] at h1
      by_cases b : y < x
      · rw [if_pos b] at h2; cases h2
      · rw [if_neg b] at h1 h2
        rw [if_neg a] at h2
        have : x = y := by omega
        subst this
        rw [ltN_anti r s h1 h2]
theorem ltN_irr : ∀ x : List Nat, ltN x x = false
  | [] => rfl
  | x :: r => by rw [ltN, if_neg (Nat.lt_irrefl _), if_neg (Nat.lt_irrefl _), ltN_irr r]
theorem ltN_trans' {x y z : List Nat} (h1 : ltN y x = false) (h2 : ltN z y = false) : ltN z x = false := by
  rw [ltN_iff] at h1 h2 ⊢
  have h1 := of_decide_eq_false h1
  have h2 := of_decide_eq_false h2
  refine decide_eq_false fun h => ?_
  have a := List.not_lt.mp h1
  have b := List.not_lt.mp h2
  exact List.not_lt.mpr (List.le_trans a b) h
theorem insS_perm (x : List Nat) : ∀ l : List (List Nat), (insS x l).Perm (x :: l)
  | [] => List.Perm.refl _
  | y :: r => by
    rw [insS]
    split
    · exact ((insS_perm x r).cons y).trans (List.Perm.swap x y r)
    · exact List.Perm.refl _
theorem sortS_perm : ∀ l : List (List Nat), (sortS l).Perm l
  | [] => List.Perm.refl _
  | x :: r => (insS_perm x _).trans ((sortS_perm r).cons x)
def LeS (a b : List Nat) : Prop := ltN b a = false
theorem insS_sorted (x : List Nat) : ∀ l : List (List Nat), l.Pairwise LeS → (insS x l).Pairwise LeS
  | [], _ => by simp [insS]
  | y :: r, h => by
    obtain ⟨h1, h2⟩ := List.pairwise_cons.mp h
    rw [insS]
    by_cases c : ltN y x = true
    · rw [if_pos c]
      refine List.pairwise_cons.mpr ⟨fun z hz => ?_, insS_sorted x r h2⟩
      rcases List.mem_cons.mp ((insS_perm x r).mem_iff.mp hz) with rfl | hz
      · have hyz : ¬ ltN z y = true := fun q => by
          rw [ltN_iff] at c q
          have c := of_decide_eq_true c
          have q := of_decide_eq_true q
          exact List.lt_irrefl _ (List.lt_trans c q)
        exact Bool.eq_false_iff.mpr hyz
      · exact h1 z hz
    · rw [if_neg c]
      refine List.pairwise_cons.mpr ⟨fun z hz => ?_, h⟩
      have cx : ltN y x = false := Bool.eq_false_iff.mpr c
      rcases List.mem_cons.mp hz with rfl | hz
      · exact cx
      · exact ltN_trans' cx (h1 z hz)
theorem sortS_sorted : ∀ l : List (List Nat), (sortS l).Pairwise LeS
  | [] => List.Pairwise.nil
  | x :: r => insS_sorted x _ (sortS_sorted r)
theorem sortS_uniq : ∀ {l m : List (List Nat)}, l.Perm m → l.Pairwise LeS → m.Pairwise LeS → l = m
  | [], m, p, _, _ => (List.nil_perm.mp p).symm
  | x :: r, [], p, _, _ => absurd (List.perm_nil.mp p) (by simp)
  | x :: r, y :: s, p, h1, h2 => by
    obtain ⟨a1, a2⟩ := List.pairwise_cons.mp h1
    obtain ⟨b1, b2⟩ := List.pairwise_cons.mp h2
    have e : x = y := by
      have hx : x ∈ y :: s := p.mem_iff.mp List.mem_cons_self
      have hy : y ∈ x :: r := p.mem_iff.mpr List.mem_cons_self
      rcases List.mem_cons.mp hx with e | hx
      · exact e
      · rcases List.mem_cons.mp hy with e | hy
        · exact e.symm
        · exact ltN_anti x y (b1 x hx) (a1 y hy)
    subst e
    rw [sortS_uniq (List.perm_cons _ |>.mp p) a2 b2]
end Hue
namespace Hue
open PySem PySem.Spec PyProof.Rows L2
section
variable {P : Program} {w : World} {A : Around} {E : Value → Shared → Prop} {s : Shared} {a : Addr}
theorem keys_int : ∀ (vs : List Value), (∀ v ∈ vs, ∃ k : Int, (intKind P w).is k v = true) → ∃ ns, IntsAre vs ns ∧ ∀ k, k ∈ ns ↔ ∃ v ∈ vs, (intKind P w).is k v = true
  | [], _ => ⟨[], .nil, fun k => by simp⟩
  | v :: r, h => by
    obtain ⟨ns, h1, h2⟩ := keys_int r fun u hu => h u (List.mem_cons_of_mem _ hu)
    obtain ⟨k, hk⟩ := h v List.mem_cons_self
    have : ∃ tk, v = .int k tk := by
      cases v with
      | int k' tk =>
        have : k' = k := by simpa [intKind, Value.isInt] using hk
        exact ⟨tk, by rw [this]⟩
      | _ => exact absurd hk (by simp [intKind, Value.isInt])
    obtain ⟨tk, rfl⟩ := this
    refine ⟨k :: ns, .cons k tk h1, fun j => ?_⟩
    rw [List.mem_cons, h2 j]
    constructor
    · rintro (rfl | ⟨u, hu, e⟩)
      · exact ⟨_, List.mem_cons_self, hk⟩
      · exact ⟨u, List.mem_cons_of_mem _ hu, e⟩
    · rintro ⟨u, hu, e⟩
      rcases List.mem_cons.mp hu with rfl | hu
      · exact .inl ((intKind P w).inj _ _ _ e hk)
      · exact .inr ⟨u, hu, e⟩
theorem keys_str : ∀ (vs : List Value), (∀ v ∈ vs, ∃ k : Str, (PySem.strKind P w).is k v = true) → ∃ ns, StrsAre vs ns ∧ ∀ k, k ∈ ns ↔ ∃ v ∈ vs, (PySem.strKind P w).is k v = true
  | [], _ => ⟨[], .nil, fun k => by simp⟩
  | v :: r, h => by
    obtain ⟨ns, h1, h2⟩ := keys_str r fun u hu => h u (List.mem_cons_of_mem _ hu)
    obtain ⟨k, hk⟩ := h v List.mem_cons_self
    have : ∃ tk, v = .str k tk := by
      cases v with
      | str k' tk =>
        have : k' = k := by simpa [PySem.strKind, Value.isStrOf] using hk
        exact ⟨tk, by rw [this]⟩
      | _ => exact absurd hk (by simp [PySem.strKind, Value.isStrOf])
    obtain ⟨tk, rfl⟩ := this
    refine ⟨k :: ns, .cons k tk h1, fun j => ?_⟩
    rw [List.mem_cons, h2 j]
    constructor
    · rintro (rfl | ⟨u, hu, e⟩)
      · exact ⟨_, List.mem_cons_self, hk⟩
      · exact ⟨u, List.mem_cons_of_mem _ hu, e⟩
    · rintro ⟨u, hu, e⟩
      rcases List.mem_cons.mp hu with rfl | hu
      · exact .inl ((PySem.strKind P w).inj _ _ _ e hk)
      · exact .inr ⟨u, hu, e⟩
/-- sorted(a set): gathered, laid, sorted in place -/
theorem sortedG {K : Type} [DecidableEq K] {knd : PySem.KeyKind P w K} {ks : List K} {Q : Value → Shared → Prop} {Ok : Array Value → Prop} (R : SetG knd s.heap a ((met ks).contains ·) (met ks).length) (hh : A.handled = none) (h60 : ks.length < 60)
    (srt : ∀ (A' : Around) (E' : Value → Shared → Prop) (s1 : Shared) (p : Addr) (vs : List Value) (n : Nat) (P' : Fin → Shared → Prop), s1.heap.get? p = some (seqObj "list" vs.toArray n) → vs.length < 64 → vs.length = (met ks).length → (∀ v ∈ vs, ∃ k, knd.is k v = true) → (∀ k, k ∈ met ks ↔ ∃ v ∈ vs, knd.is k v = true) →
      (∀ out : Array Value, Ok out → P' (.done (.ret .none)) { s1 with heap := sortedHeap s1.heap p vs out }) → wpAny (model P w) A' (Builtin.«list.sort» ⟨[.ref p], []⟩) P' E' s1)
    (hQ : ∀ (s' : Shared) (p : Addr) (out : Array Value) (c : Nat), (∀ b o, s.heap.get? b = some o → s'.heap.get? b = some o) → s'.gens = s.gens → s'.os = s.os → s.heap.objs.size ≤ p → s'.heap.get? p = some (seqObj "list" out c) → Ok out → Q (.ref p) s') :
    wpAny (model P w) A (call (.builtin "sorted") [.ref a]) Q E s := by
  obtain ⟨o, es, ep, t, ho, hex, hd, hel, hm, hb, hf, hn, hr, hl⟩ := R
  have hml := metG_len ks
  refine Calls.call_function_entry kind_sorted plain_sorted entry_sorted (args_sorted1 _) ?_
  unfold Builtin.«sorted»
  refine wpAny_bind (m := checkCount "sorted" 1 1 _) (wpAny_pure ?_)
  refine wpAny_bind (collect_set (A := A.in1) hh ⟨o, ho, hex.1, hd⟩ hf hb hr hl fun s1 vs k1 hz g1 o1 pm => ?_)
  have hvl : vs.length = (met ks).length := by rw [pm.length_eq, List.length_map, Array.length_toList]; exact hn
  have mem : ∀ v, v ∈ vs ↔ ∃ e ∈ es.toList, e.2 = v := fun v => by rw [pm.mem_iff, List.mem_map]
  refine wpAny_bind (wpAny_newList ?_ (by rw [hvl, sizeLine_eq]; omega))
  have hoL : (s1.heap.push (seqObj "list" vs.toArray 0)).get? s1.heap.objs.size = some (seqObj "list" vs.toArray 0) := Heap.get?_push_size _ rfl
  refine wpAny_bind (wpAny_holding (wpAny_call_entry slot_list_sort ⟨_, hoL, rfl⟩ entry_list_sort (srt _ _ { s1 with heap := s1.heap.push (seqObj "list" vs.toArray 0) } s1.heap.objs.size vs 0 _ hoL (by omega) hvl (fun v hv => ?_) (fun k => ?_) fun out ok => ⟨_, rfl, ?_⟩) (args_list_sort _)))
  · obtain ⟨e, he, rfl⟩ := (mem v).mp hv
    obtain ⟨⟨k, hk, _⟩, _⟩ := hel e he
    exact ⟨k, hk⟩
  · have := hm k
    rw [List.contains_iff_mem] at this
    rw [this]
    exact ⟨fun ⟨e, he, q⟩ => ⟨e.2, (mem _).mpr ⟨e, he, rfl⟩, q⟩, fun ⟨v, hv, q⟩ => by
      obtain ⟨e, he, rfl⟩ := (mem v).mp hv
      exact ⟨e, he, q⟩⟩
  · obtain ⟨c, hc⟩ := sortedHeap_at (vs := vs) (out := out) hoL
    refine wpAny_pure ⟨_, rfl, hQ _ s1.heap.objs.size out c (fun b u e => ?_) g1 o1 hz hc ok⟩
    have q := k1 b u e
    have hlt := Heap.lt_size q
    show (sortedHeap (s1.heap.push (seqObj "list" vs.toArray 0)) s1.heap.objs.size vs out).get? b = some u
    rw [sortedHeap_old (Nat.ne_of_lt hlt) (by rw [size_push']; exact Nat.lt_succ_of_lt hlt)]
    exact Heap.get?_push_of_some _ q
theorem srt_int {ks : List Int} (A' : Around) (E' : Value → Shared → Prop) (s1 : Shared) (p : Addr) (vs : List Value) (n : Nat) (P' : Fin → Shared → Prop) (ho : s1.heap.get? p = some (seqObj "list" vs.toArray n)) (h64 : vs.length < 64) (hl : vs.length = (met ks).length) (h1 : ∀ v ∈ vs, ∃ k, (intKind P w).is k v = true) (h2 : ∀ k, k ∈ met ks ↔ ∃ v ∈ vs, (intKind P w).is k v = true)
    (h : ∀ out : Array Value, IntsAre out.toList (sortI (met ks)) → P' (.done (.ret .none)) { s1 with heap := sortedHeap s1.heap p vs out }) : wpAny (model P w) A' (Builtin.«list.sort» ⟨[.ref p], []⟩) P' E' s1 := by
  obtain ⟨ns, hI, hk⟩ := keys_int vs h1
  refine list_sort_tree ho hI h64 fun out ns' a1 a2 a3 => h out ?_
  have pm : ns.Perm (met ks) := perm_of_sub (met_spec ks).1 (fun k hk' => (hk k).mpr ((h2 k).mp hk')) (by rw [← hl, ← hI.length]; exact Nat.le_refl _)
  have e : ns' = sortI (met ks) := sorted_uniq (a2.trans (pm.trans (sortI_perm _).symm)) a3 (sortI_sorted _)
  rw [← e]
  exact a1
theorem rising_pairs : ∀ (x : Str) (l : List Str), risingS x l = true → (x :: l).Pairwise (fun a b => ltCps b.cps.toList a.cps.toList = false) := by
  intro x l
  induction l generalizing x with
  | nil => intro _; simp
  | cons y r ih =>
    intro h
    have h : (!ltCps y.cps.toList x.cps.toList && risingS y r) = true := h
    rw [Bool.and_eq_true] at h
    have h2 := ih y h.2
    refine List.pairwise_cons.mpr ⟨fun z hz => ?_, h2⟩
    have hxy : ltCps y.cps.toList x.cps.toList = false := by simpa using h.1
    rcases List.mem_cons.mp hz with rfl | hz
    · exact hxy
    · have := (List.pairwise_cons.mp h2).1 z hz
      rw [ltCps_eq] at this hxy ⊢
      have a1 := List.not_lt.mp (of_decide_eq_false hxy)
      have a2 := List.not_lt.mp (of_decide_eq_false this)
      exact decide_eq_false (List.not_lt.mpr (List.le_trans a1 a2))
theorem srt_str {ls : List (List Nat)} (A' : Around) (E' : Value → Shared → Prop) (s1 : Shared) (p : Addr) (vs : List Value) (n : Nat) (P' : Fin → Shared → Prop) (ho : s1.heap.get? p = some (seqObj "list" vs.toArray n)) (h64 : vs.length < 64) (hl : vs.length = (met (ls.map S)).length) (h1 : ∀ v ∈ vs, ∃ k, (PySem.strKind P w).is k v = true) (h2 : ∀ k, k ∈ met (ls.map S) ↔ ∃ v ∈ vs, (PySem.strKind P w).is k v = true)
    (h : ∀ out : Array Value, StrsAre out.toList ((sortS (met ls)).map S) → P' (.done (.ret .none)) { s1 with heap := sortedHeap s1.heap p vs out }) : wpAny (model P w) A' (Builtin.«list.sort» ⟨[.ref p], []⟩) P' E' s1 := by
  obtain ⟨ns, hI, hk⟩ := keys_str vs h1
  refine list_sort_treeK strKind_oneLt ho hI.keysOf (fun v₁ v₂ rest e => keyKind_strs (by rw [← e]; exact hI)) h64 fun st' hp hs => ?_
  obtain ⟨ss', a1, a2, a3⟩ := sorted_out_str hI hp hs
  refine h _ ?_
  have hSi : ∀ x y : List Nat, S x = S y → x = y := fun x y e => by injection e with e; injection e
  have mm : met (ls.map S) = (met ls).map S := by
    have gen : ∀ (l a : List (List Nat)), (l.map S).foldl (fun a x => if a.contains x then a else a ++ [x]) (a.map S) = (l.foldl (fun a x => if a.contains x then a else a ++ [x]) a).map S := by
      intro l
      induction l with
      | nil => intro a; rfl
      | cons y r ih =>
        intro a
        rw [List.map_cons, List.foldl_cons, List.foldl_cons]
        have c : (a.map S).contains (S y) = a.contains y := by
          rw [Bool.eq_iff_iff, List.contains_iff_mem, List.contains_iff_mem, List.mem_map]
          exact ⟨fun ⟨z, hz, e⟩ => hSi _ _ e ▸ hz, fun hz => ⟨y, hz, rfl⟩⟩
        rw [c, ← ih]
        congr 1
        split
        · rfl
        · rw [List.map_append]; rfl
    exact gen ls []
  have pm : ns.Perm ((met ls).map S) := by
    rw [← mm]
    exact perm_of_sub (met_spec _).1 (fun k hk' => (hk k).mpr ((h2 k).mp hk')) (by rw [← hl, ← hI.length]; exact Nat.le_refl _)
  have p2 : ss'.Perm ((sortS (met ls)).map S) := a2.trans (pm.trans ((sortS_perm _).symm.map S))
  have e : ss' = (sortS (met ls)).map S := by
    have h3 : ∃ ms : List (List Nat), ss' = ms.map S := ⟨ss'.map fun x => x.cps.toList, by
      rw [List.map_map]
      conv => lhs; rw [← List.map_id ss']
      exact List.map_congr_left fun x _ => by obtain ⟨c⟩ := x; simp⟩
    obtain ⟨ms, rfl⟩ := h3
    congr 1
    refine sortS_uniq ?_ ?_ (sortS_sorted _)
    · have := p2.map fun x : Str => x.cps.toList
      rw [List.map_map, List.map_map] at this
      have e1 : ∀ l : List (List Nat), l.map ((fun x : Str => x.cps.toList) ∘ S) = l := fun l => by
        conv => rhs; rw [← List.map_id l]
        exact List.map_congr_left fun x _ => by simp
      rw [e1, e1] at this
      exact this
    · cases ms with
      | nil => exact List.Pairwise.nil
      | cons x r =>
        have := rising_pairs (S x) (r.map S) a3
        rw [← List.map_cons, List.pairwise_map] at this
        exact this.imp fun {a b} q => by
          unfold LeS
          rw [ltN_iff]
          rw [ltCps_eq] at q
          simpa using q
  rw [← e]
  exact a1
end
end Hue
/-! readings: x[::-1], xs[-2::-1], list(range(..)), sorted(set(..)), methods -/
namespace Hue
open PySem PySem.Spec PyProof.Rows L2
section
variable {X : Cx} {c : Cc} {k : Nat} {W : WX} {Z : Wo} {Γ : Gm} {a b e o : Expr} {fa fb : Env → R D} {m : Md} {pos p : Pos}
theorem pe_or {t1 t2 : TE} (h1 : PE X e t1) (h2 : PE X e t2) : PE X e (fun σ H Q => t1 σ H Q ∨ t2 σ H Q) := ⟨fun pins s σ H Q I q => by
  rcases q with q | q
  · exact h1.run pins s σ H Q I q
  · exact h2.run pins s σ H Q I q⟩
theorem isM1_of {st : Expr} (h : isM1 st = true) : ∃ j p1 p2, st = .UnaryOp .USub (.Constant (.int 1) j p1) p2 := by
  unfold isM1 at h
  split at h
  · exact ⟨_, _, _, rfl⟩
  · cases h
theorem isM2_of {st : Expr} (h : isM2 st = true) : ∃ j p1 p2, st = .UnaryOp .USub (.Constant (.int 2) j p1) p2 := by
  unfold isM2 at h
  split at h
  · exact ⟨_, _, _, rfl⟩
  · cases h
theorem re_rev (dx : DX X c k W Z) {j : Nat} {p1 p2 p3 : Pos} (hm : m = .keep ∨ m = .fresh) (ha : PE X a (RE Z W Γ .read fa)) :
    PE X (.Subscript a (.Slice none none (some (.UnaryOp .USub (.Constant (.int 1) j p1) p2)) p3) p) (RE Z W Γ m (fun e => (fa e).bind revF)) := by
  refine PEi (pe_rev ha) fun σ H Q q => ?_
  obtain ⟨F0, H0, F, e, I, q⟩ := q
  refine ⟨F0, H0, F, e, I, pst_bind q fun x F1 H1 x1 q1 v1 r1 => ?_⟩
  rw [← dx.kz]
  cases x with
  | lst ds =>
    obtain ⟨pp, xs, rfl, hp, rl, hl⟩ := r1.rdL x1.sub
    exact .inl ⟨pp, xs, rfl, .inl (.inl hp), fun q hq => GV_lst hm x1.sub x1.hh hq rl.reverse (by rw [List.length_reverse]; exact hl) q1⟩
  | str l =>
    cases r1.rdV rfl with
    | str _ hl => exact .inr ⟨l, rfl, hl, GV_str hm x1.sub (by rw [List.length_reverse]; exact hl) q1⟩
  | _ => exact False.elim q1
theorem dropLast_repL {F : Hp} {vs : List V} {ds : List D} (h : RepL Z F vs ds) : RepL Z F vs.dropLast ds.dropLast := by
  rw [List.dropLast_eq_take, List.dropLast_eq_take, h.length]
  exact h.take _
theorem re_rev2 (dx : DX X c k W Z) {j j2 : Nat} {p1 p2 p3 q1 q2 : Pos} (hm : m = .keep ∨ m = .fresh) (ha : PE X a (RE Z W Γ .read fa)) :
    PE X (.Subscript a (.Slice (some (.UnaryOp .USub (.Constant (.int 2) j2 q1) q2)) none (some (.UnaryOp .USub (.Constant (.int 1) j p1) p2)) p3) p) (RE Z W Γ m (fun e => ((fa e).bind fun x => .ok [x]).bind fun ds => primF .rev2 ds)) := by
  refine PEi (pe_rev2 ha) fun σ H Q q => ?_
  obtain ⟨F0, H0, F, e, I, q⟩ := q
  dsimp only at q
  rw [R.bind_assoc] at q
  refine ⟨F0, H0, F, e, I, pst_bind q fun x F1 H1 x1 q1 v1 r1 => ?_⟩
  rw [← dx.kz]
  cases x with
  | lst ds =>
    obtain ⟨pp, xs, rfl, hp, rl, hl⟩ := r1.rdL x1.sub
    exact ⟨pp, xs, rfl, .inl (.inl hp), fun q hq => GV_lst hm x1.sub x1.hh hq (dropLast_repL rl).reverse (by rw [List.length_reverse, List.length_dropLast]; omega) q1⟩
  | _ => exact False.elim q1
theorem rgV_rep {F : Hp} (a b : Int) : RepL Z F (rgV a b) (rangeL a (b - a).toNat 1) := by
  unfold rgV rangeL
  have : ∀ l : List Nat, RepL Z F (l.map fun (i : Nat) => V.int (a + (i : Int))) (l.map fun (i : Nat) => D.int (a + (i : Int) * 1)) := fun l => by
    induction l with
    | nil => exact .nil
    | cons x r ih =>
      rw [List.map_cons, List.map_cons, Int.mul_one]
      exact .cons (.int _) ih
  exact this _
theorem re_lrng1 (dx : DX X c k W Z) {p1 p2 : Pos} (hg : isGl c "list" = true) (hb : bltn c "range" = true) (hm : m = .keep ∨ m = .fresh) (ha : PE X a (RE Z W Γ .keep fa)) (hs : starEach [a] X.env = [(false, eval a X.env)]) :
    PE X (.Call (.Name "list" p1) [.Call (.Name "range" p2) [a] [] p] [] pos) (RE Z W Γ m (fun e => ((fa e).bind fun x => .ok [x]).bind fun ds => primF .lrng1 ds)) := by
  obtain ⟨g1, g2, g3⟩ := isGl_ok dx hg
  obtain ⟨t1, t2, t3⟩ := bltn_ok dx hb
  refine PEi (pe_listRg dx.calm g1 (dx.blt _ (by decide +kernel)) (prg_1 t1 (dx.blt _ (by decide +kernel)) ha hs)) fun σ H Q q => ?_
  obtain ⟨F0, H0, F, e, I, q⟩ := q
  dsimp only at q
  rw [R.bind_assoc] at q
  refine ⟨F0, H0, F, e, I, pst_bind q fun x F1 H1 x1 q1 v1 r1 => ?_⟩
  cases (show Rep Z F1 v1 x from r1) with
  | int n =>
    simp only [R.bind_ok, primF] at q1
    by_cases h : 0 ≤ n ∧ n ≤ 1000000
    · rw [if_pos h] at q1
      have e0 : (n - 0).toNat = n.toNat := by rw [Int.sub_zero]
      refine ⟨n, rfl, RgOk.of_le (by omega) (by omega) (by omega) h.1, fun q hq => GV_lst hm x1.sub x1.hh hq ?_ ?_ q1⟩
      · rw [← e0]
        exact rgV_rep 0 n
      · rw [rangeL_len]
        have := line_big
        omega
    · rw [if_neg h] at q1
      exact q1.elim
  | _ => exact False.elim q1
theorem re_lrng2 (dx : DX X c k W Z) {p1 p2 : Pos} (hg : isGl c "list" = true) (hb : bltn c "range" = true) (hm : m = .keep ∨ m = .fresh) (ha : PE X a (RE Z W Γ .keep fa)) (hb2 : PE X b (RE Z W Γ .keep fb)) (hs : starEach [a, b] X.env = (false, eval a X.env) :: starEach [b] X.env) (hs2 : starEach [b] X.env = [(false, eval b X.env)]) :
    PE X (.Call (.Name "list" p1) [.Call (.Name "range" p2) [a, b] [] p] [] pos) (RE Z W Γ m (fun e => ((fa e).bind fun x => ((fb e).bind fun y => .ok [y]).bind fun ys => .ok (x :: ys)).bind fun ds => primF .lrng2 ds)) := by
  obtain ⟨g1, g2, g3⟩ := isGl_ok dx hg
  obtain ⟨t1, t2, t3⟩ := bltn_ok dx hb
  refine PEi (pe_listRg dx.calm g1 (dx.blt _ (by decide +kernel)) (prg_2 t1 (dx.blt _ (by decide +kernel)) ha hb2 hs hs2 (by rw [hs2]; rfl))) fun σ H Q q => ?_
  obtain ⟨F0, H0, F, e, I, q⟩ := q
  dsimp only at q
  rw [R.bind_assoc] at q
  refine ⟨F0, H0, F, e, I, pst_bind q fun x F1 H1 x1 q1 v1 r1 => ⟨F0, H0, F1, e, I.grow x1, ?_⟩⟩
  rw [R.bind_assoc, R.bind_assoc] at q1
  refine pst_bind q1 fun y F2 H2 x2 q2 v2 r2 => ?_
  cases (show Rep Z F1 v1 x from r1) with
  | int n =>
    cases (show Rep Z F2 v2 y from r2) with
    | int n2 =>
      simp only [R.bind_ok, primF] at q2
      by_cases h : 0 ≤ n ∧ n ≤ 1000000 ∧ 0 ≤ n2 ∧ n2 ≤ 1000000
      · rw [if_pos h] at q2
        refine ⟨n, n2, rfl, rfl, RgOk.of_le h.1 (by omega) (by omega) h.2.2.1, fun q hq => GV_lst hm x2.sub (x1.hh.trans x2.hh) hq (rgV_rep n n2) ?_ q2⟩
        rw [rangeL_len]
        have := line_big
        omega
      · rw [if_neg h] at q2
        exact q2.elim
    | _ => exact False.elim q2
  | _ =>
    cases (show Rep Z F2 v2 y from r2) <;> exact False.elim q2
end
end Hue
namespace Hue
open PySem PySem.Spec PyProof.Rows L2
theorem base_of {c : Cc} {Γ : Gm} {n : Nat} {o : Expr} {t : Tm} {nm : Str} {env : PySem.Env} {whole : Sem Value} (h : cmpR c Γ n o = some t) : attributeBase o nm env whole = whole := by
  cases o with
  | Call f args kws p =>
    cases f with
    | Name f fp =>
      cases args with
      | nil =>
        cases kws with
        | nil =>
          cases n with
          | zero => cases h
          | succ n =>
            replace h : cmpE c Γ n (.Call (.Name f fp) [] [] p) = some t := h
            cases n with
            | zero => cases h
            | succ n =>
              replace h : (if isGl c f then (match c.tab.lookup f with
                | some (.fn den fr ar) => (cmpEs c Γ n []).bind fun ts => if ([] : List Expr).length = ar ∧ ([] : List Expr) ≠ [] then some (Tm.call den fr ts) else none
                | some _ => none
                | none => none) else none) = some t := h
              exfalso
              split at h
              · split at h
                · cases n with
                  | zero => cases h
                  | succ n =>
                    have : (if ([] : List Expr).length = _ ∧ ([] : List Expr) ≠ [] then some (Tm.call _ _ _) else none) = some t := h
                    rw [if_neg (fun z => z.2 rfl)] at this
                    cases this
                · cases h
                · cases h
              · cases h
        | cons _ _ => rfl
      | cons _ _ => cases kws <;> rfl
    | _ => cases args <;> cases kws <;> rfl
  | _ => rfl
section
variable {X : Cx} {c : Cc} {k : Nat} {W : WX} {Z : Wo} {Γ : Gm} {a b e o : Expr} {fa fb : Env → R D} {m : Md} {pos p : Pos}
/-- a method of one thing, the receiver's kind known -/
theorem re_meth {T id : String} {name : Str} {ap : Pos} {pr : P} {r : V → List V → Hp → VK → Prop} {isT : D → Bool} (pa : PlainAttrs T) (slot : Slot T name id) (hty : typeOf (.builtin id) = pure (.type "method_descriptor")) (hmt : MtR X id r)
    (ha : PE X o (RE Z W Γ .read fa)) (hb : PE X b (RE Z W Γ .keep fb)) (hbase : attributeBase o name X.env (eval o X.env) = eval o X.env) (hline : (ap.endLine == p.line) = true) (hs : starEach [b] X.env = [(false, eval b X.env)])
    (hT : ∀ {x : D} {F H1 H : Hp} {v : V}, isT x = true → RepM Z .read F H1 H v x → Same F H → tyV X.K T v H)
    (hr : ∀ {x y : D} {F H1 H Hs : Hp} {v w : V} {Q : VK} {σ : L2.St}, isT x = true → RepM Z .read F H1 H v x → Rep Z F w y → Same F H → pst Z W F H σ (primF pr [x, y]) (GV Z .keep Hs Q) → r v [w] H Q) :
    PE X (.Call (.Attribute o name ap) [b] [] p) (fun σ H Q => ∃ F0 H0 F e, Inv0 Z F0 H0 Γ F H σ e ∧ (∀ x, fa e = .ok x → isT x = true) ∧ pst Z W F H σ ((fa e).bind fun x => if recvOk pr x then (fb e).bind fun y => primF pr [x, y] else .bad) (GV Z .keep H Q)) := by
  refine PEi (pe_bm pa slot hty hmt ha (pa_cons hb pa_nil hs) hbase ?_ hline hs rfl) fun σ H Q q => ?_
  · rw [hs]; rfl
  obtain ⟨F0, H0, F, e, I, hx, q⟩ := q
  refine ⟨F0, H0, F, e, I, ?_⟩
  cases he : fa e with
  | exc n => rw [he] at q; exact q
  | bad => rw [he] at q; exact q
  | ok x =>
    rw [he] at q
    intro F1 H1 x1 v1 r1
    have ht := hx x he
    refine ⟨hT ht r1 x1.sub, F0, H0, F1, e, I.grow x1, ?_⟩
    rw [R.bind_ok] at q
    by_cases ok : recvOk pr x = true
    · rw [if_pos ok] at q
      exact pst_bind (pst_ext q x1) fun y F2 H2 x2 q2 v2 r2 => hr ht (repR_grow r1 x2) r2 x2.sub q2
    · rw [if_neg ok] at q
      exact q.elim
def isStrD : D → Bool
  | .str _ => true
  | _ => false
def isLstD : D → Bool
  | .lst _ => true
  | _ => false
theorem strT {x : D} {F H1 H : Hp} {v : V} (h : isStrD x = true) (r : RepM Z .read F H1 H v x) (s : Same F H) : tyV X.K "str" v H := by
  cases x with
  | str l => cases r.rdV rfl; exact rfl
  | _ => cases h
theorem lstT (hz : Z.K = X.K) {x : D} {F H1 H : Hp} {v : V} (h : isLstD x = true) (r : RepM Z .read F H1 H v x) (s : Same F H) : tyV X.K "list" v H := by
  cases x with
  | lst l =>
    obtain ⟨pp, xs, rfl, hp, rl, hl⟩ := r.rdL s
    exact .inl ⟨rfl, xs, .inl (.inl hp)⟩
  | _ => cases h
theorem joinL_nil : ∀ l : List (List Nat), TL.joinL [] l = l.flatten
  | [] => rfl
  | [p] => by simp [TL.joinL]
  | p :: q :: r => by
    rw [TL.joinL, joinL_nil (q :: r)]
    simp
theorem tl_S (l : List Nat) : TL.tl (S l) = l := by simp [TL.tl]
theorem join_nil (ls : List (List Nat)) : Txt.join (S []) (ls.map S) = S ls.flatten := by
  refine TL.ext_tl ((congrArg TL.tl (TL.join_eq (S []) (ls.map S))).trans ((TL.tl_join (S []) (ls.map S)).trans ?_))
  have e2 : (ls.map S).map TL.tl = ls := by
    rw [List.map_map]
    conv => rhs; rw [← List.map_id ls]
    exact List.map_congr_left fun x _ => tl_S x
  rw [e2, tl_S, tl_S, joinL_nil]
theorem re_join (dx : DX X c k W Z) {ap : Pos} (ha : PE X o (RE Z W Γ .read fa)) (hb : PE X b (RE Z W Γ .keep fb)) (hbase : attributeBase o "join" X.env (eval o X.env) = eval o X.env) (hline : (ap.endLine == p.line) = true) (hs : starEach [b] X.env = [(false, eval b X.env)]) :
    PE X (.Call (.Attribute o "join" ap) [b] [] p) (RE Z W Γ .keep (fun e => (fa e).bind fun x => if recvOk .join x then (fb e).bind fun y => primF .join [x, y] else .bad)) := by
  have base := re_meth (X := X) (Z := Z) (W := W) (Γ := Γ) (pr := .join) (isT := isStrD) PySem.F.plainAttrs_str PySem.F.slot_str_join PySem.F.type_str_join mt_join ha hb hbase hline hs (fun h r s => strT h r s) (fun {x y F H1 H Hs v w Q σ} ht r rw' s h => by
    cases x with
    | str l =>
      cases r.rdV rfl with
      | str _ hl =>
        cases y with
        | lst ds =>
          match l, h with
          | [], h =>
            obtain ⟨ls, e, h⟩ := bind_of h
            by_cases q : (ls.map List.length).sum ≤ lim
            · rw [if_pos q] at h
              cases rw' with
              | lst a1 a2 _ =>
                have ex := a2.strs e
                subst ex
                refine ⟨S [], _, ls.map S, rfl, rfl, .inl (.inl (.inl (s _ _ a1))), ?_, ?_⟩
                · have e0 : (S ([] : List Nat)).length = 0 := rfl
                  rw [e0, Nat.mul_zero, Nat.add_zero, List.map_map]
                  have e1 : ls.map ((fun x : Str => x.length) ∘ S) = ls.map List.length := List.map_congr_left fun x _ => S_len x
                  rw [e1]
                  exact Nat.le_trans q (by decide)
                · rw [join_nil]
                  exact GV_str (.inl rfl) s (by rw [List.length_flatten]; exact lim_le q) h
            · rw [if_neg q] at h
              exact h.elim
          | _ :: _, h => exact False.elim h
        | _ => cases l <;> exact False.elim h
    | _ => cases ht)
  refine PEi base fun σ H Q q => ?_
  obtain ⟨F0, H0, F, e, I, q⟩ := q
  refine ⟨F0, H0, F, e, I, fun x hx => ?_, q⟩
  dsimp only at q
  rw [hx] at q
  cases x with
  | str l => rfl
  | _ => exact False.elim q
theorem occ_sign (cc : Nat) (j : Nat) (h : idxOf (fun x => x == cc) [48, 49, 50] = some j) : ∃ rest, Builtin.Str.occurrences (S [48, 49, 50]) (S [cc]) 0 (S [48, 49, 50]).length 1 = j :: rest := by
  have : (cc = 48 ∧ j = 0) ∨ (cc = 49 ∧ j = 1) ∨ (cc = 50 ∧ j = 2) := by
    by_cases h0 : cc = 48
    · subst h0; left; refine ⟨rfl, ?_⟩; simpa [idxOf] using h.symm
    · by_cases h1 : cc = 49
      · subst h1; right; left; refine ⟨rfl, ?_⟩; simpa [idxOf] using h.symm
      · by_cases h2 : cc = 50
        · subst h2; right; right; refine ⟨rfl, ?_⟩; simpa [idxOf] using h.symm
        · exfalso
          have e0 : ¬ 48 = cc := fun e => h0 e.symm
          have e1 : ¬ 49 = cc := fun e => h1 e.symm
          have e2 : ¬ 50 = cc := fun e => h2 e.symm
          simp [idxOf, e0, e1, e2] at h
  rcases this with ⟨rfl, rfl⟩ | ⟨rfl, rfl⟩ | ⟨rfl, rfl⟩
  · exact ⟨[], by decide +kernel⟩
  · exact ⟨[], by decide +kernel⟩
  · exact ⟨[], by decide +kernel⟩
theorem idxOf_get {α : Type} {p : α → Bool} : ∀ {l : List α} {j : Nat}, idxOf p l = some j → ∃ x, l[j]? = some x ∧ p x = true ∧ ∀ m y, m < j → l[m]? = some y → p y = false
  | [], _, h => by cases h
  | x :: r, j, h => by
    unfold idxOf at h
    by_cases c : p x = true
    · rw [if_pos c] at h
      cases h
      exact ⟨x, rfl, c, fun m y hm => by omega⟩
    · rw [if_neg c] at h
      cases q : idxOf p r with
      | none => rw [q] at h; cases h
      | some i =>
        rw [q] at h
        cases h
        obtain ⟨z, h1, h2, h3⟩ := idxOf_get q
        refine ⟨z, by simpa using h1, h2, fun m y hm hy => ?_⟩
        cases m with
        | zero =>
          have : y = x := by simpa using hy.symm
          rw [this]
          exact Bool.eq_false_iff.mpr c
        | succ m =>
          have hm : m + 1 < i + 1 := hm
          exact h3 m y (by omega) (by simpa using hy)
theorem re_index (dx : DX X c k W Z) {ap : Pos} (ha : PE X o (RE Z W Γ .read fa)) (hb : PE X b (RE Z W Γ .keep fb)) (hbase : attributeBase o "index" X.env (eval o X.env) = eval o X.env) (hline : (ap.endLine == p.line) = true) (hs : starEach [b] X.env = [(false, eval b X.env)]) :
    PE X (.Call (.Attribute o "index" ap) [b] [] p) (RE Z W Γ .keep (fun e => (fa e).bind fun x => if recvOk .index x then (fb e).bind fun y => primF .index [x, y] else .bad)) := by
  have base1 := re_meth (X := X) (Z := Z) (W := W) (Γ := Γ) (pr := .index) (isT := isLstD) PySem.F.plainAttrs_list PySem.F.slot_list_index PySem.F.type_list_index mt_index ha hb hbase hline hs (fun h r s => lstT dx.kz h r s) (fun {x y F H1 H Hs v w Q σ} ht r rw' s h => by
    cases x with
    | lst ds =>
      obtain ⟨pp, xs, rfl, hp, rl, hl⟩ := r.rdL s
      simp only [primF] at h
      by_cases q : (y.flat && ds.all D.flat) = true
      · rw [if_pos q] at h
        rw [Bool.and_eq_true] at q
        obtain ⟨j, e, h⟩ := bind_of h
        obtain ⟨d, d1, d2, d3⟩ := idxOf_get e
        obtain ⟨z, z1, z2⟩ := rl.get d1
        obtain ⟨i1, i2⟩ := RepL.inV rw' q.1 rl q.2
        have fd : ∀ {i : Nat} {d : D}, ds[i]? = some d → d.flat = true := fun {i d} hd => List.all_eq_true.mp q.2 d (List.mem_of_getElem? hd)
        refine ⟨pp, xs, w, j, z, rfl, rfl, .inl (.inl hp), (Rep.eqV rw' rw' q.1 q.1).2.1, i2, z1, ?_, fun m z' hm hz' => ?_, GV_int (.inl rfl) s h⟩
        · rw [(Rep.eqV z2 rw' (fd d1) q.1).1]
          exact d2
        · obtain ⟨d', hd', rd'⟩ := rl.getV hz'
          rw [(Rep.eqV rd' rw' (fd hd') q.1).1]
          exact d3 m d' hm hd'
      · rw [if_neg q] at h
        exact h.elim
    | _ => cases ht)
  have base2 := re_meth (X := X) (Z := Z) (W := W) (Γ := Γ) (pr := .index) (isT := isStrD) PySem.F.plainAttrs_str PySem.F.slot_str_index PySem.F.type_str_index mt_sindex ha hb hbase hline hs (fun h r s => strT h r s) (fun {x y F H1 H Hs v w Q σ} ht r rw' s h => by
    cases x with
    | str l =>
      cases r.rdV rfl with
      | str _ hl =>
        cases y with
        | str l2 =>
          match l2, h, rw' with
          | [cc], h, rw' =>
            cases rw'
            simp only [primF] at h
            by_cases hl3 : l = [48, 49, 50]
            · rw [if_pos hl3] at h
              subst hl3
              obtain ⟨j, e, h⟩ := bind_of h
              obtain ⟨rest, ho⟩ := occ_sign cc j e
              exact ⟨S [48, 49, 50], S [cc], j, rest, rfl, rfl, ho, GV_int (.inl rfl) s h⟩
            · rw [if_neg hl3] at h
              exact h.elim
          | [], h, _ => exact False.elim h
          | _ :: _ :: _, h, _ => exact False.elim h
        | _ => exact False.elim h
    | _ => cases ht)
  refine PEi (pe_or base1 base2) fun σ H Q q => ?_
  obtain ⟨F0, H0, F, e, I, q⟩ := q
  dsimp only at q
  cases hx : fa e with
  | ok x =>
    cases x with
    | lst ds => exact .inl ⟨F0, H0, F, e, I, fun y hy => (by rw [hx] at hy; cases hy; rfl), q⟩
    | str ds => exact .inr ⟨F0, H0, F, e, I, fun y hy => (by rw [hx] at hy; cases hy; rfl), q⟩
    | _ => rw [hx] at q; exact False.elim q
  | exc n => exact .inl ⟨F0, H0, F, e, I, fun y hy => (by rw [hx] at hy; cases hy), q⟩
  | bad => exact .inl ⟨F0, H0, F, e, I, fun y hy => (by rw [hx] at hy; cases hy), q⟩
end
end Hue
/-! len(set(text)) -/
namespace Hue
open PySem PySem.Spec PyProof.Rows L2
theorem met_snoc {α : Type} [BEq α] (l : List α) (x : α) : met (l ++ [x]) = if (met l).contains x then met l else met l ++ [x] := by
  unfold met
  rw [List.foldl_append]
  rfl
theorem met_len {α : Type} [BEq α] : ∀ l : List α, (met l).length ≤ l.length := by
  intro l
  have h : ∀ (l a : List α), (l.foldl (fun a x => if a.contains x then a else a ++ [x]) a).length ≤ a.length + l.length := by
    intro l
    induction l with
    | nil => intro a; exact Nat.le_refl _
    | cons y r ih =>
      intro a
      rw [List.foldl_cons]
      refine Nat.le_trans (ih _) ?_
      split
      · rw [List.length_cons]; omega
      · rw [List.length_append, List.length_cons, List.length_cons, List.length_nil]; omega
  have := h l []
  rw [List.length_nil, Nat.zero_add] at this
  exact this
def sgn (c : Nat) : Str := ⟨#[c]⟩
theorem sgn_inj {a b : Nat} (h : sgn a = sgn b) : a = b := by
  unfold sgn at h
  injection h with h
  injection h with h
  injection h
def isMet (m : List Nat) (k : Str) : Bool := m.any fun c => decide (k = sgn c)
theorem isMet_sgn (m : List Nat) (c : Nat) : isMet m (sgn c) = m.contains c := by
  unfold isMet
  rw [List.contains_eq_any_beq]
  congr 1
  funext x
  by_cases h : c = x
  · subst h
    simp
  · have h2 : ¬ sgn c = sgn x := fun z => h (sgn_inj z)
    simp [h, h2]
theorem isMet_snoc (m : List Nat) (c : Nat) (k : Str) : isMet (if m.contains c then m else m ++ [c]) k = (isMet m k || decide (k = sgn c)) := by
  by_cases h : m.contains c = true
  · rw [if_pos h]
    by_cases e : k = sgn c
    · subst e
      rw [isMet_sgn, h]
      rfl
    · simp [e]
  · rw [if_neg h]
    unfold isMet
    rw [List.any_append]
    simp
section
variable {P : Program} {w : World} {A : Around} {E : Value → Shared → Prop} {s : Shared}
theorem set_upd_signs {I : Addr} {fp wr : List Addr} {G : Array GenState → Array GenState → Prop} {n : Nat} {Pv : Nat → Value → Prop} {St : Nat → Shared → Prop} {R : Result → Shared → Prop}
    (W : WalksS P w A.in1 I fp wr G n Pv St) (S : Addr) (hSf : S ∉ fp) (ns : List Nat) (hn : n = ns.length) (hb : ns.length + 1 < scanBound) (hval : ∀ i v, Pv i v → ∃ k t, ns[i]? = some k ∧ v = .str (sgn k) t) :
    ∀ (k i : Nat) (s : Shared), n - i = k → i ≤ n → St i s → s.heap.SetOf (PySem.strKind P w) S (isMet (met (ns.take i))) (met (ns.take i)).length →
      (∀ s', Moved (S :: wr) G s s' → s'.heap.SetOf (PySem.strKind P w) S (isMet (met ns)) (met ns).length → R (.ok (.ret .none)) s') →
      codeAny (model P w) A (.builtin "set.update.loop" ⟨[.ref S, .ref I], []⟩) R s := by
  have hSw : S ∉ wr := fun h => hSf (W.sub _ h)
  have hsub : ∀ b ∈ wr, b ∈ S :: wr := fun b hb => List.mem_cons_of_mem _ hb
  intro k
  induction k with
  | zero =>
    intro i s hk' hi hst hS hR
    have hin : i = n := by omega
    subst hin
    refine codeAny_builtin PyProof.Rows.F.entry_set_update_loop ?_
    rw [Around.under_plainId PyProof.Rows.F.plain_set_update_loop _]
    show wpAny _ A.in1 (pyNext (.ref I) >>= _) _ _ s
    refine wpAny_bind (W.done s _ _ hst fun s' hm => ?_)
    show wpAny _ A.in1 (ret Value.none) _ _ s'
    have e : ns.take i = ns := List.take_of_length_le (by omega)
    rw [e] at hS
    refine wpAny_pure (hR s' (hm.mono hsub) ?_)
    obtain ⟨o, es, ep, t, ho, rest⟩ := hS
    exact ⟨o, es, ep, t, hm.heap S _ hSw ho, rest⟩
  | succ k ih =>
    intro i s hk' hi hst hS hR
    have hlt : i < n := by omega
    refine codeAny_builtin PyProof.Rows.F.entry_set_update_loop ?_
    rw [Around.under_plainId PyProof.Rows.F.plain_set_update_loop _]
    show wpAny _ A.in1 (pyNext (.ref I) >>= _) _ _ s
    refine wpAny_bind (W.item i s _ _ hlt hst fun v s' hP hst' hm => ?_)
    obtain ⟨z, t, hz, rfl⟩ := hval i v hP
    have hS' : s'.heap.SetOf (PySem.strKind P w) S (isMet (met (ns.take i))) (met (ns.take i)).length := by
      obtain ⟨o, es, ep, tb, ho, rest⟩ := hS
      exact ⟨o, es, ep, tb, hm.heap S _ hSw ho, rest⟩
    have hml : (met (ns.take i)).length ≤ ns.length := Nat.le_trans (met_len _) (by rw [List.length_take]; omega)
    show wpAny _ A.in1 (holding [Value.str (sgn z) t] (setAdd S (.str (sgn z) t)) >>= _) _ _ s'
    refine wpAny_bind (wpAny_holding ?_)
    unfold setAdd
    refine wpAny_holding ?_
    refine wpAny_bind ((PySem.strKind P w).pyHash (k := sgn z) (strKind_is _ _ _ _) ?_)
    refine wpAny_setAddHashed_of (knd := PySem.strKind P w) (s := { s' with toks := s'.toks + 1 }) (strKind_is _ _ _ _) rfl hS' (by omega) fun h' hsb hS2 => ?_
    have hmm : met (ns.take (i + 1)) = if (met (ns.take i)).contains z then met (ns.take i) else met (ns.take i) ++ [z] := by
      rw [List.take_add_one, hz]
      exact met_snoc _ _
    have hS3 : h'.SetOf (PySem.strKind P w) S (isMet (met (ns.take (i + 1)))) (met (ns.take (i + 1))).length := by
      refine PyProof.Rows.SetOf_congr hS2 (fun k' => ?_) ?_
      · rw [hmm, isMet_snoc]
      · rw [hmm, isMet_sgn]
        split
        · rfl
        · rw [List.length_append] <;> rfl
    refine wpAny_pure ⟨plainId_quiet PyProof.Rows.F.plain_set_update_loop _, ih (i + 1) _ (by omega) hlt (W.frame _ s' _ _ hst' (Nat.le_succ _) fun b hb o e => ?_) hS3 fun s'' hm'' hS'' => ?_⟩
    · rw [hsb.2 b (fun h : b = S => hSf (by rw [← h]; exact hb))]; exact e
    · refine hR s'' (Moved.trans W.gtrans ((hm.mono hsub).then_heap (Nat.le_succ _) fun b o hb e => ?_) hm'') hS''
      rw [hsb.2 b (fun h : b = S => hb (by rw [h]; exact List.mem_cons_self))]; exact e

set_option maxRecDepth 100000 in
set_option maxHeartbeats 3200000 in
theorem call_set_text {l : List Nat} {t : Tok} {Q : Value → Shared → Prop} (hh : A.handled = none) (hb : l.length + 1 < scanBound)
    (h : ∀ (h' : Heap) (tk : Nat), h'.SetOf (PySem.strKind P w) s.heap.objs.size (isMet (met l)) (met l).length → (∀ b o, s.heap.get? b = some o → h'.get? b = some o) → Q (.ref s.heap.objs.size) { s with heap := h', toks := tk }) :
    wpAny (model P w) A (call (.type "set") [.str (Hue.S l) t]) Q E s := by
  obtain ⟨c, tl, hmro⟩ := PySem.F.called_set.mro
  have hmade := PySem.F.called_set.made
  have hsub := PySem.F.called_set.sub
  refine wpAny_call (codeAny_of_tree ?_)
  show wpAny _ _ (callAny (.type "set") _) _ _ _
  refine wpAny_pure ⟨Code.quiet_builtin _ (by decide +kernel), codeAny_builtin PySem.F.entry_type_call ?_⟩
  rw [Around.under_plain (weight_type_call_type "set" [.str (Hue.S l) t] []) rfl]
  have h1 := PySem.F.called_set.notType
  have h2 := PySem.F.called_set.canCreate
  have hct := PySem.F.typeCall_set_1 (.str (Hue.S l) t)
  repeat (any_goals (first | assumption | wp_step))

  refine codeAny_mono (code_set_new_1 (.str (Hue.S l) t) (E := E) (Q₁ := fun obj s₁ => ∃ led : Bool, obj = .ref s.heap.objs.size ∧ s₁ = { s with heap := s.heap.push { cls := .type "set", dict := none, data := .set #[] 0 (.fresh 0 0 led) } }) fun led => ⟨led, rfl, rfl⟩) fun r s₁ hr => ?_
  cases r with
  | error e => exact hr
  | ok fl =>
    cases fl with
    | ret obj =>
      obtain ⟨led, rfl, rfl⟩ := hr
      have hS : (s.heap.push { cls := .type "set", dict := none, data := .set #[] 0 (.fresh 0 0 led) }).get? s.heap.objs.size = some { cls := .type "set", dict := none, data := .set #[] 0 (.fresh 0 0 led) } := Heap.get?_push_size _ rfl
      have hT : Shared.TypeIs { s with heap := s.heap.push { cls := .type "set", dict := none, data := .set #[] 0 (.fresh 0 0 led) } } (.ref s.heap.objs.size) "set" := ⟨_, hS, rfl⟩
      have hli := PySem.F.called_set.init.lookup
      have hbi := PySem.F.called_set.init.bind (.ref s.heap.objs.size)
      repeat (any_goals (first | assumption | wp_step))

      refine codeAny_mono (codeAny_call_builtin (R := wants (fun r s₂ => r = .none ∧ ∃ h' tk, s₂ = { s with heap := h', toks := tk } ∧ h'.SetOf (PySem.strKind P w) s.heap.objs.size (isMet (met l)) (met l).length ∧
          (∀ b o, s.heap.get? b = some o → h'.get? b = some o)) E) PySem.F.called_set.init.plain PySem.F.entry_set_init (check_set_init_1 hT ?_)) fun r₂ s₂ hr₂ => ?_
      · have hsls := PySem.F.sub_str_set
        have hslf := PySem.F.sub_str_frozenset
        have hne : (Value.type "str" == Value.type "dict") = false := by decide
        have hts := typeIs_str { s with heap := s.heap.push { cls := .type "set", dict := none, data := .set #[] 0 (.fresh 0 0 led) } } (Hue.S l) t
        unfold Builtin.«set.__init__» noKeywords Builtin.Frozenset.updateFrom
        generalize hPI : pyIter = PI
        wp_walk
        subst hPI

        refine wpAny_pyIter_str fun o St W hst => ?_
        refine wpAny_bind (wpAny_runValue ?_)
        have hh3 : A.in1.in1.in1.handled = none := by simp [hh]
        have hz1 : (s.heap.push { cls := .type "set", dict := none, data := .set #[] 0 (.fresh 0 0 led) }).objs.size = s.heap.objs.size + 1 := Heap.size_push ..
        have hSf : s.heap.objs.size ∉ [(s.heap.push { cls := .type "set", dict := none, data := .set #[] 0 (.fresh 0 0 led) }).objs.size] := by
          rw [Heap.size_push]; simp only [List.mem_cons, List.mem_singleton, List.not_mem_nil, or_false, not_or]
          exact Nat.ne_of_lt (Nat.lt_succ_self _)
        have hsz : (Hue.S l).cps.size = l.length := List.size_toArray
        have hval : ∀ (i : Nat) (v : Value), SignAt (Hue.S l) i v → ∃ k t, l[i]? = some k ∧ v = .str (sgn k) t := fun i v hv => by
          obtain ⟨c, u, hc, rfl⟩ := hv
          refine ⟨c, u, ?_, rfl⟩
          rw [← hc]
          simp
        refine set_upd_signs ((W _ hh3).toS) s.heap.objs.size
          hSf l hsz hb hval _ 0 _ rfl (Nat.zero_le _) hst ?hS0 ?hR
        case hS0 =>
          have hget : ((s.heap.push { cls := .type "set", dict := none, data := .set #[] 0 (.fresh 0 0 led) }).push o).get? s.heap.objs.size
              = some { cls := .type "set", dict := none, data := .set #[] 0 (.fresh 0 0 led) } := Heap.get?_push_of_some _ hS
          exact PyProof.Rows.SetOf_congr ((PyProof.Rows.setObjOf_fresh (knd := PySem.strKind P w) led).setOf hget (by unfold scanBound; omega)) (fun _ => rfl) rfl
        case hR =>
          intro s' hm hS'
          obtain ⟨h', g2, d', tk', os'⟩ := s'
          have eg : g2 = s.gens := hm.gens
          have ed : d' = s.drawn := hm.drawn
          have eo : os' = s.os := hm.os
          subst eg; subst ed; subst eo
          show wpAny _ _ _ _ _ _
          refine wpAny_pure ?_
          show wpAny _ _ (ret Value.none) _ _ _
          refine wpAny_pure ⟨rfl, h', tk', rfl, hS', fun b o' e => ?_⟩
          have hb0 : b < s.heap.objs.size := Heap.lt_size e
          have hb1 : b ≠ s.heap.objs.size := Nat.ne_of_lt hb0
          have hb2 : b ≠ (s.heap.push { cls := .type "set", dict := none, data := .set #[] 0 (.fresh 0 0 led) }).objs.size := by
            rw [Heap.size_push]; exact Nat.ne_of_lt (Nat.lt_succ_of_lt hb0)
          exact hm.heap b o' (by simp only [List.mem_cons, List.mem_singleton, List.not_mem_nil, or_false, not_or]; exact ⟨hb1, hb2⟩) (Heap.get?_push_of_some _ (Heap.get?_push_of_some _ e))

      · cases r₂ with
        | error e => exact hr₂
        | ok fl₂ =>
          cases fl₂ with
          | ret r =>
            obtain ⟨rfl, h', tk, rfl, hS', hk'⟩ := hr₂
            repeat (any_goals (first | assumption | wp_step))
            exact h _ _ hS' hk'
          | _ => exact hr₂.elim
    | _ => exact hr.elim
end
theorem re_lenset {X : Cx} {c : Cc} {k : Nat} {W : WX} {Z : Wo} {Γ : Gm} {a : Expr} {fa : Env → R D} {p p2 q pos : Pos} (dx : DX X c k W Z) (hg : isGl c "len" = true) (hb : bltn c "set" = true) (ha : PE X a (RE Z W Γ .keep fa)) (hs : starEach [a] X.env = [(false, eval a X.env)]) :
    PE X (.Call (.Name "len" p) [.Call (.Name "set" p2) [a] [] q] [] pos) (RE Z W Γ .keep (fun e => ((fa e).bind fun x => .ok [x]).bind fun ds => primF .lenset ds)) := by
  refine ⟨fun pins s σ H Q I h => ?_⟩
  obtain ⟨g1, g2, g3⟩ := isGl_ok dx hg
  obtain ⟨t1, t2, t3⟩ := bltn_ok dx hb
  refine Call_ (ld_blt I g1 (dx.blt _ (by decide +kernel)) boot_len ?_)
  refine PyProof.Rows.callWith_builtin1 (PyProof.Rows.args_cons ?_ rfl) rfl rfl
  refine Call_ (ld_blt I t1 (dx.blt _ (by decide +kernel)) boot_set ?_)
  obtain ⟨F0, H0, F, e, I0, h⟩ := h
  dsimp only at h
  rw [R.bind_assoc] at h
  refine PyProof.Rows.callWith_type1 (PyProof.Rows.args_cons (thn (ha.run pins s σ H (fun v H1 => ∃ l : List Nat, v = .str (S l) ∧ l.length ≤ 50 ∧ Q (.int (met l).length) H1) I ⟨F0, H0, F, e, I0, pst_bind h fun x F1 H1 x1 q1 v1 r1 => ?_⟩) fun v s1 ⟨x, H1, I1, r1, q1⟩ => PyProof.Rows.args_nil ?_) hs) hs rfl
  · have r1 : Rep Z F1 v1 x := r1
    cases r1 with
    | str l hl =>
      dsimp only [R.bind_ok, primF] at q1
      by_cases h50 : l.length ≤ 50
      · rw [if_pos h50] at q1
        exact ⟨l, rfl, h50, GV_int (.inl rfl) x1.sub q1⟩
      · rw [if_neg h50] at q1
        exact q1.elim
    | _ => exact q1.elim
  · obtain ⟨l, rfl, h50, q1⟩ := q1
    obtain ⟨t, rfl⟩ := r1
    refine call_set_text (I1.ok.hd dx.calm) (by unfold scanBound; omega) fun h' tk hS hk => ?_
    refine PyProof.Rows.args_nil ?_
    obtain ⟨o, es, ep, t, ho, hex, hd, _, _, _, hf, hn⟩ := hS
    have I2 : Inv X pins σ H1 { s1 with heap := h', toks := tk } := I1.kept fun b o e => hk b o e
    have hm := met_len l
    exact call_len_set ho hex hd hf (by rw [hn] <;> omega) ⟨.int (met l).length, H1, I2.tok _, ⟨_, by rw [hn]⟩, q1⟩
end Hue
namespace Hue
open PySem PySem.Spec PyProof.Rows L2
section
variable {X : Cx} {c : Cc} {k : Nat} {W : WX} {Z : Wo} {Γ : Gm} {a : Expr} {fa : Env → R D} {m : Md} {p p2 q pos : Pos}
theorem asStrs_int {xs : List D} {ns : List Int} (h : asInts xs = some ns) : True := trivial
theorem re_sortset (dx : DX X c k W Z) (hg : isGl c "sorted" = true) (hb : bltn c "set" = true) (hm : m = .keep ∨ m = .fresh) (ha : PE X a (RE Z W Γ .keep fa)) (hs : starEach [a] X.env = [(false, eval a X.env)]) :
    PE X (.Call (.Name "sorted" p) [.Call (.Name "set" p2) [a] [] q] [] pos) (RE Z W Γ m (fun e => ((fa e).bind fun x => .ok [x]).bind fun ds => primF .sortset ds)) := by
  refine ⟨fun pins s σ H Q I h => ?_⟩
  obtain ⟨g1, g2, g3⟩ := isGl_ok dx hg
  obtain ⟨t1, t2, t3⟩ := bltn_ok dx hb
  refine Call_ (ld_blt I g1 (dx.blt _ (by decide +kernel)) boot_sorted ?_)
  refine PyProof.Rows.callWith_builtin1 (PyProof.Rows.args_cons ?_ rfl) rfl rfl
  refine Call_ (ld_blt I t1 (dx.blt _ (by decide +kernel)) boot_set ?_)
  obtain ⟨F0, H0, F, e, I0, h⟩ := h
  dsimp only at h
  rw [R.bind_assoc] at h
  refine PyProof.Rows.callWith_type1 (PyProof.Rows.args_cons (thn (ha.run pins s σ H (fun v H1 => ∃ (l : Addr), v = .ref l ∧ ((∃ ns : List Int, ns.length < 60 ∧ H1 l = some (.lst (ns.map V.int)) ∧ ∀ p, H1 p = none → Q (.ref p) (upd H1 p (.lst ((sortI (met ns)).map V.int)))) ∨
      (∃ ls : List (List Nat), ls.length < 60 ∧ H1 l = some (.lst ((ls.map S).map V.str)) ∧ ∀ p, H1 p = none → Q (.ref p) (upd H1 p (.lst (((sortS (met ls)).map S).map V.str)))))) I ⟨F0, H0, F, e, I0, pst_bind h fun x F1 H1 x1 q1 v1 r1 => ?_⟩) fun v s1 ⟨x, H1, I1, r1, q1⟩ => PyProof.Rows.args_nil ?_) hs) hs rfl
  · have r1 : Rep Z F1 v1 x := r1
    cases r1 with
    | lst a1 a2 a3 =>
      rename_i aa xs ds
      dsimp only [R.bind_ok, primF] at q1
      by_cases h60 : ds.length < 60
      · rw [if_pos h60] at q1
        refine ⟨_, rfl, ?_⟩
        have hl := a2.length
        cases hi : asInts ds with
        | some ns =>
          simp only [hi] at q1
          have ex := a2.ints hi
          subst ex
          rw [List.length_map] at hl
          have hml := met_len ns
          refine .inl ⟨ns, by omega, x1.sub _ _ a1, fun p hp => GV_lst hm x1.sub x1.hh hp (RepL.ofInts _) ?_ q1⟩
          rw [List.length_map, (sortI_perm _).length_eq]
          exact Nat.le_trans (show (met ns).length ≤ 60 by omega) (by decide)
        | none =>
          simp only [hi] at q1
          cases hs' : asStrs ds with
          | none => simp only [hs'] at q1; exact q1.elim
          | some ls =>
            simp only [hs'] at q1
            have ex := a2.strs hs'
            subst ex
            rw [List.length_map, List.length_map] at hl
            have hml := met_len ls
            refine .inr ⟨ls, by omega, x1.sub _ _ a1, fun p hp => GV_lst hm x1.sub x1.hh hp ?_ ?_ q1⟩
            · have hall : ∀ y ∈ ls, y.length ≤ sizeLine := by
                have gen : ∀ (ls : List (List Nat)) (ds : List D), RepL Z F1 ((ls.map S).map V.str) ds → ∀ y ∈ ls, y.length ≤ sizeLine := by
                  intro ls
                  induction ls with
                  | nil => intro ds _ y hy; cases hy
                  | cons z r ih =>
                    intro ds rl y hy
                    cases rl with
                    | cons r1 r2 =>
                      rcases List.mem_cons.mp hy with rfl | hy
                      · have : ∃ d, Rep Z F1 (.str (S y)) d := ⟨_, r1⟩
                        obtain ⟨d, rd⟩ := this
                        generalize hv : V.str (S y) = vv at rd
                        cases rd with
                        | str l hl =>
                          have : S y = S l := by injection hv
                          have : y = l := by injection this with this; injection this
                          rw [this]; exact hl
                        | _ => cases hv
                      · exact ih _ r2 y hy
                exact gen ls ds a2
              have gen2 : ∀ l : List (List Nat), (∀ y ∈ l, y.length ≤ sizeLine) → RepL Z F1 ((l.map S).map V.str) (l.map D.str) := by
                intro l
                induction l with
                | nil => intro _; exact .nil
                | cons z r ih => intro hh; exact .cons (.str z (hh z List.mem_cons_self)) (ih fun y hy => hh y (List.mem_cons_of_mem _ hy))
              exact gen2 _ fun y hy => hall y (((met_spec ls).2 y).mp ((sortS_perm _).mem_iff.mp hy))
            · rw [List.length_map, (sortS_perm _).length_eq]
              exact Nat.le_trans (show (met ls).length ≤ 60 by omega) (by decide)
      · rw [if_neg h60] at q1
        exact q1.elim
    | _ => exact False.elim q1
  · obtain ⟨l, rfl, q1⟩ := q1
    cases r1
    have fin : ∀ (s2 : Shared) (h' : Heap) (tk : Nat), True := fun _ _ _ => trivial
    rcases q1 with ⟨ns, h60, hl, q1⟩ | ⟨ls, h60, hl, q1⟩
    · obtain ⟨its, r, pl, hz⟩ := I1.list (.inl (.inl hl) : SqL X.K H1 l (ns.map V.int))
      have hlen : its.length = ns.length := by have := r.length; rw [List.length_map] at this; exact this.symm
      refine call_setG (knd := intKind X.prog X.w) ns (I1.ok.hd dx.calm) pl.isList (by rw [List.size_toArray]; exact hlen) (by unfold scanBound; omega) (fun i v hv => ?_) fun h' tk hS hk => ?_
      · have hv' : its[i]? = some v := by simpa using hv
        have hi : i < ns.length := by rw [← hlen]; exact (List.getElem?_eq_some_iff.mp hv').1
        obtain ⟨u, hu, t, e⟩ := r.get (i := i) (x := .int ns[i]) (by simp [hi])
        rw [hv'] at hu
        cases hu
        exact ⟨ns[i], List.getElem?_eq_getElem hi, by rw [e]; exact intKind_is _ _ _ _, by rw [e]; rfl⟩
      · refine PyProof.Rows.args_nil ?_
        have I2 : Inv X pins σ H1 { s1 with heap := h', toks := tk } := I1.kept fun b o e => hk b o e
        refine sortedG (s := { s1 with heap := h', toks := tk }) hS (I2.ok.hd dx.calm) h60 (fun A' E' s3 p vs n P' => srt_int A' E' s3 p vs n P') fun s' p out cc k' g o' hp hg' hi => ?_
        have hml := met_len ns
        have hlen2 : ((sortI (met ns)).map V.int).length ≤ sizeLine := by rw [List.length_map, (sortI_perm _).length_eq, sizeLine_eq]; omega
        have hn : H1 p = none := I2.hok.fresh hp
        have J : Inv X pins σ (upd H1 p (.lst ((sortI (met ns)).map V.int))) { s1 with heap := s'.heap, gens := s'.gens, drawn := s'.drawn, toks := s'.toks } :=
          L2.Inv.call (s := { s1 with heap := h', toks := tk }) (ch := []) I2 (Un.laid k' hp hn) (I2.hok.laid k' hp ⟨hlen2, out.toList, cc, vals_of_ints hi, hg'⟩) (by rw [g]; exact I2.bare) (fun _ z => nomatch z)
        have e : s' = { s1 with heap := s'.heap, gens := s'.gens, drawn := s'.drawn, toks := s'.toks } := by
          cases s'
          cases s1
          cases o'
          rfl
        rw [e]
        exact ⟨.ref p, _, J, rfl, q1 p hn⟩
    · obtain ⟨its, r, pl, hz⟩ := I1.list (.inl (.inl hl) : SqL X.K H1 l ((ls.map S).map V.str))
      have hlen : its.length = ls.length := by have := r.length; rw [List.length_map, List.length_map] at this; exact this.symm
      refine call_setG (knd := PySem.strKind X.prog X.w) (ls.map S) (I1.ok.hd dx.calm) pl.isList (by rw [List.size_toArray, List.length_map]; exact hlen) (by rw [List.length_map]; unfold scanBound; omega) (fun i v hv => ?_) fun h' tk hS hk => ?_
      · have hv' : its[i]? = some v := by simpa using hv
        have hi : i < ls.length := by rw [← hlen]; exact (List.getElem?_eq_some_iff.mp hv').1
        obtain ⟨u, hu, t, e⟩ := r.get (i := i) (x := .str (S ls[i])) (by simp [hi])
        rw [hv'] at hu
        cases hu
        exact ⟨S ls[i], by simp [hi], by rw [e]; exact strKind_is _ _ _ _, by rw [e]; rfl⟩
      · refine PyProof.Rows.args_nil ?_
        have I2 : Inv X pins σ H1 { s1 with heap := h', toks := tk } := I1.kept fun b o e => hk b o e
        refine sortedG (s := { s1 with heap := h', toks := tk }) hS (I2.ok.hd dx.calm) (by rw [List.length_map]; exact h60) (fun A' E' s3 p vs n P' => srt_str A' E' s3 p vs n P') fun s' p out cc k' g o' hp hg' hi => ?_
        have hml := met_len ls
        have hlen2 : (((sortS (met ls)).map S).map V.str).length ≤ sizeLine := by rw [List.length_map, List.length_map, (sortS_perm _).length_eq, sizeLine_eq]; omega
        have hn : H1 p = none := I2.hok.fresh hp
        have J : Inv X pins σ (upd H1 p (.lst (((sortS (met ls)).map S).map V.str))) { s1 with heap := s'.heap, gens := s'.gens, drawn := s'.drawn, toks := s'.toks } :=
          L2.Inv.call (s := { s1 with heap := h', toks := tk }) (ch := []) I2 (Un.laid k' hp hn) (I2.hok.laid k' hp ⟨hlen2, out.toList, cc, vals_of_strs hi, hg'⟩) (by rw [g]; exact I2.bare) (fun _ z => nomatch z)
        have e : s' = { s1 with heap := s'.heap, gens := s'.gens, drawn := s'.drawn, toks := s'.toks } := by
          cases s'
          cases s1
          cases o'
          rfl
        rw [e]
        exact ⟨.ref p, _, J, rfl, q1 p hn⟩
end
end Hue
namespace Hue
open PySem PySem.Spec PyProof.Rows L2
theorem setArg_of {a b : Expr} (h : setArg a = some b) : ∃ p q, a = .Call (.Name "set" p) [b] [] q := by
  unfold setArg at h
  split at h
  · rename_i g p a' q
    split at h
    · rename_i hg
      cases h
      subst hg
      exact ⟨p, q, rfl⟩
    · cases h
  · cases h
theorem rngArg_of {a : Expr} {rs : List Expr} (h : rngArg a = some rs) : ∃ p q, a = .Call (.Name "range" p) rs [] q := by
  unfold rngArg at h
  split at h
  · rename_i g p a' q
    split at h
    · rename_i hg
      cases h
      subst hg
      exact ⟨p, q, rfl⟩
    · cases h
  · cases h
theorem snd_call {Z : Wo} {k n : Nat} {W : WX} {X : Cx} {c : Cc} (dx : DX X c k W Z) (S : Snd Z W X c n) {Γ : Gm} {f : Str} {args : List Expr} {fp p : Pos} {t : Tm} (h : cmpE c Γ (n + 1) (.Call (.Name f fp) args [] p) = some t) :
    PE X (.Call (.Name f fp) args [] p) (RE Z W Γ (md (owns t)) (ev t)) := by
  have h : (if isGl c f then (match c.tab.lookup f with
        | some (.fn den fr ar) => (cmpEs c Γ n args).bind fun ts => if args.length = ar ∧ args ≠ [] then some (.call den fr ts) else none
        | some _ => none
        | none => match args with
          | [a] => (match setArg a with
            | some b => if bltn c "set" then (setPrim f).bind fun p => (cmpE c Γ n b).bind fun tb => some (.prim p (.cons tb .nil)) else none
            | none => match rngArg a with
              | some rs => if f = "list" ∧ bltn c "range" = true then (match rs with
                | [x] => (cmpE c Γ n x).bind fun tx => some (.prim .lrng1 (.cons tx .nil))
                | [x, y] => (cmpE c Γ n x).bind fun tx => (cmpE c Γ n y).bind fun ty => some (.prim .lrng2 (.cons tx (.cons ty .nil)))
                | _ => none) else none
              | none => (prim1 f).bind fun p => (cmpR c Γ n a).bind fun ta => some (.prim p (.cons ta .nil)))
          | [a, b] => if f = "isinstance" then (match b with
              | .Name t _ => if bltn c t then (isiOf t).bind fun p => (cmpE c Γ n a).bind fun ta => some (.prim p (.cons ta .nil)) else none
              | _ => none)
            else (prim2 f).bind fun p => (cmpE c Γ n a).bind fun ta => (cmpE c Γ n b).bind fun tb => some (.prim p (.cons ta (.cons tb .nil)))
          | _ => none) else none) = some t := h
  by_cases hg : isGl c f = true
  · rw [if_pos hg] at h
    cases hl : c.tab.lookup f with
    | some en =>
      rw [hl] at h
      cases en with
      | fn den fr ar =>
        obtain ⟨ts, h1, h⟩ := some_bind h
        by_cases hc : args.length = ar ∧ args ≠ []
        · rw [if_pos hc] at h
          cases h
          cases args with
          | nil => exact absurd rfl hc.2
          | cons a es =>
            cases n with
            | zero => cases h1
            | succ n =>
              have h1' : ((cmpE c Γ n a).bind fun t => (cmpEs c Γ n es).bind fun ts => some (Tms.cons t ts)) = some ts := h1
              obtain ⟨ta, k1, h1'⟩ := some_bind h1'
              obtain ⟨tr, k2, _⟩ := some_bind h1'
              simp only [ev]
              exact re_call dx hg hl hc.1 (S.s Γ _ ts h1) (star_of k1 _ _) (plain_of k2 _ _) (fun en ds q => by rw [evs_len ts en ds q h1]; exact hc.1)
        · rw [if_neg hc] at h
          cases h
      | const d => cases h
      | exc cn => cases h
    | none =>
      rw [hl] at h
      match args, h with
      | [a], h =>
        cases hs : setArg a with
        | some b =>
          simp only [hs] at h
          by_cases hb : bltn c "set" = true
          · rw [if_pos hb] at h
            obtain ⟨pr, h1, h⟩ := some_bind h
            obtain ⟨tb, h2, h⟩ := some_bind h
            cases h
            unfold setPrim at h1
            by_cases hf : f = "len"
            · rw [if_pos hf] at h1
              cases h1
              obtain ⟨p2, q2, rfl⟩ := setArg_of hs
              subst hf
              simp only [ev, evs]
              exact re_lenset dx hg hb (S.k h2) (star_of h2 _ _)
            · rw [if_neg hf] at h1
              by_cases hf2 : f = "sorted"
              · rw [if_pos hf2] at h1
                cases h1
                obtain ⟨p2, q2, rfl⟩ := setArg_of hs
                subst hf2
                simp only [ev, evs]
                exact re_sortset dx hg hb (md_or _) (S.k h2) (star_of h2 _ _)
              · rw [if_neg hf2] at h1
                cases h1
          · rw [if_neg hb] at h
            cases h
        | none =>
          simp only [hs] at h
          cases hra : rngArg a with
          | some rs =>
            simp only [hra] at h
            obtain ⟨p2, q2, rfl⟩ := rngArg_of hra
            by_cases hf : f = "list" ∧ bltn c "range" = true
            · rw [if_pos hf] at h
              obtain ⟨rfl, hb⟩ := hf
              cases rs with
              | nil => cases h
              | cons x r =>
                cases r with
                | nil =>
                  obtain ⟨tx, h1, h⟩ := some_bind h
                  cases h
                  simp only [ev, evs]
                  exact re_lrng1 dx hg hb (md_or _) (S.k h1) (star_of h1 _ _)
                | cons y r =>
                  cases r with
                  | nil =>
                    obtain ⟨tx, h1, h⟩ := some_bind h
                    obtain ⟨ty, h2, h⟩ := some_bind h
                    cases h
                    simp only [ev, evs]
                    exact re_lrng2 dx hg hb (md_or _) (S.k h1) (S.k h2) (star_of h1 _ _) (star_of h2 _ _)
                  | cons _ _ => cases h
            · rw [if_neg hf] at h
              cases h
          | none =>
            simp only [hra] at h
            obtain ⟨pr, h1, h⟩ := some_bind h
            obtain ⟨ta, h2, h⟩ := some_bind h
            cases h
            simp only [ev, evs]
            exact re_prim1 dx hg h1 (md_or _) (S.r Γ a ta h2) (starR_of h2 _ _)
      | [a, b], h =>
        have h : (if f = "isinstance" then (match b with
              | .Name t _ => if bltn c t then (isiOf t).bind fun p => (cmpE c Γ n a).bind fun ta => some (.prim p (.cons ta .nil)) else none
              | _ => none)
            else (prim2 f).bind fun p => (cmpE c Γ n a).bind fun ta => (cmpE c Γ n b).bind fun tb => some (.prim p (.cons ta (.cons tb .nil)))) = some t := h
        by_cases hf : f = "isinstance"
        · rw [if_pos hf] at h
          cases b with
          | Name ty tp =>
            by_cases ht : bltn c ty = true
            · have h : (if bltn c ty then (isiOf ty).bind fun p => (cmpE c Γ n a).bind fun ta => some (Tm.prim p (.cons ta .nil)) else none) = some t := h
              rw [if_pos ht] at h
              obtain ⟨pr, h1, h⟩ := some_bind h
              obtain ⟨ta, h2, h⟩ := some_bind h
              cases h
              have ho : owns (Tm.prim pr (Tms.cons ta Tms.nil)) = false := by
                have := isT1_of h1
                cases pr <;> first | rfl | cases this
              rw [ho]
              subst hf
              simp only [ev, evs]
              exact re_isi dx hg ht h1 (S.k h2) (star_of h2 _ _)
            · have h : (if bltn c ty then (isiOf ty).bind fun p => (cmpE c Γ n a).bind fun ta => some (Tm.prim p (.cons ta .nil)) else none) = some t := h
              rw [if_neg ht] at h
              cases h
          | _ => cases h
        · rw [if_neg hf] at h
          obtain ⟨pr, h1, h⟩ := some_bind h
          obtain ⟨ta, h2, h⟩ := some_bind h
          obtain ⟨tb, h3, h⟩ := some_bind h
          cases h
          have ho : owns (Tm.prim pr (Tms.cons ta (Tms.cons tb Tms.nil))) = false := by
            have := is2_of h1
            cases pr <;> first | rfl | cases this
          rw [ho]
          simp only [ev, evs]
          exact re_prim2 dx hg h1 (S.k h2) (S.k h3) (star_of h2 _ _) (star_of h3 _ _)
      | [], h => cases h
      | _ :: _ :: _ :: _, h => cases h
  · rw [if_neg hg] at h
    cases h
theorem meth1_or {m : Str} {pr : P} (h : meth1 m = some pr) : (m = "join" ∧ pr = .join) ∨ (m = "index" ∧ pr = .index) := by
  unfold meth1 at h
  by_cases h1 : m = "join"
  · rw [if_pos h1] at h
    cases h
    exact .inl ⟨h1, rfl⟩
  · rw [if_neg h1] at h
    by_cases h2 : m = "index"
    · rw [if_pos h2] at h
      cases h
      exact .inr ⟨h2, rfl⟩
    · rw [if_neg h2] at h
      cases h
theorem snd_meth {Z : Wo} {k n : Nat} {W : WX} {X : Cx} {c : Cc} (dx : DX X c k W Z) (S : Snd Z W X c n) {Γ : Gm} {o : Expr} {m : Str} {args : List Expr} {ap p : Pos} {t : Tm} (h : cmpE c Γ (n + 1) (.Call (.Attribute o m ap) args [] p) = some t) :
    PE X (.Call (.Attribute o m ap) args [] p) (RE Z W Γ (md (owns t)) (ev t)) := by
  match args, h with
  | [a], h =>
    have h : ((meth1 m).bind fun pr => if ap.endLine == p.line then (cmpR c Γ n o).bind fun to => (cmpE c Γ n a).bind fun ta => some (Tm.meth pr to ta) else none) = some t := h
    obtain ⟨pr, h1, h⟩ := some_bind h
    by_cases hl : (ap.endLine == p.line) = true
    · rw [if_pos hl] at h
      obtain ⟨to, h2, h⟩ := some_bind h
      obtain ⟨ta, h3, h⟩ := some_bind h
      cases h
      simp only [ev]
      rcases meth1_or h1 with ⟨rfl, rfl⟩ | ⟨rfl, rfl⟩
      · exact re_join dx (S.r Γ o to h2) (S.k h3) (base_of h2) hl (star_of h3 _ _)
      · exact re_index dx (S.r Γ o to h2) (S.k h3) (base_of h2) hl (star_of h3 _ _)
    · rw [if_neg hl] at h
      cases h
  | [], h => cases h
  | _ :: _ :: _, h => cases h
theorem snd_name {Z : Wo} {k n : Nat} {W : WX} {X : Cx} {c : Cc} (dx : DX X c k W Z) {Γ : Gm} {x : Str} {p : Pos} {t : Tm} (h : cmpE c Γ (n + 1) (.Name x p) = some t) : owns t = false ∧ PE X (.Name x p) (RE Z W Γ .keep (ev t)) := by
  have h : (match varOf c x with
      | some i => if Γ i then none else some (.var i)
      | none => if isGl c x then (match c.tab.lookup x with
        | some (.const d) => some (.lit d)
        | _ => none) else none) = some t := h
  cases q : varOf c x with
  | some i =>
    simp only [q] at h
    by_cases g : Γ i = true
    · rw [if_pos g] at h
      cases h
    · rw [if_neg g] at h
      cases h
      exact ⟨rfl, re_var dx q (Bool.eq_false_iff.mpr g)⟩
  | none =>
    simp only [q] at h
    by_cases hg : isGl c x = true
    · rw [if_pos hg] at h
      cases hl : c.tab.lookup x with
      | none => simp only [hl] at h; cases h
      | some en =>
        simp only [hl] at h
        cases en with
        | const d =>
          cases h
          obtain ⟨_, u, v, h1, h2, h3⟩ := dx.ent x _ hl
          obtain ⟨g1, g2, _⟩ := isGl_ok dx hg
          exact ⟨rfl, re_C (pe_glob g1 h1 h2 g2) h3⟩
        | fn _ _ _ => cases h
        | exc _ => cases h
    · rw [if_neg hg] at h
      cases h
theorem plainIx_of {b : Expr} (h : ∀ lo hi st p, b ≠ .Slice lo hi st p) : PlainIx b := by
  intro o i
  cases b with
  | Slice lo hi st p => exact absurd rfl (h lo hi st p)
  | _ => rfl
theorem snd_comp {Z : Wo} {k n : Nat} {W : WX} {X : Cx} {c : Cc} (dx : DX X c k W Z) (IH : ∀ (W : WX) (X : Cx) (c : Cc), DX X c k W Z → Snd Z W X c n) {Γ : Gm} {elt : Expr} {gens : List Comprehension} {scope : Scope} {p : Pos} {t : Tm} (h : cmpE c Γ (n + 1) (.ListComp elt gens scope p) = some t) :
    ∃ tg it ifs g ti tc te, gens = [⟨tg, it, ifs, 0⟩] ∧ t = .comp te g ti tc ((ownNames c.N scope).map Prod.snd) ∧ CompParts X c Z W Γ scope tg it elt ifs g (evI ti) (evC tc) (ev te) := by
  match gens, h with
  | [⟨tg, it, ifs, asy⟩], h =>
    have h : (if asy = 0 ∧ blkC c.N c.sc scope (ownNames c.N scope) = true then
          (cmpI c Γ n tg it).bind fun ti => (tgOf c.N scope tg).bind fun g =>
          (match ifs with
            | [] => some OTm.none
            | [i] => (cmpT { c with sc := relS scope c.sc } (clr Γ ((ownNames c.N scope).map Prod.snd)) n i).bind fun t => some (OTm.some t)
            | _ => none).bind fun tc => (cmpE { c with sc := relS scope c.sc } (clr Γ ((ownNames c.N scope).map Prod.snd)) n elt).bind fun te => some (.comp te g ti tc ((ownNames c.N scope).map Prod.snd))
        else none) = some t := h
    by_cases hc : asy = 0 ∧ blkC c.N c.sc scope (ownNames c.N scope) = true
    · rw [if_pos hc] at h
      obtain ⟨ti, h1, h⟩ := some_bind h
      obtain ⟨g, h2, h⟩ := some_bind h
      obtain ⟨tc, h3, h⟩ := some_bind h
      obtain ⟨te, h4, h⟩ := some_bind h
      cases h
      obtain ⟨rfl, hblk⟩ := hc
      obtain ⟨i1, i2⟩ := (IH W X c dx).i Γ tg it ti h1
      refine ⟨tg, it, ifs, g, ti, tc, te, rfl, rfl, ⟨?_, i1, fun s H C cl fp => pg_blk dx h2 s H C cl fp, fun s H C cl fp => ?_, fun s H C cl fp => (IH W0 _ _ (dx.blk s H scope cl C fp)).k h4, own_tg h2, i2⟩⟩
      · rw [dx.hN, dx.hs]
        exact blkOk_by hblk
      · match ifs, h3 with
        | [], h3 =>
          cases h3
          refine ⟨fun pins s' σ H' Q I q => pts_nil.run pins s' σ H' Q I ?_⟩
          obtain ⟨F0, H0, F, en, I', q⟩ := q
          exact pst_ok I'.sub q
        | [i], h3 =>
          obtain ⟨tt, k1, k2⟩ := some_bind h3
          cases k2
          exact pts_one ((IH W0 _ _ (dx.blk s H scope cl C fp)).t _ i tt k1)
        | _ :: _ :: _, h3 => cases h3
    · rw [if_neg hc] at h
      cases h
  | [], h => cases h
  | ⟨_, _, _, _⟩ :: _ :: _, h => cases h
end Hue
namespace Hue
open PySem PySem.Spec PyProof.Rows L2
section
variable {Z : Wo} {k n : Nat} {W : WX} {X : Cx} {c : Cc}
theorem snd_bool (dx : DX X c k W Z) (S : Snd Z W X c n) {Γ : Gm} {op : BoolOp} {vs : List Expr} {p : Pos} {t : Tm} (h : cmpE c Γ (n + 1) (.BoolOp op vs p) = some t) : owns t = false ∧ PE X (.BoolOp op vs p) (RE Z W Γ .keep (ev t)) := by
  match vs, h with
  | a :: b :: r, h =>
    replace h : ((cmpE c Γ n a).bind fun ta => (match (generalizing := false) r with
        | [] => cmpE c Γ n b
        | _ :: _ => cmpE c Γ n (.BoolOp op (b :: r) p)).bind fun tb => some (mkBool op ta tb)) = some t := h
    obtain ⟨ta, h1, h⟩ := some_bind h
    obtain ⟨tb, h2, h⟩ := some_bind h
    have hb : PE X (.BoolOp op (b :: r) p) (RE Z W Γ .keep (ev tb)) := by
      cases r with
      | nil => exact pe_one (S.k h2)
      | cons x r => exact S.k h2
    cases op with
    | And =>
      cases h
      refine ⟨rfl, ?_⟩
      simp only [mkBool, ev]
      exact re_and (S.k h1) hb
    | Or =>
      cases h
      refine ⟨rfl, ?_⟩
      simp only [mkBool, ev]
      exact re_or (S.k h1) hb
  | [], h => cases h
  | [_], h => cases h
theorem snd_e (dx : DX X c k W Z) (IH : ∀ (W : WX) (X : Cx) (c : Cc), DX X c k W Z → Snd Z W X c n) (Γ : Gm) (e : Expr) (t : Tm) (h : cmpE c Γ (n + 1) e = some t) : PE X e (RE Z W Γ (md (owns t)) (ev t)) := by
  have S := IH W X c dx
  cases e with
  | Name x p =>
    obtain ⟨ho, pe⟩ := snd_name dx h
    rw [ho]
    exact pe
  | Constant kk j p =>
    cases kk with
    | int i => cases h; exact re_C pe_int fun F => .int i
    | bool b => cases h; exact re_C pe_bl fun F => .bl b
    | none => cases h; exact re_C pe_non fun F => .non
    | str s =>
      have h : (if s.cps.size ≤ lim then some (Tm.lit (.str s.cps.toList)) else none) = some t := h
      by_cases q : s.cps.size ≤ lim
      · rw [if_pos q] at h
        cases h
        refine re_C pe_str fun F => ?_
        have es : s = Hue.S s.cps.toList := by
          obtain ⟨cps⟩ := s
          simp
        have r : Rep Z F (.str (Hue.S s.cps.toList)) (.str s.cps.toList) := .str _ (by rw [Array.length_toList]; exact lim_le q)
        rw [← es] at r
        exact r
      · rw [if_neg q] at h
        cases h
    | _ => cases h
  | BinOp a op b p =>
    have h : ((bop op).bind fun o => (cmpE c Γ n a).bind fun ta => (cmpE c Γ n b).bind fun tb => some (Tm.bin o ta tb)) = some t := h
    obtain ⟨o, h0, h⟩ := some_bind h
    obtain ⟨ta, h1, h⟩ := some_bind h
    obtain ⟨tb, h2, h⟩ := some_bind h
    cases h
    have eo := bop_opOf h0
    subst eo
    have q := re_bin (o := o) (p := p) (md_or (owns (Tm.bin o ta tb))) (S.k h1) (S.k h2)
    simp only [ev]
    exact q
  | UnaryOp op a p =>
    cases op with
    | USub =>
      obtain ⟨ta, h1, h⟩ := some_bind (show ((cmpE c Γ n a).bind fun ta => some (Tm.neg ta)) = some t from h)
      cases h
      simp only [ev]
      exact re_neg (S.k h1)
    | Not =>
      obtain ⟨ta, h1, h⟩ := some_bind (show ((cmpE c Γ n a).bind fun ta => some (Tm.not ta)) = some t from h)
      cases h
      simp only [ev]
      exact re_not (S.k h1)
    | _ => cases h
  | BoolOp op vs p =>
    obtain ⟨ho, pe⟩ := snd_bool dx S h
    rw [ho]
    exact pe
  | IfExp tt a b p =>
    have h : ((cmpT c Γ n tt).bind fun t1 => (cmpE c Γ n a).bind fun ta => (cmpE c Γ n b).bind fun tb => some (Tm.ite t1 ta tb)) = some t := h
    obtain ⟨t1, h1, h⟩ := some_bind h
    obtain ⟨ta, h2, h⟩ := some_bind h
    obtain ⟨tb, h3, h⟩ := some_bind h
    cases h
    simp only [ev]
    have fm : ∀ {x : Expr} {tx : Tm}, cmpE c Γ n x = some tx → (owns tx || flatT tx) = true → PE X x (RE Z W Γ .fresh (ev tx)) := fun {x tx} hx ho => by
      cases q : owns tx with
      | true =>
        have := S.e Γ x tx hx
        rw [q] at this
        exact this
      | false =>
        rw [q, Bool.false_or] at ho
        exact re_fresh (S.k hx) (flat_ev ho)
    cases ho : owns (Tm.ite t1 ta tb) with
    | false => exact re_ite (S.t Γ tt t1 h1) (S.k h2) (S.k h3)
    | true =>
      unfold owns at ho
      rw [Bool.and_eq_true] at ho
      exact re_iteF (S.t Γ tt t1 h1) (fm h2 ho.1) (fm h3 ho.2)
  | Compare a ops bs p =>
    obtain ⟨ho, pe, _⟩ := snd_cmp dx S h
    rw [ho]
    exact pe
  | Call f args kws p =>
    cases f with
    | Name f fp =>
      cases kws with
      | nil => exact snd_call dx S h
      | cons _ _ => exact absurd (show (none : Option Tm) = some t from h) (fun z => nomatch z)
    | Attribute o m ap =>
      cases kws with
      | nil => exact snd_meth dx S h
      | cons _ _ => exact absurd (show (none : Option Tm) = some t from h) (fun z => nomatch z)
    | _ => cases kws <;> exact absurd (show (none : Option Tm) = some t from h) (fun z => nomatch z)
  | Subscript a s p =>
    cases s with
    | Slice lo hi st p2 =>
      cases st with
      | none =>
        have h : ((cmpR c Γ n a).bind fun ta => (cmpO c Γ n lo).bind fun tl => (cmpO c Γ n hi).bind fun th => some (Tm.slc ta tl th)) = some t := h
        obtain ⟨ta, h1, h⟩ := some_bind h
        obtain ⟨tl, h2, h⟩ := some_bind h
        obtain ⟨th, h3, h⟩ := some_bind h
        cases h
        have q := re_slc (p := p) (p2 := p2) dx (md_or (owns (Tm.slc ta tl th))) (S.r Γ a ta h1) (S.o Γ lo tl h2) (S.o Γ hi th h3)
        simp only [ev]
        exact q
      | some st =>
        have h : ((revOf lo hi st).bind fun k => (cmpR c Γ n a).bind fun ta => match k with
          | .all => some (Tm.rev ta)
          | .but => some (.prim .rev2 (.cons ta .nil))) = some t := h
        obtain ⟨kk, h1, h⟩ := some_bind h
        obtain ⟨ta, h2, h⟩ := some_bind h
        unfold revOf at h1
        by_cases hm1 : isM1 st = true
        · rw [if_pos hm1] at h1
          obtain ⟨j, p1, p3, rfl⟩ := isM1_of hm1
          match lo, hi, h1 with
          | none, none, h1 =>
            cases h1
            cases h
            simp only [ev]
            exact re_rev dx (md_or _) (S.r Γ a ta h2)
          | some l, none, h1 =>
            by_cases hm2 : isM2 l = true
            · have h1 : (if isM2 l then some RevK.but else none) = some kk := h1
              rw [if_pos hm2] at h1
              cases h1
              cases h
              obtain ⟨j2, q1, q2, rfl⟩ := isM2_of hm2
              simp only [ev, evs]
              exact re_rev2 dx (md_or _) (S.r Γ a ta h2)
            · have h1 : (if isM2 l then some RevK.but else none) = some kk := h1
              rw [if_neg hm2] at h1
              cases h1
        · rw [if_neg hm1] at h1
          cases h1
    | _ =>
      obtain ⟨ta, h1, h⟩ := some_bind (show ((cmpR c Γ n a).bind fun ta => (cmpE c Γ n _).bind fun tb => some (Tm.idx ta tb)) = some t from h)
      obtain ⟨tb, h2, h⟩ := some_bind h
      cases h
      have q := re_idx (p := p) dx (S.r Γ a ta h1) (S.k h2) (plainIx_of fun _ _ _ _ z => nomatch z)
      simp only [ev]
      exact q
  | List es p =>
    have h : (if es.length ≤ 10000 then (cmpEs c Γ n es).bind fun ts => some (Tm.lst ts) else none) = some t := h
    by_cases q : es.length ≤ 10000
    · rw [if_pos q] at h
      obtain ⟨ts, h1, h⟩ := some_bind h
      cases h
      have q := re_lst (p := p) (md_or (owns (Tm.lst ts))) (S.s Γ es ts h1)
      simp only [ev]
      exact q
    · rw [if_neg q] at h
      cases h
  | Tuple es kk p =>
    have h : (if es.length ≤ 10000 then (cmpEs c Γ n es).bind fun ts => some (Tm.tup ts) else none) = some t := h
    by_cases q : es.length ≤ 10000
    · rw [if_pos q] at h
      obtain ⟨ts, h1, h⟩ := some_bind h
      cases h
      simp only [ev]
      exact re_tup (S.s Γ es ts h1)
    · rw [if_neg q] at h
      cases h
  | ListComp elt gens scope p =>
    obtain ⟨tg, it, ifs, g, ti, tc, te, rfl, rfl, cp⟩ := snd_comp dx IH h
    have q := re_comp (pos := p) dx cp (md_or (owns (Tm.comp te g ti tc ((ownNames c.N scope).map Prod.snd))))
    simp only [ev]
    exact q
  | _ => cases h
theorem snd_r (dx : DX X c k W Z) (S : Snd Z W X c n) (Γ : Gm) (e : Expr) (t : Tm) (h : cmpR c Γ (n + 1) e = some t) : PE X e (RE Z W Γ .read (ev t)) := by
  cases e with
  | Name x p =>
    have h : (match varOf c x with
      | some i => some (Tm.var i)
      | none => cmpE c Γ n (.Name x p)) = some t := h
    cases q : varOf c x with
    | some i =>
      rw [q] at h
      cases h
      exact re_varR dx q
    | none =>
      rw [q] at h
      exact re_read (S.k h)
  | _ => exact re_read (S.k h)
theorem snd_w (dx : DX X c k W Z) (S : Snd Z W X c n) (Γ : Gm) (op : BoolOp) (vs : List Expr) (p : Pos) (t : Tm) (h : cmpT c Γ (n + 1) (.BoolOp op vs p) = some t) : PW X (.BoolOp op vs p) (RT Z W Γ (fun en => (ev t en).bind truth)) := by
  match vs, h with
  | a :: b :: r, h =>
    replace h : ((cmpT c Γ n a).bind fun ta => (match (generalizing := false) r with
        | [] => cmpT c Γ n b
        | _ :: _ => cmpT c Γ n (.BoolOp op (b :: r) p)).bind fun tb => some (mkBool op ta tb)) = some t := h
    obtain ⟨ta, h1, h⟩ := some_bind h
    obtain ⟨tb, h2, h⟩ := some_bind h
    have hb : PW X (.BoolOp op (b :: r) p) (RT Z W Γ (fun en => (ev tb en).bind truth)) := by
      cases r with
      | nil =>
        cases op with
        | And => exact pw_and1 (S.t Γ b tb h2)
        | Or => exact pw_or1 (S.t Γ b tb h2)
      | cons x r => exact S.w Γ op (b :: x :: r) p tb h2
    cases op with
    | And =>
      cases h
      simp only [mkBool, ev]
      exact rt_and (S.t Γ a ta h1) hb
    | Or =>
      cases h
      simp only [mkBool, ev]
      exact rt_or (S.t Γ a ta h1) hb
  | [], h => cases h
  | [_], h => cases h
theorem snd_t (dx : DX X c k W Z) (S : Snd Z W X c n) (hT : ∀ a ops bs p t, cmpE c Γ n (.Compare a ops bs p) = some t → PT X (.Compare a ops bs p) (RT Z W Γ (fun en => (ev t en).bind truth))) (e : Expr) (t : Tm) (h : cmpT c Γ (n + 1) e = some t) : PT X e (RT Z W Γ (fun en => (ev t en).bind truth)) := by
  cases e with
  | UnaryOp op a p =>
    cases op with
    | Not =>
      obtain ⟨ta, h1, h⟩ := some_bind (show ((cmpT c Γ n a).bind fun ta => some (Tm.not ta)) = some t from h)
      cases h
      simp only [ev]
      exact rt_not (S.t Γ a ta h1)
    | Invert => exact rt_val (S.k (show cmpE c Γ n _ = some t from h)) (fun whole => rfl)
    | UAdd => exact rt_val (S.k (show cmpE c Γ n _ = some t from h)) (fun whole => rfl)
    | USub => exact rt_val (S.k (show cmpE c Γ n _ = some t from h)) (fun whole => rfl)
  | BoolOp op vs p => exact (snd_w dx S Γ op vs p t h).pt
  | IfExp _ _ _ _ => cases h
  | Compare a ops bs p => exact hT a ops bs p t h
  | _ => exact rt_val (S.k (show cmpE c Γ n _ = some t from h)) (fun whole => rfl)
theorem snd_s (S : Snd Z W X c n) (Γ : Gm) (es : List Expr) (ts : Tms) (h : cmpEs c Γ (n + 1) es = some ts) : PA X es (RA Z W Γ (evs ts)) := by
  cases es with
  | nil => cases h; exact ra_nil
  | cons e es =>
    have h : ((cmpE c Γ n e).bind fun t => (cmpEs c Γ n es).bind fun ts => some (Tms.cons t ts)) = some ts := h
    obtain ⟨t, h1, h⟩ := some_bind h
    obtain ⟨tr, h2, h⟩ := some_bind h
    cases h
    simp only [evs]
    exact ra_cons (S.k h1) (S.s Γ es tr h2) (star_of h1 _ _)
theorem snd_o (S : Snd Z W X c n) (Γ : Gm) (oe : Option Expr) (t : OTm) (h : cmpO c Γ (n + 1) oe = some t) : PO X oe (RO Z W Γ (evO t)) := by
  cases oe with
  | none => cases h; exact ro_none
  | some e =>
    obtain ⟨te, h1, h⟩ := some_bind (show ((cmpE c Γ n e).bind fun t => some (OTm.some t)) = some t from h)
    cases h
    simp only [evO]
    exact ro_some (S.k h1)
theorem fold_of {e : Expr} {t : Tm} {Γ : Gm} (h : cmpE c Γ n e = some t) (env : PySem.Env) (x : Value) : foldedSetIterable e env x = pure x := by
  cases n with
  | zero => cases h
  | succ n => cases e <;> first | rfl | cases h
theorem snd_i (dx : DX X c k W Z) (S : Snd Z W X c n) (Γ : Gm) (tg e : Expr) (t : ITm) (h : cmpI c Γ (n + 1) tg e = some t) : PI X tg e (RI Z W Γ (evI t)) ∧ ∀ x, foldedSetIterable e X.env x = pure x := by
  have plain : ∀ (e : Expr), ((cmpE c Γ n e).bind fun t => some (ITm.seq t)) = some t → PI X tg e (RI Z W Γ (evI t)) ∧ ∀ x, foldedSetIterable e X.env x = pure x := fun e h => by
    obtain ⟨te, h1, h⟩ := some_bind h
    cases h
    refine ⟨?_, fold_of h1 X.env⟩
    simp only [evI]
    exact ri_seq dx (S.k h1)
  cases e with
  | Call f args kws p =>
    cases f with
    | Name f fp =>
      cases kws with
      | cons _ _ => exact plain _ h
      | nil =>
        replace h : (if bltn c f = true then (if f = "range" then (match (generalizing := false) args with
          | [a] => (cmpE c Γ n a).bind fun ta => some (ITm.rng1 ta)
          | [a, b] => (cmpE c Γ n a).bind fun ta => (cmpE c Γ n b).bind fun tb => some (.rng2 ta tb)
          | [a, b, d] => (cmpE c Γ n a).bind fun ta => (cmpE c Γ n b).bind fun tb => (cmpE c Γ n d).bind fun td => some (.rng3 ta tb td)
          | _ => none)
        else if f = "enumerate" then (match (generalizing := false) tg, args with
          | .Tuple _ _ _, [a] => (cmpE c Γ n a).bind fun ta => some (.enm ta)
          | _, _ => none)
        else if f = "zip" then (match (generalizing := false) tg, args with
          | .Tuple _ _ _, [a, b] => (cmpE c Γ n a).bind fun ta => (cmpE c Γ n b).bind fun tb => some (.zip ta tb)
          | _, _ => none)
        else (cmpE c Γ n (.Call (.Name f fp) args [] p)).bind fun t => some (.seq t))
        else (cmpE c Γ n (.Call (.Name f fp) args [] p)).bind fun t => some (.seq t)) = some t := h
        refine ⟨?_, fun x => rfl⟩
        by_cases hb : bltn c f = true
        · rw [if_pos hb] at h
          by_cases h1 : f = "range"
          · rw [if_pos h1] at h
            subst h1
            match args, h with
            | [a], h =>
              obtain ⟨ta, k1, h⟩ := some_bind h
              cases h
              simp only [evI]
              exact ri_rng1 dx hb (S.k k1) (star_of k1 _ _)
            | [a, b], h =>
              obtain ⟨ta, k1, h⟩ := some_bind h
              obtain ⟨tb, k2, h⟩ := some_bind h
              cases h
              simp only [evI]
              exact ri_rng2 dx hb (S.k k1) (S.k k2) (by rw [star_of k1, star_of k2]; rfl) (star_of k2 _ _)
            | [a, b, d], h =>
              obtain ⟨ta, k1, h⟩ := some_bind h
              obtain ⟨tb, k2, h⟩ := some_bind h
              obtain ⟨td, k3, h⟩ := some_bind h
              cases h
              simp only [evI]
              exact ri_rng3 dx hb (S.k k1) (S.k k2) (S.k k3) (star_of k1 _ _) (star_of k2 _ _) (star_of k3 _ _)
            | [], h => cases h
            | _ :: _ :: _ :: _ :: _, h => cases h
          · rw [if_neg h1] at h
            by_cases h2 : f = "enumerate"
            · rw [if_pos h2] at h
              subst h2
              match tg, args, h with
              | .Tuple _ _ _, [a], h =>
                obtain ⟨ta, k1, h⟩ := some_bind h
                cases h
                simp only [evI]
                exact ri_enm dx hb (S.k k1) (star_of k1 _ _)
            · rw [if_neg h2] at h
              by_cases h3 : f = "zip"
              · rw [if_pos h3] at h
                subst h3
                match tg, args, h with
                | .Tuple _ _ _, [a, b], h =>
                  obtain ⟨ta, k1, h⟩ := some_bind h
                  obtain ⟨tb, k2, h⟩ := some_bind h
                  cases h
                  simp only [evI]
                  exact ri_zip dx hb (S.k k1) (S.k k2) (star_of k1 _ _) (star_of k2 _ _)
              · rw [if_neg h3] at h
                exact (plain _ h).1
        · rw [if_neg hb] at h
          exact (plain _ h).1
    | _ => cases kws <;> exact plain _ h
  | _ => exact plain _ h
end
theorem snd_all {Z : Wo} {k : Nat} : ∀ (n : Nat) (W : WX) (X : Cx) (c : Cc), DX X c k W Z → Snd Z W X c n
  | 0, W, X, c, dx => ⟨fun _ _ _ h => (by cases h), fun _ _ _ h => (by cases h), fun _ _ _ h => (by cases h), fun _ _ _ _ _ h => (by cases h), fun _ _ _ h => (by cases h), fun _ _ _ h => (by cases h), fun _ _ _ _ h => (by cases h)⟩
  | n + 1, W, X, c, dx => by
    have IH := fun W X c (dx : DX X c k W Z) => snd_all n W X c dx
    have S := IH W X c dx
    refine ⟨fun Γ e t h => snd_e dx IH Γ e t h, fun Γ e t h => snd_r dx S Γ e t h, fun Γ e t h => snd_t dx S (fun a ops bs p t h => ?_) e t h, fun Γ op vs p t h => snd_w dx S Γ op vs p t h, fun Γ es ts h => snd_s S Γ es ts h, fun Γ oe t h => snd_o S Γ oe t h, fun Γ tg e t h => snd_i dx S Γ tg e t h⟩
    cases n with
    | zero => cases h
    | succ n => exact (snd_cmp dx (snd_all n W X c dx) h).2.2
end Hue
namespace Hue
open PySem PySem.Spec PyProof.Rows L2

/-! ### which names leave their slot -/
def isPrim1 (c : Cc) : Expr → Bool
  | .Name f _ => (c.tab.lookup f).isNone && (prim1 f).isSome
  | _ => false
mutual
def escE (c : Cc) : Nat → Expr → List Nat
  | 0, _ => []
  | n + 1, e => match e with
    | .Name x _ => (varOf c x).toList
    | .BinOp a _ b _ => escE c n a ++ escE c n b
    | .UnaryOp _ a _ => escE c n a
    | .BoolOp _ vs _ => escL c n vs
    | .IfExp t a b _ => escE c n t ++ escE c n a ++ escE c n b
    | .Compare a ops bs _ => match ops with
      | [_] => escR c n a ++ escRs c n bs
      | _ => escE c n a ++ escL c n bs
    | .Call f args _ _ => match f with
      | .Attribute o _ _ => escR c n o ++ escL c n args
      | _ => match args with
        | [a] => if isPrim1 c f then escR c n a else escE c n a
        | _ => escL c n args
    | .Subscript a s _ => escR c n a ++ escE c n s
    | .Slice lo hi st _ => escO c n lo ++ escO c n hi ++ escO c n st
    | .List es _ => escL c n es
    | .Tuple es _ _ => escL c n es
    | .ListComp elt gens scope _ => match gens with
      | [⟨_, it, ifs, _⟩] => escE c n it ++ escE { c with sc := relS scope c.sc } n elt ++ escL { c with sc := relS scope c.sc } n ifs
      | _ => []
    | _ => []
def escR (c : Cc) : Nat → Expr → List Nat
  | 0, _ => []
  | n + 1, e => match e with
    | .Name _ _ => []
    | e => escE c n e
def escL (c : Cc) : Nat → List Expr → List Nat
  | 0, _ => []
  | _ + 1, [] => []
  | n + 1, e :: es => escE c n e ++ escL c n es
def escRs (c : Cc) : Nat → List Expr → List Nat
  | 0, _ => []
  | _ + 1, [] => []
  | n + 1, e :: es => escR c n e ++ escRs c n es
def escO (c : Cc) : Nat → Option Expr → List Nat
  | 0, _ => []
  | _ + 1, none => []
  | n + 1, some e => escE c n e
end
/-- a name of the def that is stored -/
def nmLoc (c : Cc) : Expr → Option Nat
  | .Name x _ => locOf c x
  | _ => none

/-! ### readings of statements -/
/-- what is wanted of a statement's end -/
def sre (Z : Wo) (W : WX) (fr : Bool) (F0 H0 : Hp) (Γx Γ' : Gm) (F : Hp) (D : Ends) (r : SR) : Prop := match r with
  | .nx e' => ∀ F' H' σ', Same F F' → Inv0 Z F0 H0 Γ' F' H' σ' e' → D.nx σ' H'
  | .rt d => ∀ F' H' v, Ext F0 H0 F' H' → RepM Z (md fr) F' H0 H' v d → D.rt v H'
  | .ex cn e' => ∀ F' H' σ', Inv0 Z F0 H0 Γx F' H' σ' e' → W (.ref (Z.exA cn)) none σ' H'
  | .bad => False
def RS (Z : Wo) (W : WX) (fr : Bool) (F0 H0 : Hp) (Γx Γ Γ' : Gm) (f : Env → SR) : TS := fun D σ H => ∃ F e, Inv0 Z F0 H0 Γ F H σ e ∧ sre Z W fr F0 H0 Γx Γ' F D (f e)
section
variable {X : Cx} {c : Cc} {k n : Nat} {W : WX} {Z : Wo} {Γ Γ' Γ1 Γ2 Γx : Gm} {F0 H0 : Hp} {fr : Bool} {pos p : Pos}
theorem sre_mono {F F1 : Hp} {D : Ends} {r : SR} (s : Same F F1) (h : sre Z W fr F0 H0 Γx Γ' F D r) : sre Z W fr F0 H0 Γx Γ' F1 D r := by
  cases r with
  | nx e' => exact fun F' H' σ' s' I' => h F' H' σ' (s.trans s') I'
  | rt d => exact h
  | ex cn e' => exact h
  | bad => exact h
theorem sre_out {F : Hp} {D : Ends} {r : SR} (hw : ∀ i, Γ2 i = true → Γ' i = true) (h : sre Z W fr F0 H0 Γx Γ2 F D r) : sre Z W fr F0 H0 Γx Γ' F D r := by
  cases r with
  | nx e' =>
    intro F' H' σ' s' I'
    obtain ⟨F2, s2, I2⟩ := I'.weak hw
    exact h F2 H' σ' (s'.trans s2) I2
  | rt d => exact h
  | ex cn e' => exact h
  | bad => exact h
theorem rs_in {D : Ends} {σ : L2.St} {H : Hp} {f : Env → SR} (hw : ∀ i, Γ1 i = true → Γ i = true) (h : RS Z W fr F0 H0 Γx Γ Γ' f D σ H) : RS Z W fr F0 H0 Γx Γ1 Γ' f D σ H := by
  obtain ⟨F, e, I, q⟩ := h
  obtain ⟨F1, s1, I1⟩ := I.weak hw
  exact ⟨F1, e, I1, sre_mono s1 q⟩
theorem rs_out {D : Ends} {σ : L2.St} {H : Hp} {f : Env → SR} (hw : ∀ i, Γ2 i = true → Γ' i = true) (h : RS Z W fr F0 H0 Γx Γ Γ2 f D σ H) : RS Z W fr F0 H0 Γx Γ Γ' f D σ H := by
  obtain ⟨F, e, I, q⟩ := h
  exact ⟨F, e, I, sre_out hw q⟩
/-- a value, then what follows from it -/
theorem rs_then {α : Type} {D : Ends} {σ : L2.St} {H F : Hp} {e : Env} {r : R α} {g : α → SR} {G : α → Hp → Hp → Prop} (hx : ∀ j, Γx j = true → Γ j = true) (I : Inv0 Z F0 H0 Γ F H σ e)
    (q : sre Z W fr F0 H0 Γx Γ' F D (R.then e r g))
    (h : ∀ a, r = .ok a → sre Z W fr F0 H0 Γx Γ' F D (g a) → ∀ F1 H1, Ext F H F1 H1 → G a F1 H1) : pst Z W F H σ r G := by
  cases r with
  | ok a => exact fun F1 H1 x => h a rfl q F1 H1 x
  | exc cn =>
    intro F1 H1 x
    obtain ⟨F2, s2, I2⟩ := (I.grow x).weak hx
    exact q F2 H1 σ I2
  | bad => exact q.elim
theorem own_ne {F H F1 H1 : Hp} {σ : L2.St} {e : Env} {i : Nat} {v : V} {d : D} (I : Inv0 Z F0 H0 Γ F H σ e) (r : RepM Z .fresh F1 H H1 v d) :
    ∀ j p d', j ≠ i → Γ j = true → e[j]? = some (some d') → d'.mut = true → d.mut = true → σ[j]? = some (some (.ref p)) → v ≠ .ref p := fun j p d' _ g he m' m hs ev => by
  obtain ⟨w, hw, _, h2⟩ := I.slot j d' he
  rw [hs] at hw
  cases hw
  have ow := (h2 g).1
  unfold OwnRep at ow
  rw [if_pos m'] at ow
  obtain ⟨p', o, e1, _, hh, _⟩ := ow
  cases e1
  rw [r.2 p m ev] at hh
  cases hh
theorem rs_set {st : Stmt} {t : Tm} {i : Nat} (hw : ∀ j, Γ1 j = true → Γ j = true) (hx : ∀ j, Γx j = true → Γ1 j = true) (hst : PS X st (tAsg (RE Z W Γ1 (md (owns t)) (ev t)) (gName i))) : PS X st (RS Z W fr F0 H0 Γx Γ (setG Γ1 i (owns t)) (evS (.asg (.nm i) t))) := by
  refine PSi hst fun D σ H q => ?_
  obtain ⟨F, e, I, q⟩ := rs_in hw q
  simp only [evS] at q
  refine ⟨F0, H0, F, e, I, rs_then hx I q fun d hd q F1 H1 x v r => ?_⟩
  have q : ∀ F' H' σ', Same F F' → Inv0 Z F0 H0 (setG Γ1 i (owns t)) F' H' σ' (e.set i (some d)) → D.nx σ' H' := q
  refine q F1 H1 _ x.ff ?_
  have I1 := I.grow x
  cases ho : owns t with
  | false =>
    rw [ho] at r
    exact I1.put i r
  | true =>
    rw [ho] at r
    exact I1.putO i r.1 (fun p m ev => I.ext.hh.free (r.2 p m ev)) (own_ne I r)
theorem rs_nil : PSs X [] (RS Z W fr F0 H0 Γx Γ Γ (evSs .nil)) := by
  refine PSsi pss_nil fun D σ H q => ?_
  obtain ⟨F, e, I, q⟩ := q
  exact q F H σ (Same.refl _) I
theorem rs_seq {st : Stmt} {rest : List Stmt} {s : St} {r : Sts} (h1 : PS X st (RS Z W fr F0 H0 Γx Γ Γ1 (evS s))) (h2 : PSs X rest (RS Z W fr F0 H0 Γx Γ1 Γ' (evSs r))) : PSs X (st :: rest) (RS Z W fr F0 H0 Γx Γ Γ' (evSs (.cons s r))) := by
  refine PSsi (pss_cons h1 h2) fun D σ H q => ?_
  obtain ⟨F, e, I, q⟩ := q
  refine ⟨F, e, I, ?_⟩
  simp only [evSs] at q
  cases hs : evS s e with
  | nx e' =>
    rw [hs] at q
    exact fun F' H' σ' s' I' => ⟨F', e', I', sre_mono s' q⟩
  | rt d => rw [hs] at q; exact q
  | ex cn e' => rw [hs] at q; exact q
  | bad => rw [hs] at q; exact q
theorem rs_pass : PS X (.Pass p) (RS Z W fr F0 H0 Γx Γ Γ (evS .pass)) := by
  refine PSi ps_pass fun D σ H q => ?_
  obtain ⟨F, e, I, q⟩ := q
  exact q F H σ (Same.refl _) I
theorem rs_if {t : Expr} {a b : List Stmt} {tc : Tm} {sa sb : Sts} (hw : ∀ j, Γ1 j = true → Γ j = true) (hx : ∀ j, Γx j = true → Γ1 j = true) (ht : PT X t (RT Z W Γ1 (fun en => (ev tc en).bind truth))) (ha : PSs X a (RS Z W fr F0 H0 Γx Γ1 Γ' (evSs sa))) (hb : PSs X b (RS Z W fr F0 H0 Γx Γ1 Γ2 (evSs sb))) :
    PS X (.If t a b p) (RS Z W fr F0 H0 Γx Γ (andG Γ' Γ2) (evS (.ite tc sa sb))) := by
  refine PSi (ps_if ht ha hb) fun D σ H q => ?_
  obtain ⟨F, e, I, q⟩ := rs_in hw q
  simp only [evS] at q
  refine ⟨F0, H0, F, e, I, rs_then hx I q fun kk hk q F1 H1 x => ?_⟩
  cases kk with
  | true =>
    refine iteT (rs_out (Γ2 := andG Γ' Γ2) (fun i h => ?_) ⟨F1, e, I.grow x, sre_mono x.ff q⟩)
    simp only [andG, Bool.and_eq_true] at h
    exact h.1
  | false =>
    refine iteF (rs_out (Γ2 := andG Γ' Γ2) (fun i h => ?_) ⟨F1, e, I.grow x, sre_mono x.ff q⟩)
    simp only [andG, Bool.and_eq_true] at h
    exact h.2
theorem rs_ret {a : Expr} {t : Tm} (hw : ∀ j, Γ1 j = true → Γ j = true) (hx : ∀ j, Γx j = true → Γ1 j = true) (ha : PE X a (RE Z W Γ1 (md fr) (ev t))) : PS X (.Return (some a) p) (RS Z W fr F0 H0 Γx Γ Γ' (evS (.ret t))) := by
  refine PSi (ps_ret ha) fun D σ H q => ?_
  obtain ⟨F, e, I, q⟩ := rs_in hw q
  simp only [evS] at q
  refine ⟨F0, H0, F, e, I, rs_then hx I q fun d hd q F1 H1 x v r => ?_⟩
  exact q F1 H1 v (I.ext.trans x) (repM_back I.ext.hh r)
/-- a slot of one's own is handed back -/
theorem rs_retO (dx : DX X c k W Z) {x : Str} {i : Nat} (hv : varOf c x = some i) (g : Γ i = true) : PS X (.Return (some (.Name x pos)) p) (RS Z W true F0 H0 Γx Γ Γ' (evS (.ret (.var i)))) := by
  obtain ⟨h1, h2, h3, h4⟩ := varOf_ok dx hv
  refine PSi (ps_ret (pe_var h1 h2 h3 h4)) fun D σ H q => ?_
  obtain ⟨F, e, I, q⟩ := q
  simp only [evS, ev] at q
  cases he : e[i]? with
  | none => rw [he] at q; exact False.elim q
  | some od =>
    cases od with
    | none => rw [he] at q; exact False.elim q
    | some d =>
      rw [he] at q
      obtain ⟨v, hv, _, r⟩ := I.slot i d he
      obtain ⟨r1, r2⟩ := r g
      exact ⟨v, hv, q F H v I.ext ⟨r1, r2⟩⟩
theorem rs_expr {a : Expr} {t : Tm} (hw : ∀ j, Γ1 j = true → Γ j = true) (hx : ∀ j, Γx j = true → Γ1 j = true) (ha : PE X a (RE Z W Γ1 .keep (ev t))) (hs : swapsWith a none p.line X.env = pure false) : PS X (.Expr a p) (RS Z W fr F0 H0 Γx Γ Γ1 (evS (.expr t))) := by
  refine PSi (ps_expr ha hs) fun D σ H q => ?_
  obtain ⟨F, e, I, q⟩ := rs_in hw q
  simp only [evS] at q
  refine ⟨F0, H0, F, e, I, rs_then hx I q fun d hd q F1 H1 x v r => ?_⟩
  exact q F1 H1 σ x.ff (I.grow x)
theorem rs_raise (dx : DX X c k W Z) {x m : Str} {cn j : Nat} {fp mp ep : Pos} (hx : ∀ j, Γx j = true → Γ j = true) (hg : isGl c x = true) (ht : c.tab.lookup x = some (.exc cn)) : PS X (.Raise (some (.Call (.Name x fp) [.Constant (.str m) j mp] [] ep)) none p) (RS Z W fr F0 H0 Γx Γ Γ' (evS (.raise cn))) := by
  obtain ⟨h1, h2, h3, h4, h5⟩ := dx.ent x _ ht
  obtain ⟨g1, g2, _⟩ := isGl_ok dx hg
  refine PSi (ps_raise dx.calm dx.tk (pmk_own PySem.F.excBase_ValueError h2 h1 h3 (raises_own h4 h5) g1 g2)) fun D σ H q => ?_
  obtain ⟨F, e, I, q⟩ := q
  obtain ⟨F2, s2, I2⟩ := I.weak hx
  exact q F2 H σ I2
/-- a, b = value -/
theorem rs_asg {st : Stmt} {t : Tm} {g : Tg} (hw : ∀ j, Γ1 j = true → Γ j = true) (hx : ∀ j, Γx j = true → Γ1 j = true) (hz : Z.K = X.K) (hst : PS X st (tAsg (RE Z W Γ1 .keep (ev t)) (gOf X.K g))) : PS X st (RS Z W fr F0 H0 Γx Γ (clr Γ1 (tgSlots g)) (evS (.asg g t))) := by
  refine PSi hst fun D σ H q => ?_
  obtain ⟨F, e, I, q⟩ := rs_in hw q
  simp only [evS] at q
  refine ⟨F0, H0, F, e, I, rs_then hx I q fun d hd q F1 H1 x v r => ?_⟩
  cases hb : bindTg g d e with
  | none => simp only [hb] at q; exact False.elim q
  | some e1 =>
    simp only [hb] at q
    rw [← hz]
    exact bind_ok (I.grow x) r hb fun σ1 I1 _ => q F1 H1 σ1 x.ff I1
theorem rs_for (dx : DX X c k W Z) {tg it : Expr} {body : List Stmt} {g : Tg} {ti : ITm} {b : Sts} (hw : ∀ j, Γ1 j = true → Γ j = true) (hx : ∀ j, Γx j = true → Γ1 j = true) (hi : PI X tg it (RI Z W Γ1 (evI ti))) (hf : ∀ x, foldedSetIterable it X.env x = pure x) (hg : PG X tg (gOf X.K g))
    (hb : PSs X body (RS Z W fr F0 H0 Γx (clr Γ1 (tgSlots g)) Γ2 (evSs b))) (hle : ∀ j, Γ1 j = true → Γ2 j = true) : PS X (.For tg it body [] p) (RS Z W fr F0 H0 Γx Γ Γ1 (evS (.for_ g ti b))) := by
  refine PSi (ps_for dx.po dx.calm hi hg hb hf) fun D σ H q => ?_
  obtain ⟨F, e, I, q⟩ := rs_in hw q
  simp only [evS] at q
  refine ⟨F0, H0, F, e, I, rs_then hx I q fun items hit q F1 H1 x J hl w => ?_⟩
  obtain ⟨rr, hrr⟩ : ∃ rr, forL (evSs b) g items e = rr := ⟨_, rfl⟩
  rw [hrr] at q
  refine for_it w (fun i σ' H' => ∃ F' e', Inv0 Z F0 H0 Γ1 F' H' σ' e' ∧ Same F1 F' ∧ forL (evSs b) g (items.drop i) e' = rr) ⟨F1, e, I.grow x, Same.refl _, hrr⟩ (fun i σ' H' _ pv => ?_) (fun i v σ' H' H'' hi pv y => ?_) (fun σ' H' pv => ?_)
  · obtain ⟨F', e', I', s', _⟩ := pv
    exact s'.trans I'.sub
  · obtain ⟨F', e', I', s', hr⟩ := pv
    obtain ⟨F2, x2, d, hd, rx⟩ := y F' s' I'.sub
    have hdrop : items.drop i = d :: items.drop (i + 1) := by
      obtain ⟨hlt, hget⟩ := List.getElem?_eq_some_iff.mp hd
      rw [List.drop_eq_getElem_cons hlt, hget]
    rw [hdrop] at hr
    unfold forL at hr
    cases hbd : bindTg g d e' with
    | none =>
      rw [hbd] at hr
      rw [← hr] at q
      exact False.elim q
    | some e1 =>
      rw [hbd] at hr
      rw [← dx.kz]
      refine bind_ok (I'.grow x2) rx hbd fun σ1 I1 _ => ⟨F2, e1, I1, ?_⟩
      dsimp only at hr
      cases hbody : evSs b e1 with
      | nx e2 =>
        rw [hbody] at hr
        intro F3 H3 σ3 s3 I3
        obtain ⟨F4, s4, I4⟩ := I3.weak hle
        exact ⟨F4, e2, I4, s'.trans (x2.ff.trans (s3.trans s4)), hr⟩
      | rt dd => rw [hbody] at hr; rw [← hr] at q; exact q
      | ex cn e2 => rw [hbody] at hr; rw [← hr] at q; exact q
      | bad => rw [hbody] at hr; rw [← hr] at q; exact q
  · obtain ⟨F', e', I', s', hr⟩ := pv
    rw [List.drop_length] at hr
    rw [← hr] at q
    exact q F' H' σ' (x.ff.trans s') I'
theorem rs_while (dx : DX X c k W Z) {t : Expr} {body : List Stmt} {tc : Tm} {b : Sts} (hw : ∀ j, Γ1 j = true → Γ j = true) (hx : ∀ j, Γx j = true → Γ1 j = true) (ht : PT X t (RT Z W Γ1 (fun en => (ev tc en).bind truth)))
    (hb : PSs X body (RS Z W fr F0 H0 Γx Γ1 Γ2 (evSs b))) (hle : ∀ j, Γ1 j = true → Γ2 j = true) : PS X (.While t body [] p) (RS Z W fr F0 H0 Γx Γ Γ1 (evS (.whl tc b))) := by
  refine PSi (ps_while dx.po ht hb) fun D σ H q => ?_
  obtain ⟨F, e, I, q⟩ := rs_in hw q
  simp only [evS] at q
  obtain ⟨rr, hrr⟩ : ∃ rr, whlL (fun e => (ev tc e).bind truth) (evSs b) 10000 e = rr := ⟨_, rfl⟩
  rw [hrr] at q
  refine ⟨fun m σ' H' => ∃ F' e', Inv0 Z F0 H0 Γ1 F' H' σ' e' ∧ Same F F' ∧ whlL (fun e => (ev tc e).bind truth) (evSs b) m e' = rr, ⟨10000, F, e, I, Same.refl _, hrr⟩, fun m σ' H' pv => ?_⟩
  obtain ⟨F', e', I', s', hr⟩ := pv
  cases m with
  | zero =>
    rw [← hr] at q
    exact False.elim q
  | succ m =>
    unfold whlL at hr
    rw [← hr] at q
    refine ⟨F0, H0, F', e', I', rs_then hx I' (sre_mono s' q) fun kk hk q1 F1 H1 x => ?_⟩
    have hk : (ev tc e').bind truth = .ok kk := hk
    simp only [hk] at hr
    replace hr : (if kk then (match evSs b e' with
      | .nx e2 => whlL (fun e => (ev tc e).bind truth) (evSs b) m e2
      | r => r) else .nx e') = rr := hr
    cases kk with
    | true =>
      refine iteT ⟨fun σ2 H2 => ∃ F2 e2, Inv0 Z F0 H0 Γ1 F2 H2 σ2 e2 ∧ Same F F2 ∧ whlL (fun e => (ev tc e).bind truth) (evSs b) m e2 = rr, fun σ2 H2 pv => ⟨m, Nat.lt_succ_self m, pv⟩, F1, e', I'.grow x, ?_⟩
      rw [if_pos rfl] at hr
      simp only [if_true] at q1
      cases hbody : evSs b e' with
      | nx e2 =>
        rw [hbody] at hr
        intro F3 H3 σ3 s3 I3
        obtain ⟨F4, s4, I4⟩ := I3.weak hle
        exact ⟨F4, e2, I4, s'.trans (x.ff.trans (s3.trans s4)), hr⟩
      | rt dd => rw [hbody] at q1; exact q1
      | ex cn e2 => rw [hbody] at q1; exact q1
      | bad => rw [hbody] at q1; exact q1
    | false => exact iteF (q1 F1 H1 σ' x.ff (I'.grow x))
end
end Hue
namespace Hue
open PySem PySem.Spec PyProof.Rows L2
/-! ### several values at once, each one's own or not -/
inductive OL (Z : Wo) (F Hs H : Hp) : List V → List D → List Bool → Prop
  | nil : OL Z F Hs H [] [] []
  | cons {v : V} {d : D} {b : Bool} {vs : List V} {ds : List D} {bs : List Bool} : RepM Z (md b) F Hs H v d → OL Z F Hs H vs ds bs → (b = true → d.mut = true → ∀ (j : Nat) (d' : D), bs[j]? = some true → ds[j]? = some d' → d'.mut = true → vs[j]? ≠ some v) → OL Z F Hs H (v :: vs) (d :: ds) (b :: bs)
def RAm (Z : Wo) (W : WX) (Γ : Gm) (bs : List Bool) (f : Env → R (List D)) : TA := fun σ H Q => ∃ F0 H0 F e, Inv0 Z F0 H0 Γ F H σ e ∧ pst Z W F H σ (f e) (fun ds F' H' => ∀ vs, OL Z F' H H' vs ds bs → Q vs H')
section
variable {X : Cx} {c : Cc} {k n : Nat} {W : WX} {Z : Wo} {Γ Γ' Γ1 Γ2 Γx : Gm} {F0 H0 : Hp} {fr : Bool} {pos p : Pos}
theorem repM_grow {b : Bool} {F Hs H F' H' : Hp} {v : V} {d : D} (r : RepM Z (md b) F Hs H v d) (x : Ext F H F' H') : RepM Z (md b) F' Hs H' v d := by
  cases b with
  | false => exact Rep.mono x.ff r
  | true => exact ⟨r.1.ext x, r.2⟩
theorem OL.back {F Hs Hs1 H : Hp} (s : Same Hs Hs1) : ∀ {vs : List V} {ds : List D} {bs : List Bool}, OL Z F Hs1 H vs ds bs → OL Z F Hs H vs ds bs
  | _, _, _, .nil => .nil
  | _, _, _, .cons r h n => .cons (repM_back s r) (OL.back s h) n
theorem OL.fresh {F Hs H : Hp} : ∀ {vs : List V} {ds : List D} {bs : List Bool}, OL Z F Hs H vs ds bs → ∀ (j : Nat) (d : D) (p : Addr), bs[j]? = some true → ds[j]? = some d → d.mut = true → vs[j]? = some (.ref p) → Hs p = none
  | _, _, _, .nil, j, _, _, h, _, _, _ => by simp at h
  | _, _, _, .cons (b := b) r h n, 0, d, p, hb, hd, hm, hv => by
    simp at hb hd hv
    subst hb hd
    exact r.2 p hm hv
  | _, _, _, .cons r h n, j + 1, d, p, hb, hd, hm, hv => OL.fresh h j d p (by simpa using hb) (by simpa using hd) hm (by simpa using hv)
theorem OL.grow {F Hs H F' H' : Hp} (x : Ext F H F' H') : ∀ {vs : List V} {ds : List D} {bs : List Bool}, OL Z F Hs H vs ds bs → OL Z F' Hs H' vs ds bs
  | _, _, _, .nil => .nil
  | _, _, _, .cons r h n => .cons (repM_grow r x) (OL.grow x h) n
theorem ram_nil : PA X [] (RAm Z W Γ [] (evs .nil)) := by
  refine PAi pa_nil fun σ H Q q => ?_
  obtain ⟨F0, H0, F, e, I, q⟩ := q
  exact q F H (Ext.refl I.sub) [] .nil
theorem ram_cons {a : Expr} {es : List Expr} {b : Bool} {bs : List Bool} {fa : Env → R D} {fs : Env → R (List D)} (ha : PE X a (RE Z W Γ (md b) fa)) (hr : PA X es (RAm Z W Γ bs fs)) (hs : starEach (a :: es) X.env = (false, eval a X.env) :: starEach es X.env) :
    PA X (a :: es) (RAm Z W Γ (b :: bs) (fun e => (fa e).bind fun x => (fs e).bind fun xs => .ok (x :: xs))) := by
  refine PAi (pa_cons ha hr hs) fun σ H Q q => ?_
  obtain ⟨F0, H0, F, e, I, q⟩ := q
  refine ⟨F0, H0, F, e, I, pst_bind q fun x F1 H1 x1 q1 v1 r1 => ⟨F0, H0, F1, e, I.grow x1, pst_bind q1 fun xs F2 H2 x2 q2 vs rs => q2 F2 H2 (Ext.refl x2.sub) _ ?_⟩⟩
  refine .cons (repM_grow r1 x2) (rs.back x1.hh) fun hb hm j d' hj hd hm' hv => ?_
  subst hb
  have ow := r1.1
  unfold OwnRep at ow
  rw [if_pos hm] at ow
  obtain ⟨p, o, rfl, _, hh, _⟩ := ow
  have := rs.fresh j d' p hj hd hm' hv
  rw [hh] at this
  cases this
/-- the flags behind several stores -/
def setGs (Γ : Gm) : List Nat → List Bool → Gm
  | i :: is, b :: bs => setGs (setG Γ i b) is bs
  | _, _ => Γ
theorem parAll_ok {F H Hs : Hp} {Q : L2.St → Hp → Prop} : ∀ {is : List Nat} {ds : List D} {vs : List V} {bs : List Bool} {σ : L2.St} {Γ : Gm} {e e1 : Env}, Inv0 Z F0 H0 Γ F H σ e → OL Z F Hs H vs ds bs → Same H0 Hs →
    (∀ (j : Nat) (d : D) (p : Addr), bs[j]? = some true → ds[j]? = some d → d.mut = true → vs[j]? = some (.ref p) → ∀ (i : Nat) (d' : D), Γ i = true → e[i]? = some (some d') → d'.mut = true → σ[i]? ≠ some (some (.ref p))) →
    setAll is ds e = some e1 → (∀ σ1, Inv0 Z F0 H0 (setGs Γ is bs) F H σ1 e1 → Q σ1 H) → gNames is vs σ H Q
  | [], [], vs, bs, σ, Γ, e, e1, I, r, s, hd, h, q => by
    cases r
    cases h
    exact ⟨rfl, q σ I⟩
  | i :: is, d :: ds, vs, bs, σ, Γ, e, e1, I, r, s, hd, h, q => by
    cases r with
    | @cons v _ b vs' _ bs' r1 r2 hn =>
      refine ⟨_, _, rfl, ?_⟩
      cases b with
      | false =>
        refine parAll_ok (I.put i r1) r2 s (fun j dj pj hj hdj hm hv a da ga ea ma => ?_) h fun σ1 I1 => q σ1 I1
        by_cases ha : a = i
        · rw [if_pos ha] at ga; cases ga
        · rw [if_neg ha] at ga
          rw [List.getElem?_set_ne (Ne.symm ha)] at ea ⊢
          exact hd (j + 1) dj pj (by simpa using hj) (by simpa using hdj) hm (by simpa using hv) a da ga ea ma
      | true =>
        refine parAll_ok (I.putO i r1.1 (fun p m ev => s.free (r1.2 p m ev)) fun j p d' hj g ej m' m sj ev => ?_) r2 s (fun j dj pj hj hdj hm hv a da ga ea ma => ?_) h fun σ1 I1 => q σ1 I1
        · exact hd 0 d p (by simp) (by simp) m (by simp [ev]) j d' g ej m' sj
        · by_cases ha : a = i
          · subst ha
            intro z
            have hl : a < e.length := by
              by_cases hl : a < e.length
              · exact hl
              · rw [List.getElem?_eq_none (by simpa using hl)] at ea; cases ea
            rw [List.getElem?_set_self hl] at ea
            cases ea
            rw [List.getElem?_set_self (by rw [← I.len]; exact hl)] at z
            have ev : v = .ref pj := Option.some.inj (Option.some.inj z)
            subst ev
            exact hn rfl ma j dj hj hdj hm hv
          · rw [if_neg ha] at ga
            rw [List.getElem?_set_ne (Ne.symm ha)] at ea ⊢
            exact hd (j + 1) dj pj (by simpa using hj) (by simpa using hdj) hm (by simpa using hv) a da ga ea ma
  | [], _ :: _, _, _, _, _, _, _, _, _, _, _, h, _ => by cases h
  | _ :: _, [], _, _, _, _, _, _, _, _, _, _, h, _ => by cases h
/-- a, b, .. = x, y, ..: what both roads ask -/
theorem par_core {is : List Nat} {ts : Tms} {bs : List Bool} {D : Ends} {σ : L2.St} {H F : Hp} {e : Env} {G : List V → Hp → Prop} (hx : ∀ j, Γx j = true → Γ1 j = true) (I : Inv0 Z F0 H0 Γ1 F H σ e)
    (q : sre Z W fr F0 H0 Γx (setGs Γ1 is bs) F D (evS (.par is ts) e))
    (hG : ∀ vs F1 H1 ds, Ext F H F1 H1 → OL Z F1 H H1 vs ds bs → ds.length = is.length → (∀ F2 H2, Ext F1 H1 F2 H2 → gNames is vs σ H2 D.nx) → G vs H1) :
    RAm Z W Γ1 bs (evs ts) σ H G := by
  simp only [evS] at q
  refine ⟨F0, H0, F, e, I, rs_then hx I q fun ds hds q F1 H1 x vs r => ?_⟩
  cases hb : setAll is ds e with
  | none => simp only [hb] at q; exact False.elim q
  | some e1 =>
    simp only [hb] at q
    refine hG vs F1 H1 ds x r (setAll_len hb) fun F2 H2 x2 => ?_
    refine parAll_ok ((I.grow x).grow x2) (r.grow x2) I.ext.hh (fun j d p hj hd hm hv a da ga ea ma sa => ?_) hb fun σ1 I1 => q F2 H2 σ1 (x.ff.trans x2.ff) I1
    have hn := r.fresh j d p hj hd hm hv
    obtain ⟨w, hw, _, h2⟩ := I.slot a da ea
    rw [sa] at hw
    cases hw
    have ow := (h2 ga).1
    unfold OwnRep at ow
    rw [if_pos ma] at ow
    obtain ⟨p', o, e1, _, hh, _⟩ := ow
    cases e1
    rw [hn] at hh
    cases hh
theorem gNames2 {i j : Nat} {v w : V} {σ : L2.St} {H : Hp} {Q : L2.St → Hp → Prop} (h : gNames [i, j] [v, w] σ H Q) : Q ((σ.set i (some v)).set j (some w)) H := by
  obtain ⟨_, _, e1, _, _, e2, e3, h⟩ := h
  cases e1
  cases e2
  exact h
theorem gNames3 {i j l : Nat} {v w u : V} {σ : L2.St} {H : Hp} {Q : L2.St → Hp → Prop} (h : gNames [i, j, l] [v, w, u] σ H Q) : Q (((σ.set i (some v)).set j (some w)).set l (some u)) H := by
  obtain ⟨_, _, e1, _, _, e2, _, _, e3, e4, h⟩ := h
  cases e1
  cases e2
  cases e3
  exact h
theorem OL.len {F Hs H : Hp} : ∀ {vs : List V} {ds : List D} {bs : List Bool}, OL Z F Hs H vs ds bs → vs.length = ds.length
  | _, _, _, .nil => rfl
  | _, _, _, .cons _ h _ => by rw [List.length_cons, List.length_cons, OL.len h]
/-- two, three plain names on one line -/
theorem rs_par2 {st : Stmt} {i j : Nat} {a b : Expr} {ts : Tms} {bs : List Bool} (hw : ∀ j, Γ1 j = true → Γ j = true) (hx : ∀ j, Γx j = true → Γ1 j = true) (hst : PS X st (tPar i j (RAm Z W Γ1 bs (evs ts)))) : PS X st (RS Z W fr F0 H0 Γx Γ (setGs Γ1 [i, j] bs) (evS (.par [i, j] ts))) := by
  refine PSi hst fun D σ H q => ?_
  obtain ⟨F, e, I, q⟩ := rs_in hw q
  refine par_core hx I q fun vs F1 H1 ds x r hl g => ?_
  have hv := r.len.trans hl
  match vs, hv with
  | [v, w], _ => exact ⟨v, w, rfl, gNames2 (g F1 H1 (Ext.refl x.sub))⟩
theorem rs_par3 {st : Stmt} {i j l : Nat} {a b : Expr} {ts : Tms} {bs : List Bool} (hw : ∀ j, Γ1 j = true → Γ j = true) (hx : ∀ j, Γx j = true → Γ1 j = true) (hst : PS X st (tPar3 i j l (RAm Z W Γ1 bs (evs ts)))) : PS X st (RS Z W fr F0 H0 Γx Γ (setGs Γ1 [i, j, l] bs) (evS (.par [i, j, l] ts))) := by
  refine PSi hst fun D σ H q => ?_
  obtain ⟨F, e, I, q⟩ := rs_in hw q
  refine par_core hx I q fun vs F1 H1 ds x r hl g => ?_
  have hv := r.len.trans hl
  match vs, hv with
  | [v, w, u], _ => exact ⟨v, w, u, rfl, gNames3 (g F1 H1 (Ext.refl x.sub))⟩
/-- the tuple is made and taken apart -/
theorem rs_parN {st : Stmt} {is : List Nat} {ts : Tms} {bs : List Bool} (hw : ∀ j, Γ1 j = true → Γ j = true) (hx : ∀ j, Γx j = true → Γ1 j = true) (hn : is.length ≤ 10000) (hst : PS X st (tAsg (tTup (RAm Z W Γ1 bs (evs ts))) (gTup X.K is.length (gNames is)))) : PS X st (RS Z W fr F0 H0 Γx Γ (setGs Γ1 is bs) (evS (.par is ts))) := by
  refine PSi hst fun D σ H q => ?_
  obtain ⟨F, e, I, q⟩ := rs_in hw q
  refine par_core hx I q fun vs F1 H1 ds x r hl g => ?_
  have hv := r.len.trans hl
  have hz : vs.length ≤ sizeLine := by rw [hv]; exact Nat.le_trans hn (by decide)
  refine ⟨hz, fun T hT => ⟨T, vs, rfl, .inl (.inl upd_same), hv, g F1 _ (Ext.own x.sub hT)⟩⟩
/-- name += value -/
theorem rs_aug {st : Stmt} {i : Nat} {o : BO} {t : Tm} {f : Int → Int → Int} (ho : (o = .add ∧ f = fun a b => a + b) ∨ (o = .sub ∧ f = fun a b => a - b)) (hw : ∀ j, Γ1 j = true → Γ j = true) (hx : ∀ j, Γx j = true → Γ1 j = true) (hst : PS X st (tAug i (RE Z W Γ1 .keep (ev t)) (ipI f))) : PS X st (RS Z W fr F0 H0 Γx Γ (setG Γ1 i false) (evS (.aug i o t))) := by
  refine PSi hst fun D σ H q => ?_
  obtain ⟨F, e, I, q⟩ := rs_in hw q
  simp only [evS] at q
  match he : e[i]?, q with
  | some (some (.int y)), q =>
    obtain ⟨v, hv, h1, h2⟩ := I.slot i _ he
    have ev : v = .int y := by
      cases g : Γ1 i with
      | false => cases h1 g; rfl
      | true =>
        have ow := (h2 g).1
        unfold OwnRep at ow
        rw [if_neg (show ¬ (Hue.D.int y).mut = true from Bool.false_ne_true)] at ow
        cases ow
        rfl
    subst ev
    refine ⟨_, hv, F0, H0, F, e, I, rs_then hx I q fun d hd q F1 H1 x v r => ?_⟩
    cases (show Rep Z F1 v d from r) with
    | int z =>
      refine ⟨y, z, rfl, rfl, ?_⟩
      rcases ho with ⟨rfl, rfl⟩ | ⟨rfl, rfl⟩
      · exact q F1 H1 _ x.ff ((I.grow x).put i (.int _))
      · exact q F1 H1 _ x.ff ((I.grow x).put i (.int _))
    | _ => rcases ho with ⟨rfl, rfl⟩ | ⟨rfl, rfl⟩ <;> exact False.elim q
  | some (some .non), q => exact False.elim q
  | some (some (.bl _)), q => exact False.elim q
  | some (some (.str _)), q => exact False.elim q
  | some (some (.lst _)), q => exact False.elim q
  | some (some (.tup _)), q => exact False.elim q
  | some (some (.scr _)), q => exact False.elim q
  | some (some (.dct _ _)), q => exact False.elim q
  | some (some (.obj _ _)), q => exact False.elim q
  | some none, q => exact False.elim q
  | none, q => exact False.elim q
theorem lstAt_ok {e : Env} {i : Nat} {xs : List D} (h : lstAt e i = some xs) : e[i]? = some (some (.lst xs)) := by
  unfold lstAt at h
  split at h
  · rename_i q
    cases h
    exact q
  · cases h
theorem pst_map {α β : Type} {F H : Hp} {σ : L2.St} {r : R α} {f : α → β} {G : α → Hp → Hp → Prop} {G' : β → Hp → Hp → Prop} (h : ∀ a F1 H1, G a F1 H1 → G' (f a) F1 H1) (q : pst Z W F H σ r G) : pst Z W F H σ (r.bind fun a => .ok (f a)) G' := by
  cases r with
  | ok a => exact fun F1 H1 x => h a F1 H1 (q F1 H1 x)
  | exc c => exact q
  | bad => exact q
/-- a list of one's own in a slot -/
theorem own_lst {F H : Hp} {σ : L2.St} {e : Env} {i : Nat} {ds : List D} (I : Inv0 Z F0 H0 Γ F H σ e) (g : Γ i = true) (he : e[i]? = some (some (.lst ds))) : ∃ p vs, σ[i]? = some (some (.ref p)) ∧ F p = none ∧ H p = some (.lst vs) ∧ RepL Z F vs ds ∧ ds.length ≤ sizeLine := by
  obtain ⟨v, hv, _, h2⟩ := I.slot i _ he
  have ow := (h2 g).1
  unfold OwnRep at ow
  rw [if_pos (show (D.lst ds).mut = true from rfl)] at ow
  obtain ⟨p, o, rfl, hf, hh, vs, rfl, rl, hz⟩ := ow
  exact ⟨p, vs, hv, hf, hh, rl, hz⟩
theorem lim_lt {n : Nat} (h : n < lim) : n < sizeLine := Nat.lt_of_lt_of_le h (by decide)
/-- name.append(value) -/
theorem rs_rvs {st : Stmt} {i : Nat} (g : Γ1 i = true) (hw : ∀ j, Γ1 j = true → Γ j = true) (hx : ∀ j, Γx j = true → Γ1 j = true) (hst : PS X st (tDrop (tBM0 X.K "list" rReverse (tVar i)))) : PS X st (RS Z W fr F0 H0 Γx Γ Γ1 (evS (.rvs i))) := by
  refine PSi hst fun D σ H q => ?_
  obtain ⟨F, e, I, q⟩ := rs_in hw q
  simp only [evS] at q
  cases hl : lstAt e i with
  | none => simp only [hl] at q; exact False.elim q
  | some xs =>
    simp only [hl] at q
    have he := lstAt_ok hl
    obtain ⟨p, vs, hp, hf, hh, rl, hz⟩ := own_lst I g he
    refine ⟨_, hp, .inl ⟨rfl, _, .inl (.inl hh)⟩, p, vs, rfl, rfl, hh, ?_⟩
    exact q F _ σ (Same.refl _) (I.change g he hp rfl rfl ⟨_, rfl, rl.reverse, by rw [List.length_reverse]; exact hz⟩)
theorem rs_app {st : Stmt} {i : Nat} {t : Tm} (g : Γ1 i = true) (hw : ∀ j, Γ1 j = true → Γ j = true) (hx : ∀ j, Γx j = true → Γ1 j = true) (hst : PS X st (tDrop (tBM X.K "list" rAppend (tVar i) (RA Z W Γ1 (fun e => (ev t e).bind fun x => .ok [x]))))) : PS X st (RS Z W fr F0 H0 Γx Γ Γ1 (evS (.app i t))) := by
  refine PSi hst fun D σ H q => ?_
  obtain ⟨F, e, I, q⟩ := rs_in hw q
  simp only [evS] at q
  cases hl : lstAt e i with
  | none => simp only [hl] at q; exact False.elim q
  | some xs =>
    simp only [hl] at q
    have he := lstAt_ok hl
    obtain ⟨p, vs, hp, hf, hh, rl, hz⟩ := own_lst I g he
    refine ⟨_, hp, .inl ⟨rfl, _, .inl (.inl hh)⟩, F0, H0, F, e, I, ?_⟩
    refine pst_map ?_ (rs_then hx I q fun d hd q F1 H1 x => ?_) (G := fun d F1 H1 => ∀ v, Rep Z F1 v d → rAppend (.ref p) [v] H1 fun _ H2 => D.nx σ H2)
    · exact fun d F1 H1 h vs rs => (by
        cases rs with
        | cons r1 r2 => cases r2; exact h _ r1)
    intro v r
    by_cases hs : xs.length < lim
    · rw [if_pos hs] at q
      have hh1 := x.hh _ _ hh
      refine ⟨p, vs, v, rfl, rfl, hh1, by rw [rl.length]; exact lim_lt hs, ?_⟩
      have I1 := I.grow x
      refine q F1 _ σ x.ff (I1.change g he hp rfl rfl ⟨_, rfl, (rl.mono x.ff).append (.cons r .nil), ?_⟩)
      rw [List.length_append]
      exact lim_lt hs
    · rw [if_neg hs] at q
      exact False.elim q
/-- name.extend(value) -/
theorem rs_ext {st : Stmt} {i : Nat} {t : Tm} (g : Γ1 i = true) (hw : ∀ j, Γ1 j = true → Γ j = true) (hx : ∀ j, Γx j = true → Γ1 j = true) (hst : PS X st (tDrop (tBM X.K "list" rExtend (tVar i) (RA Z W Γ1 (fun e => (ev t e).bind fun x => .ok [x]))))) : PS X st (RS Z W fr F0 H0 Γx Γ Γ1 (evS (.ext i t))) := by
  refine PSi hst fun D σ H q => ?_
  obtain ⟨F, e, I, q⟩ := rs_in hw q
  simp only [evS] at q
  cases hl : lstAt e i with
  | none => simp only [hl] at q; exact False.elim q
  | some xs =>
    simp only [hl] at q
    have he := lstAt_ok hl
    obtain ⟨p, vs, hp, hf, hh, rl, hz⟩ := own_lst I g he
    refine ⟨_, hp, .inl ⟨rfl, _, .inl (.inl hh)⟩, F0, H0, F, e, I, ?_⟩
    refine pst_map ?_ (rs_then hx I q fun d hd q F1 H1 x => ?_) (G := fun d F1 H1 => ∀ v, Rep Z F1 v d → rExtend (.ref p) [v] H1 fun _ H2 => D.nx σ H2)
    · exact fun d F1 H1 h vs rs => (by
        cases rs with
        | cons r1 r2 => cases r2; exact h _ r1)
    intro v r
    cases (show Rep Z F1 v d from r) with
    | @lst a ys ds h1 h2 h3 =>
      dsimp only at q
      by_cases hs : xs.length + ds.length ≤ lim
      · rw [if_pos hs] at q
        have hh1 := x.hh _ _ hh
        refine ⟨p, a, vs, ys, rfl, rfl, hh1, x.sub _ _ h1, by rw [rl.length, h2.length]; exact lim_le hs, ?_⟩
        have I1 := I.grow x
        refine q F1 _ σ x.ff (I1.change g he hp rfl rfl ⟨_, rfl, (rl.mono x.ff).append h2, ?_⟩)
        rw [List.length_append]
        exact lim_le hs
      · rw [if_neg hs] at q
        exact False.elim q
    | _ => exact False.elim q
end
end Hue
namespace Hue
open PySem PySem.Spec PyProof.Rows L2
/-! ### what was lent comes back -/
section
variable {X : Cx} {c : Cc} {k n : Nat} {W : WX} {Z : Wo} {Γ Γ' Γ1 Γ2 Γx : Gm} {F0 H0 : Hp} {fr : Bool} {pos p : Pos}
open Classical in
theorem Inv0.thaw {F H Fz F1 H1 : Hp} {σ : L2.St} {e : Env} (I : Inv0 Z F0 H0 Γ F H σ e) (Iz : Inv0 Z F0 H0 Γ1 Fz H σ e) (s : Same F Fz) (x : Ext Fz H F1 H1) :
    ∃ F2, Same F F2 ∧ Same F2 F1 ∧ (∀ q, F2 q = F1 q ∨ (∃ vs, H1 q = some (.lst vs)) ∨ (∃ kv, H1 q = some (.dK kv)) ∨ (∃ a b fs, H1 q = some (.ins a b fs))) ∧ Inv0 Z F0 H0 Γ F2 H1 σ e := by
  let own : Addr → Prop := fun q => ∃ i d, Γ i = true ∧ e[i]? = some (some d) ∧ d.mut = true ∧ σ[i]? = some (some (.ref q))
  have ho : ∀ q, own q → F q = none ∧ H0 q = none ∧ ((∃ vs, H q = some (.lst vs)) ∨ (∃ kv, H q = some (.dK kv)) ∨ (∃ a b fs, H q = some (.ins a b fs))) := by
    rintro q ⟨i, d, g, he, m, hs⟩
    obtain ⟨v, hv, _, h2⟩ := I.slot i d he
    rw [hs] at hv
    cases hv
    obtain ⟨ow, hB⟩ := h2 g
    unfold OwnRep at ow
    rw [if_pos m] at ow
    obtain ⟨p', o, ev, hf, hh, r⟩ := ow
    cases ev
    refine ⟨hf, hB q m rfl, ?_⟩
    cases d with
    | lst ds => obtain ⟨xs, rfl, _⟩ := r; exact .inl ⟨_, hh⟩
    | dct ks ds => obtain ⟨kvs, rfl, _⟩ := r; exact .inr (.inl ⟨_, hh⟩)
    | obj c ds => obtain ⟨dx, fs, rfl, _⟩ := r; exact .inr (.inr ⟨_, _, _, hh⟩)
    | _ => exact r.elim
  have h12 : Same (fun q => if own q then none else F1 q) F1 := fun q o h => by
    dsimp only at h
    by_cases hq : own q
    · rw [if_pos hq] at h; cases h
    · rw [if_neg hq] at h; exact h
  have hF : Same F (fun q => if own q then none else F1 q) := fun q o h => by
    dsimp only
    rw [if_neg fun hq => by rw [(ho q hq).1] at h; cases h]
    exact x.ff _ _ (s _ _ h)
  refine ⟨_, hF, h12, fun q => ?_, ⟨I.ext.ff.trans hF, I.ext.hh.trans x.hh, h12.trans x.sub, fun q h1 h2 => ?_⟩, I.len, fun i d he => ?_, I.dist⟩
  · by_cases hq : own q
    · refine .inr ?_
      rcases (ho q hq).2.2 with ⟨_, h⟩ | ⟨_, h⟩ | ⟨_, _, _, h⟩
      · exact .inl ⟨_, x.hh _ _ h⟩
      · exact .inr (.inl ⟨_, x.hh _ _ h⟩)
      · exact .inr (.inr ⟨_, _, _, x.hh _ _ h⟩)
    · exact .inl (if_neg hq)
  · by_cases hq : own q
    · exact if_pos hq
    · show (if own q then none else F1 q) = none
      rw [if_neg hq]
      refine x.new q (Iz.ext.new q h1 h2) fun z => ?_
      cases hh : H0 q with
      | none => exact h2 hh
      | some o => rw [I.ext.hh _ _ hh] at z; cases z
  · obtain ⟨v, hv, k1, k2⟩ := I.slot i d he
    refine ⟨v, hv, fun g => (k1 g).mono hF, fun g => ⟨?_, (k2 g).2⟩⟩
    obtain ⟨ow, hB⟩ := k2 g
    unfold OwnRep at ow ⊢
    by_cases m : d.mut = true
    · rw [if_pos m] at ow ⊢
      obtain ⟨p', o, ev, hf, hh, r⟩ := ow
      refine ⟨p', o, ev, ?_, x.hh _ _ hh, r.mono hF⟩
      subst ev
      exact if_pos ⟨i, d, g, he, m, hv⟩
    · rw [if_neg m] at ow ⊢
      exact ow.mono hF
theorem rep_flat {F F' : Hp} {v : V} {d : D} (h : d.flat = true) (r : Rep Z F v d) : Rep Z F' v d := by
  cases r with
  | non => exact .non
  | bl b => exact .bl b
  | int i => exact .int i
  | str l hl => exact .str l hl
  | _ => cases h
theorem repL_flat {F F' : Hp} : ∀ {vs : List V} {ds : List D}, allFlat ds = true → RepL Z F vs ds → RepL Z F' vs ds
  | _, _, _, .nil => .nil
  | _, _, h, .cons r rs => by
    unfold allFlat at h
    rw [List.all_cons, Bool.and_eq_true] at h
    exact .cons (rep_flat h.1 r) (repL_flat h.2 rs)
theorem shal_ok {F1 F2 Hs H1 : Hp} {b : Bool} {v : V} {d : D} (hs : shal b d = true) (h12 : Same F2 F1) (hq : ∀ q, F2 q = F1 q ∨ (∃ vs, H1 q = some (.lst vs)) ∨ (∃ kv, H1 q = some (.dK kv)) ∨ (∃ a b fs, H1 q = some (.ins a b fs))) (hsub : Same F1 H1) (r : RepM Z (md b) F1 Hs H1 v d) : RepM Z (md b) F2 Hs H1 v d := by
  have tupCase : ∀ {v : V} {ds : List D}, allFlat ds = true → Rep Z F1 v (.tup ds) → Rep Z F2 v (.tup ds) := by
    intro v ds hf r
    cases r with
    | @tup a xs _ h1 h2 h3 =>
      refine .tup ?_ (repL_flat hf h2) h3
      rcases h1 with h1 | h1
      · refine .inl ?_
        have key : ∀ u, F1 a = some u → (∀ vs, u ≠ .lst vs) → (∀ kv, u ≠ .dK kv) → (∀ x y z, u ≠ .ins x y z) → F2 a = some u := by
          intro u hu n1 n2 n3
          rcases hq a with e | ⟨_, e⟩ | ⟨_, e⟩ | ⟨_, _, _, e⟩
          · rw [e]; exact hu
          · rw [hsub _ _ hu] at e; exact absurd (Option.some.inj e) (n1 _)
          · rw [hsub _ _ hu] at e; exact absurd (Option.some.inj e) (n2 _)
          · rw [hsub _ _ hu] at e; exact absurd (Option.some.inj e) (n3 _ _ _)
        rcases h1 with h1 | ⟨o, h1⟩
        · exact .inl (key _ h1 (fun _ z => nomatch z) (fun _ z => nomatch z) (fun _ _ _ z => nomatch z))
        · exact .inr ⟨o, key _ h1 (fun _ z => nomatch z) (fun _ z => nomatch z) (fun _ _ _ z => nomatch z)⟩
      · exact .inr h1
  cases b with
  | false =>
    have r : Rep Z F1 v d := r
    show Rep Z F2 v d
    cases d with
    | tup ds => exact tupCase hs r
    | lst ds => simp [shal] at hs
    | _ => first | exact rep_flat hs r | cases hs
  | true =>
    obtain ⟨ow, hf⟩ := (show RepM Z .fresh F1 Hs H1 v d from r)
    refine ⟨?_, hf⟩
    unfold OwnRep at ow ⊢
    by_cases m : d.mut = true
    · rw [if_pos m] at ow ⊢
      obtain ⟨p, o, rfl, hp, hh, rt⟩ := ow
      refine ⟨p, o, rfl, ?_, hh, ?_⟩
      · cases z : F2 p with
        | none => rfl
        | some u => rw [h12 _ _ z] at hp; cases hp
      · cases d with
        | lst ds =>
          obtain ⟨xs, e, rl, hz⟩ := rt
          simp only [shal, Bool.true_and] at hs
          exact ⟨xs, e, repL_flat hs rl, hz⟩
        | dct _ _ => cases hs
        | obj _ _ => cases hs
        | _ => cases m
    · rw [if_neg m] at ow ⊢
      cases d with
      | tup ds => exact tupCase hs ow
      | lst ds => exact absurd rfl m
      | dct _ _ => exact absurd rfl m
      | obj _ _ => exact absurd rfl m
      | scr _ => cases hs
      | _ => exact rep_flat hs ow
/-- name = value, what was lent comes back -/
theorem rs_setR {st : Stmt} {t : Tm} {i : Nat} (hw : ∀ j, Γ1 j = true → Γ j = true) (hx : ∀ j, Γx j = true → Γ1 j = true) (hst : PS X st (tAsg (RE Z W Γ1 (md (owns t)) (ev t)) (gName i))) : PS X st (RS Z W fr F0 H0 Γx Γ (setG Γ i (owns t)) (evS (.asgR i (owns t) t))) := by
  refine PSi hst fun D σ H q => ?_
  obtain ⟨F, e, I, q⟩ := q
  obtain ⟨Fz, sz, Iz⟩ := I.weak hw
  simp only [evS] at q
  refine ⟨F0, H0, Fz, e, Iz, rs_then hx Iz (sre_mono sz q) fun d hd _ F1 H1 x v r => ?_⟩
  rw [hd] at q
  simp only [R.then] at q
  by_cases hs : shal (owns t) d = true
  · rw [if_pos hs] at q
    obtain ⟨F2, s2, h21, hq, I2⟩ := I.thaw Iz sz x
    have r2 := shal_ok hs h21 hq x.sub r
    refine q F2 H1 _ s2 ?_
    cases ho : owns t with
    | false =>
      rw [ho] at r2
      exact I2.put i r2
    | true =>
      rw [ho] at r2
      exact I2.putO i r2.1 (fun p m ev => I.ext.hh.free (r2.2 p m ev)) (own_ne I r2)
  · rw [if_neg hs] at q
    exact False.elim q
theorem rs_ifR {t : Expr} {a b : List Stmt} {tc : Tm} {sa sb : Sts} (hw : ∀ j, Γ1 j = true → Γ j = true) (hx : ∀ j, Γx j = true → Γ1 j = true) (ht : PT X t (RT Z W Γ1 (fun en => (ev tc en).bind truth))) (ha : PSs X a (RS Z W fr F0 H0 Γx Γ Γ' (evSs sa))) (hb : PSs X b (RS Z W fr F0 H0 Γx Γ Γ2 (evSs sb))) :
    PS X (.If t a b p) (RS Z W fr F0 H0 Γx Γ (andG Γ' Γ2) (evS (.ite tc sa sb))) := by
  refine PSi (ps_if ht ha hb) fun D σ H q => ?_
  obtain ⟨F, e, I, q⟩ := q
  obtain ⟨Fz, sz, Iz⟩ := I.weak hw
  simp only [evS] at q
  refine ⟨F0, H0, Fz, e, Iz, rs_then hx Iz (sre_mono sz q) fun kk hk _ F1 H1 x => ?_⟩
  rw [show (ev tc e).bind truth = .ok kk from hk] at q
  simp only [R.then] at q
  obtain ⟨F2, s2, h21, hq, I2⟩ := I.thaw Iz sz x
  cases kk with
  | true =>
    refine iteT (rs_out (Γ2 := andG Γ' Γ2) (fun i h => ?_) ⟨F2, e, I2, sre_mono s2 q⟩)
    simp only [andG, Bool.and_eq_true] at h
    exact h.1
  | false =>
    refine iteF (rs_out (Γ2 := andG Γ' Γ2) (fun i h => ?_) ⟨F2, e, I2, sre_mono s2 q⟩)
    simp only [andG, Bool.and_eq_true] at h
    exact h.2
theorem rs_exprR {a : Expr} {t : Tm} (hw : ∀ j, Γ1 j = true → Γ j = true) (hx : ∀ j, Γx j = true → Γ1 j = true) (ha : PE X a (RE Z W Γ1 .keep (ev t))) (hs : swapsWith a none p.line X.env = pure false) : PS X (.Expr a p) (RS Z W fr F0 H0 Γx Γ Γ (evS (.expr t))) := by
  refine PSi (ps_expr ha hs) fun D σ H q => ?_
  obtain ⟨F, e, I, q⟩ := q
  obtain ⟨Fz, sz, Iz⟩ := I.weak hw
  simp only [evS] at q
  refine ⟨F0, H0, Fz, e, Iz, rs_then hx Iz (sre_mono sz q) fun d hd _ F1 H1 x v r => ?_⟩
  rw [hd] at q
  simp only [R.then] at q
  obtain ⟨F2, s2, h21, hq, I2⟩ := I.thaw Iz sz x
  exact q F2 H1 σ s2 I2
end
end Hue
namespace Hue
open PySem PySem.Spec PyProof.Rows L2
/-! ### the text of statements -/
def ownsL : Tms → List Bool
  | .nil => []
  | .cons a r => owns a :: ownsL r
def starred : Expr → Bool
  | .Starred .. => true
  | _ => false
/-- how a, b = x, y is stored -/
def swpN (c : Cc) (ts : List Expr) : List Str := ts.filterMap fun
    | .Name id pos => if c.sc.names.lookup id == some .local && pos.line == (ts.head?.map (·.pos.line)).getD 0 then some id else none
    | _ => none
def swp (c : Cc) (ts vs : List Expr) : Option (Option (List Str)) :=
  if !(ts.length == 2 || ts.length == 3) || vs.length != ts.length then some none
  else if vs.any starred then some none
  else if (swpN c ts).length != ts.length || (swpN c ts).eraseDups.length != (swpN c ts).length then some none
  else if vs.all (foldedForSure 8) then some none
  else if vs.all (constantsAlone 8) then none
  else some (some (swpN c ts))
def swpE (env : PySem.Env) (ts : List Expr) : List Str := ts.filterMap fun
    | .Name id pos => if env.scope.names.lookup id == some .local && pos.line == (ts.head?.map (·.pos.line)).getD 0 then some id else none
    | _ => none
theorem blockK {env : PySem.Env} (h : env.scope.kind = .function) : env.blockKind = .function := by
  unfold PySem.Env.blockKind
  rw [h]
  rfl
theorem swp_ok {c : Cc} {env : PySem.Env} (hs : env.scope = c.sc) (hk : c.sc.kind = .function) {ts vs : List Expr} {r : Option (List Str)} {kt k2 : Nat} {pt p2 : Pos} (h : swp c ts vs = some r) : swappedStores [.Tuple ts kt pt] (.Tuple vs k2 p2) env = pure r := by
  have hb : env.blockKind = .function := blockK (by rw [hs]; exact hk)
  have hkk : ∀ id, env.kindOf id = c.sc.names.lookup id := fun id => by unfold PySem.Env.kindOf; rw [hs]
  have hn : swpE env ts = swpN c ts := by
    unfold swpN swpE
    rw [hs]
  show (if (!(ts.length == 2 || ts.length == 3) || vs.length != ts.length || env.blockKind != .function) = true then pure none else
    if vs.any starred = true then pure none else
    if ((swpE env ts).length != ts.length || (swpE env ts).eraseDups.length != (swpE env ts).length) = true then pure none else
    if vs.all (foldedForSure 8) = true then pure none else
    if vs.all (constantsAlone 8) = true then (do unsupported "assign.tuple-of-constant-expressions:order-of-the-stores"; pure (some (swpE env ts))) else pure (some (swpE env ts)) : Sem (Option (List Str))) = pure r
  rw [hn, hb]
  unfold swp at h
  by_cases h1 : (!(ts.length == 2 || ts.length == 3) || vs.length != ts.length) = true
  · rw [if_pos h1] at h
    cases h
    rw [if_pos (by rw [h1]; rfl)]
  · rw [if_neg h1] at h
    rw [if_neg (by rw [Bool.eq_false_iff.mpr h1]; decide)]
    by_cases h2 : vs.any starred = true
    · rw [if_pos h2] at h
      cases h
      rw [if_pos h2]
    · rw [if_neg h2] at h
      rw [if_neg h2]
      by_cases h3 : ((swpN c ts).length != ts.length || (swpN c ts).eraseDups.length != (swpN c ts).length) = true
      · rw [if_pos h3] at h
        cases h
        rw [if_pos h3]
      · rw [if_neg h3] at h
        rw [if_neg h3]
        by_cases h4 : vs.all (foldedForSure 8) = true
        · rw [if_pos h4] at h
          cases h
          rw [if_pos h4]
        · rw [if_neg h4] at h
          rw [if_neg h4]
          by_cases h5 : vs.all (constantsAlone 8) = true
          · rw [if_pos h5] at h
            cases h
          · rw [if_neg h5] at h
            rw [if_neg h5]
            cases h
            rfl
/-- name = [..] whose store is within -/
def swB (c : Cc) (y : Str) (py : Pos) : Expr → Bool
  | .ListComp _ _ s vp => (c.sc.names.lookup y == some .local) && (py.line == vp.line) && !(s.names.any fun (n, k) => n == y && (k == .local || k == .cell))
  | _ => false
def direct : Expr → Bool
  | .Name _ _ => true
  | .List _ _ => true
  | .Tuple _ _ _ => true
  | .BinOp _ _ _ _ => true
  | _ => false
def isLC : Expr → Bool
  | .ListComp _ _ _ _ => true
  | _ => false
def fixG (m : Nat) (body : Gm → Option (Sts × Gm)) : Nat → Gm → Option (Sts × Gm)
  | 0, _ => none
  | k + 1, Γ => (body Γ).bind fun r => if leG m Γ r.2 then some (r.1, Γ) else fixG m body k (andG Γ r.2)
def top (m : Nat) : Gm := fun j => decide (j < m)
def nol : Gm := fun _ => false
def cOk (s : Stmt) : Bool := true
/-- the parts of a statement name.append(value), name.extend(value) -/
def methOf : Expr → Option (Str × Pos × Str × Pos × List Expr × Pos)
  | .Call (.Attribute (.Name x px) m ap) args [] cp => some (x, px, m, ap, args, cp)
  | _ => none
def raiseOf : Stmt → Option (Str × Pos × Str × Nat × Pos × Pos × Pos)
  | .Raise (some (.Call (.Name x fp) [.Constant (.str m) j mp] [] ep)) none p => some (x, fp, m, j, mp, ep, p)
  | _ => none
def cmpPar (c : Cc) (ts vs : List Expr) (is : List Nat) : Bool := decide (is.Nodup) && decide (is.length ≤ 10000) && (match swp c ts vs with
  | some none => true
  | some (some ns) => (match ts with
    | [.Name x _, .Name y _] => decide (ns = [x, y]) && (c.sc.names.lookup x == some .local) && (c.sc.names.lookup y == some .local)
    | [.Name x _, .Name y _, .Name z _] => decide (ns = [x, y, z]) && (c.sc.names.lookup x == some .local) && (c.sc.names.lookup y == some .local) && (c.sc.names.lookup z == some .local)
    | _ => false)
  | none => false)
mutual
def cmpS (c : Cc) : Nat → Gm → Stmt → Option (St × Gm)
  | 0, _, _ => none
  | n + 1, Γ, s => match s with
    | .Assign tgs v _ => match tgs with
      | [.Name x px] => (locOf c x).bind fun i => (cmpE c (clr Γ (escE c n v)) n v).bind fun t =>
          if (escE c n v).any Γ && !direct v && !isLC v then some (.asgR i (owns t) t, setG Γ i (owns t)) else some (.asg (.nm i) t, setG (clr Γ (escE c n v)) i (owns t))
      | [.Tuple ts _ _] => (tgList (nmLoc c) ts).bind fun is => match v with
        | .Tuple vs _ _ => if cmpPar c ts vs is then (cmpEs c (clr Γ (escL c n vs)) n vs).bind fun tms => some (.par is tms, setGs (clr Γ (escL c n vs)) is (ownsL tms)) else none
        | v => if isLC v then none else (cmpE c (clr Γ (escE c n v)) n v).bind fun t => some (.asg (.tp is) t, clr (clr Γ (escE c n v)) (tgSlots (.tp is)))
      | _ => none
    | .AugAssign tg op v _ => match tg with
      | .Name x _ => (locOf c x).bind fun i => (cmpE c (clr Γ (escE c n v)) n v).bind fun t => match op with
        | .Add => some (.aug i .add t, setG (clr Γ (escE c n v)) i false)
        | .Sub => some (.aug i .sub t, setG (clr Γ (escE c n v)) i false)
        | _ => none
      | _ => none
    | .Expr v _ => match methOf v with
      | some (x, _, m, ap, args, cp) => match args with
        | [] => (varOf c x).bind fun i => if Γ i && (ap.endLine == cp.line) && (m == "reverse") then some (.rvs i, Γ) else none
        | [a] => (varOf c x).bind fun i => (cmpE c (clr Γ (escE c n a)) n a).bind fun t =>
            if clr Γ (escE c n a) i && (ap.endLine == cp.line) then (if m = "append" then some (.app i t, clr Γ (escE c n a)) else if m = "extend" then some (.ext i t, clr Γ (escE c n a)) else none) else none
        | _ => none
      | none => if isLC v then none else (cmpE c (clr Γ (escE c n v)) n v).bind fun t => some (.expr t, Γ)
    | .If t a b _ => (cmpT c (clr Γ (escE c n t)) n t).bind fun tt => (cmpSs c n Γ a).bind fun ra => (cmpSs c n Γ b).bind fun rb => some (.ite tt ra.1 rb.1, andG ra.2 rb.2)
    | .For tg it body els _ => match els with
      | [] => (tgWith (nmLoc c) tg).bind fun g => (fixG c.N.length (fun Γ1 => cmpSs c n (clr Γ1 (tgSlots g)) body) 6 (below c.N.length (clr Γ (escE c n it)))).bind fun r =>
          (cmpI c r.2 n tg it).bind fun ti => if leG c.N.length r.2 (clr Γ (escE c n it)) then some (.for_ g ti r.1, r.2) else none
      | _ => none
    | .While t body els _ => match els with
      | [] => (fixG c.N.length (fun Γ1 => cmpSs c n Γ1 body) 6 (below c.N.length (clr Γ (escE c n t)))).bind fun r =>
          (cmpT c r.2 n t).bind fun tt => if leG c.N.length r.2 (clr Γ (escE c n t)) then some (.whl tt r.1, r.2) else none
      | _ => none
    | .Return oe _ => match oe with
      | none => if c.fr then none else some (.ret (.lit .non), top c.N.length)
      | some e => if c.fr then (match e with
          | .Name x _ => (varOf c x).bind fun i => if Γ i then some (.ret (.var i), top c.N.length) else none
          | e => (cmpE c (clr Γ (escE c n e)) n e).bind fun t => if owns t || flatT t then some (.ret t, top c.N.length) else none)
        else (cmpE c (clr Γ (escE c n e)) n e).bind fun t => some (.ret t, top c.N.length)
    | .Pass _ => some (.pass, Γ)
    | s => match raiseOf s with
      | some (x, _, _, _, _, _, _) => if isGl c x then (match c.tab.lookup x with
        | some (.exc cn) => some (.raise cn, top c.N.length)
        | _ => none) else none
      | none => none
def cmpSs (c : Cc) : Nat → Gm → List Stmt → Option (Sts × Gm)
  | 0, _, _ => none
  | _ + 1, Γ, [] => some (.nil, Γ)
  | n + 1, Γ, s :: r => (cmpS c n Γ s).bind fun a => (cmpSs c n a.2 r).bind fun b => some (.cons a.1 b.1, b.2)
end
end Hue
namespace Hue
open PySem PySem.Spec PyProof.Rows L2
structure SX (X : Cx) (c : Cc) (k : Nat) (W : WX) (Z : Wo) : Prop extends DX X c k W Z where
  fn : ∀ x, X.fn x = true
  kd : c.sc.kind = .function
section
variable {X : Cx} {c : Cc} {k : Nat} {W : WX} {Z : Wo} {F0 H0 : Hp}
theorem clr_le {Γ : Gm} {is : List Nat} : ∀ j, clr Γ is j = true → Γ j = true := fun j h => by
  simp only [clr, Bool.and_eq_true] at h
  exact h.1
theorem nol_le {Γ : Gm} : ∀ j, nol j = true → Γ j = true := fun j h => by cases h
theorem locOf_ok (sx : SX X c k W Z) {x : Str} {i : Nat} (h : locOf c x = some i) : X.N[i]? = some x ∧ Loc X.env.scope x := by
  unfold locOf at h
  by_cases q : isLoc (c.sc.names.lookup x) = true
  · rw [if_pos q] at h
    refine ⟨by rw [sx.hN]; exact slotOf_get h, ?_⟩
    have := isLoc_loc q
    rw [sx.hs]
    exact this
  · rw [if_neg q] at h
    cases h
theorem pg_loc (sx : SX X c k W Z) {e : Expr} {i : Nat} (h : nmLoc c e = some i) : ∃ x p, e = .Name x p ∧ PG X e (gName i) := by
  cases e with
  | Name x p =>
    obtain ⟨h1, h2⟩ := locOf_ok sx (show locOf c x = some i from h)
    exact ⟨x, p, rfl, pg_name (by rw [sx.hN]; exact sx.nd) h1 h2 (.inl (sx.fn x))⟩
  | _ => cases h
theorem pg_def (sx : SX X c k W Z) {tg : Expr} {g : Tg} (h : tgWith (nmLoc c) tg = some g) : PG X tg (gOf X.K g) :=
  pg_with sx.calm (fun e i q => by obtain ⟨x, p, e1, _⟩ := pg_loc sx q; exact ⟨x, p, e1⟩) (fun e i q => by obtain ⟨x, p, _, e2⟩ := pg_loc sx q; exact e2) h
theorem leG_ok {m : Nat} {Γ Δ : Gm} (h : leG m Γ Δ = true) {j : Nat} (hj : j < m) (g : Γ j = true) : Δ j = true := by
  unfold leG at h
  have := List.all_eq_true.mp h j (List.mem_range.mpr hj)
  rw [g] at this
  simpa using this
theorem fixG_ok {m : Nat} {body : Gm → Option (Sts × Gm)} : ∀ {k : Nat} {Γ : Gm} {r : Sts × Gm}, fixG m body k Γ = some r → (∀ j, Γ j = true → j < m) → (∀ j, r.2 j = true → Γ j = true) ∧ ∃ Γ2, body r.2 = some (r.1, Γ2) ∧ ∀ j, r.2 j = true → Γ2 j = true
  | 0, _, _, h, _ => by cases h
  | k + 1, Γ, r, h, hm => by
    unfold fixG at h
    obtain ⟨a, h1, h⟩ := some_bind h
    by_cases q : leG m Γ a.2 = true
    · rw [if_pos q] at h
      cases h
      exact ⟨fun j g => g, a.2, h1, fun j g => leG_ok q (hm j g) g⟩
    · rw [if_neg q] at h
      have le : ∀ j, andG Γ a.2 j = true → Γ j = true := fun j g => by
        simp only [andG, Bool.and_eq_true] at g
        exact g.1
      obtain ⟨h2, h3⟩ := fixG_ok h fun j g => hm j (le j g)
      exact ⟨fun j g => le j (h2 j g), h3⟩
theorem ram_all (S : ∀ n, Snd Z W X c n) {Γ : Gm} : ∀ {n : Nat} {es : List Expr} {ts : Tms}, cmpEs c Γ n es = some ts → PA X es (RAm Z W Γ (ownsL ts) (evs ts))
  | 0, _, _, h => by cases h
  | n + 1, [], ts, h => by cases h; exact ram_nil
  | n + 1, e :: es, ts, h => by
    have h : ((cmpE c Γ n e).bind fun t => (cmpEs c Γ n es).bind fun ts => some (Tms.cons t ts)) = some ts := h
    obtain ⟨t, h1, h⟩ := some_bind h
    obtain ⟨tr, h2, h⟩ := some_bind h
    cases h
    simp only [evs, ownsL]
    exact ram_cons ((S n).e Γ e t h1) (ram_all S h2) (star_of h1 _ _)
theorem sw_ok (sx : SX X c k W Z) {Γ : Gm} {n : Nat} {t : Tm} {v : Expr} {x : Str} {px : Pos} {l : Nat} (h : cmpE c Γ n v = some t) : swapsWith v (some (.Name x px)) l X.env = pure (swB c x px v) := by
  have hb : X.env.blockKind = .function := blockK (by rw [sx.hs]; exact sx.kd)
  cases n with
  | zero => cases h
  | succ n =>
    cases v with
    | ListComp elt gens scope p =>
      show (pure (X.env.blockKind == .function && X.env.kindOf x == some .local && px.line == (Expr.ListComp elt gens scope p).pos.line && !(scope.names.any fun (n, k) => n == x && (k == .local || k == .cell))) : Sem Bool) = _
      rw [hb]
      unfold PySem.Env.kindOf
      rw [sx.hs]
      rfl
    | SetComp elt gens scope p => cases h
    | DictComp a b gens scope p => cases h
    | _ => rfl
theorem swN_ok {Γ : Gm} {n : Nat} {t : Tm} {v : Expr} {o : Option Expr} {l : Nat} {env : PySem.Env} (h : cmpE c Γ n v = some t) (hl : isLC v = false) : swapsWith v o l env = pure false := by
  cases n with
  | zero => cases h
  | succ n =>
    cases v with
    | ListComp elt gens scope p => cases hl
    | SetComp elt gens scope p => cases h
    | DictComp a b gens scope p => cases h
    | _ => rfl
/-- name = value -/
theorem ps_name (sx : SX X c k W Z) {Γ : Gm} {n : Nat} {t : Tm} {v : Expr} {x : Str} {px pos : Pos} {i : Nat} (hi : locOf c x = some i) (h : cmpE c Γ n v = some t) : PS X (.Assign [.Name x px] v pos) (tAsg (RE Z W Γ (md (owns t)) (ev t)) (gName i)) := by
  obtain ⟨h1, h2⟩ := locOf_ok sx hi
  have nd : X.N.Nodup := by rw [sx.hN]; exact sx.nd
  have sw := sw_ok sx (x := x) (px := px) (l := pos.line) h
  cases q : swB c x px v with
  | false =>
    rw [q] at sw
    exact ps_set nd h1 h2 ((snd_all n W X c sx.toDX).e Γ v t h) sw (.inl (sx.fn x))
  | true =>
    rw [q] at sw
    cases n with
    | zero => cases h
    | succ n =>
      cases v with
      | ListComp elt gens scope p =>
        obtain ⟨tg, it, ifs, g, ti, tc, te, rfl, rfl, cp⟩ := snd_comp sx.toDX (fun W X c dx => snd_all n W X c dx) h
        have hl : X.env.scope.names.lookup x = some .local := by
          rw [sx.hs]
          simp only [swB, Bool.and_eq_true] at q
          exact eq_of_beq q.1.1
        have st := ps_setLc (py := px) (spos := pos) sx.calm nd h1 hl sw cp.hi cp.ok cp.hg cp.ht cp.he cp.fold
        refine PSi st fun D σ H r => ?_
        have r : RE Z W Γ (md (owns (Tm.comp te g ti tc ((ownNames c.N scope).map Prod.snd)))) (ev (Tm.comp te g ti tc ((ownNames c.N scope).map Prod.snd))) σ H (fun x H1 => gName i x σ H1 D.nx) := r
        simp only [ev] at r
        exact lc_read cp (md_or _) σ H _ r
      | _ => cases q
theorem tgList_len {nm : Expr → Option Nat} : ∀ {es : List Expr} {is : List Nat}, tgList nm es = some is → es.length = is.length
  | [], is, h => by cases h; rfl
  | e :: es, is, h => by
    unfold tgList at h
    obtain ⟨i, h1, h⟩ := some_bind h
    obtain ⟨js, h2, h⟩ := some_bind h
    cases h
    rw [List.length_cons, List.length_cons, tgList_len h2]
theorem ps_parS (sx : SX X c k W Z) {Γ : Gm} {n : Nat} {tms : Tms} {ts vs : List Expr} {is : List Nat} {kt k2 : Nat} {pt p2 pos : Pos} {fr : Bool} {Γ0 : Gm} (hw : ∀ j, Γ j = true → Γ0 j = true) (ht : tgList (nmLoc c) ts = some is) (hp : cmpPar c ts vs is = true) (h : cmpEs c Γ n vs = some tms) :
    PS X (.Assign [.Tuple ts kt pt] (.Tuple vs k2 p2) pos) (RS Z W fr F0 H0 nol Γ0 (setGs Γ is (ownsL tms)) (evS (.par is tms))) := by
  have ra := ram_all (fun n => snd_all n W X c sx.toDX) h
  have nd : X.N.Nodup := by rw [sx.hN]; exact sx.nd
  unfold cmpPar at hp
  simp only [Bool.and_eq_true, decide_eq_true_eq] at hp
  obtain ⟨⟨hnd, hlen⟩, hp⟩ := hp
  cases hs : swp c ts vs with
  | none => rw [hs] at hp; cases hp
  | some sw =>
    have sw' := fun kt pt k2 p2 => swp_ok (kt := kt) (pt := pt) (k2 := k2) (p2 := p2) (env := X.env) sx.hs sx.kd hs
    cases sw with
    | none =>
      refine rs_parN hw nol_le hlen (ps_asg (pe_tup ra) ?_ rfl (sw' _ _ _ _) ?_)
      · have := pg_def sx (tg := .Tuple ts kt pt) (g := .tp is) (show ((tgList (nmLoc c) ts).bind fun is => some (Tg.tp is)) = some (Tg.tp is) by rw [ht]; rfl)
        exact this
      · rfl
    | some ns =>
      rw [hs] at hp
      dsimp only at hp
      match ts, ht, hp, sw' with
      | [.Name x px, .Name y py], ht, hp, sw' =>
        simp only [Bool.and_eq_true, decide_eq_true_eq] at hp
        obtain ⟨⟨rfl, lx⟩, ly⟩ := hp
        have ht' : ((locOf c x).bind fun i => ((locOf c y).bind fun i => some [i]).bind fun is => some (i :: is)) = some is := ht
        obtain ⟨i, hi, ht'⟩ := some_bind ht'
        obtain ⟨js, ht2, ht'⟩ := some_bind ht'
        obtain ⟨j, hj, ht2⟩ := some_bind ht2
        cases ht2
        cases ht'
        have hij : i ≠ j := by
          intro e
          subst e
          simp at hnd
        match vs, h, ra, sw' with
        | [a, b], h, ra, sw' =>
          exact rs_par2 (a := a) (b := b) hw nol_le (ps_par sx.calm nd (locOf_ok sx hi).1 (locOf_ok sx hj).1 hij (by rw [sx.hs]; exact eq_of_beq lx) (by rw [sx.hs]; exact eq_of_beq ly) ra (sw' _ _ _ _) rfl)
        | [], h, ra, sw' => simp [swp] at hs
        | [_], h, ra, sw' => simp [swp] at hs
        | _ :: _ :: _ :: _, h, ra, sw' => simp [swp] at hs
      | [.Name x px, .Name y py, .Name z pz], ht, hp, sw' =>
        simp only [Bool.and_eq_true, decide_eq_true_eq] at hp
        obtain ⟨⟨⟨rfl, lx⟩, ly⟩, lz⟩ := hp
        have ht' : ((locOf c x).bind fun i => ((locOf c y).bind fun i => ((locOf c z).bind fun i => some [i]).bind fun is => some (i :: is)).bind fun is => some (i :: is)) = some is := ht
        obtain ⟨i, hi, ht'⟩ := some_bind ht'
        obtain ⟨js, ht2, ht'⟩ := some_bind ht'
        obtain ⟨j, hj, ht2⟩ := some_bind ht2
        obtain ⟨ls, ht3, ht2⟩ := some_bind ht2
        obtain ⟨l, hl, ht3⟩ := some_bind ht3
        cases ht3
        cases ht2
        cases ht'
        simp only [List.nodup_cons, List.mem_cons, List.not_mem_nil, or_false, not_or] at hnd
        match vs, h, ra, sw' with
        | [a, b, d], h, ra, sw' =>
          exact rs_par3 (a := a) (b := b) hw nol_le (ps_par3 sx.calm nd (locOf_ok sx hi).1 (locOf_ok sx hj).1 (locOf_ok sx hl).1 hnd.1.1 hnd.1.2 hnd.2.1 (by rw [sx.hs]; exact eq_of_beq lx) (by rw [sx.hs]; exact eq_of_beq ly) (by rw [sx.hs]; exact eq_of_beq lz) ra (sw' _ _ _ _) rfl)
        | [], h, ra, sw' => simp [swp] at hs
        | [_], h, ra, sw' => simp [swp] at hs
        | [_, _], h, ra, sw' => simp [swp] at hs
        | _ :: _ :: _ :: _ :: _, h, ra, sw' => simp [swp] at hs
end
end Hue
namespace Hue
open PySem PySem.Spec PyProof.Rows L2
section
variable {X : Cx} {c : Cc} {k : Nat} {W : WX} {Z : Wo} {F0 H0 : Hp}
theorem methOf_ok {v : Expr} {x : Str} {px : Pos} {m : Str} {ap : Pos} {args : List Expr} {cp : Pos} (h : methOf v = some (x, px, m, ap, args, cp)) : v = .Call (.Attribute (.Name x px) m ap) args [] cp := by
  unfold methOf at h
  split at h
  · cases h; rfl
  · cases h
theorem raiseOf_ok {s : Stmt} {x : Str} {fp : Pos} {m : Str} {j : Nat} {mp ep p : Pos} (h : raiseOf s = some (x, fp, m, j, mp, ep, p)) : s = .Raise (some (.Call (.Name x fp) [.Constant (.str m) j mp] [] ep)) none p := by
  unfold raiseOf at h
  split at h
  · cases h; rfl
  · cases h
theorem ps_meth1 (sx : SX X c k W Z) {Γ : Gm} {n : Nat} {a : Expr} {t : Tm} {x m : Str} {i : Nat} {px ap cp p : Pos} {id : String} {r : V → List V → Hp → VK → Prop} (hi : varOf c x = some i) (h : cmpE c Γ n a = some t) (hl : (ap.endLine == cp.line) = true) (slot : Slot "list" m id) (hty : typeOf (.builtin id) = pure (.type "method_descriptor")) (hm : MtR X id r) :
    PS X (.Expr (.Call (.Attribute (.Name x px) m ap) [a] [] cp) p) (tDrop (tBM X.K "list" r (tVar i) (RA Z W Γ (fun e => (ev t e).bind fun x => .ok [x])))) := by
  obtain ⟨h1, h2, h3, h4⟩ := varOf_ok sx.toDX hi
  have st := star_of h ([] : List Expr) X.env
  have ra := ra_cons ((snd_all n W X c sx.toDX).k h) (ra_nil (X := X) (Z := Z) (W := W) (Γ := Γ)) st
  have ra' : PA X [a] (RA Z W Γ (fun e => (ev t e).bind fun x => .ok [x])) := by
    have e : (fun e => (ev t e).bind fun x => (evs .nil e).bind fun xs => (.ok (x :: xs) : R (List D))) = fun e => (ev t e).bind fun x => .ok [x] := by
      funext e
      simp only [evs, R.bind_ok]
    rw [← e]
    exact ra
  refine ps_expr (pe_bm PySem.F.plainAttrs_list slot hty hm (pe_var h1 h2 h3 h4) ra' rfl ?_ hl st rfl)
  rw [st]
  rfl
theorem snd_S (sx : SX X c k W Z) : ∀ n : Nat, (∀ Γ st r, cmpS c n Γ st = some r → PS X st (RS Z W c.fr F0 H0 nol Γ r.2 (evS r.1))) ∧ (∀ Γ sts r, cmpSs c n Γ sts = some r → PSs X sts (RS Z W c.fr F0 H0 nol Γ r.2 (evSs r.1)))
  | 0 => ⟨fun _ _ _ h => (by cases h), fun _ _ _ h => (by cases h)⟩
  | n + 1 => by
    obtain ⟨ih1, ih2⟩ := snd_S sx n
    have S := snd_all n W X c sx.toDX
    refine ⟨fun Γ st r h => ?_, fun Γ sts r h => ?_⟩
    · cases st with
      | Assign tgs v pos =>
        match tgs, h with
        | [.Name x px], h =>
          replace h : ((locOf c x).bind fun i => (cmpE c (clr Γ (escE c n v)) n v).bind fun t =>
            if (escE c n v).any Γ && !direct v && !isLC v then some (St.asgR i (owns t) t, setG Γ i (owns t)) else some (St.asg (.nm i) t, setG (clr Γ (escE c n v)) i (owns t))) = some r := h
          obtain ⟨i, hi, h⟩ := some_bind h
          obtain ⟨t, ht, h⟩ := some_bind h
          have ps := ps_name sx (px := px) (pos := pos) hi ht
          by_cases q : ((escE c n v).any Γ && !direct v && !isLC v) = true
          · rw [if_pos q] at h
            cases h
            exact rs_setR clr_le nol_le ps
          · rw [if_neg q] at h
            cases h
            exact rs_set clr_le nol_le ps
        | [.Tuple ts kt pt], h =>
          obtain ⟨is, hi, h⟩ := some_bind (show ((tgList (nmLoc c) ts).bind fun is => _) = some r from h)
          have gen : ∀ {t : Tm}, isLC v = false → cmpE c (clr Γ (escE c n v)) n v = some t → swappedStores [.Tuple ts kt pt] v X.env = pure none → PS X (.Assign [.Tuple ts kt pt] v pos) (RS Z W c.fr F0 H0 nol Γ (clr (clr Γ (escE c n v)) (tgSlots (.tp is))) (evS (.asg (.tp is) t))) := fun {t} hl ht hsw => by
            refine rs_asg clr_le nol_le sx.kz (ps_asg (S.k ht) (pg_def sx (g := .tp is) (show ((tgList (nmLoc c) ts).bind fun is => some (Tg.tp is)) = some (Tg.tp is) by rw [hi]; rfl)) ?_ hsw rfl)
            show swapsWith v (some (.Tuple ts kt pt)) pos.line X.env = pure false
            exact swN_ok ht hl
          cases v with
          | Tuple vs k2 p2 =>
            replace h : (if cmpPar c ts vs is then (cmpEs c (clr Γ (escL c n vs)) n vs).bind fun tms => some (St.par is tms, setGs (clr Γ (escL c n vs)) is (ownsL tms)) else none) = some r := h
            by_cases q : cmpPar c ts vs is = true
            · rw [if_pos q] at h
              obtain ⟨tms, ht, h⟩ := some_bind h
              cases h
              exact ps_parS sx clr_le hi q ht
            · rw [if_neg q] at h
              cases h
          | ListComp a b d e => cases h
          | _ =>
            obtain ⟨t, ht, h⟩ := some_bind (show ((cmpE c (clr Γ (escE c n _)) n _).bind fun t => some (St.asg (.tp is) t, clr (clr Γ (escE c n _)) (tgSlots (.tp is)))) = some r from h)
            cases h
            exact gen rfl ht rfl
        | [], h => cases h
        | a :: b :: rest, h => cases a <;> cases h
      | AugAssign tg op v pos =>
        cases tg with
        | Name x px =>
          obtain ⟨i, hi, h⟩ := some_bind (show ((locOf c x).bind fun i => _) = some r from h)
          obtain ⟨t, ht, h⟩ := some_bind h
          obtain ⟨h1, h2⟩ := locOf_ok sx hi
          have nd : X.N.Nodup := by rw [sx.hN]; exact sx.nd
          cases op with
          | Add =>
            cases h
            exact rs_aug (.inl ⟨rfl, rfl⟩) clr_le nol_le (ps_aug nd h1 h2 (S.k ht) ip_add (.inl (sx.fn x)))
          | Sub =>
            cases h
            exact rs_aug (.inr ⟨rfl, rfl⟩) clr_le nol_le (ps_aug nd h1 h2 (S.k ht) ip_sub (.inl (sx.fn x)))
          | _ => cases h
        | _ => cases h
      | Expr v pos =>
        replace h : (match methOf v with
          | some (x, _, m, ap, args, cp) => match args with
            | [] => (varOf c x).bind fun i => if Γ i && (ap.endLine == cp.line) && (m == "reverse") then some (St.rvs i, Γ) else none
            | [a] => (varOf c x).bind fun i => (cmpE c (clr Γ (escE c n a)) n a).bind fun t =>
                if clr Γ (escE c n a) i && (ap.endLine == cp.line) then (if m = "append" then some (St.app i t, clr Γ (escE c n a)) else if m = "extend" then some (.ext i t, clr Γ (escE c n a)) else none) else none
            | _ => none
          | none => if isLC v then none else (cmpE c (clr Γ (escE c n v)) n v).bind fun t => some (.expr t, Γ)) = some r := h
        cases hm : methOf v with
        | some q =>
          obtain ⟨x, px, m, ap, args, cp⟩ := q
          simp only [hm] at h
          have ev := methOf_ok hm
          subst ev
          match args, h with
          | [], h =>
            obtain ⟨i, hi, h⟩ := some_bind h
            by_cases q : (Γ i && (ap.endLine == cp.line) && (m == "reverse")) = true
            · rw [if_pos q] at h
              cases h
              simp only [Bool.and_eq_true] at q
              obtain ⟨⟨g, hl⟩, hm⟩ := q
              have em := eq_of_beq hm
              subst em
              obtain ⟨h1, h2, h3, h4⟩ := varOf_ok sx.toDX hi
              exact rs_rvs g (fun j h => h) nol_le (ps_expr (pe_bm0 PySem.F.plainAttrs_list PySem.F.slot_list_reverse PySem.F.type_list_reverse mt_reverse (pe_var h1 h2 h3 h4) rfl hl))
            · rw [if_neg q] at h
              cases h
          | [a], h =>
            obtain ⟨i, hi, h⟩ := some_bind h
            obtain ⟨t, ht, h⟩ := some_bind h
            by_cases q : (clr Γ (escE c n a) i && (ap.endLine == cp.line)) = true
            · rw [if_pos q] at h
              rw [Bool.and_eq_true] at q
              by_cases e1 : m = "append"
              · rw [if_pos e1] at h
                cases h
                subst e1
                exact rs_app q.1 clr_le nol_le (ps_meth1 sx hi ht q.2 PySem.F.slot_list_append PySem.F.type_list_append mt_append)
              · rw [if_neg e1] at h
                by_cases e2 : m = "extend"
                · rw [if_pos e2] at h
                  cases h
                  subst e2
                  exact rs_ext q.1 clr_le nol_le (ps_meth1 sx hi ht q.2 PySem.F.slot_list_extend PySem.F.type_list_extend mt_extend)
                · rw [if_neg e2] at h
                  cases h
            · rw [if_neg q] at h
              cases h
          | _ :: _ :: _, h => cases h
        | none =>
          simp only [hm] at h
          by_cases q : isLC v = true
          · rw [if_pos q] at h
            cases h
          · rw [if_neg q] at h
            obtain ⟨t, ht, h⟩ := some_bind h
            cases h
            exact rs_exprR clr_le nol_le (S.k ht) (swN_ok ht (Bool.eq_false_iff.mpr q))
      | If t a b pos =>
        obtain ⟨tt, h1, h⟩ := some_bind (show ((cmpT c (clr Γ (escE c n t)) n t).bind fun tt => _) = some r from h)
        obtain ⟨ra, h2, h⟩ := some_bind h
        obtain ⟨rb, h3, h⟩ := some_bind h
        cases h
        exact rs_ifR clr_le nol_le (S.t _ t tt h1) (ih2 Γ a ra h2) (ih2 Γ b rb h3)
      | For tg it body els pos =>
        match els, h with
        | [], h =>
          obtain ⟨g, h1, h⟩ := some_bind (show ((tgWith (nmLoc c) tg).bind fun g => _) = some r from h)
          obtain ⟨rb, h2, h⟩ := some_bind h
          obtain ⟨ti, h3, h⟩ := some_bind h
          by_cases q : leG c.N.length rb.2 (clr Γ (escE c n it)) = true
          · rw [if_pos q] at h
            cases h
            have bel : ∀ j, below c.N.length (clr Γ (escE c n it)) j = true → j < c.N.length ∧ clr Γ (escE c n it) j = true := fun j g => by
              simp only [below, Bool.and_eq_true, decide_eq_true_eq] at g
              exact ⟨g.2, g.1⟩
            obtain ⟨f1, Γ2, f2, f3⟩ := fixG_ok h2 fun j g => (bel j g).1
            obtain ⟨i1, i2⟩ := S.i _ tg it ti h3
            exact rs_for sx.toDX (fun j g => clr_le j (bel j (f1 j g)).2) nol_le i1 i2 (pg_def sx h1) (ih2 _ body (rb.1, Γ2) f2) f3
          · rw [if_neg q] at h
            cases h
        | _ :: _, h => exact absurd (show (none : Option (St × Gm)) = some r from h) (fun z => nomatch z)
      | While t body els pos =>
        match els, h with
        | [], h =>
          obtain ⟨rb, h2, h⟩ := some_bind (show ((fixG c.N.length (fun Γ1 => cmpSs c n Γ1 body) 6 (below c.N.length (clr Γ (escE c n t)))).bind fun r => _) = some r from h)
          obtain ⟨tt, h3, h⟩ := some_bind h
          by_cases q : leG c.N.length rb.2 (clr Γ (escE c n t)) = true
          · rw [if_pos q] at h
            cases h
            have bel : ∀ j, below c.N.length (clr Γ (escE c n t)) j = true → j < c.N.length ∧ clr Γ (escE c n t) j = true := fun j g => by
              simp only [below, Bool.and_eq_true, decide_eq_true_eq] at g
              exact ⟨g.2, g.1⟩
            obtain ⟨f1, Γ2, f2, f3⟩ := fixG_ok h2 fun j g => (bel j g).1
            exact rs_while sx.toDX (fun j g => clr_le j (bel j (f1 j g)).2) nol_le (S.t _ t tt h3) (ih2 _ body (rb.1, Γ2) f2) f3
          · rw [if_neg q] at h
            cases h
        | _ :: _, h => exact absurd (show (none : Option (St × Gm)) = some r from h) (fun z => nomatch z)
      | Return oe pos =>
        cases oe with
        | none =>
          replace h : (if c.fr then none else some (St.ret (.lit .non), top c.N.length)) = some r := h
          by_cases q : c.fr = true
          · rw [if_pos q] at h
            cases h
          · rw [if_neg q] at h
            cases h
            have hf := Bool.eq_false_iff.mpr q
            refine PSi ps_retN fun D σ H q => ?_
            obtain ⟨F, e, I, q⟩ := q
            rw [hf] at q
            exact q F H .non I.ext .non
        | some e =>
          have keepC : c.fr = false → (cmpE c (clr Γ (escE c n e)) n e).bind (fun t => some (St.ret t, top c.N.length)) = some r → PS X (.Return (some e) pos) (RS Z W c.fr F0 H0 nol Γ r.2 (evS r.1)) := fun hf h => by
            obtain ⟨t, ht, h⟩ := some_bind h
            cases h
            refine rs_ret (Γ1 := clr Γ (escE c n e)) clr_le nol_le ?_
            rw [hf]
            exact S.k ht
          have freshC : c.fr = true → ((cmpE c (clr Γ (escE c n e)) n e).bind fun t => if owns t || flatT t then some (St.ret t, top c.N.length) else none) = some r → PS X (.Return (some e) pos) (RS Z W c.fr F0 H0 nol Γ r.2 (evS r.1)) := fun hf h => by
            obtain ⟨t, ht, h⟩ := some_bind h
            by_cases q : (owns t || flatT t) = true
            · rw [if_pos q] at h
              cases h
              refine rs_ret (Γ1 := clr Γ (escE c n e)) clr_le nol_le ?_
              rw [hf]
              cases ho : owns t with
              | true =>
                have := S.e _ e t ht
                rw [ho] at this
                exact this
              | false =>
                rw [ho, Bool.false_or] at q
                exact re_fresh (S.k ht) (flat_ev q)
            · rw [if_neg q] at h
              cases h
          by_cases hf : c.fr = true
          · replace h : (if c.fr then (match (generalizing := false) e with
              | .Name x _ => (varOf c x).bind fun i => if Γ i then some (St.ret (.var i), top c.N.length) else none
              | e => (cmpE c (clr Γ (escE c n e)) n e).bind fun t => if owns t || flatT t then some (St.ret t, top c.N.length) else none)
              else (cmpE c (clr Γ (escE c n e)) n e).bind fun t => some (St.ret t, top c.N.length)) = some r := h
            rw [if_pos hf] at h
            cases e with
            | Name x px =>
              obtain ⟨i, hi, h⟩ := some_bind (show ((varOf c x).bind fun i => _) = some r from h)
              by_cases g : Γ i = true
              · rw [if_pos g] at h
                cases h
                rw [hf]
                exact rs_retO sx.toDX hi g
              · rw [if_neg g] at h
                cases h
            | _ => exact freshC hf h
          · replace h : (if c.fr then (match (generalizing := false) e with
              | .Name x _ => (varOf c x).bind fun i => if Γ i then some (St.ret (.var i), top c.N.length) else none
              | e => (cmpE c (clr Γ (escE c n e)) n e).bind fun t => if owns t || flatT t then some (St.ret t, top c.N.length) else none)
              else (cmpE c (clr Γ (escE c n e)) n e).bind fun t => some (St.ret t, top c.N.length)) = some r := h
            rw [if_neg hf] at h
            exact keepC (Bool.eq_false_iff.mpr hf) h
      | Pass pos => cases h; exact rs_pass
      | Raise e cause pos =>
        replace h : (match raiseOf (.Raise e cause pos) with
          | some (x, _, _, _, _, _, _) => if isGl c x then (match c.tab.lookup x with
            | some (.exc cn) => some (St.raise cn, top c.N.length)
            | _ => none) else none
          | none => none) = some r := h
        cases hr : raiseOf (.Raise e cause pos) with
        | none => simp only [hr] at h; cases h
        | some q =>
          obtain ⟨x, fp, m, j, mp, ep, p⟩ := q
          rw [raiseOf_ok hr]
          simp only [hr] at h
          by_cases hg : isGl c x = true
          · rw [if_pos hg] at h
            cases hl : c.tab.lookup x with
            | none => simp only [hl] at h; cases h
            | some en =>
              cases en with
              | exc cn =>
                simp only [hl] at h
                cases h
                exact rs_raise sx.toDX nol_le hg hl
              | fn _ _ _ => simp only [hl] at h; cases h
              | const _ => simp only [hl] at h; cases h
          · rw [if_neg hg] at h
            cases h
      | _ => cases h
    · cases sts with
      | nil => cases h; exact rs_nil
      | cons s rest =>
        obtain ⟨a, h1, h⟩ := some_bind (show ((cmpS c n Γ s).bind fun a => (cmpSs c n a.2 rest).bind fun b => some (Sts.cons a.1 b.1, b.2)) = some r from h)
        obtain ⟨b, h2, h⟩ := some_bind h
        cases h
        exact rs_seq (ih1 Γ s a h1) (ih2 a.2 rest b h2)
end
end Hue
namespace Hue
open PySem PySem.Spec PyProof.Rows L2
/-- the compiled body of a def -/
def cmpDef (c : Cc) (n : Nat) (st : Stmt) : Option Sts := (cmpSs c n nol (defBody st)).map (·.1)
def denOf (c : Cc) (n : Nat) (st : Stmt) : List D → R D := match cmpDef c n st with
  | some b => run c.N.length b
  | none => fun _ => .bad
section
variable {P : Program} {w : World} {K : PySem.W.Frag} {mg : Str → Option Value} {base : Heap} {Z : Wo}
/-- what a table promises, at a level -/
def TabOk (P : Program) (w : World) (K : PySem.W.Frag) (mg : Str → Option Value) (base : Heap) (k : Nat) (Z : Wo) (tab : Tab) : Prop := ∀ x en, tab.lookup x = some en → match en with
  | .fn den fr ar => ∃ f fd ps, mg x = some (.ref f) ∧ PySem.W.keepIn K (.ref f) = true ∧ Binds K fd ps [] ∧ FnOk P w K mg base (L2.CX P w) k f fd ps (spD Z ar den fr)
  | .const d => d.mut = false ∧ ∃ u v, mg x = some u ∧ RelV v u ∧ ∀ F, Rep Z F v d
  | .exc c => mg x = some (.ref (Z.exA c)) ∧ PySem.W.excIn K (Z.exA c) [.type "ValueError", .type "Exception", .type "BaseException", .type "object"] "ValueError.__new__" = true ∧ PySem.W.keepIn K (.ref (Z.exA c)) = true ∧
      PySem.W.subIn K (.ref (Z.exA c)) (.type "BaseException") = some true ∧ PySem.W.typeIn K (.ref (Z.exA c)) = some (.type "type")
theorem TabOk.mono {k j : Nat} {tab : Tab} (h : TabOk P w K mg base k Z tab) (hj : k ≤ j) : TabOk P w K mg base j Z tab := fun x en hx => by
  have q := h x en hx
  cases en with
  | fn den fr ar =>
    obtain ⟨f, fd, ps, h1, h2, h3, h4⟩ := q
    exact ⟨f, fd, ps, h1, h2, h3, h4.mono hj⟩
  | const d => exact q
  | exc c => exact q
theorem TabOk.nil {k : Nat} : TabOk P w K mg base k Z [] := fun x en h => by cases h
theorem TabOk.cons {k : Nat} {tab : Tab} {y : Str} {en : Ent} (h : TabOk P w K mg base k Z tab) (hy : TabOk P w K mg base k Z [(y, en)]) : TabOk P w K mg base k Z ((y, en) :: tab) := fun x e hx => by
  rw [List.lookup_cons] at hx
  cases q : x == y with
  | true =>
    rw [q] at hx
    refine hy x e ?_
    rw [List.lookup_cons, q]
    exact hx
  | false =>
    rw [q] at hx
    exact h x e hx
/-- a def whose text compiles keeps its promise -/
theorem ok_fn {x qual : Str} {st : Stmt} {f : Addr} {fd : FuncData} {N ps : List Str} {k n : Nat} {tab : Tab} {fr : Bool} (F : Fun K x qual st f fd) (S : FnScope N ps (defScope st)) (hZ : Z.K = K) (hb : ∀ x ∈ bnames, mg x = none) (T : TabOk P w K mg base k Z tab) (hc : (cmpDef ⟨N, defScope st, tab, fr⟩ n st).isSome = true) :
    FnOk P w K mg base (L2.CX P w) (k + 1) f fd ps (spD Z ps.length (denOf ⟨N, defScope st, tab, fr⟩ n st) fr) := by
  refine F.okX S (fun vs H Q E h => ?_) (fun cdv A outer s H vs Q E hr h => ?_)
  · obtain ⟨F, ds, hl, _⟩ := h
    exact hl
  · obtain ⟨F, ds, hl, sF, rl, q⟩ := h
    unfold denOf at q
    unfold cmpDef at hc q
    cases hcc : cmpSs ⟨N, defScope st, tab, fr⟩ n nol (defBody st) with
    | none => rw [hcc] at hc; cases hc
    | some r =>
      rw [hcc] at q
      simp only [Option.map_some] at q
      have sx : SX (cxOf (L2.CX P w) P w K mg base N qual (defScope st) f cdv A outer s H E) ⟨N, defScope st, tab, fr⟩ k (fun cls d _ H => E cls d H) Z :=
        { hN := rfl, nd := S.nd, hs := rfl, calm := rfl, room := hr, tk := takes_of rfl rfl rfl rfl, po := passes_of rfl, kz := hZ, blt := hb, ent := fun x en hx => (by
            have q := T x en hx
            cases en with
            | fn den fr ar => exact q
            | const d => exact q
            | exc c => exact q), fn := fun _ => rfl, kd := S.kind }
      refine ⟨_, (snd_S (F0 := F) (H0 := H) sx n).2 nol (defBody st) r hcc, F, ds.map some ++ List.replicate (N.length - ds.length) none, ⟨Ext.refl sF, ?_, fun i d hi => ?_, fun a b p d d' _ ga => by cases ga⟩, ?_⟩
      · unfold L2.start
        simp only [List.length_append, List.length_map, List.length_replicate, rl.length]
      · have hi' : ds[i]? = some d := by
          rw [List.getElem?_append] at hi
          by_cases hlt : i < (ds.map some).length
          · rw [if_pos hlt, List.getElem?_map] at hi
            cases hd : ds[i]? with
            | none => rw [hd] at hi; cases hi
            | some d' => rw [hd] at hi; exact congrArg some (Option.some.inj (Option.some.inj hi))
          · rw [if_neg hlt, List.getElem?_replicate] at hi
            split at hi <;> cases hi
        obtain ⟨v, hv, rv⟩ := rl.get hi'
        refine ⟨v, ?_, fun _ => rv, fun g => by cases g⟩
        unfold L2.start
        rw [List.getElem?_append_left (by rw [List.length_map]; exact (List.getElem?_eq_some_iff.mp hv).1), List.getElem?_map, hv]
        rfl
      · unfold run at q
        cases he : evSs r.1 (ds.map some ++ List.replicate (N.length - ds.length) none) with
        | nx e' =>
          simp only [he] at q
          intro F' H' σ' s' I'
          refine q F' H' .non I'.ext ?_
          cases fr with
          | false => exact Rep.non
          | true =>
            refine ⟨?_, fun p m => by cases m⟩
            unfold OwnRep
            rw [if_neg (show ¬ (D.non).mut = true from Bool.false_ne_true)]
            exact .non
        | rt d => simp only [he] at q; exact q
        | ex cn e' => simp only [he] at q; exact fun F' H' σ' I' => q F' H' I'.ext
        | bad => simp only [he] at q
end
end Hue
namespace Hue
open PySem PySem.Spec PyProof.Rows L2
section
variable {P : Program} {w : World} {K : PySem.W.Frag} {mg : Str → Option Value} {base : Heap} {Z : Wo}
theorem ok_def {x qual : Str} {st : Stmt} {f : Addr} {fd : FuncData} {N ps : List Str} {k n : Nat} {tab : Tab} {fr : Bool} {b : Sts} (F : Fun K x qual st f fd) (S : FnScope N ps (defScope st)) (hZ : Z.K = K) (hb : ∀ x ∈ bnames, mg x = none) (T : TabOk P w K mg base k Z tab) (hc : cmpDef ⟨N, defScope st, tab, fr⟩ n st = some b) :
    FnOk P w K mg base (L2.CX P w) (k + 1) f fd ps (spD Z ps.length (run N.length b) fr) := by
  have h := ok_fn (fr := fr) F S hZ hb T (n := n) (by rw [hc]; rfl)
  have e : denOf ⟨N, defScope st, tab, fr⟩ n st = run N.length b := by
    unfold denOf
    rw [hc]
  rw [e] at h
  exact h
/-- the table with a def more -/
theorem tab_def {x qual : Str} {st : Stmt} {f : Addr} {fd : FuncData} {N ps : List Str} {k n : Nat} {tab : Tab} {fr : Bool} {b : Sts} {den : List D → R D} {ar : Nat} (F : Fun K x qual st f fd) (S : FnScope N ps (defScope st)) (hZ : Z.K = K) (hb : ∀ x ∈ bnames, mg x = none) (T : TabOk P w K mg base k Z tab) (hc : cmpDef ⟨N, defScope st, tab, fr⟩ n st = some b)
    (hm : mg x = some (.ref f)) (bd : Binds K fd ps []) (hd : den = run N.length b) (ha : ar = ps.length) : TabOk P w K mg base (k + 1) Z ((x, .fn den fr ar) :: tab) := by
  refine (T.mono (Nat.le_succ k)).cons fun y en hy => ?_
  rw [List.lookup_cons] at hy
  cases q : y == x with
  | false => rw [q] at hy; cases hy
  | true =>
    rw [q] at hy
    cases hy
    rw [eq_of_beq q, hd, ha]
    exact ⟨f, fd, ps, hm, F.kp, bd, ok_def F S hZ hb T hc⟩
theorem tab_exc {k cn : Nat} {tab : Tab} {x : Str} (T : TabOk P w K mg base k Z tab) (h1 : mg x = some (.ref (Z.exA cn))) (h2 : PySem.W.excIn K (Z.exA cn) [.type "ValueError", .type "Exception", .type "BaseException", .type "object"] "ValueError.__new__" = true) (h3 : PySem.W.keepIn K (.ref (Z.exA cn)) = true)
    (h4 : PySem.W.subIn K (.ref (Z.exA cn)) (.type "BaseException") = some true) (h5 : PySem.W.typeIn K (.ref (Z.exA cn)) = some (.type "type")) : TabOk P w K mg base k Z ((x, .exc cn) :: tab) := by
  refine T.cons fun y en hy => ?_
  rw [List.lookup_cons] at hy
  cases q : y == x with
  | false => rw [q] at hy; cases hy
  | true =>
    rw [q] at hy
    cases hy
    rw [eq_of_beq q]
    exact ⟨h1, h2, h3, h4, h5⟩
theorem tab_str {k : Nat} {tab : Tab} {x : Str} {l : List Nat} {s : Str} {t : Tok} (T : TabOk P w K mg base k Z tab) (h : mg x = some (.str s t)) (hs : s = S l) (hl : l.length ≤ 1000) : TabOk P w K mg base k Z ((x, .const (.str l)) :: tab) := by
  refine T.cons fun y en hy => ?_
  rw [List.lookup_cons] at hy
  cases q : y == x with
  | false => rw [q] at hy; cases hy
  | true =>
    rw [q] at hy
    cases hy
    rw [eq_of_beq q]
    refine ⟨rfl, _, .str s, h, ⟨_, rfl⟩, fun F => ?_⟩
    rw [hs]
    exact .str l (Nat.le_trans hl (by decide))
theorem tab_int {k : Nat} {tab : Tab} {x : Str} {i : Int} {t : Tok} (T : TabOk P w K mg base k Z tab) (h : mg x = some (.int i t)) : TabOk P w K mg base k Z ((x, .const (.int i)) :: tab) := by
  refine T.cons fun y en hy => ?_
  rw [List.lookup_cons] at hy
  cases q : y == x with
  | false => rw [q] at hy; cases hy
  | true =>
    rw [q] at hy
    cases hy
    rw [eq_of_beq q]
    exact ⟨rfl, _, .int i, h, ⟨_, rfl⟩, fun F => .int i⟩
def spLaw (K : PySem.W.Frag) : Sp := fun vs H Q _ => ∃ (a : Addr) (ns : List Int), vs = [.ref a] ∧ SqL K H a (ns.map V.int) ∧ ns.length ≤ 63 ∧ ∀ H', Q (.bl true) H'
theorem law_imp {CX : CXT} {k : Nat} {f : Addr} {fd : FuncData} {x : Str} {den : List D → R D} {fr : Bool} (hZ : Z.K = K) (F : FnOk P w K mg base CX k f fd [x] (spD Z 1 den fr)) (hp : ∀ ns : List Int, ns.length ≤ 63 → den [.scr (ns.map D.int)] = .ok (.bl true)) : FnOk P w K mg base CX k f fd [x] (spLaw K) := by
  refine F.imp fun vs H Q E h => ?_
  obtain ⟨a, ns, rfl, hS, hl, q⟩ := h
  refine ⟨H, [.scr (ns.map D.int)], rfl, Same.refl _, .cons (.scr (by rw [hZ]; exact hS) (RepL.ofInts ns) ?_) .nil, ?_⟩
  · rw [List.length_map]
    exact Nat.le_trans hl (by decide)
  · rw [hp ns hl]
    intro F' H' v x r
    have ev : v = .bl true := by
      cases fr with
      | false => cases (show Rep Z F' v (.bl true) from r); rfl
      | true =>
        have ow := (show RepM Z .fresh F' H H' v (.bl true) from r).1
        unfold OwnRep at ow
        rw [if_neg (show ¬ (D.bl true).mut = true from Bool.false_ne_true)] at ow
        cases ow
        rfl
    rw [ev]
    exact q H'
theorem cx_none {H : Hp} {s : Shared} {e : Value} {s' : Shared} (h : L2.CX P w [] H s (fun _ _ _ => False) e s') : False := by
  obtain ⟨_, _, _, _, _, _, _, _, _, _, _, _, z⟩ := h
  exact z
end
end Hue
namespace Dn
open Hue
def b_is_whole : Sts := (.cons (.ret (.and (.prim .isI (.cons (.var 0) .nil)) (.not (.prim .isB (.cons (.var 0) .nil))))) .nil)
def den_is_whole : List D → R D := run 1 b_is_whole
def b_is_between : Sts := (.cons (.ret (.and (.call den_is_whole false (.cons (.var 0) .nil)) (.chn .le .le (.var 1) (.var 0) (.var 2)))) .nil)
def den_is_between : List D → R D := run 3 b_is_between
def b_check_hues : Sts := (.cons (.ite (.not (.call den_is_between false (.cons (.var 0) (.cons (.lit (.int 2)) (.cons (.lit (.int 3)) .nil))))) (.cons (.raise 1) .nil) .nil) .nil)
def den_check_hues : List D → R D := run 1 b_check_hues
def b_widest : Sts := (.cons (.ret (.ite (.cmp .eq (.var 0) (.lit (.int 2))) (.lit (.int 4)) (.lit (.int 3)))) .nil)
def den_widest : List D → R D := run 1 b_widest
def b_check_wide : Sts := (.cons (.ite (.not (.call den_is_between false (.cons (.var 1) (.cons (.lit (.int 1)) (.cons (.call den_widest true (.cons (.var 0) .nil)) .nil))))) (.cons (.raise 2) .nil) .nil) .nil)
def den_check_wide : List D → R D := run 2 b_check_wide
def b_check_high : Sts := (.cons (.ite (.not (.call den_is_between false (.cons (.var 0) (.cons (.lit (.int 1)) (.cons (.var 1) .nil))))) (.cons (.raise 3) .nil) .nil) .nil)
def den_check_high : List D → R D := run 2 b_check_high
def b_rows_of_1 : Tm := (.bin .add (.var 5) (.var 6))
def b_rows_of_2 : Sts := (.cons (.ext 4 (.comp b_rows_of_1 (.nm 6) (.seq (.slc (.lit (.str [48, 49, 50])) .none (.some (.var 0)))) .none [6])) .nil)
def b_rows_of_3 : Sts := (.cons (.asg (.nm 4) (.lst .nil)) (.cons (.for_ (.nm 5) (.seq (.var 2)) b_rows_of_2) (.cons (.asg (.nm 2) (.var 4)) .nil)))
def b_rows_of : Sts := (.cons (.asg (.nm 2) (.lst (.cons (.lit (.str [])) .nil))) (.cons (.for_ (.nm 3) (.rng1 (.var 1)) b_rows_of_3) (.cons (.ret (.var 2)) .nil)))
def den_rows_of : List D → R D := run 7 b_rows_of
def b_go_together_1 : Sts := (.cons (.ite (.and (.cmp .eq (.idx (.var 0) (.var 2)) (.idx (.var 0) (.bin .add (.var 2) (.lit (.int 1))))) (.and (.cmp .eq (.idx (.var 1) (.var 2)) (.idx (.var 1) (.bin .add (.var 2) (.lit (.int 1))))) (.cmp .eq (.idx (.var 0) (.var 2)) (.idx (.var 1) (.var 2))))) (.cons (.ret (.lit (.bl false))) .nil) .nil) .nil)
def b_go_together : Sts := (.cons (.for_ (.nm 2) (.rng1 (.bin .sub (.prim .len (.cons (.var 0) .nil)) (.lit (.int 1)))) b_go_together_1) (.cons (.ret (.lit (.bl true))) .nil))
def den_go_together : List D → R D := run 3 b_go_together
def b_near_of_1 : Tm := (.call den_go_together true (.cons (.var 1) (.cons (.var 3) .nil)))
def b_near_of_2 : Tm := (.comp (.var 2) (.tp [2, 3]) (.enm (.var 0)) (.some b_near_of_1) [2, 3])
def b_near_of : Sts := (.cons (.ret (.comp b_near_of_2 (.nm 1) (.seq (.var 0)) .none [1])) .nil)
def den_near_of : List D → R D := run 4 b_near_of
def b_ways_of_1 : Tm := (.lit (.int 1))
def b_ways_of_2 : Tm := (.idx (.idx (.var 2) (.neg (.lit (.int 1)))) (.var 5))
def b_ways_of_3 : Tm := (.prim .sum (.cons (.comp b_ways_of_2 (.nm 5) (.seq (.var 4)) .none [5]) .nil))
def b_ways_of_4 : Sts := (.cons (.app 2 (.comp b_ways_of_3 (.nm 4) (.seq (.var 0)) .none [4])) .nil)
def b_ways_of : Sts := (.cons (.asg (.nm 2) (.lst (.cons (.comp b_ways_of_1 (.nm 4) (.seq (.var 0)) .none [4]) .nil))) (.cons (.for_ (.nm 3) (.rng1 (.bin .sub (.var 1) (.lit (.int 1)))) b_ways_of_4) (.cons (.ret (.var 2)) .nil)))
def den_ways_of : List D → R D := run 6 b_ways_of
def b_how_many : Sts := (.cons (.expr (.call den_check_hues true (.cons (.var 0) .nil))) (.cons (.expr (.call den_check_wide true (.cons (.var 0) (.cons (.var 1) .nil)))) (.cons (.expr (.call den_check_high true (.cons (.var 2) (.cons (.lit (.int 200)) .nil)))) (.cons (.ret (.prim .sum (.cons (.idx (.call den_ways_of true (.cons (.call den_near_of true (.cons (.call den_rows_of false (.cons (.var 0) (.cons (.var 1) .nil))) .nil)) (.cons (.var 2) .nil))) (.neg (.lit (.int 1)))) .nil))) .nil))))
def den_how_many : List D → R D := run 3 b_how_many
def b_l_number : Sts := (.cons (.par [3, 4] (.cons (.bin .mod (.var 0) (.lit (.int 1000003))) (.cons (.bin .mod (.bin .fdiv (.var 0) (.lit (.int 1000003))) (.lit (.int 999983))) .nil))) (.cons (.asg (.nm 5) (.bin .mod (.bin .add (.bin .add (.bin .mul (.bin .add (.var 3) (.bin .mul (.lit (.int 977)) (.var 1))) (.lit (.int 48271))) (.bin .mul (.lit (.int 31)) (.var 4))) (.bin .mod (.var 2) (.lit (.int 65521)))) (.lit (.int 2147483647)))) (.cons (.ret (.bin .add (.bin .mul (.bin .mod (.bin .mul (.var 5) (.bin .add (.bin .add (.var 5) (.bin .mul (.lit (.int 31)) (.var 1))) (.lit (.int 7)))) (.lit (.int 2147483629))) (.lit (.int 65537))) (.var 4))) .nil)))
def den_l_number : List D → R D := run 6 b_l_number
def b_l_kind : Sts := (.cons (.asg (.nm 2) (.ite (.cmp .ne (.var 0) (.lst .nil)) (.bin .add (.prim .sum (.cons (.slc (.var 0) .none (.some (.lit (.int 63)))) .nil)) (.var 1)) (.bin .add (.lit (.int 5)) (.var 1)))) (.cons (.asg (.nm 3) (.idx (.tup (.cons (.lit (.int 2)) (.cons (.lit (.int 2)) (.cons (.lit (.int 3)) .nil)))) (.bin .mod (.call den_l_number true (.cons (.var 2) (.cons (.bin .add (.var 1) (.lit (.int 1))) (.cons (.lit (.int 3)) .nil)))) (.lit (.int 3))))) (.cons (.ret (.tup (.cons (.var 3) (.cons (.bin .add (.lit (.int 1)) (.bin .mod (.bin .fdiv (.call den_l_number true (.cons (.var 2) (.cons (.bin .add (.var 1) (.lit (.int 2))) (.cons (.lit (.int 5)) .nil)))) (.lit (.int 3))) (.ite (.cmp .eq (.var 3) (.lit (.int 2))) (.lit (.int 4)) (.lit (.int 3))))) .nil)))) .nil)))
def den_l_kind : List D → R D := run 4 b_l_kind
def b_l_whole : Sts := (.cons (.ret (.and (.prim .isI (.cons (.var 0) .nil)) (.not (.prim .isB (.cons (.var 0) .nil))))) .nil)
def den_l_whole : List D → R D := run 1 b_l_whole
def b_l_rows_1 : Tm := (.bin .add (.var 5) (.var 6))
def b_l_rows_2 : Sts := (.cons (.asg (.nm 4) (.bin .add (.var 4) (.comp b_l_rows_1 (.nm 6) (.seq (.slc (.lit (.str [48, 49, 50])) .none (.some (.var 0)))) .none [6]))) .nil)
def b_l_rows_3 : Sts := (.cons (.asg (.nm 4) (.lst .nil)) (.cons (.for_ (.nm 5) (.seq (.var 2)) b_l_rows_2) (.cons (.asg (.nm 2) (.var 4)) .nil)))
def b_l_rows : Sts := (.cons (.asg (.nm 2) (.lst (.cons (.lit (.str [])) .nil))) (.cons (.for_ (.nm 3) (.rng1 (.var 1)) b_l_rows_3) (.cons (.ret (.var 2)) .nil)))
def den_l_rows : List D → R D := run 7 b_l_rows
def b_l_two_1 : Tm := (.cmp .eq (.prim .lenset (.cons (.bin .add (.slc (.var 0) (.some (.var 2)) (.some (.bin .add (.var 2) (.lit (.int 2))))) (.slc (.var 1) (.some (.var 2)) (.some (.bin .add (.var 2) (.lit (.int 2)))))) .nil)) (.lit (.int 1)))
def b_l_two : Sts := (.cons (.ret (.not (.prim .any (.cons (.comp b_l_two_1 (.nm 2) (.rng1 (.bin .sub (.prim .len (.cons (.var 0) .nil)) (.lit (.int 1)))) .none [2]) .nil)))) .nil)
def den_l_two : List D → R D := run 3 b_l_two
def b_l_by_two_1 : Sts := (.cons (.asg (.nm 5) (.bin .add (.var 2) (.var 3))) (.cons (.par [2, 3] (.cons (.bin .sub (.bin .mul (.var 0) (.var 5)) (.var 2)) (.cons (.bin .mul (.bin .sub (.bin .mul (.var 0) (.var 0)) (.var 0)) (.var 5)) .nil))) .nil))
def b_l_by_two : Sts := (.cons (.par [2, 3] (.cons (.var 0) (.cons (.bin .sub (.bin .mul (.var 0) (.var 0)) (.var 0)) .nil))) (.cons (.for_ (.nm 4) (.rng1 (.bin .sub (.var 1) (.lit (.int 1)))) b_l_by_two_1) (.cons (.ret (.bin .add (.var 2) (.var 3))) .nil)))
def den_l_by_two : List D → R D := run 6 b_l_by_two
def b_l_by_rows_1 : Tm := (.call den_l_two false (.cons (.var 7) (.cons (.var 9) .nil)))
def b_l_by_rows_2 : Tm := (.comp (.var 8) (.tp [8, 9]) (.enm (.var 3)) (.some b_l_by_rows_1) [8, 9])
def b_l_by_rows_3 : Tm := (.lit (.int 1))
def b_l_by_rows_4 : Tm := (.idx (.var 5) (.var 8))
def b_l_by_rows_5 : Tm := (.prim .sum (.cons (.comp b_l_by_rows_4 (.nm 8) (.seq (.var 10)) .none [8]) .nil))
def b_l_by_rows_6 : Sts := (.cons (.asg (.nm 5) (.comp b_l_by_rows_5 (.nm 10) (.seq (.var 4)) .none [10])) .nil)
def b_l_by_rows : Sts := (.cons (.asg (.nm 3) (.call den_l_rows false (.cons (.var 0) (.cons (.var 1) .nil)))) (.cons (.asg (.nm 4) (.comp b_l_by_rows_2 (.nm 7) (.seq (.var 3)) .none [7])) (.cons (.asg (.nm 5) (.comp b_l_by_rows_3 (.nm 7) (.seq (.var 3)) .none [7])) (.cons (.for_ (.nm 6) (.rng1 (.bin .sub (.var 2) (.lit (.int 1)))) b_l_by_rows_6) (.cons (.ret (.prim .sum (.cons (.var 5) .nil))) .nil)))))
def den_l_by_rows : List D → R D := run 11 b_l_by_rows
def b_law_k01_1 : Sts := (.cons (.asg (.nm 8) (.bin .mul (.var 8) (.var 3))) .nil)
def b_law_k01_2 : Sts := (.cons (.asg (.tp [3, 4]) (.call den_l_kind false (.cons (.var 0) (.cons (.var 2) .nil)))) (.cons (.asg (.nm 5) (.bin .add (.lit (.int 1)) (.bin .mod (.bin .fdiv (.var 1) (.bin .add (.lit (.int 7)) (.var 2))) (.lit (.int 12))))) (.cons (.asg (.nm 6) (.call den_how_many false (.cons (.var 3) (.cons (.var 4) (.cons (.var 5) .nil))))) (.cons (.ite (.or (.not (.call den_l_whole false (.cons (.var 6) .nil))) (.cmp .ne (.var 6) (.call den_l_by_rows false (.cons (.var 3) (.cons (.var 4) (.cons (.var 5) .nil)))))) (.cons (.ret (.lit (.bl false))) .nil) .nil) (.cons (.asg (.nm 7) (.bin .add (.lit (.int 1)) (.bin .mod (.bin .fdiv (.var 1) (.bin .add (.lit (.int 11)) (.var 2))) (.lit (.int 200))))) (.cons (.asg (.nm 8) (.lit (.int 1))) (.cons (.for_ (.nm 9) (.rng1 (.var 7)) b_law_k01_1) (.cons (.ite (.or (.cmp .ne (.call den_how_many false (.cons (.var 3) (.cons (.lit (.int 1)) (.cons (.var 7) .nil)))) (.var 8)) (.cmp .ne (.call den_how_many false (.cons (.var 3) (.cons (.lit (.int 2)) (.cons (.var 7) .nil)))) (.call den_l_by_two true (.cons (.var 3) (.cons (.var 7) .nil))))) (.cons (.ret (.lit (.bl false))) .nil) .nil) (.cons (.asg (.nm 10) (.bin .add (.lit (.int 1)) (.bin .mod (.bin .fdiv (.var 1) (.bin .add (.lit (.int 13)) (.var 2))) (.ite (.cmp .eq (.var 3) (.lit (.int 2))) (.lit (.int 4)) (.lit (.int 3)))))) (.cons (.ite (.cmp .ne (.call den_how_many false (.cons (.var 3) (.cons (.var 4) (.cons (.var 10) .nil)))) (.call den_how_many false (.cons (.var 3) (.cons (.var 10) (.cons (.var 4) .nil))))) (.cons (.ret (.lit (.bl false))) .nil) .nil) .nil))))))))))
def b_law_k01 : Sts := (.cons (.asg (.nm 1) (.prim .abs (.cons (.prim .sum (.cons (.slc (.var 0) .none (.some (.lit (.int 63)))) .nil)) .nil))) (.cons (.ite (.cmp .ne (.lst (.cons (.call den_how_many false (.cons (.lit (.int 2)) (.cons (.lit (.int 2)) (.cons (.lit (.int 2)) .nil)))) (.cons (.call den_how_many false (.cons (.lit (.int 2)) (.cons (.lit (.int 2)) (.cons (.lit (.int 3)) .nil)))) (.cons (.call den_how_many false (.cons (.lit (.int 3)) (.cons (.lit (.int 2)) (.cons (.lit (.int 2)) .nil)))) (.cons (.call den_how_many false (.cons (.lit (.int 2)) (.cons (.lit (.int 1)) (.cons (.lit (.int 60)) .nil)))) .nil))))) (.lst (.cons (.lit (.int 14)) (.cons (.lit (.int 50)) (.cons (.lit (.int 78)) (.cons (.bin .pow (.lit (.int 2)) (.lit (.int 60))) .nil)))))) (.cons (.ret (.lit (.bl false))) .nil) .nil) (.cons (.for_ (.nm 2) (.rng1 (.lit (.int 2))) b_law_k01_2) (.cons (.ret (.and (.cmp .eq (.call den_how_many false (.cons (.lit (.int 2)) (.cons (.lit (.int 2)) (.cons (.lit (.int 200)) .nil)))) (.call den_l_by_two true (.cons (.lit (.int 2)) (.cons (.lit (.int 200)) .nil)))) (.cmp .eq (.call den_how_many false (.cons (.lit (.int 3)) (.cons (.lit (.int 2)) (.cons (.lit (.int 199)) .nil)))) (.call den_l_by_two true (.cons (.lit (.int 3)) (.cons (.lit (.int 199)) .nil)))))) .nil))))
def den_law_k01 : List D → R D := run 11 b_law_k01
end Dn
namespace Dn
open Hue
def b_are_rows_1 : Tm := (.and (.prim .isS (.cons (.var 3) .nil)) (.chn .le .le (.lit (.int 1)) (.prim .len (.cons (.var 3) .nil)) (.call den_widest true (.cons (.var 0) .nil))))
def b_are_rows_2 : Tm := (.cmp .ne (.prim .len (.cons (.var 3) .nil)) (.prim .len (.cons (.idx (.var 1) (.lit (.int 0))) .nil)))
def b_are_rows_3 : Tm := (.cmp .isin (.var 4) (.var 2))
def b_are_rows : Sts := (.cons (.ite (.or (.not (.prim .isL (.cons (.var 1) .nil))) (.not (.chn .le .le (.lit (.int 1)) (.prim .len (.cons (.var 1) .nil)) (.lit (.int 8))))) (.cons (.ret (.lit (.bl false))) .nil) .nil) (.cons (.ite (.not (.prim .all (.cons (.comp b_are_rows_1 (.nm 3) (.seq (.var 1)) .none [3]) .nil))) (.cons (.ret (.lit (.bl false))) .nil) .nil) (.cons (.ite (.prim .any (.cons (.comp b_are_rows_2 (.nm 3) (.seq (.var 1)) .none [3]) .nil)) (.cons (.ret (.lit (.bl false))) .nil) .nil) (.cons (.ret (.prim .all (.cons (.comp b_are_rows_3 (.nm 4) (.seq (.meth .join (.lit (.str [])) (.var 1))) .none [4]) .nil))) .nil))))
def den_are_rows : List D → R D := run 5 b_are_rows
def b_check_floor : Sts := (.cons (.ite (.not (.call den_are_rows false (.cons (.var 0) (.cons (.var 1) (.cons (.slc (.lit (.str [48, 49, 50])) .none (.some (.var 0))) .nil))))) (.cons (.raise 4) .nil) .nil) .nil)
def den_check_floor : List D → R D := run 2 b_check_floor
def b_is_lively_1 : Tm := (.call den_go_together true (.cons (.var 1) (.cons (.var 2) .nil)))
def b_is_lively : Sts := (.cons (.ret (.prim .all (.cons (.comp b_is_lively_1 (.tp [1, 2]) (.zip (.var 0) (.slc (.var 0) (.some (.lit (.int 1))) .none)) .none [1, 2]) .nil))) .nil)
def den_is_lively : List D → R D := run 3 b_is_lively
def b_floor_of_1 : Tm := (.cmp .ge (.var 3) (.idx (.var 10) (.idx (.var 8) (.var 11))))
def b_floor_of_2 : Sts := (.cons (.aug 3 .sub (.idx (.var 10) (.idx (.var 8) (.var 11)))) (.cons (.aug 11 .add (.lit (.int 1))) .nil))
def b_floor_of_3 : Sts := (.cons (.par [10, 11] (.cons (.idx (.var 6) (.bin .sub (.bin .sub (.var 2) (.lit (.int 1))) (.var 9))) (.cons (.lit (.int 0)) .nil))) (.cons (.whl b_floor_of_1 b_floor_of_2) (.cons (.app 7 (.idx (.var 4) (.idx (.var 8) (.var 11)))) (.cons (.asg (.nm 8) (.idx (.var 5) (.idx (.var 8) (.var 11)))) .nil))))
def b_floor_of : Sts := (.cons (.asg (.nm 4) (.call den_rows_of false (.cons (.var 0) (.cons (.var 1) .nil)))) (.cons (.asg (.nm 5) (.call den_near_of true (.cons (.var 4) .nil))) (.cons (.par [6, 7, 8] (.cons (.call den_ways_of true (.cons (.var 5) (.cons (.var 2) .nil))) (.cons (.lst .nil) (.cons (.prim .lrng1 (.cons (.prim .len (.cons (.var 4) .nil)) .nil)) .nil)))) (.cons (.ite (.cmp .ge (.var 3) (.prim .sum (.cons (.idx (.var 6) (.neg (.lit (.int 1)))) .nil))) (.cons (.ret (.lit .non)) .nil) .nil) (.cons (.for_ (.nm 9) (.rng1 (.var 2)) b_floor_of_3) (.cons (.ret (.var 7)) .nil))))))
def den_floor_of : List D → R D := run 12 b_floor_of
def b_floor_by : Sts := (.cons (.expr (.call den_check_hues true (.cons (.var 0) .nil))) (.cons (.expr (.call den_check_wide true (.cons (.var 0) (.cons (.var 1) .nil)))) (.cons (.expr (.call den_check_high true (.cons (.var 2) (.cons (.lit (.int 8)) .nil)))) (.cons (.asg (.nm 4) (.ite (.call den_is_between false (.cons (.var 3) (.cons (.lit (.int 0)) (.cons (.var 3) .nil)))) (.call den_floor_of true (.cons (.var 0) (.cons (.var 1) (.cons (.var 2) (.cons (.var 3) .nil))))) (.lit .non))) (.cons (.ite (.isN (.var 4)) (.cons (.raise 5) .nil) .nil) (.cons (.ret (.var 4)) .nil))))))
def den_floor_by : List D → R D := run 5 b_floor_by
def b_check_lively : Sts := (.cons (.expr (.call den_check_hues true (.cons (.var 0) .nil))) (.cons (.expr (.call den_check_floor true (.cons (.var 0) (.cons (.var 1) .nil)))) (.cons (.ite (.not (.call den_is_lively false (.cons (.var 1) .nil))) (.cons (.raise 9) .nil) .nil) .nil)))
def den_check_lively : List D → R D := run 2 b_check_lively
def b_number_of_1 : Tm := (.idx (.idx (.var 4) (.bin .sub (.bin .sub (.prim .len (.cons (.var 1) .nil)) (.lit (.int 1))) (.var 7))) (.var 10))
def b_number_of_2 : Tm := (.cmp .lt (.var 10) (.var 9))
def b_number_of_3 : Sts := (.cons (.asg (.nm 9) (.meth .index (.var 2) (.var 8))) (.cons (.aug 5 .add (.prim .sum (.cons (.comp b_number_of_1 (.nm 10) (.seq (.var 6)) (.some b_number_of_2) [10]) .nil))) (.cons (.asg (.nm 6) (.idx (.var 3) (.var 9))) .nil)))
def b_number_of : Sts := (.cons (.expr (.call den_check_lively true (.cons (.var 0) (.cons (.var 1) .nil)))) (.cons (.asg (.nm 2) (.call den_rows_of false (.cons (.var 0) (.cons (.prim .len (.cons (.idx (.var 1) (.lit (.int 0))) .nil)) .nil)))) (.cons (.asg (.nm 3) (.call den_near_of true (.cons (.var 2) .nil))) (.cons (.par [4, 5, 6] (.cons (.call den_ways_of true (.cons (.var 3) (.cons (.prim .len (.cons (.var 1) .nil)) .nil))) (.cons (.lit (.int 0)) (.cons (.prim .lrng1 (.cons (.prim .len (.cons (.var 2) .nil)) .nil)) .nil)))) (.cons (.for_ (.tp [7, 8]) (.enm (.var 1)) b_number_of_3) (.cons (.ret (.var 5)) .nil))))))
def den_number_of : List D → R D := run 11 b_number_of
def b_next_one : Sts := (.cons (.asg (.nm 2) (.call den_number_of false (.cons (.var 0) (.cons (.var 1) .nil)))) (.cons (.ret (.call den_floor_of true (.cons (.var 0) (.cons (.prim .len (.cons (.idx (.var 1) (.lit (.int 0))) .nil)) (.cons (.prim .len (.cons (.var 1) .nil)) (.cons (.bin .add (.var 2) (.lit (.int 1))) .nil)))))) .nil))
def den_next_one : List D → R D := run 3 b_next_one
def b_l_good_1 : Tm := (.call den_l_two false (.cons (.idx (.var 0) (.var 1)) (.cons (.idx (.var 0) (.bin .add (.var 1) (.lit (.int 1)))) .nil)))
def b_l_good : Sts := (.cons (.ret (.prim .all (.cons (.comp b_l_good_1 (.nm 1) (.rng1 (.bin .sub (.prim .len (.cons (.var 0) .nil)) (.lit (.int 1)))) .none [1]) .nil))) .nil)
def den_l_good : List D → R D := run 2 b_l_good
def b_l_all_1 : Tm := (.bin .add (.var 10) (.var 11))
def b_l_all_2 : Sts := (.cons (.asg (.nm 9) (.bin .add (.var 9) (.comp b_l_all_1 (.nm 11) (.seq (.slc (.lit (.str [48, 49, 50])) .none (.some (.var 0)))) .none [11]))) .nil)
def b_l_all_3 : Sts := (.cons (.asg (.nm 9) (.lst .nil)) (.cons (.for_ (.nm 10) (.seq (.var 7)) b_l_all_2) (.cons (.asg (.nm 7) (.var 9)) .nil)))
def b_l_all_4 : Tm := (.bin .add (.var 6) (.lst (.cons (.var 10) .nil)))
def b_l_all_5 : Tm := (.or (.cmp .eq (.var 6) (.lst .nil)) (.call den_l_two false (.cons (.idx (.var 6) (.neg (.lit (.int 1)))) (.cons (.var 10) .nil))))
def b_l_all_6 : Sts := (.cons (.asg (.nm 7) (.lst (.cons (.lit (.str [])) .nil))) (.cons (.for_ (.nm 8) (.rng1 (.var 1)) b_l_all_3) (.cons (.asg (.nm 5) (.bin .add (.var 5) (.comp b_l_all_4 (.nm 10) (.seq (.var 7)) (.some b_l_all_5) [10]))) .nil)))
def b_l_all_7 : Sts := (.cons (.asg (.nm 5) (.lst .nil)) (.cons (.for_ (.nm 6) (.seq (.var 3)) b_l_all_6) (.cons (.asg (.nm 3) (.var 5)) .nil)))
def b_l_all : Sts := (.cons (.asg (.nm 3) (.lst (.cons (.lst .nil) .nil))) (.cons (.for_ (.nm 4) (.rng1 (.var 2)) b_l_all_7) (.cons (.ret (.var 3)) .nil)))
def den_l_all : List D → R D := run 12 b_l_all
def b_l_one_right_1 : Tm := (.cmp .ne (.prim .len (.cons (.var 8) .nil)) (.var 1))
def b_l_one_right_2 : Tm := (.cmp .notin (.var 9) (.slc (.lit (.str [48, 49, 50])) .none (.some (.var 0))))
def b_l_one_right : Sts := (.cons (.asg (.nm 5) (.call den_floor_by true (.cons (.var 0) (.cons (.var 1) (.cons (.var 2) (.cons (.var 3) .nil)))))) (.cons (.ite (.or (.cmp .ne (.prim .len (.cons (.var 5) .nil)) (.var 2)) (.or (.prim .any (.cons (.comp b_l_one_right_1 (.nm 8) (.seq (.var 5)) .none [8]) .nil)) (.not (.call den_l_good false (.cons (.var 5) .nil))))) (.cons (.ret (.lit (.bl false))) .nil) .nil) (.cons (.ite (.or (.prim .any (.cons (.comp b_l_one_right_2 (.nm 9) (.seq (.meth .join (.lit (.str [])) (.var 5))) .none [9]) .nil)) (.cmp .ne (.call den_number_of false (.cons (.var 0) (.cons (.var 5) .nil))) (.var 3))) (.cons (.ret (.lit (.bl false))) .nil) .nil) (.cons (.asgR 6 true (.call den_next_one true (.cons (.var 0) (.cons (.var 5) .nil)))) (.cons (.ite (.cmp .eq (.var 3) (.bin .sub (.var 4) (.lit (.int 1)))) (.cons (.ret (.isN (.var 6))) .nil) .nil) (.cons (.asg (.nm 7) (.prim .list (.cons (.var 5) .nil))) (.cons (.rvs 5) (.cons (.ret (.and (.cmp .eq (.var 6) (.call den_floor_by true (.cons (.var 0) (.cons (.var 1) (.cons (.var 2) (.cons (.bin .add (.var 3) (.lit (.int 1))) .nil)))))) (.and (.cmp .gt (.var 6) (.var 7)) (.cmp .eq (.call den_next_one true (.cons (.var 0) (.cons (.var 7) .nil))) (.var 6))))) .nil))))))))
def den_l_one_right : List D → R D := run 10 b_l_one_right
def b_law_k02_1 : Tm := (.call den_l_one_right false (.cons (.var 3) (.cons (.var 4) (.cons (.var 5) (.cons (.var 9) (.cons (.var 6) .nil))))))
def b_law_k02_2 : Sts := (.cons (.asg (.tp [3, 4]) (.call den_l_kind false (.cons (.var 0) (.cons (.var 2) .nil)))) (.cons (.asg (.nm 5) (.bin .add (.lit (.int 1)) (.bin .mod (.bin .fdiv (.var 1) (.bin .add (.lit (.int 3)) (.var 2))) (.lit (.int 8))))) (.cons (.asg (.nm 6) (.call den_how_many false (.cons (.var 3) (.cons (.var 4) (.cons (.var 5) .nil))))) (.cons (.asg (.nm 7) (.prim .sortset (.cons (.lst (.cons (.lit (.int 0)) (.cons (.bin .sub (.var 6) (.lit (.int 1))) (.cons (.bin .fdiv (.var 6) (.lit (.int 2))) (.cons (.bin .mod (.var 1) (.var 6)) (.cons (.prim .max2 (.cons (.lit (.int 0)) (.cons (.bin .sub (.var 6) (.lit (.int 2))) .nil))) (.cons (.bin .mod (.bin .fdiv (.var 1) (.lit (.int 7))) (.var 6)) .nil))))))) .nil))) (.cons (.ite (.not (.prim .all (.cons (.comp b_law_k02_1 (.nm 9) (.seq (.var 7)) .none [9]) .nil))) (.cons (.ret (.lit (.bl false))) .nil) .nil) .nil)))))
def b_law_k02_3 : Tm := (.call den_floor_by true (.cons (.var 3) (.cons (.lit (.int 2)) (.cons (.var 5) (.cons (.var 9) .nil)))))
def b_law_k02 : Sts := (.cons (.asg (.nm 1) (.prim .abs (.cons (.prim .sum (.cons (.slc (.var 0) .none (.some (.lit (.int 63)))) .nil)) .nil))) (.cons (.for_ (.nm 2) (.rng1 (.lit (.int 2))) b_law_k02_2) (.cons (.par [3, 5] (.cons (.bin .add (.lit (.int 2)) (.bin .mod (.var 1) (.lit (.int 2)))) (.cons (.bin .add (.lit (.int 1)) (.bin .mod (.bin .fdiv (.var 1) (.lit (.int 2))) (.lit (.int 2)))) .nil))) (.cons (.asg (.nm 8) (.call den_l_all false (.cons (.var 3) (.cons (.lit (.int 2)) (.cons (.var 5) .nil))))) (.cons (.ite (.cmp .ne (.comp b_law_k02_3 (.nm 9) (.rng1 (.prim .len (.cons (.var 8) .nil))) .none [9]) (.var 8)) (.cons (.ret (.lit (.bl false))) .nil) .nil) (.cons (.ite (.cmp .ne (.call den_how_many false (.cons (.var 3) (.cons (.lit (.int 2)) (.cons (.var 5) .nil)))) (.prim .len (.cons (.var 8) .nil))) (.cons (.ret (.lit (.bl false))) .nil) .nil) (.cons (.ret (.and (.cmp .eq (.call den_floor_by true (.cons (.lit (.int 2)) (.cons (.lit (.int 2)) (.cons (.lit (.int 2)) (.cons (.lit (.int 0)) .nil))))) (.lst (.cons (.lit (.str [48, 48])) (.cons (.lit (.str [48, 49])) .nil)))) (.and (.cmp .eq (.call den_number_of false (.cons (.lit (.int 2)) (.cons (.lst (.cons (.lit (.str [49, 49])) (.cons (.lit (.str [49, 48])) .nil))) .nil))) (.lit (.int 13))) (.call den_l_whole false (.cons (.call den_number_of false (.cons (.lit (.int 2)) (.cons (.lst (.cons (.lit (.str [48])) .nil)) .nil))) .nil))))) .nil)))))))
def den_law_k02 : List D → R D := run 10 b_law_k02
end Dn
namespace K02
open PySem PySem.Spec PyProof.Rows L2 Hue Dn
def topS (i : Nat) : Stmt := PySem.Challenge.pw_huefloor_k02_whole_numbered.main.body.getD i (.Pass ⟨0, 0, 0, 0⟩)
def t0 : Tab := [("BadHues", .exc 1), ("BadWide", .exc 2), ("BadHigh", .exc 3), ("BadFloor", .exc 4), ("BadNumber", .exc 5), ("NotLively", .exc 9), ("SIGNS", .const (.str [48, 49, 50])), ("HIGHEST", .const (.int 8)), ("GREATEST", .const (.int 200))]
abbrev s_is_whole : Stmt := topS 11
abbrev n_is_whole : List Str := ["thing"]
theorem cm_is_whole : cmpDef ⟨n_is_whole, defScope s_is_whole, t0, false⟩ 60 s_is_whole = some b_is_whole := by kernel_rfl
theorem sc_is_whole : FnScope n_is_whole ["thing"] (defScope s_is_whole) := ⟨rfl, rfl, rfl, by decide +kernel, rfl, by decide +kernel, by decide +kernel⟩
def t1 : Tab := ("is_whole", .fn den_is_whole false 1) :: t0
abbrev s_is_between : Stmt := topS 12
abbrev n_is_between : List Str := ["thing", "low", "high"]
theorem cm_is_between : cmpDef ⟨n_is_between, defScope s_is_between, t1, false⟩ 60 s_is_between = some b_is_between := by kernel_rfl
theorem sc_is_between : FnScope n_is_between ["thing", "low", "high"] (defScope s_is_between) := ⟨rfl, rfl, rfl, by decide +kernel, rfl, by decide +kernel, by decide +kernel⟩
def t2 : Tab := ("is_between", .fn den_is_between false 3) :: t1
abbrev s_check_hues : Stmt := topS 13
abbrev n_check_hues : List Str := ["hues"]
theorem cm_check_hues : cmpDef ⟨n_check_hues, defScope s_check_hues, t2, true⟩ 60 s_check_hues = some b_check_hues := by kernel_rfl
theorem sc_check_hues : FnScope n_check_hues ["hues"] (defScope s_check_hues) := ⟨rfl, rfl, rfl, by decide +kernel, rfl, by decide +kernel, by decide +kernel⟩
def t3 : Tab := ("check_hues", .fn den_check_hues true 1) :: t2
abbrev s_widest : Stmt := topS 14
abbrev n_widest : List Str := ["hues"]
theorem cm_widest : cmpDef ⟨n_widest, defScope s_widest, t3, true⟩ 60 s_widest = some b_widest := by kernel_rfl
theorem sc_widest : FnScope n_widest ["hues"] (defScope s_widest) := ⟨rfl, rfl, rfl, by decide +kernel, rfl, by decide +kernel, by decide +kernel⟩
def t4 : Tab := ("widest", .fn den_widest true 1) :: t3
abbrev s_check_wide : Stmt := topS 15
abbrev n_check_wide : List Str := ["hues", "wide"]
theorem cm_check_wide : cmpDef ⟨n_check_wide, defScope s_check_wide, t4, true⟩ 60 s_check_wide = some b_check_wide := by kernel_rfl
theorem sc_check_wide : FnScope n_check_wide ["hues", "wide"] (defScope s_check_wide) := ⟨rfl, rfl, rfl, by decide +kernel, rfl, by decide +kernel, by decide +kernel⟩
def t5 : Tab := ("check_wide", .fn den_check_wide true 2) :: t4
abbrev s_check_high : Stmt := topS 16
abbrev n_check_high : List Str := ["high", "most"]
theorem cm_check_high : cmpDef ⟨n_check_high, defScope s_check_high, t5, true⟩ 60 s_check_high = some b_check_high := by kernel_rfl
theorem sc_check_high : FnScope n_check_high ["high", "most"] (defScope s_check_high) := ⟨rfl, rfl, rfl, by decide +kernel, rfl, by decide +kernel, by decide +kernel⟩
def t6 : Tab := ("check_high", .fn den_check_high true 2) :: t5
abbrev s_are_rows : Stmt := topS 17
abbrev n_are_rows : List Str := ["hues", "thing", "signs", "row", "sign"]
theorem cm_are_rows : cmpDef ⟨n_are_rows, defScope s_are_rows, t6, false⟩ 60 s_are_rows = some b_are_rows := by kernel_rfl
theorem sc_are_rows : FnScope n_are_rows ["hues", "thing", "signs"] (defScope s_are_rows) := ⟨rfl, rfl, rfl, by decide +kernel, rfl, by decide +kernel, by decide +kernel⟩
def t7 : Tab := ("are_rows", .fn den_are_rows false 3) :: t6
abbrev s_check_floor : Stmt := topS 18
abbrev n_check_floor : List Str := ["hues", "floor"]
theorem cm_check_floor : cmpDef ⟨n_check_floor, defScope s_check_floor, t7, true⟩ 60 s_check_floor = some b_check_floor := by kernel_rfl
theorem sc_check_floor : FnScope n_check_floor ["hues", "floor"] (defScope s_check_floor) := ⟨rfl, rfl, rfl, by decide +kernel, rfl, by decide +kernel, by decide +kernel⟩
def t8 : Tab := ("check_floor", .fn den_check_floor true 2) :: t7
abbrev s_rows_of : Stmt := topS 20
abbrev n_rows_of : List Str := ["hues", "wide", "found", "turn", "longer", "row", "sign"]
theorem cm_rows_of : cmpDef ⟨n_rows_of, defScope s_rows_of, t8, false⟩ 60 s_rows_of = some b_rows_of := by kernel_rfl
theorem sc_rows_of : FnScope n_rows_of ["hues", "wide"] (defScope s_rows_of) := ⟨rfl, rfl, rfl, by decide +kernel, rfl, by decide +kernel, by decide +kernel⟩
def t9 : Tab := ("rows_of", .fn den_rows_of false 2) :: t8
abbrev s_go_together : Stmt := topS 21
abbrev n_go_together : List Str := ["above", "below", "at"]
theorem cm_go_together : cmpDef ⟨n_go_together, defScope s_go_together, t9, true⟩ 60 s_go_together = some b_go_together := by kernel_rfl
theorem sc_go_together : FnScope n_go_together ["above", "below"] (defScope s_go_together) := ⟨rfl, rfl, rfl, by decide +kernel, rfl, by decide +kernel, by decide +kernel⟩
def t10 : Tab := ("go_together", .fn den_go_together true 2) :: t9
abbrev s_is_lively : Stmt := topS 22
abbrev n_is_lively : List Str := ["floor", "above", "below"]
theorem cm_is_lively : cmpDef ⟨n_is_lively, defScope s_is_lively, t10, false⟩ 60 s_is_lively = some b_is_lively := by kernel_rfl
theorem sc_is_lively : FnScope n_is_lively ["floor"] (defScope s_is_lively) := ⟨rfl, rfl, rfl, by decide +kernel, rfl, by decide +kernel, by decide +kernel⟩
def t11 : Tab := ("is_lively", .fn den_is_lively false 1) :: t10
abbrev s_near_of : Stmt := topS 23
abbrev n_near_of : List Str := ["rows", "row", "at", "other"]
theorem cm_near_of : cmpDef ⟨n_near_of, defScope s_near_of, t11, true⟩ 60 s_near_of = some b_near_of := by kernel_rfl
theorem sc_near_of : FnScope n_near_of ["rows"] (defScope s_near_of) := ⟨rfl, rfl, rfl, by decide +kernel, rfl, by decide +kernel, by decide +kernel⟩
def t12 : Tab := ("near_of", .fn den_near_of true 1) :: t11
abbrev s_ways_of : Stmt := topS 24
abbrev n_ways_of : List Str := ["near", "high", "found", "turn", "some", "at"]
theorem cm_ways_of : cmpDef ⟨n_ways_of, defScope s_ways_of, t12, true⟩ 60 s_ways_of = some b_ways_of := by kernel_rfl
theorem sc_ways_of : FnScope n_ways_of ["near", "high"] (defScope s_ways_of) := ⟨rfl, rfl, rfl, by decide +kernel, rfl, by decide +kernel, by decide +kernel⟩
def t13 : Tab := ("ways_of", .fn den_ways_of true 2) :: t12
abbrev s_how_many : Stmt := topS 27
abbrev n_how_many : List Str := ["hues", "wide", "high"]
theorem cm_how_many : cmpDef ⟨n_how_many, defScope s_how_many, t13, false⟩ 60 s_how_many = some b_how_many := by kernel_rfl
theorem sc_how_many : FnScope n_how_many ["hues", "wide", "high"] (defScope s_how_many) := ⟨rfl, rfl, rfl, by decide +kernel, rfl, by decide +kernel, by decide +kernel⟩
def t14 : Tab := ("how_many", .fn den_how_many false 3) :: t13
abbrev s_floor_of : Stmt := topS 28
abbrev n_floor_of : List Str := ["hues", "wide", "high", "number", "rows", "near", "ways", "found", "free", "step", "counts", "at"]
theorem cm_floor_of : cmpDef ⟨n_floor_of, defScope s_floor_of, t14, true⟩ 60 s_floor_of = some b_floor_of := by kernel_rfl
theorem sc_floor_of : FnScope n_floor_of ["hues", "wide", "high", "number"] (defScope s_floor_of) := ⟨rfl, rfl, rfl, by decide +kernel, rfl, by decide +kernel, by decide +kernel⟩
def t15 : Tab := ("floor_of", .fn den_floor_of true 4) :: t14
abbrev s_floor_by : Stmt := topS 29
abbrev n_floor_by : List Str := ["hues", "wide", "high", "number", "found"]
theorem cm_floor_by : cmpDef ⟨n_floor_by, defScope s_floor_by, t15, true⟩ 60 s_floor_by = some b_floor_by := by kernel_rfl
theorem sc_floor_by : FnScope n_floor_by ["hues", "wide", "high", "number"] (defScope s_floor_by) := ⟨rfl, rfl, rfl, by decide +kernel, rfl, by decide +kernel, by decide +kernel⟩
def t16 : Tab := ("floor_by", .fn den_floor_by true 4) :: t15
abbrev s_check_lively : Stmt := topS 30
abbrev n_check_lively : List Str := ["hues", "floor"]
theorem cm_check_lively : cmpDef ⟨n_check_lively, defScope s_check_lively, t16, true⟩ 60 s_check_lively = some b_check_lively := by kernel_rfl
theorem sc_check_lively : FnScope n_check_lively ["hues", "floor"] (defScope s_check_lively) := ⟨rfl, rfl, rfl, by decide +kernel, rfl, by decide +kernel, by decide +kernel⟩
def t17 : Tab := ("check_lively", .fn den_check_lively true 2) :: t16
abbrev s_number_of : Stmt := topS 31
abbrev n_number_of : List Str := ["hues", "floor", "rows", "near", "ways", "found", "free", "step", "row", "here", "at"]
theorem cm_number_of : cmpDef ⟨n_number_of, defScope s_number_of, t17, false⟩ 60 s_number_of = some b_number_of := by kernel_rfl
theorem sc_number_of : FnScope n_number_of ["hues", "floor"] (defScope s_number_of) := ⟨rfl, rfl, rfl, by decide +kernel, rfl, by decide +kernel, by decide +kernel⟩
def t18 : Tab := ("number_of", .fn den_number_of false 2) :: t17
abbrev s_next_one : Stmt := topS 32
abbrev n_next_one : List Str := ["hues", "floor", "number"]
theorem cm_next_one : cmpDef ⟨n_next_one, defScope s_next_one, t18, true⟩ 60 s_next_one = some b_next_one := by kernel_rfl
theorem sc_next_one : FnScope n_next_one ["hues", "floor"] (defScope s_next_one) := ⟨rfl, rfl, rfl, by decide +kernel, rfl, by decide +kernel, by decide +kernel⟩
def t19 : Tab := ("next_one", .fn den_next_one true 2) :: t18
abbrev s_l_number : Stmt := topS 34
abbrev n_l_number : List Str := ["_law_cell", "_law_at", "_law_whole_here", "_law_low", "_law_high", "_law_mixed"]
theorem cm_l_number : cmpDef ⟨n_l_number, defScope s_l_number, t19, true⟩ 60 s_l_number = some b_l_number := by kernel_rfl
theorem sc_l_number : FnScope n_l_number ["_law_cell", "_law_at", "_law_whole_here"] (defScope s_l_number) := ⟨rfl, rfl, rfl, by decide +kernel, rfl, by decide +kernel, by decide +kernel⟩
def t20 : Tab := ("_law_number", .fn den_l_number true 3) :: t19
abbrev s_l_kind : Stmt := topS 35
abbrev n_l_kind : List Str := ["_law_script", "_law_by", "_law_whole_here", "_law_hues"]
theorem cm_l_kind : cmpDef ⟨n_l_kind, defScope s_l_kind, t20, false⟩ 60 s_l_kind = some b_l_kind := by kernel_rfl
theorem sc_l_kind : FnScope n_l_kind ["_law_script", "_law_by"] (defScope s_l_kind) := ⟨rfl, rfl, rfl, by decide +kernel, rfl, by decide +kernel, by decide +kernel⟩
def t21 : Tab := ("_law_kind", .fn den_l_kind false 2) :: t20
abbrev s_l_whole : Stmt := topS 36
abbrev n_l_whole : List Str := ["_law_found"]
theorem cm_l_whole : cmpDef ⟨n_l_whole, defScope s_l_whole, t21, false⟩ 60 s_l_whole = some b_l_whole := by kernel_rfl
theorem sc_l_whole : FnScope n_l_whole ["_law_found"] (defScope s_l_whole) := ⟨rfl, rfl, rfl, by decide +kernel, rfl, by decide +kernel, by decide +kernel⟩
def t22 : Tab := ("_law_whole", .fn den_l_whole false 1) :: t21
abbrev s_l_two : Stmt := topS 37
abbrev n_l_two : List Str := ["_law_up", "_law_below", "_law_at"]
theorem cm_l_two : cmpDef ⟨n_l_two, defScope s_l_two, t22, false⟩ 60 s_l_two = some b_l_two := by kernel_rfl
theorem sc_l_two : FnScope n_l_two ["_law_up", "_law_below"] (defScope s_l_two) := ⟨rfl, rfl, rfl, by decide +kernel, rfl, by decide +kernel, by decide +kernel⟩
def t23 : Tab := ("_law_two", .fn den_l_two false 2) :: t22
abbrev s_l_good : Stmt := topS 38
abbrev n_l_good : List Str := ["_law_floor", "_law_at"]
theorem cm_l_good : cmpDef ⟨n_l_good, defScope s_l_good, t23, false⟩ 60 s_l_good = some b_l_good := by kernel_rfl
theorem sc_l_good : FnScope n_l_good ["_law_floor"] (defScope s_l_good) := ⟨rfl, rfl, rfl, by decide +kernel, rfl, by decide +kernel, by decide +kernel⟩
def t24 : Tab := ("_law_good", .fn den_l_good false 1) :: t23
abbrev s_l_all : Stmt := topS 39
abbrev n_l_all : List Str := ["_law_hues", "_law_wide", "_law_high", "_law_every", "_law_at", "_law_longer", "_law_floor", "_law_rows", "_law_column", "_law_more", "_law_row", "_law_sign"]
theorem cm_l_all : cmpDef ⟨n_l_all, defScope s_l_all, t24, false⟩ 60 s_l_all = some b_l_all := by kernel_rfl
theorem sc_l_all : FnScope n_l_all ["_law_hues", "_law_wide", "_law_high"] (defScope s_l_all) := ⟨rfl, rfl, rfl, by decide +kernel, rfl, by decide +kernel, by decide +kernel⟩
def t25 : Tab := ("_law_all", .fn den_l_all false 3) :: t24
abbrev s_l_one_right : Stmt := topS 40
abbrev n_l_one_right : List Str := ["_law_hues", "_law_wide", "_law_high", "_law_number_here", "_law_many", "_law_found", "_law_later", "_law_again", "_law_row", "_law_sign"]
theorem cm_l_one_right : cmpDef ⟨n_l_one_right, defScope s_l_one_right, t25, false⟩ 60 s_l_one_right = some b_l_one_right := by kernel_rfl
theorem sc_l_one_right : FnScope n_l_one_right ["_law_hues", "_law_wide", "_law_high", "_law_number_here", "_law_many"] (defScope s_l_one_right) := ⟨rfl, rfl, rfl, by decide +kernel, rfl, by decide +kernel, by decide +kernel⟩
def t26 : Tab := ("_law_one_right", .fn den_l_one_right false 5) :: t25
abbrev s_law_k02 : Stmt := topS 41
abbrev n_law_k02 : List Str := ["_law_script", "_law_whole_here", "_law_by", "_law_hues", "_law_wide", "_law_high", "_law_many", "_law_numbers", "_law_every", "_law_number_here"]
theorem cm_law_k02 : cmpDef ⟨n_law_k02, defScope s_law_k02, t26, false⟩ 60 s_law_k02 = some b_law_k02 := by kernel_rfl
theorem sc_law_k02 : FnScope n_law_k02 ["_law_script"] (defScope s_law_k02) := ⟨rfl, rfl, rfl, by decide +kernel, rfl, by decide +kernel, by decide +kernel⟩
def t27 : Tab := ("law", .fn den_law_k02 false 1) :: t26
end K02
/-! Plain lemmas about the small tongue. -/
namespace Hue
theorem compL_map {f : Env → R D} {c : Env → R Bool} {tg : Tg} {e : Env} {p : D → Bool} {g : D → D} : ∀ {items : List D}, (∀ d ∈ items, ∃ e1, bindTg tg d e = some e1 ∧ c e1 = .ok (p d) ∧ (p d = true → f e1 = .ok (g d))) → compL f c tg e items = .ok ((items.filter p).map g)
  | [], _ => rfl
  | d :: ds, h => by
    obtain ⟨e1, h1, h2, h3⟩ := h d List.mem_cons_self
    have ih := compL_map (p := p) (g := g) (items := ds) fun x hx => h x (List.mem_cons_of_mem _ hx)
    unfold compL
    rw [h1]
    simp only [h2, R.bind_ok]
    cases q : p d with
    | false =>
      rw [List.filter_cons_of_neg (by rw [q]; exact Bool.false_ne_true)]
      simp only [Bool.false_eq_true, if_false]
      exact ih
    | true =>
      rw [List.filter_cons_of_pos q]
      simp only [if_true, h3 q, R.bind_ok, ih]
      rfl
/-- a comprehension without a test -/
theorem compL_all {f : Env → R D} {c : Env → R Bool} {tg : Tg} {e : Env} {g : D → D} {items : List D} (h : ∀ d ∈ items, ∃ e1, bindTg tg d e = some e1 ∧ c e1 = .ok true ∧ f e1 = .ok (g d)) : compL f c tg e items = .ok (items.map g) := by
  have := compL_map (p := fun _ => true) (g := g) (f := f) (c := c) (tg := tg) (e := e) (items := items) fun d hd => by
    obtain ⟨e1, h1, h2, h3⟩ := h d hd
    exact ⟨e1, h1, h2, fun _ => h3⟩
  rw [this]
  congr 1
  rw [List.filter_eq_self.mpr (fun _ _ => rfl)]
theorem forL_inv {f : Env → SR} {tg : Tg} {items : List D} (P : Nat → Env → Prop) : ∀ {k : Nat} {e : Env}, P k e → (∀ i d e, k ≤ i → items[i - k]? = some d → P i e → ∃ e1 e2, bindTg tg d e = some e1 ∧ f e1 = .nx e2 ∧ P (i + 1) e2) → ∃ e', forL f tg items e = .nx e' ∧ P (k + items.length) e' := by
  induction items with
  | nil => intro k e h _; exact ⟨e, rfl, h⟩
  | cons d ds ih =>
    intro k e h step
    obtain ⟨e1, e2, h1, h2, h3⟩ := step k d e (Nat.le_refl _) (by simp) h
    obtain ⟨e', q1, q2⟩ := ih h3 fun i d' e hi hd hp => step i d' e (by omega) (by
      have : i - k = (i - (k + 1)) + 1 := by omega
      rw [this]
      simpa using hd) hp
    refine ⟨e', ?_, by rw [List.length_cons]; rw [show k + (ds.length + 1) = k + 1 + ds.length by omega]; exact q2⟩
    unfold forL
    rw [h1]
    simp only [h2]
    exact q1
theorem forL_inv0 {f : Env → SR} {tg : Tg} {items : List D} (P : Nat → Env → Prop) {e : Env} (h0 : P 0 e) (step : ∀ i d e, items[i]? = some d → P i e → ∃ e1 e2, bindTg tg d e = some e1 ∧ f e1 = .nx e2 ∧ P (i + 1) e2) : ∃ e', forL f tg items e = .nx e' ∧ P items.length e' := by
  obtain ⟨e', h1, h2⟩ := forL_inv (items := items) P (k := 0) h0 fun i d e _ hd hp => step i d e (by simpa using hd) hp
  exact ⟨e', h1, by simpa using h2⟩
theorem rangeL_at {lo : Int} {n : Nat} {c : Int} {i : Nat} {d : D} (h : (rangeL lo n c)[i]? = some d) : i < n ∧ d = .int (lo + (i : Int) * c) := by
  unfold rangeL at h
  rw [List.getElem?_map] at h
  by_cases hi : i < n
  · rw [List.getElem?_range hi] at h
    cases h
    exact ⟨hi, rfl⟩
  · rw [List.getElem?_eq_none (by simpa using hi)] at h
    cases h
theorem rangeL_length (lo : Int) (n : Nat) (c : Int) : (rangeL lo n c).length = n := by
  unfold rangeL
  rw [List.length_map, List.length_range]
theorem asInts_map : ∀ l : List Int, asInts (l.map D.int) = some l
  | [] => rfl
  | x :: r => by
    show (asInts (r.map D.int)).map (x :: ·) = some (x :: r)
    rw [asInts_map r]
    rfl
theorem mod_lt' (a : Int) {b : Int} (h : 0 < b) : 0 ≤ a % b ∧ a % b < b := ⟨Int.emod_nonneg a (by omega), Int.emod_lt_of_pos a h⟩
theorem ev_var (i : Nat) (e : Env) : ev (.var i) e = (match e[i]? with | some (some d) => .ok d | _ => .bad) := by first | (simp only [ev]; done) | (simp only [ev]; rfl)
theorem ev_lit (d : D) (e : Env) : ev (.lit d) e = .ok d := by first | (simp only [ev]; done) | (simp only [ev]; rfl)
theorem ev_bin (o : BO) (a b : Tm) (e : Env) : ev (.bin o a b) e = (ev a e).bind fun x => (ev b e).bind fun y => binF o x y := by first | (simp only [ev]; done) | (simp only [ev]; rfl)
theorem ev_cmp (o : CO) (a b : Tm) (e : Env) : ev (.cmp o a b) e = (ev a e).bind fun x => (ev b e).bind fun y => cmpF o x y := by first | (simp only [ev]; done) | (simp only [ev]; rfl)
theorem ev_chn (o p : CO) (a b c : Tm) (e : Env) : ev (.chn o p a b c) e = (ev a e).bind fun x => (ev b e).bind fun y => (cmpF o x y).bind fun z => (truth z).bind fun k => if k then (ev c e).bind fun w => cmpF p y w else .ok (.bl false) := by first | (simp only [ev]; done) | (simp only [ev]; rfl)
theorem ev_isN (a : Tm) (e : Env) : ev (.isN a) e = (ev a e).bind fun x => .ok (.bl (isNon x)) := by first | (simp only [ev]; done) | (simp only [ev]; rfl)
theorem ev_notN (a : Tm) (e : Env) : ev (.notN a) e = (ev a e).bind fun x => .ok (.bl (!isNon x)) := by first | (simp only [ev]; done) | (simp only [ev]; rfl)
theorem ev_and (a b : Tm) (e : Env) : ev (.and a b) e = (ev a e).bind fun x => (truth x).bind fun k => if k then ev b e else .ok (.bl false) := by first | (simp only [ev]; done) | (simp only [ev]; rfl)
theorem ev_or (a b : Tm) (e : Env) : ev (.or a b) e = (ev a e).bind fun x => (truth x).bind fun k => if k then .ok (.bl true) else ev b e := by first | (simp only [ev]; done) | (simp only [ev]; rfl)
theorem ev_not (a : Tm) (e : Env) : ev (.not a) e = (ev a e).bind fun x => (truth x).bind fun k => .ok (.bl (!k)) := by first | (simp only [ev]; done) | (simp only [ev]; rfl)
theorem ev_ite (c a b : Tm) (e : Env) : ev (.ite c a b) e = (ev c e).bind fun x => (truth x).bind fun k => if k then ev a e else ev b e := by first | (simp only [ev]; done) | (simp only [ev]; rfl)
theorem ev_call (den : List D → R D) (f : Bool) (as : Tms) (e : Env) : ev (.call den f as) e = (evs as e).bind fun ds => den ds := by first | (simp only [ev]; done) | (simp only [ev]; rfl)
theorem ev_prim (p : P) (as : Tms) (e : Env) : ev (.prim p as) e = (evs as e).bind fun ds => primF p ds := by first | (simp only [ev]; done) | (simp only [ev]; rfl)
theorem ev_meth (p : P) (o a : Tm) (e : Env) : ev (.meth p o a) e = (ev o e).bind fun x => if recvOk p x then (ev a e).bind fun y => primF p [x, y] else .bad := by first | (simp only [ev]; done) | (simp only [ev]; rfl)
theorem ev_idx (a i : Tm) (e : Env) : ev (.idx a i) e = (ev a e).bind fun x => (ev i e).bind fun y => idxF x y := by first | (simp only [ev]; done) | (simp only [ev]; rfl)
theorem ev_slc (a : Tm) (lo hi : OTm) (e : Env) : ev (.slc a lo hi) e = (ev a e).bind fun x => (evO lo e).bind fun l => (evO hi e).bind fun h => slcF x l h := by first | (simp only [ev]; done) | (simp only [ev]; rfl)
theorem ev_rev (a : Tm) (e : Env) : ev (.rev a) e = (ev a e).bind revF := by first | (simp only [ev]; done) | (simp only [ev]; rfl)
theorem ev_lst (as : Tms) (e : Env) : ev (.lst as) e = (evs as e).bind fun ds => if ds.length ≤ lim then .ok (.lst ds) else .bad := by first | (simp only [ev]; done) | (simp only [ev]; rfl)
theorem ev_tup (as : Tms) (e : Env) : ev (.tup as) e = (evs as e).bind fun ds => if ds.length ≤ lim then .ok (.tup ds) else .bad := by first | (simp only [ev]; done) | (simp only [ev]; rfl)
theorem ev_comp (elt : Tm) (tg : Tg) (it : ITm) (c : OTm) (own : List Nat) (e : Env) : ev (.comp elt tg it c own) e = (evI it e).bind fun items => (noExc (compL (ev elt) (evC c) tg (wipeE e own) items)).bind fun ys => .ok (.lst ys) := by first | (simp only [ev]; done) | (simp only [ev]; rfl)
theorem evs_nil (e : Env) : evs .nil e = .ok [] := by first | (simp only [evs]; done) | (simp only [evs]; rfl)
theorem evs_cons (a : Tm) (r : Tms) (e : Env) : evs (.cons a r) e = (ev a e).bind fun x => (evs r e).bind fun xs => .ok (x :: xs) := by first | (simp only [evs]; done) | (simp only [evs]; rfl)
theorem evO_none (e : Env) : evO .none e = .ok none := by first | (simp only [evO]; done) | (simp only [evO]; rfl)
theorem evO_some (a : Tm) (e : Env) : evO (.some a) e = (ev a e).bind asPart := by first | (simp only [evO]; done) | (simp only [evO]; rfl)
theorem evC_none (e : Env) : evC .none e = .ok true := by first | (simp only [evC]; done) | (simp only [evC]; rfl)
theorem evC_some (a : Tm) (e : Env) : evC (.some a) e = (ev a e).bind truth := by first | (simp only [evC]; done) | (simp only [evC]; rfl)
theorem evI_seq (a : Tm) (e : Env) : evI (.seq a) e = (ev a e).bind seqOf := by first | (simp only [evI]; done) | (simp only [evI]; rfl)
theorem evI_rng1 (a : Tm) (e : Env) : evI (.rng1 a) e = (ev a e).bind rng1F := by first | (simp only [evI]; done) | (simp only [evI]; rfl)
theorem evI_rng2 (a b : Tm) (e : Env) : evI (.rng2 a b) e = (ev a e).bind fun x => (ev b e).bind fun y => rng2F x y := by first | (simp only [evI]; done) | (simp only [evI]; rfl)
theorem evI_enm (a : Tm) (e : Env) : evI (.enm a) e = (ev a e).bind enmF := by first | (simp only [evI]; done) | (simp only [evI]; rfl)
theorem evI_zip (a b : Tm) (e : Env) : evI (.zip a b) e = (ev a e).bind fun x => (ev b e).bind fun y => zipF x y := by first | (simp only [evI]; done) | (simp only [evI]; rfl)
theorem evSs_nil (e : Env) : evSs .nil e = .nx e := by first | (simp only [evSs]; done) | (simp only [evSs]; rfl)
theorem evSs_cons (s : St) (r : Sts) (e : Env) : evSs (.cons s r) e = (evS s e).andThen (evSs r) := by first | (simp only [evSs]; done) | (simp only [evSs]; rfl)
theorem evS_asg (i : Nat) (a : Tm) (e : Env) : evS (.asg (.nm i) a) e = R.then e (ev a e) fun d => .nx (e.set i (some d)) := by first | (simp only [evS, bindTg]; done) | (simp only [evS, bindTg]; rfl)
theorem evS_asgT (is : List Nat) (a : Tm) (e : Env) : evS (.asg (.tp is) a) e = R.then e (ev a e) fun d => match bindTg (.tp is) d e with | some e1 => .nx e1 | none => .bad := by first | (simp only [evS]; done) | (simp only [evS]; rfl)
theorem evS_asgR (i : Nat) (b : Bool) (a : Tm) (e : Env) : evS (.asgR i b a) e = R.then e (ev a e) fun d => if shal b d then .nx (e.set i (some d)) else .bad := by first | (simp only [evS]; done) | (simp only [evS]; rfl)
theorem evS_par (is : List Nat) (as : Tms) (e : Env) : evS (.par is as) e = R.then e (evs as e) fun ds => match setAll is ds e with | some e1 => .nx e1 | none => .bad := by first | (simp only [evS]; done) | (simp only [evS]; rfl)
theorem evS_app (i : Nat) (a : Tm) (e : Env) : evS (.app i a) e = match lstAt e i with | some xs => R.then e (ev a e) fun d => if xs.length < lim then .nx (e.set i (some (.lst (xs ++ [d])))) else .bad | none => .bad := by first | (simp only [evS]; done) | (simp only [evS]; rfl)
theorem evS_ext (i : Nat) (a : Tm) (e : Env) : evS (.ext i a) e = match lstAt e i with | some xs => R.then e (ev a e) fun d => (match d with | .lst ys => if xs.length + ys.length ≤ lim then .nx (e.set i (some (.lst (xs ++ ys)))) else .bad | _ => .bad) | none => .bad := by first | (simp only [evS]; done) | (simp only [evS]; rfl)
theorem evS_ite (c : Tm) (a b : Sts) (e : Env) : evS (.ite c a b) e = R.then e ((ev c e).bind truth) fun k => if k then evSs a e else evSs b e := by first | (simp only [evS]; done) | (simp only [evS]; rfl)
theorem evS_for (tg : Tg) (it : ITm) (b : Sts) (e : Env) : evS (.for_ tg it b) e = R.then e (evI it e) fun ds => forL (evSs b) tg ds e := by first | (simp only [evS]; done) | (simp only [evS]; rfl)
theorem evS_ret (a : Tm) (e : Env) : evS (.ret a) e = R.then e (ev a e) fun d => .rt d := by first | (simp only [evS]; done) | (simp only [evS]; rfl)
theorem evS_raise (c : Nat) (e : Env) : evS (.raise c) e = .ex c e := by first | (simp only [evS]; done) | (simp only [evS]; rfl)
theorem evS_expr (a : Tm) (e : Env) : evS (.expr a) e = R.then e (ev a e) fun _ => .nx e := by first | (simp only [evS]; done) | (simp only [evS]; rfl)
theorem evS_pass (e : Env) : evS .pass e = .nx e := by first | (simp only [evS]; done) | (simp only [evS]; rfl)
theorem ev_neg (i : Int) (e : Env) : ev (.neg (.lit (.int i))) e = .ok (.int (-i)) := by simp only [ev, R.bind_ok]
theorem run_eq (n : Nat) (b : Sts) (args : List D) : run n b args = (match evSs b (args.map some ++ List.replicate (n - args.length) none) with | .nx _ => .ok .non | .rt d => .ok d | .ex c _ => .exc c | _ => .bad) := Eq.trans rfl rfl
theorem addI (i j : Int) : binF .add (.int i) (.int j) = .ok (.int (i + j)) := Eq.trans rfl rfl
theorem subI (i j : Int) : binF .sub (.int i) (.int j) = .ok (.int (i - j)) := Eq.trans rfl rfl
theorem mulI {i j : Int} (h : (-18446744073709551616 < i ∧ i < 18446744073709551616) ∨ (-18446744073709551616 < j ∧ j < 18446744073709551616)) : binF .mul (.int i) (.int j) = .ok (.int (i * j)) := if_pos h
theorem fdivI {i j : Int} (h : 0 < j ∧ j < 1073741824) : binF .fdiv (.int i) (.int j) = .ok (.int (i / j)) := if_pos h
theorem modI {i j : Int} (h : 0 < j) : binF .mod (.int i) (.int j) = .ok (.int (i % j)) := if_pos h
theorem addS {x y : List Nat} (h : x.length + y.length ≤ 10000000) : binF .add (.str x) (.str y) = .ok (.str (x ++ y)) := if_pos h
theorem addL {x y : List D} (h : x.length + y.length ≤ 10000000) : binF .add (.lst x) (.lst y) = .ok (.lst (x ++ y)) := if_pos h
theorem ltI (i j : Int) : cmpF .lt (.int i) (.int j) = .ok (.bl (decide (i < j))) := Eq.trans rfl rfl
theorem leI (i j : Int) : cmpF .le (.int i) (.int j) = .ok (.bl (decide (i ≤ j))) := Eq.trans rfl rfl
theorem gtI (i j : Int) : cmpF .gt (.int i) (.int j) = .ok (.bl (decide (j < i))) := Eq.trans rfl rfl
theorem geI (i j : Int) : cmpF .ge (.int i) (.int j) = .ok (.bl (decide (j ≤ i))) := Eq.trans rfl rfl
theorem eqI (i j : Int) : cmpF .eq (.int i) (.int j) = .ok (.bl (i == j)) := Eq.trans rfl rfl
theorem neI (i j : Int) : cmpF .ne (.int i) (.int j) = .ok (.bl (!(i == j))) := Eq.trans rfl rfl
theorem eqS (x y : List Nat) : cmpF .eq (.str x) (.str y) = .ok (.bl (x == y)) := Eq.trans rfl rfl
theorem neS (x y : List Nat) : cmpF .ne (.str x) (.str y) = .ok (.bl (!(x == y))) := Eq.trans rfl rfl
theorem truthB (b : Bool) : truth (.bl b) = .ok b := Eq.trans rfl rfl
theorem then_ok {α : Type} (e : Env) (a : α) (f : α → SR) : R.then e (.ok a) f = f a := Eq.trans rfl rfl
theorem nx_then (e : Env) (f : Env → SR) : SR.andThen (.nx e) f = f e := Eq.trans rfl rfl
theorem rt_then (d : D) (f : Env → SR) : SR.andThen (.rt d) f = .rt d := Eq.trans rfl rfl
theorem ex_then (n : Nat) (e : Env) (f : Env → SR) : SR.andThen (.ex n e) f = .ex n e := Eq.trans rfl rfl
theorem var_at {e : Env} {i : Nat} {d : D} (h : e[i]? = some (some d)) : ev (.var i) e = .ok d := by
  simp only [ev, h]
theorem rng1I {n : Int} (h : -1000000 ≤ n ∧ n ≤ 1000000) : rng1F (.int n) = .ok (rangeL 0 n.toNat 1) := by
  have : rngOk n = true := by
    unfold rngOk
    simp only [Bool.and_eq_true, decide_eq_true_eq]
    exact h
  simp only [rng1F, this, if_true]
theorem bindOk {α β : Type} (a : α) (f : α → R β) : (R.ok a).bind f = f a := Eq.trans rfl rfl
theorem bindExc {α β : Type} (c : Nat) (f : α → R β) : (R.exc c : R α).bind f = R.exc c := Eq.trans rfl rfl
theorem ofSome {α : Type} (a : α) : R.of (some a) = R.ok a := Eq.trans rfl rfl
theorem partI (i : Int) : asPart (.int i) = .ok (some i) := Eq.trans rfl rfl
theorem lim_if {α : Type} {n : Nat} {a b : α} (h : n ≤ 10000000) : (if n ≤ lim then a else b) = a := if_pos h
theorem lim_if2 {α : Type} {n : Nat} {a b : α} (h : n < 10000000) : (if n < lim then a else b) = a := if_pos h
theorem shal_int (b : Bool) (i : Int) : shal b (.int i) = true := Eq.trans rfl rfl
theorem shal_bl (b : Bool) (i : Bool) : shal b (.bl i) = true := Eq.trans rfl rfl
theorem shal_str (b : Bool) (i : List Nat) : shal b (.str i) = true := Eq.trans rfl rfl
theorem shal_non (b : Bool) : shal b .non = true := Eq.trans rfl rfl
theorem ite_and (c x : Bool) : (if c = true then R.ok (D.bl x) else R.ok (D.bl false)) = R.ok (D.bl (c && x)) := by cases c <;> rfl
theorem ite_or (c x : Bool) : (if c = true then R.ok (D.bl true) else R.ok (D.bl x)) = R.ok (D.bl (c || x)) := by cases c <;> rfl
theorem isI_int (i : Int) : primF .isI [.int i] = .ok (.bl true) := Eq.trans rfl rfl
theorem isB_int (i : Int) : primF .isB [.int i] = .ok (.bl false) := Eq.trans rfl rfl
theorem sumI (l : List Int) : primF .sum [.lst (l.map D.int)] = .ok (.int l.sum) := by
  simp only [primF, asInts_map, R.of_some, R.bind_ok]
theorem absI (i : Int) : primF .abs [.int i] = .ok (.int (if i < 0 then -i else i)) := Eq.trans rfl rfl
theorem lenL (l : List D) : primF .len [.lst l] = .ok (.int l.length) := Eq.trans rfl rfl
theorem lenS (l : List Nat) : primF .len [.str l] = .ok (.int l.length) := Eq.trans rfl rfl
end Hue
namespace Dn
open Hue
/-! ### the law's numbers -/
def mixF (c a w : Int) : Int := ((c % 1000003 + 977 * a) * 48271 + 31 * (c / 1000003 % 999983) + w % 65521) % 2147483647
def numF (c a w : Int) : Int := mixF c a w * (mixF c a w + 31 * a + 7) % 2147483629 * 65537 + c / 1000003 % 999983
theorem mixF_lt (c a w : Int) : 0 ≤ mixF c a w ∧ mixF c a w < 2147483647 := mod_lt' _ (by decide)
theorem number_ok (c a w : Int) : den_l_number [.int c, .int a, .int w] = .ok (.int (numF c a w)) := by
  simp (disch := omega) only [run_eq, evSs_cons, evSs_nil, evS_par, evS_asg, evS_asgT, evS_asgR, evS_app, evS_ext, evS_ite, evS_for, evS_ret, evS_raise, evS_expr, evS_pass, ev_bin, ev_var, ev_lit, ev_cmp, ev_chn, ev_isN, ev_notN, ev_and, ev_or, ev_not, ev_ite, ev_call, ev_prim, ev_meth, ev_rev, ev_idx, ev_slc, ev_lst, ev_tup, ev_comp, ev_neg, evs_cons, evs_nil, evO_none, evO_some, evC_none, evC_some, evI_seq, evI_rng1, evI_rng2, evI_enm, evI_zip, partI, then_ok, nx_then, rt_then, ex_then, addI, subI, mulI, fdivI, modI, ltI, leI, gtI, geI, eqI, truthB, ite_and, ite_or, Bool.true_and, Bool.false_and, Bool.and_true, Bool.and_false, Bool.true_or, Bool.false_or, Bool.or_true, Bool.or_false, lim_if, lim_if2, shal_int, shal_bl, shal_str, shal_non, decide_true, decide_false, setAll, bindTg, bindOk, bindExc, ofSome, List.map_cons, List.map_nil, List.length_cons, List.length_nil, List.cons_append, List.nil_append, List.append_nil, List.replicate, List.getElem?_cons_zero, List.getElem?_cons_succ, List.set_cons_zero, List.set_cons_succ, Nat.reduceAdd, Nat.reduceSub, isI_int, isB_int, if_true, if_false, Bool.false_eq_true, Bool.not_true, Bool.not_false, den_l_number, b_l_number, numF, mixF]
theorem numF_nonneg (c a w : Int) (h : 0 ≤ c / 1000003 % 999983) : 0 ≤ numF c a w := by
  have := mod_lt' (mixF c a w * (mixF c a w + 31 * a + 7)) (b := 2147483629) (by decide)
  unfold numF
  omega
/-- the sum that hues and width are made of -/
def kindW (ns : List Int) (b : Int) : Int := (if ns = [] then 5 else (ns.take 63).sum) + b
def kindH (ns : List Int) (b : Int) : Int := if numF (kindW ns b) (b + 1) 3 % 3 = 2 then 3 else 2
def wideOf (h : Int) : Int := if h = 2 then 4 else 3
def kindV (ns : List Int) (b : Int) : Int := 1 + numF (kindW ns b) (b + 2) 5 / 3 % wideOf (kindH ns b)
theorem cutL_take {α : Type} (l : List α) : cutL l none (some 63) = l.take 63 := by
  unfold cutL
  have h1 : cutIx l.length 0 none = 0 := rfl
  have h2 : cutIx l.length l.length (some 63) = min 63 l.length := rfl
  rw [h1, h2, List.drop_zero, Nat.sub_zero, List.take_eq_take_iff]
  omega
theorem scr_ne (ns : List Int) : cmpF .ne (.scr (ns.map D.int)) (.lst []) = .ok (.bl (!decide (ns = []))) := by
  have h : eqOk (.scr (ns.map D.int)) (.lst []) = true := by
    have hf : ∀ l : List Int, D.fines (l.map D.int) = true := fun l => by
      induction l with
      | nil => rfl
      | cons x r ih => exact ih
    have hd : ∀ l : List Int, D.deeps (l.map D.int) = 0 := fun l => by
      induction l with
      | nil => rfl
      | cons x r ih =>
        show max 0 (D.deeps (r.map D.int)) = 0
        rw [ih]
        rfl
    unfold eqOk
    simp only [D.flat, D.fine, hf, D.deep, hd, D.fines, D.deeps, Bool.true_and, Bool.false_and, Bool.false_or]
    decide
  show (if eqOk _ _ = true then R.ok _ else _) = _
  rw [if_pos h]
  cases ns <;> simp [D.eqv, D.eqvs]
theorem slc_scr (ns : List Int) : slcF (.scr (ns.map D.int)) none (some 63) = .ok (.lst ((ns.take 63).map D.int)) := by
  show R.ok (D.lst (cutL _ _ _)) = _
  rw [cutL_take, List.map_take]
theorem idx3 (a b c : D) (i : Int) (h : 0 ≤ i ∧ i < 3) : idxF (.tup [a, b, c]) (.int i) = .ok (if i = 0 then a else if i = 1 then b else c) := by
  have : i = 0 ∨ i = 1 ∨ i = 2 := by omega
  rcases this with rfl | rfl | rfl <;> rfl
theorem wide_if (h : Int) : (if (h == 2) = true then R.ok (D.int 4) else R.ok (D.int 3)) = R.ok (D.int (wideOf h)) := by
  unfold wideOf
  by_cases e : h = 2
  · subst e; rfl
  · rw [if_neg e, if_neg (by simpa using e)]
theorem kind_ok (ns : List Int) (b : Int) : den_l_kind [.scr (ns.map D.int), .int b] = .ok (.tup [.int (kindH ns b), .int (kindV ns b)]) := by
  have hk := mod_lt' (numF (kindW ns b) (b + 1) 3) (b := 3) (by decide)
  have fin : ∀ x : Int, x = numF (kindW ns b) (b + 1) 3 % 3 → (if x = 0 then D.int 2 else if x = 1 then D.int 2 else D.int 3) = .int (kindH ns b) := fun x hx => by
    unfold kindH
    rw [← hx]
    by_cases h2 : x = 2
    · rw [h2]; rfl
    · rw [if_neg h2]
      by_cases h0 : x = 0
      · rw [if_pos h0]
      · rw [if_neg h0, if_pos (by omega)]
  have hw : 0 < wideOf (kindH ns b) := by
    unfold wideOf
    split <;> decide
  by_cases hn : ns = []
  · have e : kindW ns b = 5 + b := by unfold kindW; rw [if_pos hn]
    rw [e] at hk fin
    subst hn
    have g := scr_ne []
    simp only [decide_true, List.map_nil] at g
    simp (disch := first | omega | exact hw) only [run_eq, evSs_cons, evSs_nil, evS_par, evS_asg, evS_asgT, evS_asgR, evS_app, evS_ext, evS_ite, evS_for, evS_ret, evS_raise, evS_expr, evS_pass, ev_bin, ev_var, ev_lit, ev_cmp, ev_chn, ev_isN, ev_notN, ev_and, ev_or, ev_not, ev_ite, ev_call, ev_prim, ev_meth, ev_rev, ev_idx, ev_slc, ev_lst, ev_tup, ev_comp, ev_neg, evs_cons, evs_nil, evO_none, evO_some, evC_none, evC_some, evI_seq, evI_rng1, evI_rng2, evI_enm, evI_zip, partI, then_ok, nx_then, rt_then, ex_then, addI, subI, mulI, fdivI, modI, ltI, leI, gtI, geI, eqI, truthB, ite_and, ite_or, Bool.true_and, Bool.false_and, Bool.and_true, Bool.and_false, Bool.true_or, Bool.false_or, Bool.or_true, Bool.or_false, lim_if, lim_if2, shal_int, shal_bl, shal_str, shal_non, decide_true, decide_false, setAll, bindTg, bindOk, bindExc, ofSome, List.map_cons, List.map_nil, List.length_cons, List.length_nil, List.cons_append, List.nil_append, List.append_nil, List.replicate, List.getElem?_cons_zero, List.getElem?_cons_succ, List.set_cons_zero, List.set_cons_succ, Nat.reduceAdd, Nat.reduceSub, isI_int, isB_int, if_true, if_false, Bool.false_eq_true, Bool.not_true, Bool.not_false, den_l_kind, b_l_kind, g, number_ok, idx3, fin _ rfl, wide_if, kindV, e]
  · have e : kindW ns b = (ns.take 63).sum + b := by unfold kindW; rw [if_neg hn]
    rw [e] at hk fin
    simp (disch := first | omega | exact hw) only [run_eq, evSs_cons, evSs_nil, evS_par, evS_asg, evS_asgT, evS_asgR, evS_app, evS_ext, evS_ite, evS_for, evS_ret, evS_raise, evS_expr, evS_pass, ev_bin, ev_var, ev_lit, ev_cmp, ev_chn, ev_isN, ev_notN, ev_and, ev_or, ev_not, ev_ite, ev_call, ev_prim, ev_meth, ev_rev, ev_idx, ev_slc, ev_lst, ev_tup, ev_comp, ev_neg, evs_cons, evs_nil, evO_none, evO_some, evC_none, evC_some, evI_seq, evI_rng1, evI_rng2, evI_enm, evI_zip, partI, then_ok, nx_then, rt_then, ex_then, addI, subI, mulI, fdivI, modI, ltI, leI, gtI, geI, eqI, truthB, ite_and, ite_or, Bool.true_and, Bool.false_and, Bool.and_true, Bool.and_false, Bool.true_or, Bool.false_or, Bool.or_true, Bool.or_false, lim_if, lim_if2, shal_int, shal_bl, shal_str, shal_non, decide_true, decide_false, setAll, bindTg, bindOk, bindExc, ofSome, List.map_cons, List.map_nil, List.length_cons, List.length_nil, List.cons_append, List.nil_append, List.append_nil, List.replicate, List.getElem?_cons_zero, List.getElem?_cons_succ, List.set_cons_zero, List.set_cons_succ, Nat.reduceAdd, Nat.reduceSub, isI_int, isB_int, if_true, if_false, Bool.false_eq_true, Bool.not_true, Bool.not_false, den_l_kind, b_l_kind, scr_ne, hn, number_ok, idx3, slc_scr, sumI, fin _ rfl, wide_if, kindV, e]
theorem kindH_or (ns : List Int) (b : Int) : kindH ns b = 2 ∨ kindH ns b = 3 := by
  unfold kindH
  split
  · exact .inr rfl
  · exact .inl rfl
theorem kindV_le (ns : List Int) (b : Int) : 1 ≤ kindV ns b ∧ kindV ns b ≤ wideOf (kindH ns b) := by
  have hw : 0 < wideOf (kindH ns b) := by
    unfold wideOf
    split <;> decide
  have := mod_lt' (numF (kindW ns b) (b + 2) 5 / 3) hw
  unfold kindV
  omega
end Dn
namespace Dn
open Hue
/-! ### loops -/
/-- a loop that may end within -/
theorem forL_cases {f : Env → SR} {tg : Tg} {items : List D} (P : Nat → Env → Prop) (Qr : SR → Prop) : ∀ {k : Nat} {e : Env}, P k e →
    (∀ i d e, k ≤ i → items[i - k]? = some d → P i e → ∃ e1, bindTg tg d e = some e1 ∧ ((∃ e2, f e1 = .nx e2 ∧ P (i + 1) e2) ∨ ((∀ e2, f e1 ≠ .nx e2) ∧ Qr (f e1)))) →
    (∃ e', forL f tg items e = .nx e' ∧ P (k + items.length) e') ∨ ((∀ e2, forL f tg items e ≠ .nx e2) ∧ Qr (forL f tg items e)) := by
  induction items with
  | nil => intro k e h _; exact .inl ⟨e, rfl, h⟩
  | cons d ds ih =>
    intro k e h step
    obtain ⟨e1, h1, h2⟩ := step k d e (Nat.le_refl _) (by simp) h
    have hf : forL f tg (d :: ds) e = (match f e1 with | .nx e2 => forL f tg ds e2 | r => r) := by
      rw [forL, h1] <;> rfl
    rcases h2 with ⟨e2, h2, h3⟩ | ⟨h2, h3⟩
    · rw [hf, h2]
      have := ih h3 fun i d' e hi hd hp => step i d' e (by omega) (by
        have : i - k = (i - (k + 1)) + 1 := by omega
        rw [this]
        simpa using hd) hp
      rw [List.length_cons, show k + (ds.length + 1) = k + 1 + ds.length by omega]
      exact this
    · right
      have hr : forL f tg (d :: ds) e = f e1 := by
        rw [hf]
        cases hq : f e1 with
        | nx e2 => exact absurd hq (h2 e2)
        | _ => rfl
      rw [hr]
      exact ⟨h2, h3⟩
theorem forL_cases0 {f : Env → SR} {tg : Tg} {items : List D} (P : Nat → Env → Prop) (Qr : SR → Prop) {e : Env} (h0 : P 0 e)
    (step : ∀ i d e, items[i]? = some d → P i e → ∃ e1, bindTg tg d e = some e1 ∧ ((∃ e2, f e1 = .nx e2 ∧ P (i + 1) e2) ∨ ((∀ e2, f e1 ≠ .nx e2) ∧ Qr (f e1)))) :
    (∃ e', forL f tg items e = .nx e' ∧ P items.length e') ∨ ((∀ e2, forL f tg items e ≠ .nx e2) ∧ Qr (forL f tg items e)) := by
  have := forL_cases (items := items) (f := f) (tg := tg) P Qr (k := 0) h0 fun i d e _ hd hp => step i d e (by simpa using hd) hp
  simpa using this
/-! ### rows that go together -/
def gtAt (a b : List Nat) (i : Nat) : Bool := a[i]? == a[i + 1]? && b[i]? == b[i + 1]? && a[i]? == b[i]?
def gt (a b : List Nat) : Bool := !((List.range (a.length - 1)).any (gtAt a b))
theorem atL_nat {α : Type} {l : List α} {i : Nat} (h : i < l.length) : atL l (i : Int) = some l[i] := by
  unfold atL ixN
  rw [if_pos (by omega), if_pos (by omega)]
  simp [h]
theorem idxS {l : List Nat} {i : Nat} {j : Int} (hj : j = i) (h : i < l.length) : idxF (.str l) (.int j) = .ok (.str [l[i]]) := by
  subst hj
  show (match atL l (i : Int) with | some c => R.ok (D.str [c]) | none => R.bad) = _
  rw [atL_nat h]
theorem idxL {l : List D} {i : Nat} {j : Int} (hj : j = i) (h : i < l.length) : idxF (.lst l) (.int j) = .ok l[i] := by
  subst hj
  show R.of (atL l (i : Int)) = _
  rw [atL_nat h]
  rfl
theorem idxT {l : List D} {i : Nat} {j : Int} (hj : j = i) (h : i < l.length) : idxF (.tup l) (.int j) = .ok l[i] := by
  subst hj
  show R.of (atL l (i : Int)) = _
  rw [atL_nat h]
  rfl
theorem idx_last {l : List D} (h : l ≠ []) : idxF (.lst l) (.int (-1)) = .ok (l.getLast h) := by
  have hl : 0 < l.length := List.length_pos_iff.mpr h
  show R.of (atL l (-1)) = _
  have : atL l (-1) = some (l.getLast h) := by
    unfold atL ixN
    rw [if_neg (by decide), if_pos (by omega)]
    have : (-1 + (l.length : Int)).toNat = l.length - 1 := by omega
    rw [this]
    show l[l.length - 1]? = _
    rw [← List.getLast?_eq_getElem?, List.getLast?_eq_some_getLast h]
  rw [this]
  rfl
theorem one_beq (x y : Nat) : ([x] == [y]) = (x == y) := by
  by_cases h : x = y <;> simp [h]
theorem some_beq (x y : Nat) : (some x == some y) = (x == y) := rfl
theorem gt_ok {a b : List Nat} (h : a.length ≤ b.length) (hl : a.length ≤ 1000) : den_go_together [.str a, .str b] = .ok (.bl (gt a b)) := by
  have key := forL_cases0 (f := evSs b_go_together_1)
    (tg := .nm 2) (items := rangeL 0 ((a.length : Int) - 1).toNat 1) (fun i e => (∃ x, e = [some (.str a), some (.str b), x]) ∧ ∀ j, j < i → gtAt a b j = false) (fun r => r = .rt (.bl false) ∧ gt a b = false)
    (e := [some (.str a), some (.str b), none]) ⟨⟨none, rfl⟩, fun j hj => by omega⟩ fun i d e hd hp => by
      obtain ⟨hi, rfl⟩ := rangeL_at hd
      obtain ⟨⟨x, rfl⟩, hp⟩ := hp
      have i1 : i < a.length := by omega
      have i2 : i + 1 < a.length := by omega
      have i3 : i < b.length := by omega
      have i4 : i + 1 < b.length := by omega
      have hg : gtAt a b i = (a[i] == a[i + 1] && (b[i] == b[i + 1] && a[i] == b[i])) := by
        unfold gtAt
        simp only [List.getElem?_eq_getElem i1, List.getElem?_eq_getElem i2, List.getElem?_eq_getElem i3, List.getElem?_eq_getElem i4, some_beq, Bool.and_assoc]
      refine ⟨_, rfl, ?_⟩
      simp (disch := omega) only [run_eq, evSs_cons, evSs_nil, evS_par, evS_asg, evS_asgT, evS_asgR, evS_app, evS_ext, evS_ite, evS_for, evS_ret, evS_raise, evS_expr, evS_pass, ev_bin, ev_var, ev_lit, ev_cmp, ev_chn, ev_isN, ev_notN, ev_and, ev_or, ev_not, ev_ite, ev_call, ev_prim, ev_meth, ev_rev, ev_idx, ev_slc, ev_lst, ev_tup, ev_comp, ev_neg, evs_cons, evs_nil, evO_none, evO_some, evC_none, evC_some, evI_seq, evI_rng1, evI_rng2, evI_enm, evI_zip, partI, then_ok, nx_then, rt_then, ex_then, addI, subI, mulI, fdivI, modI, ltI, leI, gtI, geI, eqI, truthB, ite_and, ite_or, Bool.true_and, Bool.false_and, Bool.and_true, Bool.and_false, Bool.true_or, Bool.false_or, Bool.or_true, Bool.or_false, lim_if, lim_if2, shal_int, shal_bl, shal_str, shal_non, decide_true, decide_false, setAll, bindTg, bindOk, bindExc, ofSome, List.map_cons, List.map_nil, List.length_cons, List.length_nil, List.cons_append, List.nil_append, List.append_nil, List.replicate, List.getElem?_cons_zero, List.getElem?_cons_succ, List.set_cons_zero, List.set_cons_succ, Nat.reduceAdd, Nat.reduceSub, isI_int, isB_int, if_true, if_false, Bool.false_eq_true, Bool.not_true, Bool.not_false, b_go_together_1, idxS (i := i), idxS (i := i + 1), eqS, one_beq, ← hg]
      cases hc : gtAt a b i with
      | false =>
        left
        refine ⟨_, rfl, ⟨_, rfl⟩, fun j hj => ?_⟩
        by_cases e : j = i
        · rw [e]; exact hc
        · exact hp j (by omega)
      | true =>
        right
        refine ⟨fun e2 h => (by cases h), rfl, ?_⟩
        unfold gt
        rw [Bool.not_eq_false', List.any_eq_true]
        exact ⟨i, List.mem_range.mpr (by omega), hc⟩
  simp (disch := omega) only [run_eq, evSs_cons, evSs_nil, evS_par, evS_asg, evS_asgT, evS_asgR, evS_app, evS_ext, evS_ite, evS_for, evS_ret, evS_raise, evS_expr, evS_pass, ev_bin, ev_var, ev_lit, ev_cmp, ev_chn, ev_isN, ev_notN, ev_and, ev_or, ev_not, ev_ite, ev_call, ev_prim, ev_meth, ev_rev, ev_idx, ev_slc, ev_lst, ev_tup, ev_comp, ev_neg, evs_cons, evs_nil, evO_none, evO_some, evC_none, evC_some, evI_seq, evI_rng1, evI_rng2, evI_enm, evI_zip, partI, then_ok, nx_then, rt_then, ex_then, addI, subI, mulI, fdivI, modI, ltI, leI, gtI, geI, eqI, truthB, ite_and, ite_or, Bool.true_and, Bool.false_and, Bool.and_true, Bool.and_false, Bool.true_or, Bool.false_or, Bool.or_true, Bool.or_false, lim_if, lim_if2, shal_int, shal_bl, shal_str, shal_non, decide_true, decide_false, setAll, bindTg, bindOk, bindExc, ofSome, List.map_cons, List.map_nil, List.length_cons, List.length_nil, List.cons_append, List.nil_append, List.append_nil, List.replicate, List.getElem?_cons_zero, List.getElem?_cons_succ, List.set_cons_zero, List.set_cons_succ, Nat.reduceAdd, Nat.reduceSub, isI_int, isB_int, if_true, if_false, Bool.false_eq_true, Bool.not_true, Bool.not_false, den_go_together, b_go_together, lenS, rng1I]
  rcases key with ⟨e', k1, ⟨x, rfl⟩, k2⟩ | ⟨k0, k1, k2⟩
  · rw [k1]
    have : gt a b = true := by
      unfold gt
      rw [Bool.not_eq_true', List.any_eq_false]
      intro i hi
      rw [k2 i (by rw [rangeL_length]; have := List.mem_range.mp hi; omega)]
      exact Bool.false_ne_true
    rw [this]
    simp only [run_eq, evSs_cons, evSs_nil, evS_par, evS_asg, evS_asgT, evS_asgR, evS_app, evS_ext, evS_ite, evS_for, evS_ret, evS_raise, evS_expr, evS_pass, ev_bin, ev_var, ev_lit, ev_cmp, ev_chn, ev_isN, ev_notN, ev_and, ev_or, ev_not, ev_ite, ev_call, ev_prim, ev_meth, ev_rev, ev_idx, ev_slc, ev_lst, ev_tup, ev_comp, ev_neg, evs_cons, evs_nil, evO_none, evO_some, evC_none, evC_some, evI_seq, evI_rng1, evI_rng2, evI_enm, evI_zip, partI, then_ok, nx_then, rt_then, ex_then, addI, subI, mulI, fdivI, modI, ltI, leI, gtI, geI, eqI, truthB, ite_and, ite_or, Bool.true_and, Bool.false_and, Bool.and_true, Bool.and_false, Bool.true_or, Bool.false_or, Bool.or_true, Bool.or_false, lim_if, lim_if2, shal_int, shal_bl, shal_str, shal_non, decide_true, decide_false, setAll, bindTg, bindOk, bindExc, ofSome, List.map_cons, List.map_nil, List.length_cons, List.length_nil, List.cons_append, List.nil_append, List.append_nil, List.replicate, List.getElem?_cons_zero, List.getElem?_cons_succ, List.set_cons_zero, List.set_cons_succ, Nat.reduceAdd, Nat.reduceSub, isI_int, isB_int, if_true, if_false, Bool.false_eq_true, Bool.not_true, Bool.not_false]
  · rw [k1, k2]
    rfl
/-! ### comprehensions -/
theorem compT {α : Type} {f : Env → R D} {c : Env → R Bool} {tg : Tg} {e : Env} {φ : α → D} {p : α → Bool} {g : α → D} {xs : List α} (h : ∀ x ∈ xs, ∃ e1, bindTg tg (φ x) e = some e1 ∧ c e1 = .ok (p x) ∧ (p x = true → f e1 = .ok (g x))) : compL f c tg e (xs.map φ) = .ok ((xs.filter p).map g) := by
  induction xs with
  | nil => rfl
  | cons x r ih =>
    obtain ⟨e1, h1, h2, h3⟩ := h x List.mem_cons_self
    have ih := ih fun y hy => h y (List.mem_cons_of_mem _ hy)
    rw [List.map_cons, compL, h1]
    simp only [h2, R.bind_ok]
    cases q : p x with
    | false =>
      rw [List.filter_cons_of_neg (by rw [q]; exact Bool.false_ne_true)]
      simp only [Bool.false_eq_true, if_false]
      exact ih
    | true =>
      rw [List.filter_cons_of_pos q]
      simp only [if_true, h3 q, R.bind_ok, ih]
      rfl
theorem compA {α : Type} {f : Env → R D} {c : Env → R Bool} {tg : Tg} {e : Env} {φ : α → D} {g : α → D} {xs : List α} (h : ∀ x ∈ xs, ∃ e1, bindTg tg (φ x) e = some e1 ∧ c e1 = .ok true ∧ f e1 = .ok (g x)) : compL f c tg e (xs.map φ) = .ok (xs.map g) := by
  have := compT (p := fun _ => true) (g := g) (f := f) (c := c) (tg := tg) (e := e) (φ := φ) (xs := xs) fun d hd => by
    obtain ⟨e1, h1, h2, h3⟩ := h d hd
    exact ⟨e1, h1, h2, fun _ => h3⟩
  rw [this, List.filter_eq_self.mpr (fun _ _ => rfl)]
theorem noExc_ok {α : Type} (a : α) : noExc (R.ok a) = R.ok a := rfl
theorem enmL_map {α : Type} (φ : α → D) : ∀ (xs : List α) (k : Nat), enmL k (xs.map φ) = (xs.zipIdx k).map fun p => .tup [.int (p.2 : Int), φ p.1]
  | [], _ => rfl
  | x :: r, k => by
    rw [List.map_cons, enmL, enmL_map φ r (k + 1)]
    rfl
/-! ### rows -/
def signs (h : Nat) : List Nat := [48, 49, 50].take h
def rowsL (h : Nat) : Nat → List (List Nat)
  | 0 => [[]]
  | w + 1 => (rowsL h w).flatMap fun r => (signs h).map fun c => r ++ [c]
def dRows (rs : List (List Nat)) : D := .lst (rs.map .str)
def Kd (h w : Nat) : Prop := (h = 2 ∧ 1 ≤ w ∧ w ≤ 4) ∨ (h = 3 ∧ 1 ≤ w ∧ w ≤ 3)
theorem Kd.cases {P : Nat → Nat → Prop} {h w : Nat} (k : Kd h w) (a : P 2 1) (b : P 2 2) (c : P 2 3) (d : P 2 4) (e : P 3 1) (f : P 3 2) (g : P 3 3) : P h w := by
  rcases k with ⟨rfl, h1, h2⟩ | ⟨rfl, h1, h2⟩
  · have : w = 1 ∨ w = 2 ∨ w = 3 ∨ w = 4 := by omega
    rcases this with rfl | rfl | rfl | rfl <;> assumption
  · have : w = 1 ∨ w = 2 ∨ w = 3 := by omega
    rcases this with rfl | rfl | rfl <;> assumption
theorem rows_ok {h w : Nat} (k : Kd h w) : den_rows_of [.int h, .int w] = .ok (dRows (rowsL h w)) := by
  refine k.cases (P := fun h w => den_rows_of [.int h, .int w] = .ok (dRows (rowsL h w))) ?_ ?_ ?_ ?_ ?_ ?_ ?_ <;> kernel_rfl
theorem l_rows_ok {h w : Nat} (k : Kd h w) : den_l_rows [.int h, .int w] = .ok (dRows (rowsL h w)) := by
  refine k.cases (P := fun h w => den_l_rows [.int h, .int w] = .ok (dRows (rowsL h w))) ?_ ?_ ?_ ?_ ?_ ?_ ?_ <;> kernel_rfl
theorem rowsL_width {h : Nat} : ∀ {w : Nat} {r : List Nat}, r ∈ rowsL h w → r.length = w
  | 0, r, hr => by
    cases List.mem_singleton.mp hr
    rfl
  | w + 1, r, hr => by
    obtain ⟨q, hq, hr⟩ := List.mem_flatMap.mp hr
    obtain ⟨c, _, rfl⟩ := List.mem_map.mp hr
    rw [List.length_append, rowsL_width hq]
    rfl
/-! ### near, ways -/
def nearL (rs : List (List Nat)) : List (List Nat) := rs.map fun r => ((rs.zipIdx).filter fun p => gt r p.1).map (·.2)
def dInts (l : List Int) : D := .lst (l.map .int)
def dNats (l : List Nat) : D := .lst (l.map fun (i : Nat) => D.int (i : Int))
def dNear (n : List (List Nat)) : D := .lst (n.map dNats)
theorem near_ok {rs : List (List Nat)} {w : Nat} (hw : ∀ r ∈ rs, r.length = w) (hl : w ≤ 1000) : den_near_of [dRows rs] = .ok (dNear (nearL rs)) := by
  have inner : ∀ r ∈ rs, ev b_near_of_2 [some (dRows rs), some (.str r), none, none] = .ok (dNats (((rs.zipIdx).filter fun p => gt r p.1).map (·.2))) := fun r hr => by
    simp only [run_eq, evSs_cons, evSs_nil, evS_par, evS_asg, evS_asgT, evS_asgR, evS_app, evS_ext, evS_ite, evS_for, evS_ret, evS_raise, evS_expr, evS_pass, ev_bin, ev_var, ev_lit, ev_cmp, ev_chn, ev_isN, ev_notN, ev_and, ev_or, ev_not, ev_ite, ev_call, ev_prim, ev_meth, ev_rev, ev_idx, ev_slc, ev_lst, ev_tup, ev_comp, ev_neg, evs_cons, evs_nil, evO_none, evO_some, evC_none, evC_some, evI_seq, evI_rng1, evI_rng2, evI_enm, evI_zip, partI, then_ok, nx_then, rt_then, ex_then, addI, subI, mulI, fdivI, modI, ltI, leI, gtI, geI, eqI, truthB, ite_and, ite_or, Bool.true_and, Bool.false_and, Bool.and_true, Bool.and_false, Bool.true_or, Bool.false_or, Bool.or_true, Bool.or_false, lim_if, lim_if2, shal_int, shal_bl, shal_str, shal_non, decide_true, decide_false, setAll, bindTg, bindOk, bindExc, ofSome, List.map_cons, List.map_nil, List.length_cons, List.length_nil, List.cons_append, List.nil_append, List.append_nil, List.replicate, List.getElem?_cons_zero, List.getElem?_cons_succ, List.set_cons_zero, List.set_cons_succ, Nat.reduceAdd, Nat.reduceSub, isI_int, isB_int, if_true, if_false, Bool.false_eq_true, Bool.not_true, Bool.not_false, b_near_of_2, dRows, enmF, wipeE, enmL_map]
    rw [compT (p := fun p => gt r p.1) (g := fun p => .int (p.2 : Int)) fun x hx => ?_]
    · simp only [noExc_ok, R.bind_ok, dNats, List.map_map, Function.comp_def]
    · refine ⟨_, rfl, ?_, fun _ => ?_⟩
      · have hx' : x.1 ∈ rs := by
          obtain ⟨h1, h2, h3⟩ := List.mem_zipIdx hx
          rw [h3]
          exact List.getElem_mem ..
        simp only [run_eq, evSs_cons, evSs_nil, evS_par, evS_asg, evS_asgT, evS_asgR, evS_app, evS_ext, evS_ite, evS_for, evS_ret, evS_raise, evS_expr, evS_pass, ev_bin, ev_var, ev_lit, ev_cmp, ev_chn, ev_isN, ev_notN, ev_and, ev_or, ev_not, ev_ite, ev_call, ev_prim, ev_meth, ev_rev, ev_idx, ev_slc, ev_lst, ev_tup, ev_comp, ev_neg, evs_cons, evs_nil, evO_none, evO_some, evC_none, evC_some, evI_seq, evI_rng1, evI_rng2, evI_enm, evI_zip, partI, then_ok, nx_then, rt_then, ex_then, addI, subI, mulI, fdivI, modI, ltI, leI, gtI, geI, eqI, truthB, ite_and, ite_or, Bool.true_and, Bool.false_and, Bool.and_true, Bool.and_false, Bool.true_or, Bool.false_or, Bool.or_true, Bool.or_false, lim_if, lim_if2, shal_int, shal_bl, shal_str, shal_non, decide_true, decide_false, setAll, bindTg, bindOk, bindExc, ofSome, List.map_cons, List.map_nil, List.length_cons, List.length_nil, List.cons_append, List.nil_append, List.append_nil, List.replicate, List.getElem?_cons_zero, List.getElem?_cons_succ, List.set_cons_zero, List.set_cons_succ, Nat.reduceAdd, Nat.reduceSub, isI_int, isB_int, if_true, if_false, Bool.false_eq_true, Bool.not_true, Bool.not_false, b_near_of_1]
        rw [gt_ok (by rw [hw r hr, hw x.1 hx']; exact Nat.le_refl _) (by rw [hw r hr]; exact hl)]
        rfl
      · simp only [run_eq, evSs_cons, evSs_nil, evS_par, evS_asg, evS_asgT, evS_asgR, evS_app, evS_ext, evS_ite, evS_for, evS_ret, evS_raise, evS_expr, evS_pass, ev_bin, ev_var, ev_lit, ev_cmp, ev_chn, ev_isN, ev_notN, ev_and, ev_or, ev_not, ev_ite, ev_call, ev_prim, ev_meth, ev_rev, ev_idx, ev_slc, ev_lst, ev_tup, ev_comp, ev_neg, evs_cons, evs_nil, evO_none, evO_some, evC_none, evC_some, evI_seq, evI_rng1, evI_rng2, evI_enm, evI_zip, partI, then_ok, nx_then, rt_then, ex_then, addI, subI, mulI, fdivI, modI, ltI, leI, gtI, geI, eqI, truthB, ite_and, ite_or, Bool.true_and, Bool.false_and, Bool.and_true, Bool.and_false, Bool.true_or, Bool.false_or, Bool.or_true, Bool.or_false, lim_if, lim_if2, shal_int, shal_bl, shal_str, shal_non, decide_true, decide_false, setAll, bindTg, bindOk, bindExc, ofSome, List.map_cons, List.map_nil, List.length_cons, List.length_nil, List.cons_append, List.nil_append, List.append_nil, List.replicate, List.getElem?_cons_zero, List.getElem?_cons_succ, List.set_cons_zero, List.set_cons_succ, Nat.reduceAdd, Nat.reduceSub, isI_int, isB_int, if_true, if_false, Bool.false_eq_true, Bool.not_true, Bool.not_false]
  simp only [run_eq, evSs_cons, evSs_nil, evS_par, evS_asg, evS_asgT, evS_asgR, evS_app, evS_ext, evS_ite, evS_for, evS_ret, evS_raise, evS_expr, evS_pass, ev_bin, ev_var, ev_lit, ev_cmp, ev_chn, ev_isN, ev_notN, ev_and, ev_or, ev_not, ev_ite, ev_call, ev_prim, ev_meth, ev_rev, ev_idx, ev_slc, ev_lst, ev_tup, ev_comp, ev_neg, evs_cons, evs_nil, evO_none, evO_some, evC_none, evC_some, evI_seq, evI_rng1, evI_rng2, evI_enm, evI_zip, partI, then_ok, nx_then, rt_then, ex_then, addI, subI, mulI, fdivI, modI, ltI, leI, gtI, geI, eqI, truthB, ite_and, ite_or, Bool.true_and, Bool.false_and, Bool.and_true, Bool.and_false, Bool.true_or, Bool.false_or, Bool.or_true, Bool.or_false, lim_if, lim_if2, shal_int, shal_bl, shal_str, shal_non, decide_true, decide_false, setAll, bindTg, bindOk, bindExc, ofSome, List.map_cons, List.map_nil, List.length_cons, List.length_nil, List.cons_append, List.nil_append, List.append_nil, List.replicate, List.getElem?_cons_zero, List.getElem?_cons_succ, List.set_cons_zero, List.set_cons_succ, Nat.reduceAdd, Nat.reduceSub, isI_int, isB_int, if_true, if_false, Bool.false_eq_true, Bool.not_true, Bool.not_false, den_near_of, b_near_of, dRows, seqOf, wipeE]
  rw [compA (g := fun r => dNats (((rs.zipIdx).filter fun p => gt r p.1).map (·.2))) fun r hr => ⟨_, rfl, rfl, inner r hr⟩]
  simp only [run_eq, evSs_cons, evSs_nil, evS_par, evS_asg, evS_asgT, evS_asgR, evS_app, evS_ext, evS_ite, evS_for, evS_ret, evS_raise, evS_expr, evS_pass, ev_bin, ev_var, ev_lit, ev_cmp, ev_chn, ev_isN, ev_notN, ev_and, ev_or, ev_not, ev_ite, ev_call, ev_prim, ev_meth, ev_rev, ev_idx, ev_slc, ev_lst, ev_tup, ev_comp, ev_neg, evs_cons, evs_nil, evO_none, evO_some, evC_none, evC_some, evI_seq, evI_rng1, evI_rng2, evI_enm, evI_zip, partI, then_ok, nx_then, rt_then, ex_then, addI, subI, mulI, fdivI, modI, ltI, leI, gtI, geI, eqI, truthB, ite_and, ite_or, Bool.true_and, Bool.false_and, Bool.and_true, Bool.and_false, Bool.true_or, Bool.false_or, Bool.or_true, Bool.or_false, lim_if, lim_if2, shal_int, shal_bl, shal_str, shal_non, decide_true, decide_false, setAll, bindTg, bindOk, bindExc, ofSome, List.map_cons, List.map_nil, List.length_cons, List.length_nil, List.cons_append, List.nil_append, List.append_nil, List.replicate, List.getElem?_cons_zero, List.getElem?_cons_succ, List.set_cons_zero, List.set_cons_succ, Nat.reduceAdd, Nat.reduceSub, isI_int, isB_int, if_true, if_false, Bool.false_eq_true, Bool.not_true, Bool.not_false, noExc_ok, dNear, nearL, List.map_map, Function.comp_def]
def stepW (near : List (List Nat)) (v : List Int) : List Int := near.map fun s => (s.map fun i => v.getD i 0).sum
def iterW (near : List (List Nat)) : Nat → List Int
  | 0 => near.map fun _ => 1
  | n + 1 => stepW near (iterW near n)
theorem iterW_length (near : List (List Nat)) : ∀ n, (iterW near n).length = near.length
  | 0 => by rw [iterW, List.length_map]
  | n + 1 => by rw [iterW, stepW, List.length_map]
def NearOk (near : List (List Nat)) : Prop := ∀ s ∈ near, ∀ i ∈ s, i < near.length
theorem nearL_ok (rs : List (List Nat)) : NearOk (nearL rs) := fun s hs i hi => by
  unfold nearL at hs ⊢
  obtain ⟨r, _, rfl⟩ := List.mem_map.mp hs
  obtain ⟨p, hp, rfl⟩ := List.mem_map.mp hi
  obtain ⟨h1, h2, h3⟩ := List.mem_zipIdx (List.mem_filter.mp hp).1
  rw [List.length_map]
  omega
theorem getD_int {l : List Int} {i : Nat} (h : i < l.length) : (l.map D.int)[i]'(by rw [List.length_map]; exact h) = .int (l.getD i 0) := by
  rw [List.getElem_map, List.getD_eq_getElem?_getD, List.getElem?_eq_getElem h]
  rfl
theorem ways_ok {near : List (List Nat)} (hn : NearOk near) (n : Nat) (hl : n ≤ 1000) : den_ways_of [dNear near, .int ((n + 1 : Nat) : Int)] = .ok (.lst ((List.range (n + 1)).map fun i => dInts (iterW near i))) := by
  have first : ev (.comp b_ways_of_1 (.nm 4) (.seq (.var 0)) .none [4]) [some (dNear near), some (.int ((n + 1 : Nat) : Int)), none, none, none, none] = .ok (dInts (iterW near 0)) := by
    simp only [run_eq, evSs_cons, evSs_nil, evS_par, evS_asg, evS_asgT, evS_asgR, evS_app, evS_ext, evS_ite, evS_for, evS_ret, evS_raise, evS_expr, evS_pass, ev_bin, ev_var, ev_lit, ev_cmp, ev_chn, ev_isN, ev_notN, ev_and, ev_or, ev_not, ev_ite, ev_call, ev_prim, ev_meth, ev_rev, ev_idx, ev_slc, ev_lst, ev_tup, ev_comp, ev_neg, evs_cons, evs_nil, evO_none, evO_some, evC_none, evC_some, evI_seq, evI_rng1, evI_rng2, evI_enm, evI_zip, partI, then_ok, nx_then, rt_then, ex_then, addI, subI, mulI, fdivI, modI, ltI, leI, gtI, geI, eqI, truthB, ite_and, ite_or, Bool.true_and, Bool.false_and, Bool.and_true, Bool.and_false, Bool.true_or, Bool.false_or, Bool.or_true, Bool.or_false, lim_if, lim_if2, shal_int, shal_bl, shal_str, shal_non, decide_true, decide_false, setAll, bindTg, bindOk, bindExc, ofSome, List.map_cons, List.map_nil, List.length_cons, List.length_nil, List.cons_append, List.nil_append, List.append_nil, List.replicate, List.getElem?_cons_zero, List.getElem?_cons_succ, List.set_cons_zero, List.set_cons_succ, Nat.reduceAdd, Nat.reduceSub, isI_int, isB_int, if_true, if_false, Bool.false_eq_true, Bool.not_true, Bool.not_false, dNear, seqOf, wipeE]
    rw [compA (g := fun _ => .int 1) fun s hs => ⟨_, rfl, rfl, by simp only [run_eq, evSs_cons, evSs_nil, evS_par, evS_asg, evS_asgT, evS_asgR, evS_app, evS_ext, evS_ite, evS_for, evS_ret, evS_raise, evS_expr, evS_pass, ev_bin, ev_var, ev_lit, ev_cmp, ev_chn, ev_isN, ev_notN, ev_and, ev_or, ev_not, ev_ite, ev_call, ev_prim, ev_meth, ev_rev, ev_idx, ev_slc, ev_lst, ev_tup, ev_comp, ev_neg, evs_cons, evs_nil, evO_none, evO_some, evC_none, evC_some, evI_seq, evI_rng1, evI_rng2, evI_enm, evI_zip, partI, then_ok, nx_then, rt_then, ex_then, addI, subI, mulI, fdivI, modI, ltI, leI, gtI, geI, eqI, truthB, ite_and, ite_or, Bool.true_and, Bool.false_and, Bool.and_true, Bool.and_false, Bool.true_or, Bool.false_or, Bool.or_true, Bool.or_false, lim_if, lim_if2, shal_int, shal_bl, shal_str, shal_non, decide_true, decide_false, setAll, bindTg, bindOk, bindExc, ofSome, List.map_cons, List.map_nil, List.length_cons, List.length_nil, List.cons_append, List.nil_append, List.append_nil, List.replicate, List.getElem?_cons_zero, List.getElem?_cons_succ, List.set_cons_zero, List.set_cons_succ, Nat.reduceAdd, Nat.reduceSub, isI_int, isB_int, if_true, if_false, Bool.false_eq_true, Bool.not_true, Bool.not_false, b_ways_of_1]⟩]
    simp only [run_eq, evSs_cons, evSs_nil, evS_par, evS_asg, evS_asgT, evS_asgR, evS_app, evS_ext, evS_ite, evS_for, evS_ret, evS_raise, evS_expr, evS_pass, ev_bin, ev_var, ev_lit, ev_cmp, ev_chn, ev_isN, ev_notN, ev_and, ev_or, ev_not, ev_ite, ev_call, ev_prim, ev_meth, ev_rev, ev_idx, ev_slc, ev_lst, ev_tup, ev_comp, ev_neg, evs_cons, evs_nil, evO_none, evO_some, evC_none, evC_some, evI_seq, evI_rng1, evI_rng2, evI_enm, evI_zip, partI, then_ok, nx_then, rt_then, ex_then, addI, subI, mulI, fdivI, modI, ltI, leI, gtI, geI, eqI, truthB, ite_and, ite_or, Bool.true_and, Bool.false_and, Bool.and_true, Bool.and_false, Bool.true_or, Bool.false_or, Bool.or_true, Bool.or_false, lim_if, lim_if2, shal_int, shal_bl, shal_str, shal_non, decide_true, decide_false, setAll, bindTg, bindOk, bindExc, ofSome, List.map_cons, List.map_nil, List.length_cons, List.length_nil, List.cons_append, List.nil_append, List.append_nil, List.replicate, List.getElem?_cons_zero, List.getElem?_cons_succ, List.set_cons_zero, List.set_cons_succ, Nat.reduceAdd, Nat.reduceSub, isI_int, isB_int, if_true, if_false, Bool.false_eq_true, Bool.not_true, Bool.not_false, noExc_ok, dInts, iterW, List.map_map, Function.comp_def]
  have key := forL_inv0 (f := evSs b_ways_of_4) (tg := .nm 3) (items := rangeL 0 n 1)
    (fun i e => ∃ x, e = [some (dNear near), some (.int ((n + 1 : Nat) : Int)), some (.lst ((List.range (i + 1)).map fun i => dInts (iterW near i))), x, none, none])
    (e := [some (dNear near), some (.int ((n + 1 : Nat) : Int)), some (.lst [dInts (iterW near 0)]), none, none, none]) ⟨none, rfl⟩ fun i d e hd hp => by
      obtain ⟨hi, rfl⟩ := rangeL_at hd
      obtain ⟨x, rfl⟩ := hp
      refine ⟨_, _, rfl, ?_, some (.int (0 + (i : Int) * 1)), rfl⟩
      have hne : ((List.range (i + 1)).map fun i => dInts (iterW near i)) ≠ [] := by simp
      have hlast : ((List.range (i + 1)).map fun i => dInts (iterW near i)).getLast hne = dInts (iterW near i) := by
        simp [List.range_succ]
      have inner : ∀ s ∈ near, ev b_ways_of_3 [some (dNear near), some (.int ((n + 1 : Nat) : Int)), some (.lst ((List.range (i + 1)).map fun i => dInts (iterW near i))), some (.int (0 + (i : Int) * 1)), some (dNats s), none] = .ok (.int (s.map fun i_1 => (iterW near i).getD i_1 0).sum) := fun s hs => by
        simp only [run_eq, evSs_cons, evSs_nil, evS_par, evS_asg, evS_asgT, evS_asgR, evS_app, evS_ext, evS_ite, evS_for, evS_ret, evS_raise, evS_expr, evS_pass, ev_bin, ev_var, ev_lit, ev_cmp, ev_chn, ev_isN, ev_notN, ev_and, ev_or, ev_not, ev_ite, ev_call, ev_prim, ev_meth, ev_rev, ev_idx, ev_slc, ev_lst, ev_tup, ev_comp, ev_neg, evs_cons, evs_nil, evO_none, evO_some, evC_none, evC_some, evI_seq, evI_rng1, evI_rng2, evI_enm, evI_zip, partI, then_ok, nx_then, rt_then, ex_then, addI, subI, mulI, fdivI, modI, ltI, leI, gtI, geI, eqI, truthB, ite_and, ite_or, Bool.true_and, Bool.false_and, Bool.and_true, Bool.and_false, Bool.true_or, Bool.false_or, Bool.or_true, Bool.or_false, lim_if, lim_if2, shal_int, shal_bl, shal_str, shal_non, decide_true, decide_false, setAll, bindTg, bindOk, bindExc, ofSome, List.map_cons, List.map_nil, List.length_cons, List.length_nil, List.cons_append, List.nil_append, List.append_nil, List.replicate, List.getElem?_cons_zero, List.getElem?_cons_succ, List.set_cons_zero, List.set_cons_succ, Nat.reduceAdd, Nat.reduceSub, isI_int, isB_int, if_true, if_false, Bool.false_eq_true, Bool.not_true, Bool.not_false, b_ways_of_3, dNats, seqOf, wipeE]
        rw [compA (g := fun j => .int ((iterW near i).getD j 0)) fun j hj => ⟨_, rfl, rfl, ?_⟩]
        · simp only [run_eq, evSs_cons, evSs_nil, evS_par, evS_asg, evS_asgT, evS_asgR, evS_app, evS_ext, evS_ite, evS_for, evS_ret, evS_raise, evS_expr, evS_pass, ev_bin, ev_var, ev_lit, ev_cmp, ev_chn, ev_isN, ev_notN, ev_and, ev_or, ev_not, ev_ite, ev_call, ev_prim, ev_meth, ev_rev, ev_idx, ev_slc, ev_lst, ev_tup, ev_comp, ev_neg, evs_cons, evs_nil, evO_none, evO_some, evC_none, evC_some, evI_seq, evI_rng1, evI_rng2, evI_enm, evI_zip, partI, then_ok, nx_then, rt_then, ex_then, addI, subI, mulI, fdivI, modI, ltI, leI, gtI, geI, eqI, truthB, ite_and, ite_or, Bool.true_and, Bool.false_and, Bool.and_true, Bool.and_false, Bool.true_or, Bool.false_or, Bool.or_true, Bool.or_false, lim_if, lim_if2, shal_int, shal_bl, shal_str, shal_non, decide_true, decide_false, setAll, bindTg, bindOk, bindExc, ofSome, List.map_cons, List.map_nil, List.length_cons, List.length_nil, List.cons_append, List.nil_append, List.append_nil, List.replicate, List.getElem?_cons_zero, List.getElem?_cons_succ, List.set_cons_zero, List.set_cons_succ, Nat.reduceAdd, Nat.reduceSub, isI_int, isB_int, if_true, if_false, Bool.false_eq_true, Bool.not_true, Bool.not_false, noExc_ok]
          rw [show (s.map fun j => D.int ((iterW near i).getD j 0)) = (s.map fun j => (iterW near i).getD j 0).map D.int from by rw [List.map_map]; rfl, sumI]
        · have hj' : j < (iterW near i).length := by rw [iterW_length]; exact hn s hs j hj
          simp only [run_eq, evSs_cons, evSs_nil, evS_par, evS_asg, evS_asgT, evS_asgR, evS_app, evS_ext, evS_ite, evS_for, evS_ret, evS_raise, evS_expr, evS_pass, ev_bin, ev_var, ev_lit, ev_cmp, ev_chn, ev_isN, ev_notN, ev_and, ev_or, ev_not, ev_ite, ev_call, ev_prim, ev_meth, ev_rev, ev_idx, ev_slc, ev_lst, ev_tup, ev_comp, ev_neg, evs_cons, evs_nil, evO_none, evO_some, evC_none, evC_some, evI_seq, evI_rng1, evI_rng2, evI_enm, evI_zip, partI, then_ok, nx_then, rt_then, ex_then, addI, subI, mulI, fdivI, modI, ltI, leI, gtI, geI, eqI, truthB, ite_and, ite_or, Bool.true_and, Bool.false_and, Bool.and_true, Bool.and_false, Bool.true_or, Bool.false_or, Bool.or_true, Bool.or_false, lim_if, lim_if2, shal_int, shal_bl, shal_str, shal_non, decide_true, decide_false, setAll, bindTg, bindOk, bindExc, ofSome, List.map_cons, List.map_nil, List.length_cons, List.length_nil, List.cons_append, List.nil_append, List.append_nil, List.replicate, List.getElem?_cons_zero, List.getElem?_cons_succ, List.set_cons_zero, List.set_cons_succ, Nat.reduceAdd, Nat.reduceSub, isI_int, isB_int, if_true, if_false, Bool.false_eq_true, Bool.not_true, Bool.not_false, b_ways_of_2]
          rw [show (-1 : Int) = -1 from rfl, idx_last hne, hlast]
          simp only [run_eq, evSs_cons, evSs_nil, evS_par, evS_asg, evS_asgT, evS_asgR, evS_app, evS_ext, evS_ite, evS_for, evS_ret, evS_raise, evS_expr, evS_pass, ev_bin, ev_var, ev_lit, ev_cmp, ev_chn, ev_isN, ev_notN, ev_and, ev_or, ev_not, ev_ite, ev_call, ev_prim, ev_meth, ev_rev, ev_idx, ev_slc, ev_lst, ev_tup, ev_comp, ev_neg, evs_cons, evs_nil, evO_none, evO_some, evC_none, evC_some, evI_seq, evI_rng1, evI_rng2, evI_enm, evI_zip, partI, then_ok, nx_then, rt_then, ex_then, addI, subI, mulI, fdivI, modI, ltI, leI, gtI, geI, eqI, truthB, ite_and, ite_or, Bool.true_and, Bool.false_and, Bool.and_true, Bool.and_false, Bool.true_or, Bool.false_or, Bool.or_true, Bool.or_false, lim_if, lim_if2, shal_int, shal_bl, shal_str, shal_non, decide_true, decide_false, setAll, bindTg, bindOk, bindExc, ofSome, List.map_cons, List.map_nil, List.length_cons, List.length_nil, List.cons_append, List.nil_append, List.append_nil, List.replicate, List.getElem?_cons_zero, List.getElem?_cons_succ, List.set_cons_zero, List.set_cons_succ, Nat.reduceAdd, Nat.reduceSub, isI_int, isB_int, if_true, if_false, Bool.false_eq_true, Bool.not_true, Bool.not_false]
          rw [dInts, idxL (i := j) rfl (by rw [List.length_map]; exact hj'), getD_int hj']
      have comp : ev (.comp b_ways_of_3 (.nm 4) (.seq (.var 0)) .none [4]) [some (dNear near), some (.int ((n + 1 : Nat) : Int)), some (.lst ((List.range (i + 1)).map fun i => dInts (iterW near i))), some (.int (0 + (i : Int) * 1)), none, none] = .ok (dInts (iterW near (i + 1))) := by
        simp only [run_eq, evSs_cons, evSs_nil, evS_par, evS_asg, evS_asgT, evS_asgR, evS_app, evS_ext, evS_ite, evS_for, evS_ret, evS_raise, evS_expr, evS_pass, ev_bin, ev_var, ev_lit, ev_cmp, ev_chn, ev_isN, ev_notN, ev_and, ev_or, ev_not, ev_ite, ev_call, ev_prim, ev_meth, ev_rev, ev_idx, ev_slc, ev_lst, ev_tup, ev_comp, ev_neg, evs_cons, evs_nil, evO_none, evO_some, evC_none, evC_some, evI_seq, evI_rng1, evI_rng2, evI_enm, evI_zip, partI, then_ok, nx_then, rt_then, ex_then, addI, subI, mulI, fdivI, modI, ltI, leI, gtI, geI, eqI, truthB, ite_and, ite_or, Bool.true_and, Bool.false_and, Bool.and_true, Bool.and_false, Bool.true_or, Bool.false_or, Bool.or_true, Bool.or_false, lim_if, lim_if2, shal_int, shal_bl, shal_str, shal_non, decide_true, decide_false, setAll, bindTg, bindOk, bindExc, ofSome, List.map_cons, List.map_nil, List.length_cons, List.length_nil, List.cons_append, List.nil_append, List.append_nil, List.replicate, List.getElem?_cons_zero, List.getElem?_cons_succ, List.set_cons_zero, List.set_cons_succ, Nat.reduceAdd, Nat.reduceSub, isI_int, isB_int, if_true, if_false, Bool.false_eq_true, Bool.not_true, Bool.not_false, dNear, seqOf, wipeE]
        rw [compA (g := fun s => .int (s.map fun i_1 => (iterW near i).getD i_1 0).sum) fun s hs => ⟨_, rfl, rfl, inner s hs⟩]
        simp only [run_eq, evSs_cons, evSs_nil, evS_par, evS_asg, evS_asgT, evS_asgR, evS_app, evS_ext, evS_ite, evS_for, evS_ret, evS_raise, evS_expr, evS_pass, ev_bin, ev_var, ev_lit, ev_cmp, ev_chn, ev_isN, ev_notN, ev_and, ev_or, ev_not, ev_ite, ev_call, ev_prim, ev_meth, ev_rev, ev_idx, ev_slc, ev_lst, ev_tup, ev_comp, ev_neg, evs_cons, evs_nil, evO_none, evO_some, evC_none, evC_some, evI_seq, evI_rng1, evI_rng2, evI_enm, evI_zip, partI, then_ok, nx_then, rt_then, ex_then, addI, subI, mulI, fdivI, modI, ltI, leI, gtI, geI, eqI, truthB, ite_and, ite_or, Bool.true_and, Bool.false_and, Bool.and_true, Bool.and_false, Bool.true_or, Bool.false_or, Bool.or_true, Bool.or_false, lim_if, lim_if2, shal_int, shal_bl, shal_str, shal_non, decide_true, decide_false, setAll, bindTg, bindOk, bindExc, ofSome, List.map_cons, List.map_nil, List.length_cons, List.length_nil, List.cons_append, List.nil_append, List.append_nil, List.replicate, List.getElem?_cons_zero, List.getElem?_cons_succ, List.set_cons_zero, List.set_cons_succ, Nat.reduceAdd, Nat.reduceSub, isI_int, isB_int, if_true, if_false, Bool.false_eq_true, Bool.not_true, Bool.not_false, noExc_ok, dInts, iterW, stepW, List.map_map, Function.comp_def]
      have hl2 : ((List.range (i + 1)).map fun i => dInts (iterW near i)).length < 10000000 := by simp; omega
      simp (disch := exact hl2) only [run_eq, evSs_cons, evSs_nil, evS_par, evS_asg, evS_asgT, evS_asgR, evS_app, evS_ext, evS_ite, evS_for, evS_ret, evS_raise, evS_expr, evS_pass, ev_bin, ev_var, ev_lit, ev_cmp, ev_chn, ev_isN, ev_notN, ev_and, ev_or, ev_not, ev_ite, ev_call, ev_prim, ev_meth, ev_rev, ev_idx, ev_slc, ev_lst, ev_tup, ev_comp, ev_neg, evs_cons, evs_nil, evO_none, evO_some, evC_none, evC_some, evI_seq, evI_rng1, evI_rng2, evI_enm, evI_zip, partI, then_ok, nx_then, rt_then, ex_then, addI, subI, mulI, fdivI, modI, ltI, leI, gtI, geI, eqI, truthB, ite_and, ite_or, Bool.true_and, Bool.false_and, Bool.and_true, Bool.and_false, Bool.true_or, Bool.false_or, Bool.or_true, Bool.or_false, lim_if, lim_if2, shal_int, shal_bl, shal_str, shal_non, decide_true, decide_false, setAll, bindTg, bindOk, bindExc, ofSome, List.map_cons, List.map_nil, List.length_cons, List.length_nil, List.cons_append, List.nil_append, List.append_nil, List.replicate, List.getElem?_cons_zero, List.getElem?_cons_succ, List.set_cons_zero, List.set_cons_succ, Nat.reduceAdd, Nat.reduceSub, isI_int, isB_int, if_true, if_false, Bool.false_eq_true, Bool.not_true, Bool.not_false, b_ways_of_4, ↓comp, lstAt]
      rw [show List.range (i + 1 + 1) = List.range (i + 1) ++ [i + 1] from List.range_succ, List.map_append]
      rfl
  obtain ⟨e', k1, x, rfl⟩ := key
  rw [rangeL_length] at k1
  have hr : rng1F (.int (((n + 1 : Nat) : Int) - 1)) = .ok (rangeL 0 n 1) := by
    rw [rng1I (by omega)]
    congr 2
    omega
  simp (disch := omega) only [run_eq, evSs_cons, evSs_nil, evS_par, evS_asg, evS_asgT, evS_asgR, evS_app, evS_ext, evS_ite, evS_for, evS_ret, evS_raise, evS_expr, evS_pass, ev_bin, ev_var, ev_lit, ev_cmp, ev_chn, ev_isN, ev_notN, ev_and, ev_or, ev_not, ev_ite, ev_call, ev_prim, ev_meth, ev_rev, ev_idx, ev_slc, ev_lst, ev_tup, ev_comp, ev_neg, evs_cons, evs_nil, evO_none, evO_some, evC_none, evC_some, evI_seq, evI_rng1, evI_rng2, evI_enm, evI_zip, partI, then_ok, nx_then, rt_then, ex_then, addI, subI, mulI, fdivI, modI, ltI, leI, gtI, geI, eqI, truthB, ite_and, ite_or, Bool.true_and, Bool.false_and, Bool.and_true, Bool.and_false, Bool.true_or, Bool.false_or, Bool.or_true, Bool.or_false, lim_if, lim_if2, shal_int, shal_bl, shal_str, shal_non, decide_true, decide_false, setAll, bindTg, bindOk, bindExc, ofSome, List.map_cons, List.map_nil, List.length_cons, List.length_nil, List.cons_append, List.nil_append, List.append_nil, List.replicate, List.getElem?_cons_zero, List.getElem?_cons_succ, List.set_cons_zero, List.set_cons_succ, Nat.reduceAdd, Nat.reduceSub, isI_int, isB_int, if_true, if_false, Bool.false_eq_true, Bool.not_true, Bool.not_false, den_ways_of, b_ways_of, ↓first, hr, k1]
/-! ### checks -/
theorem is_whole_int (i : Int) : den_is_whole [.int i] = .ok (.bl true) := rfl
theorem between_int (i a b : Int) : den_is_between [.int i, .int a, .int b] = .ok (.bl (decide (a ≤ i) && decide (i ≤ b))) := by
  simp only [run_eq, evSs_cons, evSs_nil, evS_par, evS_asg, evS_asgT, evS_asgR, evS_app, evS_ext, evS_ite, evS_for, evS_ret, evS_raise, evS_expr, evS_pass, ev_bin, ev_var, ev_lit, ev_cmp, ev_chn, ev_isN, ev_notN, ev_and, ev_or, ev_not, ev_ite, ev_call, ev_prim, ev_meth, ev_rev, ev_idx, ev_slc, ev_lst, ev_tup, ev_comp, ev_neg, evs_cons, evs_nil, evO_none, evO_some, evC_none, evC_some, evI_seq, evI_rng1, evI_rng2, evI_enm, evI_zip, partI, then_ok, nx_then, rt_then, ex_then, addI, subI, mulI, fdivI, modI, ltI, leI, gtI, geI, eqI, truthB, ite_and, ite_or, Bool.true_and, Bool.false_and, Bool.and_true, Bool.and_false, Bool.true_or, Bool.false_or, Bool.or_true, Bool.or_false, lim_if, lim_if2, shal_int, shal_bl, shal_str, shal_non, decide_true, decide_false, setAll, bindTg, bindOk, bindExc, ofSome, List.map_cons, List.map_nil, List.length_cons, List.length_nil, List.cons_append, List.nil_append, List.append_nil, List.replicate, List.getElem?_cons_zero, List.getElem?_cons_succ, List.set_cons_zero, List.set_cons_succ, Nat.reduceAdd, Nat.reduceSub, isI_int, isB_int, if_true, if_false, Bool.false_eq_true, Bool.not_true, Bool.not_false, den_is_between, b_is_between, is_whole_int]
theorem check_hues_ok {h : Int} (k : h = 2 ∨ h = 3) : den_check_hues [.int h] = .ok .non := by
  rcases k with rfl | rfl <;> rfl
theorem widest_ok (h : Int) : den_widest [.int h] = .ok (.int (wideOf h)) := by
  simp only [run_eq, evSs_cons, evSs_nil, evS_par, evS_asg, evS_asgT, evS_asgR, evS_app, evS_ext, evS_ite, evS_for, evS_ret, evS_raise, evS_expr, evS_pass, ev_bin, ev_var, ev_lit, ev_cmp, ev_chn, ev_isN, ev_notN, ev_and, ev_or, ev_not, ev_ite, ev_call, ev_prim, ev_meth, ev_rev, ev_idx, ev_slc, ev_lst, ev_tup, ev_comp, ev_neg, evs_cons, evs_nil, evO_none, evO_some, evC_none, evC_some, evI_seq, evI_rng1, evI_rng2, evI_enm, evI_zip, partI, then_ok, nx_then, rt_then, ex_then, addI, subI, mulI, fdivI, modI, ltI, leI, gtI, geI, eqI, truthB, ite_and, ite_or, Bool.true_and, Bool.false_and, Bool.and_true, Bool.and_false, Bool.true_or, Bool.false_or, Bool.or_true, Bool.or_false, lim_if, lim_if2, shal_int, shal_bl, shal_str, shal_non, decide_true, decide_false, setAll, bindTg, bindOk, bindExc, ofSome, List.map_cons, List.map_nil, List.length_cons, List.length_nil, List.cons_append, List.nil_append, List.append_nil, List.replicate, List.getElem?_cons_zero, List.getElem?_cons_succ, List.set_cons_zero, List.set_cons_succ, Nat.reduceAdd, Nat.reduceSub, isI_int, isB_int, if_true, if_false, Bool.false_eq_true, Bool.not_true, Bool.not_false, den_widest, b_widest, wide_if]
theorem check_wide_ok {h w : Int} (k : 1 ≤ w ∧ w ≤ wideOf h) : den_check_wide [.int h, .int w] = .ok .non := by
  have e : (decide (1 ≤ w) && decide (w ≤ wideOf h)) = true := by simp [k.1, k.2]
  simp only [run_eq, evSs_cons, evSs_nil, evS_par, evS_asg, evS_asgT, evS_asgR, evS_app, evS_ext, evS_ite, evS_for, evS_ret, evS_raise, evS_expr, evS_pass, ev_bin, ev_var, ev_lit, ev_cmp, ev_chn, ev_isN, ev_notN, ev_and, ev_or, ev_not, ev_ite, ev_call, ev_prim, ev_meth, ev_rev, ev_idx, ev_slc, ev_lst, ev_tup, ev_comp, ev_neg, evs_cons, evs_nil, evO_none, evO_some, evC_none, evC_some, evI_seq, evI_rng1, evI_rng2, evI_enm, evI_zip, partI, then_ok, nx_then, rt_then, ex_then, addI, subI, mulI, fdivI, modI, ltI, leI, gtI, geI, eqI, truthB, ite_and, ite_or, Bool.true_and, Bool.false_and, Bool.and_true, Bool.and_false, Bool.true_or, Bool.false_or, Bool.or_true, Bool.or_false, lim_if, lim_if2, shal_int, shal_bl, shal_str, shal_non, decide_true, decide_false, setAll, bindTg, bindOk, bindExc, ofSome, List.map_cons, List.map_nil, List.length_cons, List.length_nil, List.cons_append, List.nil_append, List.append_nil, List.replicate, List.getElem?_cons_zero, List.getElem?_cons_succ, List.set_cons_zero, List.set_cons_succ, Nat.reduceAdd, Nat.reduceSub, isI_int, isB_int, if_true, if_false, Bool.false_eq_true, Bool.not_true, Bool.not_false, den_check_wide, b_check_wide, widest_ok, between_int, e]
theorem check_high_ok {w m : Int} (k : 1 ≤ w ∧ w ≤ m) : den_check_high [.int w, .int m] = .ok .non := by
  have e : (decide (1 ≤ w) && decide (w ≤ m)) = true := by simp [k.1, k.2]
  simp only [run_eq, evSs_cons, evSs_nil, evS_par, evS_asg, evS_asgT, evS_asgR, evS_app, evS_ext, evS_ite, evS_for, evS_ret, evS_raise, evS_expr, evS_pass, ev_bin, ev_var, ev_lit, ev_cmp, ev_chn, ev_isN, ev_notN, ev_and, ev_or, ev_not, ev_ite, ev_call, ev_prim, ev_meth, ev_rev, ev_idx, ev_slc, ev_lst, ev_tup, ev_comp, ev_neg, evs_cons, evs_nil, evO_none, evO_some, evC_none, evC_some, evI_seq, evI_rng1, evI_rng2, evI_enm, evI_zip, partI, then_ok, nx_then, rt_then, ex_then, addI, subI, mulI, fdivI, modI, ltI, leI, gtI, geI, eqI, truthB, ite_and, ite_or, Bool.true_and, Bool.false_and, Bool.and_true, Bool.and_false, Bool.true_or, Bool.false_or, Bool.or_true, Bool.or_false, lim_if, lim_if2, shal_int, shal_bl, shal_str, shal_non, decide_true, decide_false, setAll, bindTg, bindOk, bindExc, ofSome, List.map_cons, List.map_nil, List.length_cons, List.length_nil, List.cons_append, List.nil_append, List.append_nil, List.replicate, List.getElem?_cons_zero, List.getElem?_cons_succ, List.set_cons_zero, List.set_cons_succ, Nat.reduceAdd, Nat.reduceSub, isI_int, isB_int, if_true, if_false, Bool.false_eq_true, Bool.not_true, Bool.not_false, den_check_high, b_check_high, between_int, e]
theorem Kd.hues {h w : Nat} (k : Kd h w) : (h : Int) = 2 ∨ (h : Int) = 3 := by
  unfold Kd at k
  omega
theorem Kd.wide {h w : Nat} (k : Kd h w) : 1 ≤ (w : Int) ∧ (w : Int) ≤ wideOf (h : Int) := by
  unfold wideOf
  rcases k with ⟨rfl, h1, h2⟩ | ⟨rfl, h1, h2⟩
  · rw [if_pos (by decide)]; omega
  · rw [if_neg (by decide)]; omega
/-! ### how many -/
def countL (h w n : Nat) : Int := (iterW (nearL (rowsL h w)) (n - 1)).sum
theorem how_many_ok {h w n : Nat} (k : Kd h w) (hn : 1 ≤ n ∧ n ≤ 200) : den_how_many [.int h, .int w, .int n] = .ok (.int (countL h w n)) := by
  have hw : w ≤ 1000 := by unfold Kd at k; omega
  obtain ⟨m, rfl⟩ : ∃ m, n = m + 1 := ⟨n - 1, by omega⟩
  have hne : ((List.range (m + 1)).map fun i => dInts (iterW (nearL (rowsL h w)) i)) ≠ [] := by simp
  have hlast : ((List.range (m + 1)).map fun i => dInts (iterW (nearL (rowsL h w)) i)).getLast hne = dInts (iterW (nearL (rowsL h w)) m) := by
    simp [List.range_succ]
  simp only [run_eq, evSs_cons, evSs_nil, evS_par, evS_asg, evS_asgT, evS_asgR, evS_app, evS_ext, evS_ite, evS_for, evS_ret, evS_raise, evS_expr, evS_pass, ev_bin, ev_var, ev_lit, ev_cmp, ev_chn, ev_isN, ev_notN, ev_and, ev_or, ev_not, ev_ite, ev_call, ev_prim, ev_meth, ev_rev, ev_idx, ev_slc, ev_lst, ev_tup, ev_comp, ev_neg, evs_cons, evs_nil, evO_none, evO_some, evC_none, evC_some, evI_seq, evI_rng1, evI_rng2, evI_enm, evI_zip, partI, then_ok, nx_then, rt_then, ex_then, addI, subI, mulI, fdivI, modI, ltI, leI, gtI, geI, eqI, truthB, ite_and, ite_or, Bool.true_and, Bool.false_and, Bool.and_true, Bool.and_false, Bool.true_or, Bool.false_or, Bool.or_true, Bool.or_false, lim_if, lim_if2, shal_int, shal_bl, shal_str, shal_non, decide_true, decide_false, setAll, bindTg, bindOk, bindExc, ofSome, List.map_cons, List.map_nil, List.length_cons, List.length_nil, List.cons_append, List.nil_append, List.append_nil, List.replicate, List.getElem?_cons_zero, List.getElem?_cons_succ, List.set_cons_zero, List.set_cons_succ, Nat.reduceAdd, Nat.reduceSub, isI_int, isB_int, if_true, if_false, Bool.false_eq_true, Bool.not_true, Bool.not_false, den_how_many, b_how_many, check_hues_ok k.hues, check_wide_ok k.wide, check_high_ok (w := ((m + 1 : Nat) : Int)) (m := 200) (by omega), rows_ok k, near_ok (fun r hr => rowsL_width hr) hw, ways_ok (nearL_ok _) m (by omega)]
  rw [idx_last hne, hlast]
  simp only [run_eq, evSs_cons, evSs_nil, evS_par, evS_asg, evS_asgT, evS_asgR, evS_app, evS_ext, evS_ite, evS_for, evS_ret, evS_raise, evS_expr, evS_pass, ev_bin, ev_var, ev_lit, ev_cmp, ev_chn, ev_isN, ev_notN, ev_and, ev_or, ev_not, ev_ite, ev_call, ev_prim, ev_meth, ev_rev, ev_idx, ev_slc, ev_lst, ev_tup, ev_comp, ev_neg, evs_cons, evs_nil, evO_none, evO_some, evC_none, evC_some, evI_seq, evI_rng1, evI_rng2, evI_enm, evI_zip, partI, then_ok, nx_then, rt_then, ex_then, addI, subI, mulI, fdivI, modI, ltI, leI, gtI, geI, eqI, truthB, ite_and, ite_or, Bool.true_and, Bool.false_and, Bool.and_true, Bool.and_false, Bool.true_or, Bool.false_or, Bool.or_true, Bool.or_false, lim_if, lim_if2, shal_int, shal_bl, shal_str, shal_non, decide_true, decide_false, setAll, bindTg, bindOk, bindExc, ofSome, List.map_cons, List.map_nil, List.length_cons, List.length_nil, List.cons_append, List.nil_append, List.append_nil, List.replicate, List.getElem?_cons_zero, List.getElem?_cons_succ, List.set_cons_zero, List.set_cons_succ, Nat.reduceAdd, Nat.reduceSub, isI_int, isB_int, if_true, if_false, Bool.false_eq_true, Bool.not_true, Bool.not_false, dInts, sumI]
  rfl
end Dn
namespace Dn
open Hue
/-! ### floors by number, in plain terms: rows are told by their places -/
def tot (c : Nat → Int) (l : List Nat) : Int := (l.map c).sum
def pickL (c : Nat → Int) : List Nat → Int → Nat × Int
  | [], m => (0, m)
  | j :: r, m => if c j ≤ m then pickL c r (m - c j) else (j, m)
def wayAt (near : List (List Nat)) (k i : Nat) : Int := (iterW near k).getD i 0
def flL (near : List (List Nat)) : Nat → List Nat → Int → List Nat
  | 0, _, _ => []
  | k + 1, free, m => (pickL (wayAt near k) free m).1 :: flL near k (near.getD (pickL (wayAt near k) free m).1 []) (pickL (wayAt near k) free m).2
def numL (near : List (List Nat)) : List Nat → List Nat → Int
  | [], _ => 0
  | j :: p, free => tot (wayAt near p.length) (free.filter (· < j)) + numL near p (near.getD j [])
def pathL (near : List (List Nat)) : List Nat → List Nat → Prop
  | [], _ => True
  | j :: p, free => j ∈ free ∧ pathL near p (near.getD j [])
structure NearFine (near : List (List Nat)) : Prop where
  ok : NearOk near
  up : ∀ s ∈ near, s.Pairwise (· < ·)
theorem tot_cons (c : Nat → Int) (j : Nat) (r : List Nat) : tot c (j :: r) = c j + tot c r := by
  unfold tot
  rw [List.map_cons, List.sum_cons]
theorem tot_nonneg {c : Nat → Int} (hc : ∀ i, 0 ≤ c i) : ∀ l, 0 ≤ tot c l
  | [] => Int.le_refl _
  | j :: r => by
    rw [tot_cons]
    have := hc j
    have := tot_nonneg hc r
    omega
theorem way_nonneg (near : List (List Nat)) : ∀ k i, 0 ≤ wayAt near k i
  | 0, i => by
    unfold wayAt iterW
    rw [List.getD_eq_getElem?_getD]
    by_cases h : i < near.length
    · simp [List.getElem?_map, List.getElem?_eq_getElem h]
    · simp [List.getElem?_map, List.getElem?_eq_none (Nat.le_of_not_lt h)]
  | k + 1, i => by
    unfold wayAt iterW stepW
    rw [List.getD_eq_getElem?_getD]
    by_cases h : i < near.length
    · simp only [List.getElem?_map, List.getElem?_eq_getElem h, Option.map_some, Option.getD_some]
      exact tot_nonneg (way_nonneg near k) _
    · simp [List.getElem?_map, List.getElem?_eq_none (Nat.le_of_not_lt h)]
theorem way_zero {near : List (List Nat)} {i : Nat} (h : i < near.length) : wayAt near 0 i = 1 := by
  unfold wayAt iterW
  simp [List.getElem?_map, List.getElem?_eq_getElem h]
theorem way_succ {near : List (List Nat)} {i : Nat} (k : Nat) (h : i < near.length) : wayAt near (k + 1) i = tot (wayAt near k) (near.getD i []) := by
  have e : iterW near (k + 1) = stepW near (iterW near k) := rfl
  have e2 : near.getD i [] = near[i] := by simp [List.getElem?_eq_getElem h]
  unfold wayAt
  rw [e, e2]
  unfold stepW tot
  rw [List.getD_eq_getElem?_getD, List.getElem?_map, List.getElem?_eq_getElem h]
  rfl
theorem pick_ok {c : Nat → Int} : ∀ {l : List Nat} {m : Int}, l.Pairwise (· < ·) → 0 ≤ m → m < tot c l → (pickL c l m).1 ∈ l ∧ 0 ≤ (pickL c l m).2 ∧ (pickL c l m).2 < c (pickL c l m).1 ∧ tot c (l.filter (· < (pickL c l m).1)) + (pickL c l m).2 = m
  | [], m, _, h0, h1 => by
    have : tot c [] = 0 := rfl
    omega
  | j :: r, m, hp, h0, h1 => by
    rw [tot_cons] at h1
    rw [List.pairwise_cons] at hp
    unfold pickL
    by_cases h : c j ≤ m
    · rw [if_pos h]
      obtain ⟨a, b, d, e⟩ := pick_ok (c := c) (m := m - c j) hp.2 (by omega) (by omega)
      refine ⟨List.mem_cons_of_mem _ a, b, d, ?_⟩
      have hj := hp.1 _ a
      rw [List.filter_cons, if_pos (decide_eq_true hj), tot_cons]
      omega
    · rw [if_neg h]
      refine ⟨List.mem_cons_self .., h0, (by show m < c j; omega), ?_⟩
      have : (j :: r).filter (fun x => decide (x < j)) = [] := by
        rw [List.filter_eq_nil_iff]
        intro x hx
        rcases List.mem_cons.mp hx with rfl | hx
        · simp
        · have := hp.1 _ hx
          simp
          omega
      show tot c ((j :: r).filter (fun x => decide (x < j))) + m = m
      rw [this]
      show (0 : Int) + m = m
      omega
theorem near_getD {near : List (List Nat)} (N : NearFine near) (j : Nat) : (near.getD j []).Pairwise (· < ·) ∧ ∀ i ∈ near.getD j [], i < near.length := by
  by_cases h : j < near.length
  · have e : near.getD j [] = near[j] := by simp [List.getElem?_eq_getElem h]
    rw [e]
    exact ⟨N.up _ (List.getElem_mem ..), N.ok _ (List.getElem_mem ..)⟩
  · have e : near.getD j [] = [] := by simp [List.getElem?_eq_none (Nat.le_of_not_lt h)]
    rw [e]
    exact ⟨List.Pairwise.nil, fun i hi => by cases hi⟩
theorem fl_length (near : List (List Nat)) : ∀ k free m, (flL near k free m).length = k
  | 0, _, _ => rfl
  | k + 1, free, m => by
    unfold flL
    rw [List.length_cons, fl_length near k]
theorem fl_ok {near : List (List Nat)} (N : NearFine near) : ∀ {k : Nat} {free : List Nat} {m : Int}, free.Pairwise (· < ·) → (∀ i ∈ free, i < near.length) → 0 ≤ m → m < tot (wayAt near k) free → pathL near (flL near (k + 1) free m) free ∧ numL near (flL near (k + 1) free m) free = m
  | 0, free, m, hp, hb, h0, h1 => by
    obtain ⟨a, b, d, e⟩ := pick_ok hp h0 h1
    rw [way_zero (hb _ a)] at d
    unfold flL flL
    refine ⟨⟨a, trivial⟩, ?_⟩
    show tot (wayAt near 0) _ + 0 = m
    omega
  | k + 1, free, m, hp, hb, h0, h1 => by
    obtain ⟨a, b, d, e⟩ := pick_ok hp h0 h1
    rw [way_succ k (hb _ a)] at d
    obtain ⟨n1, n2⟩ := near_getD N (pickL (wayAt near (k + 1)) free m).1
    obtain ⟨q1, q2⟩ := fl_ok N n1 n2 b d
    unfold flL
    refine ⟨⟨a, q1⟩, ?_⟩
    unfold numL
    rw [fl_length, q2]
    exact e
/-- the later number, the later floor -/
def ltL : List Nat → List Nat → Prop
  | a :: r, b :: s => a < b ∨ (a = b ∧ ltL r s)
  | _, _ => False
theorem pick_le {c : Nat → Int} (hc : ∀ i, 0 ≤ c i) : ∀ {l : List Nat} {m m2 : Int}, l.Pairwise (· < ·) → m < m2 → m2 < tot c l → (pickL c l m).1 < (pickL c l m2).1 ∨ ((pickL c l m).1 = (pickL c l m2).1 ∧ (pickL c l m).2 < (pickL c l m2).2)
  | [], m, m2, _, h, h1 => .inr ⟨rfl, h⟩
  | j :: r, m, m2, hp, h, h1 => by
    rw [tot_cons] at h1
    rw [List.pairwise_cons] at hp
    unfold pickL
    by_cases a : c j ≤ m
    · rw [if_pos a, if_pos (by omega)]
      exact pick_le hc hp.2 (by omega) (by omega)
    · rw [if_neg a]
      by_cases b : c j ≤ m2
      · rw [if_pos b]
        obtain ⟨x, _⟩ := pick_ok (c := c) (m := m2 - c j) hp.2 (by omega) (by omega)
        exact .inl (hp.1 _ x)
      · rw [if_neg b]
        exact .inr ⟨rfl, h⟩
theorem fl_lt {near : List (List Nat)} (N : NearFine near) : ∀ {k : Nat} {free : List Nat} {m m2 : Int}, free.Pairwise (· < ·) → (∀ i ∈ free, i < near.length) → 0 ≤ m → m < m2 → m2 < tot (wayAt near k) free → ltL (flL near (k + 1) free m) (flL near (k + 1) free m2)
  | 0, free, m, m2, hp, hb, h0, h, h1 => by
    obtain ⟨a, b, d, e⟩ := pick_ok hp h0 (Int.lt_trans h h1)
    obtain ⟨a2, b2, d2, e2⟩ := pick_ok (m := m2) hp (by omega) h1
    rw [way_zero (hb _ a)] at d
    rw [way_zero (hb _ a2)] at d2
    unfold flL
    rcases pick_le (way_nonneg near 0) hp h h1 with x | ⟨x, y⟩
    · exact .inl x
    · omega
  | k + 1, free, m, m2, hp, hb, h0, h, h1 => by
    obtain ⟨a, b, d, e⟩ := pick_ok hp h0 (Int.lt_trans h h1)
    obtain ⟨a2, b2, d2, e2⟩ := pick_ok (m := m2) hp (by omega) h1
    rw [way_succ k (hb _ a2)] at d2
    have u : ∀ x, flL near (k + 1 + 1) free x = (pickL (wayAt near (k + 1)) free x).1 :: flL near (k + 1) (near.getD (pickL (wayAt near (k + 1)) free x).1 []) (pickL (wayAt near (k + 1)) free x).2 := fun x => rfl
    rw [u, u]
    rcases pick_le (way_nonneg near (k + 1)) hp h h1 with x | ⟨x, y⟩
    · exact .inl x
    · refine .inr ⟨x, ?_⟩
      obtain ⟨n1, n2⟩ := near_getD N (pickL (wayAt near (k + 1)) free m).1
      rw [← x] at d2 ⊢
      exact fl_lt N n1 n2 b y d2
end Dn
namespace Dn
open Hue
theorem cut2 {l : List Nat} {i : Nat} (h : i + 1 < l.length) : cutL l (some (i : Int)) (some ((i : Int) + 2)) = [l[i], l[i + 1]] := by
  unfold cutL
  have h1 : cutIx l.length 0 (some (i : Int)) = i := by
    unfold cutIx
    simp only
    rw [if_neg (by omega)]
    omega
  have h2 : cutIx l.length l.length (some ((i : Int) + 2)) = i + 2 := by
    unfold cutIx
    simp only
    rw [if_neg (by omega)]
    omega
  rw [h1, h2, show i + 2 - i = 2 by omega, List.drop_eq_getElem_cons (by omega), List.drop_eq_getElem_cons (by omega)]
  rfl
theorem met4 (a b c d : Nat) : ((met [a, b, c, d]).length == 1) = (a == b && (c == d && a == c)) := by
  unfold met
  by_cases h1 : a = b
  · subst h1
    by_cases h2 : c = d
    · subst h2
      by_cases h3 : a = c
      · subst h3
        simp
      · have : ¬ c = a := fun e => h3 e.symm
        simp [h3, this]
    · by_cases h3 : a = c
      · subst h3
        have : ¬ d = a := fun e => h2 e.symm
        simp [h2, this]
      · have : ¬ c = a := fun e => h3 e.symm
        have : ¬ d = c := fun e => h2 e.symm
        by_cases h4 : d = a <;> simp [*]
  · have : ¬ b = a := fun e => h1 e.symm
    simp [h1, this]
    by_cases h3 : c = a <;> by_cases h4 : c = b <;> by_cases h5 : d = a <;> by_cases h6 : d = b <;> by_cases h7 : d = c <;> simp [*]
theorem slcS (l : List Nat) (lo hi : Option Int) : slcF (.str l) lo hi = .ok (.str (cutL l lo hi)) := rfl
theorem asBools_map : ∀ l : List Bool, asBools (l.map D.bl) = some l
  | [] => rfl
  | x :: r => by
    show (asBools (r.map D.bl)).map (x :: ·) = some (x :: r)
    rw [asBools_map r]
    rfl
theorem anyB {α : Type} (l : List α) (f : α → Bool) : primF .any [.lst (l.map fun x => D.bl (f x))] = .ok (.bl (l.any f)) := by
  have : (l.map fun x => D.bl (f x)) = (l.map f).map D.bl := by rw [List.map_map]; rfl
  rw [this]
  simp only [primF, asBools_map, R.of_some, R.bind_ok, List.any_map]
  rfl
theorem allB {α : Type} (l : List α) (f : α → Bool) : primF .all [.lst (l.map fun x => D.bl (f x))] = .ok (.bl (l.all f)) := by
  have : (l.map fun x => D.bl (f x)) = (l.map f).map D.bl := by rw [List.map_map]; rfl
  rw [this]
  simp only [primF, asBools_map, R.of_some, R.bind_ok, List.all_map]
  rfl
theorem lensetS {l : List Nat} (h : l.length ≤ 50) : primF .lenset [.str l] = .ok (.int (met l).length) := if_pos h
theorem int_beq (a b : Nat) : ((a : Int) == (b : Int)) = (a == b) := by
  by_cases h : a = b
  · subst h; rw [beq_self_eq_true, beq_self_eq_true]
  · have : ¬ (a : Int) = (b : Int) := by omega
    rw [beq_eq_false_iff_ne.mpr h, beq_eq_false_iff_ne.mpr this]
theorem two_ok {a b : List Nat} (h : a.length = b.length) (hl : a.length ≤ 1000) : den_l_two [.str a, .str b] = .ok (.bl (gt a b)) := by
  have hr : rng1F (.int ((a.length : Int) - 1)) = .ok (((List.range (a.length - 1)).map fun (i : Nat) => D.int (i : Int))) := by
    rw [rng1I (by omega)]
    congr 1
    unfold rangeL
    have : ((a.length : Int) - 1).toNat = a.length - 1 := by omega
    rw [this]
    exact List.map_congr_left fun i _ => by congr 1; omega
  simp only [run_eq, evSs_cons, evSs_nil, evS_par, evS_asg, evS_asgT, evS_asgR, evS_app, evS_ext, evS_ite, evS_for, evS_ret, evS_raise, evS_expr, evS_pass, ev_bin, ev_var, ev_lit, ev_cmp, ev_chn, ev_isN, ev_notN, ev_and, ev_or, ev_not, ev_ite, ev_call, ev_prim, ev_meth, ev_rev, ev_idx, ev_slc, ev_lst, ev_tup, ev_comp, ev_neg, evs_cons, evs_nil, evO_none, evO_some, evC_none, evC_some, evI_seq, evI_rng1, evI_rng2, evI_enm, evI_zip, partI, then_ok, nx_then, rt_then, ex_then, addI, subI, mulI, fdivI, modI, ltI, leI, gtI, geI, eqI, truthB, ite_and, ite_or, Bool.true_and, Bool.false_and, Bool.and_true, Bool.and_false, Bool.true_or, Bool.false_or, Bool.or_true, Bool.or_false, lim_if, lim_if2, shal_int, shal_bl, shal_str, shal_non, decide_true, decide_false, setAll, bindTg, bindOk, bindExc, ofSome, List.map_cons, List.map_nil, List.length_cons, List.length_nil, List.cons_append, List.nil_append, List.append_nil, List.replicate, List.getElem?_cons_zero, List.getElem?_cons_succ, List.set_cons_zero, List.set_cons_succ, Nat.reduceAdd, Nat.reduceSub, isI_int, isB_int, if_true, if_false, Bool.false_eq_true, Bool.not_true, Bool.not_false, den_l_two, b_l_two, lenS, hr, wipeE]
  rw [compA (g := fun i => .bl (gtAt a b i)) fun i hi => ⟨_, rfl, rfl, ?_⟩]
  · simp only [run_eq, evSs_cons, evSs_nil, evS_par, evS_asg, evS_asgT, evS_asgR, evS_app, evS_ext, evS_ite, evS_for, evS_ret, evS_raise, evS_expr, evS_pass, ev_bin, ev_var, ev_lit, ev_cmp, ev_chn, ev_isN, ev_notN, ev_and, ev_or, ev_not, ev_ite, ev_call, ev_prim, ev_meth, ev_rev, ev_idx, ev_slc, ev_lst, ev_tup, ev_comp, ev_neg, evs_cons, evs_nil, evO_none, evO_some, evC_none, evC_some, evI_seq, evI_rng1, evI_rng2, evI_enm, evI_zip, partI, then_ok, nx_then, rt_then, ex_then, addI, subI, mulI, fdivI, modI, ltI, leI, gtI, geI, eqI, truthB, ite_and, ite_or, Bool.true_and, Bool.false_and, Bool.and_true, Bool.and_false, Bool.true_or, Bool.false_or, Bool.or_true, Bool.or_false, lim_if, lim_if2, shal_int, shal_bl, shal_str, shal_non, decide_true, decide_false, setAll, bindTg, bindOk, bindExc, ofSome, List.map_cons, List.map_nil, List.length_cons, List.length_nil, List.cons_append, List.nil_append, List.append_nil, List.replicate, List.getElem?_cons_zero, List.getElem?_cons_succ, List.set_cons_zero, List.set_cons_succ, Nat.reduceAdd, Nat.reduceSub, isI_int, isB_int, if_true, if_false, Bool.false_eq_true, Bool.not_true, Bool.not_false, noExc_ok, anyB]
    rfl
  · have hi' : i + 1 < a.length := by have := List.mem_range.mp hi; omega
    have hi2 : i + 1 < b.length := by omega
    have hg : gtAt a b i = (a[i] == a[i + 1] && (b[i] == b[i + 1] && a[i] == b[i])) := by
      unfold gtAt
      simp only [List.getElem?_eq_getElem hi', List.getElem?_eq_getElem hi2, List.getElem?_eq_getElem (show i < a.length by omega), List.getElem?_eq_getElem (show i < b.length by omega), some_beq, Bool.and_assoc]
    simp only [run_eq, evSs_cons, evSs_nil, evS_par, evS_asg, evS_asgT, evS_asgR, evS_app, evS_ext, evS_ite, evS_for, evS_ret, evS_raise, evS_expr, evS_pass, ev_bin, ev_var, ev_lit, ev_cmp, ev_chn, ev_isN, ev_notN, ev_and, ev_or, ev_not, ev_ite, ev_call, ev_prim, ev_meth, ev_rev, ev_idx, ev_slc, ev_lst, ev_tup, ev_comp, ev_neg, evs_cons, evs_nil, evO_none, evO_some, evC_none, evC_some, evI_seq, evI_rng1, evI_rng2, evI_enm, evI_zip, partI, then_ok, nx_then, rt_then, ex_then, addI, subI, mulI, fdivI, modI, ltI, leI, gtI, geI, eqI, truthB, ite_and, ite_or, Bool.true_and, Bool.false_and, Bool.and_true, Bool.and_false, Bool.true_or, Bool.false_or, Bool.or_true, Bool.or_false, lim_if, lim_if2, shal_int, shal_bl, shal_str, shal_non, decide_true, decide_false, setAll, bindTg, bindOk, bindExc, ofSome, List.map_cons, List.map_nil, List.length_cons, List.length_nil, List.cons_append, List.nil_append, List.append_nil, List.replicate, List.getElem?_cons_zero, List.getElem?_cons_succ, List.set_cons_zero, List.set_cons_succ, Nat.reduceAdd, Nat.reduceSub, isI_int, isB_int, if_true, if_false, Bool.false_eq_true, Bool.not_true, Bool.not_false, b_l_two_1, slcS, cut2 hi', cut2 hi2]
    rw [addS (by simp)]
    simp only [run_eq, evSs_cons, evSs_nil, evS_par, evS_asg, evS_asgT, evS_asgR, evS_app, evS_ext, evS_ite, evS_for, evS_ret, evS_raise, evS_expr, evS_pass, ev_bin, ev_var, ev_lit, ev_cmp, ev_chn, ev_isN, ev_notN, ev_and, ev_or, ev_not, ev_ite, ev_call, ev_prim, ev_meth, ev_rev, ev_idx, ev_slc, ev_lst, ev_tup, ev_comp, ev_neg, evs_cons, evs_nil, evO_none, evO_some, evC_none, evC_some, evI_seq, evI_rng1, evI_rng2, evI_enm, evI_zip, partI, then_ok, nx_then, rt_then, ex_then, addI, subI, mulI, fdivI, modI, ltI, leI, gtI, geI, eqI, truthB, ite_and, ite_or, Bool.true_and, Bool.false_and, Bool.and_true, Bool.and_false, Bool.true_or, Bool.false_or, Bool.or_true, Bool.or_false, lim_if, lim_if2, shal_int, shal_bl, shal_str, shal_non, decide_true, decide_false, setAll, bindTg, bindOk, bindExc, ofSome, List.map_cons, List.map_nil, List.length_cons, List.length_nil, List.cons_append, List.nil_append, List.append_nil, List.replicate, List.getElem?_cons_zero, List.getElem?_cons_succ, List.set_cons_zero, List.set_cons_succ, Nat.reduceAdd, Nat.reduceSub, isI_int, isB_int, if_true, if_false, Bool.false_eq_true, Bool.not_true, Bool.not_false]
    rw [lensetS (by simp)]
    simp only [run_eq, evSs_cons, evSs_nil, evS_par, evS_asg, evS_asgT, evS_asgR, evS_app, evS_ext, evS_ite, evS_for, evS_ret, evS_raise, evS_expr, evS_pass, ev_bin, ev_var, ev_lit, ev_cmp, ev_chn, ev_isN, ev_notN, ev_and, ev_or, ev_not, ev_ite, ev_call, ev_prim, ev_meth, ev_rev, ev_idx, ev_slc, ev_lst, ev_tup, ev_comp, ev_neg, evs_cons, evs_nil, evO_none, evO_some, evC_none, evC_some, evI_seq, evI_rng1, evI_rng2, evI_enm, evI_zip, partI, then_ok, nx_then, rt_then, ex_then, addI, subI, mulI, fdivI, modI, ltI, leI, gtI, geI, eqI, truthB, ite_and, ite_or, Bool.true_and, Bool.false_and, Bool.and_true, Bool.and_false, Bool.true_or, Bool.false_or, Bool.or_true, Bool.or_false, lim_if, lim_if2, shal_int, shal_bl, shal_str, shal_non, decide_true, decide_false, setAll, bindTg, bindOk, bindExc, ofSome, List.map_cons, List.map_nil, List.length_cons, List.length_nil, List.cons_append, List.nil_append, List.append_nil, List.replicate, List.getElem?_cons_zero, List.getElem?_cons_succ, List.set_cons_zero, List.set_cons_succ, Nat.reduceAdd, Nat.reduceSub, isI_int, isB_int, if_true, if_false, Bool.false_eq_true, Bool.not_true, Bool.not_false]
    rw [show (1 : Int) = ((1 : Nat) : Int) from rfl, int_beq, met4, hg]
/-! ### k01 -/
theorem whole_int (i : Int) : den_l_whole [.int i] = .ok (.bl true) := rfl
/-- of two columns: of one hue below, others -/
def twoL (h : Int) : Nat → Int × Int
  | 0 => (h, h * h - h)
  | n + 1 => (h * ((twoL h n).1 + (twoL h n).2) - (twoL h n).1, (h * h - h) * ((twoL h n).1 + (twoL h n).2))
theorem by_two_ok {h : Int} (hh : h = 2 ∨ h = 3) (n : Nat) (hn : n ≤ 1000) : den_l_by_two [.int h, .int ((n + 1 : Nat) : Int)] = .ok (.int ((twoL h n).1 + (twoL h n).2)) := by
  have hb : -18446744073709551616 < h ∧ h < 18446744073709551616 := by omega
  have hb2 : -18446744073709551616 < h * h - h ∧ h * h - h < 18446744073709551616 := by rcases hh with rfl | rfl <;> decide
  have m1 : ∀ x : Int, binF .mul (.int h) (.int x) = .ok (.int (h * x)) := fun x => mulI (.inl hb)
  have m2 : ∀ x : Int, binF .mul (.int (h * h - h)) (.int x) = .ok (.int ((h * h - h) * x)) := fun x => mulI (.inl hb2)
  have key := forL_inv0 (f := evSs b_l_by_two_1) (tg := .nm 4) (items := rangeL 0 n 1)
    (fun i e => ∃ x y, e = [some (.int h), some (.int ((n + 1 : Nat) : Int)), some (.int (twoL h i).1), some (.int (twoL h i).2), x, y])
    (e := [some (.int h), some (.int ((n + 1 : Nat) : Int)), some (.int h), some (.int (h * h - h)), none, none]) ⟨none, none, rfl⟩ fun i d e hd hp => by
      obtain ⟨hi, rfl⟩ := rangeL_at hd
      obtain ⟨x, y, rfl⟩ := hp
      refine ⟨_, _, rfl, ?_, some (.int (0 + (i : Int) * 1)), some (.int ((twoL h i).1 + (twoL h i).2)), rfl⟩
      simp only [run_eq, evSs_cons, evSs_nil, evS_par, evS_asg, evS_asgT, evS_asgR, evS_app, evS_ext, evS_ite, evS_for, evS_ret, evS_raise, evS_expr, evS_pass, ev_bin, ev_var, ev_lit, ev_cmp, ev_chn, ev_isN, ev_notN, ev_and, ev_or, ev_not, ev_ite, ev_call, ev_prim, ev_meth, ev_rev, ev_idx, ev_slc, ev_lst, ev_tup, ev_comp, ev_neg, evs_cons, evs_nil, evO_none, evO_some, evC_none, evC_some, evI_seq, evI_rng1, evI_rng2, evI_enm, evI_zip, partI, then_ok, nx_then, rt_then, ex_then, addI, subI, mulI, fdivI, modI, ltI, leI, gtI, geI, eqI, truthB, ite_and, ite_or, Bool.true_and, Bool.false_and, Bool.and_true, Bool.and_false, Bool.true_or, Bool.false_or, Bool.or_true, Bool.or_false, lim_if, lim_if2, shal_int, shal_bl, shal_str, shal_non, decide_true, decide_false, setAll, bindTg, bindOk, bindExc, ofSome, List.map_cons, List.map_nil, List.length_cons, List.length_nil, List.cons_append, List.nil_append, List.append_nil, List.replicate, List.getElem?_cons_zero, List.getElem?_cons_succ, List.set_cons_zero, List.set_cons_succ, Nat.reduceAdd, Nat.reduceSub, isI_int, isB_int, if_true, if_false, Bool.false_eq_true, Bool.not_true, Bool.not_false, b_l_by_two_1, m1, m2]
      rfl
  obtain ⟨e', k1, x, y, rfl⟩ := key
  rw [rangeL_length] at k1
  have hr : rng1F (.int (((n + 1 : Nat) : Int) - 1)) = .ok (rangeL 0 n 1) := by
    rw [rng1I (by omega)]
    congr 2
    omega
  simp (disch := omega) only [run_eq, evSs_cons, evSs_nil, evS_par, evS_asg, evS_asgT, evS_asgR, evS_app, evS_ext, evS_ite, evS_for, evS_ret, evS_raise, evS_expr, evS_pass, ev_bin, ev_var, ev_lit, ev_cmp, ev_chn, ev_isN, ev_notN, ev_and, ev_or, ev_not, ev_ite, ev_call, ev_prim, ev_meth, ev_rev, ev_idx, ev_slc, ev_lst, ev_tup, ev_comp, ev_neg, evs_cons, evs_nil, evO_none, evO_some, evC_none, evC_some, evI_seq, evI_rng1, evI_rng2, evI_enm, evI_zip, partI, then_ok, nx_then, rt_then, ex_then, addI, subI, mulI, fdivI, modI, ltI, leI, gtI, geI, eqI, truthB, ite_and, ite_or, Bool.true_and, Bool.false_and, Bool.and_true, Bool.and_false, Bool.true_or, Bool.false_or, Bool.or_true, Bool.or_false, lim_if, lim_if2, shal_int, shal_bl, shal_str, shal_non, decide_true, decide_false, setAll, bindTg, bindOk, bindExc, ofSome, List.map_cons, List.map_nil, List.length_cons, List.length_nil, List.cons_append, List.nil_append, List.append_nil, List.replicate, List.getElem?_cons_zero, List.getElem?_cons_succ, List.set_cons_zero, List.set_cons_succ, Nat.reduceAdd, Nat.reduceSub, isI_int, isB_int, if_true, if_false, Bool.false_eq_true, Bool.not_true, Bool.not_false, den_l_by_two, b_l_by_two, m1, hr, k1, rangeL_length]
theorem rowsL_short {h w : Nat} (k : Kd h w) : (rowsL h w).length ≤ 27 := by
  refine k.cases (P := fun h w => (rowsL h w).length ≤ 27) ?_ ?_ ?_ ?_ ?_ ?_ ?_ <;> decide +kernel
theorem by_rows_ok {h w : Nat} (k : Kd h w) (n : Nat) (hn : n ≤ 1000) : den_l_by_rows [.int h, .int w, .int ((n + 1 : Nat) : Int)] = .ok (.int (countL h w (n + 1))) := by
  have hw : w ≤ 1000 := by unfold Kd at k; omega
  have inner : ∀ r ∈ rowsL h w, ev b_l_by_rows_2 [some (.int h), some (.int w), some (.int ((n + 1 : Nat) : Int)), some (dRows (rowsL h w)), none, none, none, some (.str r), none, none, none] = .ok (dNats ((((rowsL h w).zipIdx).filter fun p => gt r p.1).map (·.2))) := fun r hr => by
    simp only [run_eq, evSs_cons, evSs_nil, evS_par, evS_asg, evS_asgT, evS_asgR, evS_app, evS_ext, evS_ite, evS_for, evS_ret, evS_raise, evS_expr, evS_pass, ev_bin, ev_var, ev_lit, ev_cmp, ev_chn, ev_isN, ev_notN, ev_and, ev_or, ev_not, ev_ite, ev_call, ev_prim, ev_meth, ev_rev, ev_idx, ev_slc, ev_lst, ev_tup, ev_comp, ev_neg, evs_cons, evs_nil, evO_none, evO_some, evC_none, evC_some, evI_seq, evI_rng1, evI_rng2, evI_enm, evI_zip, partI, then_ok, nx_then, rt_then, ex_then, addI, subI, mulI, fdivI, modI, ltI, leI, gtI, geI, eqI, truthB, ite_and, ite_or, Bool.true_and, Bool.false_and, Bool.and_true, Bool.and_false, Bool.true_or, Bool.false_or, Bool.or_true, Bool.or_false, lim_if, lim_if2, shal_int, shal_bl, shal_str, shal_non, decide_true, decide_false, setAll, bindTg, bindOk, bindExc, ofSome, List.map_cons, List.map_nil, List.length_cons, List.length_nil, List.cons_append, List.nil_append, List.append_nil, List.replicate, List.getElem?_cons_zero, List.getElem?_cons_succ, List.set_cons_zero, List.set_cons_succ, Nat.reduceAdd, Nat.reduceSub, isI_int, isB_int, if_true, if_false, Bool.false_eq_true, Bool.not_true, Bool.not_false, b_l_by_rows_2, dRows, enmF, wipeE, enmL_map]
    rw [compT (p := fun p => gt r p.1) (g := fun p => .int (p.2 : Int)) fun x hx => ?_]
    · simp only [noExc_ok, R.bind_ok, dNats, List.map_map, Function.comp_def]
    · refine ⟨_, rfl, ?_, fun _ => ?_⟩
      · have hx' : x.1 ∈ rowsL h w := by
          obtain ⟨h1, h2, h3⟩ := List.mem_zipIdx hx
          rw [h3]
          exact List.getElem_mem ..
        simp only [run_eq, evSs_cons, evSs_nil, evS_par, evS_asg, evS_asgT, evS_asgR, evS_app, evS_ext, evS_ite, evS_for, evS_ret, evS_raise, evS_expr, evS_pass, ev_bin, ev_var, ev_lit, ev_cmp, ev_chn, ev_isN, ev_notN, ev_and, ev_or, ev_not, ev_ite, ev_call, ev_prim, ev_meth, ev_rev, ev_idx, ev_slc, ev_lst, ev_tup, ev_comp, ev_neg, evs_cons, evs_nil, evO_none, evO_some, evC_none, evC_some, evI_seq, evI_rng1, evI_rng2, evI_enm, evI_zip, partI, then_ok, nx_then, rt_then, ex_then, addI, subI, mulI, fdivI, modI, ltI, leI, gtI, geI, eqI, truthB, ite_and, ite_or, Bool.true_and, Bool.false_and, Bool.and_true, Bool.and_false, Bool.true_or, Bool.false_or, Bool.or_true, Bool.or_false, lim_if, lim_if2, shal_int, shal_bl, shal_str, shal_non, decide_true, decide_false, setAll, bindTg, bindOk, bindExc, ofSome, List.map_cons, List.map_nil, List.length_cons, List.length_nil, List.cons_append, List.nil_append, List.append_nil, List.replicate, List.getElem?_cons_zero, List.getElem?_cons_succ, List.set_cons_zero, List.set_cons_succ, Nat.reduceAdd, Nat.reduceSub, isI_int, isB_int, if_true, if_false, Bool.false_eq_true, Bool.not_true, Bool.not_false, b_l_by_rows_1]
        rw [two_ok (by rw [rowsL_width hr, rowsL_width hx']) (by rw [rowsL_width hr]; exact hw)]
        rfl
      · simp only [run_eq, evSs_cons, evSs_nil, evS_par, evS_asg, evS_asgT, evS_asgR, evS_app, evS_ext, evS_ite, evS_for, evS_ret, evS_raise, evS_expr, evS_pass, ev_bin, ev_var, ev_lit, ev_cmp, ev_chn, ev_isN, ev_notN, ev_and, ev_or, ev_not, ev_ite, ev_call, ev_prim, ev_meth, ev_rev, ev_idx, ev_slc, ev_lst, ev_tup, ev_comp, ev_neg, evs_cons, evs_nil, evO_none, evO_some, evC_none, evC_some, evI_seq, evI_rng1, evI_rng2, evI_enm, evI_zip, partI, then_ok, nx_then, rt_then, ex_then, addI, subI, mulI, fdivI, modI, ltI, leI, gtI, geI, eqI, truthB, ite_and, ite_or, Bool.true_and, Bool.false_and, Bool.and_true, Bool.and_false, Bool.true_or, Bool.false_or, Bool.or_true, Bool.or_false, lim_if, lim_if2, shal_int, shal_bl, shal_str, shal_non, decide_true, decide_false, setAll, bindTg, bindOk, bindExc, ofSome, List.map_cons, List.map_nil, List.length_cons, List.length_nil, List.cons_append, List.nil_append, List.append_nil, List.replicate, List.getElem?_cons_zero, List.getElem?_cons_succ, List.set_cons_zero, List.set_cons_succ, Nat.reduceAdd, Nat.reduceSub, isI_int, isB_int, if_true, if_false, Bool.false_eq_true, Bool.not_true, Bool.not_false]
  have c1 : ev (.comp b_l_by_rows_2 (.nm 7) (.seq (.var 3)) .none [7]) [some (.int h), some (.int w), some (.int ((n + 1 : Nat) : Int)), some (dRows (rowsL h w)), none, none, none, none, none, none, none] = .ok (dNear (nearL (rowsL h w))) := by
    simp only [run_eq, evSs_cons, evSs_nil, evS_par, evS_asg, evS_asgT, evS_asgR, evS_app, evS_ext, evS_ite, evS_for, evS_ret, evS_raise, evS_expr, evS_pass, ev_bin, ev_var, ev_lit, ev_cmp, ev_chn, ev_isN, ev_notN, ev_and, ev_or, ev_not, ev_ite, ev_call, ev_prim, ev_meth, ev_rev, ev_idx, ev_slc, ev_lst, ev_tup, ev_comp, ev_neg, evs_cons, evs_nil, evO_none, evO_some, evC_none, evC_some, evI_seq, evI_rng1, evI_rng2, evI_enm, evI_zip, partI, then_ok, nx_then, rt_then, ex_then, addI, subI, mulI, fdivI, modI, ltI, leI, gtI, geI, eqI, truthB, ite_and, ite_or, Bool.true_and, Bool.false_and, Bool.and_true, Bool.and_false, Bool.true_or, Bool.false_or, Bool.or_true, Bool.or_false, lim_if, lim_if2, shal_int, shal_bl, shal_str, shal_non, decide_true, decide_false, setAll, bindTg, bindOk, bindExc, ofSome, List.map_cons, List.map_nil, List.length_cons, List.length_nil, List.cons_append, List.nil_append, List.append_nil, List.replicate, List.getElem?_cons_zero, List.getElem?_cons_succ, List.set_cons_zero, List.set_cons_succ, Nat.reduceAdd, Nat.reduceSub, isI_int, isB_int, if_true, if_false, Bool.false_eq_true, Bool.not_true, Bool.not_false, dRows, seqOf, wipeE]
    rw [compA (g := fun r => dNats ((((rowsL h w).zipIdx).filter fun p => gt r p.1).map (·.2))) fun r hr => ⟨_, rfl, rfl, inner r hr⟩]
    simp only [run_eq, evSs_cons, evSs_nil, evS_par, evS_asg, evS_asgT, evS_asgR, evS_app, evS_ext, evS_ite, evS_for, evS_ret, evS_raise, evS_expr, evS_pass, ev_bin, ev_var, ev_lit, ev_cmp, ev_chn, ev_isN, ev_notN, ev_and, ev_or, ev_not, ev_ite, ev_call, ev_prim, ev_meth, ev_rev, ev_idx, ev_slc, ev_lst, ev_tup, ev_comp, ev_neg, evs_cons, evs_nil, evO_none, evO_some, evC_none, evC_some, evI_seq, evI_rng1, evI_rng2, evI_enm, evI_zip, partI, then_ok, nx_then, rt_then, ex_then, addI, subI, mulI, fdivI, modI, ltI, leI, gtI, geI, eqI, truthB, ite_and, ite_or, Bool.true_and, Bool.false_and, Bool.and_true, Bool.and_false, Bool.true_or, Bool.false_or, Bool.or_true, Bool.or_false, lim_if, lim_if2, shal_int, shal_bl, shal_str, shal_non, decide_true, decide_false, setAll, bindTg, bindOk, bindExc, ofSome, List.map_cons, List.map_nil, List.length_cons, List.length_nil, List.cons_append, List.nil_append, List.append_nil, List.replicate, List.getElem?_cons_zero, List.getElem?_cons_succ, List.set_cons_zero, List.set_cons_succ, Nat.reduceAdd, Nat.reduceSub, isI_int, isB_int, if_true, if_false, Bool.false_eq_true, Bool.not_true, Bool.not_false, noExc_ok, dNear, nearL, List.map_map, Function.comp_def]
  have c2 : ev (.comp b_l_by_rows_3 (.nm 7) (.seq (.var 3)) .none [7]) [some (.int h), some (.int w), some (.int ((n + 1 : Nat) : Int)), some (dRows (rowsL h w)), some (dNear (nearL (rowsL h w))), none, none, none, none, none, none] = .ok (dInts (iterW (nearL (rowsL h w)) 0)) := by
    simp only [run_eq, evSs_cons, evSs_nil, evS_par, evS_asg, evS_asgT, evS_asgR, evS_app, evS_ext, evS_ite, evS_for, evS_ret, evS_raise, evS_expr, evS_pass, ev_bin, ev_var, ev_lit, ev_cmp, ev_chn, ev_isN, ev_notN, ev_and, ev_or, ev_not, ev_ite, ev_call, ev_prim, ev_meth, ev_rev, ev_idx, ev_slc, ev_lst, ev_tup, ev_comp, ev_neg, evs_cons, evs_nil, evO_none, evO_some, evC_none, evC_some, evI_seq, evI_rng1, evI_rng2, evI_enm, evI_zip, partI, then_ok, nx_then, rt_then, ex_then, addI, subI, mulI, fdivI, modI, ltI, leI, gtI, geI, eqI, truthB, ite_and, ite_or, Bool.true_and, Bool.false_and, Bool.and_true, Bool.and_false, Bool.true_or, Bool.false_or, Bool.or_true, Bool.or_false, lim_if, lim_if2, shal_int, shal_bl, shal_str, shal_non, decide_true, decide_false, setAll, bindTg, bindOk, bindExc, ofSome, List.map_cons, List.map_nil, List.length_cons, List.length_nil, List.cons_append, List.nil_append, List.append_nil, List.replicate, List.getElem?_cons_zero, List.getElem?_cons_succ, List.set_cons_zero, List.set_cons_succ, Nat.reduceAdd, Nat.reduceSub, isI_int, isB_int, if_true, if_false, Bool.false_eq_true, Bool.not_true, Bool.not_false, dRows, seqOf, wipeE]
    rw [compA (g := fun _ => .int 1) fun s hs => ⟨_, rfl, rfl, by simp only [run_eq, evSs_cons, evSs_nil, evS_par, evS_asg, evS_asgT, evS_asgR, evS_app, evS_ext, evS_ite, evS_for, evS_ret, evS_raise, evS_expr, evS_pass, ev_bin, ev_var, ev_lit, ev_cmp, ev_chn, ev_isN, ev_notN, ev_and, ev_or, ev_not, ev_ite, ev_call, ev_prim, ev_meth, ev_rev, ev_idx, ev_slc, ev_lst, ev_tup, ev_comp, ev_neg, evs_cons, evs_nil, evO_none, evO_some, evC_none, evC_some, evI_seq, evI_rng1, evI_rng2, evI_enm, evI_zip, partI, then_ok, nx_then, rt_then, ex_then, addI, subI, mulI, fdivI, modI, ltI, leI, gtI, geI, eqI, truthB, ite_and, ite_or, Bool.true_and, Bool.false_and, Bool.and_true, Bool.and_false, Bool.true_or, Bool.false_or, Bool.or_true, Bool.or_false, lim_if, lim_if2, shal_int, shal_bl, shal_str, shal_non, decide_true, decide_false, setAll, bindTg, bindOk, bindExc, ofSome, List.map_cons, List.map_nil, List.length_cons, List.length_nil, List.cons_append, List.nil_append, List.append_nil, List.replicate, List.getElem?_cons_zero, List.getElem?_cons_succ, List.set_cons_zero, List.set_cons_succ, Nat.reduceAdd, Nat.reduceSub, isI_int, isB_int, if_true, if_false, Bool.false_eq_true, Bool.not_true, Bool.not_false, b_l_by_rows_3]⟩]
    simp only [run_eq, evSs_cons, evSs_nil, evS_par, evS_asg, evS_asgT, evS_asgR, evS_app, evS_ext, evS_ite, evS_for, evS_ret, evS_raise, evS_expr, evS_pass, ev_bin, ev_var, ev_lit, ev_cmp, ev_chn, ev_isN, ev_notN, ev_and, ev_or, ev_not, ev_ite, ev_call, ev_prim, ev_meth, ev_rev, ev_idx, ev_slc, ev_lst, ev_tup, ev_comp, ev_neg, evs_cons, evs_nil, evO_none, evO_some, evC_none, evC_some, evI_seq, evI_rng1, evI_rng2, evI_enm, evI_zip, partI, then_ok, nx_then, rt_then, ex_then, addI, subI, mulI, fdivI, modI, ltI, leI, gtI, geI, eqI, truthB, ite_and, ite_or, Bool.true_and, Bool.false_and, Bool.and_true, Bool.and_false, Bool.true_or, Bool.false_or, Bool.or_true, Bool.or_false, lim_if, lim_if2, shal_int, shal_bl, shal_str, shal_non, decide_true, decide_false, setAll, bindTg, bindOk, bindExc, ofSome, List.map_cons, List.map_nil, List.length_cons, List.length_nil, List.cons_append, List.nil_append, List.append_nil, List.replicate, List.getElem?_cons_zero, List.getElem?_cons_succ, List.set_cons_zero, List.set_cons_succ, Nat.reduceAdd, Nat.reduceSub, isI_int, isB_int, if_true, if_false, Bool.false_eq_true, Bool.not_true, Bool.not_false, noExc_ok, dInts, iterW, List.map_map, Function.comp_def, nearL]
  have key := forL_inv0 (f := evSs b_l_by_rows_6) (tg := .nm 6) (items := rangeL 0 n 1)
    (fun i e => ∃ x, e = [some (.int h), some (.int w), some (.int ((n + 1 : Nat) : Int)), some (dRows (rowsL h w)), some (dNear (nearL (rowsL h w))), some (dInts (iterW (nearL (rowsL h w)) i)), x, none, none, none, none])
    (e := [some (.int h), some (.int w), some (.int ((n + 1 : Nat) : Int)), some (dRows (rowsL h w)), some (dNear (nearL (rowsL h w))), some (dInts (iterW (nearL (rowsL h w)) 0)), none, none, none, none, none]) ⟨none, rfl⟩ fun i d e hd hp => by
      obtain ⟨hi, rfl⟩ := rangeL_at hd
      obtain ⟨x, rfl⟩ := hp
      refine ⟨_, _, rfl, ?_, some (.int (0 + (i : Int) * 1)), rfl⟩
      have inner : ∀ s ∈ nearL (rowsL h w), ev b_l_by_rows_5 [some (.int h), some (.int w), some (.int ((n + 1 : Nat) : Int)), some (dRows (rowsL h w)), some (dNear (nearL (rowsL h w))), some (dInts (iterW (nearL (rowsL h w)) i)), some (.int (0 + (i : Int) * 1)), none, none, none, some (dNats s)] = .ok (.int (s.map fun i_1 => (iterW (nearL (rowsL h w)) i).getD i_1 0).sum) := fun s hs => by
        simp only [run_eq, evSs_cons, evSs_nil, evS_par, evS_asg, evS_asgT, evS_asgR, evS_app, evS_ext, evS_ite, evS_for, evS_ret, evS_raise, evS_expr, evS_pass, ev_bin, ev_var, ev_lit, ev_cmp, ev_chn, ev_isN, ev_notN, ev_and, ev_or, ev_not, ev_ite, ev_call, ev_prim, ev_meth, ev_rev, ev_idx, ev_slc, ev_lst, ev_tup, ev_comp, ev_neg, evs_cons, evs_nil, evO_none, evO_some, evC_none, evC_some, evI_seq, evI_rng1, evI_rng2, evI_enm, evI_zip, partI, then_ok, nx_then, rt_then, ex_then, addI, subI, mulI, fdivI, modI, ltI, leI, gtI, geI, eqI, truthB, ite_and, ite_or, Bool.true_and, Bool.false_and, Bool.and_true, Bool.and_false, Bool.true_or, Bool.false_or, Bool.or_true, Bool.or_false, lim_if, lim_if2, shal_int, shal_bl, shal_str, shal_non, decide_true, decide_false, setAll, bindTg, bindOk, bindExc, ofSome, List.map_cons, List.map_nil, List.length_cons, List.length_nil, List.cons_append, List.nil_append, List.append_nil, List.replicate, List.getElem?_cons_zero, List.getElem?_cons_succ, List.set_cons_zero, List.set_cons_succ, Nat.reduceAdd, Nat.reduceSub, isI_int, isB_int, if_true, if_false, Bool.false_eq_true, Bool.not_true, Bool.not_false, b_l_by_rows_5, dNats, seqOf, wipeE]
        rw [compA (g := fun j => .int ((iterW (nearL (rowsL h w)) i).getD j 0)) fun j hj => ⟨_, rfl, rfl, ?_⟩]
        · simp only [run_eq, evSs_cons, evSs_nil, evS_par, evS_asg, evS_asgT, evS_asgR, evS_app, evS_ext, evS_ite, evS_for, evS_ret, evS_raise, evS_expr, evS_pass, ev_bin, ev_var, ev_lit, ev_cmp, ev_chn, ev_isN, ev_notN, ev_and, ev_or, ev_not, ev_ite, ev_call, ev_prim, ev_meth, ev_rev, ev_idx, ev_slc, ev_lst, ev_tup, ev_comp, ev_neg, evs_cons, evs_nil, evO_none, evO_some, evC_none, evC_some, evI_seq, evI_rng1, evI_rng2, evI_enm, evI_zip, partI, then_ok, nx_then, rt_then, ex_then, addI, subI, mulI, fdivI, modI, ltI, leI, gtI, geI, eqI, truthB, ite_and, ite_or, Bool.true_and, Bool.false_and, Bool.and_true, Bool.and_false, Bool.true_or, Bool.false_or, Bool.or_true, Bool.or_false, lim_if, lim_if2, shal_int, shal_bl, shal_str, shal_non, decide_true, decide_false, setAll, bindTg, bindOk, bindExc, ofSome, List.map_cons, List.map_nil, List.length_cons, List.length_nil, List.cons_append, List.nil_append, List.append_nil, List.replicate, List.getElem?_cons_zero, List.getElem?_cons_succ, List.set_cons_zero, List.set_cons_succ, Nat.reduceAdd, Nat.reduceSub, isI_int, isB_int, if_true, if_false, Bool.false_eq_true, Bool.not_true, Bool.not_false, noExc_ok]
          rw [show (s.map fun j => D.int ((iterW (nearL (rowsL h w)) i).getD j 0)) = (s.map fun j => (iterW (nearL (rowsL h w)) i).getD j 0).map D.int from by rw [List.map_map]; rfl, sumI]
        · have hj' : j < (iterW (nearL (rowsL h w)) i).length := by rw [iterW_length]; exact nearL_ok _ s hs j hj
          simp only [run_eq, evSs_cons, evSs_nil, evS_par, evS_asg, evS_asgT, evS_asgR, evS_app, evS_ext, evS_ite, evS_for, evS_ret, evS_raise, evS_expr, evS_pass, ev_bin, ev_var, ev_lit, ev_cmp, ev_chn, ev_isN, ev_notN, ev_and, ev_or, ev_not, ev_ite, ev_call, ev_prim, ev_meth, ev_rev, ev_idx, ev_slc, ev_lst, ev_tup, ev_comp, ev_neg, evs_cons, evs_nil, evO_none, evO_some, evC_none, evC_some, evI_seq, evI_rng1, evI_rng2, evI_enm, evI_zip, partI, then_ok, nx_then, rt_then, ex_then, addI, subI, mulI, fdivI, modI, ltI, leI, gtI, geI, eqI, truthB, ite_and, ite_or, Bool.true_and, Bool.false_and, Bool.and_true, Bool.and_false, Bool.true_or, Bool.false_or, Bool.or_true, Bool.or_false, lim_if, lim_if2, shal_int, shal_bl, shal_str, shal_non, decide_true, decide_false, setAll, bindTg, bindOk, bindExc, ofSome, List.map_cons, List.map_nil, List.length_cons, List.length_nil, List.cons_append, List.nil_append, List.append_nil, List.replicate, List.getElem?_cons_zero, List.getElem?_cons_succ, List.set_cons_zero, List.set_cons_succ, Nat.reduceAdd, Nat.reduceSub, isI_int, isB_int, if_true, if_false, Bool.false_eq_true, Bool.not_true, Bool.not_false, b_l_by_rows_4]
          rw [dInts, idxL (i := j) rfl (by rw [List.length_map]; exact hj'), getD_int hj']
      have comp : ev (.comp b_l_by_rows_5 (.nm 10) (.seq (.var 4)) .none [10]) [some (.int h), some (.int w), some (.int ((n + 1 : Nat) : Int)), some (dRows (rowsL h w)), some (dNear (nearL (rowsL h w))), some (dInts (iterW (nearL (rowsL h w)) i)), some (.int (0 + (i : Int) * 1)), none, none, none, none] = .ok (dInts (iterW (nearL (rowsL h w)) (i + 1))) := by
        simp only [run_eq, evSs_cons, evSs_nil, evS_par, evS_asg, evS_asgT, evS_asgR, evS_app, evS_ext, evS_ite, evS_for, evS_ret, evS_raise, evS_expr, evS_pass, ev_bin, ev_var, ev_lit, ev_cmp, ev_chn, ev_isN, ev_notN, ev_and, ev_or, ev_not, ev_ite, ev_call, ev_prim, ev_meth, ev_rev, ev_idx, ev_slc, ev_lst, ev_tup, ev_comp, ev_neg, evs_cons, evs_nil, evO_none, evO_some, evC_none, evC_some, evI_seq, evI_rng1, evI_rng2, evI_enm, evI_zip, partI, then_ok, nx_then, rt_then, ex_then, addI, subI, mulI, fdivI, modI, ltI, leI, gtI, geI, eqI, truthB, ite_and, ite_or, Bool.true_and, Bool.false_and, Bool.and_true, Bool.and_false, Bool.true_or, Bool.false_or, Bool.or_true, Bool.or_false, lim_if, lim_if2, shal_int, shal_bl, shal_str, shal_non, decide_true, decide_false, setAll, bindTg, bindOk, bindExc, ofSome, List.map_cons, List.map_nil, List.length_cons, List.length_nil, List.cons_append, List.nil_append, List.append_nil, List.replicate, List.getElem?_cons_zero, List.getElem?_cons_succ, List.set_cons_zero, List.set_cons_succ, Nat.reduceAdd, Nat.reduceSub, isI_int, isB_int, if_true, if_false, Bool.false_eq_true, Bool.not_true, Bool.not_false, dNear, seqOf, wipeE]
        rw [compA (g := fun s => .int (s.map fun i_1 => (iterW (nearL (rowsL h w)) i).getD i_1 0).sum) fun s hs => ⟨_, rfl, rfl, inner s hs⟩]
        simp only [run_eq, evSs_cons, evSs_nil, evS_par, evS_asg, evS_asgT, evS_asgR, evS_app, evS_ext, evS_ite, evS_for, evS_ret, evS_raise, evS_expr, evS_pass, ev_bin, ev_var, ev_lit, ev_cmp, ev_chn, ev_isN, ev_notN, ev_and, ev_or, ev_not, ev_ite, ev_call, ev_prim, ev_meth, ev_rev, ev_idx, ev_slc, ev_lst, ev_tup, ev_comp, ev_neg, evs_cons, evs_nil, evO_none, evO_some, evC_none, evC_some, evI_seq, evI_rng1, evI_rng2, evI_enm, evI_zip, partI, then_ok, nx_then, rt_then, ex_then, addI, subI, mulI, fdivI, modI, ltI, leI, gtI, geI, eqI, truthB, ite_and, ite_or, Bool.true_and, Bool.false_and, Bool.and_true, Bool.and_false, Bool.true_or, Bool.false_or, Bool.or_true, Bool.or_false, lim_if, lim_if2, shal_int, shal_bl, shal_str, shal_non, decide_true, decide_false, setAll, bindTg, bindOk, bindExc, ofSome, List.map_cons, List.map_nil, List.length_cons, List.length_nil, List.cons_append, List.nil_append, List.append_nil, List.replicate, List.getElem?_cons_zero, List.getElem?_cons_succ, List.set_cons_zero, List.set_cons_succ, Nat.reduceAdd, Nat.reduceSub, isI_int, isB_int, if_true, if_false, Bool.false_eq_true, Bool.not_true, Bool.not_false, noExc_ok, dInts, iterW, stepW, List.map_map, Function.comp_def]
      simp only [run_eq, evSs_cons, evSs_nil, evS_par, evS_asg, evS_asgT, evS_asgR, evS_app, evS_ext, evS_ite, evS_for, evS_ret, evS_raise, evS_expr, evS_pass, ev_bin, ev_var, ev_lit, ev_cmp, ev_chn, ev_isN, ev_notN, ev_and, ev_or, ev_not, ev_ite, ev_call, ev_prim, ev_meth, ev_rev, ev_idx, ev_slc, ev_lst, ev_tup, ev_comp, ev_neg, evs_cons, evs_nil, evO_none, evO_some, evC_none, evC_some, evI_seq, evI_rng1, evI_rng2, evI_enm, evI_zip, partI, then_ok, nx_then, rt_then, ex_then, addI, subI, mulI, fdivI, modI, ltI, leI, gtI, geI, eqI, truthB, ite_and, ite_or, Bool.true_and, Bool.false_and, Bool.and_true, Bool.and_false, Bool.true_or, Bool.false_or, Bool.or_true, Bool.or_false, lim_if, lim_if2, shal_int, shal_bl, shal_str, shal_non, decide_true, decide_false, setAll, bindTg, bindOk, bindExc, ofSome, List.map_cons, List.map_nil, List.length_cons, List.length_nil, List.cons_append, List.nil_append, List.append_nil, List.replicate, List.getElem?_cons_zero, List.getElem?_cons_succ, List.set_cons_zero, List.set_cons_succ, Nat.reduceAdd, Nat.reduceSub, isI_int, isB_int, if_true, if_false, Bool.false_eq_true, Bool.not_true, Bool.not_false, b_l_by_rows_6, ↓comp]
  obtain ⟨e', k1, x, rfl⟩ := key
  rw [rangeL_length] at k1
  have hr : rng1F (.int (((n + 1 : Nat) : Int) - 1)) = .ok (rangeL 0 n 1) := by
    rw [rng1I (by omega)]
    congr 2
    omega
  simp (disch := omega) only [run_eq, evSs_cons, evSs_nil, evS_par, evS_asg, evS_asgT, evS_asgR, evS_app, evS_ext, evS_ite, evS_for, evS_ret, evS_raise, evS_expr, evS_pass, ev_bin, ev_var, ev_lit, ev_cmp, ev_chn, ev_isN, ev_notN, ev_and, ev_or, ev_not, ev_ite, ev_call, ev_prim, ev_meth, ev_rev, ev_idx, ev_slc, ev_lst, ev_tup, ev_comp, ev_neg, evs_cons, evs_nil, evO_none, evO_some, evC_none, evC_some, evI_seq, evI_rng1, evI_rng2, evI_enm, evI_zip, partI, then_ok, nx_then, rt_then, ex_then, addI, subI, mulI, fdivI, modI, ltI, leI, gtI, geI, eqI, truthB, ite_and, ite_or, Bool.true_and, Bool.false_and, Bool.and_true, Bool.and_false, Bool.true_or, Bool.false_or, Bool.or_true, Bool.or_false, lim_if, lim_if2, shal_int, shal_bl, shal_str, shal_non, decide_true, decide_false, setAll, bindTg, bindOk, bindExc, ofSome, List.map_cons, List.map_nil, List.length_cons, List.length_nil, List.cons_append, List.nil_append, List.append_nil, List.replicate, List.getElem?_cons_zero, List.getElem?_cons_succ, List.set_cons_zero, List.set_cons_succ, Nat.reduceAdd, Nat.reduceSub, isI_int, isB_int, if_true, if_false, Bool.false_eq_true, Bool.not_true, Bool.not_false, den_l_by_rows, b_l_by_rows, l_rows_ok k, ↓c1, ↓c2, hr, k1, rangeL_length]
  rw [dInts, sumI]
  rfl
/-! ### what is counted -/
theorem cnt1 (h : Nat) (hh : h = 2 ∨ h = 3) (n : Nat) : countL h 1 (n + 1) = (h : Int) ^ (n + 1) := by
  rcases hh with rfl | rfl
  · have e : nearL (rowsL 2 1) = [[0, 1], [0, 1]] := by decide +kernel
    have : ∀ n, iterW (nearL (rowsL 2 1)) n = [2 ^ n, 2 ^ n] := fun n => by
      rw [e]
      induction n with
      | zero => rfl
      | succ n ih =>
        rw [iterW, ih]
        simp only [stepW, List.map_cons, List.map_nil, List.getD_cons_zero, List.getD_cons_succ, List.sum_cons, List.sum_nil]
        have : (2 : Int) ^ (n + 1) = 2 ^ n * 2 := Int.pow_succ ..
        rw [this]
        congr 1
        · omega
        · congr 1
          omega
    show (iterW _ n).sum = _
    rw [this]
    simp only [List.sum_cons, List.sum_nil]
    have : (2 : Int) ^ (n + 1) = 2 ^ n * 2 := Int.pow_succ ..
    show (2 : Int) ^ n + (2 ^ n + 0) = 2 ^ (n + 1)
    omega
  · have e : nearL (rowsL 3 1) = [[0, 1, 2], [0, 1, 2], [0, 1, 2]] := by decide +kernel
    have : ∀ n, iterW (nearL (rowsL 3 1)) n = [3 ^ n, 3 ^ n, 3 ^ n] := fun n => by
      rw [e]
      induction n with
      | zero => rfl
      | succ n ih =>
        rw [iterW, ih]
        simp only [stepW, List.map_cons, List.map_nil, List.getD_cons_zero, List.getD_cons_succ, List.sum_cons, List.sum_nil]
        have : (3 : Int) ^ (n + 1) = 3 ^ n * 3 := Int.pow_succ ..
        rw [this]
        have : (3 : Int) ^ n + (3 ^ n + (3 ^ n + 0)) = 3 ^ n * 3 := by omega
        rw [this]
    show (iterW _ n).sum = _
    rw [this]
    simp only [List.sum_cons, List.sum_nil]
    have : (3 : Int) ^ (n + 1) = 3 ^ n * 3 := Int.pow_succ ..
    show (3 : Int) ^ n + (3 ^ n + (3 ^ n + 0)) = 3 ^ (n + 1)
    omega
theorem cnt2 (h : Nat) (hh : h = 2 ∨ h = 3) (n : Nat) : countL h 2 (n + 1) = (twoL h n).1 + (twoL h n).2 := by
  rcases hh with rfl | rfl
  · have e : nearL (rowsL 2 2) = [[1, 2, 3], [0, 1, 2, 3], [0, 1, 2, 3], [0, 1, 2]] := by decide +kernel
    have : ∀ n, ∃ a b, iterW (nearL (rowsL 2 2)) n = [a, b, b, a] ∧ twoL 2 n = (2 * a, 2 * b) := fun n => by
      rw [e]
      induction n with
      | zero => exact ⟨1, 1, rfl, rfl⟩
      | succ n ih =>
        obtain ⟨a, b, h1, h2⟩ := ih
        refine ⟨a + 2 * b, 2 * a + 2 * b, ?_, ?_⟩
        · rw [iterW, h1]
          simp only [stepW, List.map_cons, List.map_nil, List.getD_cons_zero, List.getD_cons_succ, List.sum_cons, List.sum_nil, List.cons.injEq, and_true]
          refine ⟨?_, ?_, ?_, ?_⟩ <;> omega
        · rw [twoL, h2]
          simp only [Prod.mk.injEq]
          constructor <;> omega
    obtain ⟨a, b, h1, h2⟩ := this n
    show (iterW _ n).sum = _
    rw [h1]
    show _ = (twoL 2 n).1 + (twoL 2 n).2
    rw [h2]
    simp only [List.sum_cons, List.sum_nil]
    omega
  · have e : nearL (rowsL 3 2) = [[1, 2, 3, 4, 5, 6, 7, 8], [0, 1, 2, 3, 4, 5, 6, 7, 8], [0, 1, 2, 3, 4, 5, 6, 7, 8], [0, 1, 2, 3, 4, 5, 6, 7, 8], [0, 1, 2, 3, 5, 6, 7, 8], [0, 1, 2, 3, 4, 5, 6, 7, 8], [0, 1, 2, 3, 4, 5, 6, 7, 8], [0, 1, 2, 3, 4, 5, 6, 7, 8], [0, 1, 2, 3, 4, 5, 6, 7]] := by decide +kernel
    have : ∀ n, ∃ a b, iterW (nearL (rowsL 3 2)) n = [a, b, b, b, a, b, b, b, a] ∧ twoL 3 n = (3 * a, 6 * b) := fun n => by
      rw [e]
      induction n with
      | zero => exact ⟨1, 1, rfl, rfl⟩
      | succ n ih =>
        obtain ⟨a, b, h1, h2⟩ := ih
        refine ⟨2 * a + 6 * b, 3 * a + 6 * b, ?_, ?_⟩
        · rw [iterW, h1]
          simp only [stepW, List.map_cons, List.map_nil, List.getD_cons_zero, List.getD_cons_succ, List.sum_cons, List.sum_nil, List.cons.injEq, and_true]
          refine ⟨?_, ?_, ?_, ?_, ?_, ?_, ?_, ?_, ?_⟩ <;> omega
        · rw [twoL, h2]
          simp only [Prod.mk.injEq]
          constructor <;> omega
    obtain ⟨a, b, h1, h2⟩ := this n
    show (iterW _ n).sum = _
    rw [h1]
    show _ = (twoL 3 n).1 + (twoL 3 n).2
    rw [h2]
    simp only [List.sum_cons, List.sum_nil]
    omega
theorem cnt_turned {h w f : Nat} (k : Kd h w) (k2 : Kd h f) : countL h w f = countL h f w := by
  have a2 : ∀ w, w < 4 → ∀ f, f < 4 → countL 2 (w + 1) (f + 1) = countL 2 (f + 1) (w + 1) := by decide +kernel
  have a3 : ∀ w, w < 3 → ∀ f, f < 3 → countL 3 (w + 1) (f + 1) = countL 3 (f + 1) (w + 1) := by decide +kernel
  obtain ⟨w, rfl⟩ : ∃ m, w = m + 1 := ⟨w - 1, by unfold Kd at k; omega⟩
  obtain ⟨f, rfl⟩ : ∃ m, f = m + 1 := ⟨f - 1, by unfold Kd at k2; omega⟩
  rcases k with ⟨rfl, h1, h2⟩ | ⟨rfl, h1, h2⟩
  · exact a2 w (by omega) f (by unfold Kd at k2; omega)
  · exact a3 w (by omega) f (by unfold Kd at k2; omega)
theorem eqI' (i j : Int) : cmpF .eq (.int i) (.int j) = .ok (.bl (decide (i = j))) := by
  rw [eqI]
  by_cases h : i = j <;> simp [h]
theorem neI' (i j : Int) : cmpF .ne (.int i) (.int j) = .ok (.bl (!decide (i = j))) := by
  rw [neI]
  by_cases h : i = j <;> simp [h]
theorem rngNat {j : Int} {n : Nat} (h : j = n) (hn : n ≤ 100000) : rng1F (.int j) = .ok (rangeL 0 n 1) := by
  subst h
  rw [rng1I (by omega)]
  rfl
theorem kind_Kd (ns : List Int) (b : Int) : ∃ h w : Nat, kindH ns b = (h : Int) ∧ kindV ns b = (w : Int) ∧ Kd h w := by
  have h1 := kindH_or ns b
  have h2 := kindV_le ns b
  unfold wideOf at h2
  refine ⟨(kindH ns b).toNat, (kindV ns b).toNat, by omega, by split at h2 <;> omega, ?_⟩
  unfold Kd
  rcases h1 with h1 | h1
  · rw [h1] at h2 ⊢
    simp at h2
    left
    omega
  · rw [h1] at h2 ⊢
    simp at h2
    right
    omega
end Dn
namespace Dn
open Hue
def b_mirrored_1 : Tm := (.rev (.var 2))
def b_mirrored : Sts := (.cons (.expr (.call den_check_hues true (.cons (.var 0) .nil))) (.cons (.expr (.call den_check_floor true (.cons (.var 0) (.cons (.var 1) .nil)))) (.cons (.ret (.comp b_mirrored_1 (.nm 2) (.seq (.var 1)) .none [2])) .nil)))
def den_mirrored : List D → R D := run 3 b_mirrored
def b_turned_1 : Tm := (.idx (.var 3) (.var 2))
def b_turned_2 : Tm := (.meth .join (.lit (.str [])) (.comp b_turned_1 (.nm 3) (.seq (.rev (.var 1))) .none [3]))
def b_turned : Sts := (.cons (.expr (.call den_check_hues true (.cons (.var 0) .nil))) (.cons (.expr (.call den_check_floor true (.cons (.var 0) (.cons (.var 1) .nil)))) (.cons (.ite (.cmp .gt (.prim .len (.cons (.var 1) .nil)) (.call den_widest true (.cons (.var 0) .nil))) (.cons (.raise 11) .nil) .nil) (.cons (.ret (.comp b_turned_2 (.nm 2) (.rng1 (.prim .len (.cons (.idx (.var 1) (.lit (.int 0))) .nil))) .none [2])) .nil))))
def den_turned : List D → R D := run 4 b_turned
def b_exchanged_1 : Tm := (.call den_is_whole false (.cons (.var 3) .nil))
def b_exchanged_2 : Tm := (.idx (.lit (.str [48, 49, 50])) (.idx (.var 2) (.meth .index (.lit (.str [48, 49, 50])) (.var 5))))
def b_exchanged_3 : Tm := (.meth .join (.lit (.str [])) (.comp b_exchanged_2 (.nm 5) (.seq (.var 4)) .none [5]))
def b_exchanged : Sts := (.cons (.expr (.call den_check_hues true (.cons (.var 0) .nil))) (.cons (.expr (.call den_check_floor true (.cons (.var 0) (.cons (.var 1) .nil)))) (.cons (.ite (.or (.not (.prim .isL (.cons (.var 2) .nil))) (.not (.prim .all (.cons (.comp b_exchanged_1 (.nm 3) (.seq (.var 2)) .none [3]) .nil)))) (.cons (.raise 7) .nil) .nil) (.cons (.ite (.cmp .ne (.prim .sorted (.cons (.var 2) .nil)) (.prim .lrng1 (.cons (.var 0) .nil))) (.cons (.raise 7) .nil) .nil) (.cons (.ret (.comp b_exchanged_3 (.nm 4) (.seq (.var 1)) .none [4])) .nil)))))
def den_exchanged : List D → R D := run 6 b_exchanged
def b_beside_1 : Tm := (.bin .add (.var 3) (.var 4))
def b_beside : Sts := (.cons (.expr (.call den_check_hues true (.cons (.var 0) .nil))) (.cons (.expr (.call den_check_floor true (.cons (.var 0) (.cons (.var 1) .nil)))) (.cons (.expr (.call den_check_floor true (.cons (.var 0) (.cons (.var 2) .nil)))) (.cons (.ite (.cmp .ne (.prim .len (.cons (.var 1) .nil)) (.prim .len (.cons (.var 2) .nil))) (.cons (.raise 3) .nil) .nil) (.cons (.ite (.cmp .gt (.bin .add (.prim .len (.cons (.idx (.var 1) (.lit (.int 0))) .nil)) (.prim .len (.cons (.idx (.var 2) (.lit (.int 0))) .nil))) (.call den_widest true (.cons (.var 0) .nil))) (.cons (.raise 11) .nil) .nil) (.cons (.ret (.comp b_beside_1 (.tp [3, 4]) (.zip (.var 1) (.var 2)) .none [3, 4])) .nil))))))
def den_beside : List D → R D := run 5 b_beside
def b_above : Sts := (.cons (.expr (.call den_check_hues true (.cons (.var 0) .nil))) (.cons (.expr (.call den_check_floor true (.cons (.var 0) (.cons (.var 1) .nil)))) (.cons (.expr (.call den_check_floor true (.cons (.var 0) (.cons (.var 2) .nil)))) (.cons (.ite (.cmp .ne (.prim .len (.cons (.idx (.var 1) (.lit (.int 0))) .nil)) (.prim .len (.cons (.idx (.var 2) (.lit (.int 0))) .nil))) (.cons (.raise 2) .nil) .nil) (.cons (.ite (.cmp .gt (.bin .add (.prim .len (.cons (.var 1) .nil)) (.prim .len (.cons (.var 2) .nil))) (.lit (.int 8))) (.cons (.raise 11) .nil) .nil) (.cons (.ret (.bin .add (.var 1) (.var 2))) .nil))))))
def den_above : List D → R D := run 3 b_above
def b_plain_1 : Sts := (.cons (.ite (.not (.call den_go_together true (.cons (.slc (.idx (.var 1) (.var 3)) (.some (.var 4)) (.some (.bin .add (.var 4) (.lit (.int 2))))) (.cons (.slc (.idx (.var 1) (.bin .add (.var 3) (.lit (.int 1)))) (.some (.var 4)) (.some (.bin .add (.var 4) (.lit (.int 2))))) .nil)))) (.cons (.app 2 (.tup (.cons (.var 3) (.cons (.var 4) .nil)))) .nil) .nil) .nil)
def b_plain_2 : Sts := (.cons (.for_ (.nm 4) (.rng1 (.bin .sub (.prim .len (.cons (.idx (.var 1) (.lit (.int 0))) .nil)) (.lit (.int 1)))) b_plain_1) .nil)
def b_plain : Sts := (.cons (.expr (.call den_check_hues true (.cons (.var 0) .nil))) (.cons (.expr (.call den_check_floor true (.cons (.var 0) (.cons (.var 1) .nil)))) (.cons (.asg (.nm 2) (.lst .nil)) (.cons (.for_ (.nm 3) (.rng1 (.bin .sub (.prim .len (.cons (.var 1) .nil)) (.lit (.int 1)))) b_plain_2) (.cons (.ret (.var 2)) .nil)))))
def den_plain : List D → R D := run 5 b_plain
def b_l_floor_1 : Sts := (.cons (.asg (.nm 12) (.idx (.var 5) (.bin .mod (.bin .add (.bin .add (.bin .mul (.var 3) (.var 9)) (.var 11)) (.var 1)) (.prim .len (.cons (.var 5) .nil))))) (.cons (.asg (.nm 13) (.bin .fdiv (.call den_l_number true (.cons (.bin .add (.bin .add (.var 12) (.bin .mul (.lit (.int 7)) (.var 9))) (.var 11)) (.cons (.bin .add (.var 9) (.var 1)) (.cons (.var 6) .nil)))) (.lit (.int 11)))) (.cons (.asg (.nm 14) (.bin .mod (.bin .add (.bin .add (.var 9) (.var 11)) (.prim .int (.cons (.and (.cmp .eq (.var 8) (.lit (.int 4))) (.cmp .eq (.bin .mod (.var 13) (.lit (.int 5))) (.lit (.int 0)))) .nil))) (.var 2))) (.cons (.asg (.nm 15) (.lst (.cons (.bin .mod (.var 13) (.var 2)) (.cons (.var 14) (.cons (.prim .int (.cons (.cmp .eq (.bin .mod (.var 13) (.lit (.int 4))) (.lit (.int 0))) .nil)) .nil))))) (.cons (.asg (.nm 15) (.bin .add (.var 15) (.lst (.cons (.bin .mod (.bin .add (.var 13) (.var 11)) (.var 2)) (.cons (.var 14) .nil))))) (.cons (.asg (.nm 10) (.bin .add (.var 10) (.idx (.lit (.str [48, 49, 50])) (.idx (.var 15) (.var 8))))) .nil))))))
def b_l_floor_2 : Sts := (.cons (.asg (.nm 10) (.lit (.str []))) (.cons (.for_ (.nm 11) (.rng1 (.var 3)) b_l_floor_1) (.cons (.app 7 (.ite (.and (.cmp .eq (.var 8) (.lit (.int 3))) (.cmp .eq (.bin .mod (.var 9) (.lit (.int 3))) (.lit (.int 1)))) (.idx (.var 7) (.neg (.lit (.int 1)))) (.var 10))) .nil)))
def b_l_floor : Sts := (.cons (.asg (.nm 5) (.ite (.cmp .ne (.var 0) (.lst .nil)) (.slc (.var 0) .none (.some (.lit (.int 63)))) (.lst (.cons (.lit (.int 5)) .nil)))) (.cons (.par [6, 7] (.cons (.bin .add (.prim .sum (.cons (.var 5) .nil)) (.var 1)) (.cons (.lst .nil) .nil))) (.cons (.asg (.nm 8) (.bin .mod (.bin .fdiv (.call den_l_number true (.cons (.var 6) (.cons (.bin .add (.var 1) (.lit (.int 3))) (.cons (.lit (.int 5)) .nil)))) (.lit (.int 7))) (.lit (.int 5)))) (.cons (.for_ (.nm 9) (.rng1 (.var 4)) b_l_floor_2) (.cons (.ret (.var 7)) .nil)))))
def den_l_floor : List D → R D := run 16 b_l_floor
def b_l_plain_1 : Sts := (.cons (.asg (.nm 4) (.slc (.idx (.var 0) (.var 2)) (.some (.var 3)) (.some (.bin .add (.var 3) (.lit (.int 2)))))) (.cons (.asg (.nm 4) (.bin .add (.var 4) (.slc (.idx (.var 0) (.bin .add (.var 2) (.lit (.int 1)))) (.some (.var 3)) (.some (.bin .add (.var 3) (.lit (.int 2))))))) (.cons (.ite (.cmp .eq (.var 4) (.bin .mul (.lit (.int 4)) (.idx (.var 4) (.lit (.int 0))))) (.cons (.app 1 (.tup (.cons (.var 2) (.cons (.var 3) .nil)))) .nil) .nil) .nil)))
def b_l_plain_2 : Sts := (.cons (.for_ (.nm 3) (.rng1 (.bin .sub (.prim .len (.cons (.idx (.var 0) (.lit (.int 0))) .nil)) (.lit (.int 1)))) b_l_plain_1) .nil)
def b_l_plain : Sts := (.cons (.asg (.nm 1) (.lst .nil)) (.cons (.for_ (.nm 2) (.rng1 (.bin .sub (.prim .len (.cons (.var 0) .nil)) (.lit (.int 1)))) b_l_plain_2) (.cons (.ret (.var 1)) .nil)))
def den_l_plain : List D → R D := run 5 b_l_plain
def b_l_turned_1 : Tm := (.idx (.idx (.var 0) (.bin .sub (.bin .sub (.var 1) (.lit (.int 1))) (.var 4))) (.var 3))
def b_l_turned_2 : Sts := (.cons (.app 2 (.meth .join (.lit (.str [])) (.comp b_l_turned_1 (.nm 4) (.rng1 (.var 1)) .none [4]))) .nil)
def b_l_turned : Sts := (.cons (.par [1, 2] (.cons (.prim .len (.cons (.var 0) .nil)) (.cons (.lst .nil) .nil))) (.cons (.for_ (.nm 3) (.rng1 (.prim .len (.cons (.idx (.var 0) (.lit (.int 0))) .nil))) b_l_turned_2) (.cons (.ret (.var 2)) .nil)))
def den_l_turned : List D → R D := run 5 b_l_turned
def b_l_exchanged_1 : Tm := (.prim .str (.cons (.idx (.var 1) (.prim .int (.cons (.var 3) .nil))) .nil))
def b_l_exchanged_2 : Tm := (.meth .join (.lit (.str [])) (.comp b_l_exchanged_1 (.nm 3) (.seq (.var 2)) .none [3]))
def b_l_exchanged : Sts := (.cons (.ret (.comp b_l_exchanged_2 (.nm 2) (.seq (.var 0)) .none [2])) .nil)
def den_l_exchanged : List D → R D := run 4 b_l_exchanged
def b_l_one_right_k03_1 : Tm := (.rev (.var 8))
def b_l_one_right_k03_2 : Sts := (.cons (.asgR 6 true (.call den_turned true (.cons (.var 0) (.cons (.var 6) .nil)))) (.cons (.ite (.or (.and (.cmp .eq (.var 7) (.lit (.int 0))) (.cmp .ne (.var 6) (.call den_l_turned true (.cons (.var 1) .nil)))) (.cmp .ne (.prim .len (.cons (.call den_plain true (.cons (.var 0) (.cons (.var 6) .nil))) .nil)) (.var 4))) (.cons (.ret (.lit (.bl false))) .nil) .nil) .nil))
def b_l_one_right_k03 : Sts := (.cons (.par [3, 4] (.cons (.prim .list (.cons (.var 1) .nil)) (.cons (.prim .len (.cons (.call den_l_plain true (.cons (.var 1) .nil)) .nil)) .nil))) (.cons (.ite (.or (.cmp .ne (.call den_plain true (.cons (.var 0) (.cons (.var 3) .nil))) (.call den_l_plain true (.cons (.var 1) .nil))) (.cmp .ne (.call den_mirrored true (.cons (.var 0) (.cons (.var 3) .nil))) (.comp b_l_one_right_k03_1 (.nm 8) (.seq (.var 1)) .none [8]))) (.cons (.ret (.lit (.bl false))) .nil) .nil) (.cons (.ite (.or (.cmp .ne (.call den_exchanged true (.cons (.var 0) (.cons (.var 3) (.cons (.var 2) .nil)))) (.call den_l_exchanged true (.cons (.var 1) (.cons (.var 2) .nil)))) (.cmp .ne (.var 3) (.var 1))) (.cons (.ret (.lit (.bl false))) .nil) .nil) (.cons (.ite (.or (.cmp .ne (.prim .len (.cons (.call den_plain true (.cons (.var 0) (.cons (.call den_mirrored true (.cons (.var 0) (.cons (.var 1) .nil))) .nil))) .nil)) (.var 4)) (.cmp .ne (.prim .len (.cons (.call den_plain true (.cons (.var 0) (.cons (.call den_exchanged true (.cons (.var 0) (.cons (.var 1) (.cons (.var 2) .nil)))) .nil))) .nil)) (.var 4))) (.cons (.ret (.lit (.bl false))) .nil) .nil) (.cons (.asg (.nm 5) (.call den_mirrored true (.cons (.var 0) (.cons (.var 1) .nil)))) (.cons (.app 5 (.lit (.str []))) (.cons (.ite (.cmp .ne (.call den_mirrored true (.cons (.var 0) (.cons (.call den_mirrored true (.cons (.var 0) (.cons (.var 3) .nil))) .nil))) (.var 1)) (.cons (.ret (.lit (.bl false))) .nil) .nil) (.cons (.ite (.cmp .le (.prim .len (.cons (.var 1) .nil)) (.ite (.cmp .eq (.var 0) (.lit (.int 2))) (.lit (.int 4)) (.lit (.int 3)))) (.cons (.asg (.nm 6) (.prim .list (.cons (.var 1) .nil))) (.cons (.for_ (.nm 7) (.rng1 (.lit (.int 4))) b_l_one_right_k03_2) (.cons (.ite (.cmp .ne (.var 6) (.var 1)) (.cons (.ret (.lit (.bl false))) .nil) .nil) .nil))) .nil) (.cons (.ret (.lit (.bl true))) .nil)))))))))
def den_l_one_right_k03 : List D → R D := run 9 b_l_one_right_k03
def b_law_k03_1 : Tm := (.slc (.var 9) .none (.some (.lit (.int 1))))
def b_law_k03_2 : Tm := (.bin .add (.var 9) (.slc (.var 9) .none (.some (.lit (.int 1)))))
def b_law_k03_3 : Tm := (.bin .mul (.lit (.int 2)) (.var 9))
def b_law_k03_4 : Sts := (.cons (.asg (.tp [3, 4]) (.call den_l_kind false (.cons (.var 0) (.cons (.var 2) .nil)))) (.cons (.asg (.nm 5) (.ite (.cmp .eq (.var 3) (.lit (.int 2))) (.tup (.cons (.lst (.cons (.lit (.int 0)) (.cons (.lit (.int 1)) .nil))) (.cons (.lst (.cons (.lit (.int 1)) (.cons (.lit (.int 0)) .nil))) .nil))) (.tup (.cons (.lst (.cons (.lit (.int 0)) (.cons (.lit (.int 1)) (.cons (.lit (.int 2)) .nil)))) (.cons (.lst (.cons (.lit (.int 1)) (.cons (.lit (.int 2)) (.cons (.lit (.int 0)) .nil)))) (.cons (.lst (.cons (.lit (.int 2)) (.cons (.lit (.int 1)) (.cons (.lit (.int 0)) .nil)))) (.cons (.lst (.cons (.lit (.int 0)) (.cons (.lit (.int 2)) (.cons (.lit (.int 1)) .nil)))) (.cons (.lst (.cons (.lit (.int 2)) (.cons (.lit (.int 0)) (.cons (.lit (.int 1)) .nil)))) .nil)))))))) (.cons (.asg (.nm 6) (.call den_l_floor true (.cons (.var 0) (.cons (.var 2) (.cons (.var 3) (.cons (.var 4) (.cons (.bin .add (.lit (.int 1)) (.bin .mod (.bin .fdiv (.var 1) (.bin .add (.lit (.int 2)) (.var 2))) (.lit (.int 4)))) .nil))))))) (.cons (.asg (.nm 7) (.call den_l_floor true (.cons (.var 0) (.cons (.bin .add (.var 2) (.lit (.int 2))) (.cons (.var 3) (.cons (.var 4) (.cons (.lit (.int 3)) .nil))))))) (.cons (.ite (.not (.call den_l_one_right_k03 true (.cons (.var 3) (.cons (.var 6) (.cons (.idx (.var 5) (.bin .mod (.bin .fdiv (.var 1) (.lit (.int 5))) (.prim .len (.cons (.var 5) .nil)))) .nil))))) (.cons (.ret (.lit (.bl false))) .nil) .nil) (.cons (.ite (.not (.call den_l_one_right_k03 true (.cons (.var 3) (.cons (.var 7) (.cons (.idx (.var 5) (.neg (.lit (.int 1)))) .nil))))) (.cons (.ret (.lit (.bl false))) .nil) .nil) (.cons (.ite (.or (.cmp .ne (.call den_above true (.cons (.var 3) (.cons (.var 6) (.cons (.var 7) .nil)))) (.bin .add (.var 6) (.var 7))) (.cmp .ne (.call den_above true (.cons (.var 3) (.cons (.var 7) (.cons (.var 7) .nil)))) (.bin .mul (.var 7) (.lit (.int 2))))) (.cons (.ret (.lit (.bl false))) .nil) .nil) (.cons (.asg (.nm 8) (.comp b_law_k03_1 (.nm 9) (.seq (.var 7)) .none [9])) (.cons (.ite (.and (.cmp .lt (.var 4) (.ite (.cmp .eq (.var 3) (.lit (.int 2))) (.lit (.int 4)) (.lit (.int 3)))) (.cmp .ne (.call den_beside true (.cons (.var 3) (.cons (.var 7) (.cons (.var 8) .nil)))) (.comp b_law_k03_2 (.nm 9) (.seq (.var 7)) .none [9]))) (.cons (.ret (.lit (.bl false))) .nil) .nil) (.cons (.ite (.cmp .ne (.call den_beside true (.cons (.var 3) (.cons (.var 8) (.cons (.var 8) .nil)))) (.comp b_law_k03_3 (.nm 9) (.seq (.var 8)) .none [9])) (.cons (.ret (.lit (.bl false))) .nil) .nil) .nil))))))))))
def b_law_k03 : Sts := (.cons (.asg (.nm 1) (.prim .abs (.cons (.prim .sum (.cons (.slc (.var 0) .none (.some (.lit (.int 63)))) .nil)) .nil))) (.cons (.for_ (.nm 2) (.rng1 (.lit (.int 2))) b_law_k03_4) (.cons (.ite (.or (.cmp .ne (.call den_turned true (.cons (.lit (.int 2)) (.cons (.lst (.cons (.lit (.str [48, 48, 49])) (.cons (.lit (.str [48, 49, 49])) (.cons (.lit (.str [48, 48, 48])) .nil)))) .nil))) (.lst (.cons (.lit (.str [48, 48, 48])) (.cons (.lit (.str [48, 49, 48])) (.cons (.lit (.str [48, 49, 49])) .nil))))) (.cmp .ne (.call den_exchanged true (.cons (.lit (.int 3)) (.cons (.lst (.cons (.lit (.str [48, 49, 50])) .nil)) (.cons (.lst (.cons (.lit (.int 1)) (.cons (.lit (.int 2)) (.cons (.lit (.int 0)) .nil)))) .nil)))) (.lst (.cons (.lit (.str [49, 50, 48])) .nil)))) (.cons (.ret (.lit (.bl false))) .nil) .nil) (.cons (.ret (.cmp .eq (.call den_plain true (.cons (.lit (.int 2)) (.cons (.lst (.cons (.lit (.str [48, 48, 49, 49])) (.cons (.lit (.str [48, 48, 49, 49])) (.cons (.lit (.str [49, 49, 49, 49])) .nil)))) .nil))) (.lst (.cons (.tup (.cons (.lit (.int 0)) (.cons (.lit (.int 0)) .nil))) (.cons (.tup (.cons (.lit (.int 0)) (.cons (.lit (.int 2)) .nil))) (.cons (.tup (.cons (.lit (.int 1)) (.cons (.lit (.int 2)) .nil))) .nil)))))) .nil))))
def den_law_k03 : List D → R D := run 10 b_law_k03
end Dn
namespace Dn
open Hue
/-! ### what is compared -/
structure Inj {α : Type} (φ : α → D) (n : Nat) (ok : α → Prop) : Prop where
  fine : ∀ x, ok x → (φ x).fine = true
  deep : ∀ x, (φ x).deep ≤ n
  eqv : ∀ x y, D.eqv (φ x) (φ y) = true ↔ x = y
theorem Inj.fines {α : Type} {φ : α → D} {n : Nat} {ok : α → Prop} (h : Inj φ n ok) : ∀ l : List α, (∀ x ∈ l, ok x) → D.fines (l.map φ) = true
  | [], _ => rfl
  | x :: r, hl => by
    show (D.fine (φ x) && D.fines (r.map φ)) = true
    rw [h.fine x (hl x List.mem_cons_self), h.fines r fun y hy => hl y (List.mem_cons_of_mem _ hy)]
    rfl
theorem Inj.deeps {α : Type} {φ : α → D} {n : Nat} {ok : α → Prop} (h : Inj φ n ok) : ∀ l : List α, D.deeps (l.map φ) ≤ n
  | [] => Nat.zero_le _
  | x :: r => by
    show max (D.deep (φ x)) (D.deeps (r.map φ)) ≤ n
    exact Nat.max_le.mpr ⟨h.deep x, h.deeps r⟩
theorem Inj.eqvs {α : Type} {φ : α → D} {n : Nat} {ok : α → Prop} (h : Inj φ n ok) : ∀ l m : List α, D.eqvs (l.map φ) (m.map φ) = true ↔ l = m
  | [], [] => by simp [D.eqvs]
  | [], _ :: _ => by simp [D.eqvs]
  | _ :: _, [] => by simp [D.eqvs]
  | x :: r, y :: s => by
    show (D.eqv (φ x) (φ y) && D.eqvs (r.map φ) (s.map φ)) = true ↔ _
    rw [Bool.and_eq_true, h.eqv x y, h.eqvs r s]
    simp
theorem Inj.lst {α : Type} {φ : α → D} {n : Nat} {ok : α → Prop} (h : Inj φ n ok) : Inj (fun l : List α => D.lst (l.map φ)) (n + 1) (fun l => ∀ x ∈ l, ok x) :=
  ⟨fun l hl => h.fines l hl, fun l => Nat.succ_le_succ (h.deeps l), fun l m => h.eqvs l m⟩
theorem inj_int : Inj D.int 0 (fun _ => True) := ⟨fun _ _ => rfl, fun _ => Nat.le_refl _, fun x y => by simp [D.eqv]⟩
theorem inj_str : Inj D.str 0 (fun l => ∀ c ∈ l, c < 1114112) := ⟨fun l h => by simpa [D.fine] using h, fun _ => Nat.le_refl _, fun x y => by simp [D.eqv]⟩
def dPair (p : Nat × Nat) : D := .tup [.int p.1, .int p.2]
theorem inj_pair : Inj dPair 1 (fun _ => True) := ⟨fun _ _ => rfl, fun _ => Nat.le_refl _, fun x y => by
  obtain ⟨a, b⟩ := x
  obtain ⟨c, d⟩ := y
  simp [dPair, D.eqv, D.eqvs]
  omega⟩
theorem Inj.ok {α : Type} {φ : α → D} {n : Nat} {ok : α → Prop} (h : Inj φ n ok) (hn : n ≤ 60) {x y : α} (hx : ok x) (hy : ok y) : eqOk (φ x) (φ y) = true := by
  unfold eqOk
  rw [h.fine x hx, h.fine y hy, decide_eq_true (Nat.le_trans (h.deep x) hn), decide_eq_true (Nat.le_trans (h.deep y) hn)]
  simp
theorem Inj.ne {α : Type} [DecidableEq α] {φ : α → D} {n : Nat} {ok : α → Prop} (h : Inj φ n ok) (hn : n ≤ 60) {x y : α} (hx : ok x) (hy : ok y) : cmpF .ne (φ x) (φ y) = .ok (.bl (!decide (x = y))) := by
  show (if eqOk (φ x) (φ y) = true then R.ok (D.bl (!D.eqv (φ x) (φ y))) else .bad) = _
  rw [if_pos (h.ok hn hx hy)]
  have : D.eqv (φ x) (φ y) = decide (x = y) := by
    rw [Bool.eq_iff_iff, h.eqv]
    simp
  rw [this]
theorem Inj.eq {α : Type} [DecidableEq α] {φ : α → D} {n : Nat} {ok : α → Prop} (h : Inj φ n ok) (hn : n ≤ 60) {x y : α} (hx : ok x) (hy : ok y) : cmpF .eq (φ x) (φ y) = .ok (.bl (decide (x = y))) := by
  show (if eqOk (φ x) (φ y) = true then R.ok (D.bl (D.eqv (φ x) (φ y))) else .bad) = _
  rw [if_pos (h.ok hn hx hy)]
  have : D.eqv (φ x) (φ y) = decide (x = y) := by
    rw [Bool.eq_iff_iff, h.eqv]
    simp
  rw [this]
/-! ### floors -/
/-- a floor of so many hues, so wide, so high -/
structure Flr (h w n : Nat) (f : List (List Nat)) : Prop where
  high : f.length = n
  wide : ∀ r ∈ f, r.length = w
  hue : ∀ r ∈ f, ∀ c ∈ r, c ∈ signs h
theorem signs_lt {h c : Nat} (hc : c ∈ signs h) : c < 1114112 := by
  have : c ∈ [48, 49, 50] := List.mem_of_mem_take hc
  simp at this
  omega
theorem Flr.ok {h w n : Nat} {f : List (List Nat)} (F : Flr h w n f) : ∀ r ∈ f, ∀ c ∈ r, c < 1114112 := fun r hr c hc => signs_lt (F.hue r hr c hc)
theorem rows_ne {a b : List (List Nat)} (ha : ∀ r ∈ a, ∀ c ∈ r, c < 1114112) (hb : ∀ r ∈ b, ∀ c ∈ r, c < 1114112) : cmpF .ne (dRows a) (dRows b) = .ok (.bl (!decide (a = b))) := inj_str.lst.ne (by omega) ha hb
theorem rows_eq {a b : List (List Nat)} (ha : ∀ r ∈ a, ∀ c ∈ r, c < 1114112) (hb : ∀ r ∈ b, ∀ c ∈ r, c < 1114112) : cmpF .eq (dRows a) (dRows b) = .ok (.bl (decide (a = b))) := inj_str.lst.eq (by omega) ha hb
theorem asStrs_map : ∀ l : List (List Nat), asStrs (l.map D.str) = some l
  | [] => rfl
  | x :: r => by
    show (asStrs (r.map D.str)).map (x :: ·) = some (x :: r)
    rw [asStrs_map r]
    rfl
theorem joinR {l : List (List Nat)} (h : (l.map List.length).sum ≤ 10000000) : primF .join [.str [], .lst (l.map D.str)] = .ok (.str l.flatten) := by
  simp only [primF, asStrs_map, R.of_some, R.bind_ok]
  exact if_pos h
theorem sum_le (l : List (List Nat)) (w : Nat) (h : ∀ r ∈ l, r.length = w) : (l.map List.length).sum = l.length * w := by
  induction l with
  | nil => simp
  | cons x r ih =>
    rw [List.map_cons, List.sum_cons, ih fun y hy => h y (List.mem_cons_of_mem _ hy), h x List.mem_cons_self, List.length_cons, Nat.add_mul]
    omega
theorem slc_signs {h : Nat} (hh : h = 2 ∨ h = 3) : slcF (.str [48, 49, 50]) none (some (h : Int)) = .ok (.str (signs h)) := by
  rcases hh with rfl | rfl <;> rfl
theorem in_signs {c : Nat} {l : List Nat} : cmpF .isin (.str [c]) (.str l) = .ok (.bl (decide (c ∈ l))) := rfl
theorem notin_signs {c : Nat} {l : List Nat} : cmpF .notin (.str [c]) (.str l) = .ok (.bl (!decide (c ∈ l))) := rfl
theorem isL_lst (l : List D) : primF .isL [.lst l] = .ok (.bl true) := rfl
theorem isS_str (l : List Nat) : primF .isS [.str l] = .ok (.bl true) := rfl
theorem seqL (l : List D) : seqOf (.lst l) = .ok l := rfl
theorem seqS (l : List Nat) : seqOf (.str l) = .ok (l.map fun c => .str [c]) := rfl
/-- rows of some signs -/
theorem are_rows_ok {h w n : Nat} {f : List (List Nat)} {sg : List Nat} (k : Kd h w) (hn : 1 ≤ n ∧ n ≤ 8) (hf : f.length = n) (hw : ∀ r ∈ f, r.length = w) (hs : ∀ r ∈ f, ∀ c ∈ r, c ∈ sg) : den_are_rows [.int h, dRows f, .str sg] = .ok (.bl true) := by
  have kw := k.wide
  have hne : f ≠ [] := fun e => by rw [e] at hf; simp at hf; omega
  obtain ⟨r0, hr0⟩ : ∃ r0, (f.map D.str)[0]? = some (.str r0) ∧ r0.length = w := by
    cases f with
    | nil => exact absurd rfl hne
    | cons r0 t => exact ⟨r0, rfl, hw r0 List.mem_cons_self⟩
  have e0 : idxF (.lst (f.map D.str)) (.int 0) = .ok (.str r0) := by
    show R.of (atL _ _) = _
    have : atL (f.map D.str) 0 = some (.str r0) := by
      unfold atL ixN
      rw [if_pos (by decide), if_pos (by rw [List.length_map]; omega)]
      exact hr0.1
    rw [this]
    rfl
  have a1 : (decide ((1 : Int) ≤ ((f.map D.str).length : Int)) && decide (((f.map D.str).length : Int) ≤ 8)) = true := by
    rw [List.length_map, hf]
    simp
    omega
  have a2 : (decide ((1 : Int) ≤ (w : Int)) && decide ((w : Int) ≤ wideOf (h : Int))) = true := by simp [kw.1, kw.2]
  have hc : f.length * w ≤ 10000000 := by
    have : w ≤ 4 := by unfold Kd at k; omega
    have := Nat.mul_le_mul (show f.length ≤ 8 by omega) this
    omega
  have c1 : ev (.comp b_are_rows_1 (.nm 3) (.seq (.var 1)) .none [3]) [some (.int h), some (.lst (f.map D.str)), some (.str sg), none, none] = .ok (.lst (f.map fun r => .bl ((fun _ => true) r))) := by
    simp only [run_eq, evSs_cons, evSs_nil, evS_par, evS_asg, evS_asgT, evS_asgR, evS_app, evS_ext, evS_ite, evS_for, evS_ret, evS_raise, evS_expr, evS_pass, ev_bin, ev_var, ev_lit, ev_cmp, ev_chn, ev_isN, ev_notN, ev_and, ev_or, ev_not, ev_ite, ev_call, ev_prim, ev_meth, ev_rev, ev_idx, ev_slc, ev_lst, ev_tup, ev_comp, ev_neg, evs_cons, evs_nil, evO_none, evO_some, evC_none, evC_some, evI_seq, evI_rng1, evI_rng2, evI_enm, evI_zip, partI, then_ok, nx_then, rt_then, ex_then, addI, subI, mulI, fdivI, modI, ltI, leI, gtI, geI, eqI, truthB, ite_and, ite_or, Bool.true_and, Bool.false_and, Bool.and_true, Bool.and_false, Bool.true_or, Bool.false_or, Bool.or_true, Bool.or_false, lim_if, lim_if2, shal_int, shal_bl, shal_str, shal_non, decide_true, decide_false, setAll, bindTg, bindOk, bindExc, ofSome, List.map_cons, List.map_nil, List.length_cons, List.length_nil, List.cons_append, List.nil_append, List.append_nil, List.replicate, List.getElem?_cons_zero, List.getElem?_cons_succ, List.set_cons_zero, List.set_cons_succ, Nat.reduceAdd, Nat.reduceSub, isI_int, isB_int, if_true, if_false, Bool.false_eq_true, Bool.not_true, Bool.not_false, seqL, wipeE]
    rw [compA (g := fun _ => .bl true) fun r hr => ⟨_, rfl, rfl, ?_⟩]
    · rfl
    · simp only [run_eq, evSs_cons, evSs_nil, evS_par, evS_asg, evS_asgT, evS_asgR, evS_app, evS_ext, evS_ite, evS_for, evS_ret, evS_raise, evS_expr, evS_pass, ev_bin, ev_var, ev_lit, ev_cmp, ev_chn, ev_isN, ev_notN, ev_and, ev_or, ev_not, ev_ite, ev_call, ev_prim, ev_meth, ev_rev, ev_idx, ev_slc, ev_lst, ev_tup, ev_comp, ev_neg, evs_cons, evs_nil, evO_none, evO_some, evC_none, evC_some, evI_seq, evI_rng1, evI_rng2, evI_enm, evI_zip, partI, then_ok, nx_then, rt_then, ex_then, addI, subI, mulI, fdivI, modI, ltI, leI, gtI, geI, eqI, truthB, ite_and, ite_or, Bool.true_and, Bool.false_and, Bool.and_true, Bool.and_false, Bool.true_or, Bool.false_or, Bool.or_true, Bool.or_false, lim_if, lim_if2, shal_int, shal_bl, shal_str, shal_non, decide_true, decide_false, setAll, bindTg, bindOk, bindExc, ofSome, List.map_cons, List.map_nil, List.length_cons, List.length_nil, List.cons_append, List.nil_append, List.append_nil, List.replicate, List.getElem?_cons_zero, List.getElem?_cons_succ, List.set_cons_zero, List.set_cons_succ, Nat.reduceAdd, Nat.reduceSub, isI_int, isB_int, if_true, if_false, Bool.false_eq_true, Bool.not_true, Bool.not_false, b_are_rows_1, isS_str, lenS, widest_ok]
      rw [hw r hr, a2]
  have c2 : ev (.comp b_are_rows_2 (.nm 3) (.seq (.var 1)) .none [3]) [some (.int h), some (.lst (f.map D.str)), some (.str sg), none, none] = .ok (.lst (f.map fun r => .bl ((fun _ => false) r))) := by
    simp only [run_eq, evSs_cons, evSs_nil, evS_par, evS_asg, evS_asgT, evS_asgR, evS_app, evS_ext, evS_ite, evS_for, evS_ret, evS_raise, evS_expr, evS_pass, ev_bin, ev_var, ev_lit, ev_cmp, ev_chn, ev_isN, ev_notN, ev_and, ev_or, ev_not, ev_ite, ev_call, ev_prim, ev_meth, ev_rev, ev_idx, ev_slc, ev_lst, ev_tup, ev_comp, ev_neg, evs_cons, evs_nil, evO_none, evO_some, evC_none, evC_some, evI_seq, evI_rng1, evI_rng2, evI_enm, evI_zip, partI, then_ok, nx_then, rt_then, ex_then, addI, subI, mulI, fdivI, modI, ltI, leI, gtI, geI, eqI, truthB, ite_and, ite_or, Bool.true_and, Bool.false_and, Bool.and_true, Bool.and_false, Bool.true_or, Bool.false_or, Bool.or_true, Bool.or_false, lim_if, lim_if2, shal_int, shal_bl, shal_str, shal_non, decide_true, decide_false, setAll, bindTg, bindOk, bindExc, ofSome, List.map_cons, List.map_nil, List.length_cons, List.length_nil, List.cons_append, List.nil_append, List.append_nil, List.replicate, List.getElem?_cons_zero, List.getElem?_cons_succ, List.set_cons_zero, List.set_cons_succ, Nat.reduceAdd, Nat.reduceSub, isI_int, isB_int, if_true, if_false, Bool.false_eq_true, Bool.not_true, Bool.not_false, seqL, wipeE]
    rw [compA (g := fun _ => .bl false) fun r hr => ⟨_, rfl, rfl, ?_⟩]
    · rfl
    · simp only [run_eq, evSs_cons, evSs_nil, evS_par, evS_asg, evS_asgT, evS_asgR, evS_app, evS_ext, evS_ite, evS_for, evS_ret, evS_raise, evS_expr, evS_pass, ev_bin, ev_var, ev_lit, ev_cmp, ev_chn, ev_isN, ev_notN, ev_and, ev_or, ev_not, ev_ite, ev_call, ev_prim, ev_meth, ev_rev, ev_idx, ev_slc, ev_lst, ev_tup, ev_comp, ev_neg, evs_cons, evs_nil, evO_none, evO_some, evC_none, evC_some, evI_seq, evI_rng1, evI_rng2, evI_enm, evI_zip, partI, then_ok, nx_then, rt_then, ex_then, addI, subI, mulI, fdivI, modI, ltI, leI, gtI, geI, eqI, truthB, ite_and, ite_or, Bool.true_and, Bool.false_and, Bool.and_true, Bool.and_false, Bool.true_or, Bool.false_or, Bool.or_true, Bool.or_false, lim_if, lim_if2, shal_int, shal_bl, shal_str, shal_non, decide_true, decide_false, setAll, bindTg, bindOk, bindExc, ofSome, List.map_cons, List.map_nil, List.length_cons, List.length_nil, List.cons_append, List.nil_append, List.append_nil, List.replicate, List.getElem?_cons_zero, List.getElem?_cons_succ, List.set_cons_zero, List.set_cons_succ, Nat.reduceAdd, Nat.reduceSub, isI_int, isB_int, if_true, if_false, Bool.false_eq_true, Bool.not_true, Bool.not_false, b_are_rows_2, lenS, e0, neI']
      rw [hw r hr, hr0.2]
      simp
  have c3 : ev (.comp b_are_rows_3 (.nm 4) (.seq (.meth .join (.lit (.str [])) (.var 1))) .none [4]) [some (.int h), some (.lst (f.map D.str)), some (.str sg), none, none] = .ok (.lst (f.flatten.map fun c => .bl ((fun _ => true) c))) := by
    simp only [run_eq, evSs_cons, evSs_nil, evS_par, evS_asg, evS_asgT, evS_asgR, evS_app, evS_ext, evS_ite, evS_for, evS_ret, evS_raise, evS_expr, evS_pass, ev_bin, ev_var, ev_lit, ev_cmp, ev_chn, ev_isN, ev_notN, ev_and, ev_or, ev_not, ev_ite, ev_call, ev_prim, ev_meth, ev_rev, ev_idx, ev_slc, ev_lst, ev_tup, ev_comp, ev_neg, evs_cons, evs_nil, evO_none, evO_some, evC_none, evC_some, evI_seq, evI_rng1, evI_rng2, evI_enm, evI_zip, partI, then_ok, nx_then, rt_then, ex_then, addI, subI, mulI, fdivI, modI, ltI, leI, gtI, geI, eqI, truthB, ite_and, ite_or, Bool.true_and, Bool.false_and, Bool.and_true, Bool.and_false, Bool.true_or, Bool.false_or, Bool.or_true, Bool.or_false, lim_if, lim_if2, shal_int, shal_bl, shal_str, shal_non, decide_true, decide_false, setAll, bindTg, bindOk, bindExc, ofSome, List.map_cons, List.map_nil, List.length_cons, List.length_nil, List.cons_append, List.nil_append, List.append_nil, List.replicate, List.getElem?_cons_zero, List.getElem?_cons_succ, List.set_cons_zero, List.set_cons_succ, Nat.reduceAdd, Nat.reduceSub, isI_int, isB_int, if_true, if_false, Bool.false_eq_true, Bool.not_true, Bool.not_false, recvOk, joinR (show (f.map List.length).sum ≤ 10000000 by rw [sum_le f w hw]; exact hc), seqS, wipeE]
    rw [compA (g := fun _ => .bl true) fun c hc => ⟨_, rfl, rfl, ?_⟩]
    · rfl
    · obtain ⟨r, hr, hc⟩ := List.mem_flatten.mp hc
      simp only [run_eq, evSs_cons, evSs_nil, evS_par, evS_asg, evS_asgT, evS_asgR, evS_app, evS_ext, evS_ite, evS_for, evS_ret, evS_raise, evS_expr, evS_pass, ev_bin, ev_var, ev_lit, ev_cmp, ev_chn, ev_isN, ev_notN, ev_and, ev_or, ev_not, ev_ite, ev_call, ev_prim, ev_meth, ev_rev, ev_idx, ev_slc, ev_lst, ev_tup, ev_comp, ev_neg, evs_cons, evs_nil, evO_none, evO_some, evC_none, evC_some, evI_seq, evI_rng1, evI_rng2, evI_enm, evI_zip, partI, then_ok, nx_then, rt_then, ex_then, addI, subI, mulI, fdivI, modI, ltI, leI, gtI, geI, eqI, truthB, ite_and, ite_or, Bool.true_and, Bool.false_and, Bool.and_true, Bool.and_false, Bool.true_or, Bool.false_or, Bool.or_true, Bool.or_false, lim_if, lim_if2, shal_int, shal_bl, shal_str, shal_non, decide_true, decide_false, setAll, bindTg, bindOk, bindExc, ofSome, List.map_cons, List.map_nil, List.length_cons, List.length_nil, List.cons_append, List.nil_append, List.append_nil, List.replicate, List.getElem?_cons_zero, List.getElem?_cons_succ, List.set_cons_zero, List.set_cons_succ, Nat.reduceAdd, Nat.reduceSub, isI_int, isB_int, if_true, if_false, Bool.false_eq_true, Bool.not_true, Bool.not_false, b_are_rows_3, in_signs]
      rw [decide_eq_true (hs r hr c hc)]
  have t1 : (f.all fun _ => true) = true := by simp
  have t2 : (f.any fun _ => false) = false := by simp
  have t3 : (f.flatten.all fun _ => true) = true := by simp
  simp (disch := omega) only [run_eq, evSs_cons, evSs_nil, evS_par, evS_asg, evS_asgT, evS_asgR, evS_app, evS_ext, evS_ite, evS_for, evS_ret, evS_raise, evS_expr, evS_pass, ev_bin, ev_var, ev_lit, ev_cmp, ev_chn, ev_isN, ev_notN, ev_and, ev_or, ev_not, ev_ite, ev_call, ev_prim, ev_meth, ev_rev, ev_idx, ev_slc, ev_lst, ev_tup, ev_comp, ev_neg, evs_cons, evs_nil, evO_none, evO_some, evC_none, evC_some, evI_seq, evI_rng1, evI_rng2, evI_enm, evI_zip, partI, then_ok, nx_then, rt_then, ex_then, addI, subI, mulI, fdivI, modI, ltI, leI, gtI, geI, eqI, truthB, ite_and, ite_or, Bool.true_and, Bool.false_and, Bool.and_true, Bool.and_false, Bool.true_or, Bool.false_or, Bool.or_true, Bool.or_false, lim_if, lim_if2, shal_int, shal_bl, shal_str, shal_non, decide_true, decide_false, setAll, bindTg, bindOk, bindExc, ofSome, List.map_cons, List.map_nil, List.length_cons, List.length_nil, List.cons_append, List.nil_append, List.append_nil, List.replicate, List.getElem?_cons_zero, List.getElem?_cons_succ, List.set_cons_zero, List.set_cons_succ, Nat.reduceAdd, Nat.reduceSub, isI_int, isB_int, if_true, if_false, Bool.false_eq_true, Bool.not_true, Bool.not_false, den_are_rows, b_are_rows, dRows, isL_lst, lenL, a1, ↓c1, ↓c2, ↓c3, allB, anyB, t1, t2, t3]
theorem check_floor_ok {h w n : Nat} {f : List (List Nat)} (k : Kd h w) (hn : 1 ≤ n ∧ n ≤ 8) (F : Flr h w n f) : den_check_floor [.int h, dRows f] = .ok .non := by
  have hh : h = 2 ∨ h = 3 := by unfold Kd at k; omega
  simp only [run_eq, evSs_cons, evSs_nil, evS_par, evS_asg, evS_asgT, evS_asgR, evS_app, evS_ext, evS_ite, evS_for, evS_ret, evS_raise, evS_expr, evS_pass, ev_bin, ev_var, ev_lit, ev_cmp, ev_chn, ev_isN, ev_notN, ev_and, ev_or, ev_not, ev_ite, ev_call, ev_prim, ev_meth, ev_rev, ev_idx, ev_slc, ev_lst, ev_tup, ev_comp, ev_neg, evs_cons, evs_nil, evO_none, evO_some, evC_none, evC_some, evI_seq, evI_rng1, evI_rng2, evI_enm, evI_zip, partI, then_ok, nx_then, rt_then, ex_then, addI, subI, mulI, fdivI, modI, ltI, leI, gtI, geI, eqI, truthB, ite_and, ite_or, Bool.true_and, Bool.false_and, Bool.and_true, Bool.and_false, Bool.true_or, Bool.false_or, Bool.or_true, Bool.or_false, lim_if, lim_if2, shal_int, shal_bl, shal_str, shal_non, decide_true, decide_false, setAll, bindTg, bindOk, bindExc, ofSome, List.map_cons, List.map_nil, List.length_cons, List.length_nil, List.cons_append, List.nil_append, List.append_nil, List.replicate, List.getElem?_cons_zero, List.getElem?_cons_succ, List.set_cons_zero, List.set_cons_succ, Nat.reduceAdd, Nat.reduceSub, isI_int, isB_int, if_true, if_false, Bool.false_eq_true, Bool.not_true, Bool.not_false, den_check_floor, b_check_floor, slc_signs hh, are_rows_ok k hn F.high F.wide F.hue]
end Dn
namespace Dn
open Hue
theorem mirrored_ok {h w n : Nat} {f : List (List Nat)} (k : Kd h w) (hn : 1 ≤ n ∧ n ≤ 8) (F : Flr h w n f) : den_mirrored [.int h, dRows f] = .ok (dRows (f.map List.reverse)) := by
  have c1 : ev (.comp b_mirrored_1 (.nm 2) (.seq (.var 1)) .none [2]) [some (.int h), some (.lst (f.map D.str)), none] = .ok (dRows (f.map List.reverse)) := by
    simp only [run_eq, evSs_cons, evSs_nil, evS_par, evS_asg, evS_asgT, evS_asgR, evS_app, evS_ext, evS_ite, evS_for, evS_ret, evS_raise, evS_expr, evS_pass, ev_bin, ev_var, ev_lit, ev_cmp, ev_chn, ev_isN, ev_notN, ev_and, ev_or, ev_not, ev_ite, ev_call, ev_prim, ev_meth, ev_rev, ev_idx, ev_slc, ev_lst, ev_tup, ev_comp, ev_neg, evs_cons, evs_nil, evO_none, evO_some, evC_none, evC_some, evI_seq, evI_rng1, evI_rng2, evI_enm, evI_zip, partI, then_ok, nx_then, rt_then, ex_then, addI, subI, mulI, fdivI, modI, ltI, leI, gtI, geI, eqI, truthB, ite_and, ite_or, Bool.true_and, Bool.false_and, Bool.and_true, Bool.and_false, Bool.true_or, Bool.false_or, Bool.or_true, Bool.or_false, lim_if, lim_if2, shal_int, shal_bl, shal_str, shal_non, decide_true, decide_false, setAll, bindTg, bindOk, bindExc, ofSome, List.map_cons, List.map_nil, List.length_cons, List.length_nil, List.cons_append, List.nil_append, List.append_nil, List.replicate, List.getElem?_cons_zero, List.getElem?_cons_succ, List.set_cons_zero, List.set_cons_succ, Nat.reduceAdd, Nat.reduceSub, isI_int, isB_int, if_true, if_false, Bool.false_eq_true, Bool.not_true, Bool.not_false, seqL, wipeE]
    rw [compA (g := fun r => .str r.reverse) fun r hr => ⟨_, rfl, rfl, ?_⟩]
    · simp only [run_eq, evSs_cons, evSs_nil, evS_par, evS_asg, evS_asgT, evS_asgR, evS_app, evS_ext, evS_ite, evS_for, evS_ret, evS_raise, evS_expr, evS_pass, ev_bin, ev_var, ev_lit, ev_cmp, ev_chn, ev_isN, ev_notN, ev_and, ev_or, ev_not, ev_ite, ev_call, ev_prim, ev_meth, ev_rev, ev_idx, ev_slc, ev_lst, ev_tup, ev_comp, ev_neg, evs_cons, evs_nil, evO_none, evO_some, evC_none, evC_some, evI_seq, evI_rng1, evI_rng2, evI_enm, evI_zip, partI, then_ok, nx_then, rt_then, ex_then, addI, subI, mulI, fdivI, modI, ltI, leI, gtI, geI, eqI, truthB, ite_and, ite_or, Bool.true_and, Bool.false_and, Bool.and_true, Bool.and_false, Bool.true_or, Bool.false_or, Bool.or_true, Bool.or_false, lim_if, lim_if2, shal_int, shal_bl, shal_str, shal_non, decide_true, decide_false, setAll, bindTg, bindOk, bindExc, ofSome, List.map_cons, List.map_nil, List.length_cons, List.length_nil, List.cons_append, List.nil_append, List.append_nil, List.replicate, List.getElem?_cons_zero, List.getElem?_cons_succ, List.set_cons_zero, List.set_cons_succ, Nat.reduceAdd, Nat.reduceSub, isI_int, isB_int, if_true, if_false, Bool.false_eq_true, Bool.not_true, Bool.not_false, noExc_ok, dRows, List.map_map, Function.comp_def]
    · simp only [run_eq, evSs_cons, evSs_nil, evS_par, evS_asg, evS_asgT, evS_asgR, evS_app, evS_ext, evS_ite, evS_for, evS_ret, evS_raise, evS_expr, evS_pass, ev_bin, ev_var, ev_lit, ev_cmp, ev_chn, ev_isN, ev_notN, ev_and, ev_or, ev_not, ev_ite, ev_call, ev_prim, ev_meth, ev_rev, ev_idx, ev_slc, ev_lst, ev_tup, ev_comp, ev_neg, evs_cons, evs_nil, evO_none, evO_some, evC_none, evC_some, evI_seq, evI_rng1, evI_rng2, evI_enm, evI_zip, partI, then_ok, nx_then, rt_then, ex_then, addI, subI, mulI, fdivI, modI, ltI, leI, gtI, geI, eqI, truthB, ite_and, ite_or, Bool.true_and, Bool.false_and, Bool.and_true, Bool.and_false, Bool.true_or, Bool.false_or, Bool.or_true, Bool.or_false, lim_if, lim_if2, shal_int, shal_bl, shal_str, shal_non, decide_true, decide_false, setAll, bindTg, bindOk, bindExc, ofSome, List.map_cons, List.map_nil, List.length_cons, List.length_nil, List.cons_append, List.nil_append, List.append_nil, List.replicate, List.getElem?_cons_zero, List.getElem?_cons_succ, List.set_cons_zero, List.set_cons_succ, Nat.reduceAdd, Nat.reduceSub, isI_int, isB_int, if_true, if_false, Bool.false_eq_true, Bool.not_true, Bool.not_false, b_mirrored_1, revF]
  have e : dRows f = .lst (f.map D.str) := rfl
  have cf := check_floor_ok k hn F
  rw [e] at cf ⊢
  simp only [run_eq, evSs_cons, evSs_nil, evS_par, evS_asg, evS_asgT, evS_asgR, evS_app, evS_ext, evS_ite, evS_for, evS_ret, evS_raise, evS_expr, evS_pass, ev_bin, ev_var, ev_lit, ev_cmp, ev_chn, ev_isN, ev_notN, ev_and, ev_or, ev_not, ev_ite, ev_call, ev_prim, ev_meth, ev_rev, ev_idx, ev_slc, ev_lst, ev_tup, ev_comp, ev_neg, evs_cons, evs_nil, evO_none, evO_some, evC_none, evC_some, evI_seq, evI_rng1, evI_rng2, evI_enm, evI_zip, partI, then_ok, nx_then, rt_then, ex_then, addI, subI, mulI, fdivI, modI, ltI, leI, gtI, geI, eqI, truthB, ite_and, ite_or, Bool.true_and, Bool.false_and, Bool.and_true, Bool.and_false, Bool.true_or, Bool.false_or, Bool.or_true, Bool.or_false, lim_if, lim_if2, shal_int, shal_bl, shal_str, shal_non, decide_true, decide_false, setAll, bindTg, bindOk, bindExc, ofSome, List.map_cons, List.map_nil, List.length_cons, List.length_nil, List.cons_append, List.nil_append, List.append_nil, List.replicate, List.getElem?_cons_zero, List.getElem?_cons_succ, List.set_cons_zero, List.set_cons_succ, Nat.reduceAdd, Nat.reduceSub, isI_int, isB_int, if_true, if_false, Bool.false_eq_true, Bool.not_true, Bool.not_false, den_mirrored, b_mirrored, check_hues_ok k.hues, cf, ↓c1]
theorem Flr.mirror {h w n : Nat} {f : List (List Nat)} (F : Flr h w n f) : Flr h w n (f.map List.reverse) :=
  ⟨by rw [List.length_map]; exact F.high, fun r hr => by
    obtain ⟨q, hq, rfl⟩ := List.mem_map.mp hr
    rw [List.length_reverse]
    exact F.wide q hq, fun r hr c hc => by
    obtain ⟨q, hq, rfl⟩ := List.mem_map.mp hr
    exact F.hue q hq c (List.mem_reverse.mp hc)⟩
/-! ### turned -/
def turnL (w : Nat) (f : List (List Nat)) : List (List Nat) := (List.range w).map fun c => f.reverse.map fun r => r.getD c 0
theorem flat1 {α β : Type} (l : List α) (g : α → β) : (l.map fun x => [g x]).flatten = l.map g := by
  induction l with
  | nil => rfl
  | cons x r ih => simp [ih]
theorem rngL {j : Int} {n : Nat} (h : j = n) (hn : n ≤ 100000) : rng1F (.int j) = .ok ((List.range n).map fun (i : Nat) => D.int (i : Int)) := by
  rw [rngNat h hn]
  congr 1
  unfold rangeL
  exact List.map_congr_left fun i _ => by congr 1; omega
theorem Flr.first {h w n : Nat} {f : List (List Nat)} (hn : 1 ≤ n) (F : Flr h w n f) : ∃ r0, idxF (.lst (f.map D.str)) (.int 0) = .ok (.str r0) ∧ r0.length = w := by
  cases f with
  | nil => have := F.high; simp at this; omega
  | cons r0 t => exact ⟨r0, idxL (l := (r0 :: t).map D.str) (i := 0) (j := 0) rfl (by simp), F.wide r0 List.mem_cons_self⟩
theorem turned_ok {h w n : Nat} {f : List (List Nat)} (k : Kd h w) (k2 : Kd h n) (F : Flr h w n f) : den_turned [.int h, dRows f] = .ok (dRows (turnL w f)) := by
  have hn : 1 ≤ n ∧ n ≤ 8 := by unfold Kd at k2; omega
  have hw : w ≤ 4 := by unfold Kd at k; omega
  obtain ⟨r0, e0, l0⟩ := F.first hn.1
  have c1 : ∀ c, c < w → ev b_turned_2 [some (.int h), some (.lst (f.map D.str)), some (.int (c : Int)), none] = .ok (.str (f.reverse.map fun r => r.getD c 0)) := fun c hc => by
    have c2 : ev (.comp b_turned_1 (.nm 3) (.seq (.rev (.var 1))) .none [3]) [some (.int h), some (.lst (f.map D.str)), some (.int (c : Int)), none] = .ok (.lst ((f.reverse.map fun r => [r.getD c 0]).map D.str)) := by
      simp only [run_eq, evSs_cons, evSs_nil, evS_par, evS_asg, evS_asgT, evS_asgR, evS_app, evS_ext, evS_ite, evS_for, evS_ret, evS_raise, evS_expr, evS_pass, ev_bin, ev_var, ev_lit, ev_cmp, ev_chn, ev_isN, ev_notN, ev_and, ev_or, ev_not, ev_ite, ev_call, ev_prim, ev_meth, ev_rev, ev_idx, ev_slc, ev_lst, ev_tup, ev_comp, ev_neg, evs_cons, evs_nil, evO_none, evO_some, evC_none, evC_some, evI_seq, evI_rng1, evI_rng2, evI_enm, evI_zip, partI, then_ok, nx_then, rt_then, ex_then, addI, subI, mulI, fdivI, modI, ltI, leI, gtI, geI, eqI, truthB, ite_and, ite_or, Bool.true_and, Bool.false_and, Bool.and_true, Bool.and_false, Bool.true_or, Bool.false_or, Bool.or_true, Bool.or_false, lim_if, lim_if2, shal_int, shal_bl, shal_str, shal_non, decide_true, decide_false, setAll, bindTg, bindOk, bindExc, ofSome, List.map_cons, List.map_nil, List.length_cons, List.length_nil, List.cons_append, List.nil_append, List.append_nil, List.replicate, List.getElem?_cons_zero, List.getElem?_cons_succ, List.set_cons_zero, List.set_cons_succ, Nat.reduceAdd, Nat.reduceSub, isI_int, isB_int, if_true, if_false, Bool.false_eq_true, Bool.not_true, Bool.not_false, revF, seqL, wipeE, ← List.map_reverse]
      rw [compA (g := fun r => .str [r.getD c 0]) fun r hr => ⟨_, rfl, rfl, ?_⟩]
      · simp only [run_eq, evSs_cons, evSs_nil, evS_par, evS_asg, evS_asgT, evS_asgR, evS_app, evS_ext, evS_ite, evS_for, evS_ret, evS_raise, evS_expr, evS_pass, ev_bin, ev_var, ev_lit, ev_cmp, ev_chn, ev_isN, ev_notN, ev_and, ev_or, ev_not, ev_ite, ev_call, ev_prim, ev_meth, ev_rev, ev_idx, ev_slc, ev_lst, ev_tup, ev_comp, ev_neg, evs_cons, evs_nil, evO_none, evO_some, evC_none, evC_some, evI_seq, evI_rng1, evI_rng2, evI_enm, evI_zip, partI, then_ok, nx_then, rt_then, ex_then, addI, subI, mulI, fdivI, modI, ltI, leI, gtI, geI, eqI, truthB, ite_and, ite_or, Bool.true_and, Bool.false_and, Bool.and_true, Bool.and_false, Bool.true_or, Bool.false_or, Bool.or_true, Bool.or_false, lim_if, lim_if2, shal_int, shal_bl, shal_str, shal_non, decide_true, decide_false, setAll, bindTg, bindOk, bindExc, ofSome, List.map_cons, List.map_nil, List.length_cons, List.length_nil, List.cons_append, List.nil_append, List.append_nil, List.replicate, List.getElem?_cons_zero, List.getElem?_cons_succ, List.set_cons_zero, List.set_cons_succ, Nat.reduceAdd, Nat.reduceSub, isI_int, isB_int, if_true, if_false, Bool.false_eq_true, Bool.not_true, Bool.not_false, noExc_ok, List.map_map, Function.comp_def]
      · have hr' : c < r.length := by rw [F.wide r (List.mem_reverse.mp hr)]; exact hc
        simp only [run_eq, evSs_cons, evSs_nil, evS_par, evS_asg, evS_asgT, evS_asgR, evS_app, evS_ext, evS_ite, evS_for, evS_ret, evS_raise, evS_expr, evS_pass, ev_bin, ev_var, ev_lit, ev_cmp, ev_chn, ev_isN, ev_notN, ev_and, ev_or, ev_not, ev_ite, ev_call, ev_prim, ev_meth, ev_rev, ev_idx, ev_slc, ev_lst, ev_tup, ev_comp, ev_neg, evs_cons, evs_nil, evO_none, evO_some, evC_none, evC_some, evI_seq, evI_rng1, evI_rng2, evI_enm, evI_zip, partI, then_ok, nx_then, rt_then, ex_then, addI, subI, mulI, fdivI, modI, ltI, leI, gtI, geI, eqI, truthB, ite_and, ite_or, Bool.true_and, Bool.false_and, Bool.and_true, Bool.and_false, Bool.true_or, Bool.false_or, Bool.or_true, Bool.or_false, lim_if, lim_if2, shal_int, shal_bl, shal_str, shal_non, decide_true, decide_false, setAll, bindTg, bindOk, bindExc, ofSome, List.map_cons, List.map_nil, List.length_cons, List.length_nil, List.cons_append, List.nil_append, List.append_nil, List.replicate, List.getElem?_cons_zero, List.getElem?_cons_succ, List.set_cons_zero, List.set_cons_succ, Nat.reduceAdd, Nat.reduceSub, isI_int, isB_int, if_true, if_false, Bool.false_eq_true, Bool.not_true, Bool.not_false, b_turned_1]
        rw [idxS (i := c) rfl hr', List.getD_eq_getElem?_getD, List.getElem?_eq_getElem hr']
        rfl
    have hj : (((f.reverse.map fun r => [r.getD c 0])).map List.length).sum ≤ 10000000 := by
      rw [sum_le _ 1 (fun r hr => by obtain ⟨q, _, rfl⟩ := List.mem_map.mp hr; rfl), List.length_map, List.length_reverse, F.high]
      omega
    simp only [run_eq, evSs_cons, evSs_nil, evS_par, evS_asg, evS_asgT, evS_asgR, evS_app, evS_ext, evS_ite, evS_for, evS_ret, evS_raise, evS_expr, evS_pass, ev_bin, ev_var, ev_lit, ev_cmp, ev_chn, ev_isN, ev_notN, ev_and, ev_or, ev_not, ev_ite, ev_call, ev_prim, ev_meth, ev_rev, ev_idx, ev_slc, ev_lst, ev_tup, ev_comp, ev_neg, evs_cons, evs_nil, evO_none, evO_some, evC_none, evC_some, evI_seq, evI_rng1, evI_rng2, evI_enm, evI_zip, partI, then_ok, nx_then, rt_then, ex_then, addI, subI, mulI, fdivI, modI, ltI, leI, gtI, geI, eqI, truthB, ite_and, ite_or, Bool.true_and, Bool.false_and, Bool.and_true, Bool.and_false, Bool.true_or, Bool.false_or, Bool.or_true, Bool.or_false, lim_if, lim_if2, shal_int, shal_bl, shal_str, shal_non, decide_true, decide_false, setAll, bindTg, bindOk, bindExc, ofSome, List.map_cons, List.map_nil, List.length_cons, List.length_nil, List.cons_append, List.nil_append, List.append_nil, List.replicate, List.getElem?_cons_zero, List.getElem?_cons_succ, List.set_cons_zero, List.set_cons_succ, Nat.reduceAdd, Nat.reduceSub, isI_int, isB_int, if_true, if_false, Bool.false_eq_true, Bool.not_true, Bool.not_false, b_turned_2, ↓c2, recvOk, joinR hj, flat1]
  have c3 : ev (.comp b_turned_2 (.nm 2) (.rng1 (.prim .len (.cons (.idx (.var 1) (.lit (.int 0))) .nil))) .none [2]) [some (.int h), some (.lst (f.map D.str)), none, none] = .ok (dRows (turnL w f)) := by
    have hr : rng1F (.int (r0.length : Int)) = .ok ((List.range w).map fun (i : Nat) => D.int (i : Int)) := rngL (by rw [l0]) (by omega)
    simp only [run_eq, evSs_cons, evSs_nil, evS_par, evS_asg, evS_asgT, evS_asgR, evS_app, evS_ext, evS_ite, evS_for, evS_ret, evS_raise, evS_expr, evS_pass, ev_bin, ev_var, ev_lit, ev_cmp, ev_chn, ev_isN, ev_notN, ev_and, ev_or, ev_not, ev_ite, ev_call, ev_prim, ev_meth, ev_rev, ev_idx, ev_slc, ev_lst, ev_tup, ev_comp, ev_neg, evs_cons, evs_nil, evO_none, evO_some, evC_none, evC_some, evI_seq, evI_rng1, evI_rng2, evI_enm, evI_zip, partI, then_ok, nx_then, rt_then, ex_then, addI, subI, mulI, fdivI, modI, ltI, leI, gtI, geI, eqI, truthB, ite_and, ite_or, Bool.true_and, Bool.false_and, Bool.and_true, Bool.and_false, Bool.true_or, Bool.false_or, Bool.or_true, Bool.or_false, lim_if, lim_if2, shal_int, shal_bl, shal_str, shal_non, decide_true, decide_false, setAll, bindTg, bindOk, bindExc, ofSome, List.map_cons, List.map_nil, List.length_cons, List.length_nil, List.cons_append, List.nil_append, List.append_nil, List.replicate, List.getElem?_cons_zero, List.getElem?_cons_succ, List.set_cons_zero, List.set_cons_succ, Nat.reduceAdd, Nat.reduceSub, isI_int, isB_int, if_true, if_false, Bool.false_eq_true, Bool.not_true, Bool.not_false, e0, lenS, hr, wipeE]
    rw [compA (g := fun c => .str (f.reverse.map fun r => r.getD c 0)) fun c hc => ⟨_, rfl, rfl, c1 c (List.mem_range.mp hc)⟩]
    simp only [run_eq, evSs_cons, evSs_nil, evS_par, evS_asg, evS_asgT, evS_asgR, evS_app, evS_ext, evS_ite, evS_for, evS_ret, evS_raise, evS_expr, evS_pass, ev_bin, ev_var, ev_lit, ev_cmp, ev_chn, ev_isN, ev_notN, ev_and, ev_or, ev_not, ev_ite, ev_call, ev_prim, ev_meth, ev_rev, ev_idx, ev_slc, ev_lst, ev_tup, ev_comp, ev_neg, evs_cons, evs_nil, evO_none, evO_some, evC_none, evC_some, evI_seq, evI_rng1, evI_rng2, evI_enm, evI_zip, partI, then_ok, nx_then, rt_then, ex_then, addI, subI, mulI, fdivI, modI, ltI, leI, gtI, geI, eqI, truthB, ite_and, ite_or, Bool.true_and, Bool.false_and, Bool.and_true, Bool.and_false, Bool.true_or, Bool.false_or, Bool.or_true, Bool.or_false, lim_if, lim_if2, shal_int, shal_bl, shal_str, shal_non, decide_true, decide_false, setAll, bindTg, bindOk, bindExc, ofSome, List.map_cons, List.map_nil, List.length_cons, List.length_nil, List.cons_append, List.nil_append, List.append_nil, List.replicate, List.getElem?_cons_zero, List.getElem?_cons_succ, List.set_cons_zero, List.set_cons_succ, Nat.reduceAdd, Nat.reduceSub, isI_int, isB_int, if_true, if_false, Bool.false_eq_true, Bool.not_true, Bool.not_false, noExc_ok, dRows, turnL, List.map_map, Function.comp_def]
  have g1 : decide (wideOf (h : Int) < ((f.map D.str).length : Int)) = false := by
    rw [List.length_map, F.high]
    exact decide_eq_false (by have := k2.wide; omega)
  have e : dRows f = .lst (f.map D.str) := rfl
  have cf := check_floor_ok k hn F
  rw [e] at cf ⊢
  simp only [run_eq, evSs_cons, evSs_nil, evS_par, evS_asg, evS_asgT, evS_asgR, evS_app, evS_ext, evS_ite, evS_for, evS_ret, evS_raise, evS_expr, evS_pass, ev_bin, ev_var, ev_lit, ev_cmp, ev_chn, ev_isN, ev_notN, ev_and, ev_or, ev_not, ev_ite, ev_call, ev_prim, ev_meth, ev_rev, ev_idx, ev_slc, ev_lst, ev_tup, ev_comp, ev_neg, evs_cons, evs_nil, evO_none, evO_some, evC_none, evC_some, evI_seq, evI_rng1, evI_rng2, evI_enm, evI_zip, partI, then_ok, nx_then, rt_then, ex_then, addI, subI, mulI, fdivI, modI, ltI, leI, gtI, geI, eqI, truthB, ite_and, ite_or, Bool.true_and, Bool.false_and, Bool.and_true, Bool.and_false, Bool.true_or, Bool.false_or, Bool.or_true, Bool.or_false, lim_if, lim_if2, shal_int, shal_bl, shal_str, shal_non, decide_true, decide_false, setAll, bindTg, bindOk, bindExc, ofSome, List.map_cons, List.map_nil, List.length_cons, List.length_nil, List.cons_append, List.nil_append, List.append_nil, List.replicate, List.getElem?_cons_zero, List.getElem?_cons_succ, List.set_cons_zero, List.set_cons_succ, Nat.reduceAdd, Nat.reduceSub, isI_int, isB_int, if_true, if_false, Bool.false_eq_true, Bool.not_true, Bool.not_false, den_turned, b_turned, check_hues_ok k.hues, cf, lenL, widest_ok, g1, ↓c3]
theorem Flr.turn {h w n : Nat} {f : List (List Nat)} (F : Flr h w n f) : Flr h n w (turnL w f) := by
  refine ⟨by unfold turnL; rw [List.length_map, List.length_range], fun r hr => ?_, fun r hr c hc => ?_⟩
  · obtain ⟨q, hq, rfl⟩ := List.mem_map.mp hr
    rw [List.length_map, List.length_reverse, F.high]
  · obtain ⟨q, hq, rfl⟩ := List.mem_map.mp hr
    obtain ⟨s, hs, rfl⟩ := List.mem_map.mp hc
    have hs' := List.mem_reverse.mp hs
    have hq' : q < s.length := by rw [F.wide s hs']; exact List.mem_range.mp hq
    rw [List.getD_eq_getElem?_getD, List.getElem?_eq_getElem hq']
    exact F.hue s hs' _ (List.getElem_mem ..)
theorem rows_at {f : List (List Nat)} {i : Nat} {j : Int} (hj : j = i) (h : i < f.length) : idxF (.lst (f.map D.str)) (.int j) = .ok (.str (f.getD i [])) := by
  rw [idxL hj (by rw [List.length_map]; exact h), List.getElem_map, List.getD_eq_getElem?_getD, List.getElem?_eq_getElem h]
  rfl
theorem sign_at {r : List Nat} {i : Nat} {j : Int} (hj : j = i) (h : i < r.length) : idxF (.str r) (.int j) = .ok (.str [r.getD i 0]) := by
  rw [idxS hj h, List.getD_eq_getElem?_getD, List.getElem?_eq_getElem h]
  rfl
theorem Flr.row {h w n : Nat} {f : List (List Nat)} (F : Flr h w n f) {i : Nat} (hi : i < n) : f.getD i [] ∈ f := by
  have : i < f.length := by rw [F.high]; exact hi
  rw [List.getD_eq_getElem?_getD, List.getElem?_eq_getElem this]
  exact List.getElem_mem ..
theorem rev_range {α β : Type} (f : List α) (g : α → β) (d : α) : f.reverse.map g = (List.range f.length).map fun i => g (f.getD (f.length - 1 - i) d) := by
  apply List.ext_getElem
  · simp
  · intro i h1 h2
    have hi : i < f.length := by simpa using h1
    simp only [List.getElem_map, List.getElem_reverse, List.getElem_range]
    rw [List.getD_eq_getElem?_getD, List.getElem?_eq_getElem (by omega)]
    rfl
theorem l_turned_ok {h w n : Nat} {f : List (List Nat)} (hn : 1 ≤ n ∧ n ≤ 8) (hw : w ≤ 4) (F : Flr h w n f) : den_l_turned [dRows f] = .ok (dRows (turnL w f)) := by
  obtain ⟨r0, e0, l0⟩ := F.first hn.1
  have hr : rng1F (.int (r0.length : Int)) = .ok (rangeL 0 w 1) := rngNat (by rw [l0]) (by omega)
  have hr2 : rng1F (.int (n : Int)) = .ok ((List.range n).map fun (i : Nat) => D.int (i : Int)) := rngL rfl (by omega)
  have key := forL_inv0 (f := evSs b_l_turned_2) (tg := .nm 3) (items := rangeL 0 w 1)
    (fun i e => ∃ x, e = [some (.lst (f.map D.str)), some (.int (n : Int)), some (.lst ((((List.range i).map fun c => f.reverse.map fun r => r.getD c 0)).map D.str)), x, none])
    (e := [some (.lst (f.map D.str)), some (.int (n : Int)), some (.lst []), none, none]) ⟨none, rfl⟩ fun i d e hd hp => by
      obtain ⟨hi, rfl⟩ := rangeL_at hd
      obtain ⟨x, rfl⟩ := hp
      refine ⟨_, _, rfl, ?_, some (.int (0 + (i : Int) * 1)), rfl⟩
      have c2 : ev (.comp b_l_turned_1 (.nm 4) (.rng1 (.var 1)) .none [4]) [some (.lst (f.map D.str)), some (.int (n : Int)), some (.lst ((((List.range i).map fun c => f.reverse.map fun r => r.getD c 0)).map D.str)), some (.int (0 + (i : Int) * 1)), none] = .ok (.lst ((f.reverse.map fun r => [r.getD i 0]).map D.str)) := by
        simp only [run_eq, evSs_cons, evSs_nil, evS_par, evS_asg, evS_asgT, evS_asgR, evS_app, evS_ext, evS_ite, evS_for, evS_ret, evS_raise, evS_expr, evS_pass, ev_bin, ev_var, ev_lit, ev_cmp, ev_chn, ev_isN, ev_notN, ev_and, ev_or, ev_not, ev_ite, ev_call, ev_prim, ev_meth, ev_rev, ev_idx, ev_slc, ev_lst, ev_tup, ev_comp, ev_neg, evs_cons, evs_nil, evO_none, evO_some, evC_none, evC_some, evI_seq, evI_rng1, evI_rng2, evI_enm, evI_zip, partI, then_ok, nx_then, rt_then, ex_then, addI, subI, mulI, fdivI, modI, ltI, leI, gtI, geI, eqI, truthB, ite_and, ite_or, Bool.true_and, Bool.false_and, Bool.and_true, Bool.and_false, Bool.true_or, Bool.false_or, Bool.or_true, Bool.or_false, lim_if, lim_if2, shal_int, shal_bl, shal_str, shal_non, decide_true, decide_false, setAll, bindTg, bindOk, bindExc, ofSome, List.map_cons, List.map_nil, List.length_cons, List.length_nil, List.cons_append, List.nil_append, List.append_nil, List.replicate, List.getElem?_cons_zero, List.getElem?_cons_succ, List.set_cons_zero, List.set_cons_succ, Nat.reduceAdd, Nat.reduceSub, isI_int, isB_int, if_true, if_false, Bool.false_eq_true, Bool.not_true, Bool.not_false, hr2, wipeE]
        rw [compA (g := fun j => .str [(f.getD (n - 1 - j) []).getD i 0]) fun j hj => ⟨_, rfl, rfl, ?_⟩]
        · rw [rev_range f (fun r => [r.getD i 0]) [], F.high]
          simp only [run_eq, evSs_cons, evSs_nil, evS_par, evS_asg, evS_asgT, evS_asgR, evS_app, evS_ext, evS_ite, evS_for, evS_ret, evS_raise, evS_expr, evS_pass, ev_bin, ev_var, ev_lit, ev_cmp, ev_chn, ev_isN, ev_notN, ev_and, ev_or, ev_not, ev_ite, ev_call, ev_prim, ev_meth, ev_rev, ev_idx, ev_slc, ev_lst, ev_tup, ev_comp, ev_neg, evs_cons, evs_nil, evO_none, evO_some, evC_none, evC_some, evI_seq, evI_rng1, evI_rng2, evI_enm, evI_zip, partI, then_ok, nx_then, rt_then, ex_then, addI, subI, mulI, fdivI, modI, ltI, leI, gtI, geI, eqI, truthB, ite_and, ite_or, Bool.true_and, Bool.false_and, Bool.and_true, Bool.and_false, Bool.true_or, Bool.false_or, Bool.or_true, Bool.or_false, lim_if, lim_if2, shal_int, shal_bl, shal_str, shal_non, decide_true, decide_false, setAll, bindTg, bindOk, bindExc, ofSome, List.map_cons, List.map_nil, List.length_cons, List.length_nil, List.cons_append, List.nil_append, List.append_nil, List.replicate, List.getElem?_cons_zero, List.getElem?_cons_succ, List.set_cons_zero, List.set_cons_succ, Nat.reduceAdd, Nat.reduceSub, isI_int, isB_int, if_true, if_false, Bool.false_eq_true, Bool.not_true, Bool.not_false, noExc_ok, List.map_map, Function.comp_def]
        · have hj' := List.mem_range.mp hj
          have hrow := F.wide _ (F.row (i := n - 1 - j) (by omega))
          simp only [run_eq, evSs_cons, evSs_nil, evS_par, evS_asg, evS_asgT, evS_asgR, evS_app, evS_ext, evS_ite, evS_for, evS_ret, evS_raise, evS_expr, evS_pass, ev_bin, ev_var, ev_lit, ev_cmp, ev_chn, ev_isN, ev_notN, ev_and, ev_or, ev_not, ev_ite, ev_call, ev_prim, ev_meth, ev_rev, ev_idx, ev_slc, ev_lst, ev_tup, ev_comp, ev_neg, evs_cons, evs_nil, evO_none, evO_some, evC_none, evC_some, evI_seq, evI_rng1, evI_rng2, evI_enm, evI_zip, partI, then_ok, nx_then, rt_then, ex_then, addI, subI, mulI, fdivI, modI, ltI, leI, gtI, geI, eqI, truthB, ite_and, ite_or, Bool.true_and, Bool.false_and, Bool.and_true, Bool.and_false, Bool.true_or, Bool.false_or, Bool.or_true, Bool.or_false, lim_if, lim_if2, shal_int, shal_bl, shal_str, shal_non, decide_true, decide_false, setAll, bindTg, bindOk, bindExc, ofSome, List.map_cons, List.map_nil, List.length_cons, List.length_nil, List.cons_append, List.nil_append, List.append_nil, List.replicate, List.getElem?_cons_zero, List.getElem?_cons_succ, List.set_cons_zero, List.set_cons_succ, Nat.reduceAdd, Nat.reduceSub, isI_int, isB_int, if_true, if_false, Bool.false_eq_true, Bool.not_true, Bool.not_false, b_l_turned_1]
          rw [rows_at (i := n - 1 - j) (by omega) (by rw [F.high]; omega)]
          simp only [run_eq, evSs_cons, evSs_nil, evS_par, evS_asg, evS_asgT, evS_asgR, evS_app, evS_ext, evS_ite, evS_for, evS_ret, evS_raise, evS_expr, evS_pass, ev_bin, ev_var, ev_lit, ev_cmp, ev_chn, ev_isN, ev_notN, ev_and, ev_or, ev_not, ev_ite, ev_call, ev_prim, ev_meth, ev_rev, ev_idx, ev_slc, ev_lst, ev_tup, ev_comp, ev_neg, evs_cons, evs_nil, evO_none, evO_some, evC_none, evC_some, evI_seq, evI_rng1, evI_rng2, evI_enm, evI_zip, partI, then_ok, nx_then, rt_then, ex_then, addI, subI, mulI, fdivI, modI, ltI, leI, gtI, geI, eqI, truthB, ite_and, ite_or, Bool.true_and, Bool.false_and, Bool.and_true, Bool.and_false, Bool.true_or, Bool.false_or, Bool.or_true, Bool.or_false, lim_if, lim_if2, shal_int, shal_bl, shal_str, shal_non, decide_true, decide_false, setAll, bindTg, bindOk, bindExc, ofSome, List.map_cons, List.map_nil, List.length_cons, List.length_nil, List.cons_append, List.nil_append, List.append_nil, List.replicate, List.getElem?_cons_zero, List.getElem?_cons_succ, List.set_cons_zero, List.set_cons_succ, Nat.reduceAdd, Nat.reduceSub, isI_int, isB_int, if_true, if_false, Bool.false_eq_true, Bool.not_true, Bool.not_false]
          rw [sign_at (i := i) (by omega) (by rw [hrow]; exact hi)]
      have hj : (((f.reverse.map fun r => [r.getD i 0])).map List.length).sum ≤ 10000000 := by
        rw [sum_le _ 1 (fun r hr => by obtain ⟨q, _, rfl⟩ := List.mem_map.mp hr; rfl), List.length_map, List.length_reverse, F.high]
        omega
      have hl : ((((List.range i).map fun c => f.reverse.map fun r => r.getD c 0)).map D.str).length < 10000000 := by simp; omega
      simp (disch := exact hl) only [run_eq, evSs_cons, evSs_nil, evS_par, evS_asg, evS_asgT, evS_asgR, evS_app, evS_ext, evS_ite, evS_for, evS_ret, evS_raise, evS_expr, evS_pass, ev_bin, ev_var, ev_lit, ev_cmp, ev_chn, ev_isN, ev_notN, ev_and, ev_or, ev_not, ev_ite, ev_call, ev_prim, ev_meth, ev_rev, ev_idx, ev_slc, ev_lst, ev_tup, ev_comp, ev_neg, evs_cons, evs_nil, evO_none, evO_some, evC_none, evC_some, evI_seq, evI_rng1, evI_rng2, evI_enm, evI_zip, partI, then_ok, nx_then, rt_then, ex_then, addI, subI, mulI, fdivI, modI, ltI, leI, gtI, geI, eqI, truthB, ite_and, ite_or, Bool.true_and, Bool.false_and, Bool.and_true, Bool.and_false, Bool.true_or, Bool.false_or, Bool.or_true, Bool.or_false, lim_if, lim_if2, shal_int, shal_bl, shal_str, shal_non, decide_true, decide_false, setAll, bindTg, bindOk, bindExc, ofSome, List.map_cons, List.map_nil, List.length_cons, List.length_nil, List.cons_append, List.nil_append, List.append_nil, List.replicate, List.getElem?_cons_zero, List.getElem?_cons_succ, List.set_cons_zero, List.set_cons_succ, Nat.reduceAdd, Nat.reduceSub, isI_int, isB_int, if_true, if_false, Bool.false_eq_true, Bool.not_true, Bool.not_false, b_l_turned_2, lstAt, ↓c2, recvOk, joinR hj, flat1]
      rw [show List.range (i + 1) = List.range i ++ [i] from List.range_succ, List.map_append, List.map_append]
      rfl
  obtain ⟨e', k1, x, rfl⟩ := key
  rw [rangeL_length] at k1
  have e : dRows f = .lst (f.map D.str) := rfl
  rw [e]
  have hl : ((f.map D.str).length : Int) = n := by rw [List.length_map, F.high]
  simp (disch := omega) only [run_eq, evSs_cons, evSs_nil, evS_par, evS_asg, evS_asgT, evS_asgR, evS_app, evS_ext, evS_ite, evS_for, evS_ret, evS_raise, evS_expr, evS_pass, ev_bin, ev_var, ev_lit, ev_cmp, ev_chn, ev_isN, ev_notN, ev_and, ev_or, ev_not, ev_ite, ev_call, ev_prim, ev_meth, ev_rev, ev_idx, ev_slc, ev_lst, ev_tup, ev_comp, ev_neg, evs_cons, evs_nil, evO_none, evO_some, evC_none, evC_some, evI_seq, evI_rng1, evI_rng2, evI_enm, evI_zip, partI, then_ok, nx_then, rt_then, ex_then, addI, subI, mulI, fdivI, modI, ltI, leI, gtI, geI, eqI, truthB, ite_and, ite_or, Bool.true_and, Bool.false_and, Bool.and_true, Bool.and_false, Bool.true_or, Bool.false_or, Bool.or_true, Bool.or_false, lim_if, lim_if2, shal_int, shal_bl, shal_str, shal_non, decide_true, decide_false, setAll, bindTg, bindOk, bindExc, ofSome, List.map_cons, List.map_nil, List.length_cons, List.length_nil, List.cons_append, List.nil_append, List.append_nil, List.replicate, List.getElem?_cons_zero, List.getElem?_cons_succ, List.set_cons_zero, List.set_cons_succ, Nat.reduceAdd, Nat.reduceSub, isI_int, isB_int, if_true, if_false, Bool.false_eq_true, Bool.not_true, Bool.not_false, den_l_turned, b_l_turned, lenL, hl, e0, lenS, hr, k1, rangeL_length]
  rfl
end Dn
namespace Dn
open Hue
def orders (h : Nat) : List (List Nat) := if h = 2 then [[0, 1], [1, 0]] else [[0, 1, 2], [1, 2, 0], [2, 1, 0], [0, 2, 1], [2, 0, 1]]
def exL (o : List Nat) (f : List (List Nat)) : List (List Nat) := f.map fun r => r.map fun c => 48 + o.getD (c - 48) 0
theorem order_cases {P : Nat → List Nat → Prop} (a : P 2 [0, 1]) (b : P 2 [1, 0]) (c : P 3 [0, 1, 2]) (d : P 3 [1, 2, 0]) (e : P 3 [2, 1, 0]) (f : P 3 [0, 2, 1]) (g : P 3 [2, 0, 1]) {h : Nat} {o : List Nat} (hh : h = 2 ∨ h = 3) (ho : o ∈ orders h) : P h o := by
  rcases hh with rfl | rfl
  · have : o = [0, 1] ∨ o = [1, 0] := by simpa [orders] using ho
    rcases this with rfl | rfl <;> assumption
  · have : o = [0, 1, 2] ∨ o = [1, 2, 0] ∨ o = [2, 1, 0] ∨ o = [0, 2, 1] ∨ o = [2, 0, 1] := by simpa [orders] using ho
    rcases this with rfl | rfl | rfl | rfl | rfl <;> assumption
theorem ex_sorted {h : Nat} {o : List Nat} (hh : h = 2 ∨ h = 3) (ho : o ∈ orders h) : ((primF .sorted [dNats o]).bind fun x => (primF .lrng1 [.int h]).bind fun y => cmpF .ne x y) = .ok (.bl false) := by
  refine order_cases (P := fun h o => ((primF .sorted [dNats o]).bind fun x => (primF .lrng1 [.int h]).bind fun y => cmpF .ne x y) = .ok (.bl false)) ?_ ?_ ?_ ?_ ?_ ?_ ?_ hh ho <;> kernel_rfl
theorem ex_at {h : Nat} {o : List Nat} (hh : h = 2 ∨ h = 3) (ho : o ∈ orders h) : ∀ c ∈ signs h, (((primF .index [.str [48, 49, 50], .str [c]]).bind fun y => idxF (dNats o) y).bind fun y => idxF (.str [48, 49, 50]) y) = .ok (.str [48 + o.getD (c - 48) 0]) ∧
    ((((primF .int [.str [c]]).bind fun y => idxF (dNats o) y).bind fun x => R.ok [x]).bind fun ds => primF .str ds) = .ok (.str [48 + o.getD (c - 48) 0]) ∧ 48 + o.getD (c - 48) 0 ∈ signs h := by
  have two : ∀ (Q : Nat → Prop), Q 48 → Q 49 → ∀ c ∈ signs 2, Q c := fun Q a b c hc => by
    have : c = 48 ∨ c = 49 := by simpa [signs] using hc
    rcases this with rfl | rfl <;> assumption
  have three : ∀ (Q : Nat → Prop), Q 48 → Q 49 → Q 50 → ∀ c ∈ signs 3, Q c := fun Q a b d c hc => by
    have : c = 48 ∨ c = 49 ∨ c = 50 := by simpa [signs] using hc
    rcases this with rfl | rfl | rfl <;> assumption
  refine order_cases (P := fun h o => ∀ c ∈ signs h, (((primF .index [.str [48, 49, 50], .str [c]]).bind fun y => idxF (dNats o) y).bind fun y => idxF (.str [48, 49, 50]) y) = .ok (.str [48 + o.getD (c - 48) 0]) ∧
    ((((primF .int [.str [c]]).bind fun y => idxF (dNats o) y).bind fun x => R.ok [x]).bind fun ds => primF .str ds) = .ok (.str [48 + o.getD (c - 48) 0]) ∧ 48 + o.getD (c - 48) 0 ∈ signs h) ?_ ?_ ?_ ?_ ?_ ?_ ?_ hh ho
  · exact two _ ⟨by kernel_rfl, by kernel_rfl, by decide⟩ ⟨by kernel_rfl, by kernel_rfl, by decide⟩
  · exact two _ ⟨by kernel_rfl, by kernel_rfl, by decide⟩ ⟨by kernel_rfl, by kernel_rfl, by decide⟩
  all_goals exact three _ ⟨by kernel_rfl, by kernel_rfl, by decide⟩ ⟨by kernel_rfl, by kernel_rfl, by decide⟩ ⟨by kernel_rfl, by kernel_rfl, by decide⟩
theorem Flr.ex {h w n : Nat} {f : List (List Nat)} {o : List Nat} (hh : h = 2 ∨ h = 3) (ho : o ∈ orders h) (F : Flr h w n f) : Flr h w n (exL o f) :=
  ⟨by unfold exL; rw [List.length_map]; exact F.high, fun r hr => by
    obtain ⟨q, hq, rfl⟩ := List.mem_map.mp hr
    rw [List.length_map]
    exact F.wide q hq, fun r hr c hc => by
    obtain ⟨q, hq, rfl⟩ := List.mem_map.mp hr
    obtain ⟨s, hs, rfl⟩ := List.mem_map.mp hc
    exact (ex_at hh ho s (F.hue q hq s hs)).2.2⟩
theorem exchanged_ok {h w n : Nat} {f : List (List Nat)} {o : List Nat} (k : Kd h w) (hn : 1 ≤ n ∧ n ≤ 8) (F : Flr h w n f) (ho : o ∈ orders h) : den_exchanged [.int h, dRows f, dNats o] = .ok (dRows (exL o f)) := by
  have hh : h = 2 ∨ h = 3 := by unfold Kd at k; omega
  have hw : w ≤ 4 := by unfold Kd at k; omega
  have eo : dNats o = .lst (o.map fun (i : Nat) => D.int (i : Int)) := rfl
  have e : dRows f = .lst (f.map D.str) := rfl
  have c0 : ev (.comp b_exchanged_1 (.nm 3) (.seq (.var 2)) .none [3]) [some (.int h), some (.lst (f.map D.str)), some (.lst (o.map fun (i : Nat) => D.int (i : Int))), none, none, none] = .ok (.lst (o.map fun r => .bl ((fun _ => true) r))) := by
    simp only [run_eq, evSs_cons, evSs_nil, evS_par, evS_asg, evS_asgT, evS_asgR, evS_app, evS_ext, evS_ite, evS_for, evS_ret, evS_raise, evS_expr, evS_pass, ev_bin, ev_var, ev_lit, ev_cmp, ev_chn, ev_isN, ev_notN, ev_and, ev_or, ev_not, ev_ite, ev_call, ev_prim, ev_meth, ev_rev, ev_idx, ev_slc, ev_lst, ev_tup, ev_comp, ev_neg, evs_cons, evs_nil, evO_none, evO_some, evC_none, evC_some, evI_seq, evI_rng1, evI_rng2, evI_enm, evI_zip, partI, then_ok, nx_then, rt_then, ex_then, addI, subI, mulI, fdivI, modI, ltI, leI, gtI, geI, eqI, truthB, ite_and, ite_or, Bool.true_and, Bool.false_and, Bool.and_true, Bool.and_false, Bool.true_or, Bool.false_or, Bool.or_true, Bool.or_false, lim_if, lim_if2, shal_int, shal_bl, shal_str, shal_non, decide_true, decide_false, setAll, bindTg, bindOk, bindExc, ofSome, List.map_cons, List.map_nil, List.length_cons, List.length_nil, List.cons_append, List.nil_append, List.append_nil, List.replicate, List.getElem?_cons_zero, List.getElem?_cons_succ, List.set_cons_zero, List.set_cons_succ, Nat.reduceAdd, Nat.reduceSub, isI_int, isB_int, if_true, if_false, Bool.false_eq_true, Bool.not_true, Bool.not_false, seqL, wipeE]
    rw [compA (g := fun _ => .bl true) fun r hr => ⟨_, rfl, rfl, ?_⟩]
    · rfl
    · simp only [run_eq, evSs_cons, evSs_nil, evS_par, evS_asg, evS_asgT, evS_asgR, evS_app, evS_ext, evS_ite, evS_for, evS_ret, evS_raise, evS_expr, evS_pass, ev_bin, ev_var, ev_lit, ev_cmp, ev_chn, ev_isN, ev_notN, ev_and, ev_or, ev_not, ev_ite, ev_call, ev_prim, ev_meth, ev_rev, ev_idx, ev_slc, ev_lst, ev_tup, ev_comp, ev_neg, evs_cons, evs_nil, evO_none, evO_some, evC_none, evC_some, evI_seq, evI_rng1, evI_rng2, evI_enm, evI_zip, partI, then_ok, nx_then, rt_then, ex_then, addI, subI, mulI, fdivI, modI, ltI, leI, gtI, geI, eqI, truthB, ite_and, ite_or, Bool.true_and, Bool.false_and, Bool.and_true, Bool.and_false, Bool.true_or, Bool.false_or, Bool.or_true, Bool.or_false, lim_if, lim_if2, shal_int, shal_bl, shal_str, shal_non, decide_true, decide_false, setAll, bindTg, bindOk, bindExc, ofSome, List.map_cons, List.map_nil, List.length_cons, List.length_nil, List.cons_append, List.nil_append, List.append_nil, List.replicate, List.getElem?_cons_zero, List.getElem?_cons_succ, List.set_cons_zero, List.set_cons_succ, Nat.reduceAdd, Nat.reduceSub, isI_int, isB_int, if_true, if_false, Bool.false_eq_true, Bool.not_true, Bool.not_false, b_exchanged_1, is_whole_int]
  have c1 : ∀ r ∈ f, ev b_exchanged_3 [some (.int h), some (.lst (f.map D.str)), some (.lst (o.map fun (i : Nat) => D.int (i : Int))), none, some (.str r), none] = .ok (.str (r.map fun c => 48 + o.getD (c - 48) 0)) := fun r hr => by
    have c2 : ev (.comp b_exchanged_2 (.nm 5) (.seq (.var 4)) .none [5]) [some (.int h), some (.lst (f.map D.str)), some (.lst (o.map fun (i : Nat) => D.int (i : Int))), none, some (.str r), none] = .ok (.lst ((r.map fun c => [48 + o.getD (c - 48) 0]).map D.str)) := by
      simp only [run_eq, evSs_cons, evSs_nil, evS_par, evS_asg, evS_asgT, evS_asgR, evS_app, evS_ext, evS_ite, evS_for, evS_ret, evS_raise, evS_expr, evS_pass, ev_bin, ev_var, ev_lit, ev_cmp, ev_chn, ev_isN, ev_notN, ev_and, ev_or, ev_not, ev_ite, ev_call, ev_prim, ev_meth, ev_rev, ev_idx, ev_slc, ev_lst, ev_tup, ev_comp, ev_neg, evs_cons, evs_nil, evO_none, evO_some, evC_none, evC_some, evI_seq, evI_rng1, evI_rng2, evI_enm, evI_zip, partI, then_ok, nx_then, rt_then, ex_then, addI, subI, mulI, fdivI, modI, ltI, leI, gtI, geI, eqI, truthB, ite_and, ite_or, Bool.true_and, Bool.false_and, Bool.and_true, Bool.and_false, Bool.true_or, Bool.false_or, Bool.or_true, Bool.or_false, lim_if, lim_if2, shal_int, shal_bl, shal_str, shal_non, decide_true, decide_false, setAll, bindTg, bindOk, bindExc, ofSome, List.map_cons, List.map_nil, List.length_cons, List.length_nil, List.cons_append, List.nil_append, List.append_nil, List.replicate, List.getElem?_cons_zero, List.getElem?_cons_succ, List.set_cons_zero, List.set_cons_succ, Nat.reduceAdd, Nat.reduceSub, isI_int, isB_int, if_true, if_false, Bool.false_eq_true, Bool.not_true, Bool.not_false, seqS, wipeE]
      rw [compA (g := fun c => .str [48 + o.getD (c - 48) 0]) fun c hc => ⟨_, rfl, rfl, ?_⟩]
      · simp only [run_eq, evSs_cons, evSs_nil, evS_par, evS_asg, evS_asgT, evS_asgR, evS_app, evS_ext, evS_ite, evS_for, evS_ret, evS_raise, evS_expr, evS_pass, ev_bin, ev_var, ev_lit, ev_cmp, ev_chn, ev_isN, ev_notN, ev_and, ev_or, ev_not, ev_ite, ev_call, ev_prim, ev_meth, ev_rev, ev_idx, ev_slc, ev_lst, ev_tup, ev_comp, ev_neg, evs_cons, evs_nil, evO_none, evO_some, evC_none, evC_some, evI_seq, evI_rng1, evI_rng2, evI_enm, evI_zip, partI, then_ok, nx_then, rt_then, ex_then, addI, subI, mulI, fdivI, modI, ltI, leI, gtI, geI, eqI, truthB, ite_and, ite_or, Bool.true_and, Bool.false_and, Bool.and_true, Bool.and_false, Bool.true_or, Bool.false_or, Bool.or_true, Bool.or_false, lim_if, lim_if2, shal_int, shal_bl, shal_str, shal_non, decide_true, decide_false, setAll, bindTg, bindOk, bindExc, ofSome, List.map_cons, List.map_nil, List.length_cons, List.length_nil, List.cons_append, List.nil_append, List.append_nil, List.replicate, List.getElem?_cons_zero, List.getElem?_cons_succ, List.set_cons_zero, List.set_cons_succ, Nat.reduceAdd, Nat.reduceSub, isI_int, isB_int, if_true, if_false, Bool.false_eq_true, Bool.not_true, Bool.not_false, noExc_ok, List.map_map, Function.comp_def]
      · have := (ex_at hh ho c (F.hue r hr c hc)).1
        rw [eo] at this
        simp only [run_eq, evSs_cons, evSs_nil, evS_par, evS_asg, evS_asgT, evS_asgR, evS_app, evS_ext, evS_ite, evS_for, evS_ret, evS_raise, evS_expr, evS_pass, ev_bin, ev_var, ev_lit, ev_cmp, ev_chn, ev_isN, ev_notN, ev_and, ev_or, ev_not, ev_ite, ev_call, ev_prim, ev_meth, ev_rev, ev_idx, ev_slc, ev_lst, ev_tup, ev_comp, ev_neg, evs_cons, evs_nil, evO_none, evO_some, evC_none, evC_some, evI_seq, evI_rng1, evI_rng2, evI_enm, evI_zip, partI, then_ok, nx_then, rt_then, ex_then, addI, subI, mulI, fdivI, modI, ltI, leI, gtI, geI, eqI, truthB, ite_and, ite_or, Bool.true_and, Bool.false_and, Bool.and_true, Bool.and_false, Bool.true_or, Bool.false_or, Bool.or_true, Bool.or_false, lim_if, lim_if2, shal_int, shal_bl, shal_str, shal_non, decide_true, decide_false, setAll, bindTg, bindOk, bindExc, ofSome, List.map_cons, List.map_nil, List.length_cons, List.length_nil, List.cons_append, List.nil_append, List.append_nil, List.replicate, List.getElem?_cons_zero, List.getElem?_cons_succ, List.set_cons_zero, List.set_cons_succ, Nat.reduceAdd, Nat.reduceSub, isI_int, isB_int, if_true, if_false, Bool.false_eq_true, Bool.not_true, Bool.not_false, b_exchanged_2, recvOk]
        exact this
    have hj : ((r.map fun c => [48 + o.getD (c - 48) 0]).map List.length).sum ≤ 10000000 := by
      rw [sum_le _ 1 (fun r hr => by obtain ⟨q, _, rfl⟩ := List.mem_map.mp hr; rfl), List.length_map, F.wide r hr]
      omega
    simp only [run_eq, evSs_cons, evSs_nil, evS_par, evS_asg, evS_asgT, evS_asgR, evS_app, evS_ext, evS_ite, evS_for, evS_ret, evS_raise, evS_expr, evS_pass, ev_bin, ev_var, ev_lit, ev_cmp, ev_chn, ev_isN, ev_notN, ev_and, ev_or, ev_not, ev_ite, ev_call, ev_prim, ev_meth, ev_rev, ev_idx, ev_slc, ev_lst, ev_tup, ev_comp, ev_neg, evs_cons, evs_nil, evO_none, evO_some, evC_none, evC_some, evI_seq, evI_rng1, evI_rng2, evI_enm, evI_zip, partI, then_ok, nx_then, rt_then, ex_then, addI, subI, mulI, fdivI, modI, ltI, leI, gtI, geI, eqI, truthB, ite_and, ite_or, Bool.true_and, Bool.false_and, Bool.and_true, Bool.and_false, Bool.true_or, Bool.false_or, Bool.or_true, Bool.or_false, lim_if, lim_if2, shal_int, shal_bl, shal_str, shal_non, decide_true, decide_false, setAll, bindTg, bindOk, bindExc, ofSome, List.map_cons, List.map_nil, List.length_cons, List.length_nil, List.cons_append, List.nil_append, List.append_nil, List.replicate, List.getElem?_cons_zero, List.getElem?_cons_succ, List.set_cons_zero, List.set_cons_succ, Nat.reduceAdd, Nat.reduceSub, isI_int, isB_int, if_true, if_false, Bool.false_eq_true, Bool.not_true, Bool.not_false, b_exchanged_3, ↓c2, recvOk, joinR hj, flat1]
  have c3 : ev (.comp b_exchanged_3 (.nm 4) (.seq (.var 1)) .none [4]) [some (.int h), some (.lst (f.map D.str)), some (.lst (o.map fun (i : Nat) => D.int (i : Int))), none, none, none] = .ok (dRows (exL o f)) := by
    simp only [run_eq, evSs_cons, evSs_nil, evS_par, evS_asg, evS_asgT, evS_asgR, evS_app, evS_ext, evS_ite, evS_for, evS_ret, evS_raise, evS_expr, evS_pass, ev_bin, ev_var, ev_lit, ev_cmp, ev_chn, ev_isN, ev_notN, ev_and, ev_or, ev_not, ev_ite, ev_call, ev_prim, ev_meth, ev_rev, ev_idx, ev_slc, ev_lst, ev_tup, ev_comp, ev_neg, evs_cons, evs_nil, evO_none, evO_some, evC_none, evC_some, evI_seq, evI_rng1, evI_rng2, evI_enm, evI_zip, partI, then_ok, nx_then, rt_then, ex_then, addI, subI, mulI, fdivI, modI, ltI, leI, gtI, geI, eqI, truthB, ite_and, ite_or, Bool.true_and, Bool.false_and, Bool.and_true, Bool.and_false, Bool.true_or, Bool.false_or, Bool.or_true, Bool.or_false, lim_if, lim_if2, shal_int, shal_bl, shal_str, shal_non, decide_true, decide_false, setAll, bindTg, bindOk, bindExc, ofSome, List.map_cons, List.map_nil, List.length_cons, List.length_nil, List.cons_append, List.nil_append, List.append_nil, List.replicate, List.getElem?_cons_zero, List.getElem?_cons_succ, List.set_cons_zero, List.set_cons_succ, Nat.reduceAdd, Nat.reduceSub, isI_int, isB_int, if_true, if_false, Bool.false_eq_true, Bool.not_true, Bool.not_false, seqL, wipeE]
    rw [compA (g := fun r => .str (r.map fun c => 48 + o.getD (c - 48) 0)) fun r hr => ⟨_, rfl, rfl, c1 r hr⟩]
    simp only [run_eq, evSs_cons, evSs_nil, evS_par, evS_asg, evS_asgT, evS_asgR, evS_app, evS_ext, evS_ite, evS_for, evS_ret, evS_raise, evS_expr, evS_pass, ev_bin, ev_var, ev_lit, ev_cmp, ev_chn, ev_isN, ev_notN, ev_and, ev_or, ev_not, ev_ite, ev_call, ev_prim, ev_meth, ev_rev, ev_idx, ev_slc, ev_lst, ev_tup, ev_comp, ev_neg, evs_cons, evs_nil, evO_none, evO_some, evC_none, evC_some, evI_seq, evI_rng1, evI_rng2, evI_enm, evI_zip, partI, then_ok, nx_then, rt_then, ex_then, addI, subI, mulI, fdivI, modI, ltI, leI, gtI, geI, eqI, truthB, ite_and, ite_or, Bool.true_and, Bool.false_and, Bool.and_true, Bool.and_false, Bool.true_or, Bool.false_or, Bool.or_true, Bool.or_false, lim_if, lim_if2, shal_int, shal_bl, shal_str, shal_non, decide_true, decide_false, setAll, bindTg, bindOk, bindExc, ofSome, List.map_cons, List.map_nil, List.length_cons, List.length_nil, List.cons_append, List.nil_append, List.append_nil, List.replicate, List.getElem?_cons_zero, List.getElem?_cons_succ, List.set_cons_zero, List.set_cons_succ, Nat.reduceAdd, Nat.reduceSub, isI_int, isB_int, if_true, if_false, Bool.false_eq_true, Bool.not_true, Bool.not_false, noExc_ok, dRows, exL, List.map_map, Function.comp_def]
  have cf := check_floor_ok k hn F
  have es := ex_sorted hh ho
  rw [e] at cf ⊢
  rw [eo] at es ⊢
  have t1 : (o.all fun _ => true) = true := by simp
  simp only [run_eq, evSs_cons, evSs_nil, evS_par, evS_asg, evS_asgT, evS_asgR, evS_app, evS_ext, evS_ite, evS_for, evS_ret, evS_raise, evS_expr, evS_pass, ev_bin, ev_var, ev_lit, ev_cmp, ev_chn, ev_isN, ev_notN, ev_and, ev_or, ev_not, ev_ite, ev_call, ev_prim, ev_meth, ev_rev, ev_idx, ev_slc, ev_lst, ev_tup, ev_comp, ev_neg, evs_cons, evs_nil, evO_none, evO_some, evC_none, evC_some, evI_seq, evI_rng1, evI_rng2, evI_enm, evI_zip, partI, then_ok, nx_then, rt_then, ex_then, addI, subI, mulI, fdivI, modI, ltI, leI, gtI, geI, eqI, truthB, ite_and, ite_or, Bool.true_and, Bool.false_and, Bool.and_true, Bool.and_false, Bool.true_or, Bool.false_or, Bool.or_true, Bool.or_false, lim_if, lim_if2, shal_int, shal_bl, shal_str, shal_non, decide_true, decide_false, setAll, bindTg, bindOk, bindExc, ofSome, List.map_cons, List.map_nil, List.length_cons, List.length_nil, List.cons_append, List.nil_append, List.append_nil, List.replicate, List.getElem?_cons_zero, List.getElem?_cons_succ, List.set_cons_zero, List.set_cons_succ, Nat.reduceAdd, Nat.reduceSub, isI_int, isB_int, if_true, if_false, Bool.false_eq_true, Bool.not_true, Bool.not_false, den_exchanged, b_exchanged, check_hues_ok k.hues, cf, isL_lst, ↓c0, allB, t1, es, ↓c3]
theorem l_exchanged_ok {h w n : Nat} {f : List (List Nat)} {o : List Nat} (hh : h = 2 ∨ h = 3) (hw : w ≤ 4) (F : Flr h w n f) (ho : o ∈ orders h) : den_l_exchanged [dRows f, dNats o] = .ok (dRows (exL o f)) := by
  have eo : dNats o = .lst (o.map fun (i : Nat) => D.int (i : Int)) := rfl
  have e : dRows f = .lst (f.map D.str) := rfl
  have c1 : ∀ r ∈ f, ev b_l_exchanged_2 [some (.lst (f.map D.str)), some (.lst (o.map fun (i : Nat) => D.int (i : Int))), some (.str r), none] = .ok (.str (r.map fun c => 48 + o.getD (c - 48) 0)) := fun r hr => by
    have c2 : ev (.comp b_l_exchanged_1 (.nm 3) (.seq (.var 2)) .none [3]) [some (.lst (f.map D.str)), some (.lst (o.map fun (i : Nat) => D.int (i : Int))), some (.str r), none] = .ok (.lst ((r.map fun c => [48 + o.getD (c - 48) 0]).map D.str)) := by
      simp only [run_eq, evSs_cons, evSs_nil, evS_par, evS_asg, evS_asgT, evS_asgR, evS_app, evS_ext, evS_ite, evS_for, evS_ret, evS_raise, evS_expr, evS_pass, ev_bin, ev_var, ev_lit, ev_cmp, ev_chn, ev_isN, ev_notN, ev_and, ev_or, ev_not, ev_ite, ev_call, ev_prim, ev_meth, ev_rev, ev_idx, ev_slc, ev_lst, ev_tup, ev_comp, ev_neg, evs_cons, evs_nil, evO_none, evO_some, evC_none, evC_some, evI_seq, evI_rng1, evI_rng2, evI_enm, evI_zip, partI, then_ok, nx_then, rt_then, ex_then, addI, subI, mulI, fdivI, modI, ltI, leI, gtI, geI, eqI, truthB, ite_and, ite_or, Bool.true_and, Bool.false_and, Bool.and_true, Bool.and_false, Bool.true_or, Bool.false_or, Bool.or_true, Bool.or_false, lim_if, lim_if2, shal_int, shal_bl, shal_str, shal_non, decide_true, decide_false, setAll, bindTg, bindOk, bindExc, ofSome, List.map_cons, List.map_nil, List.length_cons, List.length_nil, List.cons_append, List.nil_append, List.append_nil, List.replicate, List.getElem?_cons_zero, List.getElem?_cons_succ, List.set_cons_zero, List.set_cons_succ, Nat.reduceAdd, Nat.reduceSub, isI_int, isB_int, if_true, if_false, Bool.false_eq_true, Bool.not_true, Bool.not_false, seqS, wipeE]
      rw [compA (g := fun c => .str [48 + o.getD (c - 48) 0]) fun c hc => ⟨_, rfl, rfl, ?_⟩]
      · simp only [run_eq, evSs_cons, evSs_nil, evS_par, evS_asg, evS_asgT, evS_asgR, evS_app, evS_ext, evS_ite, evS_for, evS_ret, evS_raise, evS_expr, evS_pass, ev_bin, ev_var, ev_lit, ev_cmp, ev_chn, ev_isN, ev_notN, ev_and, ev_or, ev_not, ev_ite, ev_call, ev_prim, ev_meth, ev_rev, ev_idx, ev_slc, ev_lst, ev_tup, ev_comp, ev_neg, evs_cons, evs_nil, evO_none, evO_some, evC_none, evC_some, evI_seq, evI_rng1, evI_rng2, evI_enm, evI_zip, partI, then_ok, nx_then, rt_then, ex_then, addI, subI, mulI, fdivI, modI, ltI, leI, gtI, geI, eqI, truthB, ite_and, ite_or, Bool.true_and, Bool.false_and, Bool.and_true, Bool.and_false, Bool.true_or, Bool.false_or, Bool.or_true, Bool.or_false, lim_if, lim_if2, shal_int, shal_bl, shal_str, shal_non, decide_true, decide_false, setAll, bindTg, bindOk, bindExc, ofSome, List.map_cons, List.map_nil, List.length_cons, List.length_nil, List.cons_append, List.nil_append, List.append_nil, List.replicate, List.getElem?_cons_zero, List.getElem?_cons_succ, List.set_cons_zero, List.set_cons_succ, Nat.reduceAdd, Nat.reduceSub, isI_int, isB_int, if_true, if_false, Bool.false_eq_true, Bool.not_true, Bool.not_false, noExc_ok, List.map_map, Function.comp_def]
      · have := (ex_at hh ho c (F.hue r hr c hc)).2.1
        rw [eo] at this
        simp only [run_eq, evSs_cons, evSs_nil, evS_par, evS_asg, evS_asgT, evS_asgR, evS_app, evS_ext, evS_ite, evS_for, evS_ret, evS_raise, evS_expr, evS_pass, ev_bin, ev_var, ev_lit, ev_cmp, ev_chn, ev_isN, ev_notN, ev_and, ev_or, ev_not, ev_ite, ev_call, ev_prim, ev_meth, ev_rev, ev_idx, ev_slc, ev_lst, ev_tup, ev_comp, ev_neg, evs_cons, evs_nil, evO_none, evO_some, evC_none, evC_some, evI_seq, evI_rng1, evI_rng2, evI_enm, evI_zip, partI, then_ok, nx_then, rt_then, ex_then, addI, subI, mulI, fdivI, modI, ltI, leI, gtI, geI, eqI, truthB, ite_and, ite_or, Bool.true_and, Bool.false_and, Bool.and_true, Bool.and_false, Bool.true_or, Bool.false_or, Bool.or_true, Bool.or_false, lim_if, lim_if2, shal_int, shal_bl, shal_str, shal_non, decide_true, decide_false, setAll, bindTg, bindOk, bindExc, ofSome, List.map_cons, List.map_nil, List.length_cons, List.length_nil, List.cons_append, List.nil_append, List.append_nil, List.replicate, List.getElem?_cons_zero, List.getElem?_cons_succ, List.set_cons_zero, List.set_cons_succ, Nat.reduceAdd, Nat.reduceSub, isI_int, isB_int, if_true, if_false, Bool.false_eq_true, Bool.not_true, Bool.not_false, b_l_exchanged_1]
        exact this
    have hj : ((r.map fun c => [48 + o.getD (c - 48) 0]).map List.length).sum ≤ 10000000 := by
      rw [sum_le _ 1 (fun r hr => by obtain ⟨q, _, rfl⟩ := List.mem_map.mp hr; rfl), List.length_map, F.wide r hr]
      omega
    simp only [run_eq, evSs_cons, evSs_nil, evS_par, evS_asg, evS_asgT, evS_asgR, evS_app, evS_ext, evS_ite, evS_for, evS_ret, evS_raise, evS_expr, evS_pass, ev_bin, ev_var, ev_lit, ev_cmp, ev_chn, ev_isN, ev_notN, ev_and, ev_or, ev_not, ev_ite, ev_call, ev_prim, ev_meth, ev_rev, ev_idx, ev_slc, ev_lst, ev_tup, ev_comp, ev_neg, evs_cons, evs_nil, evO_none, evO_some, evC_none, evC_some, evI_seq, evI_rng1, evI_rng2, evI_enm, evI_zip, partI, then_ok, nx_then, rt_then, ex_then, addI, subI, mulI, fdivI, modI, ltI, leI, gtI, geI, eqI, truthB, ite_and, ite_or, Bool.true_and, Bool.false_and, Bool.and_true, Bool.and_false, Bool.true_or, Bool.false_or, Bool.or_true, Bool.or_false, lim_if, lim_if2, shal_int, shal_bl, shal_str, shal_non, decide_true, decide_false, setAll, bindTg, bindOk, bindExc, ofSome, List.map_cons, List.map_nil, List.length_cons, List.length_nil, List.cons_append, List.nil_append, List.append_nil, List.replicate, List.getElem?_cons_zero, List.getElem?_cons_succ, List.set_cons_zero, List.set_cons_succ, Nat.reduceAdd, Nat.reduceSub, isI_int, isB_int, if_true, if_false, Bool.false_eq_true, Bool.not_true, Bool.not_false, b_l_exchanged_2, ↓c2, recvOk, joinR hj, flat1]
  have c3 : ev (.comp b_l_exchanged_2 (.nm 2) (.seq (.var 0)) .none [2]) [some (.lst (f.map D.str)), some (.lst (o.map fun (i : Nat) => D.int (i : Int))), none, none] = .ok (dRows (exL o f)) := by
    simp only [run_eq, evSs_cons, evSs_nil, evS_par, evS_asg, evS_asgT, evS_asgR, evS_app, evS_ext, evS_ite, evS_for, evS_ret, evS_raise, evS_expr, evS_pass, ev_bin, ev_var, ev_lit, ev_cmp, ev_chn, ev_isN, ev_notN, ev_and, ev_or, ev_not, ev_ite, ev_call, ev_prim, ev_meth, ev_rev, ev_idx, ev_slc, ev_lst, ev_tup, ev_comp, ev_neg, evs_cons, evs_nil, evO_none, evO_some, evC_none, evC_some, evI_seq, evI_rng1, evI_rng2, evI_enm, evI_zip, partI, then_ok, nx_then, rt_then, ex_then, addI, subI, mulI, fdivI, modI, ltI, leI, gtI, geI, eqI, truthB, ite_and, ite_or, Bool.true_and, Bool.false_and, Bool.and_true, Bool.and_false, Bool.true_or, Bool.false_or, Bool.or_true, Bool.or_false, lim_if, lim_if2, shal_int, shal_bl, shal_str, shal_non, decide_true, decide_false, setAll, bindTg, bindOk, bindExc, ofSome, List.map_cons, List.map_nil, List.length_cons, List.length_nil, List.cons_append, List.nil_append, List.append_nil, List.replicate, List.getElem?_cons_zero, List.getElem?_cons_succ, List.set_cons_zero, List.set_cons_succ, Nat.reduceAdd, Nat.reduceSub, isI_int, isB_int, if_true, if_false, Bool.false_eq_true, Bool.not_true, Bool.not_false, seqL, wipeE]
    rw [compA (g := fun r => .str (r.map fun c => 48 + o.getD (c - 48) 0)) fun r hr => ⟨_, rfl, rfl, c1 r hr⟩]
    simp only [run_eq, evSs_cons, evSs_nil, evS_par, evS_asg, evS_asgT, evS_asgR, evS_app, evS_ext, evS_ite, evS_for, evS_ret, evS_raise, evS_expr, evS_pass, ev_bin, ev_var, ev_lit, ev_cmp, ev_chn, ev_isN, ev_notN, ev_and, ev_or, ev_not, ev_ite, ev_call, ev_prim, ev_meth, ev_rev, ev_idx, ev_slc, ev_lst, ev_tup, ev_comp, ev_neg, evs_cons, evs_nil, evO_none, evO_some, evC_none, evC_some, evI_seq, evI_rng1, evI_rng2, evI_enm, evI_zip, partI, then_ok, nx_then, rt_then, ex_then, addI, subI, mulI, fdivI, modI, ltI, leI, gtI, geI, eqI, truthB, ite_and, ite_or, Bool.true_and, Bool.false_and, Bool.and_true, Bool.and_false, Bool.true_or, Bool.false_or, Bool.or_true, Bool.or_false, lim_if, lim_if2, shal_int, shal_bl, shal_str, shal_non, decide_true, decide_false, setAll, bindTg, bindOk, bindExc, ofSome, List.map_cons, List.map_nil, List.length_cons, List.length_nil, List.cons_append, List.nil_append, List.append_nil, List.replicate, List.getElem?_cons_zero, List.getElem?_cons_succ, List.set_cons_zero, List.set_cons_succ, Nat.reduceAdd, Nat.reduceSub, isI_int, isB_int, if_true, if_false, Bool.false_eq_true, Bool.not_true, Bool.not_false, noExc_ok, dRows, exL, List.map_map, Function.comp_def]
  rw [e, eo]
  simp only [run_eq, evSs_cons, evSs_nil, evS_par, evS_asg, evS_asgT, evS_asgR, evS_app, evS_ext, evS_ite, evS_for, evS_ret, evS_raise, evS_expr, evS_pass, ev_bin, ev_var, ev_lit, ev_cmp, ev_chn, ev_isN, ev_notN, ev_and, ev_or, ev_not, ev_ite, ev_call, ev_prim, ev_meth, ev_rev, ev_idx, ev_slc, ev_lst, ev_tup, ev_comp, ev_neg, evs_cons, evs_nil, evO_none, evO_some, evC_none, evC_some, evI_seq, evI_rng1, evI_rng2, evI_enm, evI_zip, partI, then_ok, nx_then, rt_then, ex_then, addI, subI, mulI, fdivI, modI, ltI, leI, gtI, geI, eqI, truthB, ite_and, ite_or, Bool.true_and, Bool.false_and, Bool.and_true, Bool.and_false, Bool.true_or, Bool.false_or, Bool.or_true, Bool.or_false, lim_if, lim_if2, shal_int, shal_bl, shal_str, shal_non, decide_true, decide_false, setAll, bindTg, bindOk, bindExc, ofSome, List.map_cons, List.map_nil, List.length_cons, List.length_nil, List.cons_append, List.nil_append, List.append_nil, List.replicate, List.getElem?_cons_zero, List.getElem?_cons_succ, List.set_cons_zero, List.set_cons_succ, Nat.reduceAdd, Nat.reduceSub, isI_int, isB_int, if_true, if_false, Bool.false_eq_true, Bool.not_true, Bool.not_false, den_l_exchanged, b_l_exchanged, ↓c3]
/-! ### put together -/
theorem zipL_map (a b : List (List Nat)) : zipL (a.map D.str) (b.map D.str) = (a.zip b).map fun p => .tup [.str p.1, .str p.2] := by
  induction a generalizing b with
  | nil => cases b <;> rfl
  | cons x r ih =>
    cases b with
    | nil => rfl
    | cons y t =>
      rw [List.map_cons, List.map_cons, zipL, ih]
      rfl
theorem zipR (a b : List D) : zipF (.lst a) (.lst b) = .ok (zipL a b) := rfl
theorem beside_ok {h w w2 n : Nat} {f g : List (List Nat)} (k : Kd h w) (k2 : Kd h w2) (k3 : Kd h (w + w2)) (hn : 1 ≤ n ∧ n ≤ 8) (F : Flr h w n f) (G : Flr h w2 n g) : den_beside [.int h, dRows f, dRows g] = .ok (dRows ((f.zip g).map fun p => p.1 ++ p.2)) := by
  obtain ⟨r0, e0, l0⟩ := F.first hn.1
  obtain ⟨r1, e1, l1⟩ := G.first hn.1
  have hw : w + w2 ≤ 4 := by unfold Kd at k3; omega
  have e : dRows f = .lst (f.map D.str) := rfl
  have e2 : dRows g = .lst (g.map D.str) := rfl
  have cf := check_floor_ok k hn F
  have cg := check_floor_ok k2 hn G
  rw [e] at cf ⊢
  rw [e2] at cg ⊢
  have hl : ((f.map D.str).length : Int) = n := by rw [List.length_map, F.high]
  have hl2 : ((g.map D.str).length : Int) = n := by rw [List.length_map, G.high]
  have c1 : ev (.comp b_beside_1 (.tp [3, 4]) (.zip (.var 1) (.var 2)) .none [3, 4]) [some (.int h), some (.lst (f.map D.str)), some (.lst (g.map D.str)), none, none] = .ok (dRows ((f.zip g).map fun p => p.1 ++ p.2)) := by
    simp only [run_eq, evSs_cons, evSs_nil, evS_par, evS_asg, evS_asgT, evS_asgR, evS_app, evS_ext, evS_ite, evS_for, evS_ret, evS_raise, evS_expr, evS_pass, ev_bin, ev_var, ev_lit, ev_cmp, ev_chn, ev_isN, ev_notN, ev_and, ev_or, ev_not, ev_ite, ev_call, ev_prim, ev_meth, ev_rev, ev_idx, ev_slc, ev_lst, ev_tup, ev_comp, ev_neg, evs_cons, evs_nil, evO_none, evO_some, evC_none, evC_some, evI_seq, evI_rng1, evI_rng2, evI_enm, evI_zip, partI, then_ok, nx_then, rt_then, ex_then, addI, subI, mulI, fdivI, modI, ltI, leI, gtI, geI, eqI, truthB, ite_and, ite_or, Bool.true_and, Bool.false_and, Bool.and_true, Bool.and_false, Bool.true_or, Bool.false_or, Bool.or_true, Bool.or_false, lim_if, lim_if2, shal_int, shal_bl, shal_str, shal_non, decide_true, decide_false, setAll, bindTg, bindOk, bindExc, ofSome, List.map_cons, List.map_nil, List.length_cons, List.length_nil, List.cons_append, List.nil_append, List.append_nil, List.replicate, List.getElem?_cons_zero, List.getElem?_cons_succ, List.set_cons_zero, List.set_cons_succ, Nat.reduceAdd, Nat.reduceSub, isI_int, isB_int, if_true, if_false, Bool.false_eq_true, Bool.not_true, Bool.not_false, zipR, zipL_map, wipeE]
    rw [compA (g := fun p => .str (p.1 ++ p.2)) fun p hp => ⟨_, rfl, rfl, ?_⟩]
    · simp only [run_eq, evSs_cons, evSs_nil, evS_par, evS_asg, evS_asgT, evS_asgR, evS_app, evS_ext, evS_ite, evS_for, evS_ret, evS_raise, evS_expr, evS_pass, ev_bin, ev_var, ev_lit, ev_cmp, ev_chn, ev_isN, ev_notN, ev_and, ev_or, ev_not, ev_ite, ev_call, ev_prim, ev_meth, ev_rev, ev_idx, ev_slc, ev_lst, ev_tup, ev_comp, ev_neg, evs_cons, evs_nil, evO_none, evO_some, evC_none, evC_some, evI_seq, evI_rng1, evI_rng2, evI_enm, evI_zip, partI, then_ok, nx_then, rt_then, ex_then, addI, subI, mulI, fdivI, modI, ltI, leI, gtI, geI, eqI, truthB, ite_and, ite_or, Bool.true_and, Bool.false_and, Bool.and_true, Bool.and_false, Bool.true_or, Bool.false_or, Bool.or_true, Bool.or_false, lim_if, lim_if2, shal_int, shal_bl, shal_str, shal_non, decide_true, decide_false, setAll, bindTg, bindOk, bindExc, ofSome, List.map_cons, List.map_nil, List.length_cons, List.length_nil, List.cons_append, List.nil_append, List.append_nil, List.replicate, List.getElem?_cons_zero, List.getElem?_cons_succ, List.set_cons_zero, List.set_cons_succ, Nat.reduceAdd, Nat.reduceSub, isI_int, isB_int, if_true, if_false, Bool.false_eq_true, Bool.not_true, Bool.not_false, noExc_ok, dRows, List.map_map, Function.comp_def]
    · have h1 := F.wide p.1 (List.of_mem_zip hp).1
      have h2 := G.wide p.2 (List.of_mem_zip hp).2
      simp (disch := omega) only [run_eq, evSs_cons, evSs_nil, evS_par, evS_asg, evS_asgT, evS_asgR, evS_app, evS_ext, evS_ite, evS_for, evS_ret, evS_raise, evS_expr, evS_pass, ev_bin, ev_var, ev_lit, ev_cmp, ev_chn, ev_isN, ev_notN, ev_and, ev_or, ev_not, ev_ite, ev_call, ev_prim, ev_meth, ev_rev, ev_idx, ev_slc, ev_lst, ev_tup, ev_comp, ev_neg, evs_cons, evs_nil, evO_none, evO_some, evC_none, evC_some, evI_seq, evI_rng1, evI_rng2, evI_enm, evI_zip, partI, then_ok, nx_then, rt_then, ex_then, addI, subI, mulI, fdivI, modI, ltI, leI, gtI, geI, eqI, truthB, ite_and, ite_or, Bool.true_and, Bool.false_and, Bool.and_true, Bool.and_false, Bool.true_or, Bool.false_or, Bool.or_true, Bool.or_false, lim_if, lim_if2, shal_int, shal_bl, shal_str, shal_non, decide_true, decide_false, setAll, bindTg, bindOk, bindExc, ofSome, List.map_cons, List.map_nil, List.length_cons, List.length_nil, List.cons_append, List.nil_append, List.append_nil, List.replicate, List.getElem?_cons_zero, List.getElem?_cons_succ, List.set_cons_zero, List.set_cons_succ, Nat.reduceAdd, Nat.reduceSub, isI_int, isB_int, if_true, if_false, Bool.false_eq_true, Bool.not_true, Bool.not_false, b_beside_1, addS]
  have g1 : decide (wideOf (h : Int) < (r0.length : Int) + (r1.length : Int)) = false := by
    have := k3.wide
    exact decide_eq_false (by omega)
  simp only [run_eq, evSs_cons, evSs_nil, evS_par, evS_asg, evS_asgT, evS_asgR, evS_app, evS_ext, evS_ite, evS_for, evS_ret, evS_raise, evS_expr, evS_pass, ev_bin, ev_var, ev_lit, ev_cmp, ev_chn, ev_isN, ev_notN, ev_and, ev_or, ev_not, ev_ite, ev_call, ev_prim, ev_meth, ev_rev, ev_idx, ev_slc, ev_lst, ev_tup, ev_comp, ev_neg, evs_cons, evs_nil, evO_none, evO_some, evC_none, evC_some, evI_seq, evI_rng1, evI_rng2, evI_enm, evI_zip, partI, then_ok, nx_then, rt_then, ex_then, addI, subI, mulI, fdivI, modI, ltI, leI, gtI, geI, eqI, truthB, ite_and, ite_or, Bool.true_and, Bool.false_and, Bool.and_true, Bool.and_false, Bool.true_or, Bool.false_or, Bool.or_true, Bool.or_false, lim_if, lim_if2, shal_int, shal_bl, shal_str, shal_non, decide_true, decide_false, setAll, bindTg, bindOk, bindExc, ofSome, List.map_cons, List.map_nil, List.length_cons, List.length_nil, List.cons_append, List.nil_append, List.append_nil, List.replicate, List.getElem?_cons_zero, List.getElem?_cons_succ, List.set_cons_zero, List.set_cons_succ, Nat.reduceAdd, Nat.reduceSub, isI_int, isB_int, if_true, if_false, Bool.false_eq_true, Bool.not_true, Bool.not_false, den_beside, b_beside, check_hues_ok k.hues, cf, cg, lenL, hl, hl2, neI', e0, e1, lenS, widest_ok, g1, ↓c1]
theorem above_ok {h w n n2 : Nat} {f g : List (List Nat)} (k : Kd h w) (hn : 1 ≤ n) (hn2 : 1 ≤ n2) (hs : n + n2 ≤ 8) (F : Flr h w n f) (G : Flr h w n2 g) : den_above [.int h, dRows f, dRows g] = .ok (dRows (f ++ g)) := by
  obtain ⟨r0, e0, l0⟩ := F.first hn
  obtain ⟨r1, e1, l1⟩ := G.first hn2
  have e : dRows f = .lst (f.map D.str) := rfl
  have e2 : dRows g = .lst (g.map D.str) := rfl
  have cf := check_floor_ok k (n := n) (by omega) F
  have cg := check_floor_ok k (n := n2) (by omega) G
  rw [e] at cf ⊢
  rw [e2] at cg ⊢
  have hl : (f.map D.str).length = n := by rw [List.length_map, F.high]
  have hl2 : (g.map D.str).length = n2 := by rw [List.length_map, G.high]
  have ea : binF .add (.lst (f.map D.str)) (.lst (g.map D.str)) = .ok (dRows (f ++ g)) := by
    rw [addL (by omega), ← List.map_append]
    rfl
  have g1 : decide ((8 : Int) < ((f.map D.str).length : Int) + ((g.map D.str).length : Int)) = false := decide_eq_false (by omega)
  simp only [run_eq, evSs_cons, evSs_nil, evS_par, evS_asg, evS_asgT, evS_asgR, evS_app, evS_ext, evS_ite, evS_for, evS_ret, evS_raise, evS_expr, evS_pass, ev_bin, ev_var, ev_lit, ev_cmp, ev_chn, ev_isN, ev_notN, ev_and, ev_or, ev_not, ev_ite, ev_call, ev_prim, ev_meth, ev_rev, ev_idx, ev_slc, ev_lst, ev_tup, ev_comp, ev_neg, evs_cons, evs_nil, evO_none, evO_some, evC_none, evC_some, evI_seq, evI_rng1, evI_rng2, evI_enm, evI_zip, partI, then_ok, nx_then, rt_then, ex_then, addI, subI, mulI, fdivI, modI, ltI, leI, gtI, geI, eqI, truthB, ite_and, ite_or, Bool.true_and, Bool.false_and, Bool.and_true, Bool.and_false, Bool.true_or, Bool.false_or, Bool.or_true, Bool.or_false, lim_if, lim_if2, shal_int, shal_bl, shal_str, shal_non, decide_true, decide_false, setAll, bindTg, bindOk, bindExc, ofSome, List.map_cons, List.map_nil, List.length_cons, List.length_nil, List.cons_append, List.nil_append, List.append_nil, List.replicate, List.getElem?_cons_zero, List.getElem?_cons_succ, List.set_cons_zero, List.set_cons_succ, Nat.reduceAdd, Nat.reduceSub, isI_int, isB_int, if_true, if_false, Bool.false_eq_true, Bool.not_true, Bool.not_false, den_above, b_above, check_hues_ok k.hues, cf, cg, lenL, neI', e0, e1, lenS, l0, l1, g1, ea]
end Dn
namespace Dn
open Hue
/-! ### plain little squares -/
def sqr (f : List (List Nat)) (r c : Nat) : Bool := gtAt (f.getD r []) (f.getD (r + 1) []) c
def plainRow (f : List (List Nat)) (r m : Nat) : List (Nat × Nat) := ((List.range m).filter (sqr f r)).map fun c => (r, c)
def plainL (n w : Nat) (f : List (List Nat)) : List (Nat × Nat) := (List.range (n - 1)).flatMap fun r => plainRow f r (w - 1)
theorem gtAt_four {a b : List Nat} {i : Nat} (h1 : i + 1 < a.length) (h2 : i + 1 < b.length) : gtAt a b i = (a[i] == a[i + 1] && (b[i] == b[i + 1] && a[i] == b[i])) := by
  unfold gtAt
  simp only [List.getElem?_eq_getElem h1, List.getElem?_eq_getElem h2, List.getElem?_eq_getElem (show i < a.length by omega), List.getElem?_eq_getElem (show i < b.length by omega), some_beq, Bool.and_assoc]
theorem gt_four (a b c d : Nat) : gt [a, b] [c, d] = !(a == b && (c == d && a == c)) := by
  show (!((List.range 1).any (gtAt [a, b] [c, d]))) = _
  have : (List.range 1).any (gtAt [a, b] [c, d]) = gtAt [a, b] [c, d] 0 := by simp [List.range_succ]
  rw [this, gtAt_four (by simp) (by simp)]
  rfl
theorem plainRow_succ (f : List (List Nat)) (r m : Nat) : plainRow f r (m + 1) = plainRow f r m ++ (if sqr f r m then [(r, m)] else []) := by
  unfold plainRow
  rw [List.range_succ, List.filter_append, List.map_append]
  congr 1
  by_cases h : sqr f r m = true <;> simp [h]
theorem plainRow_len (f : List (List Nat)) (r m : Nat) : (plainRow f r m).length ≤ m := by
  unfold plainRow
  rw [List.length_map]
  exact Nat.le_trans (List.length_filter_le ..) (by rw [List.length_range]; exact Nat.le_refl _)
theorem flatMap_len {α : Type} (l : List Nat) (g : Nat → List α) (m : Nat) (h : ∀ x, (g x).length ≤ m) : (l.flatMap g).length ≤ l.length * m := by
  induction l with
  | nil => simp
  | cons x r ih =>
    rw [List.flatMap_cons, List.length_append, List.length_cons, Nat.add_mul]
    have := h x
    omega
section
variable {h w n : Nat} {f : List (List Nat)}
theorem Flr.two (F : Flr h w n f) {r c : Nat} (hr : r + 1 < n) (hc : c + 1 < w) : ∃ (h1 : c + 1 < (f.getD r []).length) (h2 : c + 1 < (f.getD (r + 1) []).length), True := by
  refine ⟨?_, ?_, trivial⟩
  · rw [F.wide _ (F.row (by omega))]; exact hc
  · rw [F.wide _ (F.row (by omega))]; exact hc
theorem plain_row (F : Flr h w n f) (hn : n ≤ 8) (hw : w ≤ 4) {r : Nat} (hr : r + 1 < n) (acc : List D) (ha : acc.length ≤ 1000) (hD : D) (x : Option D) :
    ∃ y, forL (evSs b_plain_1) (.nm 4) (rangeL 0 (w - 1) 1) [some hD, some (.lst (f.map D.str)), some (.lst acc), some (.int (r : Int)), x] = .nx [some hD, some (.lst (f.map D.str)), some (.lst (acc ++ (plainRow f r (w - 1)).map dPair)), some (.int (r : Int)), y] := by
  have key := forL_inv0 (f := evSs b_plain_1) (tg := .nm 4) (items := rangeL 0 (w - 1) 1)
    (fun i e => ∃ y, e = [some hD, some (.lst (f.map D.str)), some (.lst (acc ++ (plainRow f r i).map dPair)), some (.int (r : Int)), y])
    (e := [some hD, some (.lst (f.map D.str)), some (.lst acc), some (.int (r : Int)), x]) ⟨x, by simp [plainRow]⟩ fun i d e hd hp => by
      obtain ⟨hi, rfl⟩ := rangeL_at hd
      obtain ⟨y, rfl⟩ := hp
      refine ⟨_, _, rfl, ?_, some (.int (0 + (i : Int) * 1)), rfl⟩
      obtain ⟨h1, h2, _⟩ := F.two hr (c := i) (by omega)
      rw [show (0 : Int) + (i : Int) * 1 = i by omega]
      have s1 : idxF (.lst (f.map D.str)) (.int (r : Int)) = .ok (.str (f.getD r [])) := rows_at rfl (by rw [F.high]; omega)
      have s2 : idxF (.lst (f.map D.str)) (.int ((r : Int) + 1)) = .ok (.str (f.getD (r + 1) [])) := rows_at (by omega) (by rw [F.high]; omega)
      have s3 : den_go_together [.str [(f.getD r [])[i], (f.getD r [])[i + 1]], .str [(f.getD (r + 1) [])[i], (f.getD (r + 1) [])[i + 1]]] = .ok (.bl (!sqr f r i)) := by
        rw [gt_ok (by simp) (by simp), gt_four]
        unfold sqr
        rw [gtAt_four h1 h2]
      have hl : (acc ++ (plainRow f r i).map dPair).length < 10000000 := by
        rw [List.length_append, List.length_map]
        have := plainRow_len f r i
        omega
      have tl : (if (2 : Nat) ≤ lim then R.ok (D.tup [.int (r : Int), .int (i : Int)]) else .bad) = R.ok (dPair (r, i)) := rfl
      rw [plainRow_succ]
      cases hq : sqr f r i with
      | false =>
        rw [hq] at s3
        simp only [run_eq, evSs_cons, evSs_nil, evS_par, evS_asg, evS_asgT, evS_asgR, evS_app, evS_ext, evS_ite, evS_for, evS_ret, evS_raise, evS_expr, evS_pass, ev_bin, ev_var, ev_lit, ev_cmp, ev_chn, ev_isN, ev_notN, ev_and, ev_or, ev_not, ev_ite, ev_call, ev_prim, ev_meth, ev_rev, ev_idx, ev_slc, ev_lst, ev_tup, ev_comp, ev_neg, evs_cons, evs_nil, evO_none, evO_some, evC_none, evC_some, evI_seq, evI_rng1, evI_rng2, evI_enm, evI_zip, partI, then_ok, nx_then, rt_then, ex_then, addI, subI, mulI, fdivI, modI, ltI, leI, gtI, geI, eqI, truthB, ite_and, ite_or, Bool.true_and, Bool.false_and, Bool.and_true, Bool.and_false, Bool.true_or, Bool.false_or, Bool.or_true, Bool.or_false, lim_if, lim_if2, shal_int, shal_bl, shal_str, shal_non, decide_true, decide_false, setAll, bindTg, bindOk, bindExc, ofSome, List.map_cons, List.map_nil, List.length_cons, List.length_nil, List.cons_append, List.nil_append, List.append_nil, List.replicate, List.getElem?_cons_zero, List.getElem?_cons_succ, List.set_cons_zero, List.set_cons_succ, Nat.reduceAdd, Nat.reduceSub, isI_int, isB_int, if_true, if_false, Bool.false_eq_true, Bool.not_true, Bool.not_false, b_plain_1, s1, s2, slcS, cut2 h1, cut2 h2, s3]
      | true =>
        rw [hq] at s3
        simp (disch := first | exact hl | omega) only [run_eq, evSs_cons, evSs_nil, evS_par, evS_asg, evS_asgT, evS_asgR, evS_app, evS_ext, evS_ite, evS_for, evS_ret, evS_raise, evS_expr, evS_pass, ev_bin, ev_var, ev_lit, ev_cmp, ev_chn, ev_isN, ev_notN, ev_and, ev_or, ev_not, ev_ite, ev_call, ev_prim, ev_meth, ev_rev, ev_idx, ev_slc, ev_lst, ev_tup, ev_comp, ev_neg, evs_cons, evs_nil, evO_none, evO_some, evC_none, evC_some, evI_seq, evI_rng1, evI_rng2, evI_enm, evI_zip, partI, then_ok, nx_then, rt_then, ex_then, addI, subI, mulI, fdivI, modI, ltI, leI, gtI, geI, eqI, truthB, ite_and, ite_or, Bool.true_and, Bool.false_and, Bool.and_true, Bool.and_false, Bool.true_or, Bool.false_or, Bool.or_true, Bool.or_false, lim_if, lim_if2, shal_int, shal_bl, shal_str, shal_non, decide_true, decide_false, setAll, bindTg, bindOk, bindExc, ofSome, List.map_cons, List.map_nil, List.length_cons, List.length_nil, List.cons_append, List.nil_append, List.append_nil, List.replicate, List.getElem?_cons_zero, List.getElem?_cons_succ, List.set_cons_zero, List.set_cons_succ, Nat.reduceAdd, Nat.reduceSub, isI_int, isB_int, if_true, if_false, Bool.false_eq_true, Bool.not_true, Bool.not_false, b_plain_1, s1, s2, slcS, cut2 h1, cut2 h2, s3, lstAt, List.map_append, List.append_assoc]
        rfl
  obtain ⟨e', k1, y, rfl⟩ := key
  rw [rangeL_length] at k1
  exact ⟨y, k1⟩
theorem plain_ok (k : Kd h w) (hn : 1 ≤ n ∧ n ≤ 8) (F : Flr h w n f) : den_plain [.int h, dRows f] = .ok (.lst ((plainL n w f).map dPair)) := by
  obtain ⟨r0, e0, l0⟩ := F.first hn.1
  have hw : 1 ≤ w ∧ w ≤ 4 := by unfold Kd at k; omega
  have hr : rng1F (.int ((r0.length : Int) - 1)) = .ok (rangeL 0 (w - 1) 1) := rngNat (by omega) (by omega)
  have hr2 : rng1F (.int (((f.map D.str).length : Int) - 1)) = .ok (rangeL 0 (n - 1) 1) := rngNat (by rw [List.length_map, F.high]; omega) (by omega)
  have key := forL_inv0 (f := evSs b_plain_2) (tg := .nm 3) (items := rangeL 0 (n - 1) 1)
    (fun i e => ∃ y z, e = [some (.int h), some (.lst (f.map D.str)), some (.lst (((List.range i).flatMap fun r => plainRow f r (w - 1)).map dPair)), y, z])
    (e := [some (.int h), some (.lst (f.map D.str)), some (.lst []), none, none]) ⟨none, none, rfl⟩ fun i d e hd hp => by
      obtain ⟨hi, rfl⟩ := rangeL_at hd
      obtain ⟨y, z, rfl⟩ := hp
      have hl : (((List.range i).flatMap fun r => plainRow f r (w - 1)).map dPair).length ≤ 1000 := by
        rw [List.length_map]
        have := flatMap_len (List.range i) (fun r => plainRow f r (w - 1)) (w - 1) fun x => plainRow_len f x (w - 1)
        rw [List.length_range] at this
        have h3 : i * (w - 1) ≤ 8 * 4 := Nat.mul_le_mul (by omega) (by omega)
        omega
      obtain ⟨y2, hb⟩ := plain_row F hn.2 hw.2 (r := i) (by omega) _ hl (.int h) z
      rw [show (0 : Int) + (i : Int) * 1 = i by omega]
      refine ⟨_, _, rfl, ?_, some (.int (i : Int)), y2, rfl⟩
      rw [show List.range (i + 1) = List.range i ++ [i] from List.range_succ, List.flatMap_append, List.map_append, List.flatMap_cons, List.flatMap_nil, List.append_nil]
      simp only [run_eq, evSs_cons, evSs_nil, evS_par, evS_asg, evS_asgT, evS_asgR, evS_app, evS_ext, evS_ite, evS_for, evS_ret, evS_raise, evS_expr, evS_pass, ev_bin, ev_var, ev_lit, ev_cmp, ev_chn, ev_isN, ev_notN, ev_and, ev_or, ev_not, ev_ite, ev_call, ev_prim, ev_meth, ev_rev, ev_idx, ev_slc, ev_lst, ev_tup, ev_comp, ev_neg, evs_cons, evs_nil, evO_none, evO_some, evC_none, evC_some, evI_seq, evI_rng1, evI_rng2, evI_enm, evI_zip, partI, then_ok, nx_then, rt_then, ex_then, addI, subI, mulI, fdivI, modI, ltI, leI, gtI, geI, eqI, truthB, ite_and, ite_or, Bool.true_and, Bool.false_and, Bool.and_true, Bool.and_false, Bool.true_or, Bool.false_or, Bool.or_true, Bool.or_false, lim_if, lim_if2, shal_int, shal_bl, shal_str, shal_non, decide_true, decide_false, setAll, bindTg, bindOk, bindExc, ofSome, List.map_cons, List.map_nil, List.length_cons, List.length_nil, List.cons_append, List.nil_append, List.append_nil, List.replicate, List.getElem?_cons_zero, List.getElem?_cons_succ, List.set_cons_zero, List.set_cons_succ, Nat.reduceAdd, Nat.reduceSub, isI_int, isB_int, if_true, if_false, Bool.false_eq_true, Bool.not_true, Bool.not_false, b_plain_2, e0, lenS, hr, hb]
  obtain ⟨e', k1, y, z, rfl⟩ := key
  rw [rangeL_length] at k1
  have e : dRows f = .lst (f.map D.str) := rfl
  have cf := check_floor_ok k hn F
  rw [e] at cf ⊢
  simp (disch := omega) only [run_eq, evSs_cons, evSs_nil, evS_par, evS_asg, evS_asgT, evS_asgR, evS_app, evS_ext, evS_ite, evS_for, evS_ret, evS_raise, evS_expr, evS_pass, ev_bin, ev_var, ev_lit, ev_cmp, ev_chn, ev_isN, ev_notN, ev_and, ev_or, ev_not, ev_ite, ev_call, ev_prim, ev_meth, ev_rev, ev_idx, ev_slc, ev_lst, ev_tup, ev_comp, ev_neg, evs_cons, evs_nil, evO_none, evO_some, evC_none, evC_some, evI_seq, evI_rng1, evI_rng2, evI_enm, evI_zip, partI, then_ok, nx_then, rt_then, ex_then, addI, subI, mulI, fdivI, modI, ltI, leI, gtI, geI, eqI, truthB, ite_and, ite_or, Bool.true_and, Bool.false_and, Bool.and_true, Bool.and_false, Bool.true_or, Bool.false_or, Bool.or_true, Bool.or_false, lim_if, lim_if2, shal_int, shal_bl, shal_str, shal_non, decide_true, decide_false, setAll, bindTg, bindOk, bindExc, ofSome, List.map_cons, List.map_nil, List.length_cons, List.length_nil, List.cons_append, List.nil_append, List.append_nil, List.replicate, List.getElem?_cons_zero, List.getElem?_cons_succ, List.set_cons_zero, List.set_cons_succ, Nat.reduceAdd, Nat.reduceSub, isI_int, isB_int, if_true, if_false, Bool.false_eq_true, Bool.not_true, Bool.not_false, den_plain, b_plain, check_hues_ok k.hues, cf, lenL, hr2, k1, rangeL_length]
  rfl
theorem four_eq (a b c d : Nat) : ([a, b, c, d] == [a, a, a, a]) = (a == b && (c == d && a == c)) := by
  rw [Bool.eq_iff_iff]
  simp only [beq_iff_eq, List.cons.injEq, and_true, true_and, Bool.and_eq_true]
  omega
theorem l_plain_row (F : Flr h w n f) (hn : n ≤ 8) (hw : w ≤ 4) {r : Nat} (hr : r + 1 < n) (acc : List D) (ha : acc.length ≤ 1000) (x x2 : Option D) :
    ∃ y y2, forL (evSs b_l_plain_1) (.nm 3) (rangeL 0 (w - 1) 1) [some (.lst (f.map D.str)), some (.lst acc), some (.int (r : Int)), x, x2] = .nx [some (.lst (f.map D.str)), some (.lst (acc ++ (plainRow f r (w - 1)).map dPair)), some (.int (r : Int)), y, y2] := by
  have key := forL_inv0 (f := evSs b_l_plain_1) (tg := .nm 3) (items := rangeL 0 (w - 1) 1)
    (fun i e => ∃ y y2, e = [some (.lst (f.map D.str)), some (.lst (acc ++ (plainRow f r i).map dPair)), some (.int (r : Int)), y, y2])
    (e := [some (.lst (f.map D.str)), some (.lst acc), some (.int (r : Int)), x, x2]) ⟨x, x2, by simp [plainRow]⟩ fun i d e hd hp => by
      obtain ⟨hi, rfl⟩ := rangeL_at hd
      obtain ⟨y, y2, rfl⟩ := hp
      obtain ⟨h1, h2, _⟩ := F.two hr (c := i) (by omega)
      rw [show (0 : Int) + (i : Int) * 1 = i by omega]
      refine ⟨_, _, rfl, ?_, some (.int (i : Int)), some (.str [(f.getD r [])[i], (f.getD r [])[i + 1], (f.getD (r + 1) [])[i], (f.getD (r + 1) [])[i + 1]]), rfl⟩
      have s1 : idxF (.lst (f.map D.str)) (.int (r : Int)) = .ok (.str (f.getD r [])) := rows_at rfl (by rw [F.high]; omega)
      have s2 : idxF (.lst (f.map D.str)) (.int ((r : Int) + 1)) = .ok (.str (f.getD (r + 1) [])) := rows_at (by omega) (by rw [F.high]; omega)
      have s3 : ∀ a b c d : Nat, binF .add (.str [a, b]) (.str [c, d]) = .ok (.str [a, b, c, d]) := fun a b c d => addS (by simp)
      have s4 : ∀ a b c d : Nat, idxF (.str [a, b, c, d]) (.int 0) = .ok (.str [a]) := fun a b c d => rfl
      have s5 : ∀ a : Nat, binF .mul (.int 4) (.str [a]) = .ok (.str [a, a, a, a]) := fun a => rfl
      have hs : sqr f r i = ((f.getD r [])[i] == (f.getD r [])[i + 1] && ((f.getD (r + 1) [])[i] == (f.getD (r + 1) [])[i + 1] && (f.getD r [])[i] == (f.getD (r + 1) [])[i])) := gtAt_four h1 h2
      have hl : (acc ++ (plainRow f r i).map dPair).length < 10000000 := by
        rw [List.length_append, List.length_map]
        have := plainRow_len f r i
        omega
      rw [plainRow_succ]
      cases hq : sqr f r i with
      | false =>
        rw [hq] at hs
        simp only [run_eq, evSs_cons, evSs_nil, evS_par, evS_asg, evS_asgT, evS_asgR, evS_app, evS_ext, evS_ite, evS_for, evS_ret, evS_raise, evS_expr, evS_pass, ev_bin, ev_var, ev_lit, ev_cmp, ev_chn, ev_isN, ev_notN, ev_and, ev_or, ev_not, ev_ite, ev_call, ev_prim, ev_meth, ev_rev, ev_idx, ev_slc, ev_lst, ev_tup, ev_comp, ev_neg, evs_cons, evs_nil, evO_none, evO_some, evC_none, evC_some, evI_seq, evI_rng1, evI_rng2, evI_enm, evI_zip, partI, then_ok, nx_then, rt_then, ex_then, addI, subI, mulI, fdivI, modI, ltI, leI, gtI, geI, eqI, truthB, ite_and, ite_or, Bool.true_and, Bool.false_and, Bool.and_true, Bool.and_false, Bool.true_or, Bool.false_or, Bool.or_true, Bool.or_false, lim_if, lim_if2, shal_int, shal_bl, shal_str, shal_non, decide_true, decide_false, setAll, bindTg, bindOk, bindExc, ofSome, List.map_cons, List.map_nil, List.length_cons, List.length_nil, List.cons_append, List.nil_append, List.append_nil, List.replicate, List.getElem?_cons_zero, List.getElem?_cons_succ, List.set_cons_zero, List.set_cons_succ, Nat.reduceAdd, Nat.reduceSub, isI_int, isB_int, if_true, if_false, Bool.false_eq_true, Bool.not_true, Bool.not_false, b_l_plain_1, s1, s2, slcS, cut2 h1, cut2 h2, s3, s4, s5, eqS, four_eq, ← hs]
      | true =>
        rw [hq] at hs
        simp (disch := first | exact hl | omega) only [run_eq, evSs_cons, evSs_nil, evS_par, evS_asg, evS_asgT, evS_asgR, evS_app, evS_ext, evS_ite, evS_for, evS_ret, evS_raise, evS_expr, evS_pass, ev_bin, ev_var, ev_lit, ev_cmp, ev_chn, ev_isN, ev_notN, ev_and, ev_or, ev_not, ev_ite, ev_call, ev_prim, ev_meth, ev_rev, ev_idx, ev_slc, ev_lst, ev_tup, ev_comp, ev_neg, evs_cons, evs_nil, evO_none, evO_some, evC_none, evC_some, evI_seq, evI_rng1, evI_rng2, evI_enm, evI_zip, partI, then_ok, nx_then, rt_then, ex_then, addI, subI, mulI, fdivI, modI, ltI, leI, gtI, geI, eqI, truthB, ite_and, ite_or, Bool.true_and, Bool.false_and, Bool.and_true, Bool.and_false, Bool.true_or, Bool.false_or, Bool.or_true, Bool.or_false, lim_if, lim_if2, shal_int, shal_bl, shal_str, shal_non, decide_true, decide_false, setAll, bindTg, bindOk, bindExc, ofSome, List.map_cons, List.map_nil, List.length_cons, List.length_nil, List.cons_append, List.nil_append, List.append_nil, List.replicate, List.getElem?_cons_zero, List.getElem?_cons_succ, List.set_cons_zero, List.set_cons_succ, Nat.reduceAdd, Nat.reduceSub, isI_int, isB_int, if_true, if_false, Bool.false_eq_true, Bool.not_true, Bool.not_false, b_l_plain_1, s1, s2, slcS, cut2 h1, cut2 h2, s3, s4, s5, eqS, four_eq, ← hs, lstAt, List.map_append, List.append_assoc]
        rfl
  obtain ⟨e', k1, y, y2, rfl⟩ := key
  rw [rangeL_length] at k1
  exact ⟨y, y2, k1⟩
theorem l_plain_ok (hn : 1 ≤ n ∧ n ≤ 8) (hw : 1 ≤ w ∧ w ≤ 4) (F : Flr h w n f) : den_l_plain [dRows f] = .ok (.lst ((plainL n w f).map dPair)) := by
  obtain ⟨r0, e0, l0⟩ := F.first hn.1
  have hr : rng1F (.int ((r0.length : Int) - 1)) = .ok (rangeL 0 (w - 1) 1) := rngNat (by omega) (by omega)
  have hr2 : rng1F (.int (((f.map D.str).length : Int) - 1)) = .ok (rangeL 0 (n - 1) 1) := rngNat (by rw [List.length_map, F.high]; omega) (by omega)
  have key := forL_inv0 (f := evSs b_l_plain_2) (tg := .nm 2) (items := rangeL 0 (n - 1) 1)
    (fun i e => ∃ y z u, e = [some (.lst (f.map D.str)), some (.lst (((List.range i).flatMap fun r => plainRow f r (w - 1)).map dPair)), y, z, u])
    (e := [some (.lst (f.map D.str)), some (.lst []), none, none, none]) ⟨none, none, none, rfl⟩ fun i d e hd hp => by
      obtain ⟨hi, rfl⟩ := rangeL_at hd
      obtain ⟨y, z, u, rfl⟩ := hp
      have hl : (((List.range i).flatMap fun r => plainRow f r (w - 1)).map dPair).length ≤ 1000 := by
        rw [List.length_map]
        have := flatMap_len (List.range i) (fun r => plainRow f r (w - 1)) (w - 1) fun x => plainRow_len f x (w - 1)
        rw [List.length_range] at this
        have h3 : i * (w - 1) ≤ 8 * 4 := Nat.mul_le_mul (by omega) (by omega)
        omega
      obtain ⟨y2, u2, hb⟩ := l_plain_row F hn.2 hw.2 (r := i) (by omega) _ hl z u
      rw [show (0 : Int) + (i : Int) * 1 = i by omega]
      refine ⟨_, _, rfl, ?_, some (.int (i : Int)), y2, u2, rfl⟩
      rw [show List.range (i + 1) = List.range i ++ [i] from List.range_succ, List.flatMap_append, List.map_append, List.flatMap_cons, List.flatMap_nil, List.append_nil]
      simp only [run_eq, evSs_cons, evSs_nil, evS_par, evS_asg, evS_asgT, evS_asgR, evS_app, evS_ext, evS_ite, evS_for, evS_ret, evS_raise, evS_expr, evS_pass, ev_bin, ev_var, ev_lit, ev_cmp, ev_chn, ev_isN, ev_notN, ev_and, ev_or, ev_not, ev_ite, ev_call, ev_prim, ev_meth, ev_rev, ev_idx, ev_slc, ev_lst, ev_tup, ev_comp, ev_neg, evs_cons, evs_nil, evO_none, evO_some, evC_none, evC_some, evI_seq, evI_rng1, evI_rng2, evI_enm, evI_zip, partI, then_ok, nx_then, rt_then, ex_then, addI, subI, mulI, fdivI, modI, ltI, leI, gtI, geI, eqI, truthB, ite_and, ite_or, Bool.true_and, Bool.false_and, Bool.and_true, Bool.and_false, Bool.true_or, Bool.false_or, Bool.or_true, Bool.or_false, lim_if, lim_if2, shal_int, shal_bl, shal_str, shal_non, decide_true, decide_false, setAll, bindTg, bindOk, bindExc, ofSome, List.map_cons, List.map_nil, List.length_cons, List.length_nil, List.cons_append, List.nil_append, List.append_nil, List.replicate, List.getElem?_cons_zero, List.getElem?_cons_succ, List.set_cons_zero, List.set_cons_succ, Nat.reduceAdd, Nat.reduceSub, isI_int, isB_int, if_true, if_false, Bool.false_eq_true, Bool.not_true, Bool.not_false, b_l_plain_2, e0, lenS, hr, hb]
  obtain ⟨e', k1, y, z, u, rfl⟩ := key
  rw [rangeL_length] at k1
  have e : dRows f = .lst (f.map D.str) := rfl
  rw [e]
  simp (disch := omega) only [run_eq, evSs_cons, evSs_nil, evS_par, evS_asg, evS_asgT, evS_asgR, evS_app, evS_ext, evS_ite, evS_for, evS_ret, evS_raise, evS_expr, evS_pass, ev_bin, ev_var, ev_lit, ev_cmp, ev_chn, ev_isN, ev_notN, ev_and, ev_or, ev_not, ev_ite, ev_call, ev_prim, ev_meth, ev_rev, ev_idx, ev_slc, ev_lst, ev_tup, ev_comp, ev_neg, evs_cons, evs_nil, evO_none, evO_some, evC_none, evC_some, evI_seq, evI_rng1, evI_rng2, evI_enm, evI_zip, partI, then_ok, nx_then, rt_then, ex_then, addI, subI, mulI, fdivI, modI, ltI, leI, gtI, geI, eqI, truthB, ite_and, ite_or, Bool.true_and, Bool.false_and, Bool.and_true, Bool.and_false, Bool.true_or, Bool.false_or, Bool.or_true, Bool.or_false, lim_if, lim_if2, shal_int, shal_bl, shal_str, shal_non, decide_true, decide_false, setAll, bindTg, bindOk, bindExc, ofSome, List.map_cons, List.map_nil, List.length_cons, List.length_nil, List.cons_append, List.nil_append, List.append_nil, List.replicate, List.getElem?_cons_zero, List.getElem?_cons_succ, List.set_cons_zero, List.set_cons_succ, Nat.reduceAdd, Nat.reduceSub, isI_int, isB_int, if_true, if_false, Bool.false_eq_true, Bool.not_true, Bool.not_false, den_l_plain, b_l_plain, lenL, hr2, k1, rangeL_length]
  rfl
end
end Dn
namespace Dn
open Hue
/-! ### counts of plain little squares -/
def cnt (m : Nat) (p : Nat → Bool) : Nat := ((List.range m).filter p).length
theorem cnt_zero (p : Nat → Bool) : cnt 0 p = 0 := rfl
theorem cnt_succ (m : Nat) (p : Nat → Bool) : cnt (m + 1) p = cnt m p + (if p m then 1 else 0) := by
  unfold cnt
  rw [List.range_succ, List.filter_append, List.length_append]
  by_cases h : p m = true <;> simp [h]
def sumN : Nat → (Nat → Nat) → Nat
  | 0, _ => 0
  | m + 1, g => sumN m g + g m
theorem cnt_sum (m : Nat) (p : Nat → Bool) : cnt m p = sumN m fun i => if p i then 1 else 0 := by
  induction m with
  | zero => rfl
  | succ m ih => rw [cnt_succ, ih]; rfl
theorem sumN_congr {m : Nat} {g g' : Nat → Nat} (h : ∀ i, i < m → g i = g' i) : sumN m g = sumN m g' := by
  induction m with
  | zero => rfl
  | succ m ih =>
    show sumN m g + g m = sumN m g' + g' m
    rw [ih fun i hi => h i (by omega), h m (by omega)]
theorem sumN_add (m : Nat) (g g' : Nat → Nat) : sumN m (fun i => g i + g' i) = sumN m g + sumN m g' := by
  induction m with
  | zero => rfl
  | succ m ih =>
    show sumN m (fun i => g i + g' i) + (g m + g' m) = (sumN m g + g m) + (sumN m g' + g' m)
    rw [ih]
    omega
theorem sumN_const0 (m : Nat) : sumN m (fun _ => 0) = 0 := by
  induction m with
  | zero => rfl
  | succ m ih => show sumN m (fun _ => 0) + 0 = 0; rw [ih]
theorem sumN_first (m : Nat) (g : Nat → Nat) : sumN (m + 1) g = g 0 + sumN m fun i => g (i + 1) := by
  induction m with
  | zero => show 0 + g 0 = g 0 + 0; omega
  | succ m ih =>
    show sumN (m + 1) g + g (m + 1) = g 0 + (sumN m (fun i => g (i + 1)) + g (m + 1))
    rw [ih]
    omega
/-- from the end -/
theorem sumN_rev (m : Nat) (g : Nat → Nat) : (sumN m fun i => g (m - 1 - i)) = sumN m g := by
  induction m generalizing g with
  | zero => rfl
  | succ m ih =>
    rw [sumN_first m g]
    show (sumN m fun i => g (m + 1 - 1 - i)) + g (m + 1 - 1 - m) = g 0 + sumN m fun i => g (i + 1)
    have e : m + 1 - 1 - m = 0 := by omega
    rw [e, ← ih fun i => g (i + 1), Nat.add_comm]
    congr 1
    exact sumN_congr fun i hi => by congr 1; omega
theorem sumN_swap (m n : Nat) (g : Nat → Nat → Nat) : (sumN m fun i => sumN n fun j => g i j) = sumN n fun j => sumN m fun i => g i j := by
  induction m with
  | zero =>
    show 0 = sumN n fun _ => 0
    rw [sumN_const0]
  | succ m ih =>
    show (sumN m fun i => sumN n fun j => g i j) + (sumN n fun j => g m j) = sumN n fun j => (sumN m fun i => g i j) + g m j
    rw [sumN_add, ih]
theorem flat_len (m : Nat) (g : Nat → List (Nat × Nat)) : ((List.range m).flatMap g).length = sumN m fun i => (g i).length := by
  induction m with
  | zero => rfl
  | succ m ih =>
    rw [List.range_succ, List.flatMap_append, List.length_append, ih, List.flatMap_cons, List.flatMap_nil, List.append_nil]
    rfl
def many (n w : Nat) (f : List (List Nat)) : Nat := sumN (n - 1) fun r => sumN (w - 1) fun c => if sqr f r c then 1 else 0
theorem plain_len (n w : Nat) (f : List (List Nat)) : (plainL n w f).length = many n w f := by
  unfold plainL many
  rw [flat_len]
  exact sumN_congr fun i _ => by
    unfold plainRow
    rw [List.length_map, ← cnt_sum]
    rfl
/-- a square is plain: four alike -/
def at2 (f : List (List Nat)) (r c : Nat) : Nat := (f.getD r []).getD c 0
theorem sqr_iff {h w n : Nat} {f : List (List Nat)} (F : Flr h w n f) {r c : Nat} (hr : r + 1 < n) (hc : c + 1 < w) : sqr f r c = true ↔ at2 f r c = at2 f r (c + 1) ∧ at2 f (r + 1) c = at2 f (r + 1) (c + 1) ∧ at2 f r c = at2 f (r + 1) c := by
  obtain ⟨h1, h2, _⟩ := F.two hr hc
  unfold sqr
  rw [gtAt_four h1 h2]
  have g : ∀ (l : List Nat) (i : Nat) (hi : i < l.length), l.getD i 0 = l[i] := fun l i hi => by
    rw [List.getD_eq_getElem?_getD, List.getElem?_eq_getElem hi]; rfl
  unfold at2
  rw [g _ _ h1, g _ _ h2, g _ _ (show c < (f.getD r []).length by omega), g _ _ (show c < (f.getD (r + 1) []).length by omega)]
  simp
theorem at2_mirror {h w n : Nat} {f : List (List Nat)} (F : Flr h w n f) {r c : Nat} (hr : r < n) (hc : c < w) : at2 (f.map List.reverse) r c = at2 f r (w - 1 - c) := by
  have hl : r < f.length := by rw [F.high]; exact hr
  have hw := F.wide _ (F.row hr)
  unfold at2
  have e : (f.map List.reverse).getD r [] = (f.getD r []).reverse := by
    rw [List.getD_eq_getElem?_getD, List.getD_eq_getElem?_getD, List.getElem?_map, List.getElem?_eq_getElem hl]
    rfl
  rw [e]
  generalize f.getD r [] = q at hw ⊢
  rw [List.getD_eq_getElem?_getD, List.getElem?_reverse (by rw [hw]; exact hc), hw, List.getD_eq_getElem?_getD]
theorem at2_turn {h w n : Nat} {f : List (List Nat)} (F : Flr h w n f) {r c : Nat} (hr : r < w) (hc : c < n) : at2 (turnL w f) r c = at2 f (n - 1 - c) r := by
  unfold at2 turnL
  have e : ((List.range w).map fun c => f.reverse.map fun r => r.getD c 0).getD r [] = f.reverse.map fun q => q.getD r 0 := by
    rw [List.getD_eq_getElem?_getD, List.getElem?_map, List.getElem?_range hr]
    rfl
  rw [e, List.getD_eq_getElem?_getD, List.getElem?_map, List.getElem?_reverse (by rw [F.high]; exact hc), F.high]
  have hl : n - 1 - c < f.length := by rw [F.high]; omega
  rw [List.getElem?_eq_getElem hl, List.getD_eq_getElem?_getD (l := f), List.getElem?_eq_getElem hl]
  rfl
theorem many_mirror {h w n : Nat} {f : List (List Nat)} (F : Flr h w n f) : many n w (f.map List.reverse) = many n w f := by
  unfold many
  refine sumN_congr fun r hr => ?_
  rw [← sumN_rev (w - 1) fun c => if sqr f r c then 1 else 0]
  refine sumN_congr fun c hc => ?_
  have : sqr (f.map List.reverse) r c = sqr f r (w - 1 - 1 - c) := by
    rw [Bool.eq_iff_iff, sqr_iff F.mirror (by omega) (by omega), sqr_iff F (by omega) (by omega)]
    rw [at2_mirror F (by omega) (by omega), at2_mirror F (by omega) (by omega), at2_mirror F (by omega) (by omega), at2_mirror F (by omega) (by omega)]
    have e1 : w - 1 - 1 - c + 1 = w - 1 - c := by omega
    have e2 : w - 1 - (c + 1) = w - 1 - 1 - c := by omega
    rw [e1, e2]
    omega
  rw [this]
theorem many_turn {h w n : Nat} {f : List (List Nat)} (F : Flr h w n f) : many w n (turnL w f) = many n w f := by
  unfold many
  rw [sumN_swap (n - 1) (w - 1)]
  refine sumN_congr fun r hr => ?_
  rw [← sumN_rev (n - 1) fun i => if sqr f i r then 1 else 0]
  refine sumN_congr fun c hc => ?_
  have : sqr (turnL w f) r c = sqr f (n - 1 - 1 - c) r := by
    rw [Bool.eq_iff_iff, sqr_iff F.turn (by omega) (by omega), sqr_iff F (by omega) (by omega)]
    rw [at2_turn F (by omega) (by omega), at2_turn F (by omega) (by omega), at2_turn F (by omega) (by omega), at2_turn F (by omega) (by omega)]
    have e1 : n - 1 - 1 - c + 1 = n - 1 - c := by omega
    have e2 : n - 1 - (c + 1) = n - 1 - 1 - c := by omega
    rw [e1, e2]
    omega
  rw [this]
/-- floors alike at each square are alike -/
theorem flr_ext {h w n : Nat} {f g : List (List Nat)} (F : Flr h w n f) (G : Flr h w n g) (e : ∀ r c, r < n → c < w → at2 f r c = at2 g r c) : f = g := by
  apply List.ext_getElem
  · rw [F.high, G.high]
  · intro r h1 h2
    have hr : r < n := by rw [← F.high]; exact h1
    have ef : f.getD r [] = f[r] := by rw [List.getD_eq_getElem?_getD, List.getElem?_eq_getElem h1]; rfl
    have eg : g.getD r [] = g[r] := by rw [List.getD_eq_getElem?_getD, List.getElem?_eq_getElem h2]; rfl
    have lf := F.wide _ (List.getElem_mem h1)
    have lg := G.wide _ (List.getElem_mem h2)
    apply List.ext_getElem
    · rw [lf, lg]
    · intro c c1 c2
      have := e r c hr (by rw [← lf]; exact c1)
      unfold at2 at this
      rw [ef, eg, List.getD_eq_getElem?_getD, List.getD_eq_getElem?_getD, List.getElem?_eq_getElem c1, List.getElem?_eq_getElem c2] at this
      exact this
theorem turn4 {h w n : Nat} {f : List (List Nat)} (F : Flr h w n f) : turnL n (turnL w (turnL n (turnL w f))) = f := by
  refine flr_ext F.turn.turn.turn.turn F fun r c hr hc => ?_
  rw [at2_turn F.turn.turn.turn hr hc, at2_turn F.turn.turn (by omega) (by omega), at2_turn F.turn (by omega) (by omega), at2_turn F (by omega) (by omega)]
  congr 1 <;> omega
theorem at2_ex {h w n : Nat} {f : List (List Nat)} {o : List Nat} (F : Flr h w n f) {r c : Nat} (hr : r < n) (hc : c < w) : at2 (exL o f) r c = 48 + o.getD (at2 f r c - 48) 0 := by
  have hl : r < f.length := by rw [F.high]; exact hr
  have hw := F.wide _ (F.row hr)
  unfold at2 exL
  have e : (f.map fun q => q.map fun c => 48 + o.getD (c - 48) 0).getD r [] = (f.getD r []).map fun c => 48 + o.getD (c - 48) 0 := by
    rw [List.getD_eq_getElem?_getD, List.getD_eq_getElem?_getD, List.getElem?_map, List.getElem?_eq_getElem hl]
    rfl
  have hc' : c < (f.getD r []).length := by rw [hw]; exact hc
  rw [e, List.getD_eq_getElem?_getD (l := (f.getD r []).map _), List.getElem?_map, List.getElem?_eq_getElem hc', List.getD_eq_getElem?_getD (l := f.getD r []), List.getElem?_eq_getElem hc']
  rfl
theorem at2_hue {h w n : Nat} {f : List (List Nat)} (F : Flr h w n f) {r c : Nat} (hr : r < n) (hc : c < w) : at2 f r c ∈ signs h := by
  have hw := F.wide _ (F.row hr)
  have hc' : c < (f.getD r []).length := by rw [hw]; exact hc
  unfold at2
  rw [List.getD_eq_getElem?_getD, List.getElem?_eq_getElem hc']
  exact F.hue _ (F.row hr) _ (List.getElem_mem ..)
theorem ex_inj {h : Nat} {o : List Nat} (hh : h = 2 ∨ h = 3) (ho : o ∈ orders h) : ∀ a ∈ signs h, ∀ b ∈ signs h, (48 + o.getD (a - 48) 0 = 48 + o.getD (b - 48) 0 ↔ a = b) := by
  refine order_cases (P := fun h o => ∀ a ∈ signs h, ∀ b ∈ signs h, (48 + o.getD (a - 48) 0 = 48 + o.getD (b - 48) 0 ↔ a = b)) ?_ ?_ ?_ ?_ ?_ ?_ ?_ hh ho <;> decide
theorem many_ex {h w n : Nat} {f : List (List Nat)} {o : List Nat} (hh : h = 2 ∨ h = 3) (ho : o ∈ orders h) (F : Flr h w n f) : many n w (exL o f) = many n w f := by
  unfold many
  refine sumN_congr fun r hr => sumN_congr fun c hc => ?_
  have ij := ex_inj hh ho
  have : sqr (exL o f) r c = sqr f r c := by
    rw [Bool.eq_iff_iff, sqr_iff (F.ex hh ho) (by omega) (by omega), sqr_iff F (by omega) (by omega)]
    rw [at2_ex F (by omega) (by omega), at2_ex F (by omega) (by omega), at2_ex F (by omega) (by omega), at2_ex F (by omega) (by omega)]
    rw [ij _ (at2_hue F (by omega) (by omega)) _ (at2_hue F (by omega) (by omega)), ij _ (at2_hue F (by omega) (by omega)) _ (at2_hue F (by omega) (by omega)), ij _ (at2_hue F (by omega) (by omega)) _ (at2_hue F (by omega) (by omega))]
  rw [this]
end Dn
namespace Dn
open Hue
/-! ### a floor by the cells -/
def cellsL (ns : List Int) : List Int := if ns = [] then [5] else ns.take 63
theorem cells_len (ns : List Int) : 1 ≤ (cellsL ns).length ∧ (cellsL ns).length ≤ 63 := by
  unfold cellsL
  split
  · simp
  · rename_i h
    have : 0 < ns.length := List.length_pos_iff.mpr h
    rw [List.length_take]
    omega
theorem int_bl (b : Bool) : primF .int [.bl b] = .ok (.int (if b then 1 else 0)) := rfl
theorem pick5 {a b c d e i h : Int} (hi : 0 ≤ i ∧ i < 5) (ha : 0 ≤ a ∧ a < h) (hb : 0 ≤ b ∧ b < h) (hc : 0 ≤ c ∧ c < h) (hd : 0 ≤ d ∧ d < h) (he : 0 ≤ e ∧ e < h) : ∃ v, idxF (.lst [.int a, .int b, .int c, .int d, .int e]) (.int i) = .ok (.int v) ∧ 0 ≤ v ∧ v < h := by
  have : i = 0 ∨ i = 1 ∨ i = 2 ∨ i = 3 ∨ i = 4 := by omega
  rcases this with rfl | rfl | rfl | rfl | rfl
  · exact ⟨a, rfl, ha⟩
  · exact ⟨b, rfl, hb⟩
  · exact ⟨c, rfl, hc⟩
  · exact ⟨d, rfl, hd⟩
  · exact ⟨e, rfl, he⟩
theorem sign_v {v : Int} {h : Nat} (hh : h = 2 ∨ h = 3) (hv : 0 ≤ v ∧ v < h) : ∃ c ∈ signs h, idxF (.str [48, 49, 50]) (.int v) = .ok (.str [c]) := by
  have : v = 0 ∨ v = 1 ∨ (v = 2 ∧ h = 3) := by omega
  rcases this with rfl | rfl | ⟨rfl, rfl⟩
  · exact ⟨48, by rcases hh with rfl | rfl <;> decide, rfl⟩
  · exact ⟨49, by rcases hh with rfl | rfl <;> decide, rfl⟩
  · exact ⟨50, by decide, rfl⟩
theorem bit_lt {h : Nat} (hh : h = 2 ∨ h = 3) (b : Bool) : 0 ≤ (if b then (1 : Int) else 0) ∧ (if b then (1 : Int) else 0) < (h : Int) := by
  cases b <;> simp <;> omega
theorem cell_at {cs : List Int} (hc : 1 ≤ cs.length) (x : Int) : ∃ y, idxF (.lst (cs.map D.int)) (.int (x % (cs.length : Int))) = .ok (.int y) := by
  have := mod_lt' x (b := (cs.length : Int)) (by omega)
  obtain ⟨j, hj⟩ : ∃ j : Nat, x % (cs.length : Int) = j := ⟨(x % (cs.length : Int)).toNat, by omega⟩
  have hj2 : j < cs.length := by omega
  refine ⟨cs[j], ?_⟩
  rw [idxL hj (by rw [List.length_map]; exact hj2), List.getElem_map]
theorem floor_step {h w n : Nat} (hh : h = 2 ∨ h = 3) (hw : w ≤ 4) (hn : n ≤ 8) {cs : List Int} (hc : 1 ≤ cs.length) (b s kd : Int) (hkd : 0 ≤ kd ∧ kd < 5) (e0 e4 e7 v12 v13 v14 v15 : Option D) (at_ col : Nat) (hat : at_ < 100) (hcol : col < 100) (row : List Nat) (hrow : row.length ≤ 100) :
    ∃ c ∈ signs h, ∃ u12 u13 u14 u15, evSs b_l_floor_1 [e0, some (.int b), some (.int (h : Int)), some (.int (w : Int)), e4, some (.lst (cs.map D.int)), some (.int s), e7, some (.int kd), some (.int (at_ : Int)), some (.str row), some (.int (col : Int)), v12, v13, v14, v15] =
      .nx [e0, some (.int b), some (.int (h : Int)), some (.int (w : Int)), e4, some (.lst (cs.map D.int)), some (.int s), e7, some (.int kd), some (.int (at_ : Int)), some (.str (row ++ [c])), some (.int (col : Int)), u12, u13, u14, u15] := by
  have hpos : 0 < (h : Int) := by omega
  obtain ⟨y, hy⟩ := cell_at hc ((w : Int) * (at_ : Int) + (col : Int) + b)
  have hl : ((cs.map D.int).length : Int) = cs.length := by rw [List.length_map]
  have hlp : 0 < (cs.length : Int) := by omega
  obtain ⟨num, hnum⟩ : ∃ num, num = numF (y + 7 * (at_ : Int) + (col : Int)) ((at_ : Int) + b) s / 11 := ⟨_, rfl⟩
  obtain ⟨bt, hbt⟩ : ∃ bt : Bool, bt = (kd == 4 && (num % 5 == 0)) := ⟨_, rfl⟩
  obtain ⟨tn, htn⟩ : ∃ tn, tn = ((at_ : Int) + (col : Int) + (if bt then 1 else 0)) % (h : Int) := ⟨_, rfl⟩
  have r1 := mod_lt' num hpos
  have r2 : 0 ≤ tn ∧ tn < (h : Int) := by rw [htn]; exact mod_lt' _ hpos
  have r3 := bit_lt hh (num % 4 == 0)
  have r4 := mod_lt' (num + (col : Int)) hpos
  obtain ⟨v, hv, hv2⟩ := pick5 hkd r1 r2 r3 r4 r2
  obtain ⟨c, hcm, hcv⟩ := sign_v hh hv2
  have m1 : binF .mul (.int (w : Int)) (.int (at_ : Int)) = .ok (.int ((w : Int) * (at_ : Int))) := mulI (by omega)
  have m2 : binF .mul (.int 7) (.int (at_ : Int)) = .ok (.int (7 * (at_ : Int))) := mulI (by omega)
  have ad : binF .add (.lst [.int (num % (h : Int)), .int tn, .int (if (num % 4 == 0) = true then 1 else 0)]) (.lst [.int ((num + (col : Int)) % (h : Int)), .int tn]) = .ok (.lst [.int (num % (h : Int)), .int tn, .int (if (num % 4 == 0) = true then 1 else 0), .int ((num + (col : Int)) % (h : Int)), .int tn]) := addL (by simp)
  have as : binF .add (.str row) (.str [c]) = .ok (.str (row ++ [c])) := addS (by simp; omega)
  refine ⟨c, hcm, some (.int y), some (.int num), some (.int tn), some (.lst [.int (num % (h : Int)), .int tn, .int (if (num % 4 == 0) = true then 1 else 0), .int ((num + (col : Int)) % (h : Int)), .int tn]), ?_⟩
  simp (disch := first | omega | exact hlp | exact hpos) only [run_eq, evSs_cons, evSs_nil, evS_par, evS_asg, evS_asgT, evS_asgR, evS_app, evS_ext, evS_ite, evS_for, evS_ret, evS_raise, evS_expr, evS_pass, ev_bin, ev_var, ev_lit, ev_cmp, ev_chn, ev_isN, ev_notN, ev_and, ev_or, ev_not, ev_ite, ev_call, ev_prim, ev_meth, ev_rev, ev_idx, ev_slc, ev_lst, ev_tup, ev_comp, ev_neg, evs_cons, evs_nil, evO_none, evO_some, evC_none, evC_some, evI_seq, evI_rng1, evI_rng2, evI_enm, evI_zip, partI, then_ok, nx_then, rt_then, ex_then, addI, subI, mulI, fdivI, modI, ltI, leI, gtI, geI, eqI, truthB, ite_and, ite_or, Bool.true_and, Bool.false_and, Bool.and_true, Bool.and_false, Bool.true_or, Bool.false_or, Bool.or_true, Bool.or_false, lim_if, lim_if2, shal_int, shal_bl, shal_str, shal_non, decide_true, decide_false, setAll, bindTg, bindOk, bindExc, ofSome, List.map_cons, List.map_nil, List.length_cons, List.length_nil, List.cons_append, List.nil_append, List.append_nil, List.replicate, List.getElem?_cons_zero, List.getElem?_cons_succ, List.set_cons_zero, List.set_cons_succ, Nat.reduceAdd, Nat.reduceSub, isI_int, isB_int, if_true, if_false, Bool.false_eq_true, Bool.not_true, Bool.not_false, b_l_floor_1, lenL, hl, m1, m2, hy, number_ok, ← hnum, int_bl, ← hbt, ← htn, ad, hv, hcv, as]
theorem floor_row {h w n : Nat} (hh : h = 2 ∨ h = 3) (hw : w ≤ 4) (hn : n ≤ 8) {cs : List Int} (hc : 1 ≤ cs.length) (b s kd : Int) (hkd : 0 ≤ kd ∧ kd < 5) (e0 e4 e7 v11 v12 v13 v14 v15 : Option D) (at_ : Nat) (hat : at_ < 100) :
    ∃ row : List Nat, row.length = w ∧ (∀ c ∈ row, c ∈ signs h) ∧ ∃ u11 u12 u13 u14 u15, forL (evSs b_l_floor_1) (.nm 11) (rangeL 0 w 1) [e0, some (.int b), some (.int (h : Int)), some (.int (w : Int)), e4, some (.lst (cs.map D.int)), some (.int s), e7, some (.int kd), some (.int (at_ : Int)), some (.str []), v11, v12, v13, v14, v15] =
      .nx [e0, some (.int b), some (.int (h : Int)), some (.int (w : Int)), e4, some (.lst (cs.map D.int)), some (.int s), e7, some (.int kd), some (.int (at_ : Int)), some (.str row), u11, u12, u13, u14, u15] := by
  have key := forL_inv0 (f := evSs b_l_floor_1) (tg := .nm 11) (items := rangeL 0 w 1)
    (fun i e => ∃ row : List Nat, row.length = i ∧ (∀ c ∈ row, c ∈ signs h) ∧ ∃ u11 u12 u13 u14 u15, e = [e0, some (.int b), some (.int (h : Int)), some (.int (w : Int)), e4, some (.lst (cs.map D.int)), some (.int s), e7, some (.int kd), some (.int (at_ : Int)), some (.str row), u11, u12, u13, u14, u15])
    (e := [e0, some (.int b), some (.int (h : Int)), some (.int (w : Int)), e4, some (.lst (cs.map D.int)), some (.int s), e7, some (.int kd), some (.int (at_ : Int)), some (.str []), v11, v12, v13, v14, v15]) ⟨[], rfl, (fun c hc => by cases hc), _, _, _, _, _, rfl⟩ fun i d e hd hp => by
      obtain ⟨hi, rfl⟩ := rangeL_at hd
      obtain ⟨row, hl, hs, u11, u12, u13, u14, u15, rfl⟩ := hp
      obtain ⟨c, hcm, w12, w13, w14, w15, hb⟩ := floor_step hh hw hn hc b s kd hkd e0 e4 e7 u12 u13 u14 u15 at_ i hat (by omega) row (by omega)
      rw [show (0 : Int) + (i : Int) * 1 = i by omega]
      refine ⟨_, _, rfl, hb, row ++ [c], by rw [List.length_append, hl]; rfl, fun x hx => ?_, _, _, _, _, _, rfl⟩
      rcases List.mem_append.mp hx with hx | hx
      · exact hs x hx
      · rw [List.mem_singleton.mp hx]; exact hcm
  obtain ⟨e', k1, row, hl, hs, u11, u12, u13, u14, u15, rfl⟩ := key
  rw [rangeL_length] at hl
  exact ⟨row, hl, hs, u11, u12, u13, u14, u15, k1⟩
theorem l_floor_ok (ns : List Int) (b : Int) {h w n : Nat} (hh : h = 2 ∨ h = 3) (hw : w ≤ 4) (hn : n ≤ 8) : ∃ f, Flr h w n f ∧ den_l_floor [.scr (ns.map D.int), .int b, .int (h : Int), .int (w : Int), .int (n : Int)] = .ok (dRows f) := by
  obtain ⟨hc, hc2⟩ := cells_len ns
  have e1 : ev (.ite (.cmp .ne (.var 0) (.lst .nil)) (.slc (.var 0) .none (.some (.lit (.int 63)))) (.lst (.cons (.lit (.int 5)) .nil))) [some (.scr (ns.map D.int)), some (.int b), some (.int (h : Int)), some (.int (w : Int)), some (.int (n : Int)), none, none, none, none, none, none, none, none, none, none, none] = .ok (.lst ((cellsL ns).map D.int)) := by
    unfold cellsL
    by_cases hn : ns = []
    · subst hn
      have g := scr_ne []
      simp only [decide_true, List.map_nil] at g
      simp (disch := omega) only [run_eq, evSs_cons, evSs_nil, evS_par, evS_asg, evS_asgT, evS_asgR, evS_app, evS_ext, evS_ite, evS_for, evS_ret, evS_raise, evS_expr, evS_pass, ev_bin, ev_var, ev_lit, ev_cmp, ev_chn, ev_isN, ev_notN, ev_and, ev_or, ev_not, ev_ite, ev_call, ev_prim, ev_meth, ev_rev, ev_idx, ev_slc, ev_lst, ev_tup, ev_comp, ev_neg, evs_cons, evs_nil, evO_none, evO_some, evC_none, evC_some, evI_seq, evI_rng1, evI_rng2, evI_enm, evI_zip, partI, then_ok, nx_then, rt_then, ex_then, addI, subI, mulI, fdivI, modI, ltI, leI, gtI, geI, eqI, truthB, ite_and, ite_or, Bool.true_and, Bool.false_and, Bool.and_true, Bool.and_false, Bool.true_or, Bool.false_or, Bool.or_true, Bool.or_false, lim_if, lim_if2, shal_int, shal_bl, shal_str, shal_non, decide_true, decide_false, setAll, bindTg, bindOk, bindExc, ofSome, List.map_cons, List.map_nil, List.length_cons, List.length_nil, List.cons_append, List.nil_append, List.append_nil, List.replicate, List.getElem?_cons_zero, List.getElem?_cons_succ, List.set_cons_zero, List.set_cons_succ, Nat.reduceAdd, Nat.reduceSub, isI_int, isB_int, if_true, if_false, Bool.false_eq_true, Bool.not_true, Bool.not_false, g]
    · simp (disch := omega) only [run_eq, evSs_cons, evSs_nil, evS_par, evS_asg, evS_asgT, evS_asgR, evS_app, evS_ext, evS_ite, evS_for, evS_ret, evS_raise, evS_expr, evS_pass, ev_bin, ev_var, ev_lit, ev_cmp, ev_chn, ev_isN, ev_notN, ev_and, ev_or, ev_not, ev_ite, ev_call, ev_prim, ev_meth, ev_rev, ev_idx, ev_slc, ev_lst, ev_tup, ev_comp, ev_neg, evs_cons, evs_nil, evO_none, evO_some, evC_none, evC_some, evI_seq, evI_rng1, evI_rng2, evI_enm, evI_zip, partI, then_ok, nx_then, rt_then, ex_then, addI, subI, mulI, fdivI, modI, ltI, leI, gtI, geI, eqI, truthB, ite_and, ite_or, Bool.true_and, Bool.false_and, Bool.and_true, Bool.and_false, Bool.true_or, Bool.false_or, Bool.or_true, Bool.or_false, lim_if, lim_if2, shal_int, shal_bl, shal_str, shal_non, decide_true, decide_false, setAll, bindTg, bindOk, bindExc, ofSome, List.map_cons, List.map_nil, List.length_cons, List.length_nil, List.cons_append, List.nil_append, List.append_nil, List.replicate, List.getElem?_cons_zero, List.getElem?_cons_succ, List.set_cons_zero, List.set_cons_succ, Nat.reduceAdd, Nat.reduceSub, isI_int, isB_int, if_true, if_false, Bool.false_eq_true, Bool.not_true, Bool.not_false, scr_ne, hn, slc_scr]
  generalize cellsL ns = cs at e1 hc hc2
  obtain ⟨kd, hkd, hk⟩ : ∃ kd, kd = numF (cs.sum + b) (b + 3) 5 / 7 % 5 ∧ (0 ≤ kd ∧ kd < 5) := ⟨_, rfl, mod_lt' _ (by decide)⟩
  have key := forL_inv0 (f := evSs b_l_floor_2) (tg := .nm 9) (items := rangeL 0 n 1)
    (fun i e => ∃ f, Flr h w i f ∧ ∃ u9 u10 u11 u12 u13 u14 u15, e = [some (.scr (ns.map D.int)), some (.int b), some (.int (h : Int)), some (.int (w : Int)), some (.int (n : Int)), some (.lst (cs.map D.int)), some (.int (cs.sum + b)), some (.lst (f.map D.str)), some (.int kd), u9, u10, u11, u12, u13, u14, u15])
    (e := [some (.scr (ns.map D.int)), some (.int b), some (.int (h : Int)), some (.int (w : Int)), some (.int (n : Int)), some (.lst (cs.map D.int)), some (.int (cs.sum + b)), some (.lst []), some (.int kd), none, none, none, none, none, none, none]) ⟨[], ⟨rfl, (fun r hr => by cases hr), (fun r hr => by cases hr)⟩, _, _, _, _, _, _, _, rfl⟩ fun i d e hd hp => by
      obtain ⟨hi, rfl⟩ := rangeL_at hd
      obtain ⟨f, F, u9, u10, u11, u12, u13, u14, u15, rfl⟩ := hp
      rw [show (0 : Int) + (i : Int) * 1 = i by omega]
      obtain ⟨row, hl, hs, w11, w12, w13, w14, w15, hb⟩ := floor_row hh hw hn hc b (cs.sum + b) kd hk (some (.scr (ns.map D.int))) (some (.int (n : Int))) (some (.lst (f.map D.str))) u11 u12 u13 u14 u15 i (by omega)
      have hr : rng1F (.int (w : Int)) = .ok (rangeL 0 w 1) := rngNat rfl (by omega)
      have add1 : ∀ r : List Nat, r.length = w → (∀ c ∈ r, c ∈ signs h) → Flr h w (i + 1) (f ++ [r]) := fun r h1 h2 => ⟨by rw [List.length_append, F.high]; rfl, fun q hq => by
          rcases List.mem_append.mp hq with hq | hq
          · exact F.wide q hq
          · rw [List.mem_singleton.mp hq]; exact h1, fun q hq => by
          rcases List.mem_append.mp hq with hq | hq
          · exact F.hue q hq
          · rw [List.mem_singleton.mp hq]; exact h2⟩
      have hlf : (f.map D.str).length < 10000000 := by rw [List.length_map, F.high]; omega
      obtain ⟨tb, htb⟩ : ∃ tb : Bool, tb = (kd == 3 && (i : Int) % 3 == 1) := ⟨_, rfl⟩
      cases htv : tb with
      | false =>
        rw [htv] at htb
        refine ⟨_, _, rfl, ?_, f ++ [row], add1 row hl hs, some (.int (i : Int)), some (.str row), w11, w12, w13, w14, w15, rfl⟩
        simp (disch := first | exact hlf | omega) only [run_eq, evSs_cons, evSs_nil, evS_par, evS_asg, evS_asgT, evS_asgR, evS_app, evS_ext, evS_ite, evS_for, evS_ret, evS_raise, evS_expr, evS_pass, ev_bin, ev_var, ev_lit, ev_cmp, ev_chn, ev_isN, ev_notN, ev_and, ev_or, ev_not, ev_ite, ev_call, ev_prim, ev_meth, ev_rev, ev_idx, ev_slc, ev_lst, ev_tup, ev_comp, ev_neg, evs_cons, evs_nil, evO_none, evO_some, evC_none, evC_some, evI_seq, evI_rng1, evI_rng2, evI_enm, evI_zip, partI, then_ok, nx_then, rt_then, ex_then, addI, subI, mulI, fdivI, modI, ltI, leI, gtI, geI, eqI, truthB, ite_and, ite_or, Bool.true_and, Bool.false_and, Bool.and_true, Bool.and_false, Bool.true_or, Bool.false_or, Bool.or_true, Bool.or_false, lim_if, lim_if2, shal_int, shal_bl, shal_str, shal_non, decide_true, decide_false, setAll, bindTg, bindOk, bindExc, ofSome, List.map_cons, List.map_nil, List.length_cons, List.length_nil, List.cons_append, List.nil_append, List.append_nil, List.replicate, List.getElem?_cons_zero, List.getElem?_cons_succ, List.set_cons_zero, List.set_cons_succ, Nat.reduceAdd, Nat.reduceSub, isI_int, isB_int, if_true, if_false, Bool.false_eq_true, Bool.not_true, Bool.not_false, b_l_floor_2, hr, hb, lstAt, ← htb]
        rw [List.map_append]
        rfl
      | true =>
        rw [htv] at htb
        have hi0 : i ≠ 0 := fun z => by
          rw [z] at htb
          simp at htb
        have hne : f.map D.str ≠ [] := fun z => by
          have := congrArg List.length z
          rw [List.length_map, F.high] at this
          exact hi0 this
        have hfe : f ≠ [] := fun z => hne (by rw [z]; rfl)
        have hla : (f.map D.str).getLast hne = .str (f.getLast hfe) := by rw [List.getLast_map]
        refine ⟨_, _, rfl, ?_, f ++ [f.getLast hfe], add1 _ (F.wide _ (List.getLast_mem hfe)) (F.hue _ (List.getLast_mem hfe)), some (.int (i : Int)), some (.str row), w11, w12, w13, w14, w15, rfl⟩
        simp (disch := first | exact hlf | omega) only [run_eq, evSs_cons, evSs_nil, evS_par, evS_asg, evS_asgT, evS_asgR, evS_app, evS_ext, evS_ite, evS_for, evS_ret, evS_raise, evS_expr, evS_pass, ev_bin, ev_var, ev_lit, ev_cmp, ev_chn, ev_isN, ev_notN, ev_and, ev_or, ev_not, ev_ite, ev_call, ev_prim, ev_meth, ev_rev, ev_idx, ev_slc, ev_lst, ev_tup, ev_comp, ev_neg, evs_cons, evs_nil, evO_none, evO_some, evC_none, evC_some, evI_seq, evI_rng1, evI_rng2, evI_enm, evI_zip, partI, then_ok, nx_then, rt_then, ex_then, addI, subI, mulI, fdivI, modI, ltI, leI, gtI, geI, eqI, truthB, ite_and, ite_or, Bool.true_and, Bool.false_and, Bool.and_true, Bool.and_false, Bool.true_or, Bool.false_or, Bool.or_true, Bool.or_false, lim_if, lim_if2, shal_int, shal_bl, shal_str, shal_non, decide_true, decide_false, setAll, bindTg, bindOk, bindExc, ofSome, List.map_cons, List.map_nil, List.length_cons, List.length_nil, List.cons_append, List.nil_append, List.append_nil, List.replicate, List.getElem?_cons_zero, List.getElem?_cons_succ, List.set_cons_zero, List.set_cons_succ, Nat.reduceAdd, Nat.reduceSub, isI_int, isB_int, if_true, if_false, Bool.false_eq_true, Bool.not_true, Bool.not_false, b_l_floor_2, hr, hb, lstAt, ← htb, idx_last hne, hla]
        rw [List.map_append]
        rfl
  obtain ⟨e', k1, f, F, u9, u10, u11, u12, u13, u14, u15, rfl⟩ := key
  rw [rangeL_length] at F
  refine ⟨f, F, ?_⟩
  have hr : rng1F (.int (n : Int)) = .ok (rangeL 0 n 1) := rngNat rfl (by omega)
  simp (disch := omega) only [run_eq, evSs_cons, evSs_nil, evS_par, evS_asg, evS_asgT, evS_asgR, evS_app, evS_ext, evS_ite, evS_for, evS_ret, evS_raise, evS_expr, evS_pass, ev_bin, ev_var, ev_lit, ev_cmp, ev_chn, ev_isN, ev_notN, ev_and, ev_or, ev_not, ev_ite, ev_call, ev_prim, ev_meth, ev_rev, ev_idx, ev_slc, ev_lst, ev_tup, ev_comp, ev_neg, evs_cons, evs_nil, evO_none, evO_some, evC_none, evC_some, evI_seq, evI_rng1, evI_rng2, evI_enm, evI_zip, partI, then_ok, nx_then, rt_then, ex_then, addI, subI, mulI, fdivI, modI, ltI, leI, gtI, geI, eqI, truthB, ite_and, ite_or, Bool.true_and, Bool.false_and, Bool.and_true, Bool.and_false, Bool.true_or, Bool.false_or, Bool.or_true, Bool.or_false, lim_if, lim_if2, shal_int, shal_bl, shal_str, shal_non, decide_true, decide_false, setAll, bindTg, bindOk, bindExc, ofSome, List.map_cons, List.map_nil, List.length_cons, List.length_nil, List.cons_append, List.nil_append, List.append_nil, List.replicate, List.getElem?_cons_zero, List.getElem?_cons_succ, List.set_cons_zero, List.set_cons_succ, Nat.reduceAdd, Nat.reduceSub, isI_int, isB_int, if_true, if_false, Bool.false_eq_true, Bool.not_true, Bool.not_false, den_l_floor, b_l_floor, ↓e1, sumI, number_ok, ← hkd, hr, k1]
  rfl
end Dn
namespace Dn
open Hue
theorem evS_whl (c : Tm) (b : Sts) (e : Env) : evS (.whl c b) e = whlL (fun e => (ev c e).bind truth) (evSs b) 10000 e := by simp only [evS]
theorem evS_augI (i : Nat) (a : Tm) (e : Env) (x y : Int) (h : e[i]? = some (some (.int x))) (ha : ev a e = .ok (.int y)) : evS (.aug i .add a) e = .nx (e.set i (some (.int (x + y)))) := by
  simp only [evS, h, ha]
  rfl
theorem evS_augD (i : Nat) (a : Tm) (e : Env) (x y : Int) (h : e[i]? = some (some (.int x))) (ha : ev a e = .ok (.int y)) : evS (.aug i .sub a) e = .nx (e.set i (some (.int (x - y)))) := by
  simp only [evS, h, ha]
  rfl
theorem idxNats {l : List Nat} {i x : Nat} (h : l[i]? = some x) : idxF (dNats l) (.int (i : Int)) = .ok (.int (x : Int)) := by
  obtain ⟨hi, e⟩ := List.getElem?_eq_some_iff.mp h
  unfold dNats
  rw [idxL rfl (by rw [List.length_map]; exact hi), List.getElem_map, e]
theorem idxInts {l : List Int} {i : Nat} (h : i < l.length) : idxF (dInts l) (.int (i : Int)) = .ok (.int (l.getD i 0)) := by
  unfold dInts
  rw [idxL rfl (by rw [List.length_map]; exact h), getD_int h]
theorem while_ok {free : List Nat} {v : List Int} (hf : ∀ i ∈ free, i < v.length) (a0 a1 a2 a4 a5 a6 a7 a9 : Option D) : ∀ (r pre : List Nat) (m : Int) (fuel : Nat), free = pre ++ r → r.length ≤ fuel → 0 ≤ m → m < tot (fun i => v.getD i 0) r →
    ∃ at' : Nat, free[at']? = some (pickL (fun i => v.getD i 0) r m).1 ∧ whlL (fun e => (ev b_floor_of_1 e).bind truth) (evSs b_floor_of_2) fuel [a0, a1, a2, some (.int m), a4, a5, a6, a7, some (dNats free), a9, some (dInts v), some (.int (pre.length : Int))] =
      .nx [a0, a1, a2, some (.int (pickL (fun i => v.getD i 0) r m).2), a4, a5, a6, a7, some (dNats free), a9, some (dInts v), some (.int (at' : Int))]
  | [], pre, m, fuel, e, hl, h0, h1 => by
    have : tot (fun i => v.getD i 0) [] = 0 := rfl
    omega
  | j :: r, pre, m, 0, e, hl, h0, h1 => by
    rw [List.length_cons] at hl
    omega
  | j :: r, pre, m, fuel + 1, e, hl, h0, h1 => by
    have hj : free[pre.length]? = some j := by rw [e]; simp
    have hv : j < v.length := hf j (by rw [e]; simp)
    rw [tot_cons] at h1
    have c1 : ev b_floor_of_1 [a0, a1, a2, some (.int m), a4, a5, a6, a7, some (dNats free), a9, some (dInts v), some (.int (pre.length : Int))] = .ok (.bl (decide (v.getD j 0 ≤ m))) := by
      simp only [run_eq, evSs_cons, evSs_nil, evS_par, evS_asg, evS_asgT, evS_asgR, evS_app, evS_ext, evS_ite, evS_for, evS_ret, evS_raise, evS_expr, evS_pass, ev_bin, ev_var, ev_lit, ev_cmp, ev_chn, ev_isN, ev_notN, ev_and, ev_or, ev_not, ev_ite, ev_call, ev_prim, ev_meth, ev_rev, ev_idx, ev_slc, ev_lst, ev_tup, ev_comp, ev_neg, evs_cons, evs_nil, evO_none, evO_some, evC_none, evC_some, evI_seq, evI_rng1, evI_rng2, evI_enm, evI_zip, partI, then_ok, nx_then, rt_then, ex_then, addI, subI, mulI, fdivI, modI, ltI, leI, gtI, geI, eqI, truthB, ite_and, ite_or, Bool.true_and, Bool.false_and, Bool.and_true, Bool.and_false, Bool.true_or, Bool.false_or, Bool.or_true, Bool.or_false, lim_if, lim_if2, shal_int, shal_bl, shal_str, shal_non, decide_true, decide_false, setAll, bindTg, bindOk, bindExc, ofSome, List.map_cons, List.map_nil, List.length_cons, List.length_nil, List.cons_append, List.nil_append, List.append_nil, List.replicate, List.getElem?_cons_zero, List.getElem?_cons_succ, List.set_cons_zero, List.set_cons_succ, Nat.reduceAdd, Nat.reduceSub, isI_int, isB_int, if_true, if_false, Bool.false_eq_true, Bool.not_true, Bool.not_false, b_floor_of_1, idxNats hj, idxInts hv]
    rw [whlL]
    by_cases hc : v.getD j 0 ≤ m
    · have b1 : evSs b_floor_of_2 [a0, a1, a2, some (.int m), a4, a5, a6, a7, some (dNats free), a9, some (dInts v), some (.int (pre.length : Int))] = .nx [a0, a1, a2, some (.int (m - v.getD j 0)), a4, a5, a6, a7, some (dNats free), a9, some (dInts v), some (.int (((pre ++ [j]).length : Nat) : Int))] := by
        have q1 := evS_augD 3 (.idx (.var 10) (.idx (.var 8) (.var 11))) [a0, a1, a2, some (.int m), a4, a5, a6, a7, some (dNats free), a9, some (dInts v), some (.int (pre.length : Int))] m (v.getD j 0) rfl (by simp only [run_eq, evSs_cons, evSs_nil, evS_par, evS_asg, evS_asgT, evS_asgR, evS_app, evS_ext, evS_ite, evS_for, evS_ret, evS_raise, evS_expr, evS_pass, ev_bin, ev_var, ev_lit, ev_cmp, ev_chn, ev_isN, ev_notN, ev_and, ev_or, ev_not, ev_ite, ev_call, ev_prim, ev_meth, ev_rev, ev_idx, ev_slc, ev_lst, ev_tup, ev_comp, ev_neg, evs_cons, evs_nil, evO_none, evO_some, evC_none, evC_some, evI_seq, evI_rng1, evI_rng2, evI_enm, evI_zip, partI, then_ok, nx_then, rt_then, ex_then, addI, subI, mulI, fdivI, modI, ltI, leI, gtI, geI, eqI, truthB, ite_and, ite_or, Bool.true_and, Bool.false_and, Bool.and_true, Bool.and_false, Bool.true_or, Bool.false_or, Bool.or_true, Bool.or_false, lim_if, lim_if2, shal_int, shal_bl, shal_str, shal_non, decide_true, decide_false, setAll, bindTg, bindOk, bindExc, ofSome, List.map_cons, List.map_nil, List.length_cons, List.length_nil, List.cons_append, List.nil_append, List.append_nil, List.replicate, List.getElem?_cons_zero, List.getElem?_cons_succ, List.set_cons_zero, List.set_cons_succ, Nat.reduceAdd, Nat.reduceSub, isI_int, isB_int, if_true, if_false, Bool.false_eq_true, Bool.not_true, Bool.not_false, idxNats hj, idxInts hv])
        have q2 := evS_augI 11 (.lit (.int 1)) [a0, a1, a2, some (.int (m - v.getD j 0)), a4, a5, a6, a7, some (dNats free), a9, some (dInts v), some (.int (pre.length : Int))] pre.length 1 rfl (by simp only [run_eq, evSs_cons, evSs_nil, evS_par, evS_asg, evS_asgT, evS_asgR, evS_app, evS_ext, evS_ite, evS_for, evS_ret, evS_raise, evS_expr, evS_pass, ev_bin, ev_var, ev_lit, ev_cmp, ev_chn, ev_isN, ev_notN, ev_and, ev_or, ev_not, ev_ite, ev_call, ev_prim, ev_meth, ev_rev, ev_idx, ev_slc, ev_lst, ev_tup, ev_comp, ev_neg, evs_cons, evs_nil, evO_none, evO_some, evC_none, evC_some, evI_seq, evI_rng1, evI_rng2, evI_enm, evI_zip, partI, then_ok, nx_then, rt_then, ex_then, addI, subI, mulI, fdivI, modI, ltI, leI, gtI, geI, eqI, truthB, ite_and, ite_or, Bool.true_and, Bool.false_and, Bool.and_true, Bool.and_false, Bool.true_or, Bool.false_or, Bool.or_true, Bool.or_false, lim_if, lim_if2, shal_int, shal_bl, shal_str, shal_non, decide_true, decide_false, setAll, bindTg, bindOk, bindExc, ofSome, List.map_cons, List.map_nil, List.length_cons, List.length_nil, List.cons_append, List.nil_append, List.append_nil, List.replicate, List.getElem?_cons_zero, List.getElem?_cons_succ, List.set_cons_zero, List.set_cons_succ, Nat.reduceAdd, Nat.reduceSub, isI_int, isB_int, if_true, if_false, Bool.false_eq_true, Bool.not_true, Bool.not_false])
        have e3 : (((pre ++ [j]).length : Nat) : Int) = (pre.length : Int) + 1 := by rw [List.length_append]; rfl
        rw [e3]
        simp only [run_eq, evSs_cons, evSs_nil, evS_par, evS_asg, evS_asgT, evS_asgR, evS_app, evS_ext, evS_ite, evS_for, evS_ret, evS_raise, evS_expr, evS_pass, ev_bin, ev_var, ev_lit, ev_cmp, ev_chn, ev_isN, ev_notN, ev_and, ev_or, ev_not, ev_ite, ev_call, ev_prim, ev_meth, ev_rev, ev_idx, ev_slc, ev_lst, ev_tup, ev_comp, ev_neg, evs_cons, evs_nil, evO_none, evO_some, evC_none, evC_some, evI_seq, evI_rng1, evI_rng2, evI_enm, evI_zip, partI, then_ok, nx_then, rt_then, ex_then, addI, subI, mulI, fdivI, modI, ltI, leI, gtI, geI, eqI, truthB, ite_and, ite_or, Bool.true_and, Bool.false_and, Bool.and_true, Bool.and_false, Bool.true_or, Bool.false_or, Bool.or_true, Bool.or_false, lim_if, lim_if2, shal_int, shal_bl, shal_str, shal_non, decide_true, decide_false, setAll, bindTg, bindOk, bindExc, ofSome, List.map_cons, List.map_nil, List.length_cons, List.length_nil, List.cons_append, List.nil_append, List.append_nil, List.replicate, List.getElem?_cons_zero, List.getElem?_cons_succ, List.set_cons_zero, List.set_cons_succ, Nat.reduceAdd, Nat.reduceSub, isI_int, isB_int, if_true, if_false, Bool.false_eq_true, Bool.not_true, Bool.not_false, b_floor_of_2, q1, q2]
      have c2 : (ev b_floor_of_1 [a0, a1, a2, some (.int m), a4, a5, a6, a7, some (dNats free), a9, some (dInts v), some (.int (pre.length : Int))]).bind truth = .ok true := by
        rw [c1, decide_eq_true hc]
        rfl
      obtain ⟨at', p1, p2⟩ := while_ok hf a0 a1 a2 a4 a5 a6 a7 a9 r (pre ++ [j]) (m - v.getD j 0) fuel (by rw [e]; simp) (by rw [List.length_cons] at hl; omega) (by omega) (by omega)
      have pk : pickL (fun i => v.getD i 0) (j :: r) m = pickL (fun i => v.getD i 0) r (m - v.getD j 0) := by
        rw [pickL, if_pos hc]
      rw [pk]
      refine ⟨at', p1, ?_⟩
      rw [← p2]
      simp only [c2, then_ok, if_true, b1]
    · have c2 : (ev b_floor_of_1 [a0, a1, a2, some (.int m), a4, a5, a6, a7, some (dNats free), a9, some (dInts v), some (.int (pre.length : Int))]).bind truth = .ok false := by
        rw [c1, decide_eq_false hc]
        rfl
      have pk : pickL (fun i => v.getD i 0) (j :: r) m = (j, m) := by
        rw [pickL, if_neg hc]
      rw [pk]
      refine ⟨pre.length, hj, ?_⟩
      simp only [c2, then_ok, Bool.false_eq_true, if_false]
end Dn
namespace Dn
open Hue
def upTo (n : Nat) : List Nat := List.range n
theorem nearL_length (rs : List (List Nat)) : (nearL rs).length = rs.length := by
  unfold nearL
  rw [List.length_map]
theorem nearL_fine (rs : List (List Nat)) : NearFine (nearL rs) := ⟨nearL_ok rs, fun s hs => by
  unfold nearL at hs
  obtain ⟨r, _, rfl⟩ := List.mem_map.mp hs
  rw [List.pairwise_map]
  apply List.Pairwise.filter
  rw [← List.pairwise_map (f := Prod.snd) (R := (· < ·))]
  have : (rs.zipIdx).map Prod.snd = List.range' 0 rs.length := by simp
  rw [this]
  exact List.pairwise_lt_range' ..⟩
theorem lrng {j : Int} {n : Nat} (h : j = n) (hn : n ≤ 100000) : primF .lrng1 [.int j] = .ok (dNats (List.range n)) := by
  subst h
  show (if 0 ≤ (n : Int) ∧ (n : Int) ≤ 1000000 then R.ok (D.lst (rangeL 0 (n : Int).toNat 1)) else .bad) = _
  rw [if_pos ⟨by omega, by omega⟩]
  unfold dNats rangeL
  rw [Int.toNat_natCast]
  congr 2
  exact List.map_congr_left fun i _ => by
    congr 1
    omega
theorem sumInts (v : List Int) : primF .sum [dInts v] = .ok (.int v.sum) := sumI v
theorem sum_tot (near : List (List Nat)) (k : Nat) : (iterW near k).sum = tot (wayAt near k) (List.range near.length) := by
  unfold tot wayAt
  congr 1
  apply List.ext_getElem
  · rw [List.length_map, List.length_range, iterW_length]
  · intro i h1 h2
    simp [List.getElem?_eq_getElem h1]
theorem up_short {N : Nat} : ∀ (l : List Nat) (lo : Nat), lo ≤ N → (∀ x ∈ l, lo ≤ x ∧ x < N) → l.Pairwise (· < ·) → lo + l.length ≤ N
  | [], lo, h, _, _ => h
  | x :: r, lo, h, hb, hp => by
    rw [List.pairwise_cons] at hp
    have hx := hb x (List.mem_cons_self ..)
    have := up_short r (x + 1) (by omega) (fun y hy => ⟨hp.1 y hy, (hb y (List.mem_cons_of_mem _ hy)).2⟩) hp.2
    rw [List.length_cons]
    omega
def floorL (h w n : Nat) (m : Int) : List (List Nat) := (flL (nearL (rowsL h w)) n (List.range (rowsL h w).length) m).map fun j => (rowsL h w).getD j []
theorem floor_turn {rs : List (List Nat)} {n i : Nat} (hi : i < n) (hn : n ≤ 8) {free : List Nat} {m : Int} (hb : ∀ i ∈ free, i < rs.length) (hl : free.length ≤ 9000) (h0 : 0 ≤ m) (h1 : m < tot (wayAt (nearL rs) (n - 1 - i)) free) (a0 a1 a10 a11 : Option D) (done : List D) (hd : done.length ≤ 100) :
    ∃ u11, evSs b_floor_of_3 [a0, a1, some (.int (n : Int)), some (.int m), some (dRows rs), some (dNear (nearL rs)), some (.lst ((List.range n).map fun i => dInts (iterW (nearL rs) i))), some (.lst done), some (dNats free), some (.int (i : Int)), a10, a11] =
      .nx [a0, a1, some (.int (n : Int)), some (.int (pickL (wayAt (nearL rs) (n - 1 - i)) free m).2), some (dRows rs), some (dNear (nearL rs)), some (.lst ((List.range n).map fun i => dInts (iterW (nearL rs) i))), some (.lst (done ++ [.str (rs.getD (pickL (wayAt (nearL rs) (n - 1 - i)) free m).1 [])])), some (dNats ((nearL rs).getD (pickL (wayAt (nearL rs) (n - 1 - i)) free m).1 [])), some (.int (i : Int)), some (dInts (iterW (nearL rs) (n - 1 - i))), u11] := by
  obtain ⟨at', p1, p2⟩ := while_ok (free := free) (v := iterW (nearL rs) (n - 1 - i)) (fun i hi => by rw [iterW_length, nearL_length]; exact hb i hi) a0 a1 (some (.int (n : Int))) (some (dRows rs)) (some (dNear (nearL rs))) (some (.lst ((List.range n).map fun i => dInts (iterW (nearL rs) i)))) (some (.lst done)) (some (.int (i : Int))) free [] m 10000 rfl (by omega) h0 h1
  have p1 : free[at']? = some (pickL (wayAt (nearL rs) (n - 1 - i)) free m).1 := p1
  generalize hj : (pickL (wayAt (nearL rs) (n - 1 - i)) free m).1 = j at *
  have p2 : whlL (fun e => (ev b_floor_of_1 e).bind truth) (evSs b_floor_of_2) 10000 [a0, a1, some (.int (n : Int)), some (.int m), some (dRows rs), some (dNear (nearL rs)), some (.lst ((List.range n).map fun i => dInts (iterW (nearL rs) i))), some (.lst done), some (dNats free), some (.int (i : Int)), some (dInts (iterW (nearL rs) (n - 1 - i))), some (.int 0)] = .nx [a0, a1, some (.int (n : Int)), some (.int (pickL (wayAt (nearL rs) (n - 1 - i)) free m).2), some (dRows rs), some (dNear (nearL rs)), some (.lst ((List.range n).map fun i => dInts (iterW (nearL rs) i))), some (.lst done), some (dNats free), some (.int (i : Int)), some (dInts (iterW (nearL rs) (n - 1 - i))), some (.int (at' : Int))] := p2
  have hjm : j ∈ free := List.mem_of_getElem? p1
  have hjr := hb j hjm
  have i1 : idxF (.lst ((List.range n).map fun i => dInts (iterW (nearL rs) i))) (.int ((n : Int) - 1 - (i : Int))) = .ok (dInts (iterW (nearL rs) (n - 1 - i))) := by
    rw [idxL (i := n - 1 - i) (by omega) (by rw [List.length_map, List.length_range]; omega), List.getElem_map, List.getElem_range]
  have i2 : idxF (dRows rs) (.int (j : Int)) = .ok (.str (rs.getD j [])) := by
    unfold dRows
    rw [idxL rfl (by rw [List.length_map]; exact hjr), List.getElem_map]
    simp [List.getElem?_eq_getElem hjr]
  have hjn : j < (nearL rs).length := by rw [nearL_length]; exact hjr
  have i3 : idxF (dNear (nearL rs)) (.int (j : Int)) = .ok (dNats ((nearL rs).getD j [])) := by
    unfold dNear
    rw [idxL rfl (by rw [List.length_map]; exact hjn), List.getElem_map]
    simp [List.getElem?_eq_getElem hjn]
  have hll : done.length < lim := by unfold lim; omega
  refine ⟨some (.int (at' : Int)), ?_⟩
  simp (disch := first | omega | exact hll) only [run_eq, evSs_cons, evSs_nil, evS_par, evS_asg, evS_asgT, evS_asgR, evS_app, evS_ext, evS_ite, evS_for, evS_ret, evS_raise, evS_expr, evS_pass, ev_bin, ev_var, ev_lit, ev_cmp, ev_chn, ev_isN, ev_notN, ev_and, ev_or, ev_not, ev_ite, ev_call, ev_prim, ev_meth, ev_rev, ev_idx, ev_slc, ev_lst, ev_tup, ev_comp, ev_neg, evs_cons, evs_nil, evO_none, evO_some, evC_none, evC_some, evI_seq, evI_rng1, evI_rng2, evI_enm, evI_zip, partI, then_ok, nx_then, rt_then, ex_then, addI, subI, mulI, fdivI, modI, ltI, leI, gtI, geI, eqI, truthB, ite_and, ite_or, Bool.true_and, Bool.false_and, Bool.and_true, Bool.and_false, Bool.true_or, Bool.false_or, Bool.or_true, Bool.or_false, lim_if, lim_if2, shal_int, shal_bl, shal_str, shal_non, decide_true, decide_false, setAll, bindTg, bindOk, bindExc, ofSome, List.map_cons, List.map_nil, List.length_cons, List.length_nil, List.cons_append, List.nil_append, List.append_nil, List.replicate, List.getElem?_cons_zero, List.getElem?_cons_succ, List.set_cons_zero, List.set_cons_succ, Nat.reduceAdd, Nat.reduceSub, isI_int, isB_int, if_true, if_false, Bool.false_eq_true, Bool.not_true, Bool.not_false, b_floor_of_3, i1, evS_whl, p2, lstAt, idxNats p1, i2, i3, if_pos hll]
theorem floor_of_ok {h w n : Nat} (k : Kd h w) (hn : 1 ≤ n ∧ n ≤ 8) {m : Int} (h0 : 0 ≤ m) : den_floor_of [.int h, .int w, .int n, .int m] = .ok (if m < countL h w n then dRows (floorL h w n m) else .non) := by
  obtain ⟨n, rfl⟩ : ∃ n', n = n' + 1 := ⟨n - 1, by omega⟩
  have hr := rows_ok k
  have hne := near_ok (rs := rowsL h w) (w := w) (fun r hr => rowsL_width hr) (by unfold Kd at k; omega)
  have hwy := ways_ok (nearL_ok (rowsL h w)) n (by omega)
  have hlen := rowsL_short k
  have l1 : primF .len [dRows (rowsL h w)] = .ok (.int ((rowsL h w).length : Int)) := by
    unfold dRows
    rw [lenL, List.length_map]
  have l2 := lrng (j := ((rowsL h w).length : Int)) rfl (by omega)
  have i1 : idxF (.lst ((List.range (n + 1)).map fun i => dInts (iterW (nearL (rowsL h w)) i))) (.int (-1)) = .ok (dInts (iterW (nearL (rowsL h w)) n)) := by
    rw [idx_last (by simp)]
    simp [List.range_succ]
  have s1 := sumInts (iterW (nearL (rowsL h w)) n)
  have sc : (iterW (nearL (rowsL h w)) n).sum = countL h w (n + 1) := rfl
  rw [sc] at s1
  by_cases hm : m < countL h w (n + 1)
  · have g1 : decide (countL h w (n + 1) ≤ m) = false := decide_eq_false (by omega)
    have ht := sum_tot (nearL (rowsL h w)) n
    rw [sc, nearL_length] at ht
    rw [if_pos hm]
    rw [ht] at hm
    generalize hrs : rowsL h w = rs at *
    have N := nearL_fine rs
    have hnl := nearL_length rs
    have key := forL_inv0 (f := evSs b_floor_of_3) (tg := .nm 9) (items := rangeL 0 (n + 1) 1)
      (fun i e => ∃ (m' : Int) (free done : List Nat) (u9 u10 u11 : Option D), e = [some (.int (h : Int)), some (.int (w : Int)), some (.int ((n + 1 : Nat) : Int)), some (.int m'), some (dRows rs), some (dNear (nearL rs)), some (.lst ((List.range (n + 1)).map fun i => dInts (iterW (nearL rs) i))), some (.lst (done.map fun j => .str (rs.getD j []))), some (dNats free), u9, u10, u11] ∧ done.length = i ∧ free.Pairwise (· < ·) ∧ (∀ x ∈ free, x < rs.length) ∧ flL (nearL rs) (n + 1) (List.range rs.length) m = done ++ flL (nearL rs) (n + 1 - i) free m' ∧ (i < n + 1 → 0 ≤ m' ∧ m' < tot (wayAt (nearL rs) (n + 1 - 1 - i)) free))
      (e := [some (.int (h : Int)), some (.int (w : Int)), some (.int ((n + 1 : Nat) : Int)), some (.int m), some (dRows rs), some (dNear (nearL rs)), some (.lst ((List.range (n + 1)).map fun i => dInts (iterW (nearL rs) i))), some (.lst []), some (dNats (List.range rs.length)), none, none, none])
      ⟨m, List.range rs.length, [], none, none, none, rfl, rfl, List.pairwise_lt_range .., (fun x hx => List.mem_range.mp hx), rfl, fun _ => ⟨h0, hm⟩⟩ fun i d e hd hp => by
        obtain ⟨hi, rfl⟩ := rangeL_at hd
        obtain ⟨m', free, done, u9, u10, u11, rfl, hdl, hup, hbd, hfl, hmm⟩ := hp
        obtain ⟨m0, m1⟩ := hmm hi
        have hsh := up_short free 0 (N := rs.length) (by omega) (fun x hx => ⟨by omega, hbd x hx⟩) hup
        rw [show (0 : Int) + (i : Int) * 1 = i by omega]
        obtain ⟨q11, hb⟩ := floor_turn hi (by omega) hbd (by omega) m0 m1 (some (.int (h : Int))) (some (.int (w : Int))) u10 u11 (done.map fun j => .str (rs.getD j [])) (by rw [List.length_map]; omega)
        obtain ⟨x1, x2, x3, _⟩ := pick_ok hup m0 m1
        obtain ⟨y1, y2⟩ := near_getD N (pickL (wayAt (nearL rs) (n + 1 - 1 - i)) free m').1
        refine ⟨_, _, rfl, hb, (pickL (wayAt (nearL rs) (n + 1 - 1 - i)) free m').2, (nearL rs).getD (pickL (wayAt (nearL rs) (n + 1 - 1 - i)) free m').1 [], done ++ [(pickL (wayAt (nearL rs) (n + 1 - 1 - i)) free m').1], some (.int (i : Int)), some (dInts (iterW (nearL rs) (n + 1 - 1 - i))), q11, ?_, ?_, y1, ?_, ?_, ?_⟩
        · rw [List.map_append]
          rfl
        · rw [List.length_append, hdl]
          rfl
        · intro x hx
          have := y2 x hx
          omega
        · rw [hfl, List.append_assoc]
          congr 1
          rw [show n + 1 - i = (n + 1 - 1 - i) + 1 by omega, show n + 1 - (i + 1) = n + 1 - 1 - i by omega]
          rfl
        · intro hi2
          refine ⟨x2, ?_⟩
          have e1 : n + 1 - 1 - i = (n + 1 - 1 - (i + 1)) + 1 := by omega
          have e2 := way_succ (near := nearL rs) (n + 1 - 1 - (i + 1)) (i := (pickL (wayAt (nearL rs) (n + 1 - 1 - i)) free m').1) (by rw [hnl]; exact hbd _ x1)
          rw [← e2, ← e1]
          exact x3
    obtain ⟨e', k1, m', free, done, u9, u10, u11, rfl, hdl, hup, hbd, hfl, hmm⟩ := key
    rw [rangeL_length] at hdl hfl
    have hfin : flL (nearL rs) (n + 1) (List.range rs.length) m = done := by
      rw [hfl, Nat.sub_self]
      exact List.append_nil _
    have hrg := rngNat (n := n + 1) rfl (by omega)
    have hF : floorL h w (n + 1) m = done.map fun j => rs.getD j [] := by
      unfold floorL
      rw [hrs, hfin]
    have hD : D.lst (done.map fun j => .str (rs.getD j [])) = dRows (done.map fun j => rs.getD j []) := by
      unfold dRows
      rw [List.map_map]
      rfl
    rw [hF, ← hD]
    simp (disch := omega) only [run_eq, evSs_cons, evSs_nil, evS_par, evS_asg, evS_asgT, evS_asgR, evS_app, evS_ext, evS_ite, evS_for, evS_ret, evS_raise, evS_expr, evS_pass, ev_bin, ev_var, ev_lit, ev_cmp, ev_chn, ev_isN, ev_notN, ev_and, ev_or, ev_not, ev_ite, ev_call, ev_prim, ev_meth, ev_rev, ev_idx, ev_slc, ev_lst, ev_tup, ev_comp, ev_neg, evs_cons, evs_nil, evO_none, evO_some, evC_none, evC_some, evI_seq, evI_rng1, evI_rng2, evI_enm, evI_zip, partI, then_ok, nx_then, rt_then, ex_then, addI, subI, mulI, fdivI, modI, ltI, leI, gtI, geI, eqI, truthB, ite_and, ite_or, Bool.true_and, Bool.false_and, Bool.and_true, Bool.and_false, Bool.true_or, Bool.false_or, Bool.or_true, Bool.or_false, lim_if, lim_if2, shal_int, shal_bl, shal_str, shal_non, decide_true, decide_false, setAll, bindTg, bindOk, bindExc, ofSome, List.map_cons, List.map_nil, List.length_cons, List.length_nil, List.cons_append, List.nil_append, List.append_nil, List.replicate, List.getElem?_cons_zero, List.getElem?_cons_succ, List.set_cons_zero, List.set_cons_succ, Nat.reduceAdd, Nat.reduceSub, isI_int, isB_int, if_true, if_false, Bool.false_eq_true, Bool.not_true, Bool.not_false, den_floor_of, b_floor_of, hr, hne, hwy, l1, l2, i1, s1, g1, hrg, k1]
  · have g1 : decide (countL h w (n + 1) ≤ m) = true := decide_eq_true (by omega)
    rw [if_neg hm]
    simp (disch := omega) only [run_eq, evSs_cons, evSs_nil, evS_par, evS_asg, evS_asgT, evS_asgR, evS_app, evS_ext, evS_ite, evS_for, evS_ret, evS_raise, evS_expr, evS_pass, ev_bin, ev_var, ev_lit, ev_cmp, ev_chn, ev_isN, ev_notN, ev_and, ev_or, ev_not, ev_ite, ev_call, ev_prim, ev_meth, ev_rev, ev_idx, ev_slc, ev_lst, ev_tup, ev_comp, ev_neg, evs_cons, evs_nil, evO_none, evO_some, evC_none, evC_some, evI_seq, evI_rng1, evI_rng2, evI_enm, evI_zip, partI, then_ok, nx_then, rt_then, ex_then, addI, subI, mulI, fdivI, modI, ltI, leI, gtI, geI, eqI, truthB, ite_and, ite_or, Bool.true_and, Bool.false_and, Bool.and_true, Bool.and_false, Bool.true_or, Bool.false_or, Bool.or_true, Bool.or_false, lim_if, lim_if2, shal_int, shal_bl, shal_str, shal_non, decide_true, decide_false, setAll, bindTg, bindOk, bindExc, ofSome, List.map_cons, List.map_nil, List.length_cons, List.length_nil, List.cons_append, List.nil_append, List.append_nil, List.replicate, List.getElem?_cons_zero, List.getElem?_cons_succ, List.set_cons_zero, List.set_cons_succ, Nat.reduceAdd, Nat.reduceSub, isI_int, isB_int, if_true, if_false, Bool.false_eq_true, Bool.not_true, Bool.not_false, den_floor_of, b_floor_of, hr, hne, hwy, l1, l2, i1, s1, g1]
end Dn
namespace Dn
open Hue
theorem isNonL (l : List D) : isNon (.lst l) = false := Eq.trans rfl rfl
theorem floor_by_ok {h w n : Nat} (k : Kd h w) (hn : 1 ≤ n ∧ n ≤ 8) {m : Int} (h0 : 0 ≤ m) (hm : m < countL h w n) : den_floor_by [.int h, .int w, .int n, .int m] = .ok (dRows (floorL h w n m)) := by
  have f := floor_of_ok k hn h0
  rw [if_pos hm] at f
  have c1 := check_hues_ok k.hues
  have c2 := check_wide_ok k.wide
  have c3 : den_check_high [.int (n : Int), .int 8] = .ok .non := check_high_ok (by omega)
  have c4 : den_is_between [.int m, .int 0, .int m] = .ok (.bl true) := by
    rw [between_int, decide_eq_true h0, decide_eq_true (Int.le_refl m)]
    rfl
  have e : dRows (floorL h w n m) = .lst ((floorL h w n m).map D.str) := rfl
  rw [e] at f ⊢
  simp (disch := omega) only [run_eq, evSs_cons, evSs_nil, evS_par, evS_asg, evS_asgT, evS_asgR, evS_app, evS_ext, evS_ite, evS_for, evS_ret, evS_raise, evS_expr, evS_pass, ev_bin, ev_var, ev_lit, ev_cmp, ev_chn, ev_isN, ev_notN, ev_and, ev_or, ev_not, ev_ite, ev_call, ev_prim, ev_meth, ev_rev, ev_idx, ev_slc, ev_lst, ev_tup, ev_comp, ev_neg, evs_cons, evs_nil, evO_none, evO_some, evC_none, evC_some, evI_seq, evI_rng1, evI_rng2, evI_enm, evI_zip, partI, then_ok, nx_then, rt_then, ex_then, addI, subI, mulI, fdivI, modI, ltI, leI, gtI, geI, eqI, truthB, ite_and, ite_or, Bool.true_and, Bool.false_and, Bool.and_true, Bool.and_false, Bool.true_or, Bool.false_or, Bool.or_true, Bool.or_false, lim_if, lim_if2, shal_int, shal_bl, shal_str, shal_non, decide_true, decide_false, setAll, bindTg, bindOk, bindExc, ofSome, List.map_cons, List.map_nil, List.length_cons, List.length_nil, List.cons_append, List.nil_append, List.append_nil, List.replicate, List.getElem?_cons_zero, List.getElem?_cons_succ, List.set_cons_zero, List.set_cons_succ, Nat.reduceAdd, Nat.reduceSub, isI_int, isB_int, if_true, if_false, Bool.false_eq_true, Bool.not_true, Bool.not_false, den_floor_by, b_floor_by, c1, c2, c3, c4, f, isNonL]
def livelyL (f : List (List Nat)) : Bool := (f.zip (f.drop 1)).all fun p => gt p.1 p.2
theorem cutTail {α : Type} (l : List α) : cutL l (some 1) none = l.drop 1 := by
  unfold cutL
  have h1 : cutIx l.length 0 (some 1) = min 1 l.length := rfl
  have h2 : cutIx l.length l.length none = l.length := rfl
  rw [h1, h2]
  cases l with
  | nil => rfl
  | cons x r =>
    have : min 1 (x :: r).length = 1 := by simp
    rw [this]
    simp
theorem slcL (l : List D) (lo hi : Option Int) : slcF (.lst l) lo hi = .ok (.lst (cutL l lo hi)) := rfl
theorem lively_ok {w : Nat} {f : List (List Nat)} (hw : ∀ r ∈ f, r.length = w) (hl : w ≤ 1000) : den_is_lively [dRows f] = .ok (.bl (livelyL f)) := by
  have c1 : ev (.comp b_is_lively_1 (.tp [1, 2]) (.zip (.var 0) (.slc (.var 0) (.some (.lit (.int 1))) .none)) .none [1, 2]) [some (.lst (f.map D.str)), none, none] = .ok (.lst ((f.zip (f.drop 1)).map fun p => .bl (gt p.1 p.2))) := by
    simp only [run_eq, evSs_cons, evSs_nil, evS_par, evS_asg, evS_asgT, evS_asgR, evS_app, evS_ext, evS_ite, evS_for, evS_ret, evS_raise, evS_expr, evS_pass, ev_bin, ev_var, ev_lit, ev_cmp, ev_chn, ev_isN, ev_notN, ev_and, ev_or, ev_not, ev_ite, ev_call, ev_prim, ev_meth, ev_rev, ev_idx, ev_slc, ev_lst, ev_tup, ev_comp, ev_neg, evs_cons, evs_nil, evO_none, evO_some, evC_none, evC_some, evI_seq, evI_rng1, evI_rng2, evI_enm, evI_zip, partI, then_ok, nx_then, rt_then, ex_then, addI, subI, mulI, fdivI, modI, ltI, leI, gtI, geI, eqI, truthB, ite_and, ite_or, Bool.true_and, Bool.false_and, Bool.and_true, Bool.and_false, Bool.true_or, Bool.false_or, Bool.or_true, Bool.or_false, lim_if, lim_if2, shal_int, shal_bl, shal_str, shal_non, decide_true, decide_false, setAll, bindTg, bindOk, bindExc, ofSome, List.map_cons, List.map_nil, List.length_cons, List.length_nil, List.cons_append, List.nil_append, List.append_nil, List.replicate, List.getElem?_cons_zero, List.getElem?_cons_succ, List.set_cons_zero, List.set_cons_succ, Nat.reduceAdd, Nat.reduceSub, isI_int, isB_int, if_true, if_false, Bool.false_eq_true, Bool.not_true, Bool.not_false, slcL, cutTail, ← List.map_drop, zipR, zipL_map, wipeE]
    rw [compA (g := fun p => .bl (gt p.1 p.2)) fun p hp => ⟨_, rfl, rfl, ?_⟩]
    · simp only [run_eq, evSs_cons, evSs_nil, evS_par, evS_asg, evS_asgT, evS_asgR, evS_app, evS_ext, evS_ite, evS_for, evS_ret, evS_raise, evS_expr, evS_pass, ev_bin, ev_var, ev_lit, ev_cmp, ev_chn, ev_isN, ev_notN, ev_and, ev_or, ev_not, ev_ite, ev_call, ev_prim, ev_meth, ev_rev, ev_idx, ev_slc, ev_lst, ev_tup, ev_comp, ev_neg, evs_cons, evs_nil, evO_none, evO_some, evC_none, evC_some, evI_seq, evI_rng1, evI_rng2, evI_enm, evI_zip, partI, then_ok, nx_then, rt_then, ex_then, addI, subI, mulI, fdivI, modI, ltI, leI, gtI, geI, eqI, truthB, ite_and, ite_or, Bool.true_and, Bool.false_and, Bool.and_true, Bool.and_false, Bool.true_or, Bool.false_or, Bool.or_true, Bool.or_false, lim_if, lim_if2, shal_int, shal_bl, shal_str, shal_non, decide_true, decide_false, setAll, bindTg, bindOk, bindExc, ofSome, List.map_cons, List.map_nil, List.length_cons, List.length_nil, List.cons_append, List.nil_append, List.append_nil, List.replicate, List.getElem?_cons_zero, List.getElem?_cons_succ, List.set_cons_zero, List.set_cons_succ, Nat.reduceAdd, Nat.reduceSub, isI_int, isB_int, if_true, if_false, Bool.false_eq_true, Bool.not_true, Bool.not_false, noExc_ok]
    · have h1 := hw _ (List.of_mem_zip hp).1
      have h2 := hw _ (List.mem_of_mem_drop (List.of_mem_zip hp).2)
      simp only [run_eq, evSs_cons, evSs_nil, evS_par, evS_asg, evS_asgT, evS_asgR, evS_app, evS_ext, evS_ite, evS_for, evS_ret, evS_raise, evS_expr, evS_pass, ev_bin, ev_var, ev_lit, ev_cmp, ev_chn, ev_isN, ev_notN, ev_and, ev_or, ev_not, ev_ite, ev_call, ev_prim, ev_meth, ev_rev, ev_idx, ev_slc, ev_lst, ev_tup, ev_comp, ev_neg, evs_cons, evs_nil, evO_none, evO_some, evC_none, evC_some, evI_seq, evI_rng1, evI_rng2, evI_enm, evI_zip, partI, then_ok, nx_then, rt_then, ex_then, addI, subI, mulI, fdivI, modI, ltI, leI, gtI, geI, eqI, truthB, ite_and, ite_or, Bool.true_and, Bool.false_and, Bool.and_true, Bool.and_false, Bool.true_or, Bool.false_or, Bool.or_true, Bool.or_false, lim_if, lim_if2, shal_int, shal_bl, shal_str, shal_non, decide_true, decide_false, setAll, bindTg, bindOk, bindExc, ofSome, List.map_cons, List.map_nil, List.length_cons, List.length_nil, List.cons_append, List.nil_append, List.append_nil, List.replicate, List.getElem?_cons_zero, List.getElem?_cons_succ, List.set_cons_zero, List.set_cons_succ, Nat.reduceAdd, Nat.reduceSub, isI_int, isB_int, if_true, if_false, Bool.false_eq_true, Bool.not_true, Bool.not_false, b_is_lively_1, gt_ok (a := p.1) (b := p.2) (by omega) (by omega)]
  show den_is_lively [.lst (f.map D.str)] = _
  simp only [run_eq, evSs_cons, evSs_nil, evS_par, evS_asg, evS_asgT, evS_asgR, evS_app, evS_ext, evS_ite, evS_for, evS_ret, evS_raise, evS_expr, evS_pass, ev_bin, ev_var, ev_lit, ev_cmp, ev_chn, ev_isN, ev_notN, ev_and, ev_or, ev_not, ev_ite, ev_call, ev_prim, ev_meth, ev_rev, ev_idx, ev_slc, ev_lst, ev_tup, ev_comp, ev_neg, evs_cons, evs_nil, evO_none, evO_some, evC_none, evC_some, evI_seq, evI_rng1, evI_rng2, evI_enm, evI_zip, partI, then_ok, nx_then, rt_then, ex_then, addI, subI, mulI, fdivI, modI, ltI, leI, gtI, geI, eqI, truthB, ite_and, ite_or, Bool.true_and, Bool.false_and, Bool.and_true, Bool.and_false, Bool.true_or, Bool.false_or, Bool.or_true, Bool.or_false, lim_if, lim_if2, shal_int, shal_bl, shal_str, shal_non, decide_true, decide_false, setAll, bindTg, bindOk, bindExc, ofSome, List.map_cons, List.map_nil, List.length_cons, List.length_nil, List.cons_append, List.nil_append, List.append_nil, List.replicate, List.getElem?_cons_zero, List.getElem?_cons_succ, List.set_cons_zero, List.set_cons_succ, Nat.reduceAdd, Nat.reduceSub, isI_int, isB_int, if_true, if_false, Bool.false_eq_true, Bool.not_true, Bool.not_false, den_is_lively, b_is_lively, ↓c1, allB]
  rfl
theorem check_lively_ok {h w n : Nat} {f : List (List Nat)} (k : Kd h w) (hn : 1 ≤ n ∧ n ≤ 8) (F : Flr h w n f) (hf : livelyL f = true) : den_check_lively [.int h, dRows f] = .ok .non := by
  have c1 := check_hues_ok k.hues
  have c2 := check_floor_ok k hn F
  have c3 := lively_ok F.wide (by unfold Kd at k; omega)
  rw [hf] at c3
  simp only [run_eq, evSs_cons, evSs_nil, evS_par, evS_asg, evS_asgT, evS_asgR, evS_app, evS_ext, evS_ite, evS_for, evS_ret, evS_raise, evS_expr, evS_pass, ev_bin, ev_var, ev_lit, ev_cmp, ev_chn, ev_isN, ev_notN, ev_and, ev_or, ev_not, ev_ite, ev_call, ev_prim, ev_meth, ev_rev, ev_idx, ev_slc, ev_lst, ev_tup, ev_comp, ev_neg, evs_cons, evs_nil, evO_none, evO_some, evC_none, evC_some, evI_seq, evI_rng1, evI_rng2, evI_enm, evI_zip, partI, then_ok, nx_then, rt_then, ex_then, addI, subI, mulI, fdivI, modI, ltI, leI, gtI, geI, eqI, truthB, ite_and, ite_or, Bool.true_and, Bool.false_and, Bool.and_true, Bool.and_false, Bool.true_or, Bool.false_or, Bool.or_true, Bool.or_false, lim_if, lim_if2, shal_int, shal_bl, shal_str, shal_non, decide_true, decide_false, setAll, bindTg, bindOk, bindExc, ofSome, List.map_cons, List.map_nil, List.length_cons, List.length_nil, List.cons_append, List.nil_append, List.append_nil, List.replicate, List.getElem?_cons_zero, List.getElem?_cons_succ, List.set_cons_zero, List.set_cons_succ, Nat.reduceAdd, Nat.reduceSub, isI_int, isB_int, if_true, if_false, Bool.false_eq_true, Bool.not_true, Bool.not_false, den_check_lively, b_check_lively, c1, c2, c3]
end Dn
namespace Dn
open Hue
theorem idxOf_at {α : Type} (p : α → Bool) : ∀ (l : List α) (j : Nat) (x : α), l[j]? = some x → p x = true → (∀ i y, i < j → l[i]? = some y → p y = false) → idxOf p l = some j
  | [], j, x, h, _, _ => by simp at h
  | a :: r, 0, x, h, h1, _ => by
    simp at h
    subst h
    rw [idxOf, if_pos h1]
  | a :: r, j + 1, x, h, h1, h2 => by
    have ha := h2 0 a (by omega) (by simp)
    rw [idxOf, if_neg (by rw [ha]; decide), idxOf_at p r j x (by simpa using h) h1 fun i y hi hy => h2 (i + 1) y (by omega) (by simpa using hy)]
    rfl
theorem rows_nodup {h w : Nat} (k : Kd h w) : (rowsL h w).Nodup := by
  refine k.cases (P := fun h w => (rowsL h w).Nodup) ?_ ?_ ?_ ?_ ?_ ?_ ?_ <;> decide +kernel
theorem index_ok {rs : List (List Nat)} (hd : rs.Nodup) {j : Nat} (hj : j < rs.length) : primF .index [dRows rs, .str (rs.getD j [])] = .ok (.int (j : Int)) := by
  have e : rs.getD j [] = rs[j] := by simp [List.getElem?_eq_getElem hj]
  rw [e]
  have h1 : idxOf (fun x => D.eqv x (.str rs[j])) (rs.map D.str) = some j := by
    refine idxOf_at _ _ j (.str rs[j]) (by rw [List.getElem?_map, List.getElem?_eq_getElem hj]; rfl) ((inj_str.eqv _ _).mpr rfl) fun i y hi hy => ?_
    have hi2 : i < rs.length := by omega
    rw [List.getElem?_map, List.getElem?_eq_getElem hi2] at hy
    have hy : D.str rs[i] = y := by simpa using hy
    subst hy
    cases hb : D.eqv (.str rs[i]) (.str rs[j])
    · rfl
    · have := (inj_str.eqv _ _).mp hb
      exact absurd this (List.pairwise_iff_getElem.mp hd i j hi2 hj hi)
  show (if (D.str rs[j]).flat && (rs.map D.str).all D.flat then (R.of (idxOf (fun x => D.eqv x (.str rs[j])) (rs.map D.str))).bind fun j => R.ok (D.int (j : Int)) else R.bad) = _
  have h2 : (rs.map D.str).all D.flat = true := by
    rw [List.all_map]
    exact List.all_eq_true.mpr fun _ _ => rfl
  rw [h1, h2]
  rfl
theorem num_turn {rs : List (List Nat)} (hd : rs.Nodup) {n i j : Nat} (hi : i < n) (hn : n ≤ 8) {free : List Nat} (hb : ∀ x ∈ free, x < rs.length) (hj : j < rs.length) {f : List D} (hf : f.length = n) (found : Int) (a0 a9 a10 : Option D) :
    ∃ u9 u10, evSs b_number_of_3 [a0, some (.lst f), some (dRows rs), some (dNear (nearL rs)), some (.lst ((List.range n).map fun i => dInts (iterW (nearL rs) i))), some (.int found), some (dNats free), some (.int (i : Int)), some (.str (rs.getD j [])), a9, a10] =
      .nx [a0, some (.lst f), some (dRows rs), some (dNear (nearL rs)), some (.lst ((List.range n).map fun i => dInts (iterW (nearL rs) i))), some (.int (found + tot (wayAt (nearL rs) (n - 1 - i)) (free.filter (· < j)))), some (dNats ((nearL rs).getD j [])), some (.int (i : Int)), some (.str (rs.getD j [])), u9, u10] := by
  have i0 := index_ok hd hj
  have l1 : primF .len [.lst f] = .ok (.int (n : Int)) := by rw [lenL, hf]
  have i1 : idxF (.lst ((List.range n).map fun i => dInts (iterW (nearL rs) i))) (.int ((n : Int) - 1 - (i : Int))) = .ok (dInts (iterW (nearL rs) (n - 1 - i))) := by
    rw [idxL (i := n - 1 - i) (by omega) (by rw [List.length_map, List.length_range]; omega), List.getElem_map, List.getElem_range]
  have hjn : j < (nearL rs).length := by rw [nearL_length]; exact hj
  have i3 : idxF (dNear (nearL rs)) (.int (j : Int)) = .ok (dNats ((nearL rs).getD j [])) := by
    unfold dNear
    rw [idxL rfl (by rw [List.length_map]; exact hjn), List.getElem_map]
    simp [List.getElem?_eq_getElem hjn]
  have c1 : ev (.comp b_number_of_1 (.nm 10) (.seq (.var 6)) (.some b_number_of_2) [10]) [a0, some (.lst f), some (dRows rs), some (dNear (nearL rs)), some (.lst ((List.range n).map fun i => dInts (iterW (nearL rs) i))), some (.int found), some (.lst (free.map fun (i : Nat) => D.int (i : Int))), some (.int (i : Int)), some (.str (rs.getD j [])), some (.int (j : Int)), a10] = .ok (.lst (((free.filter (· < j)).map fun a => wayAt (nearL rs) (n - 1 - i) a).map D.int)) := by
    simp only [run_eq, evSs_cons, evSs_nil, evS_par, evS_asg, evS_asgT, evS_asgR, evS_app, evS_ext, evS_ite, evS_for, evS_ret, evS_raise, evS_expr, evS_pass, ev_bin, ev_var, ev_lit, ev_cmp, ev_chn, ev_isN, ev_notN, ev_and, ev_or, ev_not, ev_ite, ev_call, ev_prim, ev_meth, ev_rev, ev_idx, ev_slc, ev_lst, ev_tup, ev_comp, ev_neg, evs_cons, evs_nil, evO_none, evO_some, evC_none, evC_some, evI_seq, evI_rng1, evI_rng2, evI_enm, evI_zip, partI, then_ok, nx_then, rt_then, ex_then, addI, subI, mulI, fdivI, modI, ltI, leI, gtI, geI, eqI, truthB, ite_and, ite_or, Bool.true_and, Bool.false_and, Bool.and_true, Bool.and_false, Bool.true_or, Bool.false_or, Bool.or_true, Bool.or_false, lim_if, lim_if2, shal_int, shal_bl, shal_str, shal_non, decide_true, decide_false, setAll, bindTg, bindOk, bindExc, ofSome, List.map_cons, List.map_nil, List.length_cons, List.length_nil, List.cons_append, List.nil_append, List.append_nil, List.replicate, List.getElem?_cons_zero, List.getElem?_cons_succ, List.set_cons_zero, List.set_cons_succ, Nat.reduceAdd, Nat.reduceSub, isI_int, isB_int, if_true, if_false, Bool.false_eq_true, Bool.not_true, Bool.not_false, seqL, wipeE]
    rw [compT (p := fun a => decide (a < j)) (g := fun a => .int (wayAt (nearL rs) (n - 1 - i) a)) fun a ha => ⟨_, rfl, ?_, fun _ => ?_⟩]
    · simp only [run_eq, evSs_cons, evSs_nil, evS_par, evS_asg, evS_asgT, evS_asgR, evS_app, evS_ext, evS_ite, evS_for, evS_ret, evS_raise, evS_expr, evS_pass, ev_bin, ev_var, ev_lit, ev_cmp, ev_chn, ev_isN, ev_notN, ev_and, ev_or, ev_not, ev_ite, ev_call, ev_prim, ev_meth, ev_rev, ev_idx, ev_slc, ev_lst, ev_tup, ev_comp, ev_neg, evs_cons, evs_nil, evO_none, evO_some, evC_none, evC_some, evI_seq, evI_rng1, evI_rng2, evI_enm, evI_zip, partI, then_ok, nx_then, rt_then, ex_then, addI, subI, mulI, fdivI, modI, ltI, leI, gtI, geI, eqI, truthB, ite_and, ite_or, Bool.true_and, Bool.false_and, Bool.and_true, Bool.and_false, Bool.true_or, Bool.false_or, Bool.or_true, Bool.or_false, lim_if, lim_if2, shal_int, shal_bl, shal_str, shal_non, decide_true, decide_false, setAll, bindTg, bindOk, bindExc, ofSome, List.map_cons, List.map_nil, List.length_cons, List.length_nil, List.cons_append, List.nil_append, List.append_nil, List.replicate, List.getElem?_cons_zero, List.getElem?_cons_succ, List.set_cons_zero, List.set_cons_succ, Nat.reduceAdd, Nat.reduceSub, isI_int, isB_int, if_true, if_false, Bool.false_eq_true, Bool.not_true, Bool.not_false, noExc_ok, List.map_map, Function.comp_def]
    · simp only [run_eq, evSs_cons, evSs_nil, evS_par, evS_asg, evS_asgT, evS_asgR, evS_app, evS_ext, evS_ite, evS_for, evS_ret, evS_raise, evS_expr, evS_pass, ev_bin, ev_var, ev_lit, ev_cmp, ev_chn, ev_isN, ev_notN, ev_and, ev_or, ev_not, ev_ite, ev_call, ev_prim, ev_meth, ev_rev, ev_idx, ev_slc, ev_lst, ev_tup, ev_comp, ev_neg, evs_cons, evs_nil, evO_none, evO_some, evC_none, evC_some, evI_seq, evI_rng1, evI_rng2, evI_enm, evI_zip, partI, then_ok, nx_then, rt_then, ex_then, addI, subI, mulI, fdivI, modI, ltI, leI, gtI, geI, eqI, truthB, ite_and, ite_or, Bool.true_and, Bool.false_and, Bool.and_true, Bool.and_false, Bool.true_or, Bool.false_or, Bool.or_true, Bool.or_false, lim_if, lim_if2, shal_int, shal_bl, shal_str, shal_non, decide_true, decide_false, setAll, bindTg, bindOk, bindExc, ofSome, List.map_cons, List.map_nil, List.length_cons, List.length_nil, List.cons_append, List.nil_append, List.append_nil, List.replicate, List.getElem?_cons_zero, List.getElem?_cons_succ, List.set_cons_zero, List.set_cons_succ, Nat.reduceAdd, Nat.reduceSub, isI_int, isB_int, if_true, if_false, Bool.false_eq_true, Bool.not_true, Bool.not_false, b_number_of_2, Int.ofNat_lt]
    · have i2 := idxInts (l := iterW (nearL rs) (n - 1 - i)) (i := a) (by rw [iterW_length, nearL_length]; exact hb a ha)
      simp (disch := omega) only [run_eq, evSs_cons, evSs_nil, evS_par, evS_asg, evS_asgT, evS_asgR, evS_app, evS_ext, evS_ite, evS_for, evS_ret, evS_raise, evS_expr, evS_pass, ev_bin, ev_var, ev_lit, ev_cmp, ev_chn, ev_isN, ev_notN, ev_and, ev_or, ev_not, ev_ite, ev_call, ev_prim, ev_meth, ev_rev, ev_idx, ev_slc, ev_lst, ev_tup, ev_comp, ev_neg, evs_cons, evs_nil, evO_none, evO_some, evC_none, evC_some, evI_seq, evI_rng1, evI_rng2, evI_enm, evI_zip, partI, then_ok, nx_then, rt_then, ex_then, addI, subI, mulI, fdivI, modI, ltI, leI, gtI, geI, eqI, truthB, ite_and, ite_or, Bool.true_and, Bool.false_and, Bool.and_true, Bool.and_false, Bool.true_or, Bool.false_or, Bool.or_true, Bool.or_false, lim_if, lim_if2, shal_int, shal_bl, shal_str, shal_non, decide_true, decide_false, setAll, bindTg, bindOk, bindExc, ofSome, List.map_cons, List.map_nil, List.length_cons, List.length_nil, List.cons_append, List.nil_append, List.append_nil, List.replicate, List.getElem?_cons_zero, List.getElem?_cons_succ, List.set_cons_zero, List.set_cons_succ, Nat.reduceAdd, Nat.reduceSub, isI_int, isB_int, if_true, if_false, Bool.false_eq_true, Bool.not_true, Bool.not_false, b_number_of_1, l1, i1, i2]
      rfl
  have c1 : ev (.comp b_number_of_1 (.nm 10) (.seq (.var 6)) (.some b_number_of_2) [10]) [a0, some (.lst f), some (dRows rs), some (dNear (nearL rs)), some (.lst ((List.range n).map fun i => dInts (iterW (nearL rs) i))), some (.int found), some (dNats free), some (.int (i : Int)), some (.str (rs.getD j [])), some (.int (j : Int)), a10] = .ok (.lst (((free.filter (· < j)).map fun a => wayAt (nearL rs) (n - 1 - i) a).map D.int)) := c1
  have q1 := evS_augI 5 (.prim .sum (.cons (.comp b_number_of_1 (.nm 10) (.seq (.var 6)) (.some b_number_of_2) [10]) .nil)) [a0, some (.lst f), some (dRows rs), some (dNear (nearL rs)), some (.lst ((List.range n).map fun i => dInts (iterW (nearL rs) i))), some (.int found), some (dNats free), some (.int (i : Int)), some (.str (rs.getD j [])), some (.int (j : Int)), a10] found (tot (wayAt (nearL rs) (n - 1 - i)) (free.filter (· < j))) rfl (by
    simp only [run_eq, evSs_cons, evSs_nil, evS_par, evS_asg, evS_asgT, evS_asgR, evS_app, evS_ext, evS_ite, evS_for, evS_ret, evS_raise, evS_expr, evS_pass, ev_bin, ev_var, ev_lit, ev_cmp, ev_chn, ev_isN, ev_notN, ev_and, ev_or, ev_not, ev_ite, ev_call, ev_prim, ev_meth, ev_rev, ev_idx, ev_slc, ev_lst, ev_tup, ev_comp, ev_neg, evs_cons, evs_nil, evO_none, evO_some, evC_none, evC_some, evI_seq, evI_rng1, evI_rng2, evI_enm, evI_zip, partI, then_ok, nx_then, rt_then, ex_then, addI, subI, mulI, fdivI, modI, ltI, leI, gtI, geI, eqI, truthB, ite_and, ite_or, Bool.true_and, Bool.false_and, Bool.and_true, Bool.and_false, Bool.true_or, Bool.false_or, Bool.or_true, Bool.or_false, lim_if, lim_if2, shal_int, shal_bl, shal_str, shal_non, decide_true, decide_false, setAll, bindTg, bindOk, bindExc, ofSome, List.map_cons, List.map_nil, List.length_cons, List.length_nil, List.cons_append, List.nil_append, List.append_nil, List.replicate, List.getElem?_cons_zero, List.getElem?_cons_succ, List.set_cons_zero, List.set_cons_succ, Nat.reduceAdd, Nat.reduceSub, isI_int, isB_int, if_true, if_false, Bool.false_eq_true, Bool.not_true, Bool.not_false, ↓c1, sumI]
    rfl)
  have rv : recvOk .index (dRows rs) = true := rfl
  refine ⟨some (.int (j : Int)), a10, ?_⟩
  simp only [run_eq, evSs_cons, evSs_nil, evS_par, evS_asg, evS_asgT, evS_asgR, evS_app, evS_ext, evS_ite, evS_for, evS_ret, evS_raise, evS_expr, evS_pass, ev_bin, ev_var, ev_lit, ev_cmp, ev_chn, ev_isN, ev_notN, ev_and, ev_or, ev_not, ev_ite, ev_call, ev_prim, ev_meth, ev_rev, ev_idx, ev_slc, ev_lst, ev_tup, ev_comp, ev_neg, evs_cons, evs_nil, evO_none, evO_some, evC_none, evC_some, evI_seq, evI_rng1, evI_rng2, evI_enm, evI_zip, partI, then_ok, nx_then, rt_then, ex_then, addI, subI, mulI, fdivI, modI, ltI, leI, gtI, geI, eqI, truthB, ite_and, ite_or, Bool.true_and, Bool.false_and, Bool.and_true, Bool.and_false, Bool.true_or, Bool.false_or, Bool.or_true, Bool.or_false, lim_if, lim_if2, shal_int, shal_bl, shal_str, shal_non, decide_true, decide_false, setAll, bindTg, bindOk, bindExc, ofSome, List.map_cons, List.map_nil, List.length_cons, List.length_nil, List.cons_append, List.nil_append, List.append_nil, List.replicate, List.getElem?_cons_zero, List.getElem?_cons_succ, List.set_cons_zero, List.set_cons_succ, Nat.reduceAdd, Nat.reduceSub, isI_int, isB_int, if_true, if_false, Bool.false_eq_true, Bool.not_true, Bool.not_false, b_number_of_3, rv, i0, q1, i3]
end Dn
namespace Dn
open Hue
def atRows (rs : List (List Nat)) (p : List Nat) : List (List Nat) := p.map fun j => rs.getD j []
theorem rowsL_hue {h w : Nat} (k : Kd h w) : ∀ r ∈ rowsL h w, ∀ c ∈ r, c ∈ signs h := by
  refine k.cases (P := fun h w => ∀ r ∈ rowsL h w, ∀ c ∈ r, c ∈ signs h) ?_ ?_ ?_ ?_ ?_ ?_ ?_ <;> decide +kernel
theorem atRows_flr {h w n : Nat} (k : Kd h w) {p : List Nat} (hp : p.length = n) (hb : ∀ j ∈ p, j < (rowsL h w).length) : Flr h w n (atRows (rowsL h w) p) := by
  have key : ∀ r ∈ atRows (rowsL h w) p, r ∈ rowsL h w := fun r hr => by
    obtain ⟨j, hj, rfl⟩ := List.mem_map.mp hr
    have := hb j hj
    rw [List.getD_eq_getElem?_getD, List.getElem?_eq_getElem this]
    exact List.getElem_mem ..
  exact ⟨by unfold atRows; rw [List.length_map, hp], fun r hr => rowsL_width (key r hr), fun r hr => rowsL_hue k r (key r hr)⟩
theorem enmR (l : List D) : enmF (.lst l) = .ok (enmL 0 l) := rfl
theorem number_of_ok {h w n : Nat} (k : Kd h w) (hn : 1 ≤ n ∧ n ≤ 8) {p : List Nat} (hp : p.length = n) (hb : ∀ j ∈ p, j < (rowsL h w).length) (hlv : livelyL (atRows (rowsL h w) p) = true) : den_number_of [.int h, dRows (atRows (rowsL h w) p)] = .ok (.int (numL (nearL (rowsL h w)) p (List.range (rowsL h w).length))) := by
  have F := atRows_flr k hp hb
  obtain ⟨n, rfl⟩ : ∃ n', n = n' + 1 := ⟨n - 1, by omega⟩
  obtain ⟨r0, e0, l0⟩ := F.first hn.1
  have hr := rows_ok k
  have hne := near_ok (rs := rowsL h w) (w := w) (fun r hr => rowsL_width hr) (by unfold Kd at k; omega)
  have hwy := ways_ok (nearL_ok (rowsL h w)) n (by omega)
  have hlen := rowsL_short k
  have hcl := check_lively_ok k hn F hlv
  have hdp := rows_nodup k
  have l1 : primF .len [dRows (rowsL h w)] = .ok (.int ((rowsL h w).length : Int)) := by
    unfold dRows
    rw [lenL, List.length_map]
  have l2 := lrng (j := ((rowsL h w).length : Int)) rfl (by omega)
  have l3 : primF .len [dRows (atRows (rowsL h w) p)] = .ok (.int ((n + 1 : Nat) : Int)) := by
    unfold dRows
    rw [lenL, List.length_map, F.high]
  generalize hrs : rowsL h w = rs at *
  have items : enmF (dRows (atRows rs p)) = .ok (((atRows rs p).zipIdx 0).map fun q => .tup [.int (q.2 : Int), .str q.1]) := by
    unfold dRows
    rw [enmR, enmL_map]
  have key := forL_inv0 (f := evSs b_number_of_3) (tg := .tp [7, 8]) (items := ((atRows rs p).zipIdx 0).map fun q => .tup [.int (q.2 : Int), .str q.1])
    (fun i e => ∃ (found : Int) (free : List Nat) (u7 u8 u9 u10 : Option D), e = [some (.int (h : Int)), some (.lst ((atRows rs p).map D.str)), some (dRows rs), some (dNear (nearL rs)), some (.lst ((List.range (n + 1)).map fun i => dInts (iterW (nearL rs) i))), some (.int found), some (dNats free), u7, u8, u9, u10] ∧ (∀ x ∈ free, x < rs.length) ∧ numL (nearL rs) p (List.range rs.length) = found + numL (nearL rs) (p.drop i) free)
    (e := [some (.int (h : Int)), some (.lst ((atRows rs p).map D.str)), some (dRows rs), some (dNear (nearL rs)), some (.lst ((List.range (n + 1)).map fun i => dInts (iterW (nearL rs) i))), some (.int 0), some (dNats (List.range rs.length)), none, none, none, none])
    ⟨0, List.range rs.length, none, none, none, none, rfl, (fun x hx => List.mem_range.mp hx), by rw [List.drop_zero]; omega⟩ fun i d e hd hq => by
      obtain ⟨found, free, u7, u8, u9, u10, rfl, hbd, hnum⟩ := hq
      have hi : i < p.length := by
        have := (List.getElem?_eq_some_iff.mp hd).1
        simpa [atRows] using this
      have hd : d = .tup [.int (i : Int), .str (rs.getD p[i] [])] := by
        have : (((atRows rs p).zipIdx 0).map fun q => D.tup [.int (q.2 : Int), .str q.1])[i]? = some (.tup [.int (i : Int), .str (rs.getD p[i] [])]) := by
          simp [atRows, List.getElem?_eq_getElem hi]
        rw [this] at hd
        exact (Option.some.inj hd).symm
      subst hd
      have hj := hb p[i] (List.getElem_mem ..)
      obtain ⟨w9, w10, hb3⟩ := num_turn hdp (n := n + 1) (i := i) (by omega) (by omega) hbd hj (f := (atRows rs p).map D.str) (by rw [List.length_map, F.high]) found (some (.int (h : Int))) u9 u10
      have hnr := (near_getD (nearL_fine rs) p[i]).2
      rw [nearL_length] at hnr
      refine ⟨_, _, rfl, hb3, found + tot (wayAt (nearL rs) (n + 1 - 1 - i)) (free.filter (· < p[i])), (nearL rs).getD p[i] [], some (.int (i : Int)), some (.str (rs.getD p[i] [])), w9, w10, rfl, hnr, ?_⟩
      rw [hnum, List.drop_eq_getElem_cons hi, numL, List.length_drop, hp, show n + 1 - (i + 1) = n + 1 - 1 - i by omega]
      omega
  obtain ⟨e', k1, found, free, u7, u8, u9, u10, rfl, hbd, hnum⟩ := key
  have hz : (((atRows rs p).zipIdx 0).map fun q => D.tup [.int (q.2 : Int), .str q.1]).length = p.length := by simp [atRows]
  rw [hz, List.drop_length] at hnum
  have hnum : numL (nearL rs) p (List.range rs.length) = found := by rw [hnum]; show found + 0 = found; omega
  rw [hnum]
  have i0 : idxF (dRows (atRows rs p)) (.int 0) = .ok (.str r0) := e0
  have lw : ((r0.length : Nat) : Int) = (w : Int) := by rw [l0]
  have eR : dRows (atRows rs p) = .lst ((atRows rs p).map D.str) := rfl
  rw [← eR] at k1
  simp (disch := omega) only [run_eq, evSs_cons, evSs_nil, evS_par, evS_asg, evS_asgT, evS_asgR, evS_app, evS_ext, evS_ite, evS_for, evS_ret, evS_raise, evS_expr, evS_pass, ev_bin, ev_var, ev_lit, ev_cmp, ev_chn, ev_isN, ev_notN, ev_and, ev_or, ev_not, ev_ite, ev_call, ev_prim, ev_meth, ev_rev, ev_idx, ev_slc, ev_lst, ev_tup, ev_comp, ev_neg, evs_cons, evs_nil, evO_none, evO_some, evC_none, evC_some, evI_seq, evI_rng1, evI_rng2, evI_enm, evI_zip, partI, then_ok, nx_then, rt_then, ex_then, addI, subI, mulI, fdivI, modI, ltI, leI, gtI, geI, eqI, truthB, ite_and, ite_or, Bool.true_and, Bool.false_and, Bool.and_true, Bool.and_false, Bool.true_or, Bool.false_or, Bool.or_true, Bool.or_false, lim_if, lim_if2, shal_int, shal_bl, shal_str, shal_non, decide_true, decide_false, setAll, bindTg, bindOk, bindExc, ofSome, List.map_cons, List.map_nil, List.length_cons, List.length_nil, List.cons_append, List.nil_append, List.append_nil, List.replicate, List.getElem?_cons_zero, List.getElem?_cons_succ, List.set_cons_zero, List.set_cons_succ, Nat.reduceAdd, Nat.reduceSub, isI_int, isB_int, if_true, if_false, Bool.false_eq_true, Bool.not_true, Bool.not_false, den_number_of, b_number_of, hcl, i0, lenS, lw, hr, hne, l3, hwy, l1, l2, items, k1]
end Dn
namespace Dn
open Hue
theorem near_mem {rs : List (List Nat)} {i j : Nat} (h : i ∈ (nearL rs).getD j []) : gt (rs.getD j []) (rs.getD i []) = true := by
  by_cases hj : j < rs.length
  · have e : (nearL rs).getD j [] = ((rs.zipIdx).filter fun p => gt rs[j] p.1).map (·.2) := by
      unfold nearL
      rw [List.getD_eq_getElem?_getD, List.getElem?_map, List.getElem?_eq_getElem hj]
      rfl
    rw [e] at h
    obtain ⟨q, hq, rfl⟩ := List.mem_map.mp h
    obtain ⟨q1, q2⟩ := List.mem_filter.mp hq
    have e2 : rs.getD j [] = rs[j] := by simp [List.getElem?_eq_getElem hj]
    have e3 : rs.getD q.2 [] = q.1 := by
      have := List.mem_zipIdx_iff_getElem?.mp q1
      simp [this]
    rw [e2, e3]
    exact q2
  · have e : (nearL rs).getD j [] = [] := by
      rw [List.getD_eq_getElem?_getD, List.getElem?_eq_none (by rw [nearL_length]; omega)]
      rfl
    rw [e] at h
    cases h
theorem path_lt {near : List (List Nat)} (N : NearFine near) : ∀ {p free : List Nat}, pathL near p free → (∀ x ∈ free, x < near.length) → ∀ j ∈ p, j < near.length
  | [], _, _, _, j, hj => by cases hj
  | a :: p, free, hp, hb, j, hj => by
    rcases List.mem_cons.mp hj with rfl | hj
    · exact hb _ hp.1
    · exact path_lt N hp.2 (near_getD N a).2 j hj
theorem path_lively {rs : List (List Nat)} : ∀ {p free : List Nat}, pathL (nearL rs) p free → livelyL (atRows rs p) = true
  | [], _, _ => rfl
  | [a], _, _ => rfl
  | a :: b :: p, free, hp => by
    have h1 : gt (rs.getD a []) (rs.getD b []) = true := near_mem hp.2.1
    have h2 := path_lively (p := b :: p) hp.2
    show (gt (rs.getD a []) (rs.getD b []) && livelyL (atRows rs (b :: p))) = true
    rw [h1, h2]
    rfl
structure Made (h w n : Nat) (m : Int) : Prop where
  flr : Flr h w n (floorL h w n m)
  live : livelyL (floorL h w n m) = true
  num : den_number_of [.int h, dRows (floorL h w n m)] = .ok (.int m)
theorem made {h w n : Nat} (k : Kd h w) (hn : 1 ≤ n ∧ n ≤ 8) {m : Int} (h0 : 0 ≤ m) (hm : m < countL h w n) : Made h w n m := by
  obtain ⟨n, rfl⟩ : ∃ n', n = n' + 1 := ⟨n - 1, by omega⟩
  have ht := sum_tot (nearL (rowsL h w)) n
  have sc : (iterW (nearL (rowsL h w)) n).sum = countL h w (n + 1) := rfl
  rw [sc, nearL_length] at ht
  rw [ht] at hm
  have hbb : ∀ x ∈ List.range (rowsL h w).length, x < (nearL (rowsL h w)).length := fun x hx => by rw [nearL_length]; exact List.mem_range.mp hx
  obtain ⟨p1, p2⟩ := fl_ok (nearL_fine (rowsL h w)) (List.pairwise_lt_range ..) hbb h0 hm
  have hb := path_lt (nearL_fine (rowsL h w)) p1 hbb
  rw [nearL_length] at hb
  have hl := path_lively p1
  have hln := fl_length (nearL (rowsL h w)) (n + 1) (List.range (rowsL h w).length) m
  have hno := number_of_ok k hn hln hb hl
  rw [p2] at hno
  exact ⟨atRows_flr k hln hb, hl, hno⟩
theorem next_ok {h w n : Nat} (k : Kd h w) (hn : 1 ≤ n ∧ n ≤ 8) {m : Int} (h0 : 0 ≤ m) (hm : m < countL h w n) : den_next_one [.int h, dRows (floorL h w n m)] = .ok (if m + 1 < countL h w n then dRows (floorL h w n (m + 1)) else .non) := by
  have M := made k hn h0 hm
  obtain ⟨r0, e0, l0⟩ := M.flr.first hn.1
  have i0 : idxF (dRows (floorL h w n m)) (.int 0) = .ok (.str r0) := e0
  have l3 : primF .len [dRows (floorL h w n m)] = .ok (.int (n : Int)) := by
    unfold dRows
    rw [lenL, List.length_map, M.flr.high]
  have lw : ((r0.length : Nat) : Int) = (w : Int) := by rw [l0]
  have f := floor_of_ok k hn (m := m + 1) (by omega)
  have hnum := M.num
  simp (disch := omega) only [run_eq, evSs_cons, evSs_nil, evS_par, evS_asg, evS_asgT, evS_asgR, evS_app, evS_ext, evS_ite, evS_for, evS_ret, evS_raise, evS_expr, evS_pass, ev_bin, ev_var, ev_lit, ev_cmp, ev_chn, ev_isN, ev_notN, ev_and, ev_or, ev_not, ev_ite, ev_call, ev_prim, ev_meth, ev_rev, ev_idx, ev_slc, ev_lst, ev_tup, ev_comp, ev_neg, evs_cons, evs_nil, evO_none, evO_some, evC_none, evC_some, evI_seq, evI_rng1, evI_rng2, evI_enm, evI_zip, partI, then_ok, nx_then, rt_then, ex_then, addI, subI, mulI, fdivI, modI, ltI, leI, gtI, geI, eqI, truthB, ite_and, ite_or, Bool.true_and, Bool.false_and, Bool.and_true, Bool.and_false, Bool.true_or, Bool.false_or, Bool.or_true, Bool.or_false, lim_if, lim_if2, shal_int, shal_bl, shal_str, shal_non, decide_true, decide_false, setAll, bindTg, bindOk, bindExc, ofSome, List.map_cons, List.map_nil, List.length_cons, List.length_nil, List.cons_append, List.nil_append, List.append_nil, List.replicate, List.getElem?_cons_zero, List.getElem?_cons_succ, List.set_cons_zero, List.set_cons_succ, Nat.reduceAdd, Nat.reduceSub, isI_int, isB_int, if_true, if_false, Bool.false_eq_true, Bool.not_true, Bool.not_false, den_next_one, b_next_one, hnum, i0, lenS, lw, l3, f]
end Dn
namespace Dn
open Hue
/-! ### k03 -/
theorem listL (l : List D) : primF .list [.lst l] = .ok (.lst l) := rfl
theorem allFlat_map (l : List (List Nat)) : allFlat (l.map D.str) = true := by
  unfold allFlat
  rw [List.all_map]
  exact List.all_eq_true.mpr fun _ _ => rfl
theorem shal_rows (l : List (List Nat)) : shal true (.lst (l.map D.str)) = true := by
  show (true && allFlat (l.map D.str)) = true
  rw [allFlat_map]
  rfl
theorem pairs_ne (a b : List (Nat × Nat)) : cmpF .ne (.lst (a.map dPair)) (.lst (b.map dPair)) = .ok (.bl (!decide (a = b))) := inj_pair.lst.ne (by omega) (fun _ _ => trivial) (fun _ _ => trivial)
theorem pairs_len (n w : Nat) (f : List (List Nat)) : (((plainL n w f).map dPair).length : Int) = (many n w f : Int) := by rw [List.length_map, plain_len]
theorem k03_turn {h w n a b : Nat} {f g : List (List Nat)} (kw : Kd h w) (kn : Kd h n) (ka : Kd h a) (kb : Kd h b) (F : Flr h w n f) (G : Flr h a b g) (M : Nat) (hM : many b a g = M) (t : Nat) (ht : t = 0 → a = w ∧ g = f) (O HD T z : Option D) :
    evSs b_l_one_right_k03_2 [some (.int (h : Int)), some (.lst (f.map D.str)), O, HD, some (.int (M : Int)), T, some (.lst (g.map D.str)), some (.int (t : Int)), z] = .nx [some (.int (h : Int)), some (.lst (f.map D.str)), O, HD, some (.int (M : Int)), T, some (.lst ((turnL a g).map D.str)), some (.int (t : Int)), z] := by
  have t1 : den_turned [.int (h : Int), .lst (g.map D.str)] = .ok (.lst ((turnL a g).map D.str)) := turned_ok ka kb G
  have hb : 1 ≤ a ∧ a ≤ 8 := by unfold Kd at ka; omega
  have p1 : den_plain [.int (h : Int), .lst ((turnL a g).map D.str)] = .ok (.lst ((plainL a b (turnL a g)).map dPair)) := plain_ok kb hb G.turn
  have m1 := pairs_len a b (turnL a g)
  rw [many_turn G, hM] at m1
  have l1 : den_l_turned [.lst (f.map D.str)] = .ok (.lst ((turnL w f).map D.str)) := l_turned_ok (by unfold Kd at kn; omega) (by unfold Kd at kw; omega) F
  have n1 : cmpF .ne (.lst ((turnL a g).map D.str)) (.lst ((turnL w f).map D.str)) = .ok (.bl (!decide (turnL a g = turnL w f))) := rows_ne G.turn.ok F.turn.ok
  have tt : (((t : Int) == 0) && !decide (turnL a g = turnL w f)) = false := by
    by_cases h0 : t = 0
    · obtain ⟨rfl, rfl⟩ := ht h0
      simp
    · have : ((t : Int) == 0) = false := by
        rw [beq_eq_false_iff_ne]
        omega
      rw [this]
      rfl
  simp only [run_eq, evSs_cons, evSs_nil, evS_par, evS_asg, evS_asgT, evS_asgR, evS_app, evS_ext, evS_ite, evS_for, evS_ret, evS_raise, evS_expr, evS_pass, ev_bin, ev_var, ev_lit, ev_cmp, ev_chn, ev_isN, ev_notN, ev_and, ev_or, ev_not, ev_ite, ev_call, ev_prim, ev_meth, ev_rev, ev_idx, ev_slc, ev_lst, ev_tup, ev_comp, ev_neg, evs_cons, evs_nil, evO_none, evO_some, evC_none, evC_some, evI_seq, evI_rng1, evI_rng2, evI_enm, evI_zip, partI, then_ok, nx_then, rt_then, ex_then, addI, subI, mulI, fdivI, modI, ltI, leI, gtI, geI, eqI, truthB, ite_and, ite_or, Bool.true_and, Bool.false_and, Bool.and_true, Bool.and_false, Bool.true_or, Bool.false_or, Bool.or_true, Bool.or_false, lim_if, lim_if2, shal_int, shal_bl, shal_str, shal_non, decide_true, decide_false, setAll, bindTg, bindOk, bindExc, ofSome, List.map_cons, List.map_nil, List.length_cons, List.length_nil, List.cons_append, List.nil_append, List.append_nil, List.replicate, List.getElem?_cons_zero, List.getElem?_cons_succ, List.set_cons_zero, List.set_cons_succ, Nat.reduceAdd, Nat.reduceSub, isI_int, isB_int, if_true, if_false, Bool.false_eq_true, Bool.not_true, Bool.not_false, b_l_one_right_k03_2, t1, shal_rows, l1, n1, p1, lenL, m1, neI', tt]
theorem one_right_ok {h w n : Nat} {f : List (List Nat)} {o : List Nat} (k : Kd h w) (hn : 1 ≤ n ∧ n ≤ 4) (F : Flr h w n f) (ho : o ∈ orders h) : den_l_one_right_k03 [.int (h : Int), dRows f, dNats o] = .ok (.bl true) := by
  have hh : h = 2 ∨ h = 3 := by unfold Kd at k; omega
  have hn8 : 1 ≤ n ∧ n ≤ 8 := by omega
  have hw : 1 ≤ w ∧ w ≤ 4 := by unfold Kd at k; omega
  have e : dRows f = .lst (f.map D.str) := rfl
  have f1 : den_l_plain [.lst (f.map D.str)] = .ok (.lst ((plainL n w f).map dPair)) := l_plain_ok hn8 hw F
  have f2 : den_plain [.int (h : Int), .lst (f.map D.str)] = .ok (.lst ((plainL n w f).map dPair)) := plain_ok k hn8 F
  have f3 : den_mirrored [.int (h : Int), .lst (f.map D.str)] = .ok (.lst ((f.map List.reverse).map D.str)) := mirrored_ok k hn8 F
  have f4 : den_exchanged [.int (h : Int), .lst (f.map D.str), dNats o] = .ok (.lst ((exL o f).map D.str)) := exchanged_ok k hn8 F ho
  have f5 : den_l_exchanged [.lst (f.map D.str), dNats o] = .ok (.lst ((exL o f).map D.str)) := l_exchanged_ok hh hw.2 F ho
  have f6 : den_plain [.int (h : Int), .lst ((f.map List.reverse).map D.str)] = .ok (.lst ((plainL n w (f.map List.reverse)).map dPair)) := plain_ok k hn8 F.mirror
  have f7 : den_plain [.int (h : Int), .lst ((exL o f).map D.str)] = .ok (.lst ((plainL n w (exL o f)).map dPair)) := plain_ok k hn8 (F.ex hh ho)
  have f8 : den_mirrored [.int (h : Int), .lst ((f.map List.reverse).map D.str)] = .ok (.lst (((f.map List.reverse).map List.reverse).map D.str)) := mirrored_ok k hn8 F.mirror
  have rr : (f.map List.reverse).map List.reverse = f := by
    rw [List.map_map]
    conv => rhs; rw [← List.map_id f]
    exact List.map_congr_left fun x _ => by simp
  rw [rr] at f8
  have m0 := pairs_len n w f
  have m1 := pairs_len n w (f.map List.reverse)
  rw [many_mirror F] at m1
  have m2 := pairs_len n w (exL o f)
  rw [many_ex hh ho F] at m2
  have c1 : ev (.comp b_l_one_right_k03_1 (.nm 8) (.seq (.var 1)) .none [8]) [some (.int (h : Int)), some (.lst (f.map D.str)), some (dNats o), some (.lst (f.map D.str)), some (.int (many n w f : Int)), none, none, none, none] = .ok (.lst ((f.map List.reverse).map D.str)) := by
    simp only [run_eq, evSs_cons, evSs_nil, evS_par, evS_asg, evS_asgT, evS_asgR, evS_app, evS_ext, evS_ite, evS_for, evS_ret, evS_raise, evS_expr, evS_pass, ev_bin, ev_var, ev_lit, ev_cmp, ev_chn, ev_isN, ev_notN, ev_and, ev_or, ev_not, ev_ite, ev_call, ev_prim, ev_meth, ev_rev, ev_idx, ev_slc, ev_lst, ev_tup, ev_comp, ev_neg, evs_cons, evs_nil, evO_none, evO_some, evC_none, evC_some, evI_seq, evI_rng1, evI_rng2, evI_enm, evI_zip, partI, then_ok, nx_then, rt_then, ex_then, addI, subI, mulI, fdivI, modI, ltI, leI, gtI, geI, eqI, truthB, ite_and, ite_or, Bool.true_and, Bool.false_and, Bool.and_true, Bool.and_false, Bool.true_or, Bool.false_or, Bool.or_true, Bool.or_false, lim_if, lim_if2, shal_int, shal_bl, shal_str, shal_non, decide_true, decide_false, setAll, bindTg, bindOk, bindExc, ofSome, List.map_cons, List.map_nil, List.length_cons, List.length_nil, List.cons_append, List.nil_append, List.append_nil, List.replicate, List.getElem?_cons_zero, List.getElem?_cons_succ, List.set_cons_zero, List.set_cons_succ, Nat.reduceAdd, Nat.reduceSub, isI_int, isB_int, if_true, if_false, Bool.false_eq_true, Bool.not_true, Bool.not_false, seqL, wipeE]
    rw [compA (g := fun r => .str r.reverse) fun r hr => ⟨_, rfl, rfl, ?_⟩]
    · simp only [run_eq, evSs_cons, evSs_nil, evS_par, evS_asg, evS_asgT, evS_asgR, evS_app, evS_ext, evS_ite, evS_for, evS_ret, evS_raise, evS_expr, evS_pass, ev_bin, ev_var, ev_lit, ev_cmp, ev_chn, ev_isN, ev_notN, ev_and, ev_or, ev_not, ev_ite, ev_call, ev_prim, ev_meth, ev_rev, ev_idx, ev_slc, ev_lst, ev_tup, ev_comp, ev_neg, evs_cons, evs_nil, evO_none, evO_some, evC_none, evC_some, evI_seq, evI_rng1, evI_rng2, evI_enm, evI_zip, partI, then_ok, nx_then, rt_then, ex_then, addI, subI, mulI, fdivI, modI, ltI, leI, gtI, geI, eqI, truthB, ite_and, ite_or, Bool.true_and, Bool.false_and, Bool.and_true, Bool.and_false, Bool.true_or, Bool.false_or, Bool.or_true, Bool.or_false, lim_if, lim_if2, shal_int, shal_bl, shal_str, shal_non, decide_true, decide_false, setAll, bindTg, bindOk, bindExc, ofSome, List.map_cons, List.map_nil, List.length_cons, List.length_nil, List.cons_append, List.nil_append, List.append_nil, List.replicate, List.getElem?_cons_zero, List.getElem?_cons_succ, List.set_cons_zero, List.set_cons_succ, Nat.reduceAdd, Nat.reduceSub, isI_int, isB_int, if_true, if_false, Bool.false_eq_true, Bool.not_true, Bool.not_false, noExc_ok, List.map_map, Function.comp_def]
    · simp only [run_eq, evSs_cons, evSs_nil, evS_par, evS_asg, evS_asgT, evS_asgR, evS_app, evS_ext, evS_ite, evS_for, evS_ret, evS_raise, evS_expr, evS_pass, ev_bin, ev_var, ev_lit, ev_cmp, ev_chn, ev_isN, ev_notN, ev_and, ev_or, ev_not, ev_ite, ev_call, ev_prim, ev_meth, ev_rev, ev_idx, ev_slc, ev_lst, ev_tup, ev_comp, ev_neg, evs_cons, evs_nil, evO_none, evO_some, evC_none, evC_some, evI_seq, evI_rng1, evI_rng2, evI_enm, evI_zip, partI, then_ok, nx_then, rt_then, ex_then, addI, subI, mulI, fdivI, modI, ltI, leI, gtI, geI, eqI, truthB, ite_and, ite_or, Bool.true_and, Bool.false_and, Bool.and_true, Bool.and_false, Bool.true_or, Bool.false_or, Bool.or_true, Bool.or_false, lim_if, lim_if2, shal_int, shal_bl, shal_str, shal_non, decide_true, decide_false, setAll, bindTg, bindOk, bindExc, ofSome, List.map_cons, List.map_nil, List.length_cons, List.length_nil, List.cons_append, List.nil_append, List.append_nil, List.replicate, List.getElem?_cons_zero, List.getElem?_cons_succ, List.set_cons_zero, List.set_cons_succ, Nat.reduceAdd, Nat.reduceSub, isI_int, isB_int, if_true, if_false, Bool.false_eq_true, Bool.not_true, Bool.not_false, b_l_one_right_k03_1, revF]
  have n1 : cmpF .ne (.lst ((f.map List.reverse).map D.str)) (.lst ((f.map List.reverse).map D.str)) = .ok (.bl (!decide (f.map List.reverse = f.map List.reverse))) := rows_ne F.mirror.ok F.mirror.ok
  have n2 : cmpF .ne (.lst ((exL o f).map D.str)) (.lst ((exL o f).map D.str)) = .ok (.bl (!decide (exL o f = exL o f))) := rows_ne (F.ex hh ho).ok (F.ex hh ho).ok
  have n3 : cmpF .ne (.lst (f.map D.str)) (.lst (f.map D.str)) = .ok (.bl (!decide (f = f))) := rows_ne F.ok F.ok
  have hl : ((f.map D.str).length : Int) = n := by rw [List.length_map, F.high]
  have hl2 : ((f.map List.reverse).map D.str).length < 10000000 := by rw [List.length_map, List.length_map, F.high]; omega
  rw [e]
  by_cases kn : Kd h n
  · have g1 : decide ((n : Int) ≤ wideOf (h : Int)) = true := decide_eq_true kn.wide.2
    obtain ⟨M, hM⟩ : ∃ M, M = many n w f := ⟨_, rfl⟩
    rw [← hM] at m0 m1 m2 c1
    have F1 := F.turn
    have F2 := F1.turn
    have F3 := F2.turn
    have q0 := fun O HD T z => k03_turn k kn k kn F F M hM.symm 0 (fun _ => ⟨rfl, rfl⟩) O HD T z
    have q1 := fun O HD T z => k03_turn k kn kn k F F1 M (by rw [many_turn F, hM]) 1 (fun z => by omega) O HD T z
    have q2 := fun O HD T z => k03_turn k kn k kn F F2 M (by rw [many_turn F1, many_turn F, hM]) 2 (fun z => by omega) O HD T z
    have q3 := fun O HD T z => k03_turn k kn kn k F F3 M (by rw [many_turn F2, many_turn F1, many_turn F, hM]) 3 (fun z => by omega) O HD T z
    rw [turn4 F] at q3
    have loop : ∀ O HD T z y, forL (evSs b_l_one_right_k03_2) (.nm 7) (rangeL 0 4 1) [some (.int (h : Int)), some (.lst (f.map D.str)), O, HD, some (.int (M : Int)), T, some (.lst (f.map D.str)), y, z] = .nx [some (.int (h : Int)), some (.lst (f.map D.str)), O, HD, some (.int (M : Int)), T, some (.lst (f.map D.str)), some (.int 3), z] := fun O HD T z y => by
      have e4 : rangeL 0 4 1 = [.int ((0 : Nat) : Int), .int ((1 : Nat) : Int), .int ((2 : Nat) : Int), .int ((3 : Nat) : Int)] := rfl
      rw [e4]
      simp only [forL, bindTg, List.set_cons_zero, List.set_cons_succ, q0, q1, q2, q3]
      rfl
    have hr : rng1F (.int 4) = .ok (rangeL 0 4 1) := rngNat (n := 4) rfl (by omega)
    simp (disch := first | exact hl2 | omega) only [run_eq, evSs_cons, evSs_nil, evS_par, evS_asg, evS_asgT, evS_asgR, evS_app, evS_ext, evS_ite, evS_for, evS_ret, evS_raise, evS_expr, evS_pass, ev_bin, ev_var, ev_lit, ev_cmp, ev_chn, ev_isN, ev_notN, ev_and, ev_or, ev_not, ev_ite, ev_call, ev_prim, ev_meth, ev_rev, ev_idx, ev_slc, ev_lst, ev_tup, ev_comp, ev_neg, evs_cons, evs_nil, evO_none, evO_some, evC_none, evC_some, evI_seq, evI_rng1, evI_rng2, evI_enm, evI_zip, partI, then_ok, nx_then, rt_then, ex_then, addI, subI, mulI, fdivI, modI, ltI, leI, gtI, geI, eqI, truthB, ite_and, ite_or, Bool.true_and, Bool.false_and, Bool.and_true, Bool.and_false, Bool.true_or, Bool.false_or, Bool.or_true, Bool.or_false, lim_if, lim_if2, shal_int, shal_bl, shal_str, shal_non, decide_true, decide_false, setAll, bindTg, bindOk, bindExc, ofSome, List.map_cons, List.map_nil, List.length_cons, List.length_nil, List.cons_append, List.nil_append, List.append_nil, List.replicate, List.getElem?_cons_zero, List.getElem?_cons_succ, List.set_cons_zero, List.set_cons_succ, Nat.reduceAdd, Nat.reduceSub, isI_int, isB_int, if_true, if_false, Bool.false_eq_true, Bool.not_true, Bool.not_false, den_l_one_right_k03, b_l_one_right_k03, listL, f1, lenL, m0, f2, f3, ↓c1, pairs_ne, n1, f4, f5, n2, n3, f6, m1, f7, m2, neI', lstAt, f8, hl, wide_if, g1, hr, loop]
  · have g1 : decide ((n : Int) ≤ wideOf (h : Int)) = false := decide_eq_false fun z => kn (by
      unfold wideOf at z
      unfold Kd
      rcases hh with rfl | rfl
      · simp at z; omega
      · simp at z; omega)
    simp (disch := first | exact hl2 | omega) only [run_eq, evSs_cons, evSs_nil, evS_par, evS_asg, evS_asgT, evS_asgR, evS_app, evS_ext, evS_ite, evS_for, evS_ret, evS_raise, evS_expr, evS_pass, ev_bin, ev_var, ev_lit, ev_cmp, ev_chn, ev_isN, ev_notN, ev_and, ev_or, ev_not, ev_ite, ev_call, ev_prim, ev_meth, ev_rev, ev_idx, ev_slc, ev_lst, ev_tup, ev_comp, ev_neg, evs_cons, evs_nil, evO_none, evO_some, evC_none, evC_some, evI_seq, evI_rng1, evI_rng2, evI_enm, evI_zip, partI, then_ok, nx_then, rt_then, ex_then, addI, subI, mulI, fdivI, modI, ltI, leI, gtI, geI, eqI, truthB, ite_and, ite_or, Bool.true_and, Bool.false_and, Bool.and_true, Bool.and_false, Bool.true_or, Bool.false_or, Bool.or_true, Bool.or_false, lim_if, lim_if2, shal_int, shal_bl, shal_str, shal_non, decide_true, decide_false, setAll, bindTg, bindOk, bindExc, ofSome, List.map_cons, List.map_nil, List.length_cons, List.length_nil, List.cons_append, List.nil_append, List.append_nil, List.replicate, List.getElem?_cons_zero, List.getElem?_cons_succ, List.set_cons_zero, List.set_cons_succ, Nat.reduceAdd, Nat.reduceSub, isI_int, isB_int, if_true, if_false, Bool.false_eq_true, Bool.not_true, Bool.not_false, den_l_one_right_k03, b_l_one_right_k03, listL, f1, lenL, m0, f2, f3, ↓c1, pairs_ne, n1, f4, f5, n2, n3, f6, m1, f7, m2, neI', lstAt, f8, hl, wide_if, g1]
end Dn
namespace Dn
open Hue
theorem rows_gt (a b : List (List Nat)) : cmpF .gt (.lst (a.map D.str)) (.lst (b.map D.str)) = .ok (.bl (ltLL b a)) := by
  show ((R.of (asStrs (a.map D.str))).bind fun x => (R.of (asStrs (b.map D.str))).bind fun y => R.ok (D.bl (ltLL y x))) = _
  rw [asStrs_map, asStrs_map]
  rfl
theorem rows_up {h w : Nat} (k : Kd h w) : (rowsL h w).Pairwise (fun a b => ltN a b = true ∧ a ≠ b) := by
  refine k.cases (P := fun h w => (rowsL h w).Pairwise (fun a b => ltN a b = true ∧ a ≠ b)) ?_ ?_ ?_ ?_ ?_ ?_ ?_ <;> decide +kernel
theorem lt_rows {rs : List (List Nat)} (hu : rs.Pairwise (fun a b => ltN a b = true ∧ a ≠ b)) : ∀ {p q : List Nat}, ltL p q → (∀ j ∈ p, j < rs.length) → (∀ j ∈ q, j < rs.length) → ltLL (atRows rs p) (atRows rs q) = true
  | [], _, h, _, _ => by cases h
  | _ :: _, [], h, _, _ => by cases h
  | a :: p, b :: q, h, hp, hq => by
    show (if rs.getD a [] = rs.getD b [] then ltLL (atRows rs p) (atRows rs q) else ltN (rs.getD a []) (rs.getD b [])) = true
    rcases h with h | ⟨rfl, h⟩
    · have ha := hp a (List.mem_cons_self ..)
      have hb := hq b (List.mem_cons_self ..)
      have e1 : rs.getD a [] = rs[a] := by simp [List.getElem?_eq_getElem ha]
      have e2 : rs.getD b [] = rs[b] := by simp [List.getElem?_eq_getElem hb]
      have := List.pairwise_iff_getElem.mp hu a b ha hb h
      rw [e1, e2, if_neg this.2]
      exact this.1
    · rw [if_pos rfl]
      exact lt_rows hu h (fun j hj => hp j (List.mem_cons_of_mem _ hj)) (fun j hj => hq j (List.mem_cons_of_mem _ hj))
theorem floor_lt {h w n : Nat} (k : Kd h w) (hn : 1 ≤ n ∧ n ≤ 8) {m m2 : Int} (h0 : 0 ≤ m) (hm : m < m2) (hm2 : m2 < countL h w n) : ltLL (floorL h w n m) (floorL h w n m2) = true := by
  obtain ⟨n, rfl⟩ : ∃ n', n = n' + 1 := ⟨n - 1, by omega⟩
  have ht := sum_tot (nearL (rowsL h w)) n
  have sc : (iterW (nearL (rowsL h w)) n).sum = countL h w (n + 1) := rfl
  rw [sc, nearL_length] at ht
  rw [ht] at hm2
  have N := nearL_fine (rowsL h w)
  have hbb : ∀ x ∈ List.range (rowsL h w).length, x < (nearL (rowsL h w)).length := fun x hx => by rw [nearL_length]; exact List.mem_range.mp hx
  obtain ⟨p1, _⟩ := fl_ok N (List.pairwise_lt_range ..) hbb h0 (Int.lt_trans hm hm2)
  obtain ⟨q1, _⟩ := fl_ok N (m := m2) (List.pairwise_lt_range ..) hbb (by omega) hm2
  have hb := path_lt N p1 hbb
  have hc := path_lt N q1 hbb
  rw [nearL_length] at hb hc
  exact lt_rows (rows_up k) (fl_lt N (List.pairwise_lt_range ..) hbb h0 hm hm2) hb hc
theorem evS_rvs (i : Nat) (e : Env) : evS (.rvs i) e = match lstAt e i with | some xs => .nx (e.set i (some (.lst xs.reverse))) | none => .bad := by first | (simp only [evS]; done) | (simp only [evS]; rfl)
theorem good_ok {h w n : Nat} {f : List (List Nat)} (hw : w ≤ 1000) (hn : 1 ≤ n ∧ n ≤ 8) (F : Flr h w n f) (hf : livelyL f = true) : den_l_good [.lst (f.map D.str)] = .ok (.bl true) := by
  have l1 : primF .len [.lst (f.map D.str)] = .ok (.int (n : Int)) := by rw [lenL, List.length_map, F.high]
  have hr : rng1F (.int ((n : Int) - 1)) = .ok (rangeL 0 (n - 1) 1) := rngNat (by omega) (by omega)
  have c1 : ev (.comp b_l_good_1 (.nm 1) (.rng1 (.bin .sub (.prim .len (.cons (.var 0) .nil)) (.lit (.int 1)))) .none [1]) [some (.lst (f.map D.str)), none] = .ok (.lst ((List.range (n - 1)).map fun i => .bl true)) := by
    simp only [run_eq, evSs_cons, evSs_nil, evS_par, evS_asg, evS_asgT, evS_asgR, evS_app, evS_ext, evS_ite, evS_for, evS_ret, evS_raise, evS_expr, evS_pass, ev_bin, ev_var, ev_lit, ev_cmp, ev_chn, ev_isN, ev_notN, ev_and, ev_or, ev_not, ev_ite, ev_call, ev_prim, ev_meth, ev_rev, ev_idx, ev_slc, ev_lst, ev_tup, ev_comp, ev_neg, evs_cons, evs_nil, evO_none, evO_some, evC_none, evC_some, evI_seq, evI_rng1, evI_rng2, evI_enm, evI_zip, partI, then_ok, nx_then, rt_then, ex_then, addI, subI, mulI, fdivI, modI, ltI, leI, gtI, geI, eqI, truthB, ite_and, ite_or, Bool.true_and, Bool.false_and, Bool.and_true, Bool.and_false, Bool.true_or, Bool.false_or, Bool.or_true, Bool.or_false, lim_if, lim_if2, shal_int, shal_bl, shal_str, shal_non, decide_true, decide_false, setAll, bindTg, bindOk, bindExc, ofSome, List.map_cons, List.map_nil, List.length_cons, List.length_nil, List.cons_append, List.nil_append, List.append_nil, List.replicate, List.getElem?_cons_zero, List.getElem?_cons_succ, List.set_cons_zero, List.set_cons_succ, Nat.reduceAdd, Nat.reduceSub, isI_int, isB_int, if_true, if_false, Bool.false_eq_true, Bool.not_true, Bool.not_false, l1, hr, wipeE]
    unfold rangeL
    rw [compA (g := fun _ => .bl true) fun i hi => ⟨_, rfl, rfl, ?_⟩]
    · simp only [run_eq, evSs_cons, evSs_nil, evS_par, evS_asg, evS_asgT, evS_asgR, evS_app, evS_ext, evS_ite, evS_for, evS_ret, evS_raise, evS_expr, evS_pass, ev_bin, ev_var, ev_lit, ev_cmp, ev_chn, ev_isN, ev_notN, ev_and, ev_or, ev_not, ev_ite, ev_call, ev_prim, ev_meth, ev_rev, ev_idx, ev_slc, ev_lst, ev_tup, ev_comp, ev_neg, evs_cons, evs_nil, evO_none, evO_some, evC_none, evC_some, evI_seq, evI_rng1, evI_rng2, evI_enm, evI_zip, partI, then_ok, nx_then, rt_then, ex_then, addI, subI, mulI, fdivI, modI, ltI, leI, gtI, geI, eqI, truthB, ite_and, ite_or, Bool.true_and, Bool.false_and, Bool.and_true, Bool.and_false, Bool.true_or, Bool.false_or, Bool.or_true, Bool.or_false, lim_if, lim_if2, shal_int, shal_bl, shal_str, shal_non, decide_true, decide_false, setAll, bindTg, bindOk, bindExc, ofSome, List.map_cons, List.map_nil, List.length_cons, List.length_nil, List.cons_append, List.nil_append, List.append_nil, List.replicate, List.getElem?_cons_zero, List.getElem?_cons_succ, List.set_cons_zero, List.set_cons_succ, Nat.reduceAdd, Nat.reduceSub, isI_int, isB_int, if_true, if_false, Bool.false_eq_true, Bool.not_true, Bool.not_false, noExc_ok]
    · have hi : i < n - 1 := List.mem_range.mp hi
      have h1 : i < f.length := by rw [F.high]; omega
      have h2 : i + 1 < f.length := by rw [F.high]; omega
      have g : gt f[i] f[i + 1] = true := by
        unfold livelyL at hf
        have hz : i < (f.zip (f.drop 1)).length := by rw [List.length_zip, List.length_drop]; omega
        have := List.all_eq_true.mp hf _ (List.getElem_mem hz)
        rw [List.getElem_zip, List.getElem_drop] at this
        have e : f[i + 1] = f[1 + i]'(by omega) := getElem_congr_idx (by omega)
        rw [e]
        exact this
      have i1 : idxF (.lst (f.map D.str)) (.int ((0 : Int) + (i : Int) * 1)) = .ok (.str f[i]) := by
        rw [idxL (i := i) (by omega) (by rw [List.length_map]; exact h1), List.getElem_map]
      have i2 : idxF (.lst (f.map D.str)) (.int ((0 : Int) + (i : Int) * 1 + 1)) = .ok (.str f[i + 1]) := by
        rw [idxL (i := i + 1) (by omega) (by rw [List.length_map]; exact h2), List.getElem_map]
      have w1 := F.wide f[i] (List.getElem_mem ..)
      have w2 := F.wide f[i + 1] (List.getElem_mem ..)
      have t := two_ok (a := f[i]) (b := f[i + 1]) (by omega) (by omega)
      rw [g] at t
      simp only [run_eq, evSs_cons, evSs_nil, evS_par, evS_asg, evS_asgT, evS_asgR, evS_app, evS_ext, evS_ite, evS_for, evS_ret, evS_raise, evS_expr, evS_pass, ev_bin, ev_var, ev_lit, ev_cmp, ev_chn, ev_isN, ev_notN, ev_and, ev_or, ev_not, ev_ite, ev_call, ev_prim, ev_meth, ev_rev, ev_idx, ev_slc, ev_lst, ev_tup, ev_comp, ev_neg, evs_cons, evs_nil, evO_none, evO_some, evC_none, evC_some, evI_seq, evI_rng1, evI_rng2, evI_enm, evI_zip, partI, then_ok, nx_then, rt_then, ex_then, addI, subI, mulI, fdivI, modI, ltI, leI, gtI, geI, eqI, truthB, ite_and, ite_or, Bool.true_and, Bool.false_and, Bool.and_true, Bool.and_false, Bool.true_or, Bool.false_or, Bool.or_true, Bool.or_false, lim_if, lim_if2, shal_int, shal_bl, shal_str, shal_non, decide_true, decide_false, setAll, bindTg, bindOk, bindExc, ofSome, List.map_cons, List.map_nil, List.length_cons, List.length_nil, List.cons_append, List.nil_append, List.append_nil, List.replicate, List.getElem?_cons_zero, List.getElem?_cons_succ, List.set_cons_zero, List.set_cons_succ, Nat.reduceAdd, Nat.reduceSub, isI_int, isB_int, if_true, if_false, Bool.false_eq_true, Bool.not_true, Bool.not_false, b_l_good_1, i1, i2, t]
  have ab := allB (List.range (n - 1)) fun _ => true
  have al : (List.range (n - 1)).all (fun _ => true) = true := by simp
  rw [al] at ab
  simp only [run_eq, evSs_cons, evSs_nil, evS_par, evS_asg, evS_asgT, evS_asgR, evS_app, evS_ext, evS_ite, evS_for, evS_ret, evS_raise, evS_expr, evS_pass, ev_bin, ev_var, ev_lit, ev_cmp, ev_chn, ev_isN, ev_notN, ev_and, ev_or, ev_not, ev_ite, ev_call, ev_prim, ev_meth, ev_rev, ev_idx, ev_slc, ev_lst, ev_tup, ev_comp, ev_neg, evs_cons, evs_nil, evO_none, evO_some, evC_none, evC_some, evI_seq, evI_rng1, evI_rng2, evI_enm, evI_zip, partI, then_ok, nx_then, rt_then, ex_then, addI, subI, mulI, fdivI, modI, ltI, leI, gtI, geI, eqI, truthB, ite_and, ite_or, Bool.true_and, Bool.false_and, Bool.and_true, Bool.and_false, Bool.true_or, Bool.false_or, Bool.or_true, Bool.or_false, lim_if, lim_if2, shal_int, shal_bl, shal_str, shal_non, decide_true, decide_false, setAll, bindTg, bindOk, bindExc, ofSome, List.map_cons, List.map_nil, List.length_cons, List.length_nil, List.cons_append, List.nil_append, List.append_nil, List.replicate, List.getElem?_cons_zero, List.getElem?_cons_succ, List.set_cons_zero, List.set_cons_succ, Nat.reduceAdd, Nat.reduceSub, isI_int, isB_int, if_true, if_false, Bool.false_eq_true, Bool.not_true, Bool.not_false, den_l_good, b_l_good, ↓c1, ab]
end Dn
namespace Dn
open Hue
theorem isNonN : isNon .non = true := Eq.trans rfl rfl
theorem seqS' (l : List Nat) : seqOf (.str l) = .ok (l.map fun c => .str [c]) := rfl
theorem one_right2_ok {h w n : Nat} (k : Kd h w) (hn : 1 ≤ n ∧ n ≤ 8) {m : Int} (h0 : 0 ≤ m) (hm : m < countL h w n) : den_l_one_right [.int h, .int w, .int n, .int m, .int (countL h w n)] = .ok (.bl true) := by
  have hh : h = 2 ∨ h = 3 := by unfold Kd at k; omega
  have hw : 1 ≤ w ∧ w ≤ 4 := by unfold Kd at k; omega
  have M := made k hn h0 hm
  have fb := floor_by_ok k hn h0 hm
  have nx := next_ok k hn h0 hm
  have gd := good_ok (by omega) hn M.flr M.live
  have nu : den_number_of [.int h, .lst ((floorL h w n m).map D.str)] = .ok (.int m) := M.num
  have fb : den_floor_by [.int h, .int w, .int n, .int m] = .ok (.lst ((floorL h w n m).map D.str)) := fb
  have nx : den_next_one [.int h, .lst ((floorL h w n m).map D.str)] = .ok (if m + 1 < countL h w n then .lst ((floorL h w n (m + 1)).map D.str) else .non) := nx
  have hlt := fun z => floor_lt k hn (m := m) (m2 := m + 1) h0 (by omega) z
  have fb2 := fun z => floor_by_ok k hn (m := m + 1) (by omega) z
  have M2 := fun z => made k hn (m := m + 1) (by omega) z
  have F := M.flr
  generalize floorL h w n m = f at *
  have l1 : primF .len [.lst (f.map D.str)] = .ok (.int (n : Int)) := by rw [lenL, List.length_map, F.high]
  have c1 : ev (.comp b_l_one_right_1 (.nm 8) (.seq (.var 5)) .none [8]) [some (.int (h : Int)), some (.int (w : Int)), some (.int (n : Int)), some (.int m), some (.int (countL h w n)), some (.lst (f.map D.str)), none, none, none, none] = .ok (.lst (f.map fun _ => .bl false)) := by
    simp only [run_eq, evSs_cons, evSs_nil, evS_par, evS_asg, evS_asgT, evS_asgR, evS_app, evS_ext, evS_ite, evS_for, evS_ret, evS_raise, evS_expr, evS_pass, ev_bin, ev_var, ev_lit, ev_cmp, ev_chn, ev_isN, ev_notN, ev_and, ev_or, ev_not, ev_ite, ev_call, ev_prim, ev_meth, ev_rev, ev_idx, ev_slc, ev_lst, ev_tup, ev_comp, ev_neg, evs_cons, evs_nil, evO_none, evO_some, evC_none, evC_some, evI_seq, evI_rng1, evI_rng2, evI_enm, evI_zip, partI, then_ok, nx_then, rt_then, ex_then, addI, subI, mulI, fdivI, modI, ltI, leI, gtI, geI, eqI, truthB, ite_and, ite_or, Bool.true_and, Bool.false_and, Bool.and_true, Bool.and_false, Bool.true_or, Bool.false_or, Bool.or_true, Bool.or_false, lim_if, lim_if2, shal_int, shal_bl, shal_str, shal_non, decide_true, decide_false, setAll, bindTg, bindOk, bindExc, ofSome, List.map_cons, List.map_nil, List.length_cons, List.length_nil, List.cons_append, List.nil_append, List.append_nil, List.replicate, List.getElem?_cons_zero, List.getElem?_cons_succ, List.set_cons_zero, List.set_cons_succ, Nat.reduceAdd, Nat.reduceSub, isI_int, isB_int, if_true, if_false, Bool.false_eq_true, Bool.not_true, Bool.not_false, seqL, wipeE]
    rw [compA (g := fun _ => .bl false) fun r hr => ⟨_, rfl, rfl, ?_⟩]
    · simp only [run_eq, evSs_cons, evSs_nil, evS_par, evS_asg, evS_asgT, evS_asgR, evS_app, evS_ext, evS_ite, evS_for, evS_ret, evS_raise, evS_expr, evS_pass, ev_bin, ev_var, ev_lit, ev_cmp, ev_chn, ev_isN, ev_notN, ev_and, ev_or, ev_not, ev_ite, ev_call, ev_prim, ev_meth, ev_rev, ev_idx, ev_slc, ev_lst, ev_tup, ev_comp, ev_neg, evs_cons, evs_nil, evO_none, evO_some, evC_none, evC_some, evI_seq, evI_rng1, evI_rng2, evI_enm, evI_zip, partI, then_ok, nx_then, rt_then, ex_then, addI, subI, mulI, fdivI, modI, ltI, leI, gtI, geI, eqI, truthB, ite_and, ite_or, Bool.true_and, Bool.false_and, Bool.and_true, Bool.and_false, Bool.true_or, Bool.false_or, Bool.or_true, Bool.or_false, lim_if, lim_if2, shal_int, shal_bl, shal_str, shal_non, decide_true, decide_false, setAll, bindTg, bindOk, bindExc, ofSome, List.map_cons, List.map_nil, List.length_cons, List.length_nil, List.cons_append, List.nil_append, List.append_nil, List.replicate, List.getElem?_cons_zero, List.getElem?_cons_succ, List.set_cons_zero, List.set_cons_succ, Nat.reduceAdd, Nat.reduceSub, isI_int, isB_int, if_true, if_false, Bool.false_eq_true, Bool.not_true, Bool.not_false, noExc_ok]
    · have e : ((r.length : Nat) : Int) = (w : Int) := by rw [F.wide r hr]
      simp only [run_eq, evSs_cons, evSs_nil, evS_par, evS_asg, evS_asgT, evS_asgR, evS_app, evS_ext, evS_ite, evS_for, evS_ret, evS_raise, evS_expr, evS_pass, ev_bin, ev_var, ev_lit, ev_cmp, ev_chn, ev_isN, ev_notN, ev_and, ev_or, ev_not, ev_ite, ev_call, ev_prim, ev_meth, ev_rev, ev_idx, ev_slc, ev_lst, ev_tup, ev_comp, ev_neg, evs_cons, evs_nil, evO_none, evO_some, evC_none, evC_some, evI_seq, evI_rng1, evI_rng2, evI_enm, evI_zip, partI, then_ok, nx_then, rt_then, ex_then, addI, subI, mulI, fdivI, modI, ltI, leI, gtI, geI, eqI, truthB, ite_and, ite_or, Bool.true_and, Bool.false_and, Bool.and_true, Bool.and_false, Bool.true_or, Bool.false_or, Bool.or_true, Bool.or_false, lim_if, lim_if2, shal_int, shal_bl, shal_str, shal_non, decide_true, decide_false, setAll, bindTg, bindOk, bindExc, ofSome, List.map_cons, List.map_nil, List.length_cons, List.length_nil, List.cons_append, List.nil_append, List.append_nil, List.replicate, List.getElem?_cons_zero, List.getElem?_cons_succ, List.set_cons_zero, List.set_cons_succ, Nat.reduceAdd, Nat.reduceSub, isI_int, isB_int, if_true, if_false, Bool.false_eq_true, Bool.not_true, Bool.not_false, b_l_one_right_1, lenS, e, neI']
  have a1 := anyB f fun _ => false
  have e1 : f.any (fun _ => false) = false := by simp
  rw [e1] at a1
  have hj : (f.map List.length).sum ≤ 10000000 := by
    rw [sum_le f w F.wide, F.high]
    have : n * w ≤ 8 * 4 := Nat.mul_le_mul hn.2 hw.2
    omega
  have jn := joinR hj
  have rv : recvOk .join (.str []) = true := rfl
  have sl := slc_signs hh
  have c2 : ev (.comp b_l_one_right_2 (.nm 9) (.seq (.meth .join (.lit (.str [])) (.var 5))) .none [9]) [some (.int (h : Int)), some (.int (w : Int)), some (.int (n : Int)), some (.int m), some (.int (countL h w n)), some (.lst (f.map D.str)), none, none, none, none] = .ok (.lst (f.flatten.map fun _ => .bl false)) := by
    simp only [run_eq, evSs_cons, evSs_nil, evS_par, evS_asg, evS_asgT, evS_asgR, evS_app, evS_ext, evS_ite, evS_for, evS_ret, evS_raise, evS_expr, evS_pass, ev_bin, ev_var, ev_lit, ev_cmp, ev_chn, ev_isN, ev_notN, ev_and, ev_or, ev_not, ev_ite, ev_call, ev_prim, ev_meth, ev_rev, ev_idx, ev_slc, ev_lst, ev_tup, ev_comp, ev_neg, evs_cons, evs_nil, evO_none, evO_some, evC_none, evC_some, evI_seq, evI_rng1, evI_rng2, evI_enm, evI_zip, partI, then_ok, nx_then, rt_then, ex_then, addI, subI, mulI, fdivI, modI, ltI, leI, gtI, geI, eqI, truthB, ite_and, ite_or, Bool.true_and, Bool.false_and, Bool.and_true, Bool.and_false, Bool.true_or, Bool.false_or, Bool.or_true, Bool.or_false, lim_if, lim_if2, shal_int, shal_bl, shal_str, shal_non, decide_true, decide_false, setAll, bindTg, bindOk, bindExc, ofSome, List.map_cons, List.map_nil, List.length_cons, List.length_nil, List.cons_append, List.nil_append, List.append_nil, List.replicate, List.getElem?_cons_zero, List.getElem?_cons_succ, List.set_cons_zero, List.set_cons_succ, Nat.reduceAdd, Nat.reduceSub, isI_int, isB_int, if_true, if_false, Bool.false_eq_true, Bool.not_true, Bool.not_false, rv, jn, seqS', wipeE]
    rw [compA (g := fun _ => .bl false) fun c hc => ⟨_, rfl, rfl, ?_⟩]
    · simp only [run_eq, evSs_cons, evSs_nil, evS_par, evS_asg, evS_asgT, evS_asgR, evS_app, evS_ext, evS_ite, evS_for, evS_ret, evS_raise, evS_expr, evS_pass, ev_bin, ev_var, ev_lit, ev_cmp, ev_chn, ev_isN, ev_notN, ev_and, ev_or, ev_not, ev_ite, ev_call, ev_prim, ev_meth, ev_rev, ev_idx, ev_slc, ev_lst, ev_tup, ev_comp, ev_neg, evs_cons, evs_nil, evO_none, evO_some, evC_none, evC_some, evI_seq, evI_rng1, evI_rng2, evI_enm, evI_zip, partI, then_ok, nx_then, rt_then, ex_then, addI, subI, mulI, fdivI, modI, ltI, leI, gtI, geI, eqI, truthB, ite_and, ite_or, Bool.true_and, Bool.false_and, Bool.and_true, Bool.and_false, Bool.true_or, Bool.false_or, Bool.or_true, Bool.or_false, lim_if, lim_if2, shal_int, shal_bl, shal_str, shal_non, decide_true, decide_false, setAll, bindTg, bindOk, bindExc, ofSome, List.map_cons, List.map_nil, List.length_cons, List.length_nil, List.cons_append, List.nil_append, List.append_nil, List.replicate, List.getElem?_cons_zero, List.getElem?_cons_succ, List.set_cons_zero, List.set_cons_succ, Nat.reduceAdd, Nat.reduceSub, isI_int, isB_int, if_true, if_false, Bool.false_eq_true, Bool.not_true, Bool.not_false, noExc_ok]
    · obtain ⟨r, hr, hcr⟩ := List.mem_flatten.mp hc
      have e : decide (c ∈ signs h) = true := decide_eq_true (F.hue r hr c hcr)
      simp only [run_eq, evSs_cons, evSs_nil, evS_par, evS_asg, evS_asgT, evS_asgR, evS_app, evS_ext, evS_ite, evS_for, evS_ret, evS_raise, evS_expr, evS_pass, ev_bin, ev_var, ev_lit, ev_cmp, ev_chn, ev_isN, ev_notN, ev_and, ev_or, ev_not, ev_ite, ev_call, ev_prim, ev_meth, ev_rev, ev_idx, ev_slc, ev_lst, ev_tup, ev_comp, ev_neg, evs_cons, evs_nil, evO_none, evO_some, evC_none, evC_some, evI_seq, evI_rng1, evI_rng2, evI_enm, evI_zip, partI, then_ok, nx_then, rt_then, ex_then, addI, subI, mulI, fdivI, modI, ltI, leI, gtI, geI, eqI, truthB, ite_and, ite_or, Bool.true_and, Bool.false_and, Bool.and_true, Bool.and_false, Bool.true_or, Bool.false_or, Bool.or_true, Bool.or_false, lim_if, lim_if2, shal_int, shal_bl, shal_str, shal_non, decide_true, decide_false, setAll, bindTg, bindOk, bindExc, ofSome, List.map_cons, List.map_nil, List.length_cons, List.length_nil, List.cons_append, List.nil_append, List.append_nil, List.replicate, List.getElem?_cons_zero, List.getElem?_cons_succ, List.set_cons_zero, List.set_cons_succ, Nat.reduceAdd, Nat.reduceSub, isI_int, isB_int, if_true, if_false, Bool.false_eq_true, Bool.not_true, Bool.not_false, b_l_one_right_2, sl, notin_signs, e]
  have a2 := anyB f.flatten fun _ => false
  have e2 : f.flatten.any (fun _ => false) = false := by simp
  rw [e2] at a2
  by_cases hl : m + 1 < countL h w n
  · rw [if_pos hl] at nx
    have fb2 : den_floor_by [.int h, .int w, .int n, .int (m + 1)] = .ok (.lst ((floorL h w n (m + 1)).map D.str)) := fb2 hl
    have G := (M2 hl).flr
    have hlt := hlt hl
    generalize floorL h w n (m + 1) = g at *
    have q1 : cmpF .eq (.lst (g.map D.str)) (.lst (g.map D.str)) = .ok (.bl (decide (g = g))) := rows_eq G.ok G.ok
    have gg : (m == countL h w n - 1) = false := beq_eq_false_iff_ne.mpr (by omega)
    have gt' := rows_gt g f
    rw [hlt] at gt'
    simp (disch := omega) only [run_eq, evSs_cons, evSs_nil, evS_par, evS_asg, evS_asgT, evS_asgR, evS_app, evS_ext, evS_ite, evS_for, evS_ret, evS_raise, evS_expr, evS_pass, ev_bin, ev_var, ev_lit, ev_cmp, ev_chn, ev_isN, ev_notN, ev_and, ev_or, ev_not, ev_ite, ev_call, ev_prim, ev_meth, ev_rev, ev_idx, ev_slc, ev_lst, ev_tup, ev_comp, ev_neg, evs_cons, evs_nil, evO_none, evO_some, evC_none, evC_some, evI_seq, evI_rng1, evI_rng2, evI_enm, evI_zip, partI, then_ok, nx_then, rt_then, ex_then, addI, subI, mulI, fdivI, modI, ltI, leI, gtI, geI, eqI, truthB, ite_and, ite_or, Bool.true_and, Bool.false_and, Bool.and_true, Bool.and_false, Bool.true_or, Bool.false_or, Bool.or_true, Bool.or_false, lim_if, lim_if2, shal_int, shal_bl, shal_str, shal_non, decide_true, decide_false, setAll, bindTg, bindOk, bindExc, ofSome, List.map_cons, List.map_nil, List.length_cons, List.length_nil, List.cons_append, List.nil_append, List.append_nil, List.replicate, List.getElem?_cons_zero, List.getElem?_cons_succ, List.set_cons_zero, List.set_cons_succ, Nat.reduceAdd, Nat.reduceSub, isI_int, isB_int, if_true, if_false, Bool.false_eq_true, Bool.not_true, Bool.not_false, den_l_one_right, b_l_one_right, fb, l1, neI', ↓c1, a1, gd, ↓c2, a2, nu, nx, shal_rows, eqI', gg, listL, evS_rvs, lstAt, fb2, q1, gt']
  · rw [if_neg hl] at nx
    have gg : (m == countL h w n - 1) = true := beq_iff_eq.mpr (by omega)
    simp (disch := omega) only [run_eq, evSs_cons, evSs_nil, evS_par, evS_asg, evS_asgT, evS_asgR, evS_app, evS_ext, evS_ite, evS_for, evS_ret, evS_raise, evS_expr, evS_pass, ev_bin, ev_var, ev_lit, ev_cmp, ev_chn, ev_isN, ev_notN, ev_and, ev_or, ev_not, ev_ite, ev_call, ev_prim, ev_meth, ev_rev, ev_idx, ev_slc, ev_lst, ev_tup, ev_comp, ev_neg, evs_cons, evs_nil, evO_none, evO_some, evC_none, evC_some, evI_seq, evI_rng1, evI_rng2, evI_enm, evI_zip, partI, then_ok, nx_then, rt_then, ex_then, addI, subI, mulI, fdivI, modI, ltI, leI, gtI, geI, eqI, truthB, ite_and, ite_or, Bool.true_and, Bool.false_and, Bool.and_true, Bool.and_false, Bool.true_or, Bool.false_or, Bool.or_true, Bool.or_false, lim_if, lim_if2, shal_int, shal_bl, shal_str, shal_non, decide_true, decide_false, setAll, bindTg, bindOk, bindExc, ofSome, List.map_cons, List.map_nil, List.length_cons, List.length_nil, List.cons_append, List.nil_append, List.append_nil, List.replicate, List.getElem?_cons_zero, List.getElem?_cons_succ, List.set_cons_zero, List.set_cons_succ, Nat.reduceAdd, Nat.reduceSub, isI_int, isB_int, if_true, if_false, Bool.false_eq_true, Bool.not_true, Bool.not_false, den_l_one_right, b_l_one_right, fb, l1, neI', ↓c1, a1, gd, ↓c2, a2, nu, nx, eqI', gg, isNonN]
end Dn
namespace Dn
open Hue
theorem all_21 : den_l_all [.int 2, .int 2, .int 1] = .ok (.lst ((List.range 4).map fun (i : Nat) => dRows (floorL 2 2 1 (i : Int)))) := by kernel_rfl
theorem all_31 : den_l_all [.int 3, .int 2, .int 1] = .ok (.lst ((List.range 9).map fun (i : Nat) => dRows (floorL 3 2 1 (i : Int)))) := by kernel_rfl
theorem all_22 : den_l_all [.int 2, .int 2, .int 2] = .ok (.lst ((List.range 14).map fun (i : Nat) => dRows (floorL 2 2 2 (i : Int)))) := by kernel_rfl
theorem all_32 : den_l_all [.int 3, .int 2, .int 2] = .ok (.lst ((List.range 78).map fun (i : Nat) => dRows (floorL 3 2 2 (i : Int)))) := by kernel_rfl
end Dn
namespace Dn
open Hue
theorem mem_insI {x y : Int} : ∀ {l : List Int}, y ∈ insI x l → y = x ∨ y ∈ l
  | [], h => .inl (List.mem_singleton.mp h)
  | z :: r, h => by
    unfold insI at h
    split at h
    · exact List.mem_cons.mp h
    · rcases List.mem_cons.mp h with h | h
      · exact .inr (h ▸ List.mem_cons_self ..)
      · rcases mem_insI h with h | h
        · exact .inl h
        · exact .inr (List.mem_cons_of_mem _ h)
theorem mem_sortI {y : Int} : ∀ {l : List Int}, y ∈ sortI l → y ∈ l
  | [], h => by cases h
  | x :: r, h => by
    rcases mem_insI h with h | h
    · exact h ▸ List.mem_cons_self ..
    · exact List.mem_cons_of_mem _ (mem_sortI h)
theorem mem_metF {α : Type} [BEq α] {y : α} : ∀ {l a : List α}, y ∈ l.foldl (fun a x => if a.contains x then a else a ++ [x]) a → y ∈ a ∨ y ∈ l
  | [], a, h => .inl h
  | x :: r, a, h => by
    rcases mem_metF (l := r) h with h | h
    · have h : y ∈ (if a.contains x = true then a else a ++ [x]) := h
      split at h
      · exact .inl h
      · rcases List.mem_append.mp h with h | h
        · exact .inl h
        · exact .inr (List.mem_singleton.mp h ▸ List.mem_cons_self ..)
    · exact .inr (List.mem_cons_of_mem _ h)
theorem mem_met {α : Type} [BEq α] {y : α} {l : List α} (h : y ∈ met l) : y ∈ l := by
  rcases mem_metF h with h | h
  · cases h
  · exact h
theorem count_pos {h w : Nat} (k : Kd h w) : ∀ n < 8, 0 < countL h w (n + 1) := by
  refine k.cases (P := fun h w => ∀ n < 8, 0 < countL h w (n + 1)) ?_ ?_ ?_ ?_ ?_ ?_ ?_ <;> decide +kernel
theorem asInts_map : ∀ l : List Int, asInts (l.map D.int) = some l
  | [] => rfl
  | x :: r => by
    show (asInts (D.int x :: r.map D.int)) = _
    unfold asInts
    rw [asInts_map r]
    rfl
theorem sortset_ok {l : List Int} (h : l.length < 60) : primF .sortset [.lst (l.map D.int)] = .ok (.lst ((sortI (met l)).map D.int)) := by
  show (if (l.map D.int).length < 60 then (match asInts (l.map D.int) with
    | some ns => R.ok (D.lst ((sortI (met ns)).map D.int))
    | none => match asStrs (l.map D.int) with
      | some ls => .ok (.lst ((sortS (met ls)).map D.str))
      | none => .bad) else .bad) = _
  rw [if_pos (by rw [List.length_map]; exact h), asInts_map]
end Dn
namespace Dn
open Hue
theorem max2I (i j : Int) : primF .max2 [.int i, .int j] = .ok (.int (if j > i then j else i)) := Eq.trans rfl rfl
theorem body_k02 (ns : List Int) (s : Int) (hs : 0 ≤ s) (b : Nat) (hb : b = 0 ∨ b = 1) (v3 v4 v5 v6 v7 v8 v9 : Option D) :
    ∃ u3 u4 u5 u6 u7 u8 u9, evSs b_law_k02_2 [some (.scr (ns.map D.int)), some (.int s), some (.int b), v3, v4, v5, v6, v7, v8, v9] = .nx [some (.scr (ns.map D.int)), some (.int s), some (.int b), u3, u4, u5, u6, u7, u8, u9] := by
  obtain ⟨h, w, e1, e2, k⟩ := kind_Kd ns b
  have kk : den_l_kind [.scr (ns.map D.int), .int (b : Int)] = .ok (.tup [.int (h : Int), .int (w : Int)]) := by rw [kind_ok, e1, e2]
  obtain ⟨n, qn, ln⟩ : ∃ n : Nat, 1 + s / (3 + (b : Int)) % 8 = (n : Int) ∧ 1 ≤ n ∧ n ≤ 8 := by
    have := mod_lt' (s / (3 + (b : Int))) (b := 8) (by decide)
    exact ⟨(1 + s / (3 + (b : Int)) % 8).toNat, by omega, by omega⟩
  have hm := how_many_ok k (n := n) (by omega)
  have cp : 0 < countL h w n := by
    have := count_pos k (n - 1) (by omega)
    rw [show n - 1 + 1 = n by omega] at this
    exact this
  have R1 := fun {m : Int} (h0 : 0 ≤ m) (h1 : m < countL h w n) => one_right2_ok k ln h0 h1
  generalize countL h w n = C at *
  have m1 := mod_lt' s cp
  have m2 := mod_lt' (s / 7) cp
  have hall : ∀ x ∈ sortI (met [0, C - 1, C / 2, s % C, (if C - 2 > 0 then C - 2 else 0), s / 7 % C]), 0 ≤ x ∧ x < C := fun x hx => by
    have := mem_met (mem_sortI hx)
    simp only [List.mem_cons, List.not_mem_nil, or_false] at this
    rcases this with rfl | rfl | rfl | rfl | rfl | rfl
    · omega
    · omega
    · omega
    · exact m1
    · split <;> omega
    · exact m2
  have ss := sortset_ok (l := [0, C - 1, C / 2, s % C, (if C - 2 > 0 then C - 2 else 0), s / 7 % C]) (by simp only [List.length_cons, List.length_nil]; omega)
  generalize sortI (met [0, C - 1, C / 2, s % C, (if C - 2 > 0 then C - 2 else 0), s / 7 % C]) = L at *
  have c1 : ev (.comp b_law_k02_1 (.nm 9) (.seq (.var 7)) .none [9]) [some (.scr (ns.map D.int)), some (.int s), some (.int b), some (.int (h : Int)), some (.int (w : Int)), some (.int (n : Int)), some (.int C), some (.lst (L.map D.int)), v8, v9] = .ok (.lst (L.map fun _ => .bl true)) := by
    simp only [run_eq, evSs_cons, evSs_nil, evS_par, evS_asg, evS_asgT, evS_asgR, evS_app, evS_ext, evS_ite, evS_for, evS_ret, evS_raise, evS_expr, evS_pass, ev_bin, ev_var, ev_lit, ev_cmp, ev_chn, ev_isN, ev_notN, ev_and, ev_or, ev_not, ev_ite, ev_call, ev_prim, ev_meth, ev_rev, ev_idx, ev_slc, ev_lst, ev_tup, ev_comp, ev_neg, evs_cons, evs_nil, evO_none, evO_some, evC_none, evC_some, evI_seq, evI_rng1, evI_rng2, evI_enm, evI_zip, partI, then_ok, nx_then, rt_then, ex_then, addI, subI, mulI, fdivI, modI, ltI, leI, gtI, geI, eqI, truthB, ite_and, ite_or, Bool.true_and, Bool.false_and, Bool.and_true, Bool.and_false, Bool.true_or, Bool.false_or, Bool.or_true, Bool.or_false, lim_if, lim_if2, shal_int, shal_bl, shal_str, shal_non, decide_true, decide_false, setAll, bindTg, bindOk, bindExc, ofSome, List.map_cons, List.map_nil, List.length_cons, List.length_nil, List.cons_append, List.nil_append, List.append_nil, List.replicate, List.getElem?_cons_zero, List.getElem?_cons_succ, List.set_cons_zero, List.set_cons_succ, Nat.reduceAdd, Nat.reduceSub, isI_int, isB_int, if_true, if_false, Bool.false_eq_true, Bool.not_true, Bool.not_false, seqL, wipeE]
    rw [compA (g := fun _ => .bl true) fun x hx => ⟨_, rfl, rfl, ?_⟩]
    · simp only [run_eq, evSs_cons, evSs_nil, evS_par, evS_asg, evS_asgT, evS_asgR, evS_app, evS_ext, evS_ite, evS_for, evS_ret, evS_raise, evS_expr, evS_pass, ev_bin, ev_var, ev_lit, ev_cmp, ev_chn, ev_isN, ev_notN, ev_and, ev_or, ev_not, ev_ite, ev_call, ev_prim, ev_meth, ev_rev, ev_idx, ev_slc, ev_lst, ev_tup, ev_comp, ev_neg, evs_cons, evs_nil, evO_none, evO_some, evC_none, evC_some, evI_seq, evI_rng1, evI_rng2, evI_enm, evI_zip, partI, then_ok, nx_then, rt_then, ex_then, addI, subI, mulI, fdivI, modI, ltI, leI, gtI, geI, eqI, truthB, ite_and, ite_or, Bool.true_and, Bool.false_and, Bool.and_true, Bool.and_false, Bool.true_or, Bool.false_or, Bool.or_true, Bool.or_false, lim_if, lim_if2, shal_int, shal_bl, shal_str, shal_non, decide_true, decide_false, setAll, bindTg, bindOk, bindExc, ofSome, List.map_cons, List.map_nil, List.length_cons, List.length_nil, List.cons_append, List.nil_append, List.append_nil, List.replicate, List.getElem?_cons_zero, List.getElem?_cons_succ, List.set_cons_zero, List.set_cons_succ, Nat.reduceAdd, Nat.reduceSub, isI_int, isB_int, if_true, if_false, Bool.false_eq_true, Bool.not_true, Bool.not_false, noExc_ok]
    · simp only [run_eq, evSs_cons, evSs_nil, evS_par, evS_asg, evS_asgT, evS_asgR, evS_app, evS_ext, evS_ite, evS_for, evS_ret, evS_raise, evS_expr, evS_pass, ev_bin, ev_var, ev_lit, ev_cmp, ev_chn, ev_isN, ev_notN, ev_and, ev_or, ev_not, ev_ite, ev_call, ev_prim, ev_meth, ev_rev, ev_idx, ev_slc, ev_lst, ev_tup, ev_comp, ev_neg, evs_cons, evs_nil, evO_none, evO_some, evC_none, evC_some, evI_seq, evI_rng1, evI_rng2, evI_enm, evI_zip, partI, then_ok, nx_then, rt_then, ex_then, addI, subI, mulI, fdivI, modI, ltI, leI, gtI, geI, eqI, truthB, ite_and, ite_or, Bool.true_and, Bool.false_and, Bool.and_true, Bool.and_false, Bool.true_or, Bool.false_or, Bool.or_true, Bool.or_false, lim_if, lim_if2, shal_int, shal_bl, shal_str, shal_non, decide_true, decide_false, setAll, bindTg, bindOk, bindExc, ofSome, List.map_cons, List.map_nil, List.length_cons, List.length_nil, List.cons_append, List.nil_append, List.append_nil, List.replicate, List.getElem?_cons_zero, List.getElem?_cons_succ, List.set_cons_zero, List.set_cons_succ, Nat.reduceAdd, Nat.reduceSub, isI_int, isB_int, if_true, if_false, Bool.false_eq_true, Bool.not_true, Bool.not_false, b_law_k02_1, R1 (hall x hx).1 (hall x hx).2]
  have ab := allB L fun _ => true
  have al : L.all (fun _ => true) = true := by simp
  rw [al] at ab
  simp only [List.map_cons, List.map_nil] at ss
  refine ⟨some (.int (h : Int)), some (.int (w : Int)), some (.int (n : Int)), some (.int C), some (.lst (L.map D.int)), v8, v9, ?_⟩
  simp (disch := first | omega | exact cp) only [run_eq, evSs_cons, evSs_nil, evS_par, evS_asg, evS_asgT, evS_asgR, evS_app, evS_ext, evS_ite, evS_for, evS_ret, evS_raise, evS_expr, evS_pass, ev_bin, ev_var, ev_lit, ev_cmp, ev_chn, ev_isN, ev_notN, ev_and, ev_or, ev_not, ev_ite, ev_call, ev_prim, ev_meth, ev_rev, ev_idx, ev_slc, ev_lst, ev_tup, ev_comp, ev_neg, evs_cons, evs_nil, evO_none, evO_some, evC_none, evC_some, evI_seq, evI_rng1, evI_rng2, evI_enm, evI_zip, partI, then_ok, nx_then, rt_then, ex_then, addI, subI, mulI, fdivI, modI, ltI, leI, gtI, geI, eqI, truthB, ite_and, ite_or, Bool.true_and, Bool.false_and, Bool.and_true, Bool.and_false, Bool.true_or, Bool.false_or, Bool.or_true, Bool.or_false, lim_if, lim_if2, shal_int, shal_bl, shal_str, shal_non, decide_true, decide_false, setAll, bindTg, bindOk, bindExc, ofSome, List.map_cons, List.map_nil, List.length_cons, List.length_nil, List.cons_append, List.nil_append, List.append_nil, List.replicate, List.getElem?_cons_zero, List.getElem?_cons_succ, List.set_cons_zero, List.set_cons_succ, Nat.reduceAdd, Nat.reduceSub, isI_int, isB_int, if_true, if_false, Bool.false_eq_true, Bool.not_true, Bool.not_false, b_law_k02_2, kk, qn, hm, max2I, ss, ↓c1, ab]
end Dn
namespace Dn
open Hue
def allF (h n N : Nat) : D := .lst ((List.range N).map fun (i : Nat) => dRows (floorL h 2 n (i : Int)))
theorem ne_21 : cmpF .ne (allF 2 1 4) (allF 2 1 4) = .ok (.bl false) := by kernel_rfl
theorem ne_31 : cmpF .ne (allF 3 1 9) (allF 3 1 9) = .ok (.bl false) := by kernel_rfl
theorem ne_22 : cmpF .ne (allF 2 2 14) (allF 2 2 14) = .ok (.bl false) := by kernel_rfl
theorem ne_32 : cmpF .ne (allF 3 2 78) (allF 3 2 78) = .ok (.bl false) := by kernel_rfl
theorem allF_len (h n N : Nat) : primF .len [allF h n N] = .ok (.int (N : Int)) := by
  unfold allF
  rw [lenL, List.length_map, List.length_range]
theorem all_comp {h n N : Nat} (k : Kd h 2) (hn : 1 ≤ n ∧ n ≤ 8) (hc : countL h 2 n = (N : Int)) (hN : N ≤ 1000) (v0 v1 v2 v4 v6 v7 v9 : Option D) :
    ev (.comp b_law_k02_3 (.nm 9) (.rng1 (.prim .len (.cons (.var 8) .nil))) .none [9]) [v0, v1, v2, some (.int (h : Int)), v4, some (.int (n : Int)), v6, v7, some (allF h n N), v9] = .ok (allF h n N) := by
  have hr : rng1F (.int (N : Int)) = .ok (rangeL 0 N 1) := rngNat rfl (by omega)
  simp only [run_eq, evSs_cons, evSs_nil, evS_par, evS_asg, evS_asgT, evS_asgR, evS_app, evS_ext, evS_ite, evS_for, evS_ret, evS_raise, evS_expr, evS_pass, ev_bin, ev_var, ev_lit, ev_cmp, ev_chn, ev_isN, ev_notN, ev_and, ev_or, ev_not, ev_ite, ev_call, ev_prim, ev_meth, ev_rev, ev_idx, ev_slc, ev_lst, ev_tup, ev_comp, ev_neg, evs_cons, evs_nil, evO_none, evO_some, evC_none, evC_some, evI_seq, evI_rng1, evI_rng2, evI_enm, evI_zip, partI, then_ok, nx_then, rt_then, ex_then, addI, subI, mulI, fdivI, modI, ltI, leI, gtI, geI, eqI, truthB, ite_and, ite_or, Bool.true_and, Bool.false_and, Bool.and_true, Bool.and_false, Bool.true_or, Bool.false_or, Bool.or_true, Bool.or_false, lim_if, lim_if2, shal_int, shal_bl, shal_str, shal_non, decide_true, decide_false, setAll, bindTg, bindOk, bindExc, ofSome, List.map_cons, List.map_nil, List.length_cons, List.length_nil, List.cons_append, List.nil_append, List.append_nil, List.replicate, List.getElem?_cons_zero, List.getElem?_cons_succ, List.set_cons_zero, List.set_cons_succ, Nat.reduceAdd, Nat.reduceSub, isI_int, isB_int, if_true, if_false, Bool.false_eq_true, Bool.not_true, Bool.not_false, allF_len, hr, wipeE]
  unfold rangeL
  rw [compA (g := fun (i : Nat) => dRows (floorL h 2 n (i : Int))) fun i hi => ⟨_, rfl, rfl, ?_⟩]
  · simp only [run_eq, evSs_cons, evSs_nil, evS_par, evS_asg, evS_asgT, evS_asgR, evS_app, evS_ext, evS_ite, evS_for, evS_ret, evS_raise, evS_expr, evS_pass, ev_bin, ev_var, ev_lit, ev_cmp, ev_chn, ev_isN, ev_notN, ev_and, ev_or, ev_not, ev_ite, ev_call, ev_prim, ev_meth, ev_rev, ev_idx, ev_slc, ev_lst, ev_tup, ev_comp, ev_neg, evs_cons, evs_nil, evO_none, evO_some, evC_none, evC_some, evI_seq, evI_rng1, evI_rng2, evI_enm, evI_zip, partI, then_ok, nx_then, rt_then, ex_then, addI, subI, mulI, fdivI, modI, ltI, leI, gtI, geI, eqI, truthB, ite_and, ite_or, Bool.true_and, Bool.false_and, Bool.and_true, Bool.and_false, Bool.true_or, Bool.false_or, Bool.or_true, Bool.or_false, lim_if, lim_if2, shal_int, shal_bl, shal_str, shal_non, decide_true, decide_false, setAll, bindTg, bindOk, bindExc, ofSome, List.map_cons, List.map_nil, List.length_cons, List.length_nil, List.cons_append, List.nil_append, List.append_nil, List.replicate, List.getElem?_cons_zero, List.getElem?_cons_succ, List.set_cons_zero, List.set_cons_succ, Nat.reduceAdd, Nat.reduceSub, isI_int, isB_int, if_true, if_false, Bool.false_eq_true, Bool.not_true, Bool.not_false, noExc_ok]
    rfl
  · have hi : i < N := List.mem_range.mp hi
    have hf := floor_by_ok k hn (m := (0 : Int) + (i : Int) * 1) (by omega) (by omega)
    rw [show ((2 : Nat) : Int) = 2 from rfl] at hf
    simp only [run_eq, evSs_cons, evSs_nil, evS_par, evS_asg, evS_asgT, evS_asgR, evS_app, evS_ext, evS_ite, evS_for, evS_ret, evS_raise, evS_expr, evS_pass, ev_bin, ev_var, ev_lit, ev_cmp, ev_chn, ev_isN, ev_notN, ev_and, ev_or, ev_not, ev_ite, ev_call, ev_prim, ev_meth, ev_rev, ev_idx, ev_slc, ev_lst, ev_tup, ev_comp, ev_neg, evs_cons, evs_nil, evO_none, evO_some, evC_none, evC_some, evI_seq, evI_rng1, evI_rng2, evI_enm, evI_zip, partI, then_ok, nx_then, rt_then, ex_then, addI, subI, mulI, fdivI, modI, ltI, leI, gtI, geI, eqI, truthB, ite_and, ite_or, Bool.true_and, Bool.false_and, Bool.and_true, Bool.and_false, Bool.true_or, Bool.false_or, Bool.or_true, Bool.or_false, lim_if, lim_if2, shal_int, shal_bl, shal_str, shal_non, decide_true, decide_false, setAll, bindTg, bindOk, bindExc, ofSome, List.map_cons, List.map_nil, List.length_cons, List.length_nil, List.cons_append, List.nil_append, List.append_nil, List.replicate, List.getElem?_cons_zero, List.getElem?_cons_succ, List.set_cons_zero, List.set_cons_succ, Nat.reduceAdd, Nat.reduceSub, isI_int, isB_int, if_true, if_false, Bool.false_eq_true, Bool.not_true, Bool.not_false, b_law_k02_3, hf]
    rw [show (0 : Int) + (i : Int) * 1 = i by omega]
theorem few_ok (s : Int) : ∃ h n N : Nat, 2 + s % 2 = (h : Int) ∧ 1 + s / 2 % 2 = (n : Int) ∧ Kd h 2 ∧ (1 ≤ n ∧ n ≤ 8) ∧ countL h 2 n = (N : Int) ∧ N ≤ 1000 ∧ den_l_all [.int (h : Int), .int 2, .int (n : Int)] = .ok (allF h n N) ∧ cmpF .ne (allF h n N) (allF h n N) = .ok (.bl false) := by
  have c21 : countL 2 2 1 = ((4 : Nat) : Int) := by decide +kernel
  have c31 : countL 3 2 1 = ((9 : Nat) : Int) := by decide +kernel
  have c22 : countL 2 2 2 = ((14 : Nat) : Int) := by decide +kernel
  have c32 : countL 3 2 2 = ((78 : Nat) : Int) := by decide +kernel
  have m1 : s % 2 = 0 ∨ s % 2 = 1 := by omega
  have m2 : s / 2 % 2 = 0 ∨ s / 2 % 2 = 1 := by omega
  rcases m1 with m1 | m1 <;> rcases m2 with m2 | m2
  · exact ⟨2, 1, 4, by omega, by omega, by unfold Kd; omega, by omega, c21, by omega, all_21, ne_21⟩
  · exact ⟨2, 2, 14, by omega, by omega, by unfold Kd; omega, by omega, c22, by omega, all_22, ne_22⟩
  · exact ⟨3, 1, 9, by omega, by omega, by unfold Kd; omega, by omega, c31, by omega, all_31, ne_31⟩
  · exact ⟨3, 2, 78, by omega, by omega, by unfold Kd; omega, by omega, c32, by omega, all_32, ne_32⟩
theorem last_k02 (h : D) (e : Env) : ev (.and (.cmp .eq (.call den_floor_by true (.cons (.lit (.int 2)) (.cons (.lit (.int 2)) (.cons (.lit (.int 2)) (.cons (.lit (.int 0)) .nil))))) (.lst (.cons (.lit (.str [48, 48])) (.cons (.lit (.str [48, 49])) .nil)))) (.and (.cmp .eq (.call den_number_of false (.cons (.lit (.int 2)) (.cons (.lst (.cons (.lit (.str [49, 49])) (.cons (.lit (.str [49, 48])) .nil))) .nil))) (.lit (.int 13))) (.call den_l_whole false (.cons (.call den_number_of false (.cons (.lit (.int 2)) (.cons (.lst (.cons (.lit (.str [48])) .nil)) .nil))) .nil)))) e = .ok (.bl true) := by
  have a1 : den_floor_by [.int 2, .int 2, .int 2, .int 0] = .ok (.lst [.str [48, 48], .str [48, 49]]) := by kernel_rfl
  have a2 : den_number_of [.int 2, .lst [.str [49, 49], .str [49, 48]]] = .ok (.int 13) := by kernel_rfl
  have a3 : den_number_of [.int 2, .lst [.str [48]]] = .ok (.int 0) := by kernel_rfl
  have a4 : cmpF .eq (.lst [.str [48, 48], .str [48, 49]]) (.lst [.str [48, 48], .str [48, 49]]) = .ok (.bl true) := by kernel_rfl
  have a5 : den_l_whole [.int 0] = .ok (.bl true) := by kernel_rfl
  have a6 : cmpF .eq (.int 13) (.int 13) = .ok (.bl true) := by kernel_rfl
  simp (disch := omega) only [run_eq, evSs_cons, evSs_nil, evS_par, evS_asg, evS_asgT, evS_asgR, evS_app, evS_ext, evS_ite, evS_for, evS_ret, evS_raise, evS_expr, evS_pass, ev_bin, ev_var, ev_lit, ev_cmp, ev_chn, ev_isN, ev_notN, ev_and, ev_or, ev_not, ev_ite, ev_call, ev_prim, ev_meth, ev_rev, ev_idx, ev_slc, ev_lst, ev_tup, ev_comp, ev_neg, evs_cons, evs_nil, evO_none, evO_some, evC_none, evC_some, evI_seq, evI_rng1, evI_rng2, evI_enm, evI_zip, partI, then_ok, nx_then, rt_then, ex_then, addI, subI, mulI, fdivI, modI, ltI, leI, gtI, geI, eqI, truthB, ite_and, ite_or, Bool.true_and, Bool.false_and, Bool.and_true, Bool.and_false, Bool.true_or, Bool.false_or, Bool.or_true, Bool.or_false, lim_if, lim_if2, shal_int, shal_bl, shal_str, shal_non, decide_true, decide_false, setAll, bindTg, bindOk, bindExc, ofSome, List.map_cons, List.map_nil, List.length_cons, List.length_nil, List.cons_append, List.nil_append, List.append_nil, List.replicate, List.getElem?_cons_zero, List.getElem?_cons_succ, List.set_cons_zero, List.set_cons_succ, Nat.reduceAdd, Nat.reduceSub, isI_int, isB_int, if_true, if_false, Bool.false_eq_true, Bool.not_true, Bool.not_false, a1, a2, a3, a4, a5, a6]
theorem k02_pure (ns : List Int) (hl : ns.length ≤ 63) : den_law_k02 [.scr (ns.map D.int)] = .ok (.bl true) := by
  obtain ⟨s, hs, es⟩ : ∃ s : Int, 0 ≤ s ∧ primF .abs [.int (ns.take 63).sum] = .ok (.int s) := ⟨_, (by split <;> omega), absI _⟩
  have key := forL_inv0 (f := evSs b_law_k02_2) (tg := .nm 2) (items := rangeL 0 2 1)
    (fun i e => ∃ v2 v3 v4 v5 v6 v7 v8 v9, e = [some (.scr (ns.map D.int)), some (.int s), v2, v3, v4, v5, v6, v7, v8, v9])
    (e := [some (.scr (ns.map D.int)), some (.int s), none, none, none, none, none, none, none, none]) ⟨_, _, _, _, _, _, _, _, rfl⟩ fun i d e hd hp => by
      obtain ⟨hi, rfl⟩ := rangeL_at hd
      obtain ⟨v2, v3, v4, v5, v6, v7, v8, v9, rfl⟩ := hp
      obtain ⟨u3, u4, u5, u6, u7, u8, u9, hb⟩ := body_k02 ns s hs i (by omega) v3 v4 v5 v6 v7 v8 v9
      rw [show (0 : Int) + (i : Int) * 1 = i by omega]
      exact ⟨_, _, rfl, hb, _, _, _, _, _, _, _, _, rfl⟩
  obtain ⟨e', k1, v2, v3, v4, v5, v6, v7, v8, v9, rfl⟩ := key
  have hr : rng1F (.int 2) = .ok (rangeL 0 2 1) := rngNat (n := 2) rfl (by omega)
  obtain ⟨h, n, N, e1, e2, k, hn, hc, hN, ha, hne⟩ := few_ok s
  have hm := how_many_ok k (n := n) (by omega)
  rw [hc, show ((2 : Nat) : Int) = 2 from rfl] at hm
  have c1 := all_comp k hn hc hN (some (.scr (ns.map D.int))) (some (.int s)) v2 v4 v6 v7 v9
  have n1 : cmpF .ne (.int (N : Int)) (.int (N : Int)) = .ok (.bl false) := by rw [neI']; simp
  simp (disch := omega) only [run_eq, evSs_cons, evSs_nil, evS_par, evS_asg, evS_asgT, evS_asgR, evS_app, evS_ext, evS_ite, evS_for, evS_ret, evS_raise, evS_expr, evS_pass, ev_bin, ev_var, ev_lit, ev_cmp, ev_chn, ev_isN, ev_notN, ev_and, ev_or, ev_not, ev_ite, ev_call, ev_prim, ev_meth, ev_rev, ev_idx, ev_slc, ev_lst, ev_tup, ev_comp, ev_neg, evs_cons, evs_nil, evO_none, evO_some, evC_none, evC_some, evI_seq, evI_rng1, evI_rng2, evI_enm, evI_zip, partI, then_ok, nx_then, rt_then, ex_then, addI, subI, mulI, fdivI, modI, ltI, leI, gtI, geI, eqI, truthB, ite_and, ite_or, Bool.true_and, Bool.false_and, Bool.and_true, Bool.and_false, Bool.true_or, Bool.false_or, Bool.or_true, Bool.or_false, lim_if, lim_if2, shal_int, shal_bl, shal_str, shal_non, decide_true, decide_false, setAll, bindTg, bindOk, bindExc, ofSome, List.map_cons, List.map_nil, List.length_cons, List.length_nil, List.cons_append, List.nil_append, List.append_nil, List.replicate, List.getElem?_cons_zero, List.getElem?_cons_succ, List.set_cons_zero, List.set_cons_succ, Nat.reduceAdd, Nat.reduceSub, isI_int, isB_int, if_true, if_false, Bool.false_eq_true, Bool.not_true, Bool.not_false, den_law_k02, b_law_k02, slc_scr, sumI, es, hr, k1, e1, e2, ha, ↓c1, hne, hm, allF_len, n1, ↓last_k02 .non]
end Dn
namespace K02
open PySem PySem.Spec PyProof.Rows L2 Hue Dn
theorem all_mk {P : Program} {w : World} {K : PySem.W.Frag} {h : Heap} {mg : Str → Option Value} {fa : Addr} {e1 : Addr} {e2 : Addr} {e3 : Addr} {e4 : Addr} {e5 : Addr} {e9 : Addr} {tk0 : Tok} {tk1 : Tok} {tk2 : Tok} {f1 : Addr} {od1 an1 : Option Addr} {sl1 : Array (Option Value)} {oc1 kV1 dc1 pm1 cd1 ct1 : Value} {f2 : Addr} {od2 an2 : Option Addr} {sl2 : Array (Option Value)} {oc2 kV2 dc2 pm2 cd2 ct2 : Value} {f3 : Addr} {od3 an3 : Option Addr} {sl3 : Array (Option Value)} {oc3 kV3 dc3 pm3 cd3 ct3 : Value} {f4 : Addr} {od4 an4 : Option Addr} {sl4 : Array (Option Value)} {oc4 kV4 dc4 pm4 cd4 ct4 : Value} {f5 : Addr} {od5 an5 : Option Addr} {sl5 : Array (Option Value)} {oc5 kV5 dc5 pm5 cd5 ct5 : Value} {f6 : Addr} {od6 an6 : Option Addr} {sl6 : Array (Option Value)} {oc6 kV6 dc6 pm6 cd6 ct6 : Value} {f7 : Addr} {od7 an7 : Option Addr} {sl7 : Array (Option Value)} {oc7 kV7 dc7 pm7 cd7 ct7 : Value} {f8 : Addr} {od8 an8 : Option Addr} {sl8 : Array (Option Value)} {oc8 kV8 dc8 pm8 cd8 ct8 : Value} {f9 : Addr} {od9 an9 : Option Addr} {sl9 : Array (Option Value)} {oc9 kV9 dc9 pm9 cd9 ct9 : Value} {f10 : Addr} {od10 an10 : Option Addr} {sl10 : Array (Option Value)} {oc10 kV10 dc10 pm10 cd10 ct10 : Value} {f11 : Addr} {od11 an11 : Option Addr} {sl11 : Array (Option Value)} {oc11 kV11 dc11 pm11 cd11 ct11 : Value} {f12 : Addr} {od12 an12 : Option Addr} {sl12 : Array (Option Value)} {oc12 kV12 dc12 pm12 cd12 ct12 : Value} {f13 : Addr} {od13 an13 : Option Addr} {sl13 : Array (Option Value)} {oc13 kV13 dc13 pm13 cd13 ct13 : Value} {f14 : Addr} {od14 an14 : Option Addr} {sl14 : Array (Option Value)} {oc14 kV14 dc14 pm14 cd14 ct14 : Value} {f15 : Addr} {od15 an15 : Option Addr} {sl15 : Array (Option Value)} {oc15 kV15 dc15 pm15 cd15 ct15 : Value} {f16 : Addr} {od16 an16 : Option Addr} {sl16 : Array (Option Value)} {oc16 kV16 dc16 pm16 cd16 ct16 : Value} {f17 : Addr} {od17 an17 : Option Addr} {sl17 : Array (Option Value)} {oc17 kV17 dc17 pm17 cd17 ct17 : Value} {f18 : Addr} {od18 an18 : Option Addr} {sl18 : Array (Option Value)} {oc18 kV18 dc18 pm18 cd18 ct18 : Value} {f19 : Addr} {od19 an19 : Option Addr} {sl19 : Array (Option Value)} {oc19 kV19 dc19 pm19 cd19 ct19 : Value} {f20 : Addr} {od20 an20 : Option Addr} {sl20 : Array (Option Value)} {oc20 kV20 dc20 pm20 cd20 ct20 : Value} {f21 : Addr} {od21 an21 : Option Addr} {sl21 : Array (Option Value)} {oc21 kV21 dc21 pm21 cd21 ct21 : Value} {f22 : Addr} {od22 an22 : Option Addr} {sl22 : Array (Option Value)} {oc22 kV22 dc22 pm22 cd22 ct22 : Value} {f23 : Addr} {od23 an23 : Option Addr} {sl23 : Array (Option Value)} {oc23 kV23 dc23 pm23 cd23 ct23 : Value} {f24 : Addr} {od24 an24 : Option Addr} {sl24 : Array (Option Value)} {oc24 kV24 dc24 pm24 cd24 ct24 : Value} {f25 : Addr} {od25 an25 : Option Addr} {sl25 : Array (Option Value)} {oc25 kV25 dc25 pm25 cd25 ct25 : Value} {f26 : Addr} {od26 an26 : Option Addr} {sl26 : Array (Option Value)} {oc26 kV26 dc26 pm26 cd26 ct26 : Value} {f27 : Addr} {od27 an27 : Option Addr} {sl27 : Array (Option Value)} {oc27 kV27 dc27 pm27 cd27 ct27 : Value} (X : K.In h) (G : h.Ns mainGlobals mg) (hfa : mg "law" = some (.ref fa))
    (ea1 : PySem.W.nsIn K mainGlobals "BadHues" = some (some (.ref e1)))
    (eb1 : PySem.W.excIn K e1 [.type "ValueError", .type "Exception", .type "BaseException", .type "object"] "ValueError.__new__" = true)
    (ec1 : PySem.W.keepIn K (.ref e1) = true)
    (ed1 : PySem.W.subIn K (.ref e1) (.type "BaseException") = some true)
    (ee1 : PySem.W.typeIn K (.ref e1) = some (.type "type"))
    (ea2 : PySem.W.nsIn K mainGlobals "BadWide" = some (some (.ref e2)))
    (eb2 : PySem.W.excIn K e2 [.type "ValueError", .type "Exception", .type "BaseException", .type "object"] "ValueError.__new__" = true)
    (ec2 : PySem.W.keepIn K (.ref e2) = true)
    (ed2 : PySem.W.subIn K (.ref e2) (.type "BaseException") = some true)
    (ee2 : PySem.W.typeIn K (.ref e2) = some (.type "type"))
    (ea3 : PySem.W.nsIn K mainGlobals "BadHigh" = some (some (.ref e3)))
    (eb3 : PySem.W.excIn K e3 [.type "ValueError", .type "Exception", .type "BaseException", .type "object"] "ValueError.__new__" = true)
    (ec3 : PySem.W.keepIn K (.ref e3) = true)
    (ed3 : PySem.W.subIn K (.ref e3) (.type "BaseException") = some true)
    (ee3 : PySem.W.typeIn K (.ref e3) = some (.type "type"))
    (ea4 : PySem.W.nsIn K mainGlobals "BadFloor" = some (some (.ref e4)))
    (eb4 : PySem.W.excIn K e4 [.type "ValueError", .type "Exception", .type "BaseException", .type "object"] "ValueError.__new__" = true)
    (ec4 : PySem.W.keepIn K (.ref e4) = true)
    (ed4 : PySem.W.subIn K (.ref e4) (.type "BaseException") = some true)
    (ee4 : PySem.W.typeIn K (.ref e4) = some (.type "type"))
    (ea5 : PySem.W.nsIn K mainGlobals "BadNumber" = some (some (.ref e5)))
    (eb5 : PySem.W.excIn K e5 [.type "ValueError", .type "Exception", .type "BaseException", .type "object"] "ValueError.__new__" = true)
    (ec5 : PySem.W.keepIn K (.ref e5) = true)
    (ed5 : PySem.W.subIn K (.ref e5) (.type "BaseException") = some true)
    (ee5 : PySem.W.typeIn K (.ref e5) = some (.type "type"))
    (ea9 : PySem.W.nsIn K mainGlobals "NotLively" = some (some (.ref e9)))
    (eb9 : PySem.W.excIn K e9 [.type "ValueError", .type "Exception", .type "BaseException", .type "object"] "ValueError.__new__" = true)
    (ec9 : PySem.W.keepIn K (.ref e9) = true)
    (ed9 : PySem.W.subIn K (.ref e9) (.type "BaseException") = some true)
    (ee9 : PySem.W.typeIn K (.ref e9) = some (.type "type"))
    (ca0 : PySem.W.nsIn K mainGlobals "SIGNS" = some (some (.str "012" tk0)))
    (ca1 : PySem.W.nsIn K mainGlobals "HIGHEST" = some (some (.int 8 tk1)))
    (ca2 : PySem.W.nsIn K mainGlobals "GREATEST" = some (some (.int 200 tk2)))
    (a1 : PySem.W.nsIn K mainGlobals "is_whole" = some (some (.ref f1)))
    (l1 : K.lookup f1 = some ⟨oc1, od1, .func (PySem.W.fnOf "is_whole" "is_whole" (defArgs s_is_whole) (defBody s_is_whole) (defScope s_is_whole) .none kV1 dc1 pm1 an1 cd1 ct1), sl1⟩)
    (c1 : PySem.W.codeIn K cd1 "is_whole" = true)
    (k1 : PySem.W.keepIn K (.ref f1) = true)
    (a2 : PySem.W.nsIn K mainGlobals "is_between" = some (some (.ref f2)))
    (l2 : K.lookup f2 = some ⟨oc2, od2, .func (PySem.W.fnOf "is_between" "is_between" (defArgs s_is_between) (defBody s_is_between) (defScope s_is_between) .none kV2 dc2 pm2 an2 cd2 ct2), sl2⟩)
    (c2 : PySem.W.codeIn K cd2 "is_between" = true)
    (k2 : PySem.W.keepIn K (.ref f2) = true)
    (a3 : PySem.W.nsIn K mainGlobals "check_hues" = some (some (.ref f3)))
    (l3 : K.lookup f3 = some ⟨oc3, od3, .func (PySem.W.fnOf "check_hues" "check_hues" (defArgs s_check_hues) (defBody s_check_hues) (defScope s_check_hues) .none kV3 dc3 pm3 an3 cd3 ct3), sl3⟩)
    (c3 : PySem.W.codeIn K cd3 "check_hues" = true)
    (k3 : PySem.W.keepIn K (.ref f3) = true)
    (a4 : PySem.W.nsIn K mainGlobals "widest" = some (some (.ref f4)))
    (l4 : K.lookup f4 = some ⟨oc4, od4, .func (PySem.W.fnOf "widest" "widest" (defArgs s_widest) (defBody s_widest) (defScope s_widest) .none kV4 dc4 pm4 an4 cd4 ct4), sl4⟩)
    (c4 : PySem.W.codeIn K cd4 "widest" = true)
    (k4 : PySem.W.keepIn K (.ref f4) = true)
    (a5 : PySem.W.nsIn K mainGlobals "check_wide" = some (some (.ref f5)))
    (l5 : K.lookup f5 = some ⟨oc5, od5, .func (PySem.W.fnOf "check_wide" "check_wide" (defArgs s_check_wide) (defBody s_check_wide) (defScope s_check_wide) .none kV5 dc5 pm5 an5 cd5 ct5), sl5⟩)
    (c5 : PySem.W.codeIn K cd5 "check_wide" = true)
    (k5 : PySem.W.keepIn K (.ref f5) = true)
    (a6 : PySem.W.nsIn K mainGlobals "check_high" = some (some (.ref f6)))
    (l6 : K.lookup f6 = some ⟨oc6, od6, .func (PySem.W.fnOf "check_high" "check_high" (defArgs s_check_high) (defBody s_check_high) (defScope s_check_high) .none kV6 dc6 pm6 an6 cd6 ct6), sl6⟩)
    (c6 : PySem.W.codeIn K cd6 "check_high" = true)
    (k6 : PySem.W.keepIn K (.ref f6) = true)
    (a7 : PySem.W.nsIn K mainGlobals "are_rows" = some (some (.ref f7)))
    (l7 : K.lookup f7 = some ⟨oc7, od7, .func (PySem.W.fnOf "are_rows" "are_rows" (defArgs s_are_rows) (defBody s_are_rows) (defScope s_are_rows) .none kV7 dc7 pm7 an7 cd7 ct7), sl7⟩)
    (c7 : PySem.W.codeIn K cd7 "are_rows" = true)
    (k7 : PySem.W.keepIn K (.ref f7) = true)
    (a8 : PySem.W.nsIn K mainGlobals "check_floor" = some (some (.ref f8)))
    (l8 : K.lookup f8 = some ⟨oc8, od8, .func (PySem.W.fnOf "check_floor" "check_floor" (defArgs s_check_floor) (defBody s_check_floor) (defScope s_check_floor) .none kV8 dc8 pm8 an8 cd8 ct8), sl8⟩)
    (c8 : PySem.W.codeIn K cd8 "check_floor" = true)
    (k8 : PySem.W.keepIn K (.ref f8) = true)
    (a9 : PySem.W.nsIn K mainGlobals "rows_of" = some (some (.ref f9)))
    (l9 : K.lookup f9 = some ⟨oc9, od9, .func (PySem.W.fnOf "rows_of" "rows_of" (defArgs s_rows_of) (defBody s_rows_of) (defScope s_rows_of) .none kV9 dc9 pm9 an9 cd9 ct9), sl9⟩)
    (c9 : PySem.W.codeIn K cd9 "rows_of" = true)
    (k9 : PySem.W.keepIn K (.ref f9) = true)
    (a10 : PySem.W.nsIn K mainGlobals "go_together" = some (some (.ref f10)))
    (l10 : K.lookup f10 = some ⟨oc10, od10, .func (PySem.W.fnOf "go_together" "go_together" (defArgs s_go_together) (defBody s_go_together) (defScope s_go_together) .none kV10 dc10 pm10 an10 cd10 ct10), sl10⟩)
    (c10 : PySem.W.codeIn K cd10 "go_together" = true)
    (k10 : PySem.W.keepIn K (.ref f10) = true)
    (a11 : PySem.W.nsIn K mainGlobals "is_lively" = some (some (.ref f11)))
    (l11 : K.lookup f11 = some ⟨oc11, od11, .func (PySem.W.fnOf "is_lively" "is_lively" (defArgs s_is_lively) (defBody s_is_lively) (defScope s_is_lively) .none kV11 dc11 pm11 an11 cd11 ct11), sl11⟩)
    (c11 : PySem.W.codeIn K cd11 "is_lively" = true)
    (k11 : PySem.W.keepIn K (.ref f11) = true)
    (a12 : PySem.W.nsIn K mainGlobals "near_of" = some (some (.ref f12)))
    (l12 : K.lookup f12 = some ⟨oc12, od12, .func (PySem.W.fnOf "near_of" "near_of" (defArgs s_near_of) (defBody s_near_of) (defScope s_near_of) .none kV12 dc12 pm12 an12 cd12 ct12), sl12⟩)
    (c12 : PySem.W.codeIn K cd12 "near_of" = true)
    (k12 : PySem.W.keepIn K (.ref f12) = true)
    (a13 : PySem.W.nsIn K mainGlobals "ways_of" = some (some (.ref f13)))
    (l13 : K.lookup f13 = some ⟨oc13, od13, .func (PySem.W.fnOf "ways_of" "ways_of" (defArgs s_ways_of) (defBody s_ways_of) (defScope s_ways_of) .none kV13 dc13 pm13 an13 cd13 ct13), sl13⟩)
    (c13 : PySem.W.codeIn K cd13 "ways_of" = true)
    (k13 : PySem.W.keepIn K (.ref f13) = true)
    (a14 : PySem.W.nsIn K mainGlobals "how_many" = some (some (.ref f14)))
    (l14 : K.lookup f14 = some ⟨oc14, od14, .func (PySem.W.fnOf "how_many" "how_many" (defArgs s_how_many) (defBody s_how_many) (defScope s_how_many) .none kV14 dc14 pm14 an14 cd14 ct14), sl14⟩)
    (c14 : PySem.W.codeIn K cd14 "how_many" = true)
    (k14 : PySem.W.keepIn K (.ref f14) = true)
    (a15 : PySem.W.nsIn K mainGlobals "floor_of" = some (some (.ref f15)))
    (l15 : K.lookup f15 = some ⟨oc15, od15, .func (PySem.W.fnOf "floor_of" "floor_of" (defArgs s_floor_of) (defBody s_floor_of) (defScope s_floor_of) .none kV15 dc15 pm15 an15 cd15 ct15), sl15⟩)
    (c15 : PySem.W.codeIn K cd15 "floor_of" = true)
    (k15 : PySem.W.keepIn K (.ref f15) = true)
    (a16 : PySem.W.nsIn K mainGlobals "floor_by" = some (some (.ref f16)))
    (l16 : K.lookup f16 = some ⟨oc16, od16, .func (PySem.W.fnOf "floor_by" "floor_by" (defArgs s_floor_by) (defBody s_floor_by) (defScope s_floor_by) .none kV16 dc16 pm16 an16 cd16 ct16), sl16⟩)
    (c16 : PySem.W.codeIn K cd16 "floor_by" = true)
    (k16 : PySem.W.keepIn K (.ref f16) = true)
    (a17 : PySem.W.nsIn K mainGlobals "check_lively" = some (some (.ref f17)))
    (l17 : K.lookup f17 = some ⟨oc17, od17, .func (PySem.W.fnOf "check_lively" "check_lively" (defArgs s_check_lively) (defBody s_check_lively) (defScope s_check_lively) .none kV17 dc17 pm17 an17 cd17 ct17), sl17⟩)
    (c17 : PySem.W.codeIn K cd17 "check_lively" = true)
    (k17 : PySem.W.keepIn K (.ref f17) = true)
    (a18 : PySem.W.nsIn K mainGlobals "number_of" = some (some (.ref f18)))
    (l18 : K.lookup f18 = some ⟨oc18, od18, .func (PySem.W.fnOf "number_of" "number_of" (defArgs s_number_of) (defBody s_number_of) (defScope s_number_of) .none kV18 dc18 pm18 an18 cd18 ct18), sl18⟩)
    (c18 : PySem.W.codeIn K cd18 "number_of" = true)
    (k18 : PySem.W.keepIn K (.ref f18) = true)
    (a19 : PySem.W.nsIn K mainGlobals "next_one" = some (some (.ref f19)))
    (l19 : K.lookup f19 = some ⟨oc19, od19, .func (PySem.W.fnOf "next_one" "next_one" (defArgs s_next_one) (defBody s_next_one) (defScope s_next_one) .none kV19 dc19 pm19 an19 cd19 ct19), sl19⟩)
    (c19 : PySem.W.codeIn K cd19 "next_one" = true)
    (k19 : PySem.W.keepIn K (.ref f19) = true)
    (a20 : PySem.W.nsIn K mainGlobals "_law_number" = some (some (.ref f20)))
    (l20 : K.lookup f20 = some ⟨oc20, od20, .func (PySem.W.fnOf "_law_number" "_law_number" (defArgs s_l_number) (defBody s_l_number) (defScope s_l_number) .none kV20 dc20 pm20 an20 cd20 ct20), sl20⟩)
    (c20 : PySem.W.codeIn K cd20 "_law_number" = true)
    (k20 : PySem.W.keepIn K (.ref f20) = true)
    (a21 : PySem.W.nsIn K mainGlobals "_law_kind" = some (some (.ref f21)))
    (l21 : K.lookup f21 = some ⟨oc21, od21, .func (PySem.W.fnOf "_law_kind" "_law_kind" (defArgs s_l_kind) (defBody s_l_kind) (defScope s_l_kind) .none kV21 dc21 pm21 an21 cd21 ct21), sl21⟩)
    (c21 : PySem.W.codeIn K cd21 "_law_kind" = true)
    (k21 : PySem.W.keepIn K (.ref f21) = true)
    (a22 : PySem.W.nsIn K mainGlobals "_law_whole" = some (some (.ref f22)))
    (l22 : K.lookup f22 = some ⟨oc22, od22, .func (PySem.W.fnOf "_law_whole" "_law_whole" (defArgs s_l_whole) (defBody s_l_whole) (defScope s_l_whole) .none kV22 dc22 pm22 an22 cd22 ct22), sl22⟩)
    (c22 : PySem.W.codeIn K cd22 "_law_whole" = true)
    (k22 : PySem.W.keepIn K (.ref f22) = true)
    (a23 : PySem.W.nsIn K mainGlobals "_law_two" = some (some (.ref f23)))
    (l23 : K.lookup f23 = some ⟨oc23, od23, .func (PySem.W.fnOf "_law_two" "_law_two" (defArgs s_l_two) (defBody s_l_two) (defScope s_l_two) .none kV23 dc23 pm23 an23 cd23 ct23), sl23⟩)
    (c23 : PySem.W.codeIn K cd23 "_law_two" = true)
    (k23 : PySem.W.keepIn K (.ref f23) = true)
    (a24 : PySem.W.nsIn K mainGlobals "_law_good" = some (some (.ref f24)))
    (l24 : K.lookup f24 = some ⟨oc24, od24, .func (PySem.W.fnOf "_law_good" "_law_good" (defArgs s_l_good) (defBody s_l_good) (defScope s_l_good) .none kV24 dc24 pm24 an24 cd24 ct24), sl24⟩)
    (c24 : PySem.W.codeIn K cd24 "_law_good" = true)
    (k24 : PySem.W.keepIn K (.ref f24) = true)
    (a25 : PySem.W.nsIn K mainGlobals "_law_all" = some (some (.ref f25)))
    (l25 : K.lookup f25 = some ⟨oc25, od25, .func (PySem.W.fnOf "_law_all" "_law_all" (defArgs s_l_all) (defBody s_l_all) (defScope s_l_all) .none kV25 dc25 pm25 an25 cd25 ct25), sl25⟩)
    (c25 : PySem.W.codeIn K cd25 "_law_all" = true)
    (k25 : PySem.W.keepIn K (.ref f25) = true)
    (a26 : PySem.W.nsIn K mainGlobals "_law_one_right" = some (some (.ref f26)))
    (l26 : K.lookup f26 = some ⟨oc26, od26, .func (PySem.W.fnOf "_law_one_right" "_law_one_right" (defArgs s_l_one_right) (defBody s_l_one_right) (defScope s_l_one_right) .none kV26 dc26 pm26 an26 cd26 ct26), sl26⟩)
    (c26 : PySem.W.codeIn K cd26 "_law_one_right" = true)
    (k26 : PySem.W.keepIn K (.ref f26) = true)
    (a27 : PySem.W.nsIn K mainGlobals "law" = some (some (.ref f27)))
    (l27 : K.lookup f27 = some ⟨oc27, od27, .func (PySem.W.fnOf "law" "law" (defArgs s_law_k02) (defBody s_law_k02) (defScope s_law_k02) .none kV27 dc27 pm27 an27 cd27 ct27), sl27⟩)
    (c27 : PySem.W.codeIn K cd27 "law" = true)
    (k27 : PySem.W.keepIn K (.ref f27) = true)
    (z0 : PySem.W.nsIn K mainGlobals "len" = some none)
    (z1 : PySem.W.nsIn K mainGlobals "sum" = some none)
    (z2 : PySem.W.nsIn K mainGlobals "min" = some none)
    (z3 : PySem.W.nsIn K mainGlobals "max" = some none)
    (z4 : PySem.W.nsIn K mainGlobals "any" = some none)
    (z5 : PySem.W.nsIn K mainGlobals "all" = some none)
    (z6 : PySem.W.nsIn K mainGlobals "abs" = some none)
    (z7 : PySem.W.nsIn K mainGlobals "list" = some none)
    (z8 : PySem.W.nsIn K mainGlobals "int" = some none)
    (z9 : PySem.W.nsIn K mainGlobals "sorted" = some none)
    (z10 : PySem.W.nsIn K mainGlobals "set" = some none)
    (z11 : PySem.W.nsIn K mainGlobals "range" = some none)
    (z12 : PySem.W.nsIn K mainGlobals "enumerate" = some none)
    (z13 : PySem.W.nsIn K mainGlobals "zip" = some none)
    (z14 : PySem.W.nsIn K mainGlobals "isinstance" = some none)
    (z15 : PySem.W.nsIn K mainGlobals "bool" = some none)
    (z16 : PySem.W.nsIn K mainGlobals "str" = some none)
    (z17 : PySem.W.nsIn K mainGlobals "tuple" = some none) :
    ∃ fd : FuncData, (∀ (s : Shared) (v : Value), BindsTo s fd ⟨[v], []⟩ [("_law_script", v)]) ∧ ∀ base : Heap, K.In base → base.Ns mainGlobals mg → FnOk P w K mg base (L2.CX P w) 27 fa fd ["_law_script"] (spLaw K) := by
  have e := hfa.symm.trans (PySem.W.mg_of X G a27)
  cases e
  have bl : ∀ x ∈ bnames, mg x = none := by
    intro x hx
    simp only [bnames, List.mem_cons, List.not_mem_nil, or_false] at hx
    rcases hx with rfl | rfl | rfl | rfl | rfl | rfl | rfl | rfl | rfl | rfl | rfl | rfl | rfl | rfl | rfl | rfl | rfl | rfl
    · exact PySem.W.mg_none_of X G z0
    · exact PySem.W.mg_none_of X G z1
    · exact PySem.W.mg_none_of X G z2
    · exact PySem.W.mg_none_of X G z3
    · exact PySem.W.mg_none_of X G z4
    · exact PySem.W.mg_none_of X G z5
    · exact PySem.W.mg_none_of X G z6
    · exact PySem.W.mg_none_of X G z7
    · exact PySem.W.mg_none_of X G z8
    · exact PySem.W.mg_none_of X G z9
    · exact PySem.W.mg_none_of X G z10
    · exact PySem.W.mg_none_of X G z11
    · exact PySem.W.mg_none_of X G z12
    · exact PySem.W.mg_none_of X G z13
    · exact PySem.W.mg_none_of X G z14
    · exact PySem.W.mg_none_of X G z15
    · exact PySem.W.mg_none_of X G z16
    · exact PySem.W.mg_none_of X G z17
  let Z : Wo := { K := K, exA := fun n => if n = 1 then e1 else if n = 2 then e2 else if n = 3 then e3 else if n = 4 then e4 else if n = 5 then e5 else if n = 9 then e9 else 0, clA := fun _ => 0, clF := fun _ => [] }
  have F1 := fun_mk (st := s_is_whole) l1 c1 k1
  have b1 := F1.binds (ps := ["thing"]) fun _ _ _ _ _ _ us hl => match us, hl with | [_], _ => rfl
  have F2 := fun_mk (st := s_is_between) l2 c2 k2
  have b2 := F2.binds (ps := ["thing", "low", "high"]) fun _ _ _ _ _ _ us hl => match us, hl with | [_, _, _], _ => rfl
  have F3 := fun_mk (st := s_check_hues) l3 c3 k3
  have b3 := F3.binds (ps := ["hues"]) fun _ _ _ _ _ _ us hl => match us, hl with | [_], _ => rfl
  have F4 := fun_mk (st := s_widest) l4 c4 k4
  have b4 := F4.binds (ps := ["hues"]) fun _ _ _ _ _ _ us hl => match us, hl with | [_], _ => rfl
  have F5 := fun_mk (st := s_check_wide) l5 c5 k5
  have b5 := F5.binds (ps := ["hues", "wide"]) fun _ _ _ _ _ _ us hl => match us, hl with | [_, _], _ => rfl
  have F6 := fun_mk (st := s_check_high) l6 c6 k6
  have b6 := F6.binds (ps := ["high", "most"]) fun _ _ _ _ _ _ us hl => match us, hl with | [_, _], _ => rfl
  have F7 := fun_mk (st := s_are_rows) l7 c7 k7
  have b7 := F7.binds (ps := ["hues", "thing", "signs"]) fun _ _ _ _ _ _ us hl => match us, hl with | [_, _, _], _ => rfl
  have F8 := fun_mk (st := s_check_floor) l8 c8 k8
  have b8 := F8.binds (ps := ["hues", "floor"]) fun _ _ _ _ _ _ us hl => match us, hl with | [_, _], _ => rfl
  have F9 := fun_mk (st := s_rows_of) l9 c9 k9
  have b9 := F9.binds (ps := ["hues", "wide"]) fun _ _ _ _ _ _ us hl => match us, hl with | [_, _], _ => rfl
  have F10 := fun_mk (st := s_go_together) l10 c10 k10
  have b10 := F10.binds (ps := ["above", "below"]) fun _ _ _ _ _ _ us hl => match us, hl with | [_, _], _ => rfl
  have F11 := fun_mk (st := s_is_lively) l11 c11 k11
  have b11 := F11.binds (ps := ["floor"]) fun _ _ _ _ _ _ us hl => match us, hl with | [_], _ => rfl
  have F12 := fun_mk (st := s_near_of) l12 c12 k12
  have b12 := F12.binds (ps := ["rows"]) fun _ _ _ _ _ _ us hl => match us, hl with | [_], _ => rfl
  have F13 := fun_mk (st := s_ways_of) l13 c13 k13
  have b13 := F13.binds (ps := ["near", "high"]) fun _ _ _ _ _ _ us hl => match us, hl with | [_, _], _ => rfl
  have F14 := fun_mk (st := s_how_many) l14 c14 k14
  have b14 := F14.binds (ps := ["hues", "wide", "high"]) fun _ _ _ _ _ _ us hl => match us, hl with | [_, _, _], _ => rfl
  have F15 := fun_mk (st := s_floor_of) l15 c15 k15
  have b15 := F15.binds (ps := ["hues", "wide", "high", "number"]) fun _ _ _ _ _ _ us hl => match us, hl with | [_, _, _, _], _ => rfl
  have F16 := fun_mk (st := s_floor_by) l16 c16 k16
  have b16 := F16.binds (ps := ["hues", "wide", "high", "number"]) fun _ _ _ _ _ _ us hl => match us, hl with | [_, _, _, _], _ => rfl
  have F17 := fun_mk (st := s_check_lively) l17 c17 k17
  have b17 := F17.binds (ps := ["hues", "floor"]) fun _ _ _ _ _ _ us hl => match us, hl with | [_, _], _ => rfl
  have F18 := fun_mk (st := s_number_of) l18 c18 k18
  have b18 := F18.binds (ps := ["hues", "floor"]) fun _ _ _ _ _ _ us hl => match us, hl with | [_, _], _ => rfl
  have F19 := fun_mk (st := s_next_one) l19 c19 k19
  have b19 := F19.binds (ps := ["hues", "floor"]) fun _ _ _ _ _ _ us hl => match us, hl with | [_, _], _ => rfl
  have F20 := fun_mk (st := s_l_number) l20 c20 k20
  have b20 := F20.binds (ps := ["_law_cell", "_law_at", "_law_whole_here"]) fun _ _ _ _ _ _ us hl => match us, hl with | [_, _, _], _ => rfl
  have F21 := fun_mk (st := s_l_kind) l21 c21 k21
  have b21 := F21.binds (ps := ["_law_script", "_law_by"]) fun _ _ _ _ _ _ us hl => match us, hl with | [_, _], _ => rfl
  have F22 := fun_mk (st := s_l_whole) l22 c22 k22
  have b22 := F22.binds (ps := ["_law_found"]) fun _ _ _ _ _ _ us hl => match us, hl with | [_], _ => rfl
  have F23 := fun_mk (st := s_l_two) l23 c23 k23
  have b23 := F23.binds (ps := ["_law_up", "_law_below"]) fun _ _ _ _ _ _ us hl => match us, hl with | [_, _], _ => rfl
  have F24 := fun_mk (st := s_l_good) l24 c24 k24
  have b24 := F24.binds (ps := ["_law_floor"]) fun _ _ _ _ _ _ us hl => match us, hl with | [_], _ => rfl
  have F25 := fun_mk (st := s_l_all) l25 c25 k25
  have b25 := F25.binds (ps := ["_law_hues", "_law_wide", "_law_high"]) fun _ _ _ _ _ _ us hl => match us, hl with | [_, _, _], _ => rfl
  have F26 := fun_mk (st := s_l_one_right) l26 c26 k26
  have b26 := F26.binds (ps := ["_law_hues", "_law_wide", "_law_high", "_law_number_here", "_law_many"]) fun _ _ _ _ _ _ us hl => match us, hl with | [_, _, _, _, _], _ => rfl
  have F27 := fun_mk (st := s_law_k02) l27 c27 k27
  have b27 := F27.binds (ps := ["_law_script"]) fun _ _ _ _ _ _ us hl => match us, hl with | [_], _ => rfl
  refine ⟨PySem.W.fnOf "law" "law" (defArgs s_law_k02) (defBody s_law_k02) (defScope s_law_k02) .none kV27 dc27 pm27 an27 cd27 ct27, fun s v => .of_eq rfl, fun base _ _ => ?_⟩
  have T : TabOk P w K mg base 0 Z t0 := by
    unfold t0
    refine tab_exc ?_ (PySem.W.mg_of X G ea1) eb1 ec1 ed1 ee1
    refine tab_exc ?_ (PySem.W.mg_of X G ea2) eb2 ec2 ed2 ee2
    refine tab_exc ?_ (PySem.W.mg_of X G ea3) eb3 ec3 ed3 ee3
    refine tab_exc ?_ (PySem.W.mg_of X G ea4) eb4 ec4 ed4 ee4
    refine tab_exc ?_ (PySem.W.mg_of X G ea5) eb5 ec5 ed5 ee5
    refine tab_exc ?_ (PySem.W.mg_of X G ea9) eb9 ec9 ed9 ee9
    refine tab_str ?_ (PySem.W.mg_of X G ca0) (by decide +kernel) (by decide)
    refine tab_int ?_ (PySem.W.mg_of X G ca1)
    refine tab_int ?_ (PySem.W.mg_of X G ca2)
    exact TabOk.nil
  replace T : TabOk P w K mg base 1 Z t1 := tab_def F1 sc_is_whole rfl bl T cm_is_whole (PySem.W.mg_of X G a1) b1 rfl rfl
  replace T : TabOk P w K mg base 2 Z t2 := tab_def F2 sc_is_between rfl bl T cm_is_between (PySem.W.mg_of X G a2) b2 rfl rfl
  replace T : TabOk P w K mg base 3 Z t3 := tab_def F3 sc_check_hues rfl bl T cm_check_hues (PySem.W.mg_of X G a3) b3 rfl rfl
  replace T : TabOk P w K mg base 4 Z t4 := tab_def F4 sc_widest rfl bl T cm_widest (PySem.W.mg_of X G a4) b4 rfl rfl
  replace T : TabOk P w K mg base 5 Z t5 := tab_def F5 sc_check_wide rfl bl T cm_check_wide (PySem.W.mg_of X G a5) b5 rfl rfl
  replace T : TabOk P w K mg base 6 Z t6 := tab_def F6 sc_check_high rfl bl T cm_check_high (PySem.W.mg_of X G a6) b6 rfl rfl
  replace T : TabOk P w K mg base 7 Z t7 := tab_def F7 sc_are_rows rfl bl T cm_are_rows (PySem.W.mg_of X G a7) b7 rfl rfl
  replace T : TabOk P w K mg base 8 Z t8 := tab_def F8 sc_check_floor rfl bl T cm_check_floor (PySem.W.mg_of X G a8) b8 rfl rfl
  replace T : TabOk P w K mg base 9 Z t9 := tab_def F9 sc_rows_of rfl bl T cm_rows_of (PySem.W.mg_of X G a9) b9 rfl rfl
  replace T : TabOk P w K mg base 10 Z t10 := tab_def F10 sc_go_together rfl bl T cm_go_together (PySem.W.mg_of X G a10) b10 rfl rfl
  replace T : TabOk P w K mg base 11 Z t11 := tab_def F11 sc_is_lively rfl bl T cm_is_lively (PySem.W.mg_of X G a11) b11 rfl rfl
  replace T : TabOk P w K mg base 12 Z t12 := tab_def F12 sc_near_of rfl bl T cm_near_of (PySem.W.mg_of X G a12) b12 rfl rfl
  replace T : TabOk P w K mg base 13 Z t13 := tab_def F13 sc_ways_of rfl bl T cm_ways_of (PySem.W.mg_of X G a13) b13 rfl rfl
  replace T : TabOk P w K mg base 14 Z t14 := tab_def F14 sc_how_many rfl bl T cm_how_many (PySem.W.mg_of X G a14) b14 rfl rfl
  replace T : TabOk P w K mg base 15 Z t15 := tab_def F15 sc_floor_of rfl bl T cm_floor_of (PySem.W.mg_of X G a15) b15 rfl rfl
  replace T : TabOk P w K mg base 16 Z t16 := tab_def F16 sc_floor_by rfl bl T cm_floor_by (PySem.W.mg_of X G a16) b16 rfl rfl
  replace T : TabOk P w K mg base 17 Z t17 := tab_def F17 sc_check_lively rfl bl T cm_check_lively (PySem.W.mg_of X G a17) b17 rfl rfl
  replace T : TabOk P w K mg base 18 Z t18 := tab_def F18 sc_number_of rfl bl T cm_number_of (PySem.W.mg_of X G a18) b18 rfl rfl
  replace T : TabOk P w K mg base 19 Z t19 := tab_def F19 sc_next_one rfl bl T cm_next_one (PySem.W.mg_of X G a19) b19 rfl rfl
  replace T : TabOk P w K mg base 20 Z t20 := tab_def F20 sc_l_number rfl bl T cm_l_number (PySem.W.mg_of X G a20) b20 rfl rfl
  replace T : TabOk P w K mg base 21 Z t21 := tab_def F21 sc_l_kind rfl bl T cm_l_kind (PySem.W.mg_of X G a21) b21 rfl rfl
  replace T : TabOk P w K mg base 22 Z t22 := tab_def F22 sc_l_whole rfl bl T cm_l_whole (PySem.W.mg_of X G a22) b22 rfl rfl
  replace T : TabOk P w K mg base 23 Z t23 := tab_def F23 sc_l_two rfl bl T cm_l_two (PySem.W.mg_of X G a23) b23 rfl rfl
  replace T : TabOk P w K mg base 24 Z t24 := tab_def F24 sc_l_good rfl bl T cm_l_good (PySem.W.mg_of X G a24) b24 rfl rfl
  replace T : TabOk P w K mg base 25 Z t25 := tab_def F25 sc_l_all rfl bl T cm_l_all (PySem.W.mg_of X G a25) b25 rfl rfl
  replace T : TabOk P w K mg base 26 Z t26 := tab_def F26 sc_l_one_right rfl bl T cm_l_one_right (PySem.W.mg_of X G a26) b26 rfl rfl
  exact law_imp rfl (ok_def F27 sc_law_k02 rfl bl T cm_law_k02) k02_pure
end K02
open PySem PySem.W PyProof.Rows
set_option maxRecDepth 100000 in
set_option maxHeartbeats 0 in
theorem PySem.Challenge.cw_huefloor_k02_whole_numbered_holds : PySem.Challenge.rw_huefloor_k02_whole_numbered.Holds := by
  w_on; o_law; k_head; (case hw => w_witness2)
  k_fill
  refine L2.walk_of (l := PySem.Challenge.rw_huefloor_k02_whole_numbered) (n := 63) (k := 27) (x := "_law_script") (CX := fun w => L2.CX PySem.Challenge.rw_huefloor_k02_whole_numbered.prog w) (sp := fun w => Hue.spLaw _) rfl (by decide) rfl ⟨rfl, by decide, by decide⟩ (fun w h Y => PySem.W.kIn_of Y) ?F (fun _ _ a ns hl _ hS => ⟨a, ns, rfl, hS, hl, fun _ => rfl⟩) (fun _ _ _ _ _ h => Hue.cx_none h)
  case F =>
    intro w mg fa h KX G hmg
    refine' K02.all_mk KX G hmg ?ea1 ?eb1 ?ec1 ?ed1 ?ee1 ?ea2 ?eb2 ?ec2 ?ed2 ?ee2 ?ea3 ?eb3 ?ec3 ?ed3 ?ee3 ?ea4 ?eb4 ?ec4 ?ed4 ?ee4 ?ea5 ?eb5 ?ec5 ?ed5 ?ee5 ?ea9 ?eb9 ?ec9 ?ed9 ?ee9 ?ca0 ?ca1 ?ca2 ?a1 ?l1 ?c1 ?k1 ?a2 ?l2 ?c2 ?k2 ?a3 ?l3 ?c3 ?k3 ?a4 ?l4 ?c4 ?k4 ?a5 ?l5 ?c5 ?k5 ?a6 ?l6 ?c6 ?k6 ?a7 ?l7 ?c7 ?k7 ?a8 ?l8 ?c8 ?k8 ?a9 ?l9 ?c9 ?k9 ?a10 ?l10 ?c10 ?k10 ?a11 ?l11 ?c11 ?k11 ?a12 ?l12 ?c12 ?k12 ?a13 ?l13 ?c13 ?k13 ?a14 ?l14 ?c14 ?k14 ?a15 ?l15 ?c15 ?k15 ?a16 ?l16 ?c16 ?k16 ?a17 ?l17 ?c17 ?k17 ?a18 ?l18 ?c18 ?k18 ?a19 ?l19 ?c19 ?k19 ?a20 ?l20 ?c20 ?k20 ?a21 ?l21 ?c21 ?k21 ?a22 ?l22 ?c22 ?k22 ?a23 ?l23 ?c23 ?k23 ?a24 ?l24 ?c24 ?k24 ?a25 ?l25 ?c25 ?k25 ?a26 ?l26 ?c26 ?k26 ?a27 ?l27 ?c27 ?k27 ?z0 ?z1 ?z2 ?z3 ?z4 ?z5 ?z6 ?z7 ?z8 ?z9 ?z10 ?z11 ?z12 ?z13 ?z14 ?z15 ?z16 ?z17
    (case ea1 => k_is)
    (case eb1 => k_exc)
    (case ec1 => k_is)
    (case ed1 => k_is)
    (case ee1 => k_is)
    (case ea2 => k_is)
    (case eb2 => k_exc)
    (case ec2 => k_is)
    (case ed2 => k_is)
    (case ee2 => k_is)
    (case ea3 => k_is)
    (case eb3 => k_exc)
    (case ec3 => k_is)
    (case ed3 => k_is)
    (case ee3 => k_is)
    (case ea4 => k_is)
    (case eb4 => k_exc)
    (case ec4 => k_is)
    (case ed4 => k_is)
    (case ee4 => k_is)
    (case ea5 => k_is)
    (case eb5 => k_exc)
    (case ec5 => k_is)
    (case ed5 => k_is)
    (case ee5 => k_is)
    (case ea9 => k_is)
    (case eb9 => k_exc)
    (case ec9 => k_is)
    (case ed9 => k_is)
    (case ee9 => k_is)
    (case ca0 => k_is)
    (case ca1 => k_is)
    (case ca2 => k_is)
    (case a1 => k_is)
    (case l1 => k_is)
    (case c1 => k_is)
    (case k1 => k_is)
    (case a2 => k_is)
    (case l2 => k_is)
    (case c2 => k_is)
    (case k2 => k_is)
    (case a3 => k_is)
    (case l3 => k_is)
    (case c3 => k_is)
    (case k3 => k_is)
    (case a4 => k_is)
    (case l4 => k_is)
    (case c4 => k_is)
    (case k4 => k_is)
    (case a5 => k_is)
    (case l5 => k_is)
    (case c5 => k_is)
    (case k5 => k_is)
    (case a6 => k_is)
    (case l6 => k_is)
    (case c6 => k_is)
    (case k6 => k_is)
    (case a7 => k_is)
    (case l7 => k_is)
    (case c7 => k_is)
    (case k7 => k_is)
    (case a8 => k_is)
    (case l8 => k_is)
    (case c8 => k_is)
    (case k8 => k_is)
    (case a9 => k_is)
    (case l9 => k_is)
    (case c9 => k_is)
    (case k9 => k_is)
    (case a10 => k_is)
    (case l10 => k_is)
    (case c10 => k_is)
    (case k10 => k_is)
    (case a11 => k_is)
    (case l11 => k_is)
    (case c11 => k_is)
    (case k11 => k_is)
    (case a12 => k_is)
    (case l12 => k_is)
    (case c12 => k_is)
    (case k12 => k_is)
    (case a13 => k_is)
    (case l13 => k_is)
    (case c13 => k_is)
    (case k13 => k_is)
    (case a14 => k_is)
    (case l14 => k_is)
    (case c14 => k_is)
    (case k14 => k_is)
    (case a15 => k_is)
    (case l15 => k_is)
    (case c15 => k_is)
    (case k15 => k_is)
    (case a16 => k_is)
    (case l16 => k_is)
    (case c16 => k_is)
    (case k16 => k_is)
    (case a17 => k_is)
    (case l17 => k_is)
    (case c17 => k_is)
    (case k17 => k_is)
    (case a18 => k_is)
    (case l18 => k_is)
    (case c18 => k_is)
    (case k18 => k_is)
    (case a19 => k_is)
    (case l19 => k_is)
    (case c19 => k_is)
    (case k19 => k_is)
    (case a20 => k_is)
    (case l20 => k_is)
    (case c20 => k_is)
    (case k20 => k_is)
    (case a21 => k_is)
    (case l21 => k_is)
    (case c21 => k_is)
    (case k21 => k_is)
    (case a22 => k_is)
    (case l22 => k_is)
    (case c22 => k_is)
    (case k22 => k_is)
    (case a23 => k_is)
    (case l23 => k_is)
    (case c23 => k_is)
    (case k23 => k_is)
    (case a24 => k_is)
    (case l24 => k_is)
    (case c24 => k_is)
    (case k24 => k_is)
    (case a25 => k_is)
    (case l25 => k_is)
    (case c25 => k_is)
    (case k25 => k_is)
    (case a26 => k_is)
    (case l26 => k_is)
    (case c26 => k_is)
    (case k26 => k_is)
    (case a27 => k_is)
    (case l27 => k_is)
    (case c27 => k_is)
    (case k27 => k_is)
    (case z0 => k_is)
    (case z1 => k_is)
    (case z2 => k_is)
    (case z3 => k_is)
    (case z4 => k_is)
    (case z5 => k_is)
    (case z6 => k_is)
    (case z7 => k_is)
    (case z8 => k_is)
    (case z9 => k_is)
    (case z10 => k_is)
    (case z11 => k_is)
    (case z12 => k_is)
    (case z13 => k_is)
    (case z14 => k_is)
    (case z15 => k_is)
    (case z16 => k_is)
    (case z17 => k_is)
