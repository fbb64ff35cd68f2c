import PyProof.Rows.All
import HandS.ForMost
import HandS.More
import HandS.WordsExc
import HandS.Defaults
import HandS.CallSlots
import HandS.Deep
import HandS.Zip
import HandS.Wide
import HandS.Style
import HandS.TupAny
import HandS.TupMul
import HandS.IsInst
import HandS.Rev
import HandS.SortInts
import HandS.SortRule
import HandS.HeadEnd
import HandS.HeadHook1
import HandS.HeadHook2
import HandS.HeadHook4
import HandS.HeadWalk
import HandS.Head0
import HandS.Head1
import HandS.Head2
import HandS.Exc
import HandS.ExcInit
import HandS.ExcField
import HandS.TryOnly
import HandS.Lambda
import HandS.Nested
import HandS.NestedK
import HandS.EndTab
import KE.KExcSuper
import KE.KSuper
import PyProof.ReprRoads
import KE.DataMinMax
import KE.GoesEnum
import HandS.Star
import HandS.SetFor
import PySem.Challenge.RW_keptpoints_k26_whole_seasons
set_option Elab.async false
set_option linter.all false
set_option maxRecDepth 100000
section

/-! A plain machine for the Python of this claim: data without a heap, an evaluator, and that the model does what it says. -/
namespace Eng
open PySem PySem.Spec PyProof.Rows L2

/-! ## data, results -/
inductive D where
  | non | bl (b : Bool) | int (i : Int) | str (x : Str)
  | lst (xs : List D) | tup (xs : List D) | dct (kvs : List (D × D)) | ref (n : Nat)
  /-- the script itself: ints, read only -/
  | scr (ns : List Int)
instance : Inhabited D := ⟨.non⟩
/-- an own exception: its class by number, its thing -/
structure Xn where
  cls : Nat
  thing : D
abbrev Sto := List (List D)
inductive R (α : Type) where
  | ok (a : α) (s : Sto)
  | exc (x : Xn) (s : Sto)
  | stuck
@[reducible, inline] def R.bind {α β : Type} (r : R α) (f : α → Sto → R β) : R β := match r with
  | .ok a s => f a s
  | .exc x s => .exc x s
  | .stuck => .stuck
def R.of {α : Type} (o : Option α) (s : Sto) : R α := match o with
  | some a => .ok a s
  | none => .stuck

/-! ## syntax -/
inductive BOp where | add | sub | mul | fdiv | mod | pow
  deriving DecidableEq
inductive COp where | eq | ne | lt | le | gt | ge | isN | notN | mem | nmem
  deriving DecidableEq
inductive Bf where | len | sum | max | min | all | any | tuple | list | sorted | abs | int | str | repr
  deriving DecidableEq
inductive Ty where | int | bool | tuple | str | dict | list
  deriving DecidableEq
inductive Tg where
  | one (i : Nat)
  | many (is : List Nat)
mutual
inductive E where
  | k (c : D)
  | v (i : Nat)
  | g (x : Str) (c : D)
  | bin (o : BOp) (a b : E)
  | neg (a : E)
  | not (a : E)
  | and (a b : E)
  | or (a b : E)
  | cmp (o : COp) (a b : E)
  | chain (o o' : COp) (a b c : E)
  | ite (c a b : E)
  | tup (es : Es)
  | lst (es : Es)
  | ix (a b : E)
  | sl (a : E) (lo hi : Es)
  | rev (a : E)
  /-- sum(a, []) -/
  | sumL (a : E)
  /-- a.join(b), a a constant text -/
  | join (a b : E)
  /-- a.count(b), a a list of ints -/
  | cnt (a b : E)
  /-- a[lo::m], a a tuple -/
  | stp (a lo m : E)
  | call (f : Nat) (es : Es)
  | bf (b : Bf) (es : Es)
  | isI (a : E) (t : Ty)
  /-- _law_refuses(lambda: e, due) -/
  | refu (c : Nat) (e due : E)
  | lc (elt : E) (tg : Tg) (it : IE) (ifs : Es) (own : List Nat)
  | lc2 (elt : E) (tg : Tg) (it : IE) (tg2 : Tg) (it2 : IE) (ifs : Es) (own own2 : List Nat)
inductive Es where
  | nil
  | cons (e : E) (es : Es)
  | star (e : E) (es : Es)
inductive IE where
  | seq (e : E)
  | rng1 (a : E)
  | rng2 (a b : E)
  | rng3 (es : Es)
  | enum (e : E)
  | zip (a b : E)
end
/-! ### an except suite: one statement that reads the exception's thing -/
inductive HX where
  | thing
  | v (j : Nat)
  | k (c : D)
  | repr (h : HX)
inductive HB where
  | eq (a b : HX)
  | ne (a b : HX)
  | isN (a : HX)
inductive Hd where
  | ret (b : HB)
  | ifret (b : HB) (c : Bool)
  | retB (c : Bool)
mutual
inductive S where
  /-- the frame's own lists in these slots stand still from here on -/
  | fz (is : List Nat) (s : S)
  | asg (own : Bool) (i : Nat) (e : E)
  | newref (i : Nat) (e : E)
  | unp (is : List Nat) (e : E)
  | unpl (is : List Nat) (e : E)
  | par2 (i : Nat) (o1 : Bool) (a : E) (j : Nat) (o2 : Bool) (b : E)
  | par3 (i : Nat) (o1 : Bool) (a : E) (j : Nat) (o2 : Bool) (b : E) (k : Nat) (o3 : Bool) (c : E)
  | aug (i : Nat) (o : BOp) (e : E)
  | app (i : Nat) (e : E)
  | ext (i : Nat) (e : E)
  | seti (i : Nat) (ix e : E)
  | setr (i : Nat) (ix e : E)
  | expr (e : E)
  | ret (e : E)
  | retN
  | ife (c : E) (a b : Ss)
  | whl (c : E) (b : Ss)
  | forr (tg : Tg) (it : IE) (b : Ss)
  | brk
  | cont
  | pass
  | raise (c : Nat) (e : E)
  | tryx (b : Ss) (c i : Nat) (h : Hd)
  /-- never reached -/
  | nev
inductive Ss where
  | nil
  | cons (s : S) (ss : Ss)
end
def Es.len : Es → Nat
  | .nil => 0
  | .cons _ es => es.len + 1
  | .star _ es => es.len + 1

/-! ## operations on data -/
def toPy : D → PyData
  | .non => .none
  | .bl b => .bool b
  | .int i => .int i
  | .str x => .str x
  | .lst xs => .list (all xs)
  | .tup xs => .tuple (all xs)
  | .dct _ => .dict []
  | .ref _ => .dict []
  | .scr _ => .dict []
where
  all : List D → List PyData
  | [] => []
  | x :: xs => toPy x :: all xs
def okD (d : D) : Bool := SeqAt.shaped (toPy d)
def deq (a b : D) : Bool := PyData.eqv (toPy a) (toPy b)
def scalD : D → D → Bool
  | .non, .non => true | .non, .int _ => true | .int _, .non => true | .non, .bl _ => true | .bl _, .non => true | .non, .str _ => true | .str _, .non => true
  | .int _, .int _ => true | .bl _, .bl _ => true | .str _, .str _ => true
  | .int _, .str _ => true | .str _, .int _ => true | .bl _, .str _ => true | .str _, .bl _ => true
  | _, _ => false
def eqD (a b : D) : Option Bool := match scalD a b with
  | true => some (deq a b)
  | false => match okD a && okD b with
    | true => some (deq a b)
    | false => none
def small64 (i : Int) : Bool := decide (-(2 ^ 64) < i) && decide (i < 2 ^ 64)
def cat {α : Type} (xs ys : List α) : Option (List α) := match decide (xs.length + ys.length ≤ sizeLine) with
  | true => some (xs ++ ys)
  | false => none
def rep {α : Type} (xs : List α) (k : Int) : Option (List α) := match decide (-(2 ^ 63) ≤ k) && decide (k < 2 ^ 63) && decide (xs.length * k.toNat ≤ sizeLine) with
  | true => some (List.replicate k.toNat xs).flatten
  | false => none
def repT {α : Type} (xs : List α) (k : Int) : Option (List α) := match decide (-(2 ^ 63) ≤ k) && decide (k < 2 ^ 63) with
  | true => match xs.isEmpty || decide (k = 1) with
    | true => some xs
    | false => match decide (2 ≤ k) && decide (k * (xs.length : Int) ≤ 1000000) with
      | true => some (List.replicate k.toNat xs).flatten
      | false => none
  | false => none
def binop : BOp → D → D → Option D
  | .add, .int i, .int j => some (.int (i + j))
  | .add, .str x, .str y => match decide (x.length + y.length ≤ sizeLine) with
    | true => some (.str (x ++ y))
    | false => none
  | .add, .lst x, .lst y => (cat x y).map .lst
  | .add, .tup x, .tup y => (cat x y).map .tup
  | .sub, .int i, .int j => some (.int (i - j))
  | .mul, .int i, .int j => match small64 i || small64 j with
    | true => some (.int (i * j))
    | false => none
  | .mul, .str x, .int k => match decide (1 ≤ k) && decide (k ≤ 1000) && decide (x.length ≤ 1000) with
    | true => some (.str (Txt.mul x k))
    | false => none
  | .mul, .lst x, .int k => (rep x k).map .lst
  | .mul, .tup x, .int k => (repT x k).map .tup
  | .fdiv, .int i, .int j => match decide (0 < j) && decide (j.natAbs.log2 < 9000) with
    | true => some (.int (i / j))
    | false => none
  | .mod, .int i, .int j => match decide (0 < j) with
    | true => some (.int (i % j))
    | false => none
  | .pow, .int i, .int j => match decide (0 ≤ j) && decide (j ≤ 1000000) && small64 i with
    | true => some (.int (i ^ j.toNat))
    | false => none
  | _, _, _ => none
def memD (x : D) (ys : List D) : Option Bool := match okD x && okD (.lst ys) with
  | true => some (ys.any fun z => deq z x)
  | false => none
def cmpop : COp → D → D → Option Bool
  | .eq, a, b => eqD a b
  | .ne, a, b => (eqD a b).map (!·)
  | .lt, .int i, .int j => some (decide (i < j))
  | .le, .int i, .int j => some (decide (i ≤ j))
  | .gt, .int i, .int j => some (decide (j < i))
  | .ge, .int i, .int j => some (decide (j ≤ i))
  | .isN, a, .non => some (match a with | .non => true | _ => false)
  | .notN, a, .non => some (match a with | .non => false | _ => true)
  | .isN, .bl a, .bl b => some (decide (a = b))
  | .notN, .bl a, .bl b => some (!decide (a = b))
  | .mem, x, .lst ys => memD x ys
  | .nmem, x, .lst ys => (memD x ys).map (!·)
  | .mem, .str x, .str y => some (!(Builtin.Str.occurrences y x 0 y.length 1).isEmpty)
  | .nmem, .str x, .str y => some (!(!(Builtin.Str.occurrences y x 0 y.length 1).isEmpty))
  | _, _, _ => none
def at1 (d : D) (i : Int) : Option D := match d with
  | .lst xs => atI xs i
  | .tup xs => atI xs i
  | .str x => match decide (x.length ≤ sizeLine) with
    | true => (atI x.cps.toList i).map fun c => .str ⟨#[c]⟩
    | false => none
  | _ => none
def ixop (a b : D) : Option D := match b with
  | .int i => at1 a i
  | _ => none
def cutD {α : Type} (xs : List α) (lo hi : Option Int) : List α := (xs.drop (HT.sIx xs.length 0 lo)).take (HT.sIx xs.length xs.length hi - HT.sIx xs.length 0 lo)
def slop (a : D) (lo hi : Option Int) : Option D := match a with
  | .lst xs => some (.lst (cutD xs lo hi))
  | .scr ns => some (.lst ((cutD ns lo hi).map .int))
  | .tup xs => some (.tup (cutD xs lo hi))
  | .str x => match decide (x.length ≤ sizeLine) with
    | true => some (.str (cutS x lo hi))
    | false => none
  | _ => none
def intsD : List D → Option (List Int)
  | [] => some []
  | .int i :: r => (intsD r).map (i :: ·)
  | _ :: _ => none
def boolsD : List D → Option (List Bool)
  | [] => some []
  | .bl i :: r => (boolsD r).map (i :: ·)
  | _ :: _ => none
def listsD : List D → Option (List (List D))
  | [] => some []
  | .lst i :: r => (listsD r).map (i :: ·)
  | _ :: _ => none
def strsD : List D → Option (List Str)
  | [] => some []
  | .str i :: r => (strsD r).map (i :: ·)
  | _ :: _ => none
/-- the items of a list or a tuple -/
def itemsD : D → Option (List D)
  | .lst xs => some xs
  | .tup xs => some xs
  | _ => none
def maxI : List Int → Option Int
  | [] => none
  | x :: r => some (r.foldl (fun a b => if a < b then b else a) x)
def minI : List Int → Option Int
  | [] => none
  | x :: r => some (r.foldl (fun a b => if b < a then b else a) x)
def pairsD : List D → Option (List (Int × Int))
  | [] => some []
  | .tup [.int a, .int b] :: r => (pairsD r).map ((a, b) :: ·)
  | _ :: _ => none
def pairD (p : Int × Int) : D := .tup [.int p.1, .int p.2]
def ltP (p q : Int × Int) : Bool := decide (p.1 < q.1) || (decide (p.1 = q.1) && decide (p.2 < q.2))
/-- the first of the least pairs -/
def minP : List (Int × Int) → Option (Int × Int)
  | [] => none
  | x :: r => some (r.foldl (fun a b => if ltP b a then b else a) x)
def insI (x : Int) : List Int → List Int
  | [] => [x]
  | y :: r => if x ≤ y then x :: y :: r else y :: insI x r
def sortI (l : List Int) : List Int := l.foldr insI []
def reprB (d : D) : Bool := PyData.canLay0 (toPy d) && PyData.showable (toPy d) && decide ((toPy d).shown.length ≤ sizeLine) && decide ((toPy d).depth ≤ 60)
def bfop : Bf → List D → Option D
  | .len, [.lst xs] => some (.int xs.length)
  | .len, [.tup xs] => some (.int xs.length)
  | .len, [.str x] => match decide (x.length ≤ sizeLine) with
    | true => some (.int x.length)
    | false => none
  | .sum, [.lst xs] => (intsD xs).map fun ns => .int ns.sum
  | .sum, [.tup xs] => (intsD xs).map fun ns => .int ns.sum
  | .max, [.lst xs] => (intsD xs).bind fun ns => (maxI ns).map .int
  | .min, [.lst xs] => match intsD xs with
    | some ns => (minI ns).map .int
    | none => (pairsD xs).bind fun ps => (minP ps).map pairD
  | .max, [.tup xs] => (intsD xs).bind fun ns => (maxI ns).map .int
  | .min, [.tup xs] => (intsD xs).bind fun ns => (minI ns).map .int
  | .all, [.lst xs] => (boolsD xs).map fun bs => .bl (bs.all id)
  | .any, [.lst xs] => (boolsD xs).map fun bs => .bl (bs.any id)
  | .tuple, [.lst xs] => some (.tup xs)
  | .tuple, [.tup xs] => some (.tup xs)
  | .list, [.lst xs] => some (.lst xs)
  | .list, [.tup xs] => some (.lst xs)
  | .sorted, [.lst xs] => (intsD xs).map fun ns => .lst ((sortI ns).map .int)
  | .sorted, [.tup xs] => (intsD xs).map fun ns => .lst ((sortI ns).map .int)
  | .abs, [.int i] => some (.int (if i < 0 then -i else i))
  | .int, [.int i] => some (.int i)
  | .str, [.int i] => match decide (i.natAbs.log2 < 1920) with
    | true => some (.str (toString i))
    | false => none
  | .repr, [d] => match reprB d with
    | true => some (.str (toPy d).shown)
    | false => none
  | _, _ => none
def rangeD (lo hi : Int) : Option (List D) := match decide (-(2 ^ 62) ≤ lo) && decide (lo < 2 ^ 62) && decide (-(2 ^ 62) ≤ hi) && decide (hi < 2 ^ 62) with
  | true => some ((List.range (hi - lo).toNat).map fun (i : Nat) => .int (lo + i))
  | false => none
/-- how many turns range(i, j, c) has -/
def stepN (i j c : Int) : Nat := match decide (0 < c) with
  | true => if i < j then ((j - i - 1) / c).toNat + 1 else 0
  | false => (i - j).toNat
def range3D (i j c : Int) : Option (List D) := match decide (-(2 ^ 62) ≤ i) && decide (i < 2 ^ 62) && decide (-(2 ^ 62) ≤ j) && decide (j < 2 ^ 62) && (decide (c = -1) || (decide (0 < c) && decide (c < 1073741824))) with
  | true => some ((List.range (stepN i j c)).map fun (k : Nat) => .int (i + k * c))
  | false => none
def range3A : List D → Option (List D)
  | [.int i, .int j, .int c] => range3D i j c
  | _ => none
def enumD (n : Nat) : List D → List D
  | [] => []
  | x :: r => .tup [.int n, x] :: enumD (n + 1) r
def zipD : List D → List D → List D
  | x :: r, y :: t => .tup [x, y] :: zipD r t
  | _, _ => []
def isIop : Ty → D → Option Bool
  | .int, .int _ => some true
  | .int, .bl _ => some true
  | .bool, .bl _ => some true
  | .str, .str _ => some true
  | .list, .lst _ => some true
  | .tuple, .tup _ => some true
  | _, .ref _ => none
  | _, .scr _ => none
  | _, .dct _ => none
  | _, _ => some false

/-! ## the evaluator -/
/-- what a slot holds: nothing, data, a list of its own -/
inductive Sl where
  | un
  | val (d : D)
  | own (ds : List D)
abbrev Env := List Sl
def sget (env : Env) (i : Nat) : Sl := env.getD i .un
inductive Fl where
  | nx
  | rt (d : D)
  | bk
  | ct
  | ex (x : Xn)
def asBool : D → Option Bool
  | .bl b => some b
  | _ => none
/-- a target's slots take an item -/
def tgSet (tg : Tg) (d : D) (env : Env) : Option Env := match tg with
  | .one i => some (env.set i (.val d))
  | .many is => match d with
    | .tup ds => if ds.length = is.length then some ((is.zip ds).foldl (fun e p => e.set p.1 (.val p.2)) env) else none
    | _ => none
/-- a list's items into slots -/
def lsSet (is : List Nat) (d : D) (env : Env) : Option Env := match d with
  | .lst ds => tgSet (.many is) (.tup ds) env
  | _ => none
def wipeE (env : Env) : List Nat → Env
  | [] => env
  | v :: vs => (wipeE env vs).set v .un
/-- over the items of a comprehension: a turn gives nothing or an item -/
def turns (f : D → Sto → R (Option D)) : List D → Sto → R (List D)
  | [], s => .ok [] s
  | d :: r, s => (f d s).bind fun o s1 => (turns f r s1).bind fun ys s2 => match o with
    | some y => .ok (y :: ys) s2
    | none => .ok ys s2
def turns2 (f : D → Sto → R (List D)) : List D → Sto → R (List D)
  | [], s => .ok [] s
  | d :: r, s => (f d s).bind fun xs s1 => (turns2 f r s1).bind fun ys s2 => .ok (xs ++ ys) s2
/-- nothing may be raised here -/
def calm {α : Type} : R α → R α
  | .exc _ _ => .stuck
  | r => r
def sized (xs : List D) (s : Sto) : R D := match decide (xs.length ≤ sizeLine) with
  | true => .ok (.lst xs) s
  | false => .stuck
def sizedT (xs : List D) (s : Sto) : R D := match decide (xs.length ≤ sizeLine) with
  | true => .ok (.tup xs) s
  | false => .stuck
/-- a part that is only read: a slot's own list may be -/
def rdB (e : E) (env : Env) (s : Sto) (r : R D) : R D := match e with
  | .v i => match sget env i with
    | .val d => .ok d s
    | .own ds => .ok (.lst ds) s
    | .un => .stuck
  | _ => r
def asB (r : R D) : R Bool := r.bind fun x s => match x with
  | .bl b => .ok b s
  | _ => .stuck
def asI (r : R D) : R Int := r.bind fun x s => match x with
  | .int i => .ok i s
  | _ => .stuck
def asItems (r : R D) : R (List D) := r.bind fun x s => match itemsD x with
  | some ys => .ok ys s
  | none => .stuck
def ixS (x y : D) (s : Sto) : R D := match x with
  | .ref n => match y with
    | .int i => .of ((s[n]?).bind fun xs => atI xs i) s
    | _ => .stuck
  | x => .of (ixop x y) s
def signsD (x : Str) : List D := x.cps.toList.map fun c => .str ⟨#[c]⟩
def seqD : D → Option (List D)
  | .lst xs => some xs
  | .tup xs => some xs
  | .str x => some (signsD x)
  | _ => none
def enumA : D → Option (List D)
  | .lst xs => some (enumD 0 xs)
  | .tup xs => some (enumD 0 xs)
  | _ => none
def zipA : D → D → Option (List D)
  | .lst xs, .lst ys => some (zipD xs ys)
  | .tup xs, .tup ys => some (zipD xs ys)
  | _, _ => none
def revop : D → Option D
  | .lst xs => some (.lst xs.reverse)
  | .tup xs => some (.tup xs.reverse)
  | _ => none
def flatD : D → Option D
  | .lst xs => (listsD xs).bind fun ls => match decide (ls.flatten.length ≤ sizeLine) with
    | true => some (.lst ls.flatten)
    | false => none
  | _ => none
def joinop (a : Str) (y : D) : Option D := (itemsD y).bind fun ds => (strsD ds).bind fun ys => match decide ((ys.map (·.length)).sum + ys.length * a.length ≤ 16777216) with
  | true => some (.str (Str.join a ys))
  | false => none
def cntop : D → D → Option D
  | .lst xs, .int k => (intsD xs).map fun ns => .int (ns.count k : Nat)
  | _, _ => none
/-- every m-th item from i on -/
def stpL {α : Type} (xs : List α) (i m : Nat) : List α := (List.range (if i < xs.length then (xs.length - i - 1) / m + 1 else 0)).filterMap fun j => xs[i + j * m]?
def stpop (x : D) (i m : Int) : Option D := match x with
  | .tup xs => match decide (0 ≤ i) && decide (i < 1073741824) && decide (1 ≤ m) && decide (m < 1073741824) with
    | true => some (.tup (stpL xs i.toNat m.toNat))
    | false => none
  | _ => none
def asD (r : R Bool) : R D := r.bind fun c s => .ok (.bl c) s
def fold2 {α : Type} (b : R Bool) (f g : Sto → R α) : R α := b.bind fun c s => match c with
  | true => f s
  | false => g s
def ntup (tg : Option Env) (f : Env → R (Option D)) : R (Option D) := match tg with
  | some env => calm (f env)
  | none => .stuck
def ntupL (tg : Option Env) (f : Env → R (List D)) : R (List D) := match tg with
  | some env => calm (f env)
  | none => .stuck
def keepIf (c : R Bool) (f : Sto → R D) : R (Option D) := c.bind fun b s => match b with
  | true => (f s).bind fun y s1 => .ok (some y) s1
  | false => .ok none s
def refR (c : Nat) (d : D) (r : R D) : R D := match r with
  | .ok _ s => .ok (.bl false) s
  | .exc x s => match decide (x.cls = c) with
    | true => .of ((bfop .repr [x.thing]).bind fun a => (bfop .repr [d]).bind fun b => (cmpop .eq a b).map .bl) s
    | false => .exc x s
  | .stuck => .stuck
section
variable (call : Nat → List D → Sto → R D)
mutual
def evE : E → Env → Sto → R D
  | .k c, _, s => .ok c s
  | .v i, env, s => match sget env i with
    | .val d => .ok d s
    | _ => .stuck
  | .g _ c, _, s => .ok c s
  | .bin o a b, env, s => (rdB a env s (evE a env s)).bind fun x s1 => (rdB b env s1 (evE b env s1)).bind fun y s2 => .of (binop o x y) s2
  | .neg a, env, s => (asI (evE a env s)).bind fun i s1 => .ok (.int (-i)) s1
  | .not a, env, s => asD ((asB (evE a env s)).bind fun b s1 => .ok (!b) s1)
  | .and a b, env, s => fold2 (asB (evE a env s)) (fun s1 => evE b env s1) (fun s1 => .ok (.bl false) s1)
  | .or a b, env, s => fold2 (asB (evE a env s)) (fun s1 => .ok (.bl true) s1) (fun s1 => evE b env s1)
  | .cmp o a b, env, s => asD ((rdB a env s (evE a env s)).bind fun x s1 => (rdB b env s1 (evE b env s1)).bind fun y s2 => .of (cmpop o x y) s2)
  | .chain o o' a b c, env, s => asD ((rdB a env s (evE a env s)).bind fun x s1 => (rdB b env s1 (evE b env s1)).bind fun y s2 => fold2 (.of (cmpop o x y) s2)
    (fun s3 => (rdB c env s3 (evE c env s3)).bind fun z s4 => .of (cmpop o' y z) s4) (fun s3 => .ok false s3))
  | .ite c a b, env, s => fold2 (asB (evE c env s)) (fun s1 => evE a env s1) (fun s1 => evE b env s1)
  | .tup es, env, s => (evEs es env s).bind fun xs s1 => sizedT xs s1
  | .lst es, env, s => (evEs es env s).bind fun xs s1 => sized xs s1
  | .ix a b, env, s => (rdB a env s (evE a env s)).bind fun x s1 => (rdB b env s1 (evE b env s1)).bind fun y s2 => ixS x y s2
  | .sl a lo hi, env, s => (rdB a env s (evE a env s)).bind fun x s1 => (evO lo env s1).bind fun l s2 => (evO hi env s2).bind fun h s3 => .of (slop x l h) s3
  | .rev a, env, s => (rdB a env s (evE a env s)).bind fun x s1 => .of (revop x) s1
  | .sumL a, env, s => (rdB a env s (evE a env s)).bind fun x s1 => .of (flatD x) s1
  | .join a b, env, s => (rdB a env s (evE a env s)).bind fun x s1 => match x with
    | .str t => (rdB b env s1 (evE b env s1)).bind fun y s2 => .of (joinop t y) s2
    | _ => .stuck
  | .cnt a b, env, s => (rdB a env s (evE a env s)).bind fun x s1 => match x with
    | .lst xs => (evE b env s1).bind fun y s2 => .of (cntop (.lst xs) y) s2
    | _ => .stuck
  | .stp a lo m, env, s => (rdB a env s (evE a env s)).bind fun x s1 => (asI (evE lo env s1)).bind fun i s2 => (asI (evE m env s2)).bind fun k s3 => .of (stpop x i k) s3
  | .call f es, env, s => (evEs es env s).bind fun xs s1 => call f xs s1
  | .bf b es, env, s => (evBs es env s).bind fun xs s1 => .of (bfop b xs) s1
  | .refu c e due, env, s => (evE due env s).bind fun d s1 => refR c d (evE e env s1)
  | .isI a t, env, s => asD ((rdB a env s (evE a env s)).bind fun x s1 => .of (isIop t x) s1)
  | .lc elt tg it ifs own, env, s => (evI it env s).bind fun xs s1 => (turns (fun d s2 => ntup (tgSet tg d (wipeE env own)) fun env' => keepIf (evT ifs env' s2) fun s3 => evE elt env' s3) xs s1).bind fun ys s5 => sized ys s5
  | .lc2 elt tg it tg2 it2 ifs own own2, env, s => (evI it env s).bind fun xs s1 => (turns2 (fun d s2 => ntupL (tgSet tg d (wipeE env own)) fun env' => (evI it2 env' s2).bind fun zs s3 =>
      turns (fun d2 s4 => ntup (tgSet tg2 d2 (wipeE env' own2)) fun env2 => keepIf (evT ifs env2 s4) fun s5 => evE elt env2 s5) zs s3) xs s1).bind fun ys s5 => sized ys s5
def evEs : Es → Env → Sto → R (List D)
  | .nil, _, s => .ok [] s
  | .cons e es, env, s => (evE e env s).bind fun x s1 => (evEs es env s1).bind fun xs s2 => .ok (x :: xs) s2
  | .star e es, env, s => (asItems (rdB e env s (evE e env s))).bind fun ys s1 => (evEs es env s1).bind fun xs s2 => .ok (ys ++ xs) s2
def evBs : Es → Env → Sto → R (List D)
  | .nil, _, s => .ok [] s
  | .cons e es, env, s => (rdB e env s (evE e env s)).bind fun x s1 => (evBs es env s1).bind fun xs s2 => .ok (x :: xs) s2
  | .star _ _, _, _ => .stuck
/-- a slice's part: none, or an int -/
def evO : Es → Env → Sto → R (Option Int)
  | .nil, _, s => .ok none s
  | .cons e _, env, s => (asI (evE e env s)).bind fun i s1 => .ok (some i) s1
  | .star _ _, _, _ => .stuck
/-- a comprehension's tests -/
def evT : Es → Env → Sto → R Bool
  | .nil, _, s => .ok true s
  | .cons e _, env, s => asB (evE e env s)
  | .star _ _, _, _ => .stuck
def evI : IE → Env → Sto → R (List D)
  | .seq e, env, s => (evE e env s).bind fun x s1 => .of (seqD x) s1
  | .rng1 a, env, s => (asI (evE a env s)).bind fun i s1 => .of (rangeD 0 i) s1
  | .rng2 a b, env, s => (asI (evE a env s)).bind fun i s1 => (asI (evE b env s1)).bind fun j s2 => .of (rangeD i j) s2
  | .rng3 es, env, s => (evEs es env s).bind fun xs s1 => .of (range3A xs) s1
  | .enum e, env, s => (evE e env s).bind fun x s1 => .of (enumA x) s1
  | .zip a b, env, s => (evE a env s).bind fun x s1 => (evE b env s1).bind fun y s2 => .of (zipA x y) s2
end
end
end Eng
end

section
set_option autoImplicit false
namespace Eng
open PySem PySem.Spec PyProof.Rows L2

/-! ## data and the heap: F is what stands still, phi where the written lists stand -/
mutual
inductive Rep (K : PySem.W.Frag) (φ : List Addr) (F : Hp) : V → D → Prop
  | non : Rep K φ F .non .non
  | bl (b : Bool) : Rep K φ F (.bl b) (.bl b)
  | int (i : Int) : Rep K φ F (.int i) (.int i)
  | str (x : Str) : Rep K φ F (.str x) (.str x)
  | scr {a : Addr} {ns : List Int} : SqL K F a (ns.map V.int) → Rep K φ F (.ref a) (.scr ns)
  | lst {a : Addr} {vs : List V} {ds : List D} : F a = some (.lst vs) → RepA K φ F vs ds → Rep K φ F (.ref a) (.lst ds)
  | tup {a : Addr} {vs : List V} {ds : List D} : SqT K F a vs → RepA K φ F vs ds → Rep K φ F (.ref a) (.tup ds)
  | ref {a : Addr} {n : Nat} : φ[n]? = some a → Rep K φ F (.ref a) (.ref n)
inductive RepA (K : PySem.W.Frag) (φ : List Addr) (F : Hp) : List V → List D → Prop
  | nil : RepA K φ F [] []
  | cons {v : V} {vs : List V} {d : D} {ds : List D} : Rep K φ F v d → RepA K φ F vs ds → RepA K φ F (v :: vs) (d :: ds)
end
/-- all of the first is in the second -/
def Le (F F' : Hp) : Prop := ∀ a o, F a = some o → F' a = some o
theorem Le.refl (F : Hp) : Le F F := fun _ _ h => h
theorem Le.trans {F G H : Hp} (a : Le F G) (b : Le G H) : Le F H := fun c o h => b c o (a c o h)
theorem Le.sqL {K : PySem.W.Frag} {F G : Hp} {a : Addr} {vs : List V} (l : Le F G) (h : SqL K F a vs) : SqL K G a vs := by
  rcases h with (h | ⟨o, h⟩) | h
  · exact .inl (.inl (l _ _ h))
  · exact .inl (.inr ⟨o, l _ _ h⟩)
  · exact .inr h
theorem Le.sqT {K : PySem.W.Frag} {F G : Hp} {a : Addr} {vs : List V} (l : Le F G) (h : SqT K F a vs) : SqT K G a vs := by
  rcases h with (h | ⟨o, h⟩) | h
  · exact .inl (.inl (l _ _ h))
  · exact .inl (.inr ⟨o, l _ _ h⟩)
  · exact .inr h
section
variable {K : PySem.W.Frag} {φ φ' : List Addr} {F F' : Hp}
mutual
theorem Rep.mono (l : Le F F') (p : ∀ (n : Nat) (a : Addr), φ[n]? = some a → φ'[n]? = some a) : ∀ {v : V} {d : D}, Rep K φ F v d → Rep K φ' F' v d
  | _, _, .non => .non
  | _, _, .bl b => .bl b
  | _, _, .int b => .int b
  | _, _, .str b => .str b
  | _, _, .scr h => .scr (l.sqL h)
  | _, _, .lst h t => .lst (l _ _ h) (RepA.mono l p t)
  | _, _, .tup h t => .tup (l.sqT h) (RepA.mono l p t)
  | _, _, .ref h => .ref (p _ _ h)
theorem RepA.mono (l : Le F F') (p : ∀ (n : Nat) (a : Addr), φ[n]? = some a → φ'[n]? = some a) : ∀ {v : List V} {d : List D}, RepA K φ F v d → RepA K φ' F' v d
  | _, _, .nil => .nil
  | _, _, .cons h t => .cons (Rep.mono l p h) (RepA.mono l p t)
end
theorem RepA.le (l : Le F F') {v : List V} {d : List D} (h : RepA K φ F v d) : RepA K φ F' v d := h.mono l fun _ _ e => e
theorem Rep.le (l : Le F F') {v : V} {d : D} (h : Rep K φ F v d) : Rep K φ F' v d := h.mono l fun _ _ e => e
theorem RepA.len : ∀ {v : List V} {d : List D}, RepA K φ F v d → v.length = d.length
  | _, _, .nil => rfl
  | _, _, .cons _ t => by rw [List.length_cons, List.length_cons, RepA.len t]
theorem RepA.get : ∀ {v : List V} {d : List D} {i : Nat} {x : V}, RepA K φ F v d → v[i]? = some x → ∃ y, d[i]? = some y ∧ Rep K φ F x y
  | _, _, i, _, .nil, h => by simp at h
  | _, _, 0, _, .cons r _, h => by simp at h; subst h; exact ⟨_, rfl, r⟩
  | _, _, i + 1, _, .cons _ t, h => by simpa using RepA.get t (by simpa using h)
theorem RepA.getD : ∀ {v : List V} {d : List D} {i : Nat} {y : D}, RepA K φ F v d → d[i]? = some y → ∃ x, v[i]? = some x ∧ Rep K φ F x y
  | _, _, i, _, .nil, h => by simp at h
  | _, _, 0, _, .cons r _, h => by simp at h; subst h; exact ⟨_, rfl, r⟩
  | _, _, i + 1, _, .cons _ t, h => by simpa using RepA.getD t (by simpa using h)
theorem RepA.app : ∀ {v v' : List V} {d d' : List D}, RepA K φ F v d → RepA K φ F v' d' → RepA K φ F (v ++ v') (d ++ d')
  | _, _, _, _, .nil, s => s
  | _, _, _, _, .cons r t, s => .cons r (RepA.app t s)
theorem RepA.take : ∀ {v : List V} {d : List D} (n : Nat), RepA K φ F v d → RepA K φ F (v.take n) (d.take n)
  | _, _, 0, _ => .nil
  | _, _, _ + 1, .nil => .nil
  | _, _, n + 1, .cons r t => .cons r (RepA.take n t)
theorem RepA.drop : ∀ {v : List V} {d : List D} (n : Nat), RepA K φ F v d → RepA K φ F (v.drop n) (d.drop n)
  | _, _, 0, r => r
  | _, _, _ + 1, .nil => .nil
  | _, _, n + 1, .cons r t => RepA.drop n t
theorem RepA.set {x : V} {y : D} (r : Rep K φ F x y) : ∀ {v : List V} {d : List D} (n : Nat), RepA K φ F v d → RepA K φ F (v.set n x) (d.set n y)
  | _, _, _, .nil => .nil
  | _, _, 0, .cons _ t => .cons r t
  | _, _, n + 1, .cons q t => .cons q (RepA.set r n t)
theorem RepA.rev {v : List V} {d : List D} (h : RepA K φ F v d) : RepA K φ F v.reverse d.reverse := by
  match v, d, h with
  | _, _, .nil => exact .nil
  | _, _, .cons r t => rw [List.reverse_cons, List.reverse_cons]; exact (RepA.rev t).app (.cons r .nil)
theorem RepA.stp {v : List V} {d : List D} (h : RepA K φ F v d) (i m : Nat) : RepA K φ F (stpL v i m) (stpL d i m) := by
  unfold stpL
  rw [h.len]
  generalize (if i < d.length then (d.length - i - 1) / m + 1 else 0) = k
  have go : ∀ l : List Nat, RepA K φ F (l.filterMap fun j => v[i + j * m]?) (l.filterMap fun j => d[i + j * m]?) := by
    intro l
    induction l with
    | nil => exact .nil
    | cons j l ih =>
      rw [List.filterMap_cons, List.filterMap_cons]
      cases hx : v[i + j * m]? with
      | some x =>
        obtain ⟨y, hy, r⟩ := h.get hx
        rw [hy]
        exact .cons r ih
      | none =>
        have : d[i + j * m]? = none := by
          rw [List.getElem?_eq_none_iff] at hx ⊢
          rw [← h.len]
          exact hx
        rw [this]
        exact ih
  exact go _
theorem RepA.rep {v : List V} {d : List D} (h : RepA K φ F v d) : ∀ n : Nat, RepA K φ F (List.replicate n v).flatten (List.replicate n d).flatten
  | 0 => .nil
  | n + 1 => by rw [List.replicate_succ, List.replicate_succ, List.flatten_cons, List.flatten_cons]; exact h.app (h.rep n)
theorem RepA.cut {v : List V} {d : List D} (h : RepA K φ F v d) (lo hi : Option Int) : RepA K φ F (cutV v lo hi) (cutD d lo hi) := by
  unfold cutV cutD
  rw [h.len]
  exact (h.drop _).take _
theorem RepA.strs : ∀ {v : List V} {d : List D} {ns : List Str}, RepA K φ F v d → strsD d = some ns → v = ns.map V.str
  | _, _, _, .nil, e => by simp [strsD] at e; subst e; rfl
  | _, _, _, .cons (.str _) t, e => by
    simp only [strsD, Option.map_eq_some_iff] at e
    obtain ⟨ms, e, rfl⟩ := e
    rw [RepA.strs t e]
    rfl
  | _, _, _, .cons .non _, e => by simp [strsD] at e
  | _, _, _, .cons (.bl _) _, e => by simp [strsD] at e
  | _, _, _, .cons (.int _) _, e => by simp [strsD] at e
  | _, _, _, .cons (.lst _ _) _, e => by simp [strsD] at e
  | _, _, _, .cons (.tup _ _) _, e => by simp [strsD] at e
  | _, _, _, .cons (.ref _) _, e => by simp [strsD] at e
  | _, _, _, .cons (.scr _) _, e => by simp [strsD] at e
theorem RepA.ints : ∀ {v : List V} {d : List D} {ns : List Int}, RepA K φ F v d → intsD d = some ns → v = ns.map V.int
  | _, _, _, .nil, e => by simp [intsD] at e; subst e; rfl
  | _, _, ns, .cons (d := .int i) (.int _) t, e => by
    simp only [intsD, Option.map_eq_some_iff] at e
    obtain ⟨m, e1, rfl⟩ := e
    rw [RepA.ints t e1] <;> rfl
  | _, _, _, .cons .non _, e => by simp [intsD] at e
  | _, _, _, .cons (.bl _) _, e => by simp [intsD] at e
  | _, _, _, .cons (.str _) _, e => by simp [intsD] at e
  | _, _, _, .cons (.lst _ _) _, e => by simp [intsD] at e
  | _, _, _, .cons (.tup _ _) _, e => by simp [intsD] at e
  | _, _, _, .cons (.ref _) _, e => by simp [intsD] at e
  | _, _, _, .cons (.scr _) _, e => by simp [intsD] at e
theorem RepA.bools : ∀ {v : List V} {d : List D} {ns : List Bool}, RepA K φ F v d → boolsD d = some ns → v = ns.map V.bl
  | _, _, _, .nil, e => by simp [boolsD] at e; subst e; rfl
  | _, _, ns, .cons (d := .bl i) (.bl _) t, e => by
    simp only [boolsD, Option.map_eq_some_iff] at e
    obtain ⟨m, e1, rfl⟩ := e
    rw [RepA.bools t e1] <;> rfl
  | _, _, _, .cons .non _, e => by simp [boolsD] at e
  | _, _, _, .cons (.int _) _, e => by simp [boolsD] at e
  | _, _, _, .cons (.str _) _, e => by simp [boolsD] at e
  | _, _, _, .cons (.lst _ _) _, e => by simp [boolsD] at e
  | _, _, _, .cons (.tup _ _) _, e => by simp [boolsD] at e
  | _, _, _, .cons (.ref _) _, e => by simp [boolsD] at e
  | _, _, _, .cons (.scr _) _, e => by simp [boolsD] at e
theorem repA_ints : ∀ ns : List Int, RepA K φ F (ns.map V.int) (ns.map D.int)
  | [] => .nil
  | n :: r => .cons (.int n) (repA_ints r)
/-! data as the library's -/
mutual
theorem Rep.dp (l : Le F F') : ∀ {v : V} {d : D}, Rep K φ F v d → PyData.canLay0 (toPy d) = true → Dp K F' v (toPy d)
  | _, _, .non, _ => .non
  | _, _, .bl b, _ => .bl b
  | _, _, .int b, _ => .int b
  | _, _, .str b, _ => .str b
  | _, _, .scr _, e => by simp [toPy, PyData.canLay0] at e
  | _, _, .lst h t, e => .lst (SqL.of (l _ _ h)) (RepA.dp l t (by simpa [toPy, PyData.canLay0] using e))
  | _, _, .tup h t, e => .tup (l.sqT h) (RepA.dp l t (by simpa [toPy, PyData.canLay0] using e))
  | _, _, .ref h, e => by simp [toPy, PyData.canLay0] at e
theorem RepA.dp (l : Le F F') : ∀ {v : List V} {d : List D}, RepA K φ F v d → PyData.canLayAll0 (toPy.all d) = true → DpAll K F' v (toPy.all d)
  | _, _, .nil, _ => .nil
  | _, _, .cons (d := d) (ds := ds) h t, e => by
    have e2 : (PyData.canLay0 (toPy d) && PyData.canLayAll0 (toPy.all ds)) = true := by simpa [toPy.all, PyData.canLayAll0] using e
    obtain ⟨e3, e4⟩ := Bool.and_eq_true_iff.mp e2
    exact .cons (Rep.dp l h e3) (RepA.dp l t e4)
end
end
/-- what is only read: data that stands still, or a list of the frame's own -/
def RepB (K : PySem.W.Frag) (φ : List Addr) (F H : Hp) (v : V) (d : D) : Prop :=
  Rep K φ F v d ∨ ∃ a vs ds, v = .ref a ∧ d = .lst ds ∧ H a = some (.lst vs) ∧ RepA K φ F vs ds ∧ a ∉ φ
section
variable {K : PySem.W.Frag} {φ : List Addr} {F H : Hp} {v : V}
theorem RepB.non (h : RepB K φ F H v .non) : v = .non := by
  rcases h with h | ⟨_, _, _, _, e, _⟩
  · cases h; rfl
  · cases e
theorem RepB.bl {b : Bool} (h : RepB K φ F H v (.bl b)) : v = .bl b := by
  rcases h with h | ⟨_, _, _, _, e, _⟩
  · cases h; rfl
  · cases e
theorem RepB.int {b : Int} (h : RepB K φ F H v (.int b)) : v = .int b := by
  rcases h with h | ⟨_, _, _, _, e, _⟩
  · cases h; rfl
  · cases e
theorem RepB.str {b : Str} (h : RepB K φ F H v (.str b)) : v = .str b := by
  rcases h with h | ⟨_, _, _, _, e, _⟩
  · cases h; rfl
  · cases e
theorem RepB.tup {ds : List D} (l : Le F H) (h : RepB K φ F H v (.tup ds)) : ∃ a vs, v = .ref a ∧ SqT K H a vs ∧ RepA K φ F vs ds := by
  rcases h with h | ⟨_, _, _, _, e, _⟩
  · cases h with
    | tup h t => exact ⟨_, _, rfl, l.sqT h, t⟩
  · cases e
theorem RepB.lst {ds : List D} (l : Le F H) (h : RepB K φ F H v (.lst ds)) : ∃ a vs, v = .ref a ∧ H a = some (.lst vs) ∧ RepA K φ F vs ds := by
  rcases h with h | ⟨a, vs, ds', e1, e, h1, h2, _⟩
  · cases h with
    | lst h t => exact ⟨_, _, rfl, l _ _ h, t⟩
  · cases e
    exact ⟨a, vs, e1, h1, h2⟩
theorem RepB.scr {ns : List Int} (l : Le F H) (h : RepB K φ F H v (.scr ns)) : ∃ a, v = .ref a ∧ SqL K H a (ns.map V.int) := by
  rcases h with h | ⟨_, _, _, _, e, _⟩
  · cases h with
    | scr h => exact ⟨_, rfl, l.sqL h⟩
  · cases e
theorem RepB.ref {n : Nat} (h : RepB K φ F H v (.ref n)) : ∃ a, v = .ref a ∧ φ[n]? = some a := by
  rcases h with h | ⟨_, _, _, _, e, _⟩
  · cases h with
    | ref h => exact ⟨_, rfl, h⟩
  · cases e
theorem RepB.dp {d : D} (l : Le F H) (h : RepB K φ F H v d) (e : PyData.canLay0 (toPy d) = true) : Dp K H v (toPy d) := by
  rcases h with h | ⟨a, vs, ds', rfl, rfl, h1, h2, _⟩
  · exact h.dp l e
  · exact .lst (SqL.of h1) (h2.dp l (by simpa [toPy, PyData.canLay0] using e))
end

/-! ## states -/
/-- the defs that make lambdas: their tables of code objects are told -/
def lamNames : List Str := ["law", "_law_refused_right", "_law_places_right"]
def tabsOf (K : PySem.W.Frag) : List (Addr × Str) := lamNames.filterMap fun x => match PySem.W.nsIn K mainGlobals x with
  | some (some (.ref _)) => some ((He.cT K (x, none)).2, (x ++ ".<locals>.") ++ "<lambda>")
  | _ => none
theorem tab_write {H : Hp} {L P : Addr} {q : Str} {xs : List V} {o : HO} (h : H L = some (.lst xs)) (t : LamX.TabS H P q) : LamX.TabS (upd H L o) P q := by
  obtain ⟨ps, h1, h2, h3⟩ := t
  have ne : ∀ {b u}, H b = some u → (∀ ys, u ≠ .lst ys) → b ≠ L := fun {b u} e n z => by
    rw [z, h] at e
    exact n xs (Option.some.inj e).symm
  refine ⟨ps, (upd_ne (ne h1 fun _ z => by cases z)).trans h1, h2, fun pos cv hc => ?_⟩
  obtain ⟨c, e1, e2⟩ := h3 pos cv hc
  exact ⟨c, e1, (upd_ne (ne e2 fun _ z => by unfold LamX.CodeO at z; cases z)).trans e2⟩
theorem tabs_write {T : List (Addr × Str)} {H : Hp} {L : Addr} {xs : List V} {o : HO} (h : H L = some (.lst xs)) (t : LamX.Tabs T H) : LamX.Tabs T (upd H L o) := fun p hp => tab_write h (t p hp)
/-- no table -/
def NoTb (o : HO) : Prop := ∀ ps, o ≠ .tbl ps
theorem noTb_lst {xs : List V} : NoTb (.lst xs) := fun _ z => by cases z
structure Sok (K : PySem.W.Frag) (φ : List Addr) (F : Hp) (st : Sto) (H : Hp) : Prop where
  le : Le F H
  len : st.length = φ.length
  cell : ∀ (n : Nat) (a : Addr) (ds : List D), φ[n]? = some a → st[n]? = some ds → F a = none ∧ ∃ vs, H a = some (.lst vs) ∧ RepA K φ F vs ds
  nd : φ.Nodup
  tab : LamX.Tabs (tabsOf K) H
  nt : ∀ a o, F a = some o → NoTb o
/-- told of, and no table -/
def Dm (H : Hp) : Addr → Prop := fun a => ∃ o, H a = some o ∧ NoTb o
theorem dm_lst {H : Hp} {a : Addr} {xs : List V} (h : H a = some (.lst xs)) : Dm H a := ⟨_, h, noTb_lst⟩
theorem dm_not {H : Hp} {a : Addr} (h : H a = none) : ¬ Dm H a := fun ⟨_, e, _⟩ => by rw [h] at e; cases e
theorem dm_upd {H : Hp} {a b : Addr} {o : HO} (t : NoTb o) (h : Dm H b) : Dm (upd H a o) b := by
  by_cases q : b = a
  · subst q; exact ⟨o, upd_same, t⟩
  · obtain ⟨u, e, t'⟩ := h
    exact ⟨u, (upd_ne q).trans e, t'⟩
structure Ext (P : Addr → Prop) (φ : List Addr) (F H F' H' : Hp) : Prop where
  keep : ∀ a o, P a → a ∉ φ → H a = some o → NoTb o → H' a = some o
  frz : ∀ a, P a → F' a = F a
  mono : Le F F'
  dom : ∀ a, Dm H a → Dm H' a
theorem Ext.refl {P : Addr → Prop} {φ : List Addr} {F H : Hp} : Ext P φ F H F H := ⟨fun _ _ _ _ e _ => e, fun _ _ => rfl, Le.refl F, fun _ h => h⟩
theorem Ext.trans {P P1 : Addr → Prop} {φ : List Addr} {F H F1 H1 F2 H2 : Hp} (a : Ext P φ F H F1 H1) (b : Ext P1 φ F1 H1 F2 H2) (h : ∀ c, P c → P1 c) : Ext P φ F H F2 H2 :=
  ⟨fun c o p n e t => b.keep c o (h c p) n (a.keep c o p n e t) t, fun c p => (b.frz c (h c p)).trans (a.frz c p), a.mono.trans b.mono, fun c p => b.dom c (a.dom c p)⟩
theorem Ext.then {φ : List Addr} {F H F1 H1 F2 H2 : Hp} (a : Ext (Dm H) φ F H F1 H1) (b : Ext (Dm H1) φ F1 H1 F2 H2) : Ext (Dm H) φ F H F2 H2 := a.trans b a.dom
theorem Ext.repB {K : PySem.W.Frag} {φ : List Addr} {F H F1 H1 : Hp} (a : Ext (Dm H) φ F H F1 H1) {v : V} {d : D} (h : RepB K φ F H v d) : RepB K φ F1 H1 v d := by
  rcases h with h | ⟨x, vs, ds, rfl, rfl, h1, h2, h3⟩
  · exact .inl (h.le a.mono)
  · refine .inr ⟨x, vs, ds, rfl, rfl, ?_, h2.le a.mono, h3⟩
    exact a.keep x _ (dm_lst h1) h3 h1 noTb_lst
/-- an exception: its class's address, its dict -/
def XnR (K : PySem.W.Frag) (cl : List Addr) (φ : List Addr) (F H : Hp) (x : Xn) (c : Value) (dx : Addr) : Prop :=
  ∃ a v, cl[x.cls]? = some a ∧ c = .ref a ∧ H dx = some (.xd [(("thing" : Str), v)]) ∧ Rep K φ F v x.thing
/-- what an evaluation's result asks of what follows -/
def Out {α β : Type} (K : PySem.W.Frag) (cl : List Addr) (φ : List Addr) (F H : Hp) (σ : L2.St) (W : WX) (rl : Hp → Hp → α → β → Prop) (r : R β) (Q : α → Hp → Prop) : Prop :=
  match r with
  | .ok d st' => ∀ v H' F', Ext (Dm H) φ F H F' H' → Sok K φ F' st' H' → rl F' H' v d → Q v H'
  | .exc x st' => ∀ c dx H' F', Ext (Dm H) φ F H F' H' → Sok K φ F' st' H' → XnR K cl φ F' H' x c dx → W c (some dx) σ H'
  | .stuck => False
section
variable {α β γ δ : Type} {K : PySem.W.Frag} {cl φ : List Addr} {F H F1 H1 : Hp} {σ : L2.St} {W : WX} {rl : Hp → Hp → α → β → Prop} {rl2 : Hp → Hp → γ → δ → Prop} {st1 : Sto}
theorem Out.step {r : R β} {Q : α → Hp → Prop} (h : Out K cl φ F H σ W rl r Q) (e : Ext (Dm H) φ F H F1 H1) : Out K cl φ F1 H1 σ W rl r Q := by
  cases r with
  | ok d st' => exact fun v H' F' e' s' q => h v H' F' (e.then e') s' q
  | exc x st' => exact fun c dx H' F' e' s' q => h c dx H' F' (e.then e') s' q
  | stuck => exact h
theorem Out.bind {r : R β} {f : β → Sto → R δ} {Q : γ → Hp → Prop} (h : Out K cl φ F H σ W rl2 (r.bind f) Q) :
    Out K cl φ F H σ W rl r (fun v H1 => ∃ F1 d st1, r = .ok d st1 ∧ Ext (Dm H) φ F H F1 H1 ∧ Sok K φ F1 st1 H1 ∧ rl F1 H1 v d ∧ Out K cl φ F1 H1 σ W rl2 (f d st1) Q) := by
  cases r with
  | ok d st' => exact fun v H' F' e s q => ⟨F', d, st', rfl, e, s, q, Out.step h e⟩
  | exc x st' => exact h
  | stuck => exact h
theorem Out.mono {r : R β} {Q Q' : α → Hp → Prop} (h : Out K cl φ F H σ W rl r Q) (q : ∀ v H, Q v H → Q' v H) : Out K cl φ F H σ W rl r Q' := by
  cases r with
  | ok d st' => exact fun v H' F' e' s' k => q _ _ (h v H' F' e' s' k)
  | exc x st' => exact h
  | stuck => exact h
theorem Out.rel {rl' : Hp → Hp → α → β → Prop} {r : R β} {Q : α → Hp → Prop} (h : Out K cl φ F H σ W rl r Q) (q : ∀ F' H' v d, rl' F' H' v d → rl F' H' v d) : Out K cl φ F H σ W rl' r Q := by
  cases r with
  | ok d st' => exact fun v H' F' e' s' k => h v H' F' e' s' (q _ _ _ _ k)
  | exc x st' => exact h
  | stuck => exact h
/-- nothing new is made -/
theorem Out.here {st : Sto} {d : β} {v : α} {Q : α → Hp → Prop} (h : Out K cl φ F H σ W rl (.ok d st) Q) (k : Sok K φ F st H) (r : rl F H v d) : Q v H := h v H F .refl k r
theorem Out.of {o : Option β} {st : Sto} {Q : α → Hp → Prop} (h : Out K cl φ F H σ W rl (.of o st) Q) : ∃ d, o = some d ∧ Out K cl φ F H σ W rl (.ok d st) Q := by
  cases o with
  | none => exact h.elim
  | some d => exact ⟨d, rfl, h⟩
theorem calm_ok {r : R β} {Q : α → Hp → Prop} (h : Out K cl φ F H σ W rl (calm r) Q) : Out K cl φ F H σ (fun _ _ _ _ => False) rl r Q := by
  cases r with
  | ok d st' => exact h
  | exc x st' => exact h.elim
  | stuck => exact h
end
abbrev rlE (K : PySem.W.Frag) (φ : List Addr) : Hp → Hp → V → D → Prop := fun F _ v d => Rep K φ F v d
abbrev rlB (K : PySem.W.Frag) (φ : List Addr) : Hp → Hp → V → D → Prop := fun F H v d => RepB K φ F H v d
abbrev rlT : Hp → Hp → Bool → Bool → Prop := fun _ _ a b => a = b
/-- the slots -/
def SlotR (K : PySem.W.Frag) (P : Addr → Prop) (φ : List Addr) (F H : Hp) (sl : Sl) (x : Option (Option V)) : Prop := match sl with
  | .un => True
  | .val d => ∃ v, x = some (some v) ∧ Rep K φ F v d
  | .own ds => ∃ a vs, x = some (some (.ref a)) ∧ H a = some (.lst vs) ∧ F a = none ∧ a ∉ φ ∧ ¬ P a ∧ RepA K φ F vs ds
def isOwn : Sl → Bool
  | .own _ => true
  | _ => false
structure Rel (K : PySem.W.Frag) (P : Addr → Prop) (φ : List Addr) (F : Hp) (env : Env) (st : Sto) (σ : L2.St) (H : Hp) : Prop where
  sok : Sok K φ F st H
  sl : ∀ i, SlotR K P φ F H (sget env i) σ[i]?
  sep : ∀ i j, i ≠ j → isOwn (sget env i) = true → isOwn (sget env j) = true → σ[i]? ≠ σ[j]?
  len : env.length = σ.length
theorem SlotR.step {K : PySem.W.Frag} {P : Addr → Prop} {φ : List Addr} {F H F1 H1 : Hp} {sl : Sl} {x : Option (Option V)} (e : Ext (Dm H) φ F H F1 H1) (h : SlotR K P φ F H sl x) : SlotR K P φ F1 H1 sl x := by
  cases sl with
  | un => trivial
  | val d =>
    obtain ⟨v, e1, r⟩ := h
    exact ⟨v, e1, r.le e.mono⟩
  | own ds =>
    obtain ⟨a, vs, e1, h1, h2, h3, h4, h5⟩ := h
    have hp : Dm H a := dm_lst h1
    exact ⟨a, vs, e1, e.keep a _ hp h3 h1 noTb_lst, (e.frz a hp).trans h2, h3, h4, h5.le e.mono⟩
theorem Rel.step {K : PySem.W.Frag} {P : Addr → Prop} {φ : List Addr} {F H F1 H1 : Hp} {env : Env} {st st1 : Sto} {σ : L2.St} (h : Rel K P φ F env st σ H) (e : Ext (Dm H) φ F H F1 H1) (k : Sok K φ F1 st1 H1) : Rel K P φ F1 env st1 σ H1 :=
  ⟨k, fun i => (h.sl i).step e, h.sep, h.len⟩
/-! new objects -/
section
variable {K : PySem.W.Frag} {φ : List Addr} {F H : Hp} {st : Sto} {p : Addr}
theorem Sok.fresh (k : Sok K φ F st H) (hp : H p = none) : F p = none := by
  cases q : F p with
  | none => rfl
  | some o => have := k.le p o q; rw [hp] at this; cases this
theorem Sok.notIn (k : Sok K φ F st H) (hp : H p = none) : p ∉ φ := fun hm => by
  obtain ⟨n, hn⟩ := List.mem_iff_getElem?.mp hm
  have hl : n < st.length := by rw [k.len]; exact (List.getElem?_eq_some_iff.mp hn).1
  obtain ⟨_, vs, h1, _⟩ := k.cell n p st[n] hn (List.getElem?_eq_getElem hl)
  rw [hp] at h1; cases h1
theorem le_upd {G : Hp} {o : HO} (h : G p = none) : Le G (upd G p o) := fun b x e => by rw [upd_ne (ne_of_none e h)]; exact e
theorem ext_new {o : HO} (k : Sok K φ F st H) (hp : H p = none) : Ext (Dm H) φ F H F (upd H p o) :=
  ⟨fun a u ha _ e _ => (upd_ne (ne_of_none e hp)).trans e, fun _ _ => rfl, Le.refl F, fun a ⟨u, e, t⟩ => ⟨u, (upd_ne (ne_of_none e hp)).trans e, t⟩⟩
theorem ext_newF {o : HO} (k : Sok K φ F st H) (hp : H p = none) : Ext (Dm H) φ F H (upd F p o) (upd H p o) :=
  ⟨fun a u ha _ e _ => (upd_ne (ne_of_none e hp)).trans e, fun a ⟨u, e, _⟩ => upd_ne (ne_of_none e hp), le_upd (k.fresh hp), fun a ⟨u, e, t⟩ => ⟨u, (upd_ne (ne_of_none e hp)).trans e, t⟩⟩
theorem Sok.notInD (k : Sok K φ F st H) (hp : ¬ Dm H p) : p ∉ φ := fun hm => by
  obtain ⟨n, hn⟩ := List.mem_iff_getElem?.mp hm
  have hl : n < st.length := by rw [k.len]; exact (List.getElem?_eq_some_iff.mp hn).1
  obtain ⟨_, vs, h1, _⟩ := k.cell n p st[n] hn (List.getElem?_eq_getElem hl)
  exact hp (dm_lst h1)
theorem Sok.new {o : HO} (k : Sok K φ F st H) (hp : H p = none) : Sok K φ F st (upd H p o) :=
  ⟨k.le.trans (le_upd hp), k.len, fun n a ds h1 h2 => by
    obtain ⟨e, vs, h3, h4⟩ := k.cell n a ds h1 h2
    exact ⟨e, vs, by rw [upd_ne (ne_of_none h3 hp)]; exact h3, h4⟩, k.nd, k.tab.ext fun b u e => (upd_ne (ne_of_none e hp)).trans e, k.nt⟩
theorem nt_upd {F : Hp} {p : Addr} {o : HO} (t : NoTb o) (k : ∀ a o, F a = some o → NoTb o) : ∀ a u, upd F p o a = some u → NoTb u := fun a u e => by
  by_cases q : a = p
  · subst q; rw [upd_same] at e; cases e; exact t
  · exact k a u ((upd_ne q).symm.trans e)
theorem Sok.newF {o : HO} (k : Sok K φ F st H) (hp : H p = none) (t : NoTb o := by intro _ z; cases z) : Sok K φ (upd F p o) st (upd H p o) :=
  ⟨fun a x e => by
    by_cases q : a = p
    · subst q; rw [upd_same] at e ⊢; exact e
    · rw [upd_ne q] at e ⊢; exact k.le a x e, k.len, fun n a ds h1 h2 => by
    obtain ⟨e, vs, h3, h4⟩ := k.cell n a ds h1 h2
    have q := ne_of_none h3 hp
    exact ⟨by rw [upd_ne q]; exact e, vs, by rw [upd_ne q]; exact h3, h4.le (le_upd (k.fresh hp))⟩, k.nd, k.tab.ext fun b u e => (upd_ne (ne_of_none e hp)).trans e, nt_upd t k.nt⟩
theorem Out.tup {cl : List Addr} {σ : L2.St} {W : WX} {ds : List D} {vs : List V} {Q : V → Hp → Prop} (h : Out K cl φ F H σ W (rlE K φ) (.ok (.tup ds) st) Q) (k : Sok K φ F st H) (r : RepA K φ F vs ds) (hp : H p = none) : Q (.ref p) (upd H p (.tup vs)) :=
  h _ _ _ (ext_newF k hp) (k.newF hp) (.tup (SqT.of upd_same) (r.le (le_upd (k.fresh hp))))
theorem Out.lst {cl : List Addr} {σ : L2.St} {W : WX} {ds : List D} {vs : List V} {Q : V → Hp → Prop} (h : Out K cl φ F H σ W (rlE K φ) (.ok (.lst ds) st) Q) (k : Sok K φ F st H) (r : RepA K φ F vs ds) (hp : H p = none) : Q (.ref p) (upd H p (.lst vs)) :=
  h _ _ _ (ext_newF k hp) (k.newF hp) (.lst upd_same (r.le (le_upd (k.fresh hp))))
end
end Eng
end

section
set_option autoImplicit false
namespace Eng
open PySem PySem.Spec PyProof.Rows L2

/-! ## built-ins over tuples -/
section
variable {prog : Program} {w : World} {A : Around} {E : Value → Shared → Prop} {s : Shared}
theorem isTuple_of {h : Heap} {t : Addr} {its : Array Value} (x : IsTup h t its) : h.IsTuple t its := x
/-- a tuple's items, collected into a new list -/
theorem gather_tup {t : Addr} {its : List Value} {Q : List Value → Shared → Prop} (ht : IsTup s.heap t its.toArray) (hz : its.length ≤ sizeLine)
    (q : Q its { s with heap := (s.heap.push (seqObj "list" #[] 0)).update s.heap.objs.size (Obj.mapSeq (· ++ its.toArray)) }) :
    wpAny (model prog w) A (collect (.ref t)) Q E s := by
  obtain ⟨ob, hob, hcl, m, hdt⟩ := id ht
  unfold collect
  refine wpAny_bind (wpAny_runValue (codeAny_builtin entry_proto_collect' ?go))
  show wpAny _ _ (newList [] >>= fun g => again (.builtin "list.__iadd__" ⟨[g, .ref t], []⟩)) _ _ s
  refine wpAny_bind (wpAny_newList (wpAny_pure ⟨Code.quiet_builtin _ (by decide +kernel), codeAny_builtin entry_list_iadd' ?_⟩))
  show wpAny _ _ (Builtin.List.listExtendWith (.ref s.heap.objs.size) (.ref t) (.ref s.heap.objs.size)) _ _ { s with heap := s.heap.push (seqObj "list" #[] 0) }
  unfold Builtin.List.listExtendWith
  have kept : (s.heap.push (seqObj "list" #[] 0)).get? t = some ob := Heap.get?_push_of_some _ hob
  refine wpAny_bind (wpAny_typeOf (T := "tuple") ⟨ob, kept, hcl⟩ ?_)
  rw [if_pos (by rw [show (Value.type "tuple" == Value.type "tuple") = true from rfl]; simp)]
  refine wpAny_bind (listItems_at kept hdt ?_)
  refine wpAny_bind (listItems_at (xs := #[]) (n := 0) (Heap.get?_push_size _ rfl) rfl ?_)
  rw [if_neg (by simp)]
  refine wpAny_bind (listUpdate_at (xs := #[]) (n := 0) (Heap.get?_push_size _ rfl) rfl ?_ (Nat.zero_le _) (by
    show (#[] ++ its.toArray).size ≤ sizeLine + 1
    simp only [Array.size_append, List.size_toArray, List.length_nil]
    omega))
  refine wpAny_pure ?_
  show wpAny (model prog w) A (do
      let o ← load s.heap.objs.size
      match o.data with
      | .seq xs _ => pure xs.toList
      | _ => unsupported "internal:collect") Q E { s with heap := (s.heap.push (seqObj "list" #[] 0)).update s.heap.objs.size (Obj.mapSeq (· ++ its.toArray)) }
  refine wpAny_bind (wpAny_load (get?_update_seq (Heap.get?_push_size _ rfl) _) ?_)
  show wpAny _ _ (pure ((#[] : Array Value) ++ its.toArray).toList) Q E _
  have e : ((#[] : Array Value) ++ its.toArray).toList = its := by simp
  rw [e]
  exact wpAny_pure q
/-- sorted(t) -/
theorem sorted_tup {t : Addr} {its : List Value} {lt : Value → Value → Bool} {Q : Value → Shared → Prop} (O : SrtO.Swo lt) (ht : IsTup s.heap t its.toArray) (hz : its.length ≤ sizeLine)
    (hS : 2 ≤ its.length → ∀ (h1 : Heap) (a : Addr), SrtO.SortableO prog w A.in1.in1 { s with heap := h1 } a its lt)
    (q : ∀ out : List Value, SrtO.Srtd lt out → SrtO.Stb lt out its → Q (.ref (s.heap.objs.size + 1)) { s with heap := sortedAll s.heap its out.toArray }) :
    wpAny (model prog w) A (call (.builtin "sorted") [.ref t]) Q E s := by
  refine Calls.call_function_entry kind_sorted plain_sorted entry_sorted (args_sorted1 _) ?_
  unfold Builtin.«sorted»
  refine wpAny_bind (m := checkCount "sorted" 1 1 _) (wpAny_pure ?_)
  refine wpAny_bind (gather_tup ht hz ?_)
  refine wpAny_bind (wpAny_newList ?_ hz)
  have sz : ((s.heap.push (seqObj "list" #[] 0)).update s.heap.objs.size (Obj.mapSeq (· ++ its.toArray))).objs.size = s.heap.objs.size + 1 := by
    rw [Heap.size_update, size_push']
  have at1' : (((s.heap.push (seqObj "list" #[] 0)).update s.heap.objs.size (Obj.mapSeq (· ++ its.toArray))).push (seqObj "list" its.toArray 0)).get? (s.heap.objs.size + 1) = some (seqObj "list" its.toArray 0) := by
    rw [← sz]
    exact Heap.get?_push_size _ rfl
  show wpAny _ _ _ _ _ { s with heap := ((s.heap.push (seqObj "list" #[] 0)).update s.heap.objs.size (Obj.mapSeq (· ++ its.toArray))).push (seqObj "list" its.toArray 0) }
  rw [sz]
  refine wpAny_bind (wpAny_holding (wpAny_call_entry slot_list_sort ⟨_, at1', rfl⟩ entry_list_sort (SrtO.list_sort_ord O at1' hz (fun h2 => hS h2 _ _) fun out g1 g2 => ⟨_, rfl, ?_⟩) (args_list_sort _)))
  exact wpAny_pure ⟨_, rfl, q out g1 g2⟩
theorem step_neg {sl : Addr} {vl vu vs : Value} {n : Nat} {Q : Int × Int × Nat → Shared → Prop} (hs : s.heap.IsSliceOf sl vl vu vs) (pl : IsPart vl none) (pu : IsPart vu none) (ps : IsPart vs (some (-1)))
    (q : Q ((n : Int) - 1, -1, n) s) : wpAny (model prog w) A (Builtin.Slice.sliceApplied (.ref sl) (pure (n : Int))) Q E s := by
  obtain ⟨os, hos, hcs, hds⟩ := id hs
  unfold Builtin.Slice.sliceApplied Builtin.Slice.sliceFields
  refine wpAny_bind (wpAny_bind (wpAny_field hos hds (x := vl) rfl (wpAny_bind (wpAny_field hos hds (x := vu) rfl (wpAny_bind (wpAny_field hos hds (x := vs) rfl (wpAny_pure ?_)))))))
  refine wpAny_bind (HT.slicePart_ ps ?_)
  show wpAny _ _ (if ((-1 : Int) == 0) = true then _ else _) _ _ s
  rw [if_neg (by decide)]
  refine wpAny_bind (HT.slicePart_ pl (wpAny_bind (HT.slicePart_ pu (wpAny_bind (wpAny_pure ?_)))))
  have e1 : Builtin.Slice.sliceAdjust none none (-1) (n : Int) = ((n : Int) - 1, -1) := by
    unfold Builtin.Slice.sliceAdjust
    rfl
  have e2 : Builtin.Slice.slicePlaces ((n : Int) - 1) (-1) (-1) = n := by
    unfold Builtin.Slice.slicePlaces
    simp
    omega
  show wpAny _ _ (match Builtin.Slice.sliceAdjust none none (-1) (n : Int) with | (lo, hi) => pure (lo, (-1 : Int), Builtin.Slice.slicePlaces lo hi (-1))) _ _ s
  rw [e1]
  show wpAny _ _ (pure ((n : Int) - 1, (-1 : Int), Builtin.Slice.slicePlaces ((n : Int) - 1) (-1) (-1))) _ _ s
  rw [e2]
  exact wpAny_pure q
theorem fm_same {α β : Type} {f g : α → Option β} : ∀ {l : List α}, (∀ x ∈ l, f x = g x) → l.filterMap f = l.filterMap g
  | [], _ => rfl
  | x :: l, h => by
    rw [List.filterMap_cons, List.filterMap_cons, h x List.mem_cons_self, fm_same fun y hy => h y (List.mem_cons_of_mem _ hy)]
theorem pick_back (xs : List Value) : ((List.range xs.length).filterMap fun (m : Nat) => xs.toArray[(((xs.length : Nat) : Int) - 1 + (m : Int) * (-1)).toNat]?) = xs.reverse := by
  have e : ∀ m ∈ List.range xs.length, xs.toArray[(((xs.length : Nat) : Int) - 1 + (m : Int) * (-1)).toNat]? = xs.reverse[m]? := fun m hm => by
    have hm := List.mem_range.mp hm
    rw [List.getElem?_reverse hm, List.getElem?_toArray]
    congr 1
    omega
  rw [fm_same e]
  have : ∀ (n : Nat) (ys : List Value), ys.length = n → (List.range n).filterMap (fun m => ys[m]?) = ys := by
    intro n ys h
    subst h
    induction ys with
    | nil => rfl
    | cons y ys ih =>
      rw [List.length_cons, List.range_succ_eq_map, List.filterMap_cons]
      simp only [List.getElem?_cons_zero, List.filterMap_map]
      congr 1
  exact this _ _ (List.length_reverse ..)
/-- t[::-1] -/
theorem item_back {t sl : Addr} {its : List Value} {vl vu vs : Value} {Q : Value → Shared → Prop} (ht : IsTup s.heap t its.toArray) (hs : s.heap.IsSliceOf sl vl vu vs) (pl : IsPart vl none) (pu : IsPart vu none) (ps : IsPart vs (some (-1)))
    (hz : its.length ≤ sizeLine) (q : Q (.ref s.heap.objs.size) { s with heap := s.heap.push { cls := .type "tuple", data := .seq its.reverse.toArray } }) : wpAny (model prog w) A (getItem (.ref t) (.ref sl)) Q E s := by
  have fits : sizeOk (.seq its.reverse.toArray) := by
    show its.reverse.toArray.size ≤ sizeLine
    rw [List.size_toArray, List.length_reverse]
    exact hz
  obtain ⟨os, hos, hcs, hds⟩ := id hs
  have hTs : s.TypeIs (.ref sl) "slice" := ⟨os, hos, hcs⟩
  unfold getItem
  try with_reducible refine wpAny_holding ?_
  first | refine wpAny_bind (wpAny_pure ?_) | skip
  refine wpAny_bind (wpAny_sequenceKey ht.typeIs (by decide) ?_)
  refine wpAny_bind (wpAny_callSpecial?_slot (name := Str.ofString "__getitem__") ht.typeIs PyProof.Rows.slot_tuple_getitem
    (wpAny_call_entry PyProof.Rows.slot_tuple_getitem ht.typeIs entry_tuple_getitem ?_ (args_tuple_getitem _ _)))
  show wpAny _ _ (Builtin.Tuple.tupleItemsOf (.ref t) >>= _) _ _ s
  refine wpAny_bind (tupleItemsOf_ ht ?_)
  refine wpAny_bind (wpAny_typeOf hTs ?_)
  rw [if_pos (by decide)]
  have sz : its.toArray.size = its.length := List.size_toArray
  rw [sz]
  refine wpAny_bind (step_neg hs pl pu ps ?_)
  show wpAny _ _ (if ((((its.length : Nat) : Int) - 1) == 0 && (-1 : Int) == 1 && its.length == its.length) = true then _ else _) _ _ s
  rw [if_neg (by
    rw [show ((-1 : Int) == 1) = false from rfl, Bool.and_false, Bool.false_and]
    exact Bool.false_ne_true), pick_back]
  first
    | exact wpAny_bind (m := Builtin.Tuple.tupleExact _) (wpAny_newObj_type (wpAny_pure ⟨_, rfl, wpAny_pure q⟩) fits)
    | exact wpAny_bind (m := Builtin.Tuple.tupleExact _) (wpAny_newObj_type (wpAny_bind (wpAny_pure (wpAny_pure ⟨_, rfl, wpAny_pure q⟩))) fits)
    | exact wpAny_bind (wpAny_bind (m := Builtin.Tuple.tupleExact _) (wpAny_newObj_type (wpAny_pure (wpAny_pure ⟨_, rfl, wpAny_pure q⟩)) fits))
    | exact wpAny_bind (wpAny_bind (m := Builtin.Tuple.tupleExact _) (wpAny_newObj_type (wpAny_pure ⟨_, rfl, wpAny_pure q⟩) fits))
end
section
variable {X : Cx}
def rSumT (K : PySem.W.Frag) : List V → Hp → VK → Prop := fun vs H Q => ∃ (a : Addr) (ns : List Int), vs = [V.ref a] ∧ SqT K H a (ns.map V.int) ∧ Q (.int ns.sum) H
theorem cr_sumT (hc : X.calm = true) : CallR X (.builtin "sum") (rSumT X.K) := by
  intro pins s σ H vs us Q I r h
  obtain ⟨a, ns, rfl, hs, q⟩ := h
  obtain ⟨its, rv, p, hz⟩ := I.tuple hs
  rw [Vals.ref1 r]
  have hi := rv.ints
  obtain ⟨xs, e⟩ := hi.allInts.items
  have hn : numsOf (intItems xs).toList = ns := by rw [← e]; exact hi.numsOf
  rw [nums_intItems] at hn
  have p := isTuple_of p
  rw [e] at p
  refine PySem.W.ktm_sumG (I.ok.hd hc) p fun h' tk t' hk => ?_
  have g : preSum (numAt xs) xs.size = ns.sum := by rw [preSum_eq, List.take_of_length_le (by simp), hn]
  rw [g]
  exact ⟨.int _, H, I.kept hk, ⟨_, rfl⟩, q⟩
def rSortedT (K : PySem.W.Frag) : List V → Hp → VK → Prop := fun vs H Q => ∃ (a : Addr) (ns : List Int), vs = [V.ref a] ∧ SqT K H a (ns.map V.int) ∧
  ∀ (ns' : List Int) (p : Addr), ns'.Perm ns → ns'.Pairwise (· ≤ ·) → H p = none → Q (.ref p) (upd H p (.lst (ns'.map V.int)))
theorem cr_sortedT : CallR X (.builtin "sorted") (rSortedT X.K) := by
  intro pins s σ H vs us Q I r h
  obtain ⟨a, ns, rfl, hs, q⟩ := h
  obtain ⟨its, rv, p, hz⟩ := I.tuple hs
  rw [Vals.ref1 r]
  have hi := rv.ints
  have hlen := rv.length
  refine sorted_tup SrtO.swo_int p (by rw [← hlen]; exact hz) (fun h2 h1 a' => SrtO.ints_sortable hi h2) fun out h1 h2 => ?_
  obtain ⟨k1, k2, k3⟩ := SrtO.ints_out hi h1 h2
  obtain ⟨ep, he'⟩ := PyProof.Rows.sortedAll_at s.heap its out.toArray
  have hl : ((out.map SrtO.iv).map V.int).length ≤ sizeLine := by
    rw [List.length_map, k2.length_eq]
    rw [List.length_map] at hz
    exact hz
  refine ⟨.ref _, upd H (s.heap.objs.size + 1) (.lst ((out.map SrtO.iv).map V.int)), ?_, rfl, q _ _ k2 k3 (I.hok.fresh (Nat.le_succ _))⟩
  exact I.laid (t' := s.toks) (fun _ _ => PyProof.Rows.sortedAll_old) (Nat.le_succ _) ⟨hl, out, ep, vals_of_ints k1, he'⟩
/-- x[::-1], x a list or a tuple -/
def tBack (K : PySem.W.Frag) (te : TE) : TE := fun σ H Q => te σ H fun x H1 => ∃ a xs, x = .ref a ∧ ((SqL K H1 a xs ∧ ∀ p, H1 p = none → Q (.ref p) (upd H1 p (.lst xs.reverse))) ∨ (SqT K H1 a xs ∧ ∀ p, H1 p = none → Q (.ref p) (upd H1 p (.tup xs.reverse))))
theorem pe_back {e : Expr} {te : TE} {k : Nat} {p1 p2 p3 pos : Pos} (he : PE X e te) : PE X (.Subscript e (.Slice none none (some (.UnaryOp .USub (.Constant (.int 1) k p1) p2)) p3) pos) (tBack X.K te) := by
  refine ⟨fun pins s σ H Q I h => ?_⟩
  refine Subscript_ (thn (he.run pins s σ H _ I h) fun v s1 ⟨x, H1, I1, r1, q1⟩ => ?_)
  obtain ⟨a, xs, rfl, q⟩ := q1
  cases r1
  have hst : PO X (some (.UnaryOp .USub (.Constant (.int 1) k p1) p2)) (tPart (tUn (rU fun i => .int (-i)) (tC (.int 1)))) := po_some (pe_un un_neg pe_int)
  refine wpAny_Slice (thn (po_none.run pins s1 σ H1 (fun o H2 => o = none ∧ H2 = H1) I1 ⟨rfl, rfl⟩) fun vl s2 ⟨l, H2, I2, pl, el, e2⟩ => ?_)
  obtain rfl := el
  obtain rfl := e2
  refine thn (po_none.run pins s2 σ H2 (fun o H3 => o = none ∧ H3 = H2) I2 ⟨rfl, rfl⟩) fun vu s3 ⟨u, H3, I3, pu, eu, e3⟩ => ?_
  obtain rfl := eu
  obtain rfl := e3
  refine thn (hst.run pins s3 σ H3 (fun o H4 => o = some (-1) ∧ H4 = H3) I3 ⟨1, rfl, -1, rfl, rfl, rfl⟩) fun vs s4 ⟨o, H4, I4, ps, eo, e4⟩ => ?_
  obtain rfl := eo
  obtain rfl := e4
  have I5 : Inv X pins σ H4 { s4 with heap := s4.heap.push { cls := .type "slice", data := .fields #[vl, vu, vs] } } := I4.kept (t' := s4.toks) fun b ob z => Heap.get?_push_of_some _ z
  rcases q with ⟨hx, q⟩ | ⟨hx, q⟩
  · obtain ⟨its, r, ht, hz⟩ := I5.list hx
    have hlen := r.length
    refine tail_any (ops := [.ref a, .ref s4.heap.objs.size]) ht.isList.typeIs (PySem.slot_list_getitem.lookup) ?_ (by with_unfolding_all rfl)
    refine wpAny_getItem_list_slice ht.isList (Heap.IsSliceOf.new _ vl vu vs) pl pu ps (by decide) ?_ (by rw [List.size_toArray]; omega)
    rw [PySem.W.krv_pick]
    refine ⟨.ref _, _, I5.laid (t' := s4.toks) (o := .lst xs.reverse) (fun b ob z => Heap.get?_push_of_some _ z) (Nat.le_refl _) ?_, rfl, q _ (I5.hok.fresh (Nat.le_refl _))⟩
    exact ⟨by rw [List.length_reverse]; exact hz, _, 0, r.reverse, Heap.get?_push_size _ rfl⟩
  · obtain ⟨its, r, ht, hz⟩ := I5.tuple hx
    have hlen := r.length
    refine tail_any (ops := [.ref a, .ref s4.heap.objs.size]) ht.typeIs (PyProof.Rows.slot_tuple_getitem.lookup) ?_ (by with_unfolding_all rfl)
    refine item_back ht (Heap.IsSliceOf.new _ vl vu vs) pl pu ps (by omega) ?_
    refine ⟨.ref _, _, I5.laid (t' := s4.toks) (o := .tup xs.reverse) (fun b ob z => Heap.get?_push_of_some _ z) (Nat.le_refl _) ?_, rfl, q _ (I5.hok.fresh (Nat.le_refl _))⟩
    exact ⟨by rw [List.length_reverse]; exact hz, _, r.reverse, IsTup.new _ _⟩
/-- a tuple, two times or more -/
def rRepM (K : PySem.W.Frag) : R2 := fun x y H Q => ∃ l k xs, x = .ref l ∧ y = .int k ∧ SqT K H l xs ∧ xs ≠ [] ∧ 2 ≤ k ∧ k * (xs.length : Int) ≤ 1000000 ∧ ∀ p, H p = none → Q (.ref p) (upd H p (.tup (List.replicate k.toNat xs).flatten))
theorem op_repM : OpR X (binaryOp .Mult) (rRepM X.K) := by
  intro pins s σ H x y v u Q I rx ry h
  obtain ⟨l, k, xs, rfl, rfl, hT, hne, h1, h2, q⟩ := h
  cases rx
  obtain ⟨t, rfl⟩ := ry
  obtain ⟨its, r, ⟨⟨cls, dd, data, sl⟩, ho, hc, n, hd⟩, hs⟩ := I.tuple hT
  simp only at hc hd
  subst hc hd
  have hle : its.length = xs.length := r.length.symm
  have hp : 0 < its.length := by rw [hle]; exact List.length_pos_iff.mpr hne
  have hi : its.toArray.isEmpty = false := by
    cases its with
    | nil => simp at hp
    | cons a b => rfl
  have sz0 : its.toArray.size = its.length := List.size_toArray
  have hk : k ≤ k * (its.length : Int) := by
    have a1 : k * 1 ≤ k * (its.length : Int) := Int.mul_le_mul_of_nonneg_left (by omega) (by omega)
    omega
  have hm : ((its.toArray.size : Nat) : Int) * k ≤ 1000000 := by
    rw [sz0, hle, Int.mul_comm]
    exact h2
  have hkz : k * (its.length : Int) ≤ 1000000 := by rw [hle]; exact h2
  have flen : (List.replicate k.toNat its).flatten.length ≤ 1000000 := by
    rw [PyProof.Rows.lm_len_rep_flat]
    have a2 : ((k.toNat * its.length : Nat) : Int) = k * its.length := by
      rw [Int.natCast_mul, Int.toNat_of_nonneg (by omega)]
    omega
  have c0 : (decide (k < -(2 ^ 63)) || decide (k ≥ 2 ^ 63)) = false := by
    rw [decide_eq_false (by omega), decide_eq_false (by omega)] <;> rfl
  have c1 : (its.toArray.isEmpty || k == 1) = false := by
    rw [hi, Bool.false_or]
    exact beq_eq_false_iff_ne.mpr (by omega)
  have c2 : (decide (k ≤ 0) || its.toArray.isEmpty) = false := by
    rw [hi, Bool.or_false]
    exact decide_eq_false (by omega)
  have c4 : Builtin.Tuple.tupleTooMany (((its.toArray.size : Nat) : Int) * k) = false := by
    unfold Builtin.Tuple.tupleTooMany
    rw [sizeLine_eq]
    exact decide_eq_false (by omega)
  have fz : (List.replicate k.toNat its).flatten.length ≤ sizeLine := by rw [sizeLine_eq]; omega
  refine wpAny_binaryOp_repeat_ref (T := "tuple") (U := "int") (by decide) ⟨_, ho, rfl⟩ (fun s' => typeIs_int s' k t) noFill_tuple_mul F.fills_int_mul F.slot_int_rmul repeat_tuple F.slot_int_index.lookup
    (call_meets F.slot_int_rmul (typeIs_int s k t) F.entry_int_rmul (F.args_int_rmul_2 _ _) (int_rmul_tuple k t l its.toArray n dd sl)
      ⟨ho, rfl, ⟨_, ho, rfl⟩, call_meets F.slot_tuple_mul ⟨_, ho, rfl⟩ F.entry_tuple_mul (F.args_tuple_mul_2 _ _) (tuple_mulW l its.toArray n dd sl k t c0 c1 c2 (by omega) c4 (by rw [size_rep, List.size_toArray]; exact fz)) ⟨ho, ?_⟩⟩)
  rw [size_rep]
  refine ⟨.ref s.heap.objs.size, _, I.laid (t' := s.toks) (o := .tup (List.replicate k.toNat xs).flatten) (fun b ob z => Heap.get?_push_of_some _ z) (Nat.le_refl _) ?_, rfl, q _ (I.hok.fresh (Nat.le_refl _))⟩
  exact ⟨by rw [PyProof.Rows.lm_len_rep_flat, ← hle, ← PyProof.Rows.lm_len_rep_flat]; exact fz, _, r.rep k.toNat, IsTup.new _ _⟩
/-! ### t[i::m] -/
theorem step_pos {prog : Program} {w : World} {A : Around} {E : Value → Shared → Prop} {s : Shared} {sl : Addr} {vl vu vs : Value} {n i m : Nat} {Q : Int × Int × Nat → Shared → Prop} (hs : s.heap.IsSliceOf sl vl vu vs) (pl : IsPart vl (some (i : Int))) (pu : IsPart vu none) (ps : IsPart vs (some (m : Int))) (hm : 1 ≤ m)
    (q : Q (((min i n : Nat) : Int), (m : Int), if i < n then (n - i - 1) / m + 1 else 0) s) : wpAny (model prog w) A (Builtin.Slice.sliceApplied (.ref sl) (pure (n : Int))) Q E s := by
  obtain ⟨os, hos, hcs, hds⟩ := id hs
  unfold Builtin.Slice.sliceApplied Builtin.Slice.sliceFields
  refine wpAny_bind (wpAny_bind (wpAny_field hos hds (x := vl) rfl (wpAny_bind (wpAny_field hos hds (x := vu) rfl (wpAny_bind (wpAny_field hos hds (x := vs) rfl (wpAny_pure ?_)))))))
  refine wpAny_bind (HT.slicePart_ ps ?_)
  show wpAny _ _ (if ((m : Int) == 0) = true then _ else _) _ _ s
  rw [if_neg (by simp; omega)]
  refine wpAny_bind (HT.slicePart_ pl (wpAny_bind (HT.slicePart_ pu (wpAny_bind (wpAny_pure ?_)))))
  have e1 : Builtin.Slice.sliceAdjust (some (i : Int)) none (m : Int) (n : Int) = (((min i n : Nat) : Int), (n : Int)) := by
    unfold Builtin.Slice.sliceAdjust
    have h1 : ¬ (m : Int) < 0 := by omega
    have h2 : ¬ (i : Int) < 0 := by omega
    simp only [if_neg h1, if_neg h2]
    congr 1
    omega
  have e2 : Builtin.Slice.slicePlaces ((min i n : Nat) : Int) (n : Int) (m : Int) = if i < n then (n - i - 1) / m + 1 else 0 := by
    unfold Builtin.Slice.slicePlaces
    rw [if_pos (show (m : Int) > 0 by omega)]
    by_cases h : i < n
    · rw [if_pos h, if_pos (by omega), Nat.min_eq_left (by omega)]
      have : ((n : Int) - (i : Int) - 1) = ((n - i - 1 : Nat) : Int) := by omega
      rw [this, ← Int.natCast_ediv]
      generalize (n - i - 1) / m = k
      omega
    · rw [if_neg h, if_neg (by omega)]
      rfl
  show wpAny _ _ (match Builtin.Slice.sliceAdjust (some (i : Int)) none (m : Int) (n : Int) with | (lo, hi) => pure (lo, (m : Int), Builtin.Slice.slicePlaces lo hi (m : Int))) _ _ s
  rw [e1]
  show wpAny _ _ (pure (((min i n : Nat) : Int), (m : Int), Builtin.Slice.slicePlaces ((min i n : Nat) : Int) (n : Int) (m : Int))) _ _ s
  rw [e2]
  exact wpAny_pure q
theorem pick_step (xs : List Value) (i m : Nat) : ((List.range (if i < xs.length then (xs.length - i - 1) / m + 1 else 0)).filterMap fun (k : Nat) => xs.toArray[(((min i xs.length : Nat) : Int) + (k : Int) * (m : Int)).toNat]?) = stpL xs i m := by
  unfold stpL
  by_cases h : i < xs.length
  · rw [if_pos h]
    refine fm_same fun k _ => ?_
    rw [Nat.min_eq_left (by omega), show ((i : Int) + (k : Int) * (m : Int)).toNat = i + k * m by
      rw [show (i : Int) + (k : Int) * (m : Int) = ((i + k * m : Nat) : Int) by rw [Int.natCast_add, Int.natCast_mul]]
      exact Int.toNat_natCast _, List.getElem?_toArray]
  · rw [if_neg h] <;> rfl
theorem stp_le {α : Type} (xs : List α) (i m : Nat) : (stpL xs i m).length ≤ xs.length := by
  unfold stpL
  refine Nat.le_trans (List.length_filterMap_le _ _) ?_
  rw [List.length_range]
  split
  · have := Nat.div_le_self (xs.length - i - 1) m
    omega
  · omega
theorem stp_all {α : Type} (xs : List α) : stpL xs 0 1 = xs := by
  unfold stpL
  have : (if 0 < xs.length then (xs.length - 0 - 1) / 1 + 1 else 0) = xs.length := by
    rw [Nat.div_one]
    split <;> omega
  rw [this]
  have go : ∀ (n : Nat) (ys : List α), ys.length = n → (List.range n).filterMap (fun m => ys[0 + m * 1]?) = ys := by
    intro n ys h
    subst h
    induction ys with
    | nil => rfl
    | cons y ys ih =>
      rw [List.length_cons, List.range_succ_eq_map, List.filterMap_cons]
      simp only [Nat.zero_mul, Nat.add_zero, List.getElem?_cons_zero, List.filterMap_map]
      congr 1
  exact go _ _ rfl
theorem item_step {prog : Program} {w : World} {A : Around} {E : Value → Shared → Prop} {s : Shared} {t sl : Addr} {its : List Value} {vl vu vs : Value} {i m : Nat} {Q : Value → Shared → Prop} (ht : IsTup s.heap t its.toArray) (hs : s.heap.IsSliceOf sl vl vu vs) (pl : IsPart vl (some (i : Int))) (pu : IsPart vu none) (ps : IsPart vs (some (m : Int))) (hm : 1 ≤ m)
    (hz : its.length ≤ sizeLine) (q0 : (i = 0 ∧ m = 1) ∨ its.length = 0 → Q (.ref t) s) (q : Q (.ref s.heap.objs.size) { s with heap := s.heap.push { cls := .type "tuple", data := .seq (stpL its i m).toArray } }) : wpAny (model prog w) A (getItem (.ref t) (.ref sl)) Q E s := by
  have fits : sizeOk (.seq (stpL its i m).toArray) := by
    show (stpL its i m).toArray.size ≤ sizeLine
    rw [List.size_toArray]
    exact Nat.le_trans (stp_le _ _ _) hz
  obtain ⟨os, hos, hcs, hds⟩ := id hs
  have hTs : s.TypeIs (.ref sl) "slice" := ⟨os, hos, hcs⟩
  unfold getItem
  try with_reducible refine wpAny_holding ?_
  first | refine wpAny_bind (wpAny_pure ?_) | skip
  refine wpAny_bind (wpAny_sequenceKey ht.typeIs (by decide) ?_)
  refine wpAny_bind (wpAny_callSpecial?_slot (name := Str.ofString "__getitem__") ht.typeIs PyProof.Rows.slot_tuple_getitem
    (wpAny_call_entry PyProof.Rows.slot_tuple_getitem ht.typeIs entry_tuple_getitem ?_ (args_tuple_getitem _ _)))
  show wpAny _ _ (Builtin.Tuple.tupleItemsOf (.ref t) >>= _) _ _ s
  refine wpAny_bind (tupleItemsOf_ ht ?_)
  refine wpAny_bind (wpAny_typeOf hTs ?_)
  rw [if_pos (by decide)]
  have sz : its.toArray.size = its.length := List.size_toArray
  rw [sz]
  refine wpAny_bind (step_pos hs pl pu ps hm ?_)
  show wpAny _ _ (if ((((min i its.length : Nat) : Int)) == 0 && (m : Int) == 1 && (if i < its.length then (its.length - i - 1) / m + 1 else 0) == its.length) = true then _ else _) _ _ s
  by_cases hw : ((((min i its.length : Nat) : Int)) == 0 && (m : Int) == 1 && (if i < its.length then (its.length - i - 1) / m + 1 else 0) == its.length) = true
  · rw [if_pos hw]
    have hq : (i = 0 ∧ m = 1) ∨ its.length = 0 := by
      simp only [Bool.and_eq_true, beq_iff_eq] at hw
      obtain ⟨⟨h1, h2⟩, h3⟩ := hw
      by_cases hi : i < its.length
      · exact .inl ⟨by omega, by omega⟩
      · rw [if_neg hi] at h3
        exact .inr h3.symm
    refine wpAny_bind ?_
    show wpAny _ _ (typeOf (.ref t) >>= fun T => pure (T == .type "tuple")) _ _ s
    refine wpAny_bind (wpAny_typeOf ht.typeIs (wpAny_pure ?_))
    first
      | rw [if_pos (by decide)]
      | simp only [beq_self_eq_true, if_true]
    first
      | exact wpAny_bind (wpAny_rule (wpAny_pure ⟨_, rfl, wpAny_pure (q0 hq)⟩))
      | exact wpAny_bind (wpAny_rule (wpAny_bind (wpAny_pure (wpAny_pure ⟨_, rfl, wpAny_pure (q0 hq)⟩))))
  · rw [if_neg hw, pick_step]
    first
      | exact wpAny_bind (m := Builtin.Tuple.tupleExact _) (wpAny_newObj_type (wpAny_pure ⟨_, rfl, wpAny_pure q⟩) fits)
      | exact wpAny_bind (m := Builtin.Tuple.tupleExact _) (wpAny_newObj_type (wpAny_bind (wpAny_pure (wpAny_pure ⟨_, rfl, wpAny_pure q⟩))) fits)
      | exact wpAny_bind (wpAny_bind (m := Builtin.Tuple.tupleExact _) (wpAny_newObj_type (wpAny_pure (wpAny_pure ⟨_, rfl, wpAny_pure q⟩)) fits))
      | exact wpAny_bind (wpAny_bind (m := Builtin.Tuple.tupleExact _) (wpAny_newObj_type (wpAny_pure ⟨_, rfl, wpAny_pure q⟩) fits))
theorem vals_stp {xs : List V} {us : List Value} (r : Vals xs us) (i m : Nat) : Vals (stpL xs i m) (stpL us i m) := by
  unfold stpL
  rw [r.length]
  generalize (if i < us.length then (us.length - i - 1) / m + 1 else 0) = k
  have go : ∀ l : List Nat, Vals (l.filterMap fun j => xs[i + j * m]?) (l.filterMap fun j => us[i + j * m]?) := by
    intro l
    induction l with
    | nil => exact .nil
    | cons j l ih =>
      rw [List.filterMap_cons, List.filterMap_cons]
      by_cases h : i + j * m < us.length
      · have hx : i + j * m < xs.length := by rw [r.length]; exact h
        have gg : ∀ {xs : List V} {us : List Value} (r : Vals xs us) (k : Nat) (h1 : k < xs.length) (h2 : k < us.length), RelV xs[k] us[k] := by
          intro xs us r
          induction r with
          | nil => intro k h1; simp at h1
          | cons r1 r2 ih =>
            intro k h1 h2
            cases k with
            | zero => exact r1
            | succ k => exact ih k (by simpa using h1) (by simpa using h2)
        rw [List.getElem?_eq_getElem hx, List.getElem?_eq_getElem h]
        exact .cons (gg r _ hx h) ih
      · have hx : ¬ i + j * m < xs.length := by rw [r.length]; exact h
        rw [List.getElem?_eq_none (by omega), List.getElem?_eq_none (by omega)]
        exact ih
  exact go _
def tStp (K : PySem.W.Frag) (te : TE) (tl tm : L2.TO) : TE := fun σ H Q => te σ H fun x H1 => tl σ H1 fun l H2 => tm σ H2 fun u H3 => ∃ (a : Addr) (xs : List V) (i m : Nat), x = .ref a ∧ l = some (i : Int) ∧ u = some (m : Int) ∧ 1 ≤ m ∧ SqT K H3 a xs ∧ ((i = 0 ∧ m = 1) ∨ xs.length = 0 → Q (.ref a) H3) ∧ ∀ p, H3 p = none → Q (.ref p) (upd H3 p (.tup (stpL xs i m)))
theorem stp_whole {α : Type} {xs : List α} {i m : Nat} (h : (i = 0 ∧ m = 1) ∨ xs.length = 0) : stpL xs i m = xs := by
  rcases h with ⟨rfl, rfl⟩ | h
  · exact stp_all xs
  · obtain rfl := List.eq_nil_of_length_eq_zero h
    exact List.eq_nil_of_length_eq_zero (Nat.le_zero.mp (stp_le _ _ _))
theorem pe_stp {e lo st : Expr} {te : TE} {tl tm : L2.TO} {p2 pos : Pos} (he : PE X e te) (hl : PO X (some lo) tl) (hm : PO X (some st) tm) : PE X (.Subscript e (.Slice (some lo) none (some st) p2) pos) (tStp X.K te tl tm) := by
  refine ⟨fun pins s σ H Q I h => ?_⟩
  refine Subscript_ (thn (he.run pins s σ H _ I h) fun v s1 ⟨x, H1, I1, r1, q1⟩ => ?_)
  refine wpAny_Slice (thn (hl.run pins s1 σ H1 _ I1 q1) fun vl s2 ⟨l, H2, I2, pl, q2⟩ => ?_)
  refine thn (po_none.run pins s2 σ H2 (fun o H3 => o = none ∧ H3 = H2) I2 ⟨rfl, rfl⟩) fun vu s3 ⟨u, H3, I3, pu, eu, e3⟩ => ?_
  obtain rfl := eu
  obtain rfl := e3
  refine thn (hm.run pins s3 σ H3 _ I3 q2) fun vs s4 ⟨o, H4, I4, ps, q3⟩ => ?_
  obtain ⟨a, xs, i, m, rfl, rfl, rfl, hm1, hx, qw, q⟩ := q3
  cases r1
  have I5 : Inv X pins σ H4 { s4 with heap := s4.heap.push { cls := .type "slice", data := .fields #[vl, vu, vs] } } := I4.kept (t' := s4.toks) fun b ob z => Heap.get?_push_of_some _ z
  obtain ⟨its, r, ht, hz⟩ := I5.tuple hx
  have hlen := r.length
  refine tail_any (ops := [.ref a, .ref s4.heap.objs.size]) ht.typeIs (PyProof.Rows.slot_tuple_getitem.lookup) ?_ (by with_unfolding_all rfl)
  refine item_step ht (Heap.IsSliceOf.new _ vl vu vs) pl pu ps hm1 (by omega) (fun hw => ?_) ?_
  · exact ⟨.ref a, H4, I5, rfl, qw (by rw [hlen]; exact hw)⟩
  · refine ⟨.ref _, _, I5.laid (t' := s4.toks) (o := .tup (stpL xs i m)) (fun b ob z => Heap.get?_push_of_some _ z) (Nat.le_refl _) ?_, rfl, q _ (I5.hok.fresh (Nat.le_refl _))⟩
    exact ⟨Nat.le_trans (stp_le _ _ _) (by omega), _, vals_stp r i m, IsTup.new _ _⟩
end
end Eng
end

section
set_option autoImplicit false
namespace Eng
open PySem PySem.Spec PyProof.Rows L2

/-! ## sum(lists, []) -/
def joined (parts : Nat → List Value) : Nat → List Value
  | 0 => []
  | i + 1 => joined parts i ++ parts i
abbrev lstAt (h : Heap) (a : Addr) (vs : List Value) : Prop := ∃ n, h.get? a = some { cls := .type "list", data := .seq vs.toArray n }
section
variable {prog : Program} {w : World} {A : Around} {R : Result → Shared → Prop} {I : Addr} {fp wr : List Addr} {G : Array GenState → Array GenState → Prop} {n : Nat} {P : Nat → Value → Prop} {St : Nat → Shared → Prop}
theorem sum_turns (W : WalksS prog w A.in1 I fp wr G n P St) (hI : ∀ i s', St i s' → ∀ b ∈ fp, b < s'.heap.objs.size) (H0 : Heap) (hw : ∀ b o, H0.get? b = some o → b ∉ wr) (parts : Nat → List Value)
    (hP : ∀ i v, P i v → ∃ a, v = .ref a ∧ lstAt H0 a (parts i)) (hz : ∀ i, i ≤ n → (joined parts i).length ≤ sizeLine) (S : Addr) (hSf : S ∉ fp) (hSH : H0.get? S = none) :
    ∀ (k i : Nat) (s : Shared) (t : Addr) (c : Nat), n - i = k → i ≤ n → (∀ b o, H0.get? b = some o → s.heap.get? b = some o) → St i s →
    s.heap.get? S = some { cls := .type "list", dict := none, data := .seq #[.ref t] c, slots := #[] } → lstAt s.heap t (joined parts i) → t ≠ S → t ∉ fp →
    (∀ s' t', lstAt s'.heap t' (joined parts n) → Moved (S :: wr) G s s' → t' = t ∨ S < t' → R (.ok (.ret (.ref t'))) s') →
    codeAny (model prog w) A (.builtin "sum.loop" ⟨[.ref I, .ref S, rawInt 2, rawInt 0], []⟩) R s := by
  have hSw : S ∉ wr := fun h => hSf (W.sub _ h)
  have hsub : ∀ b ∈ wr, b ∈ S :: wr := fun b hb => List.mem_cons_of_mem _ hb
  have neS : ∀ {b : Addr} {o : Obj}, H0.get? b = some o → S ≠ b := fun e h => by rw [← h, hSH] at e; cases e
  intro k
  induction k with
  | zero =>
    intro i s t c hk hi keep hst hS ht htS htf done
    have hin : i = n := by omega
    subst hin
    refine codeAny_builtin F.entry_sum_loop ?_
    rw [Around.under_plainId F.plain_sum_loop _]
    show wpAny _ A.in1 (seqItems? (.ref S) >>= _) _ _ s
    refine wpAny_bind (wpAny_seqItems hS rfl ?_)
    show wpAny _ A.in1 (tryCatch (pyNext (.ref I)) _ >>= _) _ _ s
    refine wpAny_bind (wpAny_tryCatch (W.done s _ _ hst fun s' hm => ?_))
    obtain ⟨m, em⟩ := ht
    exact wpAny_pure (done s' t ⟨m, hm.heap t _ (fun h => htf (W.sub _ h)) em⟩ (hm.mono hsub) (.inl rfl))
  | succ k ih =>
    intro i s t c hk hi keep hst hS ht htS htf done
    have hlt : i < n := by omega
    refine codeAny_builtin F.entry_sum_loop ?_
    rw [Around.under_plainId F.plain_sum_loop _]
    show wpAny _ A.in1 (seqItems? (.ref S) >>= _) _ _ s
    refine wpAny_bind (wpAny_seqItems hS rfl ?_)
    show wpAny _ A.in1 (tryCatch (pyNext (.ref I)) _ >>= _) _ _ s
    refine wpAny_bind (wpAny_tryCatch (W.item i s _ _ hlt hst fun v s' hp hst' hm => ?_))
    obtain ⟨a, rfl, ⟨na, ea⟩⟩ := hP i v hp
    obtain ⟨nt, et⟩ := ht
    have hS' := hm.heap S _ hSw hS
    have keep' : ∀ b o, H0.get? b = some o → s'.heap.get? b = some o := fun b o e => hm.heap b o (hw b o e) (keep b o e)
    have et' := hm.heap t _ (fun h => htf (W.sub _ h)) et
    have hS1 : S < s'.heap.objs.size := Heap.lt_size hS'
    have hfr : s'.heap.objs.size ∉ fp := fun h => Nat.lt_irrefl _ (hI _ _ hst' _ h)
    have hz1 : (joined parts i).length + (parts i).length ≤ sizeLine := by
      have := hz (i + 1) (by omega)
      rw [joined, List.length_append] at this
      exact this
    show wpAny _ A.in1 ((holding [Value.ref a] (binaryOp .Add (.ref t) (.ref a))).attempt >>= _) _ _ _
    refine wpAny_bind (wpAny_attempt (wpAny_holding (PySem.P.add_list et' (keep' _ _ ea) ?_ (by simp only [List.size_toArray]; exact hz1))))
    have ej : (joined parts i).toArray ++ (parts i).toArray = (joined parts (i + 1)).toArray := by simp [joined]
    rw [ej]
    have new := Heap.get?_push_size (h := s'.heap) (o := { cls := .type "list", data := .seq (joined parts (i + 1)).toArray }) rfl
    have old : ∀ b o, s'.heap.get? b = some o → (s'.heap.push { cls := .type "list", data := .seq (joined parts (i + 1)).toArray }).get? b = some o := fun b o e => Heap.get?_push_of_some _ e
    have hS2 := old _ _ hS'
    generalize hh : s'.heap.push { cls := .type "list", data := .seq (joined parts (i + 1)).toArray } = h2 at new old hS2 ⊢
    show wpAny _ A.in1 (updateSeq S (fun _ => #[.ref s'.heap.objs.size]) >>= _) _ _ _
    refine wpAny_bind (wpAny_updateSeq hS2 rfl ?_)
    have hS3 := Heap.get?_update_self (Obj.mapSeq fun _ => #[Value.ref s'.heap.objs.size]) hS2 rfl
    have at3 : ∀ b o, S ≠ b → h2.get? b = some o → (h2.update S (Obj.mapSeq fun _ => #[Value.ref s'.heap.objs.size])).get? b = some o := fun b o nb e => (Heap.get?_update_other _ _ nb).trans e
    refine wpAny_bind (wpAny_letGo ?_)
    refine wpAny_bind (wpAny_updateSeq hS3 rfl (wpAny_pure ⟨plainId_quiet F.plain_sum_loop _, ?_⟩))
    have hS4 := Heap.get?_update_self (Obj.mapSeq fun _ => #[Value.ref s'.heap.objs.size]) hS3 rfl
    have at4 : ∀ b o, S ≠ b → h2.get? b = some o → ((h2.update S (Obj.mapSeq fun _ => #[Value.ref s'.heap.objs.size])).update S (Obj.mapSeq fun _ => #[Value.ref s'.heap.objs.size])).get? b = some o := fun b o nb e => (Heap.get?_update_other _ _ nb).trans (at3 b o nb e)
    refine ih (i + 1) _ s'.heap.objs.size _ (by omega) hlt (fun b o e => at4 b o (neS e) (old b o (keep' b o e))) (W.frame _ s' _ _ hst' (by first | exact Nat.le_refl _ | exact Nat.le_succ _ | omega) fun b hb o e => at4 b o (fun h => hSf (by rw [h]; exact hb)) (old b o e))
      hS4 ⟨0, at4 _ _ (Nat.ne_of_lt hS1) new⟩ (Nat.ne_of_gt hS1) hfr fun s'' t'' e'' hm'' hor => ?_
    refine done s'' t'' e'' (Moved.trans W.gtrans ((hm.mono hsub).then_heap (by first | exact Nat.le_refl _ | exact Nat.le_succ _ | omega) fun b o hb e => at4 b o (fun h => hb (by rw [h]; exact List.mem_cons_self)) (old b o e)) hm'') (.inr ?_)
    rcases hor with h | h
    · rw [h]; exact hS1
    · exact h
end
section
variable {prog : Program} {w : World} {A : Around} {E : Value → Shared → Prop} {s : Shared}
theorem args_sum2 (a b : Value) : argsOk "sum" ⟨[a, b], []⟩ := by unfold argsOk; kernel_rfl
theorem sum_lists {l e : Addr} {its : List Value} {parts : Nat → List Value} {Q : Value → Shared → Prop} (hh : A.handled = none) (hl : s.heap.IsList l its.toArray) (he : lstAt s.heap e []) (hne : e ≠ l)
    (hP : ∀ i v, its.toArray[i]? = some v → ∃ a, v = .ref a ∧ lstAt s.heap a (parts i)) (hz : ∀ i, i ≤ its.length → (joined parts i).length ≤ sizeLine)
    (h : ∀ h' tk t', (∀ b o, s.heap.get? b = some o → h'.get? b = some o) → lstAt h' t' (joined parts its.length) → t' = e ∨ s.heap.objs.size ≤ t' → Q (.ref t') { s with heap := h', toks := tk }) :
    wpAny (model prog w) A (call (.builtin "sum") [.ref l, .ref e]) Q E s := by
  obtain ⟨ne, ee⟩ := id he
  have hel : e < s.heap.objs.size := Heap.lt_size ee
  refine call_function_tree PySem.F.kind_sum PySem.F.plain_sum PySem.F.entry_sum (args_sum2 _ _) ?_
  unfold Builtin.«sum»
  simp only [List.length_cons, List.length_nil]
  rw [if_neg (by decide)]
  refine wpAny_bind (wpAny_of_eq (show Builtin.Builtins.bindParams "sum" ["start"] 0 ⟨[.ref e], []⟩ = pure [some (.ref e)] from rfl) ?_)
  refine wpAny_bind (PySem.W.iter_listW (A := A.in1) hh hl fun s₂ es W hst hfp hw hk => ?_)
  have tE : s₂.TypeIs (.ref e) "list" := ⟨_, hk _ _ ee, rfl⟩
  refine wpAny_bind (wpAny_pure ?_)
  simp only [List.forIn_cons, List.forIn_nil]
  refine wpAny_bind (wpAny_bind (wpAny_bind (wpAny_isInstance (T := "list") (b := false) tE PySem.F.sub_list_str ?_)))
  simp only [Bool.false_eq_true, if_false]
  refine wpAny_pure (wpAny_bind (wpAny_bind (wpAny_isInstance (T := "list") (b := false) tE PySem.F.sub_list_bytes ?_)))
  simp only [Bool.false_eq_true, if_false]
  refine wpAny_pure (wpAny_bind (wpAny_bind (wpAny_isInstance (T := "list") (b := false) tE PySem.F.sub_list_bytearray ?_)))
  simp only [Bool.false_eq_true, if_false]
  refine wpAny_pure (wpAny_pure ?_)
  refine wpAny_bind (wpAny_newObj_type ?_)
  have hSf : s₂.heap.objs.size ∉ [s.heap.objs.size, l] := fun hm => Nat.lt_irrefl _ (hfp _ hm)
  have hS0 : s.heap.get? s₂.heap.objs.size = none := by
    cases q : s.heap.get? s₂.heap.objs.size with
    | none => rfl
    | some o => exact absurd (Heap.lt_size (hk _ _ q)) (Nat.lt_irrefl _)
  have hS1 : s.heap.objs.size ≤ s₂.heap.objs.size := by
    rw [es, Heap.size_push]
    exact Nat.le_succ _
  have hfe : e ∉ [s.heap.objs.size, l] := fun hm => by
    rcases List.mem_cons.mp hm with q | q
    · exact Nat.lt_irrefl _ (q ▸ hel)
    · exact hne (List.mem_singleton.mp q)
  have push : ∀ b o, s₂.heap.get? b = some o → (s₂.heap.push { cls := .type "list", data := .seq #[.ref e] }).get? b = some o := fun b o e => Heap.get?_push_of_some _ e
  have hI : ∀ i (s' : Shared), (s'.heap.IsListIter s.heap.objs.size l i ∧ s'.heap.IsList l its.toArray) → ∀ b ∈ [s.heap.objs.size, l], b < s'.heap.objs.size := fun i s' q b hb => by
    rcases List.mem_cons.mp hb with z | z
    · obtain ⟨o, q1, _⟩ := q.1
      rw [z]
      exact Heap.lt_size q1
    · obtain ⟨o, q1, _⟩ := q.2
      rw [List.mem_singleton.mp z]
      exact Heap.lt_size q1
  have sz : its.toArray.size = its.length := List.size_toArray
  refine wpAny_pure ⟨plainId_quiet PySem.F.plain_sum_loop _, sum_turns W hI s.heap hw parts hP (fun i hi => hz i (by omega)) s₂.heap.objs.size hSf hS0 its.toArray.size 0 _ e 0 rfl (Nat.zero_le _)
    (fun b o q => push b o (hk b o q)) (W.frame 0 s₂ _ _ hst (by first | exact Nat.le_refl _ | exact Nat.le_succ _ | omega) fun b _ o q => push b o q) (Heap.get?_push_size _ rfl) ⟨ne, push _ _ (hk _ _ ee)⟩ (Nat.ne_of_lt (Nat.lt_of_lt_of_le hel hS1)) hfe fun s' t' e' hm hor => ?_⟩
  have hm2 := hm.drop_new (by first | exact Nat.le_refl _ | exact Nat.le_succ _ | omega)
  obtain ⟨h', tk, rfl, hk'⟩ := PySem.W.moved_old es rfl hm2
  rw [sz] at e'
  refine h h' tk t' hk' e' ?_
  rcases hor with q | q
  · exact .inl q
  · exact .inr (Nat.le_trans hS1 (Nat.le_of_lt q))
end

theorem joined_take (pls : List (List Value)) : ∀ n, n ≤ pls.length → joined (fun i => pls.getD i []) n = (pls.take n).flatten
  | 0, _ => by rw [List.take_zero] <;> rfl
  | n + 1, h => by
    rw [joined, joined_take pls n (by omega), List.take_succ, List.flatten_append]
    congr 1
    rw [List.getD_eq_getElem?_getD, List.getElem?_eq_getElem (by omega)]
    simp
theorem flat_le (pls : List (List Value)) (n : Nat) : (pls.take n).flatten.length ≤ pls.flatten.length := by
  have e : pls.flatten = (pls.take n).flatten ++ (pls.drop n).flatten := by rw [← List.flatten_append, List.take_append_drop]
  rw [e, List.length_append]
  omega
/-- v stands for the list of these -/
def LsV (H : Hp) (v : V) (ws : List V) : Prop := ∃ b, v = .ref b ∧ H b = some (.lst ws)
section
variable {X : Cx} {pins : List (Addr × Obj)} {σ : L2.St} {H : Hp} {s : Shared}
theorem parts_of (I : Inv X pins σ H s) {vs : List V} {wss : List (List V)} (h : Paired (LsV H) vs wss) : ∀ {us : List Value}, Vals vs us → ∃ pls : List (List Value), pls.length = us.length ∧ Vals wss.flatten pls.flatten ∧ ∀ (i : Nat) (u : Value), us[i]? = some u → ∃ a, u = .ref a ∧ lstAt s.heap a (pls.getD i []) := by
  induction h with
  | nil =>
    intro us r
    cases r
    exact ⟨[], rfl, .nil, fun i u h => by simp at h⟩
  | cons r0 t ih =>
    intro us r
    cases r with
    | cons r rr =>
      obtain ⟨b, rfl, hb⟩ := r0
      obtain ⟨pls, h1, h2, h3⟩ := ih rr
      rename_i u us
      obtain rfl : u = Value.ref b := r
      obtain ⟨_, its, n, rv, _, eo⟩ := I.lstM hb
      refine ⟨its :: pls, by rw [List.length_cons, List.length_cons, h1], by rw [List.flatten_cons, List.flatten_cons]; exact rv.append h2, fun i u' hu => ?_⟩
      cases i with
      | zero =>
        obtain rfl : Value.ref b = u' := Option.some.inj hu
        exact ⟨b, rfl, n, eo⟩
      | succ i => exact h3 i u' (by simpa using hu)
end
section
variable {X : Cx}
def rSumL (K : PySem.W.Frag) : List V → Hp → VK → Prop := fun vs H Q => ∃ (a e : Addr) (ws : List V) (wss : List (List V)), vs = [V.ref a, V.ref e] ∧ e ≠ a ∧ SqL K H a ws ∧ H e = some (.lst []) ∧ Paired (LsV H) ws wss ∧ wss.flatten.length ≤ sizeLine ∧
  (wss.flatten = [] → Q (.ref e) H) ∧ ∀ p, H p = none → Q (.ref p) (upd H p (.lst wss.flatten))
theorem cr_sumL (hc : X.calm = true) : CallR X (.builtin "sum") (rSumL X.K) := by
  intro pins s σ H vs us Q I r h
  obtain ⟨a, e, ws, wss, rfl, hne, hs, he, hp, hz, q1, q2⟩ := h
  obtain ⟨its, rv, hl, _⟩ := I.list hs
  obtain ⟨_, its2, n2, r2, _, ee⟩ := I.lstM he
  cases r2
  obtain ⟨pls, p1, p2, p3⟩ := parts_of I hp rv
  obtain ⟨u1, u2, rfl, ru1, ru2⟩ : ∃ u1 u2, us = [u1, u2] ∧ RelV (.ref a) u1 ∧ RelV (.ref e) u2 := by
    cases r with
    | cons r1 rr =>
      cases rr with
      | cons r2 rr => cases rr; exact ⟨_, _, rfl, r1, r2⟩
  obtain rfl : u1 = Value.ref a := ru1
  obtain rfl : u2 = Value.ref e := ru2
  have lz : pls.flatten.length = wss.flatten.length := p2.length.symm
  have ej : joined (fun i => pls.getD i []) its.length = pls.flatten := by rw [joined_take pls its.length (by omega), ← p1, List.take_length]
  refine sum_lists (parts := fun i => pls.getD i []) (I.ok.hd hc) hl.isList ⟨n2, ee⟩ hne (fun i v hv => p3 i v (by simpa using hv)) (fun i hi => by rw [joined_take pls i (by omega)]; exact Nat.le_trans (flat_le pls i) (by omega)) fun h' tk t' hk ht hor => ?_
  rw [ej] at ht
  obtain ⟨m, em⟩ := ht
  rcases hor with rfl | hsz
  · have e2 := hk _ _ ee
    rw [em] at e2
    have z : pls.flatten = [] := by
      have := congrArg Obj.data (Option.some.inj e2)
      simp only [Data.seq.injEq] at this
      have := congrArg Array.toList this.1
      simpa using this
    rw [z, List.length_nil] at lz
    exact ⟨.ref t', H, I.kept hk, rfl, q1 (List.eq_nil_of_length_eq_zero lz.symm)⟩
  · refine ⟨.ref t', upd H t' (.lst wss.flatten), I.laid (t' := tk) (fun b u q => hk b u q) hsz ⟨hz, pls.flatten, m, p2, em⟩, rfl, q2 t' (I.hok.fresh hsz)⟩
end

/-! ## the greatest, the least of a tuple's ints -/
theorem dp_ints {K : PySem.W.Frag} {H : Hp} : ∀ ns : List Int, DpAll K H (ns.map V.int) (ns.map PyData.int)
  | [] => .nil
  | n :: r => .cons (.int n) (dp_ints r)
theorem alike_int_all (ns : List Int) : PySem.W.AlikeAll (ns.map PyData.int) := by
  refine ⟨fun x hx y hy => ?_, fun x hx => ?_⟩
  · obtain ⟨a, _, rfl⟩ := List.mem_map.mp hx
    obtain ⟨b, _, rfl⟩ := List.mem_map.mp hy
    rfl
  · obtain ⟨a, _, rfl⟩ := List.mem_map.mp hx
    exact fun e => by cases e
theorem depth_int_all : ∀ ns : List Int, PyData.depthAll (ns.map PyData.int) = 0
  | [] => rfl
  | n :: r => by
    show max (PyData.depth (.int n)) (PyData.depthAll (r.map PyData.int)) = 0
    rw [depth_int_all r] <;> rfl
theorem max_fold (n : Int) (ns : List Int) : ns.foldl max n = ns.foldl (fun a b => if a < b then b else a) n := by
  have : (max : Int → Int → Int) = fun a b => if a < b then b else a := by
    funext a b
    split <;> omega
  rw [this]
theorem min_fold (n : Int) (ns : List Int) : ns.foldl min n = ns.foldl (fun a b => if b < a then b else a) n := by
  have : (min : Int → Int → Int) = fun a b => if b < a then b else a := by
    funext a b
    split <;> omega
  rw [this]
section
variable {X : Cx}
def rExtT (f : List Int → Option Int) (K : PySem.W.Frag) : List V → Hp → VK → Prop := fun vs H Q => ∃ (a : Addr) (ns : List Int) (m : Int), vs = [V.ref a] ∧ SqT K H a (ns.map V.int) ∧ f ns = some m ∧ Q (.int m) H
theorem cr_maxT (hc : X.calm = true) (hu : X.A.units + 65 < cLine) : CallR X (.builtin "max") (rExtT maxI X.K) := by
  intro pins s σ H vs us Q I r h
  obtain ⟨a, ns, m, rfl, hs, hm, q⟩ := h
  obtain ⟨its, rv, p, hz⟩ := I.tuple hs
  rw [Vals.ref1 r]
  cases ns with
  | nil => cases hm
  | cons n ns =>
    obtain ⟨as, rd⟩ := Dp.readsAll I _ _ _ (dp_ints (n :: ns)) rv
    refine PySem.W.max_tuple_data (I.ok.hd hc) (isTuple_of p) rd (alike_int_all (n :: ns)) (by have := depth_int_all (n :: ns); rw [List.map_cons] at this; rw [this]; omega) fun i v h' tk bs hv hr hk => ?_
    rw [PySem.W.maxD_ints, max_fold] at hr
    have e : ns.foldl (fun a b => if a < b then b else a) n = m := Option.some.inj hm
    rw [e] at hr
    cases hr
    exact ⟨.int m, H, I.kept hk, ⟨_, rfl⟩, q⟩
theorem cr_minT (hc : X.calm = true) (hu : X.A.units + 65 < cLine) : CallR X (.builtin "min") (rExtT minI X.K) := by
  intro pins s σ H vs us Q I r h
  obtain ⟨a, ns, m, rfl, hs, hm, q⟩ := h
  obtain ⟨its, rv, p, hz⟩ := I.tuple hs
  rw [Vals.ref1 r]
  cases ns with
  | nil => cases hm
  | cons n ns =>
    obtain ⟨as, rd⟩ := Dp.readsAll I _ _ _ (dp_ints (n :: ns)) rv
    refine PySem.W.min_tuple_data (I.ok.hd hc) (isTuple_of p) rd (alike_int_all (n :: ns)) (by have := depth_int_all (n :: ns); rw [List.map_cons] at this; rw [this]; omega) fun i v h' tk bs hv hr hk => ?_
    rw [PySem.W.minD_ints, min_fold] at hr
    have e : ns.foldl (fun a b => if b < a then b else a) n = m := Option.some.inj hm
    rw [e] at hr
    cases hr
    exact ⟨.int m, H, I.kept hk, ⟨_, rfl⟩, q⟩
theorem dataLt_pair (p q : Int × Int) : PySem.W.dataLt (.tuple [.int p.1, .int p.2]) (.tuple [.int q.1, .int q.2]) = ltP p q := by
  rw [PySem.W.dataLt_tuple]
  unfold ltP
  have nil_ : PyProof.Rows.lexLt PyProof.Rows.itemOrd (PySem.W.keyToksAll []) (PySem.W.keyToksAll []) = false := by
    rw [show PySem.W.keyToksAll [] = [Sum.inl 0] by rw [PySem.W.keyToksAll]]
    exact (PyProof.Rows.lex_self (O := PyProof.Rows.itemOrd) _ _ _).trans rfl
  by_cases h : p.1 = q.1
  · have e : PyData.eqv (.int p.1) (.int q.1) = true := by rw [h]; simp [PyData.eqv]
    rw [PySem.W.dataLt_all_yes rfl e]
    by_cases g : p.2 = q.2
    · have e2 : PyData.eqv (.int p.2) (.int q.2) = true := by rw [g]; simp [PyData.eqv]
      rw [PySem.W.dataLt_all_yes rfl e2, nil_, h, g]
      simp
    · have e2 : PyData.eqv (.int p.2) (.int q.2) = false := by simp [PyData.eqv, g]
      rw [PySem.W.dataLt_all_no rfl e2, PySem.W.dataLt_int, h]
      simp
  · have e : PyData.eqv (.int p.1) (.int q.1) = false := by simp [PyData.eqv, h]
    rw [PySem.W.dataLt_all_no rfl e, PySem.W.dataLt_int, decide_eq_false h]
    simp
def pairPy (p : Int × Int) : PyData := .tuple [.int p.1, .int p.2]
theorem alike_pairs (ps : List (Int × Int)) : PySem.W.AlikeAll (ps.map pairPy) := by
  refine ⟨fun x hx y hy => ?_, fun x hx => ?_⟩
  · obtain ⟨a, _, rfl⟩ := List.mem_map.mp hx
    obtain ⟨b, _, rfl⟩ := List.mem_map.mp hy
    rfl
  · obtain ⟨a, _, rfl⟩ := List.mem_map.mp hx
    exact fun e => by cases e
theorem depth_pairs : ∀ ps : List (Int × Int), PyData.depthAll (ps.map pairPy) ≤ 1
  | [] => Nat.zero_le _
  | p :: r => by
    show max (PyData.depth (pairPy p)) (PyData.depthAll (r.map pairPy)) ≤ 1
    have h1 : PyData.depth (pairPy p) = 1 := rfl
    have h2 := depth_pairs r
    omega
theorem minD_pairs (p : Int × Int) : ∀ ps : List (Int × Int), PySem.W.minD (pairPy p) (ps.map pairPy) = pairPy (ps.foldl (fun a b => if ltP b a then b else a) p) := by
  intro ps
  unfold PySem.W.minD
  induction ps generalizing p with
  | nil => rfl
  | cons q r ih =>
    rw [List.map_cons, List.foldl_cons, List.foldl_cons, ← ih]
    have e : (if PySem.W.dataLt (pairPy q) (pairPy p) = true then pairPy q else pairPy p) = pairPy (if ltP q p = true then q else p) := by
      show (if PySem.W.dataLt (.tuple [.int q.1, .int q.2]) (.tuple [.int p.1, .int p.2]) = true then pairPy q else pairPy p) = _
      rw [dataLt_pair]
      split <;> rfl
    rw [← e]
theorem pairPy_inj {p q : Int × Int} (h : pairPy p = pairPy q) : p = q := by
  unfold pairPy at h
  injection h with h
  injection h with h1 h2
  injection h2 with h2 _
  injection h1 with h1
  injection h2 with h2
  exact Prod.ext h1 h2
def rMinP (K : PySem.W.Frag) : List V → Hp → VK → Prop := fun vs H Q => ∃ (a : Addr) (xs : List V) (ps : List (Int × Int)) (m : Int × Int), vs = [V.ref a] ∧ SqL K H a xs ∧ DpAll K H xs (ps.map pairPy) ∧ minP ps = some m ∧
  ∀ (x : V) (i : Nat), xs[i]? = some x → ps[i]? = some m → Q x H
theorem vals_get {xs : List V} {us : List Value} (r : Vals xs us) {i : Nat} {u : Value} (h : us[i]? = some u) : ∃ x, xs[i]? = some x ∧ RelV x u := by
  induction r generalizing i with
  | nil => simp at h
  | cons r1 r2 ih =>
    cases i with
    | zero =>
      have e := Option.some.inj (show some _ = some u from h)
      subst e
      exact ⟨_, rfl, r1⟩
    | succ i => simpa using ih (by simpa using h)
theorem cr_minP (hc : X.calm = true) (hu : X.A.units + 65 < cLine) : CallR X (.builtin "min") (rMinP X.K) := by
  intro pins s σ H vs us Q I r h
  obtain ⟨a, xs, ps, m, rfl, hs, hd, hm, q⟩ := h
  obtain ⟨its, rv, hl, hz⟩ := I.list hs
  rw [Vals.ref1 r]
  cases ps with
  | nil => cases hm
  | cons p ps =>
    obtain ⟨as, rd⟩ := Dp.readsAll I _ _ _ hd rv
    have rd0 := rd
    refine PySem.W.min_list_data (I.ok.hd hc) hl.isList rd (alike_pairs (p :: ps)) (by have := depth_pairs (p :: ps); rw [List.map_cons] at this; omega) fun i v h' tk bs hv hr hk => ?_
    rw [minD_pairs] at hr
    have hv' : its[i]? = some v := by simpa using hv
    obtain ⟨bs', r1, hi, _, _⟩ := PySem.W.readsAll_at rd0 i v (by simpa using hv)
    have r2 := PySem.W.reads_keeps hk r1
    have hu2 := (Reads.unique r2 _ _ hr).1
    rw [List.length_map] at hi
    have e : (List.map pairPy (p :: ps)).getD i .none = pairPy ((p :: ps)[i]'hi) := by
      rw [List.getD_eq_getElem?_getD, List.getElem?_map, List.getElem?_eq_getElem hi] <;> rfl
    rw [e] at hu2
    have hm' : (p :: ps)[i]? = some m := by
      rw [List.getElem?_eq_getElem hi, pairPy_inj hu2]
      exact hm
    obtain ⟨x, hx, rx⟩ := vals_get rv hv'
    exact ⟨x, H, I.kept hk, rx, q x i hx hm'⟩
end
end Eng
end

section
set_option autoImplicit false
namespace Eng
open PySem PySem.Spec PyProof.Rows L2

/-! ## a tuple times one, or an empty one: the same tuple -/
theorem tuple_mulS (l : Addr) (items : Array Value) (n : Nat) (dd : Option Addr) (sl : Array (Option Value)) (x : Int) (u : Tok) (c0 : (decide (x < -(2 ^ 63)) || decide (x ≥ 2 ^ 63)) = false) (c1 : (items.isEmpty || x == 1) = true) :
    Meets (Builtin.«tuple.__mul__» ⟨[.ref l, .int x u], []⟩) (fun _ R s => s.heap.get? l = some { cls := .type "tuple", dict := dd, data := .seq items n, slots := sl } ∧
      R (.ok (.ret (Value.ref l))) s) :=
  .of_wp fun prog w A R s h => by
    obtain ⟨hp, g, d, tk, os⟩ := s
    obtain ⟨hl, h⟩ := h
    have f1 := AutoSeq1.idx_int
    wp_walk using wpAny_loadPart' hl
    repeat (first
      | (refine wpAny_ite_false (decide_eq_false (by rw [c0]; exact Bool.false_ne_true)) ?_; wp_walk using wpAny_loadPart' hl)
      | (refine wpAny_ite_true (decide_eq_true c1) ?_; wp_walk using wpAny_loadPart' hl)
      | (refine wpAny_ite_true c1 ?_; wp_walk using wpAny_loadPart' hl))
    exact ⟨_, rfl, h⟩

section
variable {X : Cx}
def rRepS (K : PySem.W.Frag) : R2 := fun x y H Q => ∃ l k xs, x = .ref l ∧ y = .int k ∧ SqT K H l xs ∧ -(2 ^ 63) ≤ k ∧ k < 2 ^ 63 ∧ (xs = [] ∨ k = 1) ∧ Q (.ref l) H
theorem op_repS : OpR X (binaryOp .Mult) (rRepS X.K) := by
  intro pins s σ H x y v u Q I rx ry h
  obtain ⟨l, k, xs, rfl, rfl, hT, h1, h2, h3, q⟩ := h
  cases rx
  obtain ⟨t, rfl⟩ := ry
  obtain ⟨its, r, ⟨⟨cls, dd, data, sl⟩, ho, hc, n, hd⟩, hs⟩ := I.tuple hT
  simp only at hc hd
  subst hc hd
  have hle : its.length = xs.length := r.length.symm
  have c0 : (decide (k < -(2 ^ 63)) || decide (k ≥ 2 ^ 63)) = false := by
    rw [decide_eq_false (by omega), decide_eq_false (by omega)] <;> rfl
  have c1 : (its.toArray.isEmpty || k == 1) = true := by
    rcases h3 with e | e
    · subst e
      have : its = [] := List.eq_nil_of_length_eq_zero hle
      subst this
      rfl
    · subst e
      simp
  refine wpAny_binaryOp_repeat_ref (T := "tuple") (U := "int") (by decide) ⟨_, ho, rfl⟩ (fun s' => typeIs_int s' k t) noFill_tuple_mul F.fills_int_mul F.slot_int_rmul repeat_tuple F.slot_int_index.lookup
    (call_meets F.slot_int_rmul (typeIs_int s k t) F.entry_int_rmul (F.args_int_rmul_2 _ _) (int_rmul_tuple k t l its.toArray n dd sl)
      ⟨ho, rfl, ⟨_, ho, rfl⟩, call_meets F.slot_tuple_mul ⟨_, ho, rfl⟩ F.entry_tuple_mul (F.args_tuple_mul_2 _ _) (tuple_mulS l its.toArray n dd sl k t c0 c1) ⟨ho, ?_⟩⟩)
  exact ⟨.ref l, H, I, rfl, q⟩
end

/-! ## operators on data -/
abbrev rlBl : Hp → Hp → V → Bool → Prop := fun _ _ v b => v = .bl b
def rOp2 {β : Type} (K : PySem.W.Frag) (cl : List Addr) (rl : List Addr → Hp → Hp → V → β → Prop) (g : D → D → Option β) : R2 := fun x y H Q =>
  ∃ φ F st σ W d1 d2, Sok K φ F st H ∧ RepB K φ F H x d1 ∧ RepB K φ F H y d2 ∧ Out K cl φ F H σ W (rl φ) (R.of (g d1 d2) st) Q
def bopB : BOp → Operator → Bool
  | .add, .Add => true | .sub, .Sub => true | .mul, .Mult => true | .fdiv, .FloorDiv => true | .mod, .Mod => true | .pow, .Pow => true
  | _, _ => false
def copB : COp → CmpOp → Bool
  | .eq, .Eq => true | .ne, .NotEq => true | .lt, .Lt => true | .le, .LtE => true | .gt, .Gt => true | .ge, .GtE => true
  | .isN, .Is => true | .notN, .IsNot => true | .mem, .In => true | .nmem, .NotIn => true
  | _, _ => false
theorem nat_lt_of {i : Int} (h : small64 i = true) : -(2 ^ 64) < i ∧ i < 2 ^ 64 := by
  unfold small64 at h
  obtain ⟨a, b⟩ := Bool.and_eq_true_iff.mp h
  exact ⟨of_decide_eq_true a, of_decide_eq_true b⟩
section
variable {X : Cx} {cl : List Addr}
theorem cat_some {α : Type} {xs ys zs : List α} (h : cat xs ys = some zs) : zs = xs ++ ys ∧ xs.length + ys.length ≤ sizeLine := by
  unfold cat at h
  split at h
  · rename_i e
    cases h
    exact ⟨rfl, of_decide_eq_true e⟩
  · cases h
theorem mul_ok {x : Str} {n : Int} (h1 : 1 ≤ n) (h2 : n ≤ 1000) (h3 : x.length ≤ 1000) : MulOk x n := by
  have e2 : x.length * n.toNat ≤ 1000 * 1000 := Nat.mul_le_mul h3 (by omega)
  refine ⟨?_, fun _ _ => ?_, fun _ _ => ?_⟩
  · rw [decide_eq_false (by omega), decide_eq_false (by omega)] <;> rfl
  · have : (1000 : Int) ≤ (2 ^ 63 - 1) / n := by
      have h : (2 ^ 63 - 1 : Int) / 1000 ≤ (2 ^ 63 - 1) / n := Int.le_ediv_of_mul_le (by omega) (by omega)
      omega
    omega
  · unfold Builtin.Str.tooLong sizeLine
    exact decide_eq_false (by omega)
theorem op_mul_str : OpR X (binaryOp .Mult) (fun x y H Q => ∃ i j, x = .str i ∧ y = .int j ∧ MulOk i j ∧ Q (.str (Txt.mul i j)) H) := by
  intro pins s σ H x y v u Q I rx ry h
  obtain ⟨i, j, rfl, rfl, hok, h⟩ := h
  obtain ⟨t, rfl⟩ := rx
  obtain ⟨t2, rfl⟩ := ry
  exact PySem.SB.mul hok fun t' k => ⟨.str _, H, I.tok k, ⟨t', rfl⟩, h⟩
theorem op_bin {o : BOp} {op : Operator} (hb : bopB o op = true) : OpR X (binaryOp op) (rOp2 X.K cl (rlE X.K) (binop o)) := by
  intro pins s σ H x y v u Q I rx ry h
  obtain ⟨φ, F, st, σ', W, d1, d2, k, r1, r2, h⟩ := h
  have hh := h.of
  clear h
  obtain ⟨d, e, h⟩ := hh
  cases o <;> cases op <;> first | (cases hb; done) | skip
  · -- add
    cases d1 <;> cases d2 <;> first | (simp [binop] at e; done) | skip
    · cases e
      exact op_add pins s σ H x y v u Q I rx ry ⟨_, _, r1.int, r2.int, h.here k (.int _)⟩
    · rename_i a b
      simp only [binop] at e
      split at e
      · rename_i hz
        cases e
        exact op_add_str pins s σ H x y v u Q I rx ry ⟨_, _, r1.str, r2.str, of_decide_eq_true hz, h.here k (.str _)⟩
      · cases e
    · simp only [binop, Option.map_eq_some_iff] at e
      obtain ⟨zs, e, rfl⟩ := e
      obtain ⟨rfl, hz⟩ := cat_some e
      obtain ⟨a, vs, ex, ha, ra⟩ := r1.lst k.le
      obtain ⟨b, ws, ey, hb, rb⟩ := r2.lst k.le
      exact op_cat pins s σ H x y v u Q I rx ry ⟨a, b, vs, ws, ex, ey, ha, hb, by rw [ra.len, rb.len]; exact hz, fun p hp => h.lst k (ra.app rb) hp⟩
    · simp only [binop, Option.map_eq_some_iff] at e
      obtain ⟨zs, e, rfl⟩ := e
      obtain ⟨rfl, hz⟩ := cat_some e
      obtain ⟨a, vs, ex, ha, ra⟩ := r1.tup k.le
      obtain ⟨b, ws, ey, hb, rb⟩ := r2.tup k.le
      have rr := ra.app rb
      refine op_catA pins s σ H x y v u Q I rx ry ⟨a, b, vs, ws, ex, ey, ha, hb, by rw [ra.len, rb.len]; exact hz, fun z => ?_, fun _ z => ?_, fun _ _ p hp => h.tup k rr hp⟩
      · subst z
        cases ra
        rcases r2 with q | ⟨_, _, _, _, q, _⟩
        · rw [ey] at q
          exact h.here k q
        · cases q
      · subst z
        cases rb
        rcases r1 with q | ⟨_, _, _, _, q, _⟩
        · rw [ex] at q
          rw [List.append_nil] at h
          exact h.here k q
        · cases q
  · -- sub
    cases d1 <;> cases d2 <;> first | (simp [binop] at e; done) | skip
    cases e
    exact op_sub pins s σ H x y v u Q I rx ry ⟨_, _, r1.int, r2.int, h.here k (.int _)⟩
  · -- mul
    cases d1 <;> cases d2 <;> first | (simp [binop] at e; done) | skip
    · simp only [binop] at e
      split at e
      · rename_i hz
        cases e
        refine op_mul pins s σ H x y v u Q I rx ry ⟨_, _, r1.int, r2.int, ?_, h.here k (.int _)⟩
        rcases Bool.or_eq_true_iff.mp hz with q | q
        · exact .inl (nat_lt_of q)
        · exact .inr (nat_lt_of q)
      · cases e
    · rename_i a b
      simp only [binop] at e
      split at e
      · rename_i hz
        cases e
        obtain ⟨hz, h3⟩ := Bool.and_eq_true_iff.mp hz
        obtain ⟨h1, h2⟩ := Bool.and_eq_true_iff.mp hz
        exact op_mul_str pins s σ H x y v u Q I rx ry ⟨_, _, r1.str, r2.int, mul_ok (of_decide_eq_true h1) (of_decide_eq_true h2) (of_decide_eq_true h3), h.here k (.str _)⟩
      · cases e
    · simp only [binop, Option.map_eq_some_iff] at e
      obtain ⟨zs, e, rfl⟩ := e
      unfold rep at e
      split at e
      · rename_i hz
        cases e
        obtain ⟨hz, h3⟩ := Bool.and_eq_true_iff.mp hz
        obtain ⟨h1, h2⟩ := Bool.and_eq_true_iff.mp hz
        obtain ⟨a, vs, ex, ha, ra⟩ := r1.lst k.le
        exact op_rep pins s σ H x y v u Q I rx ry ⟨a, _, vs, ex, r2.int, ha, of_decide_eq_true h1, of_decide_eq_true h2, by rw [ra.len]; exact of_decide_eq_true h3, fun p hp => h.lst k (ra.rep _) hp⟩
      · cases e
    · simp only [binop, Option.map_eq_some_iff] at e
      obtain ⟨zs, e, rfl⟩ := e
      unfold repT at e
      split at e
      · rename_i hz
        obtain ⟨h1, h2⟩ := Bool.and_eq_true_iff.mp hz
        obtain ⟨a, vs, ex, ha, ra⟩ := r1.tup k.le
        split at e
        · rename_i he
          cases e
          refine op_repS pins s σ H x y v u Q I rx ry ⟨a, _, vs, ex, r2.int, ha, of_decide_eq_true h1, of_decide_eq_true h2, ?_, ?_⟩
          · rcases Bool.or_eq_true_iff.mp he with q | q
            · left
              have := ra.len
              rw [List.isEmpty_iff.mp q] at this
              exact List.eq_nil_of_length_eq_zero this
            · exact .inr (of_decide_eq_true q)
          · rcases r1 with q | ⟨_, _, _, _, q, _⟩
            · rw [ex] at q
              exact h.here k q
            · cases q
        · rename_i he
          split at e
          · rename_i hq
            cases e
            obtain ⟨h3, h4⟩ := Bool.and_eq_true_iff.mp hq
            refine op_repM pins s σ H x y v u Q I rx ry ⟨a, _, vs, ex, r2.int, ha, fun z => ?_, of_decide_eq_true h3, by rw [ra.len]; exact of_decide_eq_true h4, fun p hp => h.tup k (ra.rep _) hp⟩
            subst z
            cases ra
            simp at he
          · cases e
      · cases e
  · -- fdiv
    cases d1 <;> cases d2 <;> first | (simp [binop] at e; done) | skip
    simp only [binop] at e
    split at e
    · rename_i hz
      cases e
      obtain ⟨h1, h2⟩ := Bool.and_eq_true_iff.mp hz
      exact op_fdivW pins s σ H x y v u Q I rx ry ⟨_, _, r1.int, r2.int, ⟨of_decide_eq_true h1, of_decide_eq_true h2⟩, h.here k (.int _)⟩
    · cases e
  · -- mod
    cases d1 <;> cases d2 <;> first | (simp [binop] at e; done) | skip
    simp only [binop] at e
    split at e
    · rename_i hz
      cases e
      exact op_mod pins s σ H x y v u Q I rx ry ⟨_, _, r1.int, r2.int, of_decide_eq_true hz, h.here k (.int _)⟩
    · cases e
  · -- pow
    cases d1 <;> cases d2 <;> first | (simp [binop] at e; done) | skip
    simp only [binop] at e
    split at e
    · rename_i hz
      cases e
      obtain ⟨hz, h3⟩ := Bool.and_eq_true_iff.mp hz
      obtain ⟨h1, h2⟩ := Bool.and_eq_true_iff.mp hz
      obtain ⟨h4, h5⟩ := nat_lt_of h3
      exact op_pow pins s σ H x y v u Q I rx ry ⟨_, _, r1.int, r2.int, ⟨of_decide_eq_true h1, of_decide_eq_true h2, by omega⟩, h.here k (.int _)⟩
    · cases e

/-! comparisons -/
theorem scal_of {K : PySem.W.Frag} {φ : List Addr} {F H : Hp} {x y : V} {a b : D} (h : scalD a b = true) (r1 : RepB K φ F H x a) (r2 : RepB K φ F H y b) : scal x y = true ∧ decide (x = y) = deq a b := by
  cases a <;> cases b <;> first | (simp [scalD] at h; done) | skip
  all_goals (first | have e1 := r1.non | have e1 := r1.bl | have e1 := r1.int | have e1 := r1.str)
  all_goals (first | have e2 := r2.non | have e2 := r2.bl | have e2 := r2.int | have e2 := r2.str)
  all_goals (subst e1; subst e2; refine ⟨rfl, ?_⟩)
  all_goals (first | rfl | (simp only [deq, toPy, PyData.eqv]; first | rfl | (rw [dec_int]; done) | (rw [dec_bl]; done) | (rw [dec_str]; done) | (simp; done)))
theorem op_eqs {hu : X.A.units + 64 < cLine} : OpR X (compareOp .Eq) (rOp2 X.K cl (fun _ => rlBl) eqD) := by
  intro pins s σ H x y v u Q I rx ry h
  obtain ⟨φ, F, st, σ', W, d1, d2, k, r1, r2, h⟩ := h
  have hh := h.of
  clear h
  obtain ⟨d, e, h⟩ := hh
  unfold eqD at e
  split at e
  · rename_i hs
    cases e
    obtain ⟨h1, h2⟩ := scal_of hs r1 r2
    exact op_eq pins s σ H x y v u Q I rx ry ⟨h1, by rw [h2]; exact h.here k rfl⟩
  · split at e
    · rename_i hq
      cases e
      obtain ⟨h1, h2⟩ := Bool.and_eq_true_iff.mp hq
      exact op_eqD hu pins s σ H x y v u Q I rx ry ⟨_, _, r1.dp k.le (SeqAt.canLay_of_shaped h1), r2.dp k.le (SeqAt.canLay_of_shaped h2), h1, h2, h.here k rfl⟩
    · cases e
theorem op_nes {hu : X.A.units + 64 < cLine} : OpR X (compareOp .NotEq) (rOp2 X.K cl (fun _ => rlBl) (fun a b => (eqD a b).map (!·))) := by
  intro pins s σ H x y v u Q I rx ry h
  obtain ⟨φ, F, st, σ', W, d1, d2, k, r1, r2, h⟩ := h
  have hh := h.of
  clear h
  obtain ⟨d, e, h⟩ := hh
  simp only [Option.map_eq_some_iff] at e
  obtain ⟨c, e, rfl⟩ := e
  unfold eqD at e
  split at e
  · rename_i hs
    cases e
    obtain ⟨h1, h2⟩ := scal_of hs r1 r2
    exact op_ne pins s σ H x y v u Q I rx ry ⟨h1, by rw [h2]; exact h.here k rfl⟩
  · split at e
    · rename_i hq
      cases e
      obtain ⟨h1, h2⟩ := Bool.and_eq_true_iff.mp hq
      exact op_neD hu pins s σ H x y v u Q I rx ry ⟨_, _, r1.dp k.le (SeqAt.canLay_of_shaped h1), r2.dp k.le (SeqAt.canLay_of_shaped h2), h1, h2, h.here k rfl⟩
    · cases e
theorem any_toPy (d : D) : ∀ ys : List D, ((toPy.all ys).any fun z => PyData.eqv z (toPy d)) = ys.any fun z => deq z d
  | [] => rfl
  | y :: r => by rw [toPy.all, List.any_cons, List.any_cons, any_toPy d r] <;> rfl
theorem op_cmp {o : COp} {op : CmpOp} (hu1 : X.A.units + 65 < cLine) (hb : copB o op = true) : OpR X (compareOp op) (rOp2 X.K cl (fun _ => rlBl) (cmpop o)) := by
  have hu : X.A.units + 64 < cLine := by omega
  cases o <;> cases op <;> first | (cases hb; done) | skip
  · exact op_eqs (hu := hu)
  · exact op_nes (hu := hu)
  all_goals
    intro pins s σ H x y v u Q I rx ry h
    obtain ⟨φ, F, st, σ', W, d1, d2, k, r1, r2, h⟩ := h
    have hh := h.of
    clear h
    obtain ⟨d, e, h⟩ := hh
  · cases d1 <;> cases d2 <;> first | (simp [cmpop] at e; done) | skip
    cases e
    exact op_lt pins s σ H x y v u Q I rx ry ⟨_, _, r1.int, r2.int, h.here k rfl⟩
  · cases d1 <;> cases d2 <;> first | (simp [cmpop] at e; done) | skip
    cases e
    exact op_le pins s σ H x y v u Q I rx ry ⟨_, _, r1.int, r2.int, h.here k rfl⟩
  · cases d1 <;> cases d2 <;> first | (simp [cmpop] at e; done) | skip
    cases e
    exact op_gt pins s σ H x y v u Q I rx ry ⟨_, _, r1.int, r2.int, h.here k rfl⟩
  · cases d1 <;> cases d2 <;> first | (simp [cmpop] at e; done) | skip
    cases e
    exact op_ge pins s σ H x y v u Q I rx ry ⟨_, _, r1.int, r2.int, h.here k rfl⟩
  · cases d2 <;> first | (simp [cmpop] at e; done) | skip
    · cases e
      refine op_isN pins s σ H x y v u Q I rx ry ⟨r2.non, h.here k ?_⟩
      rcases r1 with q | ⟨_, _, _, rfl, rfl, _⟩
      · cases q <;> rfl
      · rfl
    · cases d1 <;> first | (simp [cmpop] at e; done) | skip
      cases e
      exact op_isBl pins s σ H x y v u Q I rx ry ⟨_, _, r1.bl, r2.bl, h.here k rfl⟩
  · cases d2 <;> first | (simp [cmpop] at e; done) | skip
    · cases e
      refine op_notN pins s σ H x y v u Q I rx ry ⟨r2.non, h.here k ?_⟩
      rcases r1 with q | ⟨_, _, _, rfl, rfl, _⟩
      · cases q <;> rfl
      · rfl
    · cases d1 <;> first | (simp [cmpop] at e; done) | skip
      cases e
      exact op_notBl pins s σ H x y v u Q I rx ry ⟨_, _, r1.bl, r2.bl, h.here k rfl⟩
  · cases d2 <;> first | (simp [cmpop] at e; done) | skip
    · cases d1 <;> first | (simp [cmpop] at e; done) | skip
      cases e
      exact op_in_str pins s σ H x y v u Q I rx ry ⟨_, _, r1.str, r2.str, h.here k rfl⟩
    simp only [cmpop, memD] at e
    split at e
    · rename_i hq
      cases e
      obtain ⟨h1, h2⟩ := Bool.and_eq_true_iff.mp hq
      refine op_inD hu1 pins s σ H x y v u Q I rx ry ⟨_, _, r1.dp k.le (SeqAt.canLay_of_shaped h1), r2.dp k.le (SeqAt.canLay_of_shaped h2), h1, h2, ?_⟩
      rw [any_toPy]
      exact h.here k rfl
    · cases e
  · cases d2 <;> first | (simp [cmpop] at e; done) | skip
    · cases d1 <;> first | (simp [cmpop] at e; done) | skip
      cases e
      exact op_notin_str pins s σ H x y v u Q I rx ry ⟨_, _, r1.str, r2.str, h.here k rfl⟩
    simp only [cmpop, Option.map_eq_some_iff] at e
    obtain ⟨c, e, rfl⟩ := e
    unfold memD at e
    split at e
    · rename_i hq
      cases e
      obtain ⟨h1, h2⟩ := Bool.and_eq_true_iff.mp hq
      refine op_notInD hu1 pins s σ H x y v u Q I rx ry ⟨_, _, r1.dp k.le (SeqAt.canLay_of_shaped h1), r2.dp k.le (SeqAt.canLay_of_shaped h2), h1, h2, ?_⟩
      rw [any_toPy]
      exact h.here k rfl
    · cases e
end
end Eng
end

section
set_option autoImplicit false
namespace Eng
open PySem PySem.Spec PyProof.Rows L2

/-! ## greatest, least, sorted -/
theorem foldMax : ∀ (r : List Int) (x : Int), (r.foldl (fun a b => if a < b then b else a) x ∈ x :: r) ∧ (∀ y ∈ x :: r, y ≤ r.foldl (fun a b => if a < b then b else a) x)
  | [], x => ⟨by simp, by simp⟩
  | b :: r, x => by
    obtain ⟨h1, h2⟩ := foldMax r (if x < b then b else x)
    rw [List.foldl_cons]
    refine ⟨?_, fun y hy => ?_⟩
    · rcases List.mem_cons.mp h1 with e | e
      · rw [e]; split <;> simp
      · simp [e]
    · have h0 := h2 _ List.mem_cons_self
      rcases List.mem_cons.mp hy with e | e
      · exact Int.le_trans (by subst e; split <;> omega) h0
      · rcases List.mem_cons.mp e with e | e
        · exact Int.le_trans (by subst e; split <;> omega) h0
        · exact h2 y (List.mem_cons_of_mem _ e)
theorem foldMin : ∀ (r : List Int) (x : Int), (r.foldl (fun a b => if b < a then b else a) x ∈ x :: r) ∧ (∀ y ∈ x :: r, r.foldl (fun a b => if b < a then b else a) x ≤ y)
  | [], x => ⟨by simp, by simp⟩
  | b :: r, x => by
    obtain ⟨h1, h2⟩ := foldMin r (if b < x then b else x)
    rw [List.foldl_cons]
    refine ⟨?_, fun y hy => ?_⟩
    · rcases List.mem_cons.mp h1 with e | e
      · rw [e]; split <;> simp
      · simp [e]
    · have h0 := h2 _ List.mem_cons_self
      rcases List.mem_cons.mp hy with e | e
      · exact Int.le_trans h0 (by subst e; split <;> omega)
      · rcases List.mem_cons.mp e with e | e
        · exact Int.le_trans h0 (by subst e; split <;> omega)
        · exact h2 y (List.mem_cons_of_mem _ e)
theorem maxI_spec {ns : List Int} {m : Int} (h : maxI ns = some m) : m ∈ ns ∧ ∀ y ∈ ns, y ≤ m := by
  cases ns with
  | nil => cases h
  | cons x r => cases h; exact foldMax r x
theorem minI_spec {ns : List Int} {m : Int} (h : minI ns = some m) : m ∈ ns ∧ ∀ y ∈ ns, m ≤ y := by
  cases ns with
  | nil => cases h
  | cons x r => cases h; exact foldMin r x
theorem insI_perm (x : Int) : ∀ l : List Int, (insI x l).Perm (x :: l)
  | [] => .refl _
  | y :: r => by
    unfold insI
    split
    · exact .refl _
    · exact ((insI_perm x r).cons y).trans (.swap x y r)
theorem sortI_perm : ∀ l : List Int, (sortI l).Perm l
  | [] => .refl _
  | x :: r => (insI_perm x (sortI r)).trans ((sortI_perm r).cons x)
theorem insI_sorted (x : Int) : ∀ l : List Int, l.Pairwise (· ≤ ·) → (insI x l).Pairwise (· ≤ ·)
  | [], _ => by simp [insI]
  | y :: r, h => by
    unfold insI
    split
    · rename_i hxy
      refine .cons (fun z hz => ?_) h
      rcases List.mem_cons.mp hz with e | e
      · subst e; exact hxy
      · exact Int.le_trans hxy (List.rel_of_pairwise_cons h e)
    · rename_i hxy
      refine .cons (fun z hz => ?_) (insI_sorted x r (List.Pairwise.of_cons h))
      rcases List.mem_cons.mp ((insI_perm x r).mem_iff.mp hz) with e | e
      · subst e; omega
      · exact List.rel_of_pairwise_cons h e
theorem sortI_sorted : ∀ l : List Int, (sortI l).Pairwise (· ≤ ·)
  | [] => .nil
  | x :: r => insI_sorted x _ (sortI_sorted r)
theorem sorted_uniq : ∀ (l m : List Int), l.Pairwise (· ≤ ·) → m.Pairwise (· ≤ ·) → l.Perm m → l = m
  | [], m, _, _, p => (List.nil_perm.mp p).symm
  | x :: r, m, hl, hm, p => by
    cases m with
    | nil => exact absurd (List.perm_nil.mp p) (by simp)
    | cons y t =>
      have hx : x ∈ y :: t := p.mem_iff.mp List.mem_cons_self
      have hy : y ∈ x :: r := p.mem_iff.mpr List.mem_cons_self
      have e : x = y := by
        have h1 : y ≤ x := by
          rcases List.mem_cons.mp hx with e | e
          · omega
          · exact List.rel_of_pairwise_cons hm e
        have h2 : x ≤ y := by
          rcases List.mem_cons.mp hy with e | e
          · omega
          · exact List.rel_of_pairwise_cons hl e
        omega
      subst e
      rw [sorted_uniq r t (List.Pairwise.of_cons hl) (List.Pairwise.of_cons hm) (List.Perm.cons_inv p)]

/-! ## built-ins -/
abbrev RepBA (K : PySem.W.Frag) (φ : List Addr) (F H : Hp) : List V → List D → Prop := Paired (RepB K φ F H)
def rOpN {β : Type} (K : PySem.W.Frag) (cl : List Addr) (rl : List Addr → Hp → Hp → V → β → Prop) (g : List D → Option β) : List V → Hp → VK → Prop := fun vs H Q =>
  ∃ φ F st σ W ds, Sok K φ F st H ∧ RepBA K φ F H vs ds ∧ Out K cl φ F H σ W (rl φ) (R.of (g ds) st) Q
def bfV : Bf → Value
  | .len => .builtin "len" | .sum => .builtin "sum" | .max => .builtin "max" | .min => .builtin "min" | .all => .builtin "all" | .any => .builtin "any"
  | .tuple => .type "tuple" | .list => .type "list" | .sorted => .builtin "sorted" | .abs => .builtin "abs" | .int => .type "int" | .str => .type "str" | .repr => .builtin "repr"
def bfN : Bf → Str
  | .len => "len" | .sum => "sum" | .max => "max" | .min => "min" | .all => "all" | .any => "any"
  | .tuple => "tuple" | .list => "list" | .sorted => "sorted" | .abs => "abs" | .int => "int" | .str => "str" | .repr => "repr"
theorem bf_boot : ∀ b : Bf, bootBuiltins (bfN b) = some (bfV b) := fun b => by cases b <;> decide +kernel
section
variable {X : Cx} {cl : List Addr}
theorem RepBA.one {K : PySem.W.Frag} {φ : List Addr} {F H : Hp} {vs : List V} {d : D} (h : RepBA K φ F H vs [d]) : ∃ v, vs = [v] ∧ RepB K φ F H v d := by
  cases h with
  | cons r t => cases t; exact ⟨_, rfl, r⟩
theorem one_or {g : List D → Option D} {ds : List D} {d : D} (e : g ds = some d) (h0 : g [] = none) (h2 : ∀ a b r, g (a :: b :: r) = none) : ∃ x, ds = [x] := by
  cases ds with
  | nil => rw [h0] at e; cases e
  | cons a r =>
    cases r with
    | nil => exact ⟨a, rfl⟩
    | cons b t => rw [h2] at e; cases e
theorem bfop_one {b : Bf} {ds : List D} {d : D} (e : bfop b ds = some d) : ∃ x, ds = [x] := by
  refine one_or e ?_ ?_
  · cases b <;> rfl
  · intro a c r
    cases b <;> cases a <;> rfl
theorem repr_ok (hu : X.A.units + 65 < cLine) (hg : X.A.guards = some []) : CallR X (.builtin "repr") (rOpN X.K cl (rlE X.K) (bfop .repr)) := by
  intro pins s σ H xs us Q I r h
  obtain ⟨φ, F, st, σ', W, ds, k, ra, h⟩ := h
  have hh := h.of
  clear h
  obtain ⟨d, e, h⟩ := hh
  obtain ⟨x, rfl⟩ := bfop_one e
  obtain ⟨v, rfl, rx⟩ := ra.one
  simp only [bfop] at e
  split at e
  · rename_i hz
    cases e
    unfold reprB at hz
    simp only [Bool.and_eq_true, decide_eq_true_eq] at hz
    obtain ⟨⟨⟨h1, h2⟩, h3⟩, h4⟩ := hz
    obtain ⟨u, rfl, ru⟩ : ∃ u, us = [u] ∧ RelV v u := by
      cases r with
      | cons r1 r2 => cases r2; exact ⟨_, rfl, r1⟩
    have fin : ∀ (h' : Heap) (t tk : Nat), (∀ b o, s.heap.get? b = some o → h'.get? b = some o) → EP X pins σ Q (.str (toPy x).shown t) { s with heap := h', toks := tk } := fun h' t tk hk => ⟨.str _, H, I.kept hk, ⟨t, rfl⟩, h.here k (.str _)⟩
    have dp : Dp X.K H v (toPy x) := rx.dp k.le h1
    obtain ⟨as, rd⟩ := Dp.reads I _ _ _ dp ru
    have hd := PyData.hasDict_of_canLay _ h1
    have big : ∀ a : Addr, u = .ref a → wpAny (model X.prog X.w) X.A (PySem.call (.builtin "repr") [u]) (EP X pins σ Q) X.xe s := fun a ea => by
      subst ea
      exact repr_of_reads' rd h2 (fun q => by rw [hd] at q; cases q) hg (by omega) (fun _ _ e => e) (fun h' t tk hk => fin h' t tk hk) h3
    cases x with
    | non =>
      have := rx.non
      subst this
      obtain rfl : u = .none := ru
      exact call_repr_gives (typeIs_none s) PySem.F.slot_NoneType_repr PySem.F.entry_NoneType_repr (PySem.F.args_NoneType_repr_1 _) gives_none_repr (fin s.heap _ _ fun _ _ e => e) rfl h3
    | bl b =>
      have := rx.bl
      subst this
      obtain rfl : u = .bool b := ru
      exact call_repr_gives (PySem.typeIs_bool s b) PySem.F.slot_bool_repr PySem.F.entry_bool_repr (PySem.F.args_bool_repr_1 _) (gives_bool_repr b) (fin s.heap _ _ fun _ _ e => e) rfl h3
    | int i =>
      have := rx.int
      subst this
      obtain ⟨t, rfl⟩ := ru
      have h2 : i.natAbs.log2 < 1920 := by simpa [toPy, PyData.showable] using h2
      exact PySem.P.repr_of_int h2 (fin s.heap _ _ fun _ _ e => e)
    | str y =>
      have := rx.str
      subst this
      obtain ⟨t, rfl⟩ := ru
      exact call_repr_gives (typeIs_str s y t) PySem.F.slot_str_repr PySem.F.entry_str_repr (PySem.F.args_str_repr_1 _) (gives_str_repr y t) (fin s.heap _ _ fun _ _ e => e) rfl h3
    | lst ys =>
      obtain ⟨a, _, rfl, _⟩ := rx.lst k.le
      exact big a ru
    | tup ys =>
      obtain ⟨a, _, rfl, _⟩ := rx.tup k.le
      exact big a ru
    | dct _ => simp [toPy, PyData.canLay0] at h1
    | ref _ => simp [toPy, PyData.canLay0] at h1
    | scr _ => simp [toPy, PyData.canLay0] at h1
  · cases e
theorem pairsD_eq : ∀ {xs : List D} {ps : List (Int × Int)}, pairsD xs = some ps → xs = ps.map pairD
  | [], ps, h => by
    cases h
    rfl
  | d :: r, ps, h => by
    cases d with
    | tup l =>
      match l, h with
      | [.int a, .int b], h =>
        obtain ⟨qs, h1, h2⟩ := Option.map_eq_some_iff.mp (show (pairsD r).map ((a, b) :: ·) = some ps from h)
        subst h2
        rw [pairsD_eq h1] <;> rfl
    | _ => simp [pairsD] at h
theorem toPy_pairs : ∀ ps : List (Int × Int), toPy.all (ps.map pairD) = ps.map pairPy
  | [] => rfl
  | p :: r => by
    show toPy (pairD p) :: toPy.all (r.map pairD) = _
    rw [toPy_pairs r] <;> rfl
theorem lay_pairs : ∀ ps : List (Int × Int), PyData.canLayAll0 (toPy.all (ps.map pairD)) = true
  | [] => rfl
  | p :: r => by
    show (PyData.canLay0 (toPy (pairD p)) && PyData.canLayAll0 (toPy.all (r.map pairD))) = true
    rw [lay_pairs r] <;> rfl
theorem bf_ok (hc : X.calm = true) (hu : X.A.units + 65 < cLine) (hg : X.A.guards = some []) (b : Bf) : CallR X (bfV b) (rOpN X.K cl (rlE X.K) (bfop b)) := by
  by_cases hb : b = .repr
  · subst hb
    exact repr_ok hu hg
  intro pins s σ H xs us Q I r h
  obtain ⟨φ, F, st, σ', W, ds, k, ra, h⟩ := h
  have hh := h.of
  clear h
  obtain ⟨d, e, h⟩ := hh
  obtain ⟨x, rfl⟩ := bfop_one e
  obtain ⟨v, rfl, rx⟩ := ra.one
  cases b
  · -- len
    refine call_len pins s σ H _ us Q I r ?_
    cases x <;> first | (simp [bfop] at e; done) | skip
    · simp only [bfop] at e
      split at e
      · rename_i hz
        cases e
        have := rx.str
        subst this
        exact ⟨_, _, rfl, ⟨of_decide_eq_true hz, rfl⟩, h.here k (.int _)⟩
      · cases e
    · cases e
      obtain ⟨a, vs, rfl, ha, r2⟩ := rx.lst k.le
      refine ⟨_, vs.length, rfl, .inl ⟨vs, SqL.of ha, rfl⟩, ?_⟩
      rw [r2.len]
      exact h.here k (.int _)
    · cases e
      obtain ⟨a, vs, rfl, ha, r2⟩ := rx.tup k.le
      refine ⟨_, vs.length, rfl, .inr ⟨vs, ha, rfl⟩, ?_⟩
      rw [r2.len]
      exact h.here k (.int _)
  · -- sum
    cases x <;> first | (simp [bfop] at e; done) | skip
    simp only [bfop, Option.map_eq_some_iff] at e
    obtain ⟨ns, e, rfl⟩ := e
    obtain ⟨a, vs, rfl, ha, r2⟩ := rx.lst k.le
    have := r2.ints e
    subst this
    exact cr_sum hc pins s σ H _ us Q I r ⟨a, ns, rfl, SqL.of ha, h.here k (.int _)⟩
    simp only [bfop, Option.map_eq_some_iff] at e
    obtain ⟨ns, e, rfl⟩ := e
    obtain ⟨a, vs, rfl, ha, r2⟩ := rx.tup k.le
    have := r2.ints e
    subst this
    exact cr_sumT hc pins s σ H _ us Q I r ⟨a, ns, rfl, ha, h.here k (.int _)⟩
  · -- max
    cases x <;> first | (simp [bfop] at e; done) | skip
    simp only [bfop, Option.bind_eq_some_iff, Option.map_eq_some_iff] at e
    obtain ⟨ns, e, m, e2, rfl⟩ := e
    obtain ⟨a, vs, rfl, ha, r2⟩ := rx.lst k.le
    have := r2.ints e
    subst this
    obtain ⟨h1, h2⟩ := maxI_spec e2
    refine cr_max hc pins s σ H _ us Q I r ⟨a, ns, rfl, SqL.of ha, List.length_pos_of_mem h1, fun m' h3 h4 => ?_⟩
    have : m' = m := Int.le_antisymm (h2 _ h3) (h4 _ h1)
    subst this
    exact h.here k (.int _)
    simp only [bfop, Option.bind_eq_some_iff, Option.map_eq_some_iff] at e
    obtain ⟨ns, e, m, e2, rfl⟩ := e
    obtain ⟨a, vs, rfl, ha, r2⟩ := rx.tup k.le
    have := r2.ints e
    subst this
    exact cr_maxT hc hu pins s σ H _ us Q I r ⟨a, ns, m, rfl, ha, e2, h.here k (.int _)⟩
  · -- min
    cases x <;> first | (simp [bfop] at e; done) | skip
    rename_i xs
    cases hI : intsD xs with
    | some ns =>
      simp only [bfop, hI, Option.map_eq_some_iff] at e
      obtain ⟨m, e2, rfl⟩ := e
      obtain ⟨a, vs, rfl, ha, r2⟩ := rx.lst k.le
      have := r2.ints hI
      subst this
      obtain ⟨h1, h2⟩ := minI_spec e2
      refine cr_min hc pins s σ H _ us Q I r ⟨a, ns, rfl, SqL.of ha, List.length_pos_of_mem h1, fun m' h3 h4 => ?_⟩
      have : m' = m := Int.le_antisymm (h4 _ h1) (h2 _ h3)
      subst this
      exact h.here k (.int _)
    | none =>
      simp only [bfop, hI, Option.bind_eq_some_iff, Option.map_eq_some_iff] at e
      obtain ⟨ps, e1, m, e2, rfl⟩ := e
      obtain ⟨a, vs, rfl, ha, r2⟩ := rx.lst k.le
      have ep := pairsD_eq e1
      subst ep
      refine cr_minP hc hu pins s σ H _ us Q I r ⟨a, vs, ps, m, rfl, SqL.of ha, ?_, e2, fun x i hx hp => ?_⟩
      · have := r2.dp k.le (lay_pairs ps)
        rw [toPy_pairs] at this
        exact this
      · obtain ⟨y, hy, ry⟩ := r2.get hx
        rw [List.getElem?_map, hp] at hy
        cases hy
        exact h.here k ry
    simp only [bfop, Option.bind_eq_some_iff, Option.map_eq_some_iff] at e
    obtain ⟨ns, e, m, e2, rfl⟩ := e
    obtain ⟨a, vs, rfl, ha, r2⟩ := rx.tup k.le
    have := r2.ints e
    subst this
    exact cr_minT hc hu pins s σ H _ us Q I r ⟨a, ns, m, rfl, ha, e2, h.here k (.int _)⟩
  · -- all
    cases x <;> first | (simp [bfop] at e; done) | skip
    simp only [bfop, Option.map_eq_some_iff] at e
    obtain ⟨ns, e, rfl⟩ := e
    obtain ⟨a, vs, rfl, ha, r2⟩ := rx.lst k.le
    have := r2.bools e
    subst this
    exact cr_all hc pins s σ H _ us Q I r ⟨a, ns, rfl, SqL.of ha, h.here k (.bl _)⟩
  · -- any
    cases x <;> first | (simp [bfop] at e; done) | skip
    simp only [bfop, Option.map_eq_some_iff] at e
    obtain ⟨ns, e, rfl⟩ := e
    obtain ⟨a, vs, rfl, ha, r2⟩ := rx.lst k.le
    have := r2.bools e
    subst this
    exact cr_any hc pins s σ H _ us Q I r ⟨a, ns, rfl, SqL.of ha, h.here k (.bl _)⟩
  · -- tuple
    refine call_tuple_of pins s σ H _ us Q I r ?_
    cases x <;> first | (simp [bfop] at e; done) | skip
    · cases e
      obtain ⟨a, vs, rfl, ha, r2⟩ := rx.lst k.le
      exact ⟨a, vs, rfl, .inl ⟨SqL.of ha, fun p hp => h.tup k r2 hp⟩⟩
    · cases e
      obtain ⟨a, vs, rfl, ha, r2⟩ := rx.tup k.le
      refine ⟨a, vs, rfl, .inr ⟨ha, ?_⟩⟩
      rcases rx with q | ⟨_, _, _, _, q, _⟩
      · exact h.here k q
      · cases q
  · -- list
    refine call_list_of pins s σ H _ us Q I r ?_
    cases x <;> first | (simp [bfop] at e; done) | skip
    · cases e
      obtain ⟨a, vs, rfl, ha, r2⟩ := rx.lst k.le
      exact ⟨a, vs, rfl, .inl (SqL.of ha), fun p hp => h.lst k r2 hp⟩
    · cases e
      obtain ⟨a, vs, rfl, ha, r2⟩ := rx.tup k.le
      exact ⟨a, vs, rfl, .inr ha, fun p hp => h.lst k r2 hp⟩
  · -- sorted
    cases x <;> first | (simp [bfop] at e; done) | skip
    simp only [bfop, Option.map_eq_some_iff] at e
    obtain ⟨ns, e, rfl⟩ := e
    obtain ⟨a, vs, rfl, ha, r2⟩ := rx.lst k.le
    have := r2.ints e
    subst this
    refine cr_sortedI pins s σ H _ us Q I r ⟨a, ns, rfl, SqL.of ha, fun ns' p pm so hp => ?_⟩
    have : ns' = sortI ns := sorted_uniq _ _ so (sortI_sorted ns) (pm.trans (sortI_perm ns).symm)
    subst this
    exact h.lst k (repA_ints _) hp
    simp only [bfop, Option.map_eq_some_iff] at e
    obtain ⟨ns, e, rfl⟩ := e
    obtain ⟨a, vs, rfl, ha, r2⟩ := rx.tup k.le
    have := r2.ints e
    subst this
    refine cr_sortedT pins s σ H _ us Q I r ⟨a, ns, rfl, ha, fun ns' p pm so hp => ?_⟩
    have : ns' = sortI ns := sorted_uniq _ _ so (sortI_sorted ns) (pm.trans (sortI_perm ns).symm)
    subst this
    exact h.lst k (repA_ints _) hp
  · -- abs
    cases x <;> first | (simp [bfop] at e; done) | skip
    cases e
    have := rx.int
    subst this
    exact call_abs pins s σ H _ us Q I r ⟨_, rfl, h.here k (.int _)⟩
  · -- int
    cases x <;> first | (simp [bfop] at e; done) | skip
    cases e
    have := rx.int
    subst this
    exact call_int1 pins s σ H _ us Q I r (.inl ⟨_, rfl, h.here k (.int _)⟩)
  · -- str
    cases x <;> first | (simp [bfop] at e; done) | skip
    simp only [bfop] at e
    split at e
    · rename_i hz
      cases e
      have := rx.int
      subst this
      exact call_str_int pins s σ H _ us Q I r ⟨_, rfl, of_decide_eq_true hz, h.here k (.str _)⟩
    · cases e

  · exact absurd rfl hb

/-! ## items, slices -/
theorem atI_len {α β : Type} {xs : List α} {ys : List β} {i : Int} {y : β} (hl : xs.length = ys.length) (h : atI ys i = some y) : ∃ (j : Nat) (x : α), xs[j]? = some x ∧ ys[j]? = some y ∧ atI xs i = some x := by
  unfold atI at h ⊢
  rw [hl]
  cases e : ixN ys.length i with
  | none => rw [e] at h; cases h
  | some j =>
    rw [e] at h
    have h' : ys[j]? = some y := h
    have hj : j < xs.length := by rw [hl]; exact (List.getElem?_eq_some_iff.mp h').1
    exact ⟨j, xs[j], List.getElem?_eq_getElem hj, h', List.getElem?_eq_getElem hj⟩
def rIxD (K : PySem.W.Frag) (cl : List Addr) : R2 := fun x y H Q => ∃ φ F st σ W d1 d2, Sok K φ F st H ∧ RepB K φ F H x d1 ∧ RepB K φ F H y d2 ∧ Out K cl φ F H σ W (rlE K φ) (ixS d1 d2 st) Q
theorem ix_ok : IxR X (rIxD X.K cl) := by
  intro value slice pins s σ H x y v u Q I rx ry h hp
  obtain ⟨φ, F, st, σ', W, d1, d2, k, r1, r2, h⟩ := h
  refine ix_seq value slice pins s σ H x y v u Q I rx ry ?_ hp
  have two : ∀ (o : Option D), Out X.K cl φ F H σ' W (rlE X.K φ) (R.of o st) Q → ∃ d, o = some d ∧ Out X.K cl φ F H σ' W (rlE X.K φ) (.ok d st) Q := fun o h => h.of
  cases d1 with
  | lst ds =>
    have hh := two _ h
    clear h
    obtain ⟨d, e, h⟩ := hh
    cases d2 with
    | int i =>
      obtain ⟨a, vs, rfl, ha, ra⟩ := r1.lst k.le
      obtain ⟨j, w, e1, e2, e3⟩ := atI_len ra.len (show atI ds i = some d from e)
      obtain ⟨d', e4, r⟩ := ra.get e1
      rw [e2] at e4; cases e4
      have hq : Q w H := Out.here (rl := rlE X.K φ) h k r
      exact .inl ⟨a, vs, i, w, rfl, r2.int, SqL.of ha, e3, hq⟩
    | _ => cases e
  | tup ds =>
    have hh := two _ h
    clear h
    obtain ⟨d, e, h⟩ := hh
    cases d2 with
    | int i =>
      obtain ⟨a, vs, rfl, ha, ra⟩ := r1.tup k.le
      obtain ⟨j, w, e1, e2, e3⟩ := atI_len ra.len (show atI ds i = some d from e)
      obtain ⟨d', e4, r⟩ := ra.get e1
      rw [e2] at e4; cases e4
      have hq : Q w H := Out.here (rl := rlE X.K φ) h k r
      exact .inr (.inl ⟨a, vs, i, w, rfl, r2.int, ha, e3, hq⟩)
    | _ => cases e
  | str z =>
    have hh := two _ h
    clear h
    obtain ⟨d, e, h⟩ := hh
    cases d2 with
    | int i =>
      simp only [ixop, at1] at e
      split at e
      · rename_i hz
        simp only [Option.map_eq_some_iff] at e
        obtain ⟨c, e, rfl⟩ := e
        exact .inr (.inr ⟨z, i, c, r1.str, r2.int, of_decide_eq_true hz, e, h.here k (.str _)⟩)
      · cases e
    | _ => cases e
  | ref n =>
    cases d2 with
    | int i =>
      have hh := two _ h
      clear h
      obtain ⟨d, e, h⟩ := hh
      simp only [Option.bind_eq_some_iff] at e
      obtain ⟨ds, e0, e⟩ := e
      obtain ⟨a, rfl, hn⟩ := r1.ref
      obtain ⟨_, vs, ha, ra⟩ := k.cell n a ds hn e0
      obtain ⟨j, w, e1, e2, e3⟩ := atI_len ra.len e
      obtain ⟨d', e4, r⟩ := ra.get e1
      rw [e2] at e4; cases e4
      exact .inl ⟨a, vs, i, w, rfl, r2.int, SqL.of ha, e3, h.here k r⟩
    | _ => exact h.elim
  | _ => obtain ⟨d, e, h⟩ := two _ h; cases d2 <;> cases e
def rSlD (K : PySem.W.Frag) (cl : List Addr) : V → Option Int → Option Int → Hp → VK → Prop := fun x lo hi H Q => ∃ φ F st σ W d, Sok K φ F st H ∧ RepB K φ F H x d ∧ Out K cl φ F H σ W (rlE K φ) (R.of (slop d lo hi) st) Q
theorem cutV_map (ns : List Int) (lo hi : Option Int) : cutV (ns.map V.int) lo hi = (cutD ns lo hi).map V.int := by
  unfold cutV cutD
  rw [List.length_map, List.map_take, List.map_drop]
theorem sl_ok : SlR X (rSlD X.K cl) := by
  intro pins s σ H x v vl vu lo hi sl Q I rx hs pl pu h
  obtain ⟨φ, F, st, σ', W, d, k, r1, h⟩ := h
  have hh := h.of
  clear h
  obtain ⟨z, e, h⟩ := hh
  cases d with
  | lst ds =>
    cases e
    obtain ⟨a, vs, rfl, ha, ra⟩ := r1.lst k.le
    exact sl_list pins s σ H _ v vl vu lo hi sl Q I rx hs pl pu ⟨a, vs, rfl, SqL.of ha, fun p hp => h.lst k (ra.cut lo hi) hp⟩
  | scr ns =>
    cases e
    obtain ⟨a, rfl, ha⟩ := r1.scr k.le
    refine sl_list pins s σ H _ v vl vu lo hi sl Q I rx hs pl pu ⟨a, _, rfl, ha, fun p hp => ?_⟩
    rw [cutV_map]
    exact h.lst k (repA_ints _) hp
  | tup ds =>
    cases e
    obtain ⟨a, vs, rfl, ha, ra⟩ := r1.tup k.le
    refine sl_tupA pins s σ H _ v vl vu lo hi sl Q I rx hs pl pu ⟨a, vs, rfl, ha, fun z => ?_, fun _ p hp => h.tup k (ra.cut lo hi) hp⟩
    have e2 : cutD ds lo hi = ds := by
      unfold cutD
      rw [← ra.len, z.1, z.2, List.drop_zero, Nat.sub_zero, ra.len, List.take_length]
    rw [e2] at h
    rcases r1 with q | ⟨_, _, _, _, q, _⟩
    · exact h.here k q
    · cases q
  | str y =>
    simp only [slop] at e
    split at e
    · rename_i hz
      cases e
      exact sl_str pins s σ H _ v vl vu lo hi sl Q I rx hs pl pu ⟨y, r1.str, of_decide_eq_true hz, h.here k (.str _)⟩
    · cases e
  | _ => cases e
end
end Eng
end

section
set_option autoImplicit false
/-! enumerate over a tuple -/
namespace PySem
open Builtin
set_option maxHeartbeats 1000000 in
theorem eng_enumerate_newT (l : Addr) (items : Array Value) (n : Nat) (dct : Option Addr) (sl : Array (Option Value)) :
    Meets (Builtin.«enumerate.__new__» ⟨[.type "enumerate", .ref l], []⟩) (fun _ R s => s.heap.get? l = some { cls := .type "tuple", dict := dct, data := .seq items n, slots := sl } ∧
      R (.ok (.ret (.ref (s.heap.push { cls := .type "tuple_iterator", data := .fields #[.ref l, .int 0 0] }).objs.size)))
        { s with heap := (s.heap.push { cls := .type "tuple_iterator", data := .fields #[.ref l, .int 0 0] }).push { cls := .type "enumerate", data := .fields #[.none, .bool false, .ref s.heap.objs.size, rawInt 0, .none, .none] } }) :=
  .of_wp fun prog w A R s h => by
    obtain ⟨hp, g, d, tk, os⟩ := s; obtain ⟨hl, h⟩ := h
    have hsub := sub_enumerate
    have hL : Heap.IsTuple (Shared.heap ⟨hp, g, d, tk, os⟩) l items := ⟨_, hl, rfl, n, rfl⟩
    wp_walk using wpAny_loadPart' hl
    refine wpAny_stack_any fun st => wpAny_pure ?_
    split
    · rename_i c _ _ _ _ _
      cases (c == Value.type "enumerate")
      · wp_walk using wpAny_loadPart' hl, wpAny_pyIter_tuple hL
        exact ⟨_, rfl, h⟩
      · wp_walk using wpAny_loadPart' hl, wpAny_pyIter_tuple hL
        exact ⟨_, rfl, h⟩
    · wp_walk using wpAny_loadPart' hl, wpAny_pyIter_tuple hL
      exact ⟨_, rfl, h⟩
section
variable {prog : Program} {w : World} {A : Around} {E : Value → Shared → Prop} {s : Shared}
theorem eng_enumerate_tuple {l : Addr} {items : Array Value} {Q : Value → Shared → Prop} (hL : s.heap.IsTuple l items)
    (h : ∀ h', IsEnum h' (s.heap.objs.size + 1) s.heap.objs.size 0 .none → h'.IsTupleIter s.heap.objs.size l 0 → h'.objs.size = s.heap.objs.size + 2 →
      (∀ b o, s.heap.get? b = some o → h'.get? b = some o) → Q (.ref (s.heap.objs.size + 1)) { s with heap := h' }) :
    wpAny (model prog w) A (call (.type "enumerate") [.ref l]) Q E s := by
  obtain ⟨⟨c, dct, dt, sl⟩, hl, hc, n, hd⟩ := hL
  replace hc : c = .type "tuple" := hc
  replace hd : dt = .seq items n := hd
  subst hc hd
  refine callType_new F.called_enumerate (by decide) (F.typeCall_enumerate_1 _) (F.newCall_enumerate_1 _) (fun obj => F.args_object_init_2 obj _) F.entry_enumerate_new
    (eng_enumerate_newT l items n dct sl) ⟨hl, ?_⟩
  have hz : (s.heap.push { cls := .type "tuple_iterator", data := .fields #[.ref l, .int 0 0] }).objs.size = s.heap.objs.size + 1 := Heap.size_push ..
  show _ ∧ _
  rw [hz]
  have he : IsEnum ((s.heap.push { cls := .type "tuple_iterator", data := .fields #[.ref l, .int 0 0] }).push
      { cls := .type "enumerate", data := .fields #[.none, .bool false, .ref s.heap.objs.size, rawInt 0, .none, .none] }) (s.heap.objs.size + 1) s.heap.objs.size 0 .none := by
    have := Heap.get?_push_size (s.heap.push { cls := .type "tuple_iterator", data := .fields #[.ref l, .int 0 0] })
      (o := { cls := .type "enumerate", data := .fields #[.none, .bool false, .ref s.heap.objs.size, rawInt 0, .none, .none] }) rfl
    rw [hz] at this; exact this
  refine ⟨⟨_, he, rfl⟩, h _ he ⟨_, Heap.get?_push_of_some _ (Heap.get?_push_size _ rfl), rfl, rfl⟩ (by rw [Heap.size_push, hz]) fun b o x => Heap.get?_push_of_some _ (Heap.get?_push_of_some _ x)⟩
end
end PySem
namespace Eng
open PySem PySem.Spec PyProof.Rows L2
def IteT (K : PySem.W.Frag) (a : Addr) : It :=
  ⟨fun i H => ∃ (xs : List V) (x : V), SqT K H a xs ∧ xs[i]? = some x, fun i H v H' => ∃ T x, v = .ref T ∧ H T = none ∧ H' = upd H T (.tup [.int (i : Nat), x]) ∧ ∀ xs, SqT K H a xs → xs[i]? = some x, fun i H => ∃ xs : List V, SqT K H a xs ∧ xs.length = i⟩
theorem turn_enumT {P : Program} {w : World} {K : PySem.W.Frag} {elts : List Expr} {kk : Nat} {tpos : Pos} (a e it : Addr) :
    Turn P w K (.Tuple elts kk tpos) (IteT K a) [e, it] e (fun i h => (∃ old, IsEnum h e it ((i : Nat) : Int) old) ∧ h.IsTupleIter it a i ∧ e ≠ it) where
  mem := by simp
  obj := fun i h st b hb => by
    obtain ⟨⟨old, he⟩, ⟨o, ho, hc, hd⟩, _⟩ := st
    have e' : b = e ∨ b = it := by simpa using hb
    rcases e' with z | z
    · rw [z]; exact ⟨_, he, fun v q => nomatch q⟩
    · rw [z]; exact ⟨o, ho, fun v q => by rw [hd] at q; cases q⟩
  keep := fun i h h' st k => let ⟨⟨old, he⟩, hi, hne⟩ := st; ⟨⟨old, k e (by simp) _ he⟩, hi.at fun o q => k it (by simp) o q, hne⟩
  item := by
    intro X hP hw hK hc i pins s σ H E I hf st hg
    subst hP hw hK
    obtain ⟨⟨old, he⟩, hit, hne⟩ := st
    obtain ⟨xs, x, hq, hx⟩ := hg
    obtain ⟨its, rv, p, hz⟩ := I.tuple hq
    obtain ⟨u, hu, ru⟩ := rv.get hx
    have hel : e < s.heap.objs.size := Heap.lt_size he
    have hil : it < s.heap.objs.size := by obtain ⟨_, q, _⟩ := hit; exact Heap.lt_size q
    obtain ⟨oa, hoa, hca, na, hda⟩ := p
    have hai : a ≠ it := fun z => by
      obtain ⟨o2, h2, hc2, hd2⟩ := hit
      rw [z, h2] at hoa; cases hoa
      rw [hd2] at hda; cases hda
    have hea : e ∉ [it, a] := by
      intro hm
      have q : e = it ∨ e = a := by simpa using hm
      rcases q with q | q
      · exact hne q
      · have he' : s.heap.get? e = _ := he
        rw [q, hoa] at he'
        have e0 := Option.some.inj he'
        rw [e0] at hca
        have e1 : (Value.type "enumerate") = Value.type "tuple" := hca
        injection e1 with e2
        exact absurd e2 (by decide)
    have hlt : i < its.toArray.size := by
      have := (List.getElem?_eq_some_iff.mp hu).1
      simpa using this
    have D := Draws.tuple (prog := X.prog) (w := X.w) (A := X.A.in1) (I.ok.hd hc) it a hai its.toArray
    refine wpAny_pyNext_enum_itemD D he ⟨hit, ⟨oa, hoa, hca, na, hda⟩⟩ hlt hne hea fun x' h' tk hP' ho hit' hT hsz hk => ?_
    obtain ⟨hit', _⟩ := hit'
    have ex : x' = u := by
      have : its.toArray[i]? = some u := by simpa using hu
      rw [this] at hP'; exact (Option.some.inj hP').symm
    subst ex
    refine ⟨_, rfl, wpAny_letOwnedTupleGo_enum (s := { s with heap := h', toks := tk + 1 }) ho fun h'' he' sb => ?_⟩
    have hT2 : h''.get? s.heap.objs.size = some { cls := .type "tuple", data := .seq #[.int i tk, x'] } := (sb.2 _ (Nat.ne_of_gt hel)).trans hT
    have new : ObjOk X.prog X.w (upd H s.heap.objs.size (.tup [.int (i : Nat), x])) h'' s.heap.objs.size (.tup [.int (i : Nat), x]) :=
      ⟨by show 2 ≤ sizeLine; decide, [.int i tk, x'], .cons ⟨_, rfl⟩ (.cons ru .nil), ⟨_, hT2, rfl, _, rfl⟩⟩
    have I1 : Inv X pins σ (upd H s.heap.objs.size (.tup [.int (i : Nat), x])) { s with heap := h'', toks := tk + 1 } :=
      I.turnedNew (ch := [e, it]) (fun b ob hb q => (sb.2 b (fun z => hb (by simp [z]))).trans (hk b ob (fun z => hb (by simp [z])) (fun z => hb (by simp [z])) q)) hf (Nat.le_refl _) new
    refine ⟨.ref s.heap.objs.size, _, I1, rfl, ⟨_, x, rfl, I.hok.fresh (Nat.le_refl _), rfl, fun ys hy => by rw [I.tuple_inj hy hq]; exact hx⟩, ⟨⟨x', ?_⟩, hit'.at fun o q => (sb.2 it (Ne.symm hne)).trans q, hne⟩, fun b hb => ?_⟩
    · have e1 : ((i + 1 : Nat) : Int) = (i : Int) + 1 := by omega
      rw [e1]; exact he'
    · have hb' : b < s.heap.objs.size := by
        have e' : b = e ∨ b = it := by simpa using hb
        rcases e' with z | z
        · rw [z]; exact hel
        · rw [z]; exact hil
      rw [upd_ne (Nat.ne_of_lt hb')]
      exact (hf b hb).1
  done := by
    intro X hP hw hK hc i pins s σ H E I hf st hg
    subst hP hw hK
    obtain ⟨⟨old, he⟩, hit, hne⟩ := st
    obtain ⟨xs, hq, hx⟩ := hg
    obtain ⟨its, rv, p, hz⟩ := I.tuple hq
    obtain ⟨f0, f1, f2, f3, f4, f5⟩ := hf it (by simp)
    have hl := rv.length
    obtain ⟨oa, hoa, hca, na, hda⟩ := p
    have hai : a ≠ it := fun z => by
      obtain ⟨o2, h2, hc2, hd2⟩ := hit
      rw [z, h2] at hoa; cases hoa
      rw [hd2] at hda; cases hda
    have D := Draws.tuple (prog := X.prog) (w := X.w) (A := X.A.in1) (I.ok.hd hc) it a hai its.toArray
    have hi : its.toArray.size = i := by rw [List.size_toArray]; omega
    rw [← hi] at hit
    exact wpAny_pyNext_enum_endD D he ⟨hit, ⟨oa, hoa, hca, na, hda⟩⟩ fun h' eb => ⟨rfl, I.turned (t' := s.toks) (fun b o hb q => eb b o hb q) f0 f1 f3 f4 f5⟩
  self := fun A i s Q E st h => let ⟨⟨_, he⟩, _⟩ := st; wpAny_pyIter_enum he h
def iEnumA (K : PySem.W.Frag) (ta : TA) : TI := fun σ H R => ta σ H fun vs H1 => ∃ a xs, vs = [.ref a] ∧ ((SqL K H1 a xs ∧ R (Ite K a) H1) ∨ (SqT K H1 a xs ∧ R (IteT K a) H1))
theorem pi_enumA {X : Cx} {e : Expr} {ta : TA} {p pos tpos : Pos} {elts : List Expr} {kk : Nat} (hg : Gl X "enumerate") (hm : X.mg "enumerate" = none) (ha : PA X [e] ta) (hs : starEach [e] X.env = [(false, eval e X.env)]) :
    PI X (.Tuple elts kk tpos) (.Call (.Name "enumerate" p) [e] [] pos) (iEnumA X.K ta) := by
  refine ⟨fun pins s σ H R I h => ?_⟩
  refine Call_ (ld_blt I hg hm boot_enumerate (PyProof.Rows.callWith_type1 (thn (ha.run pos pins s σ H _ I h) fun us s1 ⟨vs, H1, I1, r1, q1⟩ => ?_) hs rfl))
  obtain ⟨a, xs, ex, q⟩ := q1
  subst ex
  cases r1 with
  | cons r rr =>
    cases rr
    cases r
    have fresh : ∀ b, b = s1.heap.objs.size + 1 ∨ b = s1.heap.objs.size → FpOk X pins H1 b := fun b e' => by
      have hle : s1.heap.objs.size ≤ b := by
        rcases e' with z | z
        · rw [z]; exact Nat.le_add_right _ _
        · rw [z]; exact Nat.le_refl _
      exact I1.fpOk hle (I1.hok.fresh hle)
    rcases q with ⟨hq, q⟩ | ⟨hq, q⟩
    · obtain ⟨its, rv, p', hz⟩ := I1.list hq
      refine call_enumerate_list p'.isList fun h' he hit hsz hk => wpAny_pyIter_enum he ?_
      have I2 : Inv X pins σ H1 { s1 with heap := h' } := I1.kept (t' := s1.toks) hk
      exact ⟨s1.heap.objs.size + 1, [s1.heap.objs.size + 1, s1.heap.objs.size], _, _, H1, rfl, I2, turn_enum a (s1.heap.objs.size + 1) s1.heap.objs.size, ⟨⟨.none, he⟩, hit, Nat.succ_ne_self _⟩, fun b hb => fresh b (by simpa using hb), q⟩
    · obtain ⟨its, rv, p', hz⟩ := I1.tuple hq
      obtain ⟨oa, hoa, hca, na, hda⟩ := p'
      refine eng_enumerate_tuple (items := its.toArray) ⟨oa, hoa, hca, na, hda⟩ fun h' he hit hsz hk => wpAny_pyIter_enum he ?_
      have I2 : Inv X pins σ H1 { s1 with heap := h' } := I1.kept (t' := s1.toks) hk
      exact ⟨s1.heap.objs.size + 1, [s1.heap.objs.size + 1, s1.heap.objs.size], _, _, H1, rfl, I2, turn_enumT a (s1.heap.objs.size + 1) s1.heap.objs.size, ⟨⟨.none, he⟩, hit, Nat.succ_ne_self _⟩, fun b hb => fresh b (by simpa using hb), q⟩
end Eng
end

section
set_option autoImplicit false
namespace Eng
open PySem PySem.Spec PyProof.Rows L2

/-! ## slots -/
theorem sget_set (env : Env) (i j : Nat) (x : Sl) : sget (env.set i x) j = if i = j ∧ i < env.length then x else sget env j := by
  unfold sget
  rw [List.getD_eq_getElem?_getD, List.getD_eq_getElem?_getD, List.getElem?_set]
  by_cases h : i = j
  · subst h
    by_cases hl : i < env.length
    · simp [hl]
    · simp [hl]
  · simp [h]
section
variable {K : PySem.W.Frag} {P : Addr → Prop} {φ : List Addr} {F H : Hp} {env : Env} {st : Sto} {σ : L2.St}
theorem Rel.set (r : Rel K P φ F env st σ H) (i : Nat) (x : Sl) (y : Option V) (h : i < env.length → SlotR K P φ F H x (some y)) (hn : isOwn x = false) : Rel K P φ F (env.set i x) st (σ.set i y) H := by
  have hl := r.len
  refine ⟨r.sok, fun j => ?_, fun j k hjk h1 h2 => ?_, by rw [List.length_set, List.length_set]; exact hl⟩
  · rw [sget_set, List.getElem?_set]
    by_cases e : i = j
    · subst e
      by_cases q : i < env.length
      · rw [if_pos ⟨rfl, q⟩, if_pos rfl, if_pos (hl ▸ q)]
        exact h q
      · rw [if_neg (fun z => q z.2), if_pos rfl, if_neg (hl ▸ q)]
        have := r.sl i
        rw [List.getElem?_eq_none (by omega)] at this
        exact this
    · rw [if_neg (fun z => e z.1), if_neg e]
      exact r.sl j
  · rw [sget_set] at h1 h2
    have e1 : ¬ (i = j ∧ i < env.length) := fun z => by rw [if_pos z, hn] at h1; cases h1
    have e2 : ¬ (i = k ∧ i < env.length) := fun z => by rw [if_pos z, hn] at h2; cases h2
    rw [if_neg e1] at h1
    rw [if_neg e2] at h2
    rw [List.getElem?_set, List.getElem?_set]
    have f : ∀ n, ¬ (i = n ∧ i < env.length) → (if i = n then (if i < σ.length then some y else none) else σ[n]?) = σ[n]? := fun n z => by
      by_cases q : i = n
      · subst q
        have : ¬ i < env.length := fun w => z ⟨rfl, w⟩
        rw [if_pos rfl, if_neg (hl ▸ this), List.getElem?_eq_none (by omega)]
      · rw [if_neg q]
    rw [f j e1, f k e2]
    exact r.sep j k hjk h1 h2
theorem Rel.setVal (r : Rel K P φ F env st σ H) (i : Nat) {d : D} {v : V} (h : Rep K φ F v d) : Rel K P φ F (env.set i (.val d)) st (σ.set i (some v)) H :=
  r.set i _ _ (fun _ => ⟨v, rfl, h⟩) rfl
theorem Rel.setUn (r : Rel K P φ F env st σ H) (i : Nat) (y : Option V) : Rel K P φ F (env.set i .un) st (σ.set i y) H :=
  r.set i _ _ (fun _ => trivial) rfl
theorem Rel.wipe (r : Rel K P φ F env st σ H) : ∀ vs : List Nat, Rel K P φ F (wipeE env vs) st (wipe σ vs) H
  | [] => r
  | v :: vs => (r.wipe vs).setUn v none
end
theorem wipe_get (σ : L2.St) (j : Nat) : ∀ vs : List Nat, (wipe σ vs)[j]? = if j ∈ vs ∧ j < σ.length then some none else σ[j]?
  | [] => by simp [wipe]
  | v :: vs => by
    unfold wipe
    rw [List.getElem?_set, wipe_length, wipe_get σ j vs]
    by_cases h : v = j
    · subst h
      by_cases q : v < σ.length <;> simp [q]
    · have h' : ¬ j = v := fun e => h e.symm
      simp [h, h']
theorem wipe_set {σ : L2.St} {i : Nat} {y : Option V} {vs : List Nat} (h : i ∈ vs) : wipe (σ.set i y) vs = wipe σ vs := by
  apply List.ext_getElem?
  intro j
  rw [wipe_get, wipe_get, List.length_set, List.getElem?_set]
  by_cases e : i = j
  · subst e
    by_cases q : i < σ.length <;> simp [h, q]
  · simp [e]
theorem wipe_wipe {σ : L2.St} {vs : List Nat} : wipe (wipe σ vs) vs = wipe σ vs := by
  apply List.ext_getElem?
  intro j
  rw [wipe_get, wipe_length, wipe_get]
  by_cases e : j ∈ vs ∧ j < σ.length <;> simp [e]
theorem wipe_sub {σ : L2.St} {us vs : List Nat} (h : ∀ i ∈ us, i ∈ vs) : wipe (wipe σ us) vs = wipe σ vs := by
  apply List.ext_getElem?
  intro j
  rw [wipe_get, wipe_get, wipe_length, wipe_get]
  by_cases e : j ∈ vs ∧ j < σ.length
  · simp [e]
  · rw [if_neg e, if_neg e]
    by_cases q : j ∈ us ∧ j < σ.length
    · exact absurd ⟨h j q.1, q.2⟩ e
    · rw [if_neg q]

/-! ## targets -/
def slotsT : Tg → List Nat
  | .one i => [i]
  | .many is => is
def gsR : List Nat → TGs
  | [] => gNil
  | i :: is => gCons (gName i) (gsR is)
def tgR (K : PySem.W.Frag) : Tg → TG
  | .one i => gName i
  | .many is => gTup K is.length (gsR is)
section
variable {K : PySem.W.Frag} {P : Addr → Prop} {φ : List Addr} {F H : Hp} {env : Env} {st : Sto}
theorem gs_run : ∀ (is : List Nat) (vs : List V) (ds : List D) (env : Env) (σ : L2.St), Rel K P φ F env st σ H → RepA K φ F vs ds → ds.length = is.length →
    ∃ σ', (∀ Q : L2.St → Hp → Prop, Q σ' H → gsR is vs σ H Q) ∧ Rel K P φ F ((is.zip ds).foldl (fun e p => e.set p.1 (.val p.2)) env) st σ' H ∧ ∀ ws : List Nat, (∀ i ∈ is, i ∈ ws) → wipe σ' ws = wipe σ ws
  | [], vs, ds, env, σ, r, ra, hl => by
    have : ds = [] := List.eq_nil_of_length_eq_zero hl
    subst this
    cases ra
    exact ⟨σ, fun Q q => ⟨rfl, q⟩, r, fun _ _ => rfl⟩
  | i :: is, vs, ds, env, σ, r, ra, hl => by
    cases ra with
    | nil => cases hl
    | @cons v vs d ds r1 rt =>
      obtain ⟨σ', h1, h2, h3⟩ := gs_run is vs ds (env.set i (.val d)) (σ.set i (some v)) (r.setVal i r1) rt (by simpa using hl)
      refine ⟨σ', fun Q q => ⟨v, vs, rfl, h1 Q q⟩, h2, fun ws hw => ?_⟩
      rw [h3 ws fun j hj => hw j (List.mem_cons_of_mem _ hj), wipe_set (hw i List.mem_cons_self)]
theorem tg_run {tg : Tg} {d : D} {v : V} {env' : Env} {σ : L2.St} (r : Rel K P φ F env st σ H) (rv : Rep K φ F v d) (h : tgSet tg d env = some env') :
    ∃ σ', (∀ Q : L2.St → Hp → Prop, Q σ' H → tgR K tg v σ H Q) ∧ Rel K P φ F env' st σ' H ∧ ∀ ws : List Nat, (∀ i ∈ slotsT tg, i ∈ ws) → wipe σ' ws = wipe σ ws := by
  cases tg with
  | one i =>
    cases h
    exact ⟨σ.set i (some v), fun Q q => q, r.setVal i rv, fun ws hw => wipe_set (hw i (by simp [slotsT]))⟩
  | many is =>
    cases d <;> first | (simp [tgSet] at h; done) | skip
    rename_i ds
    simp only [tgSet] at h
    split at h
    · rename_i hl
      cases h
      cases rv with
      | @tup a vs _ hs ra =>
        obtain ⟨σ', h1, h2, h3⟩ := gs_run is vs ds env σ r ra hl
        exact ⟨σ', fun Q q => ⟨a, vs, rfl, r.sok.le.sqT hs, by rw [ra.len]; exact hl, h1 Q q⟩, h2, h3⟩
    · cases h
end

/-! ## iterators -/
structure Good (K : PySem.W.Frag) (φ : List Addr) (F : Hp) (J : L2.It) (items : List D) : Prop where
  go : ∀ (i : Nat) (F' H' : Hp) (d : D), Le F F' → Le F' H' → items[i]? = some d → J.go i H' ∧ ∀ x H'', J.yld i H' x H'' →
    (H'' = H' ∧ Rep K φ F' x d) ∨ (∃ T vs ds, H' T = none ∧ H'' = upd H' T (.tup vs) ∧ x = .ref T ∧ d = .tup ds ∧ RepA K φ F' vs ds)
  stop : ∀ F' H', Le F F' → Le F' H' → J.stop items.length H'
section
variable {K : PySem.W.Frag} {φ : List Addr} {F : Hp} {a b : Addr} {vs ws : List V} {ds es : List D}
theorem good_list (h : F a = some (.lst vs)) (r : RepA K φ F vs ds) : Good K φ F (Itl K a) ds where
  go := fun i F' H' d l1 l2 e => by
    obtain ⟨x, ex, rx⟩ := r.getD e
    have hs : SqL K H' a vs := SqL.of (l2 _ _ (l1 _ _ h))
    exact ⟨⟨vs, x, hs, ex⟩, fun y H'' ⟨e1, e2⟩ => .inl ⟨e1, by have := e2 vs hs; rw [ex] at this; cases this; exact rx.le l1⟩⟩
  stop := fun F' H' l1 l2 => ⟨vs, SqL.of (l2 _ _ (l1 _ _ h)), by rw [r.len]; exact Nat.le_refl _⟩
theorem good_tup (h : SqT K F a vs) (r : RepA K φ F vs ds) : Good K φ F (Itt K a) ds where
  go := fun i F' H' d l1 l2 e => by
    obtain ⟨x, ex, rx⟩ := r.getD e
    have hs : SqT K H' a vs := l2.sqT (l1.sqT h)
    exact ⟨⟨vs, x, hs, ex⟩, fun y H'' ⟨e1, e2⟩ => .inl ⟨e1, by have := e2 vs hs; rw [ex] at this; cases this; exact rx.le l1⟩⟩
  stop := fun F' H' l1 l2 => ⟨vs, l2.sqT (l1.sqT h), by rw [r.len]; exact Nat.le_refl _⟩
theorem good_rng (lo : Int) (n : Nat) : Good K φ F (Itr lo n) ((List.range n).map fun (i : Nat) => .int (lo + i)) where
  go := fun i F' H' d l1 l2 e => by
    rw [List.getElem?_map] at e
    have hi : i < n := by
      by_cases q : i < n
      · exact q
      · rw [List.getElem?_eq_none (by simpa using q)] at e; cases e
    rw [List.getElem?_range hi] at e
    cases e
    exact ⟨hi, fun x H'' ⟨e1, e2⟩ => .inl ⟨e1, by subst e2; exact .int _⟩⟩
  stop := fun F' H' l1 l2 => by
    show n ≤ _
    simp
theorem good_stp (lo c : Int) (n : Nat) : Good K φ F (Itc lo c n) ((List.range n).map fun (i : Nat) => .int (lo + i * c)) where
  go := fun i F' H' d l1 l2 e => by
    rw [List.getElem?_map] at e
    have hi : i < n := by
      by_cases q : i < n
      · exact q
      · rw [List.getElem?_eq_none (by simpa using q)] at e; cases e
    rw [List.getElem?_range hi] at e
    cases e
    exact ⟨hi, fun x H'' ⟨e1, e2⟩ => .inl ⟨e1, by subst e2; exact .int _⟩⟩
  stop := fun F' H' l1 l2 => by
    show n ≤ _
    simp
theorem good_str (x : Str) : Good K φ F (Its x) (signsD x) where
  go := fun i F' H' d l1 l2 e => by
    unfold signsD at e
    rw [List.getElem?_map] at e
    cases q : x.cps.toList[i]? with
    | none => rw [q] at e; cases e
    | some c =>
      rw [q] at e
      cases e
      have q' : x.cps[i]? = some c := by simpa using q
      refine ⟨(Array.getElem?_eq_some_iff.mp q').1, fun y H'' ⟨e1, c', e2, e3⟩ => .inl ⟨e1, ?_⟩⟩
      rw [q'] at e2; cases e2
      subst e3
      exact .str _
  stop := fun F' H' l1 l2 => by
    show x.cps.size ≤ _
    simp [signsD]
theorem enumD_get : ∀ (ds : List D) (n i : Nat) (d : D), (enumD n ds)[i]? = some d → ∃ x, ds[i]? = some x ∧ d = .tup [.int ((n + i : Nat) : Int), x]
  | [], _, _, _, h => by simp [enumD] at h
  | x :: r, n, 0, d, h => by simp [enumD] at h; exact ⟨x, by simp, h.symm⟩
  | x :: r, n, i + 1, d, h => by
    have h' : (enumD (n + 1) r)[i]? = some d := by simpa [enumD] using h
    obtain ⟨y, e1, e2⟩ := enumD_get r (n + 1) i d h'
    refine ⟨y, by simpa using e1, ?_⟩
    rw [e2, show n + 1 + i = n + (i + 1) by omega]
theorem enumD_len : ∀ (ds : List D) (n : Nat), (enumD n ds).length = ds.length
  | [], _ => rfl
  | _ :: r, n => by simp [enumD, enumD_len r (n + 1)]
theorem good_enumL (h : F a = some (.lst vs)) (r : RepA K φ F vs ds) : Good K φ F (Ite K a) (enumD 0 ds) where
  go := fun i F' H' d l1 l2 e => by
    obtain ⟨y, e1, rfl⟩ := enumD_get ds 0 i d e
    obtain ⟨x, ex, rx⟩ := r.getD e1
    have hs : SqL K H' a vs := SqL.of (l2 _ _ (l1 _ _ h))
    refine ⟨⟨vs, x, hs, ex⟩, fun z H'' ⟨T, x', e2, e3, e4, e5⟩ => .inr ⟨T, [.int (i : Nat), x'], [.int ((0 + i : Nat) : Int), y], e3, e4, e2, rfl, ?_⟩⟩
    have := e5 vs hs
    rw [ex] at this; cases this
    rw [Nat.zero_add]
    exact .cons (.int _) (.cons (rx.le l1) .nil)
  stop := fun F' H' l1 l2 => ⟨vs, SqL.of (l2 _ _ (l1 _ _ h)), by rw [enumD_len, r.len]; exact Nat.le_refl _⟩
theorem good_enumT (h : SqT K F a vs) (r : RepA K φ F vs ds) : Good K φ F (IteT K a) (enumD 0 ds) where
  go := fun i F' H' d l1 l2 e => by
    obtain ⟨y, e1, rfl⟩ := enumD_get ds 0 i d e
    obtain ⟨x, ex, rx⟩ := r.getD e1
    have hs : SqT K H' a vs := l2.sqT (l1.sqT h)
    refine ⟨⟨vs, x, hs, ex⟩, fun z H'' ⟨T, x', e2, e3, e4, e5⟩ => .inr ⟨T, [.int (i : Nat), x'], [.int ((0 + i : Nat) : Int), y], e3, e4, e2, rfl, ?_⟩⟩
    have := e5 vs hs
    rw [ex] at this; cases this
    rw [Nat.zero_add]
    exact .cons (.int _) (.cons (rx.le l1) .nil)
  stop := fun F' H' l1 l2 => ⟨vs, l2.sqT (l1.sqT h), by rw [enumD_len, r.len]⟩
theorem zipD_get : ∀ (ds es : List D) (i : Nat) (d : D), (zipD ds es)[i]? = some d → ∃ x y, ds[i]? = some x ∧ es[i]? = some y ∧ d = .tup [x, y]
  | [], _, _, _, h => by simp [zipD] at h
  | _ :: _, [], _, _, h => by simp [zipD] at h
  | x :: r, y :: t, 0, d, h => by simp [zipD] at h; exact ⟨x, y, by simp, by simp, h.symm⟩
  | x :: r, y :: t, i + 1, d, h => by
    have h' : (zipD r t)[i]? = some d := by simpa [zipD] using h
    obtain ⟨x', y', e1, e2, e3⟩ := zipD_get r t i d h'
    exact ⟨x', y', by simpa using e1, by simpa using e2, e3⟩
theorem zipD_len : ∀ (ds es : List D), ds.length ≤ (zipD ds es).length ∨ es.length ≤ (zipD ds es).length
  | [], _ => .inl (by simp)
  | _ :: _, [] => .inr (by simp)
  | x :: r, y :: t => by
    rcases zipD_len r t with h | h
    · exact .inl (by simp [zipD]; exact h)
    · exact .inr (by simp [zipD]; exact h)
theorem good_zipL (h : F a = some (.lst vs)) (r : RepA K φ F vs ds) (h' : F b = some (.lst ws)) (r' : RepA K φ F ws es) : Good K φ F (Itz K a b) (zipD ds es) where
  go := fun i F' H' d l1 l2 e => by
    obtain ⟨x, y, e1, e2, rfl⟩ := zipD_get ds es i d e
    obtain ⟨x1, ex, rx⟩ := r.getD e1
    obtain ⟨y1, ey, ry⟩ := r'.getD e2
    have hs : SqL K H' a vs := SqL.of (l2 _ _ (l1 _ _ h))
    have hs' : SqL K H' b ws := SqL.of (l2 _ _ (l1 _ _ h'))
    refine ⟨⟨vs, ws, x1, y1, hs, hs', ex, ey⟩, fun z H'' ⟨T, x2, y2, e3, e4, e5, e6, e7⟩ => .inr ⟨T, [x2, y2], [x, y], e4, e5, e3, rfl, ?_⟩⟩
    have q1 := e6 vs hs
    have q2 := e7 ws hs'
    rw [ex] at q1; cases q1
    rw [ey] at q2; cases q2
    exact .cons (rx.le l1) (.cons (ry.le l1) .nil)
  stop := fun F' H' l1 l2 => ⟨vs, ws, SqL.of (l2 _ _ (l1 _ _ h)), SqL.of (l2 _ _ (l1 _ _ h')), by rw [r.len, r'.len]; exact zipD_len ds es⟩
theorem good_zipT (h : SqT K F a vs) (r : RepA K φ F vs ds) (h' : SqT K F b ws) (r' : RepA K φ F ws es) : Good K φ F (RZ.ItzT K a b) (zipD ds es) where
  go := fun i F' H' d l1 l2 e => by
    obtain ⟨x, y, e1, e2, rfl⟩ := zipD_get ds es i d e
    obtain ⟨x1, ex, rx⟩ := r.getD e1
    obtain ⟨y1, ey, ry⟩ := r'.getD e2
    have hs : SqT K H' a vs := l2.sqT (l1.sqT h)
    have hs' : SqT K H' b ws := l2.sqT (l1.sqT h')
    refine ⟨⟨vs, ws, x1, y1, hs, hs', ex, ey⟩, fun z H'' ⟨T, x2, y2, e3, e4, e5, e6, e7⟩ => .inr ⟨T, [x2, y2], [x, y], e4, e5, e3, rfl, ?_⟩⟩
    have q1 := e6 vs hs
    have q2 := e7 ws hs'
    rw [ex] at q1; cases q1
    rw [ey] at q2; cases q2
    exact .cons (rx.le l1) (.cons (ry.le l1) .nil)
  stop := fun F' H' l1 l2 => ⟨vs, ws, l2.sqT (l1.sqT h), l2.sqT (l1.sqT h'), by rw [r.len, r'.len]; exact zipD_len ds es⟩
end
end Eng
end

section
set_option autoImplicit false
namespace Eng
open PySem PySem.Spec PyProof.Rows L2

/-! ## an own exception: def __init__(self, thing): super().__init__('..'); self.thing = thing -/
structure IniP where
  sup : Str
  nm : Str
  m : Str
  j : Nat
  s : Str
  f : Str
  t : Str
  p0 : Pos
  p1 : Pos
  p2 : Pos
  p3 : Pos
  p4 : Pos
  p5 : Pos
  p6 : Pos
  p7 : Pos
  p8 : Pos
  p9 : Pos
def IniP.st1 (z : IniP) : Stmt := .Expr (.Call (.Attribute (.Call (.Name z.sup z.p0) [] [] z.p1) z.nm z.p2) [.Constant (.str z.m) z.j z.p3] [] z.p4) z.p5
def IniP.st2 (z : IniP) : Stmt := .Assign [.Attribute (.Name z.s z.p6) z.f z.p7] (.Name z.t z.p8) z.p9
def IniP.back (z : IniP) : List Stmt := [z.st1, z.st2]
def iniP : List Stmt → Option IniP
  | [.Expr (.Call (.Attribute (.Call (.Name sup p0) [] [] p1) nm p2) [.Constant (.str m) j p3] [] p4) p5, .Assign [.Attribute (.Name s p6) f p7] (.Name t p8) p9] => some ⟨sup, nm, m, j, s, f, t, p0, p1, p2, p3, p4, p5, p6, p7, p8, p9⟩
  | _ => none
theorem iniP_eq {l : List Stmt} {z : IniP} (h : iniP l = some z) : l = z.back := by
  unfold iniP at h
  split at h
  · cases h; rfl
  · cases h
abbrev iniN : List Str := ["self", "thing", "__class__"]
abbrev iniPs : List Str := ["self", "thing"]
/-- what the written part says of the class at C and its __init__ at fI -/
structure IniF (P : Program) (K : PySem.W.Frag) (C fI : Addr) : Prop where
  T : OexC K C
  fn : ∃ (z : IniP) (oc : Value) (od : Option Addr) (osl : Array (Option Value)) (qual : Str) (a1 a2 : Arg) (scope : Scope) (kV doc pm : Value) (an : Option Addr) (cda : Addr) (ct : Value) (cc : Addr),
    K.lookup fI = some ⟨oc, od, .func (PySem.W.fnX "__init__" qual ⟨[], [a1, a2], none, [], [], none, []⟩ z.back scope [("__class__", cc)] .none kV doc pm an (.ref cda) ct), osl⟩ ∧ PySem.W.codeIn K (.ref cda) qual = true ∧
    (∃ (ccl : Value) (cdd : Option Addr) (vs : Array Value) (ccs : Array (Option Value)) (file : Str) (tf : Tok), K.lookup cda = some ⟨ccl, cdd, .fields vs, ccs⟩ ∧ vs[2]? = some (.str file tf) ∧ ((P.main.file : Str) == file) = true) ∧
    (∃ (cl : Value) (cld : Option Addr) (csl : Array (Option Value)), K.lookup cc = some ⟨cl, cld, .cell (some (.ref C)), csl⟩) ∧ NdefX.NScope iniN iniPs ["__class__"] scope ∧ scope.names.lookup ("super" : Str) = some .globalImplicit ∧
    (z.p2.endLine == z.p4.line) = true ∧ z.sup = "super" ∧ z.nm = "__init__" ∧ z.s = "self" ∧ z.f = "thing" ∧ z.t = "thing" ∧ a1.arg = "self" ∧ a2.arg = "thing"
  top : (P.main.scope.names.lookup ("super" : Str)).isSome = false
  sup : PySem.W.nsIn K mainGlobals "super" = some none
  opq : PySem.W.nsIn K cStatics "thirdparty.any" = some none
  cls : ∃ cd, PySem.W.clsIn K C = some cd
  mro : PySem.W.mroIn K C (.ref C) = some true
  sin : PySem.W.ks_superIn K C C "__init__" = some (some (.builtin "ValueError.__init__"))
  hB : PySem.W.subIn K (.ref C) (.type "ValueError") = some true
  noF : PySem.W.findIn K (.ref C) "thing" = some none
  ini : PySem.W.findIn K (.ref C) "__init__" = some (some (.ref fI))
  ty : PySem.W.typeIn K (.ref fI) = some (.type "function")
theorem sup_call {env : PySem.Env} {o : Expr} {name m : Str} {j : Nat} {p2 p3 p4 : Pos} (hl : (p2.endLine == p4.line) = true) : eval (.Call (.Attribute o name p2) [.Constant (.str m) j p3] [] p4) env = (do
    let ov ← attributeBase o name env (eval o env)
    standAt p2.atName
    let (f, first) ← holding [ov] (getMethod ov name (do return (← importBound o env).getD true))
    callWith p4 f first (backTo p4 (starEach [.Constant (.str m) j p3] env)) []) := by
  show (do
    let ov ← attributeBase o name env (eval o env)
    standAt p2.atName
    methodCall o name p2 p4 env ov 1 (backTo p4 (starEach [.Constant (.str m) j p3] env)) []) = _
  unfold methodCall methodCallPos
  rw [hl, Bool.or_true]
  rfl
/-- __init__'s promise -/
def spIni (C : Addr) : Sp := fun vs H Q _ => ∃ (a : Addr) (v : V), vs = [.ref a, v] ∧ H a = some (exo a C none) ∧ ∀ dx, H dx = none → dx ≠ a → Q .non (upd (upd H dx (exd dx [(("thing" : Str), v)])) a (exo a C (some dx)))
theorem call_wrapper {prog : Program} {w : World} {A : Around} {E : Value → Shared → Prop} {X : Cx} {pins : List (Addr × Obj)} {σ : L2.St} {H : Hp} {s : Shared} {a C u : Addr} {us : List Value} {Q : Value → Shared → Prop} (hp : X.prog = prog) (hw : X.w = w) (T : OexC X.K C) (I : Inv X pins σ H s) (e : H a = some (exo a C none))
    (hu : s.heap.get? u = some (PySem.W.kxs_mw "ValueError.__init__" a)) (hl : us.length ≤ sizeLine) (h : ∀ s', Inv X pins σ H s' → Q .none s') : wpAny (model prog w) A (PySem.call (.ref u) us) Q E s := by
  subst hp hw
  obtain ⟨nm, q, N, bs, bm, sn, sub, ab, col, dd, k0, k1, k2, k3, k5, hC, hbm⟩ := T.cls
  obtain ⟨t1, ho⟩ := exo_at I.hok e
  obtain ⟨hp, g, d, t, os⟩ := s
  refine wpAny_call (codeAny_of_tree ?_)
  show wpAny _ A.in1 (callAny (.ref u) ⟨us, []⟩) _ _ _
  simp only [callAny]
  refine wpAny_bind (wpAny_load hu ?_)
  simp only [PySem.W.kxs_mw, show (Value.type "method-wrapper" == Value.type "method" || Value.type "method-wrapper" == Value.type "builtin_function_or_method" || Value.type "method-wrapper" == Value.type "method-wrapper") = true by decide, if_true]
  refine PySem.W.KFB.if_so (by decide) ?_
  refine wpAny_bind (PySem.W.check_bound_init F.excBase_ValueError.toExcCallFacts (I.kIn _ _ hC) ho rfl ?_)
  refine wpAny_bind (wpAny_pure (wpAny_pure ?_))
  refine ⟨plainId_quiet F.excBase_ValueError.init.plain _, codeAny_builtin F.excBase_ValueError.initEntry ?_⟩
  refine PySem.W.exc_init_tree (cls := .ref C) (t0 := t1) (dv := none) (c2 := .none) (c3 := .none) (b4 := .bool false) ho hl fun h' k hx _ => ?_
  have J := I.write (t' := t) (x := a) (e := a) (o := exo a C none) (by rw [e]; exact True.intro) (.inl rfl) k ⟨_, hx⟩ (exo_ok hx)
  have eu : upd H a (exo a C none) = H := by
    funext b
    by_cases hb : b = a
    · rw [hb, upd_same, e]
    · rw [upd_ne hb]
  rw [eu] at J
  exact h _ J
theorem ini_ok {P : Program} {w : World} {K : PySem.W.Frag} {mg : Str → Option Value} {base : Heap} {C fI : Addr} (f : IniF P K C fI) : ∃ fd, FnOk P w K mg base (L2.CX P w) 1 fI fd iniPs (spIni C) ∧ Binds K fd iniPs [] := by
  obtain ⟨z, oc, od, osl, qual, a1, a2, scope, kV, doc, pm, an, cda, ct, cc, lk, hcd, ⟨ccl, cdd, vc, ccs, file, tf, lkc, hvc, hfile⟩, ⟨cl, cld, csl, lkcc⟩, S, hsup, hl, e1, e2, e3, e4, e5, e6, e7⟩ := f.fn
  obtain ⟨sup, nm, m, j, zs, zf, zt, p0, p1, p2, p3, p4, p5, p6, p7, p8, p9⟩ := z
  obtain rfl : sup = "super" := e1
  obtain rfl : nm = "__init__" := e2
  obtain rfl : zs = "self" := e3
  obtain rfl : zf = "thing" := e4
  obtain rfl : zt = "thing" := e5
  obtain ⟨z, ez⟩ : ∃ z : IniP, z = ⟨"super", "__init__", m, j, "self", "thing", "thing", p0, p1, p2, p3, p4, p5, p6, p7, p8, p9⟩ := ⟨_, rfl⟩
  rw [← ez] at lk
  obtain ⟨b1, b2, b3⟩ := a1
  obtain ⟨d1, d2, d3⟩ := a2
  obtain rfl : b1 = "self" := e6
  obtain rfl : d1 = "thing" := e7
  refine ⟨PySem.W.fnX "__init__" qual ⟨[], [⟨"self", b2, b3⟩, ⟨"thing", d2, d3⟩], none, [], [], none, []⟩ z.back scope [(("__class__" : Str), cc)] .none kV doc pm an (.ref cda) ct, ⟨fun vs H Q E ⟨a, v, e, _⟩ => by rw [e] <;> rfl, fun A outer s H args us vs Q E hr e0 hb rv hsp => ?_⟩, ?bind⟩
  case bind => exact .all fun us hl => match us, hl with | [_, _], _ => rfl
  obtain ⟨a, v, rfl, ha, hQ⟩ := hsp
  obtain ⟨u, rfl, ru⟩ : ∃ u, us = [.ref a, u] ∧ RelV v u := by
    cases rv with
    | cons r1 r2 =>
      cases r2 with
      | cons r3 r4 =>
        cases r4
        cases r1
        exact ⟨_, rfl, r3⟩
  have KX : K.In s.heap := e0.mod.kin.keeps fun b o e => (e0.bs b o e).1
  have lim : s.heap.NoLimit := e0.mod.nolimit.keeps fun b o e => (e0.bs b o e).1
  have par : ∀ y ∈ iniPs.zip [Value.ref a, u], scope.names.lookup y.1 = some .local := fun ⟨y, _⟩ hy => S.par y (List.of_mem_zip hy).1
  refine ks_codeAny_call_defAt (body := z.back) (binds := iniPs.zip [.ref a, u]) hr.depth (KX _ _ lk) rfl lim (PySem.W.codeRec_of KX hcd) rfl hb S.nocell par (fun h₁ hns kp => ?_) S.co S.gen S.kind
  obtain ⟨Fn, eF⟩ : ∃ Fn : NdefX.NF, Fn = ⟨"__init__", qual, ⟨[], [⟨"self", b2, b3⟩, ⟨"thing", d2, d3⟩], none, [], [], none, []⟩, z.back, scope, [(("__class__" : Str), cc)], cda⟩ := ⟨_, rfl⟩
  have hcc : H cc = none := (e0.bs cc _ (e0.mod.kin _ _ lkcc)).2
  have C0 : NdefX.CellsAt Fn.cl ["__class__"] [some (.ref C)] s.heap H := by
    subst eF
    have one : ∀ y c, ([(("__class__" : Str), cc)] : List (Str × Addr)).lookup y = some c → y = "__class__" ∧ c = cc := fun y c e => by
      have m := PySem.mem_of_lookup e
      cases List.mem_singleton.mp m
      exact ⟨rfl, rfl⟩
    refine ⟨rfl, fun y c e => ?_, fun x y c q1 q2 => (one x c q1).1.trans (one y c q2).1.symm, fun i y e => ?_⟩
    · obtain ⟨_, rfl⟩ := one y c e
      exact ⟨hcc, _, _, KX _ _ lkcc, rfl⟩
    · have hi : i = 0 := by
        have := (List.getElem?_eq_some_iff.mp e).1
        simp at this
        exact this
      subst hi
      cases e
      exact ⟨cc, rfl, fun v hv => by cases hv; exact ⟨_, rfl, _, KX _ _ lkcc, rfl⟩⟩
  have I : Inv (NdefX.ncx (L2.CX P w) P w K mg base iniN Fn fI A outer s H E) [] (NdefX.startF iniN [.ref a, v] [some (.ref C)]) H { s with heap := h₁, toks := s.toks + (iniPs.zip [Value.ref a, u]).length } := by
    subst eF
    exact NdefX.inv_startN S hr.hd e0 rfl (.cons rfl (.cons ru .nil)) C0 hns kp
  have tk : Takes (NdefX.ncx (L2.CX P w) P w K mg base iniN Fn fI A outer s H E) (fun cls d _ H => E cls d H) := takes_of rfl rfl rfl rfl
  obtain ⟨X, eX⟩ : ∃ X : Cx, X = NdefX.ncx (L2.CX P w) P w K mg base iniN Fn fI A outer s H E := ⟨_, rfl⟩
  have K1 : K.In h₁ := fun b o e => kp _ _ (KX b o e)
  have hks : scope.names.lookup ("super" : Str) = some .globalImplicit := hsup
  have hkc : scope.names.lookup ("__class__" : Str) = some .free := S.frk _ (by simp)
  have hself : scope.names.lookup ("self" : Str) = some .local := S.par _ (by simp [iniPs])
  have hthing : scope.names.lookup ("thing" : Str) = some .local := S.par _ (by simp [iniPs])
  obtain ⟨cd, hcls⟩ := f.cls
  obtain ⟨t1, hoa⟩ := exo_at I.hok ha
  have hoa : h₁.get? a = some ({ cls := .ref C, dict := none, data := .fields #[.ref t1, .none, .none, .none, .bool false, .none] } : Obj) := hoa
  obtain ⟨oC, hC1, hC2⟩ : ∃ oC, h₁.get? C = some oC ∧ oC.data = .cls cd := by
    unfold PySem.W.clsIn at hcls
    split at hcls
    · rename_i c d cd' sl ho
      cases hcls
      exact ⟨_, K1 _ _ ho, rfl⟩
    · cases hcls
  have inst : PySem.W.InstAt h₁ a { cls := .ref C, dict := none, data := .fields #[.ref t1, .none, .none, .none, .bool false, .none] } C none := ⟨hoa, rfl, rfl, trivial⟩
  -- the rest: self.thing = thing
  have rest : ∀ s', Inv X [] (NdefX.startF iniN [.ref a, v] [some (.ref C)]) H s' → wpAny (model P w) X.A (execs [z.st2] X.env) (fun fl s' => CR (L2.CX P w) outer P w H s Q E (.ok (.ret (match fl with | .ret v => v | _ => .none))) s') X.xe s' := fun s' J => by
    subst eX
    have hN : ([("self" : Str), "thing", "__class__"] : List Str).Nodup := S.nd
    have pself : PE (NdefX.ncx (L2.CX P w) P w K mg base iniN Fn fI A outer s H E) (.Name "self" p6) (tVar 0) := pe_var (i := 0) rfl (.inl (by subst eF; exact hself)) (by decide) (by decide)
    have pthing : PE (NdefX.ncx (L2.CX P w) P w K mg base iniN Fn fI A outer s H E) (.Name "thing" p8) (tVar 1) := pe_var (i := 1) rfl (.inl (by subst eF; exact hthing)) (by decide) (by decide)
    have st := pss_one (ps_ost (f := "thing") (p' := p7) (pos := p9) pself pthing)
    have go := st.run [] s' _ H { nx := fun _ H' => Q .non H', rt := fun _ _ => False } J ⟨v, rfl, .ref a, rfl, a, C, rfl, f.T, f.noF, .inl ⟨ha, fun dx n ne => hQ dx n ne⟩⟩
    subst ez
    refine wpAny_mono go (fun fl s2 hs => ?_) fun _ _ q => q
    cases fl with
    | next =>
      obtain ⟨σ', H', J', q⟩ := hs
      exact ⟨.non, H', J'.os, J'.bare, J'.base, J'.hok, rfl, q⟩
    | ret u => obtain ⟨_, _, _, _, _, q⟩ := hs; exact q.elim
    | brk => obtain ⟨_, _, _, q⟩ := hs; exact q.elim
    | cont => obtain ⟨_, _, _, q⟩ := hs; exact q.elim
  have eEnv : X.env = PySem.W.envX qual scope s.heap.objs.size fI (.ref cda) [(("__class__" : Str), cc)] := by subst eX eF; rfl
  have hgl : Gl X "super" := by
    show X.env.scope.names.lookup _ = _
    rw [eEnv]; exact hks
  have hmg : X.mg "super" = none := by subst eX; exact PySem.W.mg_none_of e0.mod.kin e0.mod.glob f.sup
  have key : PySem.wpAt (model P w) X.A (.func z.back X.env) (execs z.back X.env) (fun fl s' => CR (L2.CX P w) outer P w H s Q E (.ok (.ret (match fl with | .ret v => v | _ => .none))) s') X.xe { s with heap := h₁, toks := s.toks + (iniPs.zip [Value.ref a, u]).length } := by
    show PySem.wpAt (model P w) X.A (.func z.back X.env) (execs [z.st1, z.st2] X.env) _ X.xe _
    refine ks_wpAt_execs_cons ?_
    rw [ez]
    refine ks_wpAt_Expr_any ?_ (by rw [eEnv]; unfold interactive; rw [show (PySem.W.envX qual scope s.heap.objs.size fI (.ref cda) [(("__class__" : Str), cc)]).scope.kind = .function from S.kind] <;> rfl) rfl
    refine ks_wpAt_MethodCall ?_ (sup_call hl)
    rw [eEnv]
    refine ks_wpAt_super_base (env := PySem.W.envX qual scope s.heap.objs.size fI (.ref cda) [(("__class__" : Str), cc)]) hks hkc (show (("__init__" : Str) == ("__class__" : Str)) = false by decide) rfl (kp _ _ (KX _ _ lk)) rfl rfl rfl (K1 _ _ lkc) rfl hvc hfile f.top ?_
    have IX : Inv X [] (NdefX.startF iniN [.ref a, v] [some (.ref C)]) H { s with heap := h₁, toks := s.toks + (iniPs.zip [Value.ref a, u]).length } := by rw [eX]; exact I
    obtain ⟨mb, hm1, hm2⟩ := IX.mod.blt
    refine PySem.W.ks_loadName_global S.kind hks (Calls.loadGlobal_builtin (IX.mod.glob.keeps IX.bk) hmg (hm1.keeps IX.bk) ((hm2 "super" (by decide)).trans PyProof.Rows.Boot.«super») ⟨rfl, ?_⟩)
    refine wpAny_loadName_free S.kind hkc rfl ⟨_, K1 _ _ lkcc, rfl⟩ ?_
    refine wpAny_loadName_local S.kind hself hns rfl ?_
    refine ks_wpAny_isType_cls hC1 hC2 ⟨rfl, ?_⟩
    refine ks_wpAny_call_super hC1 hC2 hoa rfl (fun c e => nomatch e) (PySem.W.looks_mroIn K1 f.mro) (fun h' e k => ?_)
    have K2 : K.In h' := fun b o q => k _ _ (K1 b o q)
    have hsin : PySem.W.alongIn K "__init__" ((cd.mro.dropWhile (· != .ref C)).drop 1) = some (some (.builtin "ValueError.__init__")) := by
      have q := f.sin
      unfold PySem.W.ks_superIn at q
      rw [hcls] at q
      exact q
    have inst' : PySem.W.InstAt h' a { cls := .ref C, dict := none, data := .fields #[.ref t1, .none, .none, .none, .bool false, .none] } C none := ⟨k _ _ hoa, rfl, rfl, trivial⟩
    refine PySem.W.kxs_getMethod PySem.W.kxs_ValueError e (PySem.W.looks_opaque K2 f.opq) (l₀ := cd.mro) (fun A Q E s kk q => wpAny_bind ((PySem.W.looks_clsIn K2 hcls) A _ E s kk (wpAny_pure q))) rfl K2 hsin (inst'.type.andThen (PySem.W.looks_subIn K2 f.hB)) (PySem.W.ks_ne K2 inst' hcls) (show (("__init__" : Str) == ("__class__" : Str)) = false by decide) ?_
    refine PySem.W.kxs_callWith (i := "ValueError.__init__") (x := a) rfl (Calls.evalArgs_plain (Calls.spliced_cons (Calls.Constant_str (k := j) (pos := p3) (Calls.spliced_nil ⟨Heap.get?_push_size _ rfl, ?_⟩))))
    refine call_wrapper (by rw [eX] <;> rfl) (by rw [eX] <;> rfl) (by rw [eX]; exact f.T) (IX.kept fun b o q => Heap.get?_push_of_some _ (k b o q)) ha (Heap.get?_push_size _ rfl) (by show 1 ≤ sizeLine; decide) fun s' J => ?_
    rw [← eEnv, ← ez]
    exact wpAt_of_wpAny (rest s' J)
  subst eX eF
  exact key
end Eng
end

section
set_option autoImplicit false
namespace Eng
open PySem PySem.Spec PyProof.Rows L2

/-! ## the text is the syntax -/
inductive GV where | fn (i : Nat) | const (d : D) | free | cls (c : Nat) | refu (c : Nat)
structure Gam where
  N : List Str
  sc : Scope
  fn : Str → Bool
  G : List (Str × GV)
  /-- lambdas may be made here -/
  lam : Bool
def vis (k : Option NameKind) : Bool := match k with
  | some .local => true | some .cell => true | some .free => true | _ => false
def loc (k : Option NameKind) : Bool := match k with
  | some .local => true | some .cell => true | _ => false
def isLoc (k : Option NameKind) : Bool := match k with
  | some .local => true | _ => false
def Gam.nm (Γ : Gam) (i : Nat) (x : Str) : Bool := decide (Γ.N[i]? = some x) && vis (Γ.sc.names.lookup x) && !(x == ("__debug__" : Str)) && !(x == ("__classdict__" : Str))
def Gam.tgt (Γ : Gam) (i : Nat) (x : Str) : Bool := decide (Γ.N[i]? = some x) && loc (Γ.sc.names.lookup x) && (Γ.fn x || isLoc (Γ.sc.names.lookup x))
def Gam.gl (Γ : Gam) (x : Str) : Bool := (match Γ.sc.names.lookup x with | some .globalImplicit => true | _ => false) && !(x == ("__debug__" : Str)) && !(x == ("__name__" : Str))
def Gam.lc (Γ : Gam) (i : Nat) (x : Str) : Bool := decide (Γ.N[i]? = some x) && isLoc (Γ.sc.names.lookup x)
def Gam.isFree (Γ : Gam) (x : Str) : Bool := Γ.gl x && (match Γ.G.lookup x with | some .free => true | _ => false)
def Gam.isCls (Γ : Gam) (x : Str) (c : Nat) : Bool := Γ.gl x && (match Γ.G.lookup x with | some (.cls i) => decide (i = c) | _ => false)
def Gam.isRefu (Γ : Gam) (x : Str) (c : Nat) : Bool := Γ.gl x && (match Γ.G.lookup x with | some (.refu i) => decide (i = c) | _ => false)
def Gam.isFn (Γ : Gam) (x : Str) (f : Nat) : Bool := Γ.gl x && (match Γ.G.lookup x with | some (.fn i) => decide (i = f) | _ => false)
def sameD : D → D → Bool
  | .non, .non => true
  | .bl a, .bl b => decide (a = b)
  | .int a, .int b => decide (a = b)
  | .str a, .str b => decide (a = b)
  | .tup xs, .tup ys => all xs ys
  | _, _ => false
where
  all : List D → List D → Bool
  | [], [] => true
  | x :: xs, y :: ys => sameD x y && all xs ys
  | _, _ => false
mutual
theorem sameD_eq : ∀ {a b : D}, sameD a b = true → a = b
  | .non, .non, _ => rfl
  | .bl a, .bl b, h => by rw [of_decide_eq_true (show decide (a = b) = true from h)]
  | .int a, .int b, h => by rw [of_decide_eq_true (show decide (a = b) = true from h)]
  | .str a, .str b, h => by rw [of_decide_eq_true (show decide (a = b) = true from h)]
  | .tup xs, .tup ys, h => by rw [sameA_eq (show sameD.all xs ys = true from h)]
  | .non, .bl _, h | .non, .int _, h | .non, .str _, h | .non, .lst _, h | .non, .tup _, h | .non, .dct _, h | .non, .ref _, h | .non, .scr _, h => by simp [sameD] at h
  | .bl _, .non, h | .bl _, .int _, h | .bl _, .str _, h | .bl _, .lst _, h | .bl _, .tup _, h | .bl _, .dct _, h | .bl _, .ref _, h | .bl _, .scr _, h => by simp [sameD] at h
  | .int _, .non, h | .int _, .bl _, h | .int _, .str _, h | .int _, .lst _, h | .int _, .tup _, h | .int _, .dct _, h | .int _, .ref _, h | .int _, .scr _, h => by simp [sameD] at h
  | .str _, .non, h | .str _, .bl _, h | .str _, .int _, h | .str _, .lst _, h | .str _, .tup _, h | .str _, .dct _, h | .str _, .ref _, h | .str _, .scr _, h => by simp [sameD] at h
  | .tup _, .non, h | .tup _, .bl _, h | .tup _, .int _, h | .tup _, .str _, h | .tup _, .lst _, h | .tup _, .dct _, h | .tup _, .ref _, h | .tup _, .scr _, h => by simp [sameD] at h
  | .lst _, _, h | .dct _, _, h | .ref _, _, h | .scr _, _, h => by simp [sameD] at h
theorem sameA_eq : ∀ {a b : List D}, sameD.all a b = true → a = b
  | [], [], _ => rfl
  | x :: xs, y :: ys, h => by
    obtain ⟨h1, h2⟩ := Bool.and_eq_true_iff.mp (show (sameD x y && sameD.all xs ys) = true from h)
    rw [sameD_eq h1, sameA_eq h2]
  | [], _ :: _, h => by simp [sameD.all] at h
  | _ :: _, [], h => by simp [sameD.all] at h
end
def Gam.isConst (Γ : Gam) (x : Str) (c : D) : Bool := Γ.gl x && (match Γ.G.lookup x with | some (.const d) => sameD d c | _ => false)
def constB : D → Const → Bool
  | .non, .none => true
  | .bl a, .bool b => decide (a = b)
  | .int a, .int b => decide (a = b)
  | .str a, .str b => decide (a = b)
  | _, _ => false
def tyN : Ty → Str
  | .int => "int" | .bool => "bool" | .tuple => "tuple" | .str => "str" | .dict => "dict" | .list => "list"
def tyS : Ty → String
  | .int => "int" | .bool => "bool" | .tuple => "tuple" | .str => "str" | .dict => "dict" | .list => "list"
def notStar : Expr → Bool
  | .Starred _ _ => false
  | _ => true
def plainB : Expr → Bool
  | .Name _ _ | .Constant _ _ _ | .BinOp _ _ _ _ | .UnaryOp _ _ _ | .Call _ _ _ _ | .Subscript _ _ _ | .Attribute _ _ _ | .IfExp _ _ _ _ => true
  | _ => false
def noMark : Expr → Bool
  | .Set _ _ _ => false
  | _ => true
def chkTg : Tg → Gam → Expr → Bool
  | .one i, Γ, .Name x _ => Γ.tgt i x
  | .many is, Γ, .Tuple ts _ _ => go is ts Γ
  | _, _, _ => false
where
  go : List Nat → List Expr → Gam → Bool
  | [], [], _ => true
  | i :: is, .Name x _ :: ts, Γ => Γ.tgt i x && go is ts Γ
  | _, _, _ => false
def isRev : Expr → Bool
  | .Slice none none (some (.UnaryOp .USub (.Constant (.int 1) _ _) _)) _ => true
  | _ => false
def isTup : Expr → Bool
  | .Tuple _ _ _ => true
  | _ => false
def ownN (Γ : Gam) (own : List Nat) : List (Str × Nat) := own.map fun i => (Γ.N.getD i "", i)
def Gam.blk (Γ : Gam) (scope : Scope) : Gam := { Γ with sc := relS scope Γ.sc, fn := fun x => scope.names.lookup x == some .cell, lam := false }
def Gam.lamG (Γ : Gam) (scope : Scope) : Gam := { Γ with sc := scope, fn := fun _ => false, lam := false }
/-- x(lambda: body, y), taken apart -/
structure RC where
  x : Str
  body : Expr
  scope : Scope
  y : Expr
  lpos : Pos
  p : Pos
  pos : Pos
def RC.back (z : RC) : Expr := .Call (.Name z.x z.p) [.Lambda ⟨[], [], none, [], [], none, []⟩ z.body z.scope z.lpos, z.y] [] z.pos
def refC : Expr → Option RC
  | .Call (.Name x p) [.Lambda ⟨[], [], none, [], [], none, []⟩ body scope lpos, y] [] pos => some ⟨x, body, scope, y, lpos, p, pos⟩
  | _ => none
theorem refC_eq {t : Expr} {z : RC} (h : refC t = some z) : t = z.back := by
  unfold refC at h
  split at h
  · cases h; rfl
  · cases h
mutual
def chkE : E → Gam → Expr → Bool
  | .k c, _, .Constant v _ _ => constB c v
  | .v i, Γ, .Name x _ => Γ.nm i x
  | .g y c, Γ, .Name x _ => decide (x = y) && Γ.isConst x c
  | .bin o a b, Γ, .BinOp x op y _ => bopB o op && chkE a Γ x && chkE b Γ y
  | .neg a, Γ, .UnaryOp .USub x _ => chkE a Γ x
  | .not a, Γ, .UnaryOp .Not x _ => chkE a Γ x
  | .and a b, Γ, .BoolOp .And (x :: y :: rest) pos => chkE a Γ x && (match rest with | [] => chkE b Γ y | _ :: _ => chkE b Γ (.BoolOp .And (y :: rest) pos))
  | .or a b, Γ, .BoolOp .Or (x :: y :: rest) pos => chkE a Γ x && (match rest with | [] => chkE b Γ y | _ :: _ => chkE b Γ (.BoolOp .Or (y :: rest) pos))
  | .cmp o a b, Γ, .Compare x [op] [y] _ => copB o op && noMark y && chkE a Γ x && chkE b Γ y
  | .chain o o' a b c, Γ, .Compare x [op, op'] [y, z] _ => copB o op && copB o' op' && noMark z && chkE a Γ x && chkE b Γ y && chkE c Γ z
  | .ite c a b, Γ, .IfExp z x y _ => chkE c Γ z && chkE a Γ x && chkE b Γ y
  | .tup es, Γ, .Tuple xs _ _ => chkEs es Γ xs
  | .lst es, Γ, .List xs _ => chkEs es Γ xs
  | .ix a b, Γ, .Subscript x y _ => plainB y && chkE a Γ x && chkE b Γ y
  | .sl a lo hi, Γ, .Subscript x (.Slice l h none _) _ => chkE a Γ x && chkO lo Γ l && chkO hi Γ h
  | .rev a, Γ, .Subscript x s _ => isRev s && chkE a Γ x
  | .sumL a, Γ, .Call (.Name x _) [y, .List [] _] [] _ => decide (x = "sum") && Γ.isFree x && notStar y && chkE a Γ y
  | .join a b, Γ, .Call (.Attribute (.Constant v k p) x apos) [y] [] pos => decide (x = "join") && (apos.endLine == pos.line) && notStar y && chkE a Γ (.Constant v k p) && chkE b Γ y
  | .cnt a b, Γ, .Call (.Attribute (.Name z zp) x apos) [y] [] pos => decide (x = "count") && (apos.endLine == pos.line) && notStar y && chkE a Γ (.Name z zp) && chkE b Γ y
  | .stp a lo m, Γ, .Subscript x (.Slice (some l) none (some t) _) _ => chkE a Γ x && chkE lo Γ l && chkE m Γ t
  | .call f es, Γ, .Call (.Name x _) (y :: ys) [] _ => Γ.isFn x f && ((y :: ys).all notStar || !ys.isEmpty) && chkEs es Γ (y :: ys)
  | .bf b es, Γ, .Call (.Name x _) (y :: ys) [] _ => decide (x = bfN b) && Γ.isFree x && (y :: ys).all notStar && chkEs es Γ (y :: ys)
  | .refu c e due, Γ, x => match refC x with
    | some z => Γ.lam && Γ.isRefu z.x c && notStar z.y && LamX.lamSB Γ.sc z.scope && chkE e (Γ.lamG z.scope) z.body && chkE due Γ z.y
    | none => false
  | .isI a t, Γ, .Call (.Name x _) [y, .Name z _] [] _ => decide (x = "isinstance") && Γ.isFree x && decide (z = tyN t) && Γ.isFree z && chkE a Γ y
  | .lc elt tg it ifs own, Γ, .ListComp elt' [⟨tg', it', ifs', 0⟩] scope _ => blkC Γ.N Γ.sc scope (ownN Γ own) && chkI it Γ (isTup tg') it' && (slotsT tg).all (own.contains ·) &&
      chkTg tg (Γ.blk scope) tg' && chkT ifs (Γ.blk scope) ifs' && chkE elt (Γ.blk scope) elt'
  | .lc2 elt tg it tg2 it2 ifs own own2, Γ, .ListComp elt' [⟨tg', it', [], 0⟩, ⟨tg2', it2', ifs', 0⟩] scope _ => blkC Γ.N Γ.sc scope (ownN Γ own) && chkI it Γ (isTup tg') it' && (slotsT tg).all (own.contains ·) &&
      chkTg tg (Γ.blk scope) tg' && chkI it2 (Γ.blk scope) (isTup tg2') it2' && (slotsT tg2).all (own2.contains ·) && own2.all (own.contains ·) && chkTg tg2 (Γ.blk scope) tg2' && chkT ifs (Γ.blk scope) ifs' && chkE elt (Γ.blk scope) elt'
  | _, _, _ => false
def chkEs : Es → Gam → List Expr → Bool
  | .nil, _, [] => true
  | .cons e es, Γ, x :: xs => chkE e Γ x && chkEs es Γ xs
  | .star e es, Γ, .Starred x _ :: xs => chkE e Γ x && chkEs es Γ xs
  | _, _, _ => false
def chkO : Es → Gam → Option Expr → Bool
  | .nil, _, none => true
  | .cons e _, Γ, some x => chkE e Γ x
  | _, _, _ => false
def chkT : Es → Gam → List Expr → Bool
  | .nil, _, [] => true
  | .cons e _, Γ, [x] => chkE e Γ x
  | _, _, _ => false
def chkI : IE → Gam → Bool → Expr → Bool
  | .seq e, Γ, _, x => noMark x && chkE e Γ x
  | .rng1 a, Γ, _, .Call (.Name x _) [y] [] _ => decide (x = "range") && Γ.isFree x && chkE a Γ y
  | .rng2 a b, Γ, _, .Call (.Name x _) [y, z] [] _ => decide (x = "range") && Γ.isFree x && chkE a Γ y && chkE b Γ z
  | .rng3 es, Γ, _, .Call (.Name x _) [y, z, w] [] _ => decide (x = "range") && Γ.isFree x && notStar y && notStar z && notStar w && chkEs es Γ [y, z, w]
  | .enum e, Γ, t, .Call (.Name x _) [y] [] _ => t && decide (x = "enumerate") && Γ.isFree x && chkE e Γ y
  | .zip a b, Γ, t, .Call (.Name x _) [y, z] [] _ => t && decide (x = "zip") && Γ.isFree x && chkE a Γ y && chkE b Γ z
  | _, _, _, _ => false
end

/-! ## the context -/
def spOf (K : PySem.W.Frag) (cl : List Addr) (g : List D → Sto → R D) : Sp := fun vs H Q E =>
  ∃ φ F st ds, Sok K φ F st H ∧ RepA K φ F vs ds ∧ Out K cl φ F H [] (fun c d _ H' => E c d H') (rlE K φ) (g ds st) Q
/-- a def's promise, asked with room of its own and no guarded code about -/
structure FnG (P : Program) (w : World) (K : PySem.W.Frag) (mg : Str → Option Value) (base : Heap) (n : Nat) (f : Addr) (fd : FuncData) (ps : List Str) (sp : Sp) : Prop where
  len : ∀ vs H Q E, sp vs H Q E → vs.length = ps.length
  run : ∀ (A : Around) (outer : List PySem.Env) (s : Shared) (H : Hp) (args : Args) (us : List Value) (vs : List V) (Q : VK) (E : XK), Room (3 * n) A → A.guards = some [] → Env0 P w K mg base A outer s H →
    BindsTo s fd args (ps.zip us) → Vals vs us → sp vs H Q E → codeAny (model P w) A (.call (.ref f) args) (CR (L2.CX P w) outer P w H s Q E) s
/-- def _law_refuses(work, due), taken apart -/
structure RP where
  work : Str
  x : Str
  n : Str
  test : Expr
  j : Nat
  p1 : Pos
  p2 : Pos
  p3 : Pos
  p4 : Pos
  p5 : Pos
  p6 : Pos
  p7 : Pos
  p8 : Pos
  p9 : Pos
def RP.back (z : RP) : List Stmt := [.Try [.Expr (.Call (.Name z.work z.p1) [] [] z.p2) z.p3, .Return (some (.Constant (.bool false) z.j z.p4)) z.p5] [.ExceptHandler (some (.Name z.x z.p6)) (some z.n) [.Return (some z.test) z.p7] z.p8] [] [] z.p9]
def refP : List Stmt → Option RP
  | [.Try [.Expr (.Call (.Name work p1) [] [] p2) p3, .Return (some (.Constant (.bool false) j p4)) p5] [.ExceptHandler (some (.Name x p6)) (some n) [.Return (some test) p7] p8] [] [] p9] => some ⟨work, x, n, test, j, p1, p2, p3, p4, p5, p6, p7, p8, p9⟩
  | _ => none
theorem refP_eq {l : List Stmt} {z : RP} (h : refP l = some z) : l = z.back := by
  unfold refP at h
  split at h
  · cases h; rfl
  · cases h
abbrev refN : List Str := ["work", "due", "e"]
abbrev refPs : List Str := ["work", "due"]
def chkHX (Γ : Gam) (i : Nat) (n : Str) : HX → Expr → Bool
  | .thing, .Attribute (.Name y _) a _ => decide (y = n) && decide (a = "thing") && Γ.nm i n
  | .v j, .Name y _ => Γ.nm j y
  | .k c, .Constant v _ _ => constB c v
  | .repr h, .Call (.Name x _) [y] [] _ => decide (x = "repr") && Γ.isFree x && notStar y && chkHX Γ i n h y
  | _, _ => false
def chkHB (Γ : Gam) (i : Nat) (n : Str) : HB → Expr → Bool
  | .eq a b, .Compare x [.Eq] [y] _ => noMark y && chkHX Γ i n a x && chkHX Γ i n b y
  | .ne a b, .Compare x [.NotEq] [y] _ => noMark y && chkHX Γ i n a x && chkHX Γ i n b y
  | .isN a, .Compare x [.Is] [.Constant .none _ _] _ => chkHX Γ i n a x
  | _, _ => false
/-- what is known of _law_refuses -/
structure RefF (K : PySem.W.Frag) (mg : Str → Option Value) (G : List (Str × GV)) (x : Str) (c : Nat) : Prop where
  ex : ∃ (g : Addr) (fd : FuncData) (params : Arguments) (scope : Scope) (z : RP), mg x = some (.ref g) ∧ FunD K x x params z.back scope [] [] g fd ∧ Binds K fd refPs [] ∧ FnScope refN refPs scope ∧
    Gam.nm ⟨refN, scope, fun _ => true, G, false⟩ 0 z.work = true ∧ Gam.isCls ⟨refN, scope, fun _ => true, G, false⟩ z.x c = true ∧ Gam.lc ⟨refN, scope, fun _ => true, G, false⟩ 2 z.n = true ∧
    chkHB ⟨refN, scope, fun _ => true, G, false⟩ 2 z.n (.eq (.repr .thing) (.repr (.v 1))) z.test = true
/-- what the making of lambdas asks -/
structure LamOk (X : Cx) (n : Nat) : Prop where
  room : Room (3 * n + 2) X.A
  tb : ∃ c T, LamX.TabB X.base X.mg c T ∧ X.env.code = .ref c ∧ (T, X.env.qual ++ "<lambda>") ∈ tabsOf X.K ∧ ∀ p ∈ tabsOf X.K, p.1 = T → p.2 = X.env.qual ++ "<lambda>"
structure GOk (P : Program) (w : World) (K : PySem.W.Frag) (mg : Str → Option Value) (base : Heap) (cl : List Addr) (n : Nat) (call : Nat → List D → Sto → R D) (G : List (Str × GV)) : Prop where
  fns : ∀ x i, G.lookup x = some (.fn i) → ∃ f fd ps, mg x = some (.ref f) ∧ PySem.W.keepIn K (.ref f) = true ∧ Binds K fd ps [] ∧ FnG P w K mg base n f fd ps (spOf K cl (call i))
  free : ∀ x, G.lookup x = some .free → mg x = none
  cls : ∀ x c, G.lookup x = some (.cls c) → ∃ C fI, cl[c]? = some C ∧ mg x = some (.ref C) ∧ IniF P K C fI ∧ XfC K C
  exm : ∀ (c c' : Nat) (C C' : Addr), cl[c]? = some C → cl[c']? = some C' → PySem.W.exmOne K (.ref C) (.ref C') = some (decide (c = c'))
  refu : ∀ x c, G.lookup x = some (.refu c) → RefF K mg G x c
  tbs : ∀ x ∈ lamNames, ∀ a, PySem.W.nsIn K mainGlobals x = some (some (.ref a)) → LamX.TabB base mg (He.cT K (x, none)).1 (He.cT K (x, none)).2
  tuq : ∀ p ∈ tabsOf K, ∀ q ∈ tabsOf K, p.1 = q.1 → p.2 = q.2
  const : ∀ x d, G.lookup x = some (.const d) → ∃ v u, mg x = some u ∧ RelV v u ∧ ∀ φ F, Rep K φ F v d
structure Ctx (X : Cx) (Γ : Gam) (cl : List Addr) (n : Nat) (call : Nat → List D → Sto → R D) : Prop where
  N : X.N = Γ.N
  nd : X.N.Nodup
  sc : X.env.scope = Γ.sc
  fn : X.fn = Γ.fn
  calm : X.calm = true
  room : Room (3 * n) X.A
  gd : X.A.guards = some []
  lam : Γ.lam = true → LamOk X n
  g : GOk X.prog X.w X.K X.mg X.base cl n call Γ.G
theorem Ctx.uts {X : Cx} {Γ : Gam} {cl : List Addr} {n : Nat} {call : Nat → List D → Sto → R D} (c : Ctx X Γ cl n call) : X.A.units + 65 < cLine := by
  have := c.room.un
  omega
theorem Ctx.blk {X : Cx} {Γ : Gam} {cl : List Addr} {n : Nat} {call : Nat → List D → Sto → R D} (c : Ctx X Γ cl n call) (s : Shared) (H : Hp) (scope : Scope) (C : Addr) (cv : List (Str × Addr)) (fp : List Addr) :
    Ctx (X.blk s H scope (compEnvC scope cv C X.env) fp) (Γ.blk scope) cl n call :=
  ⟨c.N, c.nd, by show relS scope X.env.scope = relS scope Γ.sc; rw [c.sc], rfl, c.calm, c.room, c.gd, fun q => (by cases q), c.g⟩

/-! ## readings -/
section
variable (K : PySem.W.Frag) (cl : List Addr) (call : Nat → List D → Sto → R D) (W : WX)
def rd {α β : Type} (rl : List Addr → Hp → Hp → α → β → Prop) (ev : Env → Sto → R β) : L2.St → Hp → (α → Hp → Prop) → Prop := fun σ H Q =>
  ∃ P φ F env st, Rel K P φ F env st σ H ∧ Out K cl φ F H σ W (rl φ) (ev env st) Q
abbrev rlA (K : PySem.W.Frag) (φ : List Addr) : Hp → Hp → List V → List D → Prop := fun F _ v d => RepA K φ F v d
abbrev rlBA (K : PySem.W.Frag) (φ : List Addr) : Hp → Hp → List V → List D → Prop := fun F H v d => RepBA K φ F H v d
abbrev rlO : Hp → Hp → Option Int → Option Int → Prop := fun _ _ a b => a = b
abbrev rlI (K : PySem.W.Frag) (φ : List Addr) : Hp → Hp → L2.It → List D → Prop := fun F _ J d => Good K φ F J d
abbrev tE (e : E) : TE := rd K cl W (rlE K) (evE call e)
abbrev tB (e : E) : TE := rd K cl W (rlB K) (fun env s => rdB e env s (evE call e env s))
abbrev tBl (e : E) : TT := rd K cl W (fun _ => rlT) (fun env s => asB (evE call e env s))
abbrev tEs (es : Es) : TA := rd K cl W (rlA K) (evEs call es)
abbrev tBs (es : Es) : TA := rd K cl W (rlBA K) (evBs call es)
abbrev tOp1 (es : Es) : TO := rd K cl W (fun _ => rlO) (evO call es)
abbrev tTs (es : Es) : TT := rd K cl W (fun _ => rlT) (evT call es)
abbrev tIt (it : IE) : TI := rd K cl W (rlI K) (evI call it)
end
theorem PE.of {X : Cx} {e : Expr} {t t' : TE} (h : PE X e t) (w : ∀ σ H Q, t' σ H Q → t σ H Q) : PE X e t' := ⟨fun pins s σ H Q I q => h.run pins s σ H Q I (w σ H Q q)⟩
theorem PT.of {X : Cx} {e : Expr} {t t' : TT} (h : PT X e t) (w : ∀ σ H Q, t' σ H Q → t σ H Q) : PT X e t' := ⟨fun pins s σ H Q I q => h.run pins s σ H Q I (w σ H Q q)⟩
theorem PW.of {X : Cx} {e : Expr} {t t' : TT} (h : PW X e t) (w : ∀ σ H Q, t' σ H Q → t σ H Q) : PW X e t' := ⟨fun wh pins s σ H Q I q => h.run wh pins s σ H Q I (w σ H Q q)⟩
theorem PTs.of {X : Cx} {e : List Expr} {t t' : TT} (h : PTs X e t) (w : ∀ σ H Q, t' σ H Q → t σ H Q) : PTs X e t' := ⟨fun pins s σ H Q I q => h.run pins s σ H Q I (w σ H Q q)⟩
theorem PA.of {X : Cx} {e : List Expr} {t t' : TA} (h : PA X e t) (w : ∀ σ H Q, t' σ H Q → t σ H Q) : PA X e t' := ⟨fun p pins s σ H Q I q => h.run p pins s σ H Q I (w σ H Q q)⟩
theorem PO.of {X : Cx} {e : Option Expr} {t t' : TO} (h : PO X e t) (w : ∀ σ H Q, t' σ H Q → t σ H Q) : PO X e t' := ⟨fun pins s σ H Q I q => h.run pins s σ H Q I (w σ H Q q)⟩
/-- one part behind another: the state has moved on -/
theorem Out.go {α β γ δ : Type} {K : PySem.W.Frag} {cl φ : List Addr} {P : Addr → Prop} {F H : Hp} {env : Env} {st : Sto} {σ : L2.St} {W : WX} {rl : List Addr → Hp → Hp → α → β → Prop} {rl2 : Hp → Hp → γ → δ → Prop} {r : R β} {f : β → Sto → R δ} {Q : γ → Hp → Prop} {Q' : α → Hp → Prop}
    (h : Out K cl φ F H σ W rl2 (r.bind f) Q) (re : Rel K P φ F env st σ H)
    (k : ∀ v H1 F1 d st1, Rel K P φ F1 env st1 σ H1 → Ext (Dm H) φ F H F1 H1 → rl φ F1 H1 v d → r = .ok d st1 → Out K cl φ F1 H1 σ W rl2 (f d st1) Q → Q' v H1) : Out K cl φ F H σ W (rl φ) r Q' :=
  (Out.bind h).mono fun v H1 ⟨F1, d, st1, e, x, s, q, o⟩ => k v H1 F1 d st1 (re.step x s) x q e o
theorem asB_bind {α : Type} (r : R D) (f : Bool → Sto → R α) : (asB r).bind f = r.bind fun x s => match x with | .bl b => f b s | _ => .stuck := by
  cases r with
  | ok d s => cases d <;> rfl
  | exc x s => rfl
  | stuck => rfl
theorem asI_bind {α : Type} (r : R D) (f : Int → Sto → R α) : (asI r).bind f = r.bind fun x s => match x with | .int b => f b s | _ => .stuck := by
  cases r with
  | ok d s => cases d <;> rfl
  | exc x s => rfl
  | stuck => rfl
theorem R.bind_bind {α β γ : Type} (r : R α) (f : α → Sto → R β) (g : β → Sto → R γ) : (r.bind f).bind g = r.bind fun a s => (f a s).bind g := by
  cases r <;> rfl
theorem chkE_notStar {e : E} {Γ : Gam} {x : Expr} (h : chkE e Γ x = true) : notStar x = true := by
  cases x <;> first | rfl | (cases e <;> exact absurd h (by simp [chkE, refC]))
theorem starEach_of {x : Expr} (h : notStar x = true) (xs : List Expr) (env : PySem.Env) : starEach (x :: xs) env = (false, eval x env) :: starEach xs env := by
  cases x <;> first | rfl | cases h
theorem starAny {xs : List Expr} (h : xs.all notStar = true) (pos : Pos) (env : PySem.Env) : (backTo pos (starEach xs env)).any (·.1) = false := by
  induction xs with
  | nil => rfl
  | cons x r ih =>
    rw [List.all_cons, Bool.and_eq_true] at h
    rw [starEach_of h.1]
    show (false || (backTo pos (starEach r env)).any (·.1)) = false
    rw [ih h.2] <;> rfl
section
variable {X : Cx} {Γ : Gam} {cl : List Addr} {n : Nat} {call : Nat → List D → Sto → R D}
theorem Ctx.vis (c : Ctx X Γ cl n call) {x : Str} (h : Eng.vis (Γ.sc.names.lookup x) = true) : Vis X.env.scope x := by
  unfold Vis
  rw [c.sc]
  revert h
  cases Γ.sc.names.lookup x with
  | none => intro h; cases h
  | some k => cases k <;> intro h <;> first | exact .inl rfl | exact .inr (.inl rfl) | exact .inr (.inr rfl) | cases h
theorem Ctx.loc (c : Ctx X Γ cl n call) {x : Str} (h : Eng.loc (Γ.sc.names.lookup x) = true) : L2.Loc X.env.scope x := by
  unfold L2.Loc
  rw [c.sc]
  revert h
  cases Γ.sc.names.lookup x with
  | none => intro h; cases h
  | some k => cases k <;> intro h <;> first | exact .inl rfl | exact .inr rfl | cases h
theorem Ctx.glo (c : Ctx X Γ cl n call) {x : Str} (h : Γ.gl x = true) : Gl X x ∧ (x == ("__debug__" : Str)) = false ∧ x ≠ "__name__" := by
  unfold Gam.gl at h
  simp only [Bool.and_eq_true, Bool.not_eq_true', Bool.not_eq_eq_eq_not, Bool.not_true] at h
  obtain ⟨⟨h1, h2⟩, h3⟩ := h
  refine ⟨?_, h2, fun e => ?_⟩
  · show X.env.scope.names.lookup x = some .globalImplicit
    rw [c.sc]
    split at h1
    · assumption
    · cases h1
  · rw [e] at h3
    exact absurd h3 (by decide)
theorem Ctx.fnG (c : Ctx X Γ cl n call) {x : Str} {i : Nat} (h : Γ.isFn x i = true) : Γ.gl x = true ∧ Γ.G.lookup x = some (.fn i) := by
  unfold Gam.isFn at h
  obtain ⟨h1, h2⟩ := Bool.and_eq_true_iff.mp h
  refine ⟨h1, ?_⟩
  split at h2
  · rename_i j e
    rw [e, of_decide_eq_true h2]
  · cases h2
theorem Ctx.freeG (c : Ctx X Γ cl n call) {x : Str} (h : Γ.isFree x = true) : Γ.gl x = true ∧ X.mg x = none := by
  unfold Gam.isFree at h
  obtain ⟨h1, h2⟩ := Bool.and_eq_true_iff.mp h
  refine ⟨h1, c.g.free x ?_⟩
  split at h2
  · assumption
  · cases h2
theorem Ctx.refG (c : Ctx X Γ cl n call) {x : Str} {i : Nat} (h : Γ.isRefu x i = true) : Γ.gl x = true ∧ RefF X.K X.mg Γ.G x i := by
  unfold Gam.isRefu at h
  obtain ⟨h1, h2⟩ := Bool.and_eq_true_iff.mp h
  refine ⟨h1, c.g.refu x i ?_⟩
  split at h2
  · rename_i j e
    rw [e, of_decide_eq_true h2]
  · cases h2
theorem Ctx.clsG (c : Ctx X Γ cl n call) {x : Str} {i : Nat} (h : Γ.isCls x i = true) : Γ.gl x = true ∧ ∃ C fI, cl[i]? = some C ∧ X.mg x = some (.ref C) ∧ IniF X.prog X.K C fI ∧ XfC X.K C := by
  unfold Gam.isCls at h
  obtain ⟨h1, h2⟩ := Bool.and_eq_true_iff.mp h
  refine ⟨h1, c.g.cls x i ?_⟩
  split at h2
  · rename_i j e
    rw [e, of_decide_eq_true h2]
  · cases h2
theorem Ctx.constG (c : Ctx X Γ cl n call) {x : Str} {d : D} (h : Γ.isConst x d = true) : Γ.gl x = true ∧ ∃ v u, X.mg x = some u ∧ RelV v u ∧ ∀ φ F, Rep X.K φ F v d := by
  unfold Gam.isConst at h
  obtain ⟨h1, h2⟩ := Bool.and_eq_true_iff.mp h
  refine ⟨h1, ?_⟩
  split at h2
  · rename_i d' e
    rw [← sameD_eq h2]
    exact c.g.const x d' e
  · cases h2
theorem pg_tgt (c : Ctx X Γ cl n call) {i : Nat} {x : Str} {pos : Pos} (h : Γ.tgt i x = true) : PG X (.Name x pos) (gName i) := by
  unfold Gam.tgt at h
  obtain ⟨h12, h3⟩ := Bool.and_eq_true_iff.mp h
  obtain ⟨h1, h2⟩ := Bool.and_eq_true_iff.mp h12
  have h1 : Γ.N[i]? = some x := of_decide_eq_true h1
  refine pg_name c.nd (by rw [c.N]; exact h1) (c.loc h2) ?_
  rcases Bool.or_eq_true_iff.mp h3 with q | q
  · left; rw [c.fn]; exact q
  · right
    rw [c.sc]
    revert q
    cases Γ.sc.names.lookup x with
    | none => intro q; cases q
    | some k => cases k <;> intro q <;> first | rfl | cases q
theorem pgs_go (c : Ctx X Γ cl n call) : ∀ (is : List Nat) (ts : List Expr), chkTg.go is ts Γ = true → PGs X ts (gsR is) ∧ (assignEach ts X.env).length = is.length ∧ (assignEach ts X.env).findIdx? (·.1) = none
  | [], [], _ => ⟨pgs_nil, rfl, rfl⟩
  | i :: is, t :: ts, h => by
    cases t <;> first | (simp [chkTg.go] at h; done) | skip
    rename_i x pos
    obtain ⟨h1, h2⟩ := Bool.and_eq_true_iff.mp (show (Γ.tgt i x && chkTg.go is ts Γ) = true from h)
    obtain ⟨h3, h4, h5⟩ := pgs_go c is ts h2
    refine ⟨pgs_cons (pg_tgt c h1) h3, ?_, ?_⟩
    · show (_ :: assignEach ts X.env).length = _
      rw [List.length_cons, List.length_cons, h4]
    · show ((false, _) :: assignEach ts X.env).findIdx? (·.1) = none
      rw [List.findIdx?_cons, h5]
      rfl
  | [], _ :: _, h => by simp [chkTg.go] at h
  | _ :: _, [], h => by simp [chkTg.go] at h
theorem pg_of (c : Ctx X Γ cl n call) {tg : Tg} {x : Expr} (h : chkTg tg Γ x = true) : PG X x (tgR X.K tg) := by
  cases tg with
  | one i =>
    cases x <;> first | (simp [chkTg] at h; done) | skip
    exact pg_tgt c h
  | many is =>
    cases x <;> first | (simp [chkTg] at h; done) | skip
    rename_i ts k pos
    obtain ⟨h1, h2, h3⟩ := pgs_go c is ts h
    exact pg_tup c.calm h1 h2 h3
end
end Eng
end

section
set_option autoImplicit false
namespace Eng
open PySem PySem.Spec PyProof.Rows L2

theorem asB_asD (r : R Bool) : asB (asD r) = r := by cases r <;> rfl
theorem asB_fold (b : R Bool) (f g : Sto → R D) : asB (fold2 b f g) = fold2 b (fun s => asB (f s)) (fun s => asB (g s)) := by
  cases b with
  | ok c s => cases c <;> rfl
  | exc x s => rfl
  | stuck => rfl
section
variable {K : PySem.W.Frag} {cl φ : List Addr} {F H : Hp} {σ : L2.St} {W : WX}
theorem Out.asD {r : R Bool} {Q : V → Hp → Prop} (h : Out K cl φ F H σ W (rlE K φ) (asD r) Q) : Out K cl φ F H σ W rlBl r Q := by
  cases r with
  | ok b s => exact fun v H' F' e s' q => h v H' F' e s' (by rw [show v = .bl b from q]; exact .bl b)
  | exc x s => exact h
  | stuck => exact h
theorem Out.asB {r : R D} {Q : Bool → Hp → Prop} (h : Out K cl φ F H σ W rlT (Eng.asB r) Q) : Out K cl φ F H σ W (rlE K φ) r (fun x H1 => ∃ c, x = .bl c ∧ Q c H1) := by
  cases r with
  | ok d s =>
    cases d <;> first | exact h.elim | skip
    intro v H' F' e s' q
    cases q
    exact ⟨_, rfl, h _ _ _ e s' rfl⟩
  | exc x s => exact h
  | stuck => exact h
theorem Out.asI {r : R D} {Q : Int → Hp → Prop} (h : Out K cl φ F H σ W (fun _ _ a b => a = b) (Eng.asI r) Q) : Out K cl φ F H σ W (rlE K φ) r (fun x H1 => ∃ c, x = .int c ∧ Q c H1) := by
  cases r with
  | ok d s =>
    cases d <;> first | exact h.elim | skip
    intro v H' F' e s' q
    cases q
    exact ⟨_, rfl, h _ _ _ e s' rfl⟩
  | exc x s => exact h
  | stuck => exact h
/-- the two ways behind a test -/
theorem Out.fold {α β : Type} {P : Addr → Prop} {env : Env} {st : Sto} {rl : Hp → Hp → α → β → Prop} {b : R Bool} {f g : Sto → R β} {Q : α → Hp → Prop} {Q' : Bool → Hp → Prop} (h : Out K cl φ F H σ W rl (fold2 b f g) Q) (r : Rel K P φ F env st σ H)
    (k1 : ∀ H1 F1 st1, Rel K P φ F1 env st1 σ H1 → Ext (Dm H) φ F H F1 H1 → Out K cl φ F1 H1 σ W rl (f st1) Q → Q' true H1) (k2 : ∀ H1 F1 st1, Rel K P φ F1 env st1 σ H1 → Ext (Dm H) φ F H F1 H1 → Out K cl φ F1 H1 σ W rl (g st1) Q → Q' false H1) : Out K cl φ F H σ W rlT b Q' :=
  Out.go (rl := fun _ => rlT) h r fun v H1 F1 d st1 r1 e1 q _ o => by
    have q : v = d := q
    subst q
    cases v with
    | true => exact k1 H1 F1 st1 r1 e1 o
    | false => exact k2 H1 F1 st1 r1 e1 o
end
section
variable {X : Cx} {Γ : Gam} {cl : List Addr} {n : Nat} {call : Nat → List D → Sto → R D} {W : WX} {x y z : Expr} {a b c : E} {pos : Pos}
/-! ### names, constants -/
theorem se_k {v : Const} {k : Nat} {d : D} (h : constB d v = true) : PE X (.Constant v k pos) (tE X.K cl call W (.k d)) := by
  cases d <;> cases v <;> first | (simp [constB] at h; done) | skip
  · exact PE.of pe_non fun σ H Q ⟨P, φ, F, env, st, r, o⟩ => o.here r.sok .non
  · rw [show _ = _ from of_decide_eq_true h]
    exact PE.of pe_bl fun σ H Q ⟨P, φ, F, env, st, r, o⟩ => o.here r.sok (.bl _)
  · rw [show _ = _ from of_decide_eq_true h]
    exact PE.of pe_int fun σ H Q ⟨P, φ, F, env, st, r, o⟩ => o.here r.sok (.int _)
  · rw [show _ = _ from of_decide_eq_true h]
    exact PE.of pe_str fun σ H Q ⟨P, φ, F, env, st, r, o⟩ => o.here r.sok (.str _)
theorem nm_parts (cx : Ctx X Γ cl n call) {i : Nat} {x : Str} (h : Γ.nm i x = true) : X.N[i]? = some x ∧ Vis X.env.scope x ∧ (x == ("__debug__" : Str)) = false ∧ (x == ("__classdict__" : Str)) = false := by
  unfold Gam.nm at h
  simp only [Bool.and_eq_true, Bool.not_eq_true', decide_eq_true_eq] at h
  obtain ⟨⟨⟨h1, h2⟩, h3⟩, h4⟩ := h
  exact ⟨by rw [cx.N]; exact h1, cx.vis h2, h3, h4⟩
theorem se_v (cx : Ctx X Γ cl n call) {i : Nat} {x : Str} (h : Γ.nm i x = true) : PE X (.Name x pos) (tE X.K cl call W (.v i)) := by
  obtain ⟨h1, h2, h3, h4⟩ := nm_parts cx h
  refine PE.of (pe_var h1 h2 h3 h4) fun σ H Q ⟨P, φ, F, env, st, r, o⟩ => ?_
  have s := r.sl i
  have o : Out X.K cl φ F H σ W (rlE X.K φ) (match sget env i with | .val d => .ok d st | _ => .stuck) Q := o
  cases e : sget env i with
  | un => rw [e] at o; exact o.elim
  | own ds => rw [e] at o; exact o.elim
  | val d =>
    rw [e] at s o
    obtain ⟨v, e1, rv⟩ := s
    exact ⟨v, e1, o.here r.sok rv⟩
theorem sb_v (cx : Ctx X Γ cl n call) {i : Nat} {x : Str} (h : Γ.nm i x = true) : PE X (.Name x pos) (tB X.K cl call W (.v i)) := by
  obtain ⟨h1, h2, h3, h4⟩ := nm_parts cx h
  refine PE.of (pe_var h1 h2 h3 h4) fun σ H Q ⟨P, φ, F, env, st, r, o⟩ => ?_
  have s := r.sl i
  have o : Out X.K cl φ F H σ W (rlB X.K φ) (match sget env i with | .val d => .ok d st | .own ds => .ok (.lst ds) st | .un => .stuck) Q := o
  cases e : sget env i with
  | un => rw [e] at o; exact o.elim
  | own ds =>
    rw [e] at s o
    obtain ⟨a, vs, e1, h5, h6, h7, h8, h9⟩ := s
    exact ⟨.ref a, e1, o.here r.sok (.inr ⟨a, vs, ds, rfl, rfl, h5, h9, h7⟩)⟩
  | val d =>
    rw [e] at s o
    obtain ⟨v, e1, rv⟩ := s
    exact ⟨v, e1, o.here r.sok (.inl rv)⟩
theorem rdB_ne {e : E} (h : ∀ i, e ≠ .v i) (env : Env) (s : Sto) (r : R D) : rdB e env s r = r := by
  cases e <;> first | rfl | exact absurd rfl (h _)
theorem sb_of {e : E} (h : ∀ i, e ≠ .v i) (he : PE X x (tE X.K cl call W e)) : PE X x (tB X.K cl call W e) :=
  PE.of he fun σ H Q ⟨P, φ, F, env, st, r, o⟩ => ⟨P, φ, F, env, st, r, by
    have o : Out X.K cl φ F H σ W (rlB X.K φ) (rdB e env st (evE call e env st)) Q := o
    rw [rdB_ne h] at o
    exact o.rel fun _ _ _ _ q => .inl q⟩
theorem se_g (cx : Ctx X Γ cl n call) {x : Str} {d : D} {y : Str} (h : Γ.isConst x d = true) : PE X (.Name x pos) (tE X.K cl call W (.g y d)) := by
  obtain ⟨h1, v, u, h2, h3, h4⟩ := cx.constG h
  obtain ⟨g1, g2, g3⟩ := cx.glo h1
  exact PE.of (pe_glob g1 h2 h3 g2) fun σ H Q ⟨P, φ, F, env, st, r, o⟩ => o.here r.sok (h4 φ F)
/-! ### operators -/
theorem se_bin {o : BOp} {op : Operator} (ho : bopB o op = true) (ha : PE X x (tB X.K cl call W a)) (hb : PE X y (tB X.K cl call W b)) : PE X (.BinOp x op y pos) (tE X.K cl call W (.bin o a b)) :=
  PE.of (pe_op (op_bin (cl := cl) ho) ha hb) fun σ H Q ⟨P, φ, F, env, st, r, o⟩ => ⟨P, φ, F, env, st, r, Out.go (rl := rlB X.K) o r fun v H1 F1 d st1 r1 e1 q1 _ o1 =>
    ⟨P, φ, F1, env, st1, r1, Out.go (rl := rlB X.K) o1 r1 fun v2 H2 F2 d2 st2 r2 e2 q2 _ o2 => ⟨φ, F2, st2, σ, W, d, d2, r2.sok, e2.repB q1, q2, o2⟩⟩⟩
theorem se_neg (ha : PE X x (tE X.K cl call W a)) : PE X (.UnaryOp .USub x pos) (tE X.K cl call W (.neg a)) :=
  PE.of (pe_un un_neg ha) fun σ H Q ⟨P, φ, F, env, st, r, o⟩ => ⟨P, φ, F, env, st, r, Out.asI (Out.go (rl := fun _ _ _ a b => a = b) (Q' := fun i H1 => Q (.int (-i)) H1) o r fun v H1 F1 d st1 r1 e1 q1 _ o1 => by
    have q1 : v = d := q1
    subst q1
    exact o1.here r1.sok (.int _))⟩
theorem se_not (ha : PT X x (tBl X.K cl call W a)) (he : PE X x (tE X.K cl call W a)) : PE X (.UnaryOp .Not x pos) (tE X.K cl call W (.not a)) :=
  PE.of (pe_not he) fun σ H Q ⟨P, φ, F, env, st, r, o⟩ => ⟨P, φ, F, env, st, r, Out.asB (Out.go (rl := fun _ => rlT) (Q' := fun b H1 => Q (.bl (!b)) H1) (Out.asD o) r fun v H1 F1 d st1 r1 e1 q1 _ o1 => by
    have q1 : v = d := q1
    subst q1
    exact o1.here r1.sok rfl)⟩
theorem st_not (ha : PT X x (tBl X.K cl call W a)) : PT X (.UnaryOp .Not x pos) (tBl X.K cl call W (.not a)) :=
  PT.of (pt_not ha) fun σ H Q ⟨P, φ, F, env, st, r, o⟩ => ⟨P, φ, F, env, st, r, Out.go (rl := fun _ => rlT) (show Out X.K cl φ F H σ W rlT (((asB (evE call a env st)).bind fun b s1 => .ok (!b) s1)) Q from by
    have e : asB (evE call (.not a) env st) = ((asB (evE call a env st)).bind fun b s1 => .ok (!b) s1) := asB_asD _
    rw [← e]; exact o) r fun v H1 F1 d st1 r1 e1 q1 _ o1 => by
    have q1 : v = d := q1
    subst q1
    exact o1.here r1.sok rfl⟩
/-! ### and, or -/
theorem se_and {ys : List Expr} {y : Expr} (ha : PE X x (tE X.K cl call W a)) (hb : PE X (.BoolOp .And (y :: ys) pos) (tE X.K cl call W b)) : PE X (.BoolOp .And (x :: y :: ys) pos) (tE X.K cl call W (.and a b)) :=
  PE.of (pe_and ha hb) fun σ H Q ⟨P, φ, F, env, st, r, o⟩ => ⟨P, φ, F, env, st, r, Out.asB (Out.fold o r (fun H1 F1 st1 r1 e1 o1 => iteT ⟨P, φ, F1, env, st1, r1, o1⟩) (fun H1 F1 st1 r1 e1 o1 => iteF (o1.here r1.sok (.bl _))))⟩
theorem se_or {ys : List Expr} {y : Expr} (ha : PE X x (tE X.K cl call W a)) (hb : PE X (.BoolOp .Or (y :: ys) pos) (tE X.K cl call W b)) : PE X (.BoolOp .Or (x :: y :: ys) pos) (tE X.K cl call W (.or a b)) :=
  PE.of (pe_or ha hb) fun σ H Q ⟨P, φ, F, env, st, r, o⟩ => ⟨P, φ, F, env, st, r, Out.asB (Out.fold o r (fun H1 F1 st1 r1 e1 o1 => iteT (o1.here r1.sok (.bl _))) (fun H1 F1 st1 r1 e1 o1 => iteF ⟨P, φ, F1, env, st1, r1, o1⟩))⟩
theorem sw_and {ys : List Expr} {y : Expr} (ha : PT X x (tBl X.K cl call W a)) (hb : PW X (.BoolOp .And (y :: ys) pos) (tBl X.K cl call W b)) : PW X (.BoolOp .And (x :: y :: ys) pos) (tBl X.K cl call W (.and a b)) :=
  PW.of (pw_and ha hb) fun σ H Q ⟨P, φ, F, env, st, r, o⟩ => ⟨P, φ, F, env, st, r, Out.fold (f := fun s => asB (evE call b env s)) (g := fun s => asB (.ok (.bl false) s)) (by rw [← asB_fold]; exact o) r
    (fun H1 F1 st1 r1 e1 o1 => iteT ⟨P, φ, F1, env, st1, r1, o1⟩) (fun H1 F1 st1 r1 e1 o1 => iteF (Out.here (rl := rlT) (d := false) o1 r1.sok rfl))⟩
theorem sw_or {ys : List Expr} {y : Expr} (ha : PT X x (tBl X.K cl call W a)) (hb : PW X (.BoolOp .Or (y :: ys) pos) (tBl X.K cl call W b)) : PW X (.BoolOp .Or (x :: y :: ys) pos) (tBl X.K cl call W (.or a b)) :=
  PW.of (pw_or ha hb) fun σ H Q ⟨P, φ, F, env, st, r, o⟩ => ⟨P, φ, F, env, st, r, Out.fold (f := fun s => asB (.ok (.bl true) s)) (g := fun s => asB (evE call b env s)) (by rw [← asB_fold]; exact o) r
    (fun H1 F1 st1 r1 e1 o1 => iteT (Out.here (rl := rlT) (d := true) o1 r1.sok rfl)) (fun H1 F1 st1 r1 e1 o1 => iteF ⟨P, φ, F1, env, st1, r1, o1⟩)⟩
/-! ### comparisons -/
theorem cmp_run {o : COp} {σ : L2.St} {H : Hp} {Q : V → Hp → Prop} {P : Addr → Prop} {φ : List Addr} {F : Hp} {env : Env} {st : Sto} (r : Rel X.K P φ F env st σ H)
    (h : Out X.K cl φ F H σ W rlBl ((rdB a env st (evE call a env st)).bind fun x s1 => (rdB b env s1 (evE call b env s1)).bind fun y s2 => .of (cmpop o x y) s2) Q) :
    tOp (rOp2 X.K cl (fun _ => rlBl) (cmpop o)) (tB X.K cl call W a) (tB X.K cl call W b) σ H Q :=
  ⟨P, φ, F, env, st, r, Out.go (rl := rlB X.K) h r fun v H1 F1 d st1 r1 e1 q1 _ o1 =>
    ⟨P, φ, F1, env, st1, r1, Out.go (rl := rlB X.K) o1 r1 fun v2 H2 F2 d2 st2 r2 e2 q2 _ o2 => ⟨φ, F2, st2, σ, W, d, d2, r2.sok, e2.repB q1, q2, o2⟩⟩⟩
theorem se_cmp (cx : Ctx X Γ cl n call) {o : COp} {op : CmpOp} (ho : copB o op = true) (hm : noMark y = true) (ha : PE X x (tB X.K cl call W a)) (hb : PE X y (tB X.K cl call W b)) : PE X (.Compare x [op] [y] pos) (tE X.K cl call W (.cmp o a b)) :=
  PE.of (pe_cmpR (op_cmp (cl := cl) cx.uts ho) ha hb (by cases y <;> first | rfl | cases hm)) fun σ H Q ⟨P, φ, F, env, st, r, o⟩ => cmp_run r (Out.asD o)
theorem blT {r : R Bool} {K : PySem.W.Frag} {φ : List Addr} {F H : Hp} {σ : L2.St} {Q : Bool → Hp → Prop} (h : Out K cl φ F H σ W rlT r Q) : Out K cl φ F H σ W rlBl r (fun x H1 => ∃ k, x = .bl k ∧ Q k H1) := by
  cases r with
  | ok b s => exact fun v H' F' e s' q => ⟨b, q, h _ _ _ e s' rfl⟩
  | exc x s => exact h
  | stuck => exact h
theorem st_cmp (cx : Ctx X Γ cl n call) {o : COp} {op : CmpOp} (ho : copB o op = true) (hm : noMark y = true) (ha : PE X x (tB X.K cl call W a)) (hb : PE X y (tB X.K cl call W b)) : PT X (.Compare x [op] [y] pos) (tBl X.K cl call W (.cmp o a b)) :=
  PT.of (pt_cmpR (op_cmp (cl := cl) cx.uts ho) ha hb (by cases y <;> first | rfl | cases hm)) fun σ H Q ⟨P, φ, F, env, st, r, o⟩ => cmp_run r (blT (by
    have o : Out X.K cl φ F H σ W rlT (asB (evE call (.cmp _ a b) env st)) Q := o
    rw [show asB (evE call (.cmp _ a b) env st) = _ from asB_asD _] at o; exact o))
theorem chain_run {o o' : COp} {σ : L2.St} {H : Hp} {Q : V → Hp → Prop} {P : Addr → Prop} {φ : List Addr} {F : Hp} {env : Env} {st : Sto} (r : Rel X.K P φ F env st σ H)
    (h : Out X.K cl φ F H σ W rlBl ((rdB a env st (evE call a env st)).bind fun x s1 => (rdB b env s1 (evE call b env s1)).bind fun y s2 => fold2 (.of (cmpop o x y) s2)
      (fun s3 => (rdB c env s3 (evE call c env s3)).bind fun z s4 => .of (cmpop o' y z) s4) (fun s3 => .ok false s3)) Q) :
    tChain (rOp2 X.K cl (fun _ => rlBl) (cmpop o)) (rOp2 X.K cl (fun _ => rlBl) (cmpop o')) (tB X.K cl call W a) (tB X.K cl call W b) (tB X.K cl call W c) σ H Q :=
  ⟨P, φ, F, env, st, r, Out.go (rl := rlB X.K) h r fun v H1 F1 d st1 r1 e1 q1 _ o1 =>
    ⟨P, φ, F1, env, st1, r1, Out.go (rl := rlB X.K) o1 r1 fun v2 H2 F2 d2 st2 r2 e2 q2 _ o2 => ⟨φ, F2, st2, σ, W, d, d2, r2.sok, e2.repB q1, q2,
      blT (Out.fold o2 r2 (fun H3 F3 st3 r3 e3 o3 => iteT ⟨P, φ, F3, env, st3, r3, Out.go (rl := rlB X.K) o3 r3 fun v4 H4 F4 d4 st4 r4 e4 q4 _ o4 => ⟨φ, F4, st4, σ, W, d2, d4, r4.sok, e4.repB (e3.repB q2), q4, o4⟩⟩)
        (fun H3 F3 st3 r3 e3 o3 => iteF (o3.here r3.sok rfl)))⟩⟩⟩
theorem lastMk {op op' : CmpOp} (hm : noMark z = true) : lastMarks [op, op'] [y, z] = false := by
  show behindInMarks op' z = false
  cases z <;> first | rfl | cases hm
theorem se_chain (cx : Ctx X Γ cl n call) {o o' : COp} {op op' : CmpOp} (ho : copB o op = true) (ho' : copB o' op' = true) (hm : noMark z = true) (ha : PE X x (tB X.K cl call W a)) (hb : PE X y (tB X.K cl call W b)) (hc : PE X z (tB X.K cl call W c)) :
    PE X (.Compare x [op, op'] [y, z] pos) (tE X.K cl call W (.chain o o' a b c)) :=
  PE.of (pe_chain (op_cmp (cl := cl) cx.uts ho) (op_cmp (cl := cl) cx.uts ho') ha hb hc (lastMk hm)) fun σ H Q ⟨P, φ, F, env, st, r, o⟩ => chain_run r (Out.asD o)
theorem st_chain (cx : Ctx X Γ cl n call) {o o' : COp} {op op' : CmpOp} (ho : copB o op = true) (ho' : copB o' op' = true) (hm : noMark z = true) (ha : PE X x (tB X.K cl call W a)) (hb : PE X y (tB X.K cl call W b)) (hc : PE X z (tB X.K cl call W c)) :
    PT X (.Compare x [op, op'] [y, z] pos) (tBl X.K cl call W (.chain o o' a b c)) :=
  PT.of (pt_chain (op_cmp (cl := cl) cx.uts ho) (op_cmp (cl := cl) cx.uts ho') ha hb hc (lastMk hm)) fun σ H Q ⟨P, φ, F, env, st, r, o⟩ => chain_run r (blT (by
    have o : Out X.K cl φ F H σ W rlT (asB (evE call (.chain _ _ a b c) env st)) Q := o
    rw [show asB (evE call (.chain _ _ a b c) env st) = _ from asB_asD _] at o; exact o))
/-! ### one of two -/
theorem se_ite (hc : PT X z (tBl X.K cl call W c)) (ha : PE X x (tE X.K cl call W a)) (hb : PE X y (tE X.K cl call W b)) : PE X (.IfExp z x y pos) (tE X.K cl call W (.ite c a b)) :=
  PE.of (pe_ifExp hc ha hb) fun σ H Q ⟨P, φ, F, env, st, r, o⟩ => ⟨P, φ, F, env, st, r, Out.fold o r (fun H1 F1 st1 r1 e1 o1 => iteT ⟨P, φ, F1, env, st1, r1, o1⟩) (fun H1 F1 st1 r1 e1 o1 => iteF ⟨P, φ, F1, env, st1, r1, o1⟩)⟩
def tIfT (t ta tb : TT) : TT := fun σ H Q => t σ H fun c H1 => if c = true then ta σ H1 Q else tb σ H1 Q
theorem pt_ifExp {c a b : Expr} {tc ta tb : TT} (hc : PT X c tc) (ha : PT X a ta) (hb : PT X b tb) : PT X (.IfExp c a b pos) (tIfT tc ta tb) := by
  refine ⟨fun pins s σ H Q I h => ?_⟩
  refine isTrue_IfExp (thn (hc.run pins s σ H _ I h) fun d s1 ⟨H1, I1, q1⟩ => ?_)
  cases d with
  | true => exact ha.run pins s1 σ H1 Q I1 q1
  | false => exact hb.run pins s1 σ H1 Q I1 q1
theorem st_ite (hc : PT X z (tBl X.K cl call W c)) (ha : PT X x (tBl X.K cl call W a)) (hb : PT X y (tBl X.K cl call W b)) : PT X (.IfExp z x y pos) (tBl X.K cl call W (.ite c a b)) :=
  PT.of (pt_ifExp hc ha hb) fun σ H Q ⟨P, φ, F, env, st, r, o⟩ => ⟨P, φ, F, env, st, r, Out.fold (f := fun s => asB (evE call a env s)) (g := fun s => asB (evE call b env s)) (by rw [← asB_fold]; exact o) r
    (fun H1 F1 st1 r1 e1 o1 => iteT ⟨P, φ, F1, env, st1, r1, o1⟩) (fun H1 F1 st1 r1 e1 o1 => iteF ⟨P, φ, F1, env, st1, r1, o1⟩)⟩
/-- a test of another form: its value -/
theorem st_gen (he : PE X x (tE X.K cl call W a)) (h : ∀ whole, isTrue x X.env whole = (do let v ← whole; standAt x.pos; holding [v] (truthy v))) : PT X x (tBl X.K cl call W a) :=
  PT.of (pt_val he h) fun σ H Q ⟨P, φ, F, env, st, r, o⟩ => ⟨P, φ, F, env, st, r, Out.asB o⟩
end
end Eng
end

section
set_option autoImplicit false
namespace Eng
open PySem PySem.Spec PyProof.Rows L2
section
variable {X : Cx} {Γ : Gam} {cl : List Addr} {n : Nat} {call : Nat → List D → Sto → R D} {W : WX} {x y z : Expr} {xs : List Expr} {a b c : E} {es : Es} {pos p : Pos}
/-! ### argument lists -/
theorem sa_nil : PA X [] (tEs X.K cl call W .nil) := PA.of pa_nil fun σ H Q ⟨P, φ, F, env, st, r, o⟩ => Out.here (rl := rlA X.K φ) o r.sok .nil
theorem sa_cons (ha : PE X x (tE X.K cl call W a)) (hs : notStar x = true) (hr : PA X xs (tEs X.K cl call W es)) : PA X (x :: xs) (tEs X.K cl call W (.cons a es)) :=
  PA.of (pa_cons ha hr (starEach_of hs xs X.env)) fun σ H Q ⟨P, φ, F, env, st, r, o⟩ => ⟨P, φ, F, env, st, r, Out.go (rl := rlE X.K) o r fun v H1 F1 d st1 r1 e1 q1 _ o1 =>
    ⟨P, φ, F1, env, st1, r1, Out.go (rl := rlA X.K) o1 r1 fun v2 H2 F2 d2 st2 r2 e2 q2 _ o2 => Out.here (rl := rlA X.K φ) o2 r2.sok (.cons (q1.le e2.mono) q2)⟩⟩
theorem asItems_bind {α : Type} (r : R D) (f : List D → Sto → R α) : (asItems r).bind f = r.bind fun x s => (R.of (itemsD x) s).bind f := by
  cases r with
  | ok d s =>
    unfold asItems
    simp only [R.bind]
    cases itemsD d <;> rfl
  | exc x s => rfl
  | stuck => rfl
theorem items_of {K : PySem.W.Frag} {φ : List Addr} {F H : Hp} {v : V} {d : D} {ys : List D} (l : Le F H) (h : RepB K φ F H v d) (e : itemsD d = some ys) : ∃ p vs, v = V.ref p ∧ (SqT K H p vs ∨ SqL K H p vs) ∧ RepA K φ F vs ys := by
  cases d <;> first | (simp [itemsD] at e; done) | skip
  · cases e
    obtain ⟨a, vs, rfl, ha, ra⟩ := h.lst l
    exact ⟨a, vs, rfl, .inr (SqL.of ha), ra⟩
  · cases e
    obtain ⟨a, vs, rfl, ha, ra⟩ := h.tup l
    exact ⟨a, vs, rfl, .inl ha, ra⟩
theorem sa_star (ha : PE X x (tB X.K cl call W a)) (hr : PA X xs (tEs X.K cl call W es)) : PA X (.Starred x p :: xs) (tEs X.K cl call W (.star a es)) :=
  PA.of (StX.pa_star ha hr) fun σ H Q ⟨P, φ, F, env, st, r, o⟩ => ⟨P, φ, F, env, st, r, Out.go (rl := rlB X.K) (r := rdB a env st (evE call a env st)) (f := fun x s => (R.of (itemsD x) s).bind fun ys s1 => (evEs call es env s1).bind fun xs s2 => .ok (ys ++ xs) s2) (by
      have o : Out X.K cl φ F H σ W (rlA X.K φ) ((asItems (rdB a env st (evE call a env st))).bind fun ys s1 => (evEs call es env s1).bind fun xs s2 => .ok (ys ++ xs) s2) Q := o
      rw [asItems_bind] at o
      exact o) r fun v H1 F1 d st1 r1 e1 q1 _ o1 => by
    cases e : itemsD d with
    | none => rw [e] at o1; exact o1.elim
    | some ys =>
      rw [e] at o1
      obtain ⟨q, vs, rfl, h1, h2⟩ := items_of r1.sok.le q1 e
      exact ⟨q, vs, rfl, h1, P, φ, F1, env, st1, r1, Out.go (rl := rlA X.K) o1 r1 fun v2 H2 F2 d2 st2 r2 e2 q2 _ o2 => Out.here (rl := rlA X.K φ) o2 r2.sok ((h2.le e2.mono).app q2)⟩⟩
theorem ba_nil : PA X [] (tBs X.K cl call W .nil) := PA.of pa_nil fun σ H Q ⟨P, φ, F, env, st, r, o⟩ => Out.here (rl := rlBA X.K φ) o r.sok .nil
theorem repBA_step {K : PySem.W.Frag} {φ : List Addr} {F H F1 H1 : Hp} {v : V} {d : D} (e : Ext (Dm H) φ F H F1 H1) (h : RepB K φ F H v d) : RepB K φ F1 H1 v d := e.repB h
theorem ba_cons (ha : PE X x (tB X.K cl call W a)) (hs : notStar x = true) (hr : PA X xs (tBs X.K cl call W es)) : PA X (x :: xs) (tBs X.K cl call W (.cons a es)) :=
  PA.of (pa_cons ha hr (starEach_of hs xs X.env)) fun σ H Q ⟨P, φ, F, env, st, r, o⟩ => ⟨P, φ, F, env, st, r, Out.go (rl := rlB X.K) o r fun v H1 F1 d st1 r1 e1 q1 _ o1 =>
    ⟨P, φ, F1, env, st1, r1, Out.go (rl := rlBA X.K) o1 r1 fun v2 H2 F2 d2 st2 r2 e2 q2 _ o2 => Out.here (rl := rlBA X.K φ) o2 r2.sok (.cons (e2.repB q1) q2)⟩⟩
/-! ### displays -/
theorem sized_ok {rl2 : Hp → Hp → V → D → Prop} {K : PySem.W.Frag} {φ : List Addr} {F H : Hp} {σ : L2.St} {Q : V → Hp → Prop} {ds : List D} {s : Sto} (h : Out K cl φ F H σ W rl2 (sized ds s) Q) : ds.length ≤ sizeLine ∧ Out K cl φ F H σ W rl2 (.ok (.lst ds) s) Q := by
  unfold sized at h
  split at h
  · rename_i e; exact ⟨of_decide_eq_true e, h⟩
  · exact h.elim
theorem sizedT_ok {K : PySem.W.Frag} {φ : List Addr} {F H : Hp} {σ : L2.St} {Q : V → Hp → Prop} {ds : List D} {s : Sto} (h : Out K cl φ F H σ W (rlE K φ) (sizedT ds s) Q) : ds.length ≤ sizeLine ∧ Out K cl φ F H σ W (rlE K φ) (.ok (.tup ds) s) Q := by
  unfold sizedT at h
  split at h
  · rename_i e; exact ⟨of_decide_eq_true e, h⟩
  · exact h.elim
theorem se_tup {k : Nat} (ha : PA X xs (tEs X.K cl call W es)) : PE X (.Tuple xs k pos) (tE X.K cl call W (.tup es)) :=
  PE.of (pe_tup ha) fun σ H Q ⟨P, φ, F, env, st, r, o⟩ => ⟨P, φ, F, env, st, r, Out.go (rl := rlA X.K) o r fun v H1 F1 d st1 r1 e1 q1 _ o1 => by
    obtain ⟨h1, h2⟩ := sizedT_ok o1
    exact ⟨by rw [q1.len]; exact h1, fun p hp => h2.tup r1.sok q1 hp⟩⟩
theorem se_lst (ha : PA X xs (tEs X.K cl call W es)) : PE X (.List xs pos) (tE X.K cl call W (.lst es)) :=
  PE.of (pe_lst ha) fun σ H Q ⟨P, φ, F, env, st, r, o⟩ => ⟨P, φ, F, env, st, r, Out.go (rl := rlA X.K) o r fun v H1 F1 d st1 r1 e1 q1 _ o1 => by
    obtain ⟨h1, h2⟩ := sized_ok o1
    exact ⟨by rw [q1.len]; exact h1, fun p hp => h2.lst r1.sok q1 hp⟩⟩
/-! ### items, slices -/
theorem plain_of (h : plainB y = true) : PlainIx y := fun o i => by cases y <;> first | rfl | cases h
theorem se_ix (hp : plainB y = true) (ha : PE X x (tB X.K cl call W a)) (hb : PE X y (tB X.K cl call W b)) : PE X (.Subscript x y pos) (tE X.K cl call W (.ix a b)) :=
  PE.of (pe_ix (ix_ok (cl := cl)) ha hb (plain_of hp)) fun σ H Q ⟨P, φ, F, env, st, r, o⟩ => ⟨P, φ, F, env, st, r, Out.go (rl := rlB X.K) o r fun v H1 F1 d st1 r1 e1 q1 _ o1 =>
    ⟨P, φ, F1, env, st1, r1, Out.go (rl := rlB X.K) o1 r1 fun v2 H2 F2 d2 st2 r2 e2 q2 _ o2 => ⟨φ, F2, st2, σ, W, d, d2, r2.sok, e2.repB q1, q2, o2⟩⟩⟩
theorem so_nil : PO X none (tOp1 X.K cl call W .nil) := PO.of po_none fun σ H Q ⟨P, φ, F, env, st, r, o⟩ => Out.here (rl := rlO) o r.sok rfl
theorem so_some (ha : PE X x (tE X.K cl call W a)) : PO X (some x) (tOp1 X.K cl call W (.cons a es)) :=
  PO.of (po_some ha) fun σ H Q ⟨P, φ, F, env, st, r, o⟩ => ⟨P, φ, F, env, st, r, Out.asI (Out.go (rl := fun _ _ _ a b => a = b) (Q' := fun i H1 => Q (some i) H1) o r fun v H1 F1 d st1 r1 e1 q1 _ o1 => by
    have q1 : v = d := q1
    subst q1
    exact Out.here (rl := rlO) o1 r1.sok rfl)⟩
theorem se_sl {lo hi : Option Expr} {l h : Es} (ha : PE X x (tB X.K cl call W a)) (hl : PO X lo (tOp1 X.K cl call W l)) (hh : PO X hi (tOp1 X.K cl call W h)) : PE X (.Subscript x (.Slice lo hi none p) pos) (tE X.K cl call W (.sl a l h)) :=
  PE.of (pe_slice (sl_ok (cl := cl)) ha hl hh) fun σ H Q ⟨P, φ, F, env, st, r, o⟩ => ⟨P, φ, F, env, st, r, Out.go (rl := rlB X.K) o r fun v H1 F1 d st1 r1 e1 q1 _ o1 =>
    ⟨P, φ, F1, env, st1, r1, Out.go (rl := fun _ => rlO) o1 r1 fun v2 H2 F2 d2 st2 r2 e2 q2 _ o2 => ⟨P, φ, F2, env, st2, r2, Out.go (rl := fun _ => rlO) o2 r2 fun v3 H3 F3 d3 st3 r3 e3 q3 _ o3 => by
      have q2 : v2 = d2 := q2
      have q3 : v3 = d3 := q3
      subst q2 q3
      exact ⟨φ, F3, st3, σ, W, d, r3.sok, e3.repB (e2.repB q1), o3⟩⟩⟩⟩
theorem se_rev {k : Nat} {p1 p2 p3 : Pos} (ha : PE X x (tB X.K cl call W a)) : PE X (.Subscript x (.Slice none none (some (.UnaryOp .USub (.Constant (.int 1) k p1) p2)) p3) pos) (tE X.K cl call W (.rev a)) :=
  PE.of (pe_back ha) fun σ H Q ⟨P, φ, F, env, st, r, o⟩ => ⟨P, φ, F, env, st, r, Out.go (rl := rlB X.K) o r fun v H1 F1 d st1 r1 e1 q1 _ o1 => by
    have hh := o1.of
    clear o1
    obtain ⟨d', e, o1⟩ := hh
    cases d <;> first | (simp [revop] at e; done) | skip
    · cases e
      obtain ⟨q, vs, rfl, ha, ra⟩ := q1.lst r1.sok.le
      exact ⟨q, vs, rfl, .inl ⟨SqL.of ha, fun p hp => o1.lst r1.sok ra.rev hp⟩⟩
    · cases e
      obtain ⟨q, vs, rfl, ha, ra⟩ := q1.tup r1.sok.le
      exact ⟨q, vs, rfl, .inr ⟨ha, fun p hp => o1.tup r1.sok ra.rev hp⟩⟩⟩
theorem se_stp {l t : Expr} {p2 : Pos} {lo m : E} (ha : PE X x (tB X.K cl call W a)) (hl : PE X l (tE X.K cl call W lo)) (hm : PE X t (tE X.K cl call W m)) : PE X (.Subscript x (.Slice (some l) none (some t) p2) pos) (tE X.K cl call W (.stp a lo m)) := by
  refine PE.of (pe_stp ha (po_some hl) (po_some hm)) fun σ H Q ⟨P, φ, F, env, st, r, o⟩ => ⟨P, φ, F, env, st, r, Out.go (rl := rlB X.K) o r fun v H1 F1 d st1 r1 e1 q1 _ o1 => ?_⟩
  refine ⟨P, φ, F1, env, st1, r1, Out.asI (Out.go (rl := fun _ _ _ a b => a = b) (Q' := fun i H1 => _) o1 r1 fun v2 H2 F2 d2 st2 r2 e2 q2 _ o2 => ?_)⟩
  have q2 : v2 = d2 := q2
  subst q2
  refine ⟨P, φ, F2, env, st2, r2, Out.asI (Out.go (rl := fun _ _ _ a b => a = b) (Q' := fun i H1 => _) o2 r2 fun v3 H3 F3 d3 st3 r3 e3 q3 _ o3 => ?_)⟩
  have q3 : v3 = d3 := q3
  subst q3
  have q4 := e3.repB (e2.repB q1)
  have hh := o3.of
  clear o3
  obtain ⟨d', e, o3⟩ := hh
  cases d <;> first | (simp [stpop] at e; done) | skip
  simp only [stpop] at e
  split at e
  · rename_i hb
    cases e
    simp only [Bool.and_eq_true, decide_eq_true_eq] at hb
    obtain ⟨⟨⟨b1, b2⟩, b3⟩, b4⟩ := hb
    obtain ⟨q, vs, rfl, ha, ra⟩ := q4.tup r3.sok.le
    refine ⟨q, vs, v2.toNat, v3.toNat, rfl, by congr 1; omega, by congr 1; omega, by omega, ha, fun hw => ?_, fun p hp => o3.tup r3.sok (ra.stp v2.toNat v3.toNat) hp⟩
    rw [stp_whole (by rw [← ra.len]; exact hw)] at o3
    rcases q4 with q4 | ⟨_, _, _, _, q4, _⟩
    · exact o3.here r3.sok q4
    · cases q4
  · cases e
theorem se_cnt {z : Str} {zp ap : Pos} {nm : Str} (hx : nm = "count") (hl : (ap.endLine == pos.line) = true) (hy : notStar y = true) (ha : PE X (.Name z zp) (tB X.K cl call W a)) (hb : PE X y (tE X.K cl call W b)) :
    PE X (.Call (.Attribute (.Name z zp) nm ap) [y] [] pos) (tE X.K cl call W (.cnt a b)) := by
  subst hx
  refine PE.of (pe_bm PySem.F.plainAttrs_list PySem.F.slot_list_count PySem.F.type_list_count mt_lcount ha (pa_cons hb pa_nil (starEach_of hy [] X.env)) rfl (by rw [starEach_of hy [] X.env] <;> rfl) hl (starEach_of hy [] X.env) rfl) fun σ H Q ⟨P, φ, F, env, st, r, o⟩ => ?_
  refine ⟨P, φ, F, env, st, r, Out.go (rl := rlB X.K) o r fun v H1 F1 d st1 r1 e1 q1 _ o1 => ?_⟩
  cases d with
  | lst ds =>
    obtain ⟨p, vs, rfl, hp, ra⟩ := q1.lst r1.sok.le
    refine ⟨.inl ⟨rfl, vs, SqL.of hp⟩, ?_⟩
    refine ⟨P, φ, F1, env, st1, r1, Out.go (rl := rlE X.K) o1 r1 fun v2 H2 F2 d2 st2 r2 e2 q2 _ o2 => ?_⟩
    have hh := o2.of
    clear o2
    obtain ⟨d', e, o2⟩ := hh
    cases d2 <;> first | (simp [cntop] at e; done) | skip
    simp only [cntop, Option.map_eq_some_iff] at e
    obtain ⟨ns, e3, rfl⟩ := e
    have := ra.ints e3
    subst this
    obtain ⟨p', vs', ep, hp', ra'⟩ := (e2.repB q1).lst r2.sok.le
    cases ep
    have := ra'.ints e3
    subst this
    cases q2
    exact ⟨p, ns, _, rfl, rfl, SqL.of hp', o2.here r2.sok (.int _)⟩
  | _ => exact o1.elim
/-! ### calls -/
theorem out_sig {K : PySem.W.Frag} {φ : List Addr} {F H : Hp} {σ : L2.St} {Q : V → Hp → Prop} {r : R D} (h : Out K cl φ F H σ W (rlE K φ) r Q) : Out K cl φ F H [] (fun c d _ H' => W c d σ H') (rlE K φ) r Q := h
theorem run_fnG {k : Nat} {f : Addr} {fd : FuncData} {ps : List Str} {sp : Sp} {E : XK} {pins : List (Addr × Obj)} {σ : L2.St} {H : Hp} {s : Shared} {Q : VK} {us : List Value} {vs : List V} (F : FnG X.prog X.w X.K X.mg X.base k f fd ps sp) (hr : Room (3 * k) X.A) (hg : X.A.guards = some []) (hb : Binds X.K fd ps [])
    (hx : PassesAt (L2.CX X.prog X.w) X σ E) (I : Inv X pins σ H s) (r : Vals vs us) (h : sp vs H Q E) : wpAny (model X.prog X.w) X.A (PySem.call (.ref f) us) (EP X pins σ Q) X.xe s := by
  have b := hb s us I.kIn (by rw [List.append_nil, ← r.length]; exact F.len _ _ _ _ h)
  rw [List.append_nil] at b
  have go := F.run X.A X.stack s H ⟨us, []⟩ us vs Q E hr hg I.env0 b r h
  refine wpAny_call (codeAny_mono go fun out s' q => ?_)
  match out, q with
  | .error e, q => exact hx pins H s e s' I q
  | .ok (.ret u), q => exact I.after q
  | .ok .next, q => exact q.elim
  | .ok .brk, q => exact q.elim
  | .ok .cont, q => exact q.elim
theorem pe_callG {p : Pos} {k : Nat} {f : Addr} {fd : FuncData} {ps : List Str} {sp : Sp} {x : Str} {e : Expr} {es : List Expr} {t : TA} {E : L2.St → XK} (F : FnG X.prog X.w X.K X.mg X.base k f fd ps sp) (hr : Room (3 * k) X.A) (hgd : X.A.guards = some []) (hg : Gl X x) (hm : X.mg x = some (.ref f))
    (hk : PySem.W.keepIn X.K (.ref f) = true) (hb : Binds X.K fd ps []) (hx : ∀ σ, PassesAt (L2.CX X.prog X.w) X σ (E σ)) (ha : PA X (e :: es) t) (hdb : (x == ("__debug__" : Str)) = false) (he : starEach (e :: es) X.env = (false, eval e X.env) :: starEach es X.env)
    (hpl : (backTo pos (starEach es X.env)).any (·.1) = false) : PE X (.Call (.Name x p) (e :: es) [] pos) (tCallS sp E t) :=
  ⟨fun pins s σ H Q I h => wpAny_Call_Name_kw (ld_glob I hg hm (PySem.W.callWith_K (h₀ := X.base) I.ok.mod.kin hk (thn (ha.run pos pins s σ H _ I h) fun us s1 ⟨vs, H1, I1, r, q⟩ => ⟨I1.kIn, run_fnG F hr hgd hb (hx σ) I1 r q⟩) he hpl) hdb)⟩
theorem args_two {M : Model} {A : Around} {E : Value → Shared → Prop} {s : Shared} {f : Value} {a b : Bool × Sem Value} {rest : List (Bool × Sem Value)} {Q : Args → Shared → Prop}
    (h : wpAny M A (spliced (a :: b :: rest)) (fun vs s' => Q ⟨vs, []⟩ s') E s) : wpAny M A (evalArgs f true (a :: b :: rest) []) Q E s := by
  obtain ⟨a1, a2⟩ := a
  cases a1
  · exact Calls.evalArgs_plain h
  · unfold evalArgs
    show wpAny M A (spliced ((true, a2) :: b :: rest) >>= _) Q E s
    refine wpAny_bind (wpAny_mono h (fun vs s' h' => ?_) fun _ _ x => x)
    refine wpAny_holding ?_
    exact wpAny_bind (wpAny_pure (wpAny_bind (wpAny_pure (wpAny_pure h'))))
theorem starEach_any (x : Expr) (xs : List Expr) (env : PySem.Env) : ∃ v, starEach (x :: xs) env = (!notStar x, v) :: starEach xs env := by
  cases x <;> exact ⟨_, rfl⟩
theorem backTo_two (pos : Pos) (a b : Bool × Sem Value) (l : List (Bool × Sem Value)) : ∃ a' b' l', backTo pos (a :: b :: l) = a' :: b' :: l' := ⟨_, _, _, rfl⟩
theorem backTo_any (pos : Pos) : ∀ l : List (Bool × Sem Value), (backTo pos l).any (·.1) = l.any (·.1)
  | [] => rfl
  | (true, _) :: l => rfl
  | (false, v) :: l => backTo_any pos l
theorem starEach_has (env : PySem.Env) : ∀ xs : List Expr, xs.all notStar = false → (starEach xs env).any (·.1) = true
  | [], h => by cases h
  | x :: xs, h => by
    obtain ⟨v, e⟩ := starEach_any x xs env
    rw [e, List.any_cons]
    rw [List.all_cons] at h
    cases q : notStar x with
    | false => rfl
    | true =>
      rw [q, Bool.true_and] at h
      show (false || _) = true
      rw [starEach_has env xs h] <;> rfl
/-- a call with starred arguments, two or more -/
theorem pe_callGS {p : Pos} {k : Nat} {f : Addr} {fd : FuncData} {ps : List Str} {sp : Sp} {x : Str} {e e' : Expr} {es : List Expr} {t : TA} {E : L2.St → XK} (F : FnG X.prog X.w X.K X.mg X.base k f fd ps sp) (hr : Room (3 * k) X.A) (hgd : X.A.guards = some []) (hg : Gl X x) (hm : X.mg x = some (.ref f))
    (hk : PySem.W.keepIn X.K (.ref f) = true) (hb : Binds X.K fd ps []) (hx : ∀ σ, PassesAt (L2.CX X.prog X.w) X σ (E σ)) (ha : PA X (e :: e' :: es) t) (hdb : (x == ("__debug__" : Str)) = false) (hst : (e :: e' :: es).all notStar = false) : PE X (.Call (.Name x p) (e :: e' :: es) [] pos) (tCallS sp E t) :=
  ⟨fun pins s σ H Q I h => wpAny_Call_Name_kw (ld_glob I hg hm (by
    have go := thn (ha.run pos pins s σ H _ I h) fun us s1 ⟨vs, H1, I1, r, q⟩ => (show X.base.objs.size ≤ X.base.objs.size ∧ (X.K.In s1.heap ∧ wpAny (model X.prog X.w) X.A (PySem.call (.ref f) us) (EP X pins σ Q) X.xe s1) from ⟨Nat.le_refl _, I1.kIn, run_fnG F hr hgd hb (hx σ) I1 r q⟩)
    obtain ⟨v1, e1⟩ := starEach_any e (e' :: es) X.env
    obtain ⟨v2, e2⟩ := starEach_any e' es X.env
    obtain ⟨a', b', l', e3⟩ := backTo_two pos (!notStar e, v1) (!notStar e', v2) (starEach es X.env)
    have hany : (backTo pos (starEach (e :: e' :: es) X.env)).any (·.1) = true := by rw [backTo_any, starEach_has X.env _ hst]
    rw [e1, e2, e3] at go hany ⊢
    exact PySem.W.ks_call hany (PySem.W.keeps_K hk) (args_two (wpAny_mono go (fun vs s1 q => q.2) fun _ _ z => z)))  hdb)⟩
theorem se_callS (cx : Ctx X Γ cl n call) (tk : Takes X W) {f : Nat} {x : Str} {u : Expr} {ys : List Expr} (hf : Γ.isFn x f = true) (hn : (y :: u :: ys).all notStar = false) (ha : PA X (y :: u :: ys) (tEs X.K cl call W es)) :
    PE X (.Call (.Name x p) (y :: u :: ys) [] pos) (tE X.K cl call W (.call f es)) := by
  obtain ⟨h1, h2⟩ := cx.fnG hf
  obtain ⟨g1, g2, g3⟩ := cx.glo h1
  obtain ⟨fa, fd, ps, m1, m2, m3, m4⟩ := cx.g.fns x f h2
  refine PE.of (pe_callGS m4 cx.room cx.gd g1 m1 m2 m3 (fun σ => passAt tk σ) ha g2 hn) fun σ H Q ⟨P, φ, F, env, st, r, o⟩ => ⟨P, φ, F, env, st, r, Out.go (rl := rlA X.K) o r fun v H1 F1 d st1 r1 e1 q1 _ o1 => ?_⟩
  exact ⟨φ, F1, st1, d, r1.sok, q1, out_sig o1⟩
theorem se_call (cx : Ctx X Γ cl n call) (tk : Takes X W) {f : Nat} {x : Str} {ys : List Expr} (hf : Γ.isFn x f = true) (hn : ys.all notStar = true) (hy : notStar y = true) (ha : PA X (y :: ys) (tEs X.K cl call W es)) :
    PE X (.Call (.Name x p) (y :: ys) [] pos) (tE X.K cl call W (.call f es)) := by
  obtain ⟨h1, h2⟩ := cx.fnG hf
  obtain ⟨g1, g2, g3⟩ := cx.glo h1
  obtain ⟨fa, fd, ps, m1, m2, m3, m4⟩ := cx.g.fns x f h2
  refine PE.of (pe_callG m4 cx.room cx.gd g1 m1 m2 m3 (fun σ => passAt tk σ) ha g2 (starEach_of hy ys X.env) (starAny hn pos X.env)) fun σ H Q ⟨P, φ, F, env, st, r, o⟩ => ⟨P, φ, F, env, st, r, Out.go (rl := rlA X.K) o r fun v H1 F1 d st1 r1 e1 q1 _ o1 => ?_⟩
  exact ⟨φ, F1, st1, d, r1.sok, q1, out_sig o1⟩
theorem bf_run {b : Bf} {σ : L2.St} {H : Hp} {Q : V → Hp → Prop} (h : tE X.K cl call W (.bf b es) σ H Q) : tCB (rOpN X.K cl (rlE X.K) (bfop b)) (tBs X.K cl call W es) σ H Q := by
  obtain ⟨P, φ, F, env, st, r, o⟩ := h
  exact ⟨P, φ, F, env, st, r, Out.go (rl := rlBA X.K) o r fun v H1 F1 d st1 r1 e1 q1 _ o1 => ⟨φ, F1, st1, σ, W, d, r1.sok, q1, o1⟩⟩
theorem se_bf (cx : Ctx X Γ cl n call) {b : Bf} {x : Str} {ys : List Expr} (hx : x = bfN b) (hf : Γ.isFree x = true) (hn : ys.all notStar = true) (hy : notStar y = true) (ha : PA X (y :: ys) (tBs X.K cl call W es)) :
    PE X (.Call (.Name x p) (y :: ys) [] pos) (tE X.K cl call W (.bf b es)) := by
  obtain ⟨h1, h2⟩ := cx.freeG hf
  obtain ⟨g1, g2, g3⟩ := cx.glo h1
  have hb := bf_boot b
  rw [← hx] at hb
  have ok := bf_ok (cl := cl) cx.calm cx.uts cx.gd b
  cases b with
  | tuple => exact PE.of (pe_callTy ok g1 h2 hb ha g3 g2 (starEach_of hy ys X.env) (starAny hn pos X.env)) fun σ H Q h => bf_run h
  | list => exact PE.of (pe_callTy ok g1 h2 hb ha g3 g2 (starEach_of hy ys X.env) (starAny hn pos X.env)) fun σ H Q h => bf_run h
  | int => exact PE.of (pe_callTy ok g1 h2 hb ha g3 g2 (starEach_of hy ys X.env) (starAny hn pos X.env)) fun σ H Q h => bf_run h
  | str => exact PE.of (pe_callTy ok g1 h2 hb ha g3 g2 (starEach_of hy ys X.env) (starAny hn pos X.env)) fun σ H Q h => bf_run h
  | _ => exact PE.of (pe_callB ok g1 h2 hb ha g3 g2 (starEach_of hy ys X.env) (starAny hn pos X.env)) fun σ H Q h => bf_run h
theorem ty_boot : ∀ t : Ty, bootBuiltins (tyN t) = some (.type (tyS t)) := fun t => by cases t <;> decide +kernel
theorem kit_all : ∀ t : Ty, kitB "int" (tyS t) = isIop t (.int 0) ∧ kitB "bool" (tyS t) = isIop t (.bl true) ∧ kitB "NoneType" (tyS t) = isIop t .non ∧ kitB "str" (tyS t) = isIop t (.str "") ∧ kitB "list" (tyS t) = isIop t (.lst []) ∧ kitB "tuple" (tyS t) = isIop t (.tup []) := fun t => by
  cases t <;> decide +kernel
theorem isI_ty {t : Ty} {K : PySem.W.Frag} {φ : List Addr} {F H : Hp} {v : V} {d : D} {b : Bool} (l : Le F H) (h : RepB K φ F H v d) (e : isIop t d = some b) : ∃ u, TyX K H v u ∧ PySem.W.kitOne K u (.type (tyS t)) = some b := by
  obtain ⟨k1, k2, k3, k4, k5, k6⟩ := kit_all t
  cases d with
  | non => have := h.non; subst this; exact ⟨_, .base .non, kit_ty (k3.trans (by cases t <;> exact e))⟩
  | bl x => have := h.bl; subst this; exact ⟨_, .base (.bl _), kit_ty (k2.trans (by cases t <;> exact e))⟩
  | int x => have := h.int; subst this; exact ⟨_, .base (.int _), kit_ty (k1.trans (by cases t <;> exact e))⟩
  | str x => have := h.str; subst this; exact ⟨_, .base (.str _), kit_ty (k4.trans (by cases t <;> exact e))⟩
  | lst x =>
    obtain ⟨a, vs, rfl, ha, ra⟩ := h.lst l
    exact ⟨_, .base (.lst ha), kit_ty (k5.trans (by cases t <;> exact e))⟩
  | tup x =>
    obtain ⟨a, vs, rfl, ha, ra⟩ := h.tup l
    rcases ha with (ha | ⟨o, ha⟩) | ⟨o, its, m, h1, h2, h3⟩
    · exact ⟨_, .base (.tup ha), kit_ty (k6.trans (by cases t <;> exact e))⟩
    · exact ⟨_, .fTuple ha, kit_ty (k6.trans (by cases t <;> exact e))⟩
    · exact ⟨_, .kTuple h1 h2, kit_ty (k6.trans (by cases t <;> exact e))⟩
  | _ => cases t <;> cases e
theorem se_isI (cx : Ctx X Γ cl n call) {t : Ty} {x z : Str} {q : Pos} (hx : x = "isinstance") (hf : Γ.isFree x = true) (hz : z = tyN t) (hg : Γ.isFree z = true) (hy : notStar y = true) (ha : PE X y (tB X.K cl call W a)) :
    PE X (.Call (.Name x p) [y, .Name z q] [] pos) (tE X.K cl call W (.isI a t)) := by
  obtain ⟨h1, h2⟩ := cx.freeG hf
  obtain ⟨g1, g2, g3⟩ := cx.glo h1
  obtain ⟨i1, i2⟩ := cx.freeG hg
  obtain ⟨j1, j2, j3⟩ := cx.glo i1
  have hz2 : bootBuiltins z = some (.type (tyS t)) := by rw [hz]; exact ty_boot t
  have hb : bootBuiltins x = some (.builtin "isinstance") := by rw [hx]; decide +kernel
  have pz : PE X (.Name z q) (tC (.ty (tyS t))) := pe_bltn j1 i2 hz2 rfl j3 j2
  refine PE.of (pe_callB call_isi g1 h2 hb (pa_cons ha (pa_cons pz pa_nil (by rfl)) (starEach_of hy _ X.env)) g3 g2 (starEach_of hy _ X.env) (by rfl)) fun σ H Q ⟨P, φ, F, env, st, r, o⟩ => ?_
  refine ⟨P, φ, F, env, st, r, Out.go (rl := rlB X.K) (Out.asD o) r fun v H1 F1 d st1 r1 e1 q1 _ o1 => ?_⟩
  have hh := o1.of
  clear o1
  obtain ⟨b, e, o1⟩ := hh
  obtain ⟨u, t1, t2⟩ := isI_ty r1.sok.le q1 e
  exact ⟨v, .ty (tyS t), u, .type (tyS t), b, rfl, .ty _, t1, t2, o1.here r1.sok rfl⟩
theorem se_join (cx : Ctx X Γ cl n call) {x : Str} {ap : Pos} {v : Const} {k : Nat} {p2 : Pos} (hx : x = "join") (hl : (ap.endLine == pos.line) = true) (hy : notStar y = true) (ha : PE X (.Constant v k p2) (tB X.K cl call W a)) (hb : PE X y (tB X.K cl call W b)) :
    PE X (.Call (.Attribute (.Constant v k p2) x ap) [y] [] pos) (tE X.K cl call W (.join a b)) := by
  subst hx
  refine PE.of (pe_join ha hb (starEach_of hy [] X.env) rfl hl) fun σ H Q ⟨P, φ, F, env, st, r, o⟩ => ?_
  refine ⟨P, φ, F, env, st, r, Out.go (rl := rlB X.K) o r fun v H1 F1 d st1 r1 e1 q1 _ o1 => ?_⟩
  cases d with
  | str a =>
    refine ⟨⟨a, q1.str⟩, P, φ, F1, env, st1, r1, Out.go (rl := rlB X.K) o1 r1 fun v2 H2 F2 d2 st2 r2 e2 q2 _ o2 => ?_⟩
    have hh := o2.of
    clear o2
    obtain ⟨d', e, o2⟩ := hh
    simp only [joinop, Option.bind_eq_some_iff] at e
    obtain ⟨ds, e3, ys, e4, e5⟩ := e
    split at e5
    · rename_i hz
      cases e5
      obtain ⟨p, vs, rfl, hp, ra⟩ := items_of r2.sok.le q2 e3
      obtain rfl := RepA.strs ra e4
      refine ⟨a, p, ys, q1.str, rfl, hp.elim .inr .inl, of_decide_eq_true hz, ?_⟩
      rw [TL.join_eq]
      exact o2.here r2.sok (.str _)
    · cases e5
  | _ => exact o1.elim
theorem lists_of {K : PySem.W.Frag} {φ : List Addr} {F : Hp} : ∀ {vs : List V} {xs : List D} {ls : List (List D)}, RepA K φ F vs xs → listsD xs = some ls → ∃ wss, Paired (LsV F) vs wss ∧ RepA K φ F wss.flatten ls.flatten
  | _, _, _, .nil, e => by
    cases e
    exact ⟨[], .nil, .nil⟩
  | _, _, _, .cons (d := .lst ds) (ds := r) (.lst h t) tl, e => by
    simp only [listsD, Option.map_eq_some_iff] at e
    obtain ⟨ls, e1, rfl⟩ := e
    obtain ⟨wss, h1, h2⟩ := lists_of tl e1
    exact ⟨_ :: wss, .cons ⟨_, rfl, h⟩ h1, by rw [List.flatten_cons, List.flatten_cons]; exact t.app h2⟩
  | _, _, _, .cons .non _, e => by simp [listsD] at e
  | _, _, _, .cons (.bl _) _, e => by simp [listsD] at e
  | _, _, _, .cons (.int _) _, e => by simp [listsD] at e
  | _, _, _, .cons (.str _) _, e => by simp [listsD] at e
  | _, _, _, .cons (.tup _ _) _, e => by simp [listsD] at e
  | _, _, _, .cons (.ref _) _, e => by simp [listsD] at e
  | _, _, _, .cons (.scr _) _, e => by simp [listsD] at e
theorem lsv_le {F G : Hp} (l : Le F G) {vs : List V} {wss : List (List V)} (h : Paired (LsV F) vs wss) : Paired (LsV G) vs wss := by
  induction h with
  | nil => exact .nil
  | cons r t ih => exact .cons (r.elim fun b q => ⟨b, q.1, l _ _ q.2⟩) ih
theorem se_sumL (cx : Ctx X Γ cl n call) {x : Str} {p2 : Pos} (hx : x = "sum") (hf : Γ.isFree x = true) (hy : notStar y = true) (ha : PE X y (tB X.K cl call W a)) : PE X (.Call (.Name x p) [y, .List [] p2] [] pos) (tE X.K cl call W (.sumL a)) := by
  obtain ⟨h1, h2⟩ := cx.freeG hf
  obtain ⟨g1, g2, g3⟩ := cx.glo h1
  subst hx
  refine PE.of (pe_callB (cr_sumL cx.calm) g1 h2 (bf_boot .sum) (pa_cons ha (pa_cons (pe_lst pa_nil) pa_nil rfl) (starEach_of hy _ X.env)) g3 g2 (starEach_of hy _ X.env) rfl) fun σ H Q ⟨P, φ, F, env, st, r, o⟩ => ?_
  refine ⟨P, φ, F, env, st, r, Out.go (rl := rlB X.K) o r fun v H1 F1 d st1 r1 e1 q1 _ o1 => ?_⟩
  have hh := o1.of
  clear o1
  obtain ⟨d', e, o1⟩ := hh
  cases d <;> first | (simp [flatD] at e; done) | skip
  simp only [flatD, Option.bind_eq_some_iff] at e
  obtain ⟨ls, e2, e3⟩ := e
  split at e3
  · rename_i hz
    cases e3
    have hz := of_decide_eq_true hz
    obtain ⟨b, vs, rfl, hb, ra⟩ := q1.lst r1.sok.le
    obtain ⟨wss, w1, w2⟩ := lists_of ra e2
    refine ⟨Nat.zero_le _, fun e he => ?_⟩
    have k2 := r1.sok.newF (o := .lst []) he
    have lF := le_upd (o := .lst []) (r1.sok.fresh he)
    have o2 := o1.step (ext_newF (o := .lst []) r1.sok he)
    have nb : b ≠ e := fun z => by rw [z, he] at hb; cases hb
    refine ⟨b, e, vs, wss, rfl, fun z => nb z.symm, SqL.of (by rw [upd_ne nb]; exact hb), upd_same, lsv_le (lF.trans k2.le) w1, by rw [w2.len]; exact hz, fun z => ?_, fun q hq => o2.lst k2 (w2.le lF) hq⟩
    rw [z] at w2
    exact o2.here k2 (.lst upd_same (w2.le lF))
  · cases e3
end
end Eng
end

section
set_option autoImplicit false
namespace Eng
open PySem PySem.Spec PyProof.Rows L2

/-! ## nothing is raised within a comprehension -/
def NoX {α : Type} (r : R α) : Prop := ∀ x s, r ≠ .exc x s
theorem noX_calm {α : Type} (r : R α) : NoX (calm r) := fun x s h => by cases r <;> cases h
theorem noX_ntup (t : Option Env) (f : Env → R (Option D)) : NoX (ntup t f) := by
  cases t with
  | none => exact fun x s h => by cases h
  | some e => exact noX_calm _
theorem noX_ntupL (t : Option Env) (f : Env → R (List D)) : NoX (ntupL t f) := by
  cases t with
  | none => exact fun x s h => by cases h
  | some e => exact noX_calm _
theorem noX_bind {α β : Type} {r : R α} {f : α → Sto → R β} (h : NoX r) (k : ∀ a s, NoX (f a s)) : NoX (r.bind f) := by
  cases r with
  | ok a s => exact k a s
  | exc x s => exact absurd rfl (h x s)
  | stuck => exact fun x s h => by cases h
theorem noX_turns {f : D → Sto → R (Option D)} (h : ∀ d s, NoX (f d s)) : ∀ l s, NoX (turns f l s)
  | [], s => fun x s h => by cases h
  | d :: r, s => noX_bind (h d s) fun o s1 => noX_bind (noX_turns h r s1) fun ys s2 => by cases o <;> exact fun x s h => by cases h
theorem noX_turns2 {f : D → Sto → R (List D)} (h : ∀ d s, NoX (f d s)) : ∀ l s, NoX (turns2 f l s)
  | [], s => fun x s h => by cases h
  | d :: r, s => noX_bind (h d s) fun o s1 => noX_bind (noX_turns2 h r s1) fun ys s2 => fun x s h => by cases h
theorem calm_noX {α : Type} {r : R α} (h : NoX r) : calm r = r := by
  cases r with
  | ok a s => rfl
  | exc x s => exact absurd rfl (h x s)
  | stuck => rfl
theorem calm_bind {α β : Type} {r : R α} {f : α → Sto → R β} (k : ∀ a s, NoX (f a s)) : calm (r.bind f) = (calm r).bind f := by
  cases r with
  | ok a s => exact calm_noX (k a s)
  | exc x s => rfl
  | stuck => rfl
theorem turns_bind {α : Type} (f : D → Sto → R (Option D)) (d : D) (r : List D) (s : Sto) (k : List D → Sto → R α) :
    (turns f (d :: r) s).bind k = (f d s).bind fun o s1 => (turns f r s1).bind fun ys s2 => k (match o with | some y => y :: ys | none => ys) s2 := by
  show ((f d s).bind _).bind k = _
  rw [R.bind_bind]
  congr 1
  funext o s1
  rw [R.bind_bind]
  congr 1
  funext ys s2
  cases o <;> rfl
theorem turns2_bind {α : Type} (f : D → Sto → R (List D)) (d : D) (r : List D) (s : Sto) (k : List D → Sto → R α) :
    (turns2 f (d :: r) s).bind k = (f d s).bind fun xs s1 => (turns2 f r s1).bind fun ys s2 => k (xs ++ ys) s2 := by
  show ((f d s).bind _).bind k = _
  rw [R.bind_bind]
  congr 1
  funext o s1
  rw [R.bind_bind]
abbrev W0 : WX := fun _ _ _ _ => False
section
variable {α β γ δ : Type} {K : PySem.W.Frag} {cl φ : List Addr} {F H F1 H1 : Hp} {σ σ' : L2.St} {W : WX} {rl : Hp → Hp → α → β → Prop} {rl2 : Hp → Hp → γ → δ → Prop}
/-- as Out.bind, asked from an earlier state -/
theorem Out.bind2 {r : R β} {f : β → Sto → R δ} {Q : γ → Hp → Prop} (h : Out K cl φ F1 H1 σ W rl2 (r.bind f) Q) (e : Ext (Dm H1) φ F1 H1 F H) :
    Out K cl φ F H σ W rl r (fun v H2 => ∃ F2 d st2, r = .ok d st2 ∧ Ext (Dm H) φ F H F2 H2 ∧ Sok K φ F2 st2 H2 ∧ rl F2 H2 v d ∧ Out K cl φ F1 H1 σ W rl2 (f d st2) Q) := by
  cases r with
  | ok d st' => exact fun v H' F' e' s q => ⟨F', d, st', rfl, e', s, q, h⟩
  | exc x st' => exact fun c dx H' F' e' s q => h c dx H' F' (e.then e') s q
  | stuck => exact h
theorem calm_out {r : R β} {Q : α → Hp → Prop} (h : Out K cl φ F H σ W rl (calm r) Q) : Out K cl φ F H σ' W0 rl r Q := by
  cases r with
  | ok d st' => exact h
  | exc x st' => exact h.elim
  | stuck => exact h
end
/-! ## states beside the list that is made -/
section
variable {K : PySem.W.Frag} {cl φ : List Addr} {F H F1 H1 : Hp} {st : Sto} {L : Addr} {o : HO}
theorem Sok.write {xs : List V} (k : Sok K φ F st H) (h0 : H L = some (.lst xs)) (h1 : F L = none) (h2 : L ∉ φ) : Sok K φ F st (upd H L o) :=
  ⟨fun a x e => by
    have q : a ≠ L := ne_of_none e h1
    rw [upd_ne q]; exact k.le a x e, k.len, fun n a ds e1 e2 => by
    obtain ⟨e, vs, h3, h4⟩ := k.cell n a ds e1 e2
    have q : a ≠ L := fun z => h2 (by rw [← z]; exact List.mem_of_getElem? e1)
    exact ⟨e, vs, by rw [upd_ne q]; exact h3, h4⟩, k.nd, tabs_write h0 k.tab, k.nt⟩
theorem Sok.freeze (k : Sok K φ F st H) (t : NoTb o) (h0 : H L = some o) (h1 : F L = none) (h2 : L ∉ φ) : Sok K φ (upd F L o) st H :=
  ⟨fun a x e => by
    by_cases q : a = L
    · subst q; rw [upd_same] at e; cases e; exact h0
    · rw [upd_ne q] at e; exact k.le a x e, k.len, fun n a ds e1 e2 => by
    obtain ⟨e, vs, h3, h4⟩ := k.cell n a ds e1 e2
    have q : a ≠ L := fun z => h2 (by rw [← z]; exact List.mem_of_getElem? e1)
    exact ⟨by rw [upd_ne q]; exact e, vs, h3, h4.le (le_upd h1)⟩, k.nd, k.tab, nt_upd t k.nt⟩
theorem Ext.write {P : Addr → Prop} (e : Ext P φ F1 H1 F H) (ht : NoTb o) (h : ¬ P L) : Ext P φ F1 H1 F (upd H L o) :=
  ⟨fun a u p n i t => by
    have q : a ≠ L := fun z => h (by rw [← z]; exact p)
    rw [upd_ne q]; exact e.keep a u p n i t, e.frz, e.mono, fun a p => dm_upd ht (e.dom a p)⟩
theorem Ext.freeze {P : Addr → Prop} (e : Ext P φ F1 H1 F H) (h : ¬ P L) (h1 : F L = none) : Ext P φ F1 H1 (upd F L o) H :=
  ⟨e.keep, fun a p => by
    have q : a ≠ L := fun z => h (by rw [← z]; exact p)
    rw [upd_ne q]; exact e.frz a p, e.mono.trans (le_upd h1), e.dom⟩
end
abbrev DmX (H : Hp) (L : Addr) : Addr → Prop := fun a => Dm H a ∧ a ≠ L
theorem Rel.stepX {K : PySem.W.Frag} {P P1 : Addr → Prop} {φ : List Addr} {F H F1 H1 : Hp} {env : Env} {st st1 : Sto} {σ : L2.St} (r : Rel K P φ F env st σ H) (e : Ext P1 φ F H F1 H1) (k : Sok K φ F1 st1 H1) (hP : ∀ a, Dm H a → ¬ P a → P1 a) : Rel K P φ F1 env st1 σ H1 := by
  refine ⟨k, fun i => ?_, r.sep, r.len⟩
  have s := r.sl i
  revert s
  cases sget env i with
  | un => exact fun _ => trivial
  | val d =>
    intro s
    obtain ⟨v, e1, q⟩ := s
    exact ⟨v, e1, q.le e.mono⟩
  | own ds =>
    intro s
    obtain ⟨a, vs, e1, h1, h2, h3, h4, h5⟩ := s
    have hp := hP a (dm_lst h1) h4
    exact ⟨a, vs, e1, e.keep a _ hp h3 h1 noTb_lst, (e.frz a hp).trans h2, h3, h4, h5.le e.mono⟩
/-- a new address is none of the owned -/
theorem Rel.avoid {K : PySem.W.Frag} {P : Addr → Prop} {φ : List Addr} {F H : Hp} {env : Env} {st : Sto} {σ : L2.St} {L : Addr} (r : Rel K P φ F env st σ H) (h : H L = none) : Rel K (fun a => P a ∨ a = L) φ F env st σ H := by
  refine ⟨r.sok, fun i => ?_, r.sep, r.len⟩
  have s := r.sl i
  revert s
  cases sget env i with
  | un => exact fun _ => trivial
  | val d => exact fun s => s
  | own ds =>
    intro s
    obtain ⟨a, vs, e1, h1, h2, h3, h4, h5⟩ := s
    refine ⟨a, vs, e1, h1, h2, h3, fun z => ?_, h5⟩
    rcases z with z | z
    · exact h4 z
    · rw [z, h] at h1; cases h1
/-- an iterator's turn -/
theorem good_step {K : PySem.W.Frag} {φ : List Addr} {F0 F H : Hp} {J : L2.It} {items : List D} {st : Sto} {i : Nat} {d : D} (g : Good K φ F0 J items) (l : Le F0 F) (k : Sok K φ F st H) (h : items[i]? = some d) :
    J.go i H ∧ ∀ x H', J.yld i H x H' → ∃ F', Ext (Dm H) φ F H F' H' ∧ Sok K φ F' st H' ∧ Rep K φ F' x d := by
  obtain ⟨h1, h2⟩ := g.go i F H d l k.le h
  refine ⟨h1, fun x H' y => ?_⟩
  rcases h2 x H' y with ⟨e, r⟩ | ⟨T, vs, ds, hT, e1, e2, e3, r⟩
  · subst e
    exact ⟨F, .refl, k, r⟩
  · subst e1 e2 e3
    exact ⟨upd F T (.tup vs), ext_newF k hT, k.newF hT, .tup (SqT.of upd_same) (r.le (le_upd (k.fresh hT)))⟩
/-! ## an element's turn -/
abbrev rlOp (K : PySem.W.Frag) (φ : List Addr) : Hp → Hp → Option V → Option D → Prop := fun F _ a b => match a, b with
  | some v, some d => Rep K φ F v d
  | none, none => True
  | _, _ => False
section
variable {K : PySem.W.Frag} {cl φ : List Addr} {call : Nat → List D → Sto → R D} {W : WX}
theorem elem_run {rl2 : Hp → Hp → V → D → Prop} {P : Addr → Prop} {F1 H1 F5 H5 : Hp} {env : Env} {st : Sto} {σ σ3 : L2.St} {ifs : Es} {elt : E} {k : Option D → Sto → R D} {Q : V → Hp → Prop} {R1 : V → Hp → Prop} {R0 : Hp → Prop}
    (r : Rel K P φ F5 env st σ3 H5) (e : Ext (Dm H1) φ F1 H1 F5 H5) (h : Out K cl φ F1 H1 σ W rl2 ((calm (keepIf (evT call ifs env st) fun s => evE call elt env s)).bind k) Q)
    (k1 : ∀ y H7 F7 st7 d, Ext (Dm H5) φ F5 H5 F7 H7 → Sok K φ F7 st7 H7 → Rep K φ F7 y d → Out K cl φ F1 H1 σ W rl2 (k (some d) st7) Q → R1 y H7)
    (k0 : ∀ H6 F6 st6, Ext (Dm H5) φ F5 H5 F6 H6 → Sok K φ F6 st6 H6 → Out K cl φ F1 H1 σ W rl2 (k none st6) Q → R0 H6) :
    tTs K cl call W0 ifs σ3 H5 fun b H6 => if b = true then tE K cl call W0 elt σ3 H6 R1 else R0 H6 := by
  have h2 := calm_out (σ' := σ3) (Out.bind2 (rl := rlOp K φ) h e)
  refine ⟨P, φ, F5, env, st, r, Out.go (rl := fun _ => rlT) h2 r fun b H6 F6 d st6 r6 e6 q _ o => ?_⟩
  have q : b = d := q
  subst q
  cases b with
  | true =>
    refine iteT ⟨P, φ, F6, env, st6, r6, Out.go (rl := rlE K) o r6 fun y H7 F7 d st7 r7 e7 q7 _ o7 => ?_⟩
    obtain ⟨F8, d8, st8, e8, x8, s8, q8, o8⟩ := Out.here (rl := rlOp K φ) (v := some y) o7 r7.sok q7
    cases d8 with
    | none => exact q8.elim
    | some d8 => exact k1 y H7 F8 st8 d8 x8 s8 q8 o8
  | false =>
    refine iteF ?_
    obtain ⟨F8, d8, st8, e8, x8, s8, q8, o8⟩ := Out.here (rl := rlOp K φ) (v := (none : Option V)) o r6.sok trivial
    cases d8 with
    | some d8 => exact q8.elim
    | none => exact k0 H6 F8 st8 x8 s8 o8
end
/-! ## the list that is made -/
section
variable {K : PySem.W.Frag} {cl φ : List Addr} {σ : L2.St} {W : WX}
/-- where it stands: at L, made so far: ds -/
structure Mk (K : PySem.W.Frag) (φ : List Addr) (F1 H1 : Hp) (L : Addr) (F H : Hp) (st : Sto) (ds : List D) : Prop where
  sok : Sok K φ F st H
  ext : Ext (Dm H1) φ F1 H1 F H
  nF : F L = none
  at_ : ∃ acc, H L = some (.lst acc) ∧ RepA K φ F acc ds
variable {F1 H1 F H F2 H2 : Hp} {L : Addr} {st st2 : Sto} {ds : List D}
theorem Mk.step (m : Mk K φ F1 H1 L F H st ds) (hL : L ∉ φ) (e : Ext (Dm H) φ F H F2 H2) (k : Sok K φ F2 st2 H2) : Mk K φ F1 H1 L F2 H2 st2 ds := by
  obtain ⟨acc, h1, h2⟩ := m.at_
  have hd : Dm H L := dm_lst h1
  exact ⟨k, m.ext.then e, (e.frz L hd).trans m.nF, acc, e.keep L _ hd hL h1 noTb_lst, h2.le e.mono⟩
theorem Mk.app (m : Mk K φ F1 H1 L F H st ds) (hL : L ∉ φ) (hn : H1 L = none) {v : V} {d : D} (r : Rep K φ F v d) (hz : ds.length < sizeLine) :
    ∃ acc, H L = some (.lst acc) ∧ acc.length < sizeLine ∧ Mk K φ F1 H1 L F (upd H L (.lst (acc ++ [v]))) st (ds ++ [d]) := by
  obtain ⟨acc, h1, h2⟩ := m.at_
  exact ⟨acc, h1, by rw [h2.len]; exact hz, m.sok.write h1 m.nF hL, m.ext.write noTb_lst (dm_not hn), m.nF, _, upd_same, h2.app (.cons r .nil)⟩
theorem Mk.done (m : Mk K φ F1 H1 L F H st ds) (hL : L ∉ φ) (hn : H1 L = none) {Q : V → Hp → Prop} (h : Out K cl φ F1 H1 σ W (rlE K φ) (sized ds st) Q) : Q (.ref L) H := by
  obtain ⟨acc, h1, h2⟩ := m.at_
  obtain ⟨_, h⟩ := sized_ok h
  exact h _ _ _ (m.ext.freeze (o := .lst acc) (dm_not hn) m.nF) (m.sok.freeze noTb_lst h1 m.nF hL) (.lst upd_same (h2.le (le_upd m.nF)))
theorem sized_lt {rl2 : Hp → Hp → V → D → Prop} {r : R (List D)} (hx : NoX r) {Q : V → Hp → Prop} {d : D} (h : Out K cl φ F1 H1 σ W rl2 (r.bind fun ys s => sized (ds ++ d :: ys) s) Q) : ds.length < sizeLine := by
  cases r with
  | ok ys s =>
    have := (sized_ok h).1
    rw [List.length_append, List.length_cons] at this
    omega
  | exc x s => exact absurd rfl (hx x s)
  | stuck => exact h.elim
end
theorem drop_of {α : Type} {l : List α} {i : Nat} {d : α} (h : l[i]? = some d) : l.drop i = d :: l.drop (i + 1) := by
  obtain ⟨h1, h2⟩ := List.getElem?_eq_some_iff.mp h
  rw [List.drop_eq_getElem_cons h1, h2]
section
variable {K : PySem.W.Frag} {cl : List Addr} {call : Nat → List D → Sto → R D} {W : WX}
/-- how the made list is handed on -/
abbrev Fin (K : PySem.W.Frag) (cl φ : List Addr) (F H : Hp) (σ : L2.St) (W : WX) (rl2 : Hp → Hp → V → D → Prop) (Q : VK) : Prop :=
  ∀ (F1 H1 F' H2 : Hp) (L : Addr) (st' : Sto) (ds : List D), Ext (Dm H) φ F H F1 H1 → Mk K φ F1 H1 L F' H2 st' ds → L ∉ φ → H1 L = none → Out K cl φ F1 H1 σ W rl2 (sized ds st') Q → Q (.ref L) H2
theorem lc_run {rl2 : Hp → Hp → V → D → Prop} {elt : E} {tg : Tg} {it : IE} {ifs : Es} {own : List Nat} (ht : ∀ i ∈ slotsT tg, i ∈ own) {σ : L2.St} {H : Hp} {Q : VK} {P : Addr → Prop} {φ : List Addr} {F : Hp} {env : Env} {st : Sto}
    (r : Rel K P φ F env st σ H) (o : Out K cl φ F H σ W rl2 (evE call (.lc elt tg it ifs own) env st) Q) (fin : Fin K cl φ F H σ W rl2 Q) :
    tLc (tIt K cl call W it) (tgR K tg) (tTs K cl call W0 ifs) (tE K cl call W0 elt) own σ H Q := by
  refine ⟨P, φ, F, env, st, r, Out.go (rl := rlI K) o r fun J H1 F1 items st1 r1 e1 good _ o1 => fun L hL => ?_⟩
  have nL : L ∉ φ := r1.sok.notIn hL
  generalize hf : (fun (d : D) (s2 : Sto) => ntup (tgSet tg d (wipeE env own)) fun env' => keepIf (evT call ifs env' s2) fun s3 => evE call elt env' s3) = f at o1
  have nf : ∀ d s, NoX (f d s) := fun d s => by rw [← hf]; exact noX_ntup _ _
  have rA := r1.avoid hL
  refine ⟨fun i m H => i + m = items.length ∧ ∃ F' st' ds, Mk K φ F1 H1 L F' H st' ds ∧ Out K cl φ F1 H1 σ W rl2 ((turns f (items.drop i) st').bind fun ys s5 => sized (ds ++ ys) s5) Q,
    ⟨items.length, Nat.zero_add _, F1, st1, [], ⟨r1.sok.new hL, ext_new r1.sok hL, r1.sok.fresh hL, [], upd_same, .nil⟩, o1⟩, fun i m H2 hW => ?_⟩
  obtain ⟨em, F', st', ds, mk, o2⟩ := hW
  by_cases hi : i < items.length
  · have hd : items[i]? = some items[i] := List.getElem?_eq_getElem hi
    generalize items[i] = d at hd
    obtain ⟨g1, g2⟩ := good_step good mk.ext.mono mk.sok hd
    refine .inr ⟨g1, fun H' => ∃ F' st' ds, Mk K φ F1 H1 L F' H' st' ds ∧ Out K cl φ F1 H1 σ W rl2 ((turns f (items.drop (i + 1)) st').bind fun ys s5 => sized (ds ++ ys) s5) Q, fun H' q => ⟨m - 1, by omega, by omega, q⟩, fun x H' hy => ?_⟩
    obtain ⟨F3, e3, s3, rx⟩ := g2 x H' hy
    rw [drop_of hd, turns_bind] at o2
    have mk3 := mk.step nL e3 s3
    have r3 : Rel K (fun a => P a ∨ a = L) φ F3 env st' σ H' := rA.stepX mk3.ext s3 fun a h1 h2 => h1
    cases ht' : tgSet tg d (wipeE env own) with
    | none => rw [← hf] at o2; simp only [ht'] at o2; exact o2.elim
    | some env' =>
      obtain ⟨σ2, t1, t2, t3⟩ := tg_run (r3.wipe own) rx ht'
      refine t1 _ ⟨by rw [t3 own ht, wipe_wipe], ?_⟩
      have o3 : Out K cl φ F1 H1 σ W rl2 ((calm (keepIf (evT call ifs env' st') fun s3 => evE call elt env' s3)).bind fun o s1 => (turns f (items.drop (i + 1)) s1).bind fun ys s2 => sized (ds ++ (match o with | some y => y :: ys | none => ys)) s2) Q := by
        have e : f d st' = calm (keepIf (evT call ifs env' st') fun s3 => evE call elt env' s3) := by rw [← hf]; simp only [ht', ntup]
        rw [e] at o2
        exact o2
      refine elem_run t2 mk3.ext o3 (fun y H7 F7 st7 d7 e7 s7 q7 o7 => ?_) (fun H6 F6 st6 e6 s6 o6 => ⟨F6, st6, ds, mk3.step nL e6 s6, o6⟩)
      have hz := sized_lt (noX_turns nf _ _) o7
      obtain ⟨acc, h1, h2, h3⟩ := (mk3.step nL e7 s7).app nL hL q7 hz
      exact ⟨acc, h1, h2, F7, st7, ds ++ [d7], h3, by simpa using o7⟩
  · have e : i = items.length := by omega
    subst e
    refine .inl ⟨good.stop F' H2 mk.ext.mono mk.sok.le, fin F1 H1 F' H2 L st' ds e1 mk nL hL ?_⟩
    rw [List.drop_length] at o2
    have o2 : Out K cl φ F1 H1 σ W rl2 (sized (ds ++ []) st') Q := o2
    rw [List.append_nil] at o2
    exact o2
end
end Eng
end

section
set_option autoImplicit false
namespace Eng
open PySem PySem.Spec PyProof.Rows L2
section
variable {K : PySem.W.Frag} {cl : List Addr} {call : Nat → List D → Sto → R D} {W : WX}
theorem sized_some {rl2 : Hp → Hp → V → D → Prop} {φ : List Addr} {F1 H1 : Hp} {σ : L2.St} {r : R (List D)} {k : List D → Sto → R (List D)} (hx : NoX r) (hk : ∀ a s, NoX (k a s)) {ds : List D} {Q : V → Hp → Prop} {d : D}
    (h : Out K cl φ F1 H1 σ W rl2 (r.bind fun xs s1 => (k xs s1).bind fun ys s => sized (ds ++ (d :: xs ++ ys)) s) Q) : ds.length < sizeLine := by
  cases r with
  | ok xs s =>
    have h : Out K cl φ F1 H1 σ W rl2 ((k xs s).bind fun ys s => sized (ds ++ (d :: xs ++ ys)) s) Q := h
    have hk := hk xs s
    revert h hk
    cases k xs s with
    | ok ys s =>
      intro h hk
      have := (sized_ok h).1
      simp only [List.length_append, List.length_cons] at this
      omega
    | exc x s => exact fun _ hk => absurd rfl (hk x s)
    | stuck => exact fun h _ => h.elim
  | exc x s => exact absurd rfl (hx x s)
  | stuck => exact h.elim
theorem lc2_run {rl2 : Hp → Hp → V → D → Prop} {elt : E} {tg tg2 : Tg} {it it2 : IE} {ifs : Es} {own own2 : List Nat} (ht : ∀ i ∈ slotsT tg, i ∈ own) (ht2 : ∀ i ∈ slotsT tg2, i ∈ own2) {σ : L2.St} {H : Hp} {Q : VK} {P : Addr → Prop} {φ : List Addr} {F : Hp} {env : Env} {st : Sto}
    (r : Rel K P φ F env st σ H) (o : Out K cl φ F H σ W rl2 (evE call (.lc2 elt tg it tg2 it2 ifs own own2) env st) Q) (fin : Fin K cl φ F H σ W rl2 Q) :
    tLc2 (tIt K cl call W it) (tgR K tg) tYes (tIt K cl call W0 it2) (tgR K tg2) (tTs K cl call W0 ifs) (tE K cl call W0 elt) own own2 σ H Q := by
  refine ⟨P, φ, F, env, st, r, Out.go (rl := rlI K) o r fun J H1 F1 items st1 r1 e1 good _ o1 => fun L hL => ?_⟩
  have nL : L ∉ φ := r1.sok.notIn hL
  generalize hf : (fun (d : D) (s2 : Sto) => ntupL (tgSet tg d (wipeE env own)) fun env' => (evI call it2 env' s2).bind fun zs s3 =>
      turns (fun d2 s4 => ntup (tgSet tg2 d2 (wipeE env' own2)) fun env2 => keepIf (evT call ifs env2 s4) fun s5 => evE call elt env2 s5) zs s3) = f at o1
  have nf : ∀ d s, NoX (f d s) := fun d s => by rw [← hf]; exact noX_ntupL _ _
  have rA := r1.avoid hL
  refine ⟨fun i m H => i + m = items.length ∧ ∃ F' st' ds, Mk K φ F1 H1 L F' H st' ds ∧ Out K cl φ F1 H1 σ W rl2 ((turns2 f (items.drop i) st').bind fun ys s5 => sized (ds ++ ys) s5) Q,
    ⟨items.length, Nat.zero_add _, F1, st1, [], ⟨r1.sok.new hL, ext_new r1.sok hL, r1.sok.fresh hL, [], upd_same, .nil⟩, o1⟩, fun i m H2 hW => ?_⟩
  obtain ⟨em, F', st', ds, mk, o2⟩ := hW
  by_cases hi : i < items.length
  · have hd : items[i]? = some items[i] := List.getElem?_eq_getElem hi
    generalize items[i] = d at hd
    obtain ⟨g1, g2⟩ := good_step good mk.ext.mono mk.sok hd
    refine .inr ⟨g1, fun H' => ∃ F' st' ds, Mk K φ F1 H1 L F' H' st' ds ∧ Out K cl φ F1 H1 σ W rl2 ((turns2 f (items.drop (i + 1)) st').bind fun ys s5 => sized (ds ++ ys) s5) Q, fun H' q => ⟨m - 1, by omega, by omega, q⟩, fun x H' hy => ?_⟩
    obtain ⟨F3, e3, s3, rx⟩ := g2 x H' hy
    rw [drop_of hd, turns2_bind] at o2
    have mk3 := mk.step nL e3 s3
    have r3 : Rel K (fun a => P a ∨ a = L) φ F3 env st' σ H' := rA.stepX mk3.ext s3 fun a h1 h2 => h1
    cases ht' : tgSet tg d (wipeE env own) with
    | none => rw [← hf] at o2; simp only [ht'] at o2; exact o2.elim
    | some env' =>
      obtain ⟨σ2, t1, t2, t3⟩ := tg_run (r3.wipe own) rx ht'
      refine t1 _ ⟨by rw [t3 own ht, wipe_wipe], ?_⟩
      unfold tYes
      refine iteT ?_
      generalize hg : (fun (d2 : D) (s4 : Sto) => ntup (tgSet tg2 d2 (wipeE env' own2)) fun env2 => keepIf (evT call ifs env2 s4) fun s5 => evE call elt env2 s5) = g
      have ng : ∀ d s, NoX (g d s) := fun d s => by rw [← hg]; exact noX_ntup _ _
      have o3 : Out K cl φ F1 H1 σ W rl2 ((calm (evI call it2 env' st')).bind fun zs s3 => (turns g zs s3).bind fun xs s1 => (turns2 f (items.drop (i + 1)) s1).bind fun ys s2 => sized (ds ++ (xs ++ ys)) s2) Q := by
        have e : f d st' = (calm (evI call it2 env' st')).bind fun zs s3 => turns g zs s3 := by
          rw [← hf]
          simp only [ht', ntupL]
          rw [← hg]
          exact calm_bind fun zs s => noX_turns (fun d s => noX_ntup _ _) zs s
        rw [e, R.bind_bind] at o2
        exact o2
      refine ⟨_, φ, F3, env', st', t2, (calm_out (σ' := σ2) (Out.bind2 (rl := rlI K φ) o3 mk3.ext)).mono fun J2 H4 ⟨F4, zs, st4, _, e4, s4, good2, o4⟩ => ?_⟩
      have mk4 := mk3.step nL e4 s4
      have r4 : Rel K (fun a => P a ∨ a = L) φ F4 env' st4 σ2 H4 := t2.step e4 s4
      refine ⟨fun j k H => j + k = zs.length ∧ ∃ F' st' ds, Mk K φ F1 H1 L F' H st' ds ∧ Ext (DmX H4 L) φ F4 H4 F' H ∧ Out K cl φ F1 H1 σ W rl2 ((turns g (zs.drop j) st').bind fun xs s1 => (turns2 f (items.drop (i + 1)) s1).bind fun ys s2 => sized (ds ++ (xs ++ ys)) s2) Q,
        ⟨zs.length, Nat.zero_add _, F4, st4, ds, mk4, .refl, o4⟩, fun j k H5 hW => ?_⟩
      obtain ⟨ek, F5, st5, ds5, mk5, e5, o5⟩ := hW
      by_cases hj : j < zs.length
      · have hz : zs[j]? = some zs[j] := List.getElem?_eq_getElem hj
        generalize zs[j] = z at hz
        obtain ⟨g3, g4⟩ := good_step good2 e5.mono mk5.sok hz
        refine .inr ⟨g3, fun H => ∃ F' st' ds, Mk K φ F1 H1 L F' H st' ds ∧ Ext (DmX H4 L) φ F4 H4 F' H ∧ Out K cl φ F1 H1 σ W rl2 ((turns g (zs.drop (j + 1)) st').bind fun xs s1 => (turns2 f (items.drop (i + 1)) s1).bind fun ys s2 => sized (ds ++ (xs ++ ys)) s2) Q,
          fun H' q => ⟨k - 1, by omega, by omega, q⟩, fun x6 H6 hy6 => ?_⟩
        obtain ⟨F6, e6, s6, rx6⟩ := g4 x6 H6 hy6
        rw [drop_of hz, turns_bind] at o5
        have mk6 := mk5.step nL e6 s6
        have x6 : Ext (DmX H4 L) φ F4 H4 F6 H6 := e5.trans e6 fun a h => e5.dom a h.1
        have r6 : Rel K (fun a => P a ∨ a = L) φ F6 env' st5 σ2 H6 := r4.stepX x6 s6 fun a h1 h2 => ⟨h1, fun h => h2 (.inr h)⟩
        cases ht6 : tgSet tg2 z (wipeE env' own2) with
        | none => rw [← hg] at o5; simp only [ht6] at o5; exact o5.elim
        | some env2 =>
          obtain ⟨σ3, u1, u2, u3⟩ := tg_run (r6.wipe own2) rx6 ht6
          refine u1 _ ⟨by rw [u3 own2 ht2, wipe_wipe], ?_⟩
          have o6 : Out K cl φ F1 H1 σ W rl2 ((calm (keepIf (evT call ifs env2 st5) fun s3 => evE call elt env2 s3)).bind fun o s1 => (turns g (zs.drop (j + 1)) s1).bind fun xs s1 =>
              (turns2 f (items.drop (i + 1)) s1).bind fun ys s2 => sized (ds5 ++ ((match o with | some y => y :: xs | none => xs) ++ ys)) s2) Q := by
            have e : g z st5 = calm (keepIf (evT call ifs env2 st5) fun s3 => evE call elt env2 s3) := by rw [← hg]; simp only [ht6, ntup]
            rw [e] at o5
            exact o5
          refine elem_run u2 mk6.ext o6 (fun y H7 F7 st7 d7 e7 s7 q7 o7 => ?_) (fun H7 F7 st7 e7 s7 o7 => ⟨F7, st7, ds5, mk6.step nL e7 s7, x6.trans e7 fun a h => x6.dom a h.1, o7⟩)
          have hz := sized_some (noX_turns ng _ _) (fun a s => noX_turns2 nf _ _) o7
          obtain ⟨acc, h1, h2, h3⟩ := (mk6.step nL e7 s7).app nL hL q7 hz
          refine ⟨acc, h1, h2, F7, st7, ds5 ++ [d7], h3, (x6.trans e7 fun a h => x6.dom a h.1).write noTb_lst fun h => h.2 rfl, by simpa using o7⟩
      · have e : j = zs.length := by omega
        subst e
        rw [List.drop_length] at o5
        exact .inl ⟨good2.stop F5 H5 e5.mono mk5.sok.le, F5, st5, ds5, mk5, o5⟩
  · have e : i = items.length := by omega
    subst e
    refine .inl ⟨good.stop F' H2 mk.ext.mono mk.sok.le, fin F1 H1 F' H2 L st' ds e1 mk nL hL ?_⟩
    rw [List.drop_length] at o2
    have o2 : Out K cl φ F1 H1 σ W rl2 (sized (ds ++ []) st') Q := o2
    rw [List.append_nil] at o2
    exact o2
end
/-! ## what is walked -/
section
variable {X : Cx} {Γ : Gam} {cl : List Addr} {n : Nat} {call : Nat → List D → Sto → R D} {W : WX} {x y z tg : Expr} {xs : List Expr} {a b c : E} {es : Es} {pos p : Pos}
theorem si_seq (ha : PE X x (tE X.K cl call W a)) : PI X tg x (tIt X.K cl call W (.seq a)) := by
  refine ⟨fun pins s σ H R I ⟨P, φ, F, env, st, r, o⟩ => ?_⟩
  have key : ∀ {r1 : Eng.R D}, evE call a env st = r1 → Out X.K cl φ F H σ W (rlI X.K φ) (r1.bind fun x s1 => .of (seqD x) s1) R → wpAny (model X.prog X.w) X.A (eval x X.env) (fun v s1 => wpAny (model X.prog X.w) X.A (pyIter v) (PIE X pins σ tg R) X.xe s1) X.xe s := by
    intro r1 e o
    cases r1 with
    | stuck => exact o.elim
    | exc xn s1 =>
      refine (pi_list (tg := tg) ha).run pins s σ H R I ⟨P, φ, F, env, st, r, ?_⟩
      rw [e]; exact o
    | ok d s1 =>
      have hh := Out.of o
      clear o
      obtain ⟨ds, e2, o⟩ := hh
      cases d <;> first | (simp [seqD] at e2; done) | skip
      · refine (pi_str (tg := tg) ha).run pins s σ H R I ⟨P, φ, F, env, st, r, ?_⟩
        rw [e]
        intro v H1 F1 e1 k1 q
        cases e2
        cases q
        exact ⟨_, rfl, o _ _ _ e1 k1 (good_str _)⟩
      · refine (pi_list (tg := tg) ha).run pins s σ H R I ⟨P, φ, F, env, st, r, ?_⟩
        rw [e]
        intro v H1 F1 e1 k1 q
        cases e2
        cases q with
        | @lst q vs _ h1 h2 => exact ⟨q, rfl, ⟨vs, SqL.of (k1.le _ _ h1)⟩, o _ _ _ e1 k1 (good_list h1 h2)⟩
      · refine (pi_tup (tg := tg) ha).run pins s σ H R I ⟨P, φ, F, env, st, r, ?_⟩
        rw [e]
        intro v H1 F1 e1 k1 q
        cases e2
        cases q with
        | @tup q vs _ h1 h2 => exact ⟨q, rfl, ⟨vs, k1.le.sqT h1⟩, o _ _ _ e1 k1 (good_tup h1 h2)⟩
  exact key rfl o
theorem rangeD_some {lo hi : Int} {ds : List D} (h : rangeD lo hi = some ds) : (-(2 ^ 62) ≤ lo ∧ lo < 2 ^ 62 ∧ -(2 ^ 62) ≤ hi ∧ hi < 2 ^ 62) ∧ ds = (List.range (hi - lo).toNat).map fun (i : Nat) => D.int (lo + i) := by
  unfold rangeD at h
  split at h
  · rename_i e
    simp only [Bool.and_eq_true, decide_eq_true_eq] at e
    exact ⟨⟨e.1.1.1, e.1.1.2, e.1.2, e.2⟩, (Option.some.inj h).symm⟩
  · cases h
theorem stepN_ok {i j c : Int} (b1 : -(2 ^ 62) ≤ i) (b2 : i < 2 ^ 62) (b3 : -(2 ^ 62) ≤ j) (b4 : j < 2 ^ 62) (hc : c = -1 ∨ (0 < c ∧ c < 1073741824)) : RgC i j c (stepN i j c) := by
  rcases hc with rfl | ⟨h1, h2⟩
  · exact RgC.neg b1 b2 b3 b4
  · have e : Builtin.Range.rangeSize i j c = (stepN i j c : Nat) := by
      unfold Builtin.Range.rangeSize stepN
      rw [if_pos h1, decide_eq_true h1]
      by_cases q : i < j
      · simp only [if_pos q]
        have z : 0 ≤ (j - i - 1) / c := Int.ediv_nonneg (by omega) (by omega)
        generalize (j - i - 1) / c = m at z
        omega
      · simp only [if_neg q]
        rfl
    refine ⟨by omega, by omega, ?_, e⟩
    have g : (j - i - 1) / c ≤ j - i - 1 ∨ j ≤ i := by
      by_cases q : i < j
      · exact .inl (Int.ediv_le_self _ (by omega))
      · exact .inr (by omega)
    have g0 : i < j → 0 ≤ (j - i - 1) / c := fun q => Int.ediv_nonneg (by omega) (by omega)
    unfold Builtin.Range.small Builtin.Range.rangeSize
    rw [if_pos h1, if_pos h1]
    simp only [Builtin.Range.rangeFitsLong, Bool.and_eq_true, Bool.or_eq_true, decide_eq_true_eq, beq_iff_eq]
    generalize (j - i - 1) / c = q at g g0
    split <;> omega
theorem range3_some {xs ds : List D} (h : range3A xs = some ds) : ∃ i j c, xs = [.int i, .int j, .int c] ∧ RgC i j c (stepN i j c) ∧ ds = (List.range (stepN i j c)).map fun (k : Nat) => D.int (i + k * c) := by
  unfold range3A at h
  split at h
  · rename_i i j c
    unfold range3D at h
    split at h
    · rename_i e
      simp only [Bool.and_eq_true, Bool.or_eq_true, decide_eq_true_eq] at e
      exact ⟨i, j, c, rfl, stepN_ok e.1.1.1.1 e.1.1.1.2 e.1.1.2 e.1.2 e.2, (Option.some.inj h).symm⟩
    · cases h
  · cases h
theorem si_rng3 (cx : Ctx X Γ cl n call) {x : Str} {u : Expr} {es : Es} (hx : x = "range") (hf : Γ.isFree x = true) (hy : notStar y = true) (hz : notStar z = true) (hu : notStar u = true) (ha : PA X [y, z, u] (tEs X.K cl call W es)) : PI X tg (.Call (.Name x p) [y, z, u] [] pos) (tIt X.K cl call W (.rng3 es)) := by
  obtain ⟨h1, h2⟩ := cx.freeG hf
  obtain ⟨g1, _, _⟩ := cx.glo h1
  subst hx
  refine ⟨fun pins s σ H R I ⟨P, φ, F, env, st, r, o⟩ => ?_⟩
  refine (pi_range3 (tg := tg) g1 h2 ha (starEach_of hy [z, u] X.env) (by rw [starEach_of hz, starEach_of hu] <;> rfl)).run pins s σ H R I ⟨P, φ, F, env, st, r, Out.go (rl := rlA X.K) o r fun vs H1 F1 ds st1 r1 e1 q1 _ o1 => ?_⟩
  have hh := o1.of
  clear o1
  obtain ⟨items, e, o1⟩ := hh
  obtain ⟨i, j, c, rfl, hg, rfl⟩ := range3_some e
  cases q1 with
  | cons a1 q1 =>
    cases q1 with
    | cons a2 q1 =>
      cases q1 with
      | cons a3 q1 =>
        cases q1
        cases a1
        cases a2
        cases a3
        exact ⟨i, j, c, _, rfl, hg, o1.here r1.sok (good_stp i c _)⟩
theorem si_rng1 (cx : Ctx X Γ cl n call) {x : Str} (hx : x = "range") (hf : Γ.isFree x = true) (hy : notStar y = true) (ha : PE X y (tE X.K cl call W a)) : PI X tg (.Call (.Name x p) [y] [] pos) (tIt X.K cl call W (.rng1 a)) := by
  obtain ⟨h1, h2⟩ := cx.freeG hf
  obtain ⟨g1, _, _⟩ := cx.glo h1
  subst hx
  refine ⟨fun pins s σ H R I ⟨P, φ, F, env, st, r, o⟩ => ?_⟩
  refine (pi_range1 (tg := tg) g1 h2 (pa_cons ha pa_nil (starEach_of hy [] X.env)) (starEach_of hy [] X.env)).run pins s σ H R I ⟨P, φ, F, env, st, r, Out.mono (Out.asI (Out.go (rl := fun _ _ _ a b => a = b) (Q' := fun j H1 => -(2 ^ 62) ≤ j ∧ j < 2 ^ 62 ∧ R (Itr 0 j.toNat) H1) o r fun j H1 F1 d st1 r1 e1 q1 _ o1 => ?_)) fun v H1 ⟨j, e, q⟩ => ⟨j, by rw [e] <;> rfl, q⟩⟩
  have q1 : j = d := q1
  subst q1
  have hh := o1.of
  clear o1
  obtain ⟨items, e, o1⟩ := hh
  obtain ⟨⟨_, _, b1, b2⟩, rfl⟩ := rangeD_some e
  refine ⟨b1, b2, o1.here r1.sok ?_⟩
  have g := good_rng (K := X.K) (φ := φ) (F := F1) 0 j.toNat
  rw [Int.sub_zero]
  exact g
theorem si_rng2 (cx : Ctx X Γ cl n call) {x : Str} (hx : x = "range") (hf : Γ.isFree x = true) (hy : notStar y = true) (hz : notStar z = true) (ha : PE X y (tE X.K cl call W a)) (hb : PE X z (tE X.K cl call W b)) : PI X tg (.Call (.Name x p) [y, z] [] pos) (tIt X.K cl call W (.rng2 a b)) := by
  obtain ⟨h1, h2⟩ := cx.freeG hf
  obtain ⟨g1, _, _⟩ := cx.glo h1
  subst hx
  refine ⟨fun pins s σ H R I ⟨P, φ, F, env, st, r, o⟩ => ?_⟩
  refine (pi_range2 (tg := tg) g1 h2 (pa_cons ha (pa_cons hb pa_nil (starEach_of hz [] X.env)) (starEach_of hy [z] X.env)) (by rw [starEach_of hy, starEach_of hz] <;> rfl) (starEach_of hz [] X.env)).run pins s σ H R I ⟨P, φ, F, env, st, r, Out.mono (Out.asI (Out.go (rl := fun _ _ _ a b => a = b)
    (Q' := fun i H1 => tE X.K cl call W b σ H1 fun w H2 => ∃ j, w = .int j ∧ (-(2 ^ 62) ≤ i ∧ i < 2 ^ 62 ∧ -(2 ^ 62) ≤ j ∧ j < 2 ^ 62) ∧ R (Itr i (j - i).toNat) H2) o r fun i H1 F1 d st1 r1 e1 q1 _ o1 => ?_)) fun v H1 ⟨i, e, q⟩ => ?_⟩
  · have q1 : i = d := q1
    subst q1
    refine ⟨P, φ, F1, env, st1, r1, Out.asI (Out.go (rl := fun _ _ _ a b => a = b) (Q' := fun j H2 => (-(2 ^ 62) ≤ i ∧ i < 2 ^ 62 ∧ -(2 ^ 62) ≤ j ∧ j < 2 ^ 62) ∧ R (Itr i (j - i).toNat) H2) o1 r1 fun j H2 F2 d st2 r2 e2 q2 _ o2 => ?_)⟩
    have q2 : j = d := q2
    subst q2
    have hh := o2.of
    clear o2
    obtain ⟨items, e, o2⟩ := hh
    obtain ⟨bb, rfl⟩ := rangeD_some e
    exact ⟨bb, o2.here r2.sok (good_rng i (j - i).toNat)⟩
  · obtain ⟨P2, φ2, F2, env2, st2, r2, o2⟩ := q
    exact ⟨P2, φ2, F2, env2, st2, r2, o2.mono fun w H2 ⟨j, e2, q2, q3⟩ => ⟨i, j, by rw [e, e2] <;> rfl, q2, q3⟩⟩
theorem si_enum (cx : Ctx X Γ cl n call) {x : Str} (ht : isTup tg = true) (hx : x = "enumerate") (hf : Γ.isFree x = true) (hy : notStar y = true) (ha : PE X y (tE X.K cl call W a)) : PI X tg (.Call (.Name x p) [y] [] pos) (tIt X.K cl call W (.enum a)) := by
  obtain ⟨h1, h2⟩ := cx.freeG hf
  obtain ⟨g1, _, _⟩ := cx.glo h1
  subst hx
  cases tg <;> first | (simp [isTup] at ht; done) | skip
  refine ⟨fun pins s σ H R I ⟨P, φ, F, env, st, r, o⟩ => ?_⟩
  refine (pi_enumA g1 h2 (pa_cons ha pa_nil (starEach_of hy [] X.env)) (starEach_of hy [] X.env)).run pins s σ H R I ⟨P, φ, F, env, st, r, Out.go (rl := rlE X.K) o r fun v H1 F1 d st1 r1 e1 q1 _ o1 => ?_⟩
  have hh := o1.of
  clear o1
  obtain ⟨items, e, o1⟩ := hh
  cases d <;> first | (simp [enumA] at e; done) | skip
  · cases e
    cases q1 with
    | @lst q vs _ h1 h2 => exact ⟨q, vs, rfl, .inl ⟨SqL.of (r1.sok.le _ _ h1), o1.here r1.sok (good_enumL h1 h2)⟩⟩
  · cases e
    cases q1 with
    | @tup q vs _ h1 h2 => exact ⟨q, vs, rfl, .inr ⟨r1.sok.le.sqT h1, o1.here r1.sok (good_enumT h1 h2)⟩⟩
theorem si_zip (cx : Ctx X Γ cl n call) {x : Str} (ht : isTup tg = true) (hx : x = "zip") (hf : Γ.isFree x = true) (hy : notStar y = true) (hz : notStar z = true) (ha : PE X y (tE X.K cl call W a)) (hb : PE X z (tE X.K cl call W b)) : PI X tg (.Call (.Name x p) [y, z] [] pos) (tIt X.K cl call W (.zip a b)) := by
  obtain ⟨h1, h2⟩ := cx.freeG hf
  obtain ⟨g1, _, _⟩ := cx.glo h1
  subst hx
  cases tg <;> first | (simp [isTup] at ht; done) | skip
  refine ⟨fun pins s σ H R I ⟨P, φ, F, env, st, r, o⟩ => ?_⟩
  refine (RZ.pi_zipA g1 h2 (pa_cons ha (pa_cons hb pa_nil (starEach_of hz [] X.env)) (starEach_of hy [z] X.env)) (starEach_of hy [z] X.env) (starAny (xs := [z]) (by simpa using hz) pos X.env)).run pins s σ H R I ⟨P, φ, F, env, st, r, Out.go (rl := rlE X.K) o r fun v H1 F1 d st1 r1 e1 q1 _ o1 =>
    ⟨P, φ, F1, env, st1, r1, Out.go (rl := rlE X.K) o1 r1 fun v2 H2 F2 d2 st2 r2 e2 q2 _ o2 => ?_⟩⟩
  have hh := o2.of
  clear o2
  obtain ⟨items, e, o2⟩ := hh
  have q1 := q1.le e2.mono
  cases d <;> cases d2 <;> first | (simp [zipA] at e; done) | skip
  · cases e
    cases q1 with
    | @lst q vs _ h1 h2 =>
      cases q2 with
      | @lst q' ws _ h3 h4 => exact ⟨q, q', vs, ws, rfl, .inl ⟨SqL.of (r2.sok.le _ _ h1), SqL.of (r2.sok.le _ _ h3), o2.here r2.sok (good_zipL h1 h2 h3 h4)⟩⟩
  · cases e
    cases q1 with
    | @tup q vs _ h1 h2 =>
      cases q2 with
      | @tup q' ws _ h3 h4 => exact ⟨q, q', vs, ws, rfl, .inr ⟨r2.sok.le.sqT h1, r2.sok.le.sqT h3, o2.here r2.sok (good_zipT h1 h2 h3 h4)⟩⟩
end
end Eng
end

section
set_option autoImplicit false
namespace Eng
open PySem PySem.Spec PyProof.Rows L2
def evHX (th : D) (env : Env) : HX → Option D
  | .thing => some th
  | .v j => match sget env j with
    | .val d => some d
    | .own ds => some (.lst ds)
    | .un => none
  | .k c => some c
  | .repr h => (evHX th env h).bind fun d => bfop .repr [d]
def evHB (th : D) (env : Env) : HB → Option Bool
  | .eq a b => (evHX th env a).bind fun x => (evHX th env b).bind fun y => cmpop .eq x y
  | .ne a b => (evHX th env a).bind fun x => (evHX th env b).bind fun y => cmpop .ne x y
  | .isN a => (evHX th env a).bind fun x => cmpop .isN x .non
section
variable {cl : List Addr} {n L : Nat} {call : Nat → List D → Sto → R D} {X : Cx} {Γ : Gam} {W : WX}
/-! ### except suites -/
/-- what is known of the caught exception: at a, its class, its dict, its thing; the slot i holds it -/
def TF (K : PySem.W.Frag) (C a : Addr) (cls : Value) (d : Option Addr) (i : Nat) (th : D) (φ : List Addr) (F : Hp) (σ : L2.St) (H : Hp) : Prop :=
  cls = .ref C ∧ σ[i]? = some (some (.ref a)) ∧ ∃ dx v, d = some dx ∧ H dx = some (.xd [(("thing" : Str), v)]) ∧ Rep K φ F v th
theorem TF.step {K : PySem.W.Frag} {C a : Addr} {cls : Value} {d : Option Addr} {i : Nat} {th : D} {φ : List Addr} {F H F1 H1 : Hp} {σ : L2.St} {st : Sto} (t : TF K C a cls d i th φ F σ H) (k : Sok K φ F st H) (e : Ext (Dm H) φ F H F1 H1) : TF K C a cls d i th φ F1 σ H1 := by
  obtain ⟨h1, h2, dx, v, h3, h4, h5⟩ := t
  refine ⟨h1, h2, dx, v, h3, e.keep dx _ ⟨_, h4, fun _ z => by cases z⟩ (fun hm => ?_) h4 (fun _ z => by cases z), h5.le e.mono⟩
  obtain ⟨m, hm⟩ := List.mem_iff_getElem?.mp hm
  have hl : m < st.length := by rw [k.len]; exact (List.getElem?_eq_some_iff.mp hm).1
  obtain ⟨_, vs, q, _⟩ := k.cell m dx st[m] hm (List.getElem?_eq_getElem hl)
  rw [h4] at q; cases q
def rdH {α β : Type} (K : PySem.W.Frag) (cl : List Addr) (C a : Addr) (cls : Value) (d : Option Addr) (i : Nat) (rl : List Addr → Hp → Hp → α → β → Prop) (ev : D → Env → Option β) : L2.St → Hp → (α → Hp → Prop) → Prop := fun σ H Q =>
  ∃ P φ F env st th, Rel K P φ F env st σ H ∧ TF K C a cls d i th φ F σ H ∧ Out K cl φ F H σ W0 (rl φ) (R.of (ev th env) st) Q
section
variable {C a : Addr} {oe : Obj} {cls : Value} {d : Option Addr} {i : Nat} {nm : Str} {pn : List (Addr × Obj)}
abbrev tHX (K : PySem.W.Frag) (cl : List Addr) (C a : Addr) (cls : Value) (d : Option Addr) (i : Nat) (h : HX) : TE := rdH K cl C a cls d i (rlB K) fun th env => evHX th env h
abbrev tHB (K : PySem.W.Frag) (cl : List Addr) (C a : Addr) (cls : Value) (d : Option Addr) (i : Nat) (h : HB) : TE := rdH K cl C a cls d i (fun _ => rlBl) fun th env => evHB th env h
theorem sHX (cx : Ctx X Γ cl n call) (xf : XfC X.K C) (noF : PySem.W.findIn X.K (.ref C) "thing" = some none) (hz : Zc cls d oe) (hd : ∃ vs, oe.data = .fields vs) :
    ∀ (h : HX) (x : Expr), chkHX Γ i nm h x = true → PE (X.suite a ((a, oe) :: pn)) x (tHX X.K cl C a cls d i h)
  | .thing, x, hh => by
    cases x <;> first | (simp [chkHX] at hh; done) | skip
    rename_i o at_ pos
    cases o <;> first | (simp [chkHX] at hh; done) | skip
    simp only [chkHX, Bool.and_eq_true, decide_eq_true_eq] at hh
    obtain ⟨⟨rfl, rfl⟩, h3⟩ := hh
    obtain ⟨m1, m2, m3, m4⟩ := nm_parts cx h3
    exact PE.of (pe_xf xf noF hz hd (pe_var (X := X.suite a ((a, oe) :: pn)) m1 m2 m3 m4)) fun σ H Q ⟨P, φ, F, env, st, th, r, ⟨t1, t2, dx, v, t3, t4, t5⟩, o⟩ => ⟨.ref a, t2, rfl, t1, dx, _, v, t3, t4, rfl, o.here r.sok (.inl t5)⟩
  | .v j, x, hh => by
    cases x <;> first | (simp [chkHX] at hh; done) | skip
    obtain ⟨m1, m2, m3, m4⟩ := nm_parts cx hh
    refine PE.of (pe_var (X := X.suite a ((a, oe) :: pn)) m1 m2 m3 m4) fun σ H Q ⟨P, φ, F, env, st, th, r, t, o⟩ => ?_
    have s := r.sl j
    have o : Out X.K cl φ F H σ W0 (rlB X.K φ) (R.of (match sget env j with | .val d => some d | .own ds => some (.lst ds) | .un => none) st) Q := o
    cases e : sget env j with
    | un => rw [e] at o; exact o.elim
    | own ds =>
      rw [e] at s o
      obtain ⟨b, vs, e1, h5, h6, h7, h8, h9⟩ := s
      exact ⟨.ref b, e1, Out.here o r.sok (.inr ⟨b, vs, ds, rfl, rfl, h5, h9, h7⟩)⟩
    | val d =>
      rw [e] at s o
      obtain ⟨v, e1, rv⟩ := s
      exact ⟨v, e1, Out.here o r.sok (.inl rv)⟩
  | .k c, x, hh => by
    cases x <;> first | (simp [chkHX] at hh; done) | skip
    exact PE.of (se_k (X := X.suite a ((a, oe) :: pn)) (cl := cl) (call := call) (W := W0) hh) fun σ H Q ⟨P, φ, F, env, st, th, r, t, o⟩ => ⟨P, φ, F, env, st, r, o.rel fun _ _ _ _ q => .inl q⟩
  | .repr h, x, hh => by
    cases x <;> first | (simp [chkHX] at hh; done) | skip
    rename_i fn args kws pos
    cases fn <;> first | (simp [chkHX] at hh; done) | skip
    match args, kws, hh with
    | [y], [], hh =>
      simp only [chkHX, Bool.and_eq_true, decide_eq_true_eq] at hh
      obtain ⟨⟨⟨rfl, h2⟩, h3⟩, h4⟩ := hh
      obtain ⟨f1, f2⟩ := cx.freeG h2
      obtain ⟨g1, g2, g3⟩ := cx.glo f1
      have ok := repr_ok (X := X.suite a ((a, oe) :: pn)) (cl := cl) cx.uts cx.gd
      refine PE.of (pe_callB (X := X.suite a ((a, oe) :: pn)) ok g1 f2 (bf_boot .repr) (pa_cons (sHX cx xf noF hz hd h y h4) pa_nil (starEach_of h3 _ _)) g3 g2 (starEach_of h3 _ _) rfl) fun σ H Q ⟨P, φ, F, env, st, th, r, t, o⟩ => ⟨P, φ, F, env, st, th, r, t, ?_⟩
      have o : Out X.K cl φ F H σ W0 (rlB X.K φ) (R.of ((evHX th env h).bind fun d => bfop .repr [d]) st) Q := o
      cases e : evHX th env h with
      | none => rw [e] at o; exact o.elim
      | some d =>
        rw [e] at o
        show Out X.K cl φ F H σ W0 (rlB X.K φ) (R.of (evHX th env h) st) _
        rw [e]
        intro v H' F' ex k q
        exact ⟨φ, F', st, σ, W0, [d], k, .cons q .nil, Out.step (o.rel fun _ _ _ _ q => .inl q) ex⟩
    | [], _, hh => simp [chkHX] at hh
    | _ :: _ :: _, _, hh => simp [chkHX] at hh
    | [_], _ :: _, hh => simp [chkHX] at hh
theorem of_bind {α β : Type} {K : PySem.W.Frag} {φ : List Addr} {F H : Hp} {σ : L2.St} {W : WX} {st : Sto} {γ : Type} {rl : Hp → Hp → γ → β → Prop} {o : Option α} {f : α → Option β} {Q : γ → Hp → Prop} (h : Out K cl φ F H σ W rl (R.of (o.bind f) st) Q) : ∃ x, o = some x ∧ Out K cl φ F H σ W rl (R.of (f x) st) Q := by
  cases o with
  | none => exact h.elim
  | some x => exact ⟨x, rfl, h⟩
theorem hb_two {K : PySem.W.Frag} {o : COp} {x y : HX} {Q : V → Hp → Prop} {σ : L2.St} {H : Hp} (hh : ∃ P φ F env st th, Rel K P φ F env st σ H ∧ TF K C a cls d i th φ F σ H ∧ Out K cl φ F H σ W0 rlBl (R.of ((evHX th env x).bind fun x => (evHX th env y).bind fun y => cmpop o x y) st) Q) :
    tHX K cl C a cls d i x σ H fun v1 H1 => tHX K cl C a cls d i y σ H1 fun v2 H2 => rOp2 K cl (fun _ => rlBl) (cmpop o) v1 v2 H2 Q := by
  obtain ⟨P, φ, F, env, st, th, r, t, q⟩ := hh
  obtain ⟨d1, e1, q⟩ := of_bind q
  obtain ⟨d2, e2, q⟩ := of_bind q
  refine ⟨P, φ, F, env, st, th, r, t, ?_⟩
  show Out K cl φ F H σ W0 (rlB K φ) (R.of (evHX th env x) st) _
  rw [e1]
  intro v1 H1 F1 x1 k1 q1
  refine ⟨P, φ, F1, env, st, th, r.step x1 k1, t.step r.sok x1, ?_⟩
  show Out K cl φ F1 H1 σ W0 (rlB K φ) (R.of (evHX th env y) st) _
  rw [e2]
  intro v2 H2 F2 x2 k2 q2
  exact ⟨φ, F2, st, σ, W0, d1, d2, k2, x2.repB q1, q2, Out.step q (x1.then x2)⟩
theorem sHB (cx : Ctx X Γ cl n call) (xf : XfC X.K C) (noF : PySem.W.findIn X.K (.ref C) "thing" = some none) (hz : Zc cls d oe) (hd : ∃ vs, oe.data = .fields vs) :
    ∀ (h : HB) (x : Expr), chkHB Γ i nm h x = true → PE (X.suite a ((a, oe) :: pn)) x (tHB X.K cl C a cls d i h)
  | .eq u v, x, hh => by
    cases x <;> first | (simp [chkHB] at hh; done) | skip
    rename_i x ops ys pos
    match ops, ys, hh with
    | [.Eq], [y], hh =>
      simp only [chkHB, Bool.and_eq_true] at hh
      exact PE.of (pe_cmpR (X := X.suite a ((a, oe) :: pn)) (op_cmp (X := X.suite a ((a, oe) :: pn)) (cl := cl) (o := .eq) cx.uts rfl) (sHX cx xf noF hz hd u x hh.1.2) (sHX cx xf noF hz hd v y hh.2) (by cases y <;> first | rfl | (simp [noMark] at hh; done))) fun σ H Q hq => hb_two hq
  | .ne u v, x, hh => by
    cases x <;> first | (simp [chkHB] at hh; done) | skip
    rename_i x ops ys pos
    match ops, ys, hh with
    | [.NotEq], [y], hh =>
      simp only [chkHB, Bool.and_eq_true] at hh
      exact PE.of (pe_cmpR (X := X.suite a ((a, oe) :: pn)) (op_cmp (X := X.suite a ((a, oe) :: pn)) (cl := cl) (o := .ne) cx.uts rfl) (sHX cx xf noF hz hd u x hh.1.2) (sHX cx xf noF hz hd v y hh.2) (by cases y <;> first | rfl | (simp [noMark] at hh; done))) fun σ H Q hq => hb_two hq
  | .isN u, x, hh => by
    cases x <;> first | (simp [chkHB] at hh; done) | skip
    rename_i x ops ys pos
    match ops, ys, hh with
    | [.Is], [.Constant .none k p], hh =>
      have hh : chkHX Γ i nm u x = true := hh
      refine PE.of (pe_cmpR (X := X.suite a ((a, oe) :: pn)) (op_cmp (X := X.suite a ((a, oe) :: pn)) (cl := cl) (o := .isN) cx.uts rfl) (sHX cx xf noF hz hd u x hh) (sHX (nm := nm) cx xf noF hz hd (.k .non) (.Constant .none k p) rfl) rfl) fun σ H Q ⟨P, φ, F, env, st, th, r, t, q⟩ => hb_two (y := .k .non) ⟨P, φ, F, env, st, th, r, t, q⟩
theorem sHBt (cx : Ctx X Γ cl n call) (xf : XfC X.K C) (noF : PySem.W.findIn X.K (.ref C) "thing" = some none) (hz : Zc cls d oe) (hd : ∃ vs, oe.data = .fields vs) :
    ∀ (h : HB) (x : Expr), chkHB Γ i nm h x = true → PT (X.suite a ((a, oe) :: pn)) x (rdH X.K cl C a cls d i (fun _ => rlT) fun th env => evHB th env h)
  | .eq u v, x, hh => by
    cases x <;> first | (simp [chkHB] at hh; done) | skip
    rename_i x ops ys pos
    match ops, ys, hh with
    | [.Eq], [y], hh =>
      simp only [chkHB, Bool.and_eq_true] at hh
      exact PT.of (pt_cmpR (X := X.suite a ((a, oe) :: pn)) (op_cmp (X := X.suite a ((a, oe) :: pn)) (cl := cl) (o := .eq) cx.uts rfl) (sHX cx xf noF hz hd u x hh.1.2) (sHX cx xf noF hz hd v y hh.2) (by cases y <;> first | rfl | (simp [noMark] at hh; done))) fun σ H Q ⟨P, φ, F, env, st, th, r, t, q⟩ => hb_two ⟨P, φ, F, env, st, th, r, t, blT q⟩
  | .ne u v, x, hh => by
    cases x <;> first | (simp [chkHB] at hh; done) | skip
    rename_i x ops ys pos
    match ops, ys, hh with
    | [.NotEq], [y], hh =>
      simp only [chkHB, Bool.and_eq_true] at hh
      exact PT.of (pt_cmpR (X := X.suite a ((a, oe) :: pn)) (op_cmp (X := X.suite a ((a, oe) :: pn)) (cl := cl) (o := .ne) cx.uts rfl) (sHX cx xf noF hz hd u x hh.1.2) (sHX cx xf noF hz hd v y hh.2) (by cases y <;> first | rfl | (simp [noMark] at hh; done))) fun σ H Q ⟨P, φ, F, env, st, th, r, t, q⟩ => hb_two ⟨P, φ, F, env, st, th, r, t, blT q⟩
  | .isN u, x, hh => by
    cases x <;> first | (simp [chkHB] at hh; done) | skip
    rename_i x ops ys pos
    match ops, ys, hh with
    | [.Is], [.Constant .none k p], hh =>
      have hh : chkHX Γ i nm u x = true := hh
      refine PT.of (pt_cmpR (X := X.suite a ((a, oe) :: pn)) (op_cmp (X := X.suite a ((a, oe) :: pn)) (cl := cl) (o := .isN) cx.uts rfl) (sHX cx xf noF hz hd u x hh) (sHX (nm := nm) cx xf noF hz hd (.k .non) (.Constant .none k p) rfl) rfl) fun σ H Q ⟨P, φ, F, env, st, th, r, t, q⟩ => hb_two (y := .k .non) ⟨P, φ, F, env, st, th, r, t, blT q⟩
end
end
end Eng
end

section
set_option autoImplicit false
namespace Eng
open PySem PySem.Spec PyProof.Rows L2

/-! ## _law_refuses(lambda: e, due) -/
abbrev noArgs : Arguments := ⟨[], [], none, [], [], none, []⟩
/-- the frame of the def that got the lambda, entered at s from X -/
abbrev refZ (X : Cx) (x : Str) (sg : Scope) (g : Addr) (cdg : Value) (s : Shared) (H : Hp) (E : XK) : Cx := cxOf (L2.CX X.prog X.w) X.prog X.w X.K X.mg X.base refN x sg g cdg X.A X.stack s H E
abbrev lamO (X : Cx) (body : Expr) (scope : Scope) (pm : Value) (c' : Addr) (ctv : Value) : Obj := PySem.W.kla_obj "<lambda>" (X.env.qual ++ "<lambda>") noArgs body scope (cloFrom X.env.cells scope.names []) pm c' ctv
section
variable {X : Cx} {pins : List (Addr × Obj)} {σ : L2.St} {H : Hp} {s : Shared} {x : Str} {sg scope : Scope} {g f c' : Addr} {cdg pm ctv : Value} {body : Expr} {Eg : XK} {pn : List (Addr × Obj)} {xe : Value → Shared → Prop} {WZ : WX} {te : XK → TE} {i k : Nat} {a : Str} {p1 p2 : Pos}
/-- work(), in that frame: what the lambda's text reads at the slots of its maker -/
theorem pe_work (I : Inv X pins σ H s) (Ls : LamX.LamS X.env.scope scope) (of : s.heap.get? f = some (lamO X body scope pm c' ctv)) (hn : H f = none) (nf : f ∉ frs X.stack) (tk : Takes ((refZ X x sg g cdg s H Eg).tr pn xe) WZ) (hr : Room (k + 1) (refZ X x sg g cdg s H Eg).A)
    (hb : ∀ (s1 : Shared) (H1 : Hp) (E : XK), Room k (((refZ X x sg g cdg s H Eg).A).deeper (LamX.lamEnv X scope s1.heap.objs.size f c')) → PE (LamX.lamCx X (refZ X x sg g cdg s H Eg).A (refZ X x sg g cdg s H Eg).stack s1 H1 E scope f c') body (te E)) (hN : refN[i]? = some a) (hv : Vis sg a)
    (h1 : (a == ("__debug__" : Str)) = false) (h2 : (a == ("__classdict__" : Str)) = false) :
    PE ((refZ X x sg g cdg s H Eg).tr pn xe) (.Call (.Name a p1) [] [] p2) fun σZ HZ Q => σZ[i]? = some (some (.ref f)) ∧ HZ c' = some (LamX.CodeO c' (X.env.qual ++ "<lambda>")) ∧ te (WE WZ σZ) σ HZ Q := by
  refine ⟨fun pz sz σz Hz Q Iz ⟨q1, q2, q3⟩ => ?_⟩
  have rd := (pe_var (X := (refZ X x sg g cdg s H Eg).tr pn xe) (pos := p1) (i := i) hN hv h1 h2).run pz sz σz Hz (fun v H1 => v = .ref f ∧ H1 = Hz) Iz ⟨.ref f, q1, rfl, rfl⟩
  refine wpAny_Call_Name_kw (thn rd fun u s1 ⟨v, H1, I1, r1, ev, eH⟩ => ?_)
  subst ev eH
  cases (show u = Value.ref f from r1)
  have at1 : s1.heap.get? f = some (lamO X body scope pm c' ctv) := I1.base.keep f _ of hn nf (fun z => by cases z)
  refine PySem.W.callWith_F0 ⟨_, _, _, _, at1⟩ ?_
  have un : Un (frs X.stack) [] H H1 s.heap s1.heap := I1.base
  obtain ⟨⟨oc, cv, ct, g1, g2, g3⟩, _⟩ := I1.hok c' _ q2
  have go : codeAny (model X.prog X.w) (refZ X x sg g cdg s H Eg).A (.call (.ref f) ⟨[], []⟩) (CR (L2.CX X.prog X.w) (refZ X x sg g cdg s H Eg).stack X.prog X.w H1 s1 Q (WE WZ σz)) s1 := by
    refine PySem.W.kla_callFunE hr.depth at1 rfl Ls.co Ls.gen rfl ⟨c', oc, cv, ct, rfl, g1, g2, g3⟩ (wpAny_pure (wpAny_newFunctionEnv (fun y hy => (Ls.own y hy).2) (fun y hy => absurd hy (by simp)) (fun h₁ ns sb => ⟨I1.nolimit.fresh _ sb, ?_⟩) Ls.kind))
    have stay : ∀ b o, s1.heap.get? b = some o → h₁.get? b = some o := fun b o e => sb.extBut b o (Nat.ne_of_lt (Heap.lt_size e)) (Heap.get?_push_of_some _ e)
    have J := LamX.lam_start2 (E := WE WZ σz) (f := f) (c' := c') (tk := s1.toks + ([] : List (Str × Value)).length) I Ls I1.env0 hr.hd un ns stay
    refine PySem.W.kla_codeExpr (wpAny_mono ((hb s1 H1 (WE WZ σz) (hr.deeper _)).run [] _ _ H1 Q J q3) (fun v s' hq => ?_) fun _ _ hq => hq)
    obtain ⟨w', H', J', rv, q⟩ := hq
    exact ⟨w', H', J'.os, J'.bare, J'.base, J'.hok, rv, q⟩
  refine wpAny_call (codeAny_mono go fun out s' q => ?_)
  match out, q with
  | .error e, q => exact passAt tk σz pz H1 s1 e s' I1 q
  | .ok (.ret u), q => exact I1.after q
  | .ok .next, q => exact q.elim
  | .ok .brk, q => exact q.elim
  | .ok .cont, q => exact q.elim
end
section
variable {cl : List Addr} {n : Nat} {call : Nat → List D → Sto → R D} {X : Cx} {Γ : Gam} {W : WX}
theorem made_not {K : PySem.W.Frag} {φ : List Addr} {F H H1 : Hp} {st : Sto} (k : Sok K φ F st H) (eN : LamX.ExtN H H1) (T1 : LamX.Tabs (tabsOf K) H1) : Ext (Dm H) φ F H F H1 ∧ Sok K φ F st H1 := by
  refine ⟨⟨fun a o _ _ e t => eN a o e t, fun _ _ => rfl, Le.refl F, fun a ⟨o, e, t⟩ => ⟨o, eN a o e t, t⟩⟩, ⟨fun a o e => eN a o (k.le a o e) (k.nt a o e), k.len, fun m b ds e1 e2 => ?_, k.nd, T1, k.nt⟩⟩
  obtain ⟨q1, vs, q2, q3⟩ := k.cell m b ds e1 e2
  exact ⟨q1, vs, eN b _ q2 noTb_lst, q3⟩
theorem Sok.mem_lst {K : PySem.W.Frag} {φ : List Addr} {F H : Hp} {st : Sto} (k : Sok K φ F st H) {a : Addr} (h : a ∈ φ) : ∃ vs, H a = some (.lst vs) := by
  obtain ⟨m, hm⟩ := List.mem_iff_getElem?.mp h
  have hl : m < st.length := by rw [k.len]; exact (List.getElem?_eq_some_iff.mp hm).1
  obtain ⟨_, vs, q, _⟩ := k.cell m a st[m] hm (List.getElem?_eq_getElem hl)
  exact ⟨vs, q⟩
theorem lcL {X : Cx} {Γ : Gam} (c : Ctx X Γ cl n call) {i : Nat} {x : Str} (h : Γ.lc i x = true) : X.N[i]? = some x ∧ X.env.scope.names.lookup x = some .local := by
  obtain ⟨h1, h2⟩ := Bool.and_eq_true_iff.mp h
  refine ⟨by rw [c.N]; exact of_decide_eq_true h1, ?_⟩
  rw [c.sc]
  revert h2
  cases Γ.sc.names.lookup x with
  | none => intro q; cases q
  | some k => cases k <;> intro q <;> first | rfl | cases q
/-- the frame's slots in its suite -/
theorem ref_rel {K : PySem.W.Frag} {φ : List Addr} {F H : Hp} {st : Sto} {f a : Addr} {v : V} {d : D} (k : Sok K φ F st H) (r : Rep K φ F v d) : Rel K (fun _ => False) φ F [.un, .val d, .un] st [some (.ref f), some v, some (.ref a)] H := by
  refine ⟨k, fun i => ?_, fun i j _ h _ => ?_, rfl⟩
  · match i with
    | 0 => exact trivial
    | 1 => exact ⟨v, rfl, r⟩
    | 2 => exact trivial
    | i + 3 => exact trivial
  · match i, h with
    | 0, h => cases h
    | 1, h => cases h
    | 2, h => cases h
    | i + 3, h => cases h
theorem se_refu (cx : Ctx X Γ cl n call) (tk : Takes X W) {c : Nat} {e due : E} {x : Str} {y body : Expr} {scope : Scope} {lpos p pos : Pos} (hl : Γ.lam = true) (hx : Γ.isRefu x c = true) (hy : notStar y = true) (hL : LamX.lamSB Γ.sc scope = true)
    (hb : ∀ (X' : Cx) (W' : WX), Ctx X' (Γ.lamG scope) cl n call → Takes X' W' → PE X' body (tE X'.K cl call W' e)) (hd : PE X y (tE X.K cl call W due)) :
    PE X (.Call (.Name x p) [.Lambda noArgs body scope lpos, y] [] pos) (tE X.K cl call W (.refu c e due)) := by
  obtain ⟨f1, rf⟩ := cx.refG hx
  obtain ⟨g1, g2, g3⟩ := cx.glo f1
  obtain ⟨g, fd, params, sg, z, m1, m2, m3, m4, m5, m6, m7, m8⟩ := rf.ex
  have kp := m2.kp
  obtain ⟨oc, od, dV, kV, doc, pm, an, cdv, ct, osl, rfl, lk, hcd, _, _⟩ := m2.ex
  obtain ⟨lr, cT, Tt, TB, hcode, hm, hu⟩ := cx.lam hl
  have Ls : LamX.LamS X.env.scope scope := LamX.lamS_by (by rw [cx.sc]; exact hL)
  refine ⟨fun pins s σ H Q I ⟨P, φ, F, env, st, r, o⟩ => ?_⟩
  refine wpAny_Call_Name_kw (ld_glob I g1 m1 ?_ g2)
  refine PySem.W.callWith_K (h₀ := X.base) I.ok.mod.kin kp ?_ (by rw [starEach_of (x := .Lambda noArgs body scope lpos) rfl]) (starAny (by rw [List.all_cons, hy] <;> rfl) pos X.env)
  show wpAny _ _ (spliced ((false, eval (.Lambda noArgs body scope lpos) X.env) :: backTo pos (starEach [y] X.env))) _ _ s
  refine Calls.spliced_cons (LamX.lam_make2 I TB hcode hm hu r.sok.tab rfl (Ls.has I.ok) fun f c' pm' ctv H1 s' I1 eN T1 hf hfn hfr hco => ?_)
  obtain ⟨ex, k1⟩ := made_not r.sok eN T1
  have r1 := r.step ex k1
  have o1 : Out X.K cl φ F H1 σ W (rlE X.K φ) ((evE call due env st).bind fun d s1 => refR c d (evE call e env s1)) Q := Out.step o ex
  have nfs : f ∉ X.fs := fun hm' => by
    rcases I.ok.stk with q | ⟨q, q2⟩
    · exact hfr (by rw [q]; exact hm')
    · obtain ⟨en, h3, h4⟩ := List.mem_filterMap.mp hm'
      exact hfr (List.mem_filterMap.mpr ⟨en, by rw [q]; exact List.mem_cons_of_mem _ h3, h4⟩)
  have nl : f ≠ X.env.locals := fun q => by
    obtain ⟨m, ⟨ob, es, ep, h3, h4, _⟩, _⟩ := I1.loc
    rw [← q, hf] at h3
    cases h3; cases h4
  have I1p : Inv X ((f, lamO X body scope pm' c' ctv) :: pins) σ H1 s' := I1.pins_of fun q hq => by
    rcases List.mem_cons.mp hq with rfl | hq
    · exact ⟨hf, hfn, nl, nfs, fun v q => by cases q⟩
    · exact I1.pin q (List.mem_append_right _ hq)
  rw [starEach_of hy]
  have hread : tE X.K cl call W due σ H1 fun v H2 => H2 c' = some (LamX.CodeO c' (X.env.qual ++ "<lambda>")) ∧ ∃ P φ F env st d, Rel X.K P φ F env st σ H2 ∧ Rep X.K φ F v d ∧ Out X.K cl φ F H2 σ W (rlE X.K φ) (refR c d (evE call e env st)) Q :=
    ⟨P, φ, F, env, st, r1, Out.go (rl := rlE X.K) o1 r1 fun v H2 F2 d st2 r2 e2 q2 _ o2 => ⟨?_, P, φ, F2, env, st2, d, r2, q2, o2⟩⟩
  · refine Calls.spliced_cons (thn (hd.run _ s' σ H1 _ I1p hread) fun u s2 ⟨v, H2, I2, r2, hc2, P2, φ2, F2, env2, st2, d, rel2, rv, o2⟩ => ?_)
    refine Calls.spliced_nil ⟨I2.kIn, ?_⟩
    have I2' : Inv X pins σ H2 s2 := I2.pins_of fun q hq => I2.pin q (List.mem_append_right _ (List.mem_cons_of_mem _ hq))
    obtain ⟨of2, nf2, _⟩ := I2.pin (f, lamO X body scope pm' c' ctv) (List.mem_append_right _ List.mem_cons_self)
    have bt := m3 s2 [.ref f, u] I2.kIn rfl
    rw [List.append_nil] at bt
    have go : codeAny (model X.prog X.w) X.A (.call (.ref g) ⟨[.ref f, u], []⟩) (CR (L2.CX X.prog X.w) X.stack X.prog X.w H2 s2 Q (WE W σ)) s2 := by
      refine LamX.run_ofS (k := 3 * n + 1) (N := refN) (ps := refPs) (us := [.ref f, u]) (vs := [.ref f, v]) lk hcd m4 lr I2'.env0 bt (.cons rfl (.cons r2 .nil)) rfl fun hr' => ?_
      have cz : Ctx (refZ X x sg g cdv s2 H2 (WE W σ)) ⟨refN, sg, fun _ => true, Γ.G, false⟩ cl n call := ⟨rfl, m4.nd, rfl, rfl, rfl, hr'.mono (by omega), cx.gd, fun q => (by cases q), cx.g⟩
      obtain ⟨k1', C, fI, c1, c2, c3, c4⟩ := cz.clsG m6
      obtain ⟨k2', k3', k4'⟩ := cz.glo k1'
      obtain ⟨w1, w2, w3, w4⟩ := nm_parts cz m5
      obtain ⟨l1, l2⟩ := lcL cz m7
      have lamc : ∀ (s1 : Shared) (H1 : Hp) (E : XK), Room (3 * n) (((refZ X x sg g cdv s2 H2 (WE W σ)).A).deeper (LamX.lamEnv X scope s1.heap.objs.size f c')) →
          PE (LamX.lamCx X (refZ X x sg g cdv s2 H2 (WE W σ)).A (refZ X x sg g cdv s2 H2 (WE W σ)).stack s1 H1 E scope f c') body (tE X.K cl call (fun cls d _ H => E cls d H) e) := fun s1 H1 E hr =>
        hb (LamX.lamCx X (refZ X x sg g cdv s2 H2 (WE W σ)).A (refZ X x sg g cdv s2 H2 (WE W σ)).stack s1 H1 E scope f c') _ ⟨cx.N, cx.nd, rfl, rfl, rfl, hr, cx.gd, fun q => (by cases q), cx.g⟩ (takes_of rfl rfl rfl rfl)
      refine ⟨_, pss_one (ps_try_as (X := refZ X x sg g cdv s2 H2 (WE W σ))
        (tb := fun W' => tSeq (tDrop fun σZ HZ Q => σZ[0]? = some (some (.ref f)) ∧ HZ c' = some (LamX.CodeO c' (X.env.qual ++ "<lambda>")) ∧ tE X.K cl call (fun cls d _ H => WE W' σZ cls d H) e σ HZ Q) (tRet (tC (.bl false))))
        (ts := fun a cls d => tRet (tHB X.K cl C a cls d 2 (.eq (.repr .thing) (.repr (.v 1)))))
        rfl rfl m4.nd l1 l2 ⟨k2', k3', .inl c2⟩ (takes_of rfl rfl rfl rfl)
        (fun W' pn xe tk' ps' => pss_cons (ps_expr (pe_work I2' Ls of2 nf2 hfr tk' hr' lamc w1 w2 w3 w4) rfl) (pss_one (ps_ret pe_bl)))
        (fun a oe cls d pn hz hd => pss_one (ps_ret (sHB cz c4 c3.noF hz hd _ z.test m8)))), ?_⟩
      refine ⟨rfl, hc2, P2, φ2, F2, env2, st2, rel2, ?_⟩
      cases er : evE call e env2 st2 with
      | stuck => rw [er] at o2; exact o2.elim
      | ok d' s3 =>
        rw [er] at o2
        exact fun v' H3 F3 e3 k3 _ => o2 (.bl false) H3 F3 e3 k3 (.bl false)
      | exc xn s3 =>
        rw [er] at o2
        intro cc dx H3 F3 e3 k3 hxn
        obtain ⟨A, vx, a1, rfl, a3, a4⟩ := hxn
        have o2 : Out X.K cl φ2 F2 H2 σ W (rlE X.K φ2) (match decide (xn.cls = c) with
          | true => .of ((bfop .repr [xn.thing]).bind fun a => (bfop .repr [d]).bind fun b => (cmpop .eq a b).map .bl) s3
          | false => .exc xn s3) Q := o2
        refine ⟨decide (xn.cls = c), cz.g.exm _ _ _ _ a1 c1, fun hy a ha => ?_, fun hn => ?_⟩
        · rw [hy] at o2
          have hAC : A = C := by rw [of_decide_eq_true hy, c1] at a1; exact (Option.some.inj a1).symm
          subst hAC
          have o2 := o2.of
          obtain ⟨db, eb, o2⟩ := o2
          refine ⟨fun _ => False, φ2, F3, [.un, .val d, .un], s3, xn.thing, ref_rel k3 (rv.le e3.mono), ⟨rfl, rfl, dx, vx, rfl, a3, a4⟩, ?_⟩
          show Out X.K cl φ2 F3 H3 _ W0 rlBl (R.of ((bfop .repr [xn.thing]).bind fun x => (bfop .repr [d]).bind fun y => cmpop .eq x y) s3) _
          cases b1 : bfop .repr [xn.thing] with
          | none => rw [b1] at eb; cases eb
          | some y1 =>
            rw [b1] at eb
            cases b2 : bfop .repr [d] with
            | none => rw [b2] at eb; cases eb
            | some y2 =>
              rw [b2] at eb
              have eb : (cmpop .eq y1 y2).map D.bl = some db := eb
              show Out X.K cl φ2 F3 H3 _ W0 rlBl (R.of (cmpop .eq y1 y2) s3) _
              cases b3 : cmpop .eq y1 y2 with
              | none => rw [b3] at eb; cases eb
              | some bb =>
                rw [b3] at eb
                cases eb
                intro v' H4 F4 e4 k4 q4
                have q4 : v' = .bl bb := q4
                subst q4
                exact o2 _ H4 F4 (e3.then e4) k4 (.bl bb)
        · rw [hn] at o2
          exact o2 (.ref A) dx H3 F3 e3 k3 ⟨A, vx, a1, rfl, a3, a4⟩
    refine wpAny_call (codeAny_mono go fun out s' q => ?_)
    match out, q with
    | .error e, q => exact passAt tk σ pins H2 s2 e s' I2' q
    | .ok (.ret u), q => exact I2'.after q
    | .ok .next, q => exact q.elim
    | .ok .brk, q => exact q.elim
    | .ok .cont, q => exact q.elim
  · exact e2.keep c' _ ⟨_, hco, LamX.codeO_ne⟩ (fun hm' => by
      obtain ⟨vs, q⟩ := k1.mem_lst hm'
      rw [hco] at q
      unfold LamX.CodeO at q
      cases q) hco LamX.codeO_ne
end
end Eng
end

section
set_option autoImplicit false
namespace Eng
open PySem PySem.Spec PyProof.Rows L2
section
variable {cl : List Addr} {n : Nat} {call : Nat → List D → Sto → R D}
theorem and3 {a b c : Bool} (h : (a && b && c) = true) : a = true ∧ b = true ∧ c = true := by
  simp only [Bool.and_eq_true] at h; exact ⟨h.1.1, h.1.2, h.2⟩
/-- a new list, not yet among what stands still -/
abbrev rlN (K : PySem.W.Frag) (φ : List Addr) (H0 : Hp) : Hp → Hp → V → D → Prop := fun F H v d => ∃ a vs ds, v = .ref a ∧ d = .lst ds ∧ ¬ Dm H0 a ∧ H a = some (.lst vs) ∧ F a = none ∧ RepA K φ F vs ds
def tN (K : PySem.W.Frag) (cl : List Addr) (call : Nat → List D → Sto → R D) (W : WX) (e : E) : TE := fun σ H Q =>
  ∃ P φ F env st, Rel K P φ F env st σ H ∧ Out K cl φ F H σ W (rlN K φ H) (evE call e env st) Q
def isNew : E → Bool
  | .lst _ => true
  | .lc _ _ _ _ _ => true
  | .lc2 _ _ _ _ _ _ _ _ => true
  | .bf .list _ => true
  | _ => false
/-- x = e, by its reading -/
def SetR (X : Cx) (x : Expr) (t : TE) : Prop := ∀ (i : Nat) (y : Str) (py spos : Pos), X.N[i]? = some y → L2.Loc X.env.scope y → (X.fn y = true ∨ X.env.scope.names.lookup y = some .local) → X.env.scope.kind = .function →
  PS X (.Assign [.Name y py] x spos) (tAsg t (gName i))
structure SE (cl : List Addr) (call : Nat → List D → Sto → R D) (X : Cx) (W : WX) (x : Expr) (e : E) : Prop where
  pe : PE X x (tE X.K cl call W e)
  pb : PE X x (tB X.K cl call W e)
  pt : PT X x (tBl X.K cl call W e)
  pw : ∀ op vs pos, x = .BoolOp op vs pos → PW X x (tBl X.K cl call W e)
  ps : SetR X x (tE X.K cl call W e)
  pn : isNew e = true → PE X x (tN X.K cl call W e)
  pz : isNew e = true → SetR X x (tN X.K cl call W e)
/-- not a comprehension -/
def noComp : Expr → Bool
  | .ListComp _ _ _ _ | .SetComp _ _ _ _ | .DictComp _ _ _ _ _ => false
  | _ => true
theorem setR_of {X : Cx} {x : Expr} {t : TE} (h : PE X x t) (hn : noComp x = true) (hc : X.env.scope.names.length = X.env.scope.names.length := rfl) (nd : X.N.Nodup) : SetR X x t := fun i y py spos h1 h2 h3 h4 =>
  ps_asg h (pg_name nd h1 h2 h3) (by cases x <;> first | rfl | cases hn) (by rfl)
theorem SE.gen {X : Cx} {Γ : Gam} {W : WX} {x : Expr} {e : E} (cx : Ctx X Γ cl n call) (h : PE X x (tE X.K cl call W e)) (hv : ∀ i, e ≠ .v i) (ht : ∀ whole, isTrue x X.env whole = (do let v ← whole; standAt x.pos; holding [v] (truthy v))) (hb : ∀ op vs pos, x ≠ .BoolOp op vs pos) (hn : noComp x = true) (hw : isNew e = false) : SE cl call X W x e :=
  ⟨h, sb_of hv h, st_gen h ht, fun op vs pos q => absurd q (hb op vs pos), setR_of h hn rfl cx.nd, fun q => (by rw [hw] at q; cases q), fun q => (by rw [hw] at q; cases q)⟩
theorem SE.new {X : Cx} {Γ : Gam} {W : WX} {x : Expr} {e : E} (cx : Ctx X Γ cl n call) (h : PE X x (tE X.K cl call W e)) (hN : isNew e = true → PE X x (tN X.K cl call W e)) (hv : ∀ i, e ≠ .v i) (ht : ∀ whole, isTrue x X.env whole = (do let v ← whole; standAt x.pos; holding [v] (truthy v))) (hb : ∀ op vs pos, x ≠ .BoolOp op vs pos) (hn : noComp x = true) : SE cl call X W x e :=
  ⟨h, sb_of hv h, st_gen h ht, fun op vs pos q => absurd q (hb op vs pos), setR_of h hn rfl cx.nd, hN, fun q => setR_of (hN q) hn rfl cx.nd⟩
theorem SE.tst {X : Cx} {Γ : Gam} {W : WX} {x : Expr} {e : E} (cx : Ctx X Γ cl n call) (h : PE X x (tE X.K cl call W e)) (hv : ∀ i, e ≠ .v i) (ht : PT X x (tBl X.K cl call W e)) (hb : ∀ op vs pos, x ≠ .BoolOp op vs pos) (hn : noComp x = true) (hw : isNew e = false) : SE cl call X W x e :=
  ⟨h, sb_of hv h, ht, fun op vs pos q => absurd q (hb op vs pos), setR_of h hn rfl cx.nd, fun q => (by rw [hw] at q; cases q), fun q => (by rw [hw] at q; cases q)⟩
theorem sn_lst {X : Cx} {W : WX} {xs : List Expr} {es : Es} {pos : Pos} (ha : PA X xs (tEs X.K cl call W es)) : PE X (.List xs pos) (tN X.K cl call W (.lst es)) :=
  PE.of (pe_lst ha) fun σ H Q ⟨P, φ, F, env, st, r, o⟩ => ⟨P, φ, F, env, st, r, Out.go (rl := rlA X.K) o r fun v H1 F1 d st1 r1 e1 q1 _ o1 => by
    obtain ⟨h1, h2⟩ := sized_ok o1
    refine ⟨by rw [q1.len]; exact h1, fun p hp => h2 _ _ _ (ext_new r1.sok hp) (r1.sok.new hp) ⟨p, v, d, rfl, rfl, ?_, upd_same, r1.sok.fresh hp, q1⟩⟩
    exact fun q => dm_not hp (e1.dom p q)⟩
theorem sn_list {X : Cx} {Γ : Gam} {W : WX} {es : Es} {y : Expr} {ys : List Expr} {pos p : Pos} (cx : Ctx X Γ cl n call) {x : Str} (hx : x = bfN .list) (hf : Γ.isFree x = true) (hn : ys.all notStar = true) (hy : notStar y = true) (ha : PA X (y :: ys) (tBs X.K cl call W es)) :
    PE X (.Call (.Name x p) (y :: ys) [] pos) (tN X.K cl call W (.bf .list es)) := by
  obtain ⟨h1, h2⟩ := cx.freeG hf
  obtain ⟨g1, g2, g3⟩ := cx.glo h1
  have hb := bf_boot .list
  rw [← hx] at hb
  refine PE.of (pe_callTy call_list_of g1 h2 hb ha g3 g2 (starEach_of hy ys X.env) (starAny hn pos X.env)) fun σ H Q ⟨P, φ, F, env, st, r, o⟩ => ⟨P, φ, F, env, st, r, Out.go (rl := rlBA X.K) o r fun vs H1 F1 ds st1 r1 e1 q1 _ o1 => ?_⟩
  have hh := o1.of
  clear o1
  obtain ⟨d, e, o1⟩ := hh
  obtain ⟨x, rfl⟩ := bfop_one e
  obtain ⟨v, rfl, rx⟩ := q1.one
  have fin : ∀ (a : Addr) (ws : List V) (xs : List D), d = .lst xs → RepA X.K φ F1 ws xs → ∀ p, H1 p = none → Q (.ref p) (upd H1 p (.lst ws)) := fun a ws xs ed ra p hp => by
    subst ed
    refine o1 _ _ _ (ext_new r1.sok hp) (r1.sok.new hp) ⟨p, ws, xs, rfl, rfl, ?_, upd_same, r1.sok.fresh hp, ra⟩
    exact fun q => dm_not hp (e1.dom p q)
  cases x <;> first | (simp [bfop] at e; done) | skip
  · cases e
    obtain ⟨a, vs, rfl, ha, r2⟩ := rx.lst r1.sok.le
    exact ⟨a, vs, rfl, .inl (SqL.of ha), fin a vs _ rfl r2⟩
  · cases e
    obtain ⟨a, vs, rfl, ha, r2⟩ := rx.tup r1.sok.le
    exact ⟨a, vs, rfl, .inr ha, fin a vs _ rfl r2⟩
theorem fin_E {K : PySem.W.Frag} {φ : List Addr} {F H : Hp} {σ : L2.St} {W : WX} {Q : VK} : Fin K cl φ F H σ W (rlE K φ) Q := fun F1 H1 F' H2 L st' ds e mk nL hL o => mk.done (cl := cl) (σ := σ) (W := W) nL hL o
theorem fin_N {K : PySem.W.Frag} {φ : List Addr} {F H : Hp} {σ : L2.St} {W : WX} {Q : VK} : Fin K cl φ F H σ W (rlN K φ H) Q := fun F1 H1 F' H2 L st' ds e mk nL hL o => by
  obtain ⟨acc, h1, h2⟩ := mk.at_
  obtain ⟨_, h⟩ := sized_ok o
  refine h _ _ _ mk.ext mk.sok ⟨L, acc, ds, rfl, rfl, ?_, h1, mk.nF, h2⟩
  exact fun q => dm_not hL (e.dom L q)
/-- which way the model stores: a comprehension's list goes to a local name on its line at once -/
theorem sw_lc {elt : Expr} {gs : List Comprehension} {scope : Scope} {pos py : Pos} {y : Str} {l : Nat} {env : PySem.Env} (hk : env.scope.kind = .function) :
    swapsWith (.ListComp elt gs scope pos) (some (.Name y py)) l env = pure (isLoc (env.scope.names.lookup y) && py.line == pos.line && !(scope.names.any fun (n, k) => n == y && (k == .local || k == .cell))) := by
  have hb : env.blockKind = .function := by unfold Env.blockKind; rw [hk]; rfl
  have hl : (env.kindOf y == some .local) = isLoc (env.scope.names.lookup y) := by
    show (env.scope.names.lookup y == some .local) = _
    cases env.scope.names.lookup y with
    | none => rfl
    | some k => cases k <;> rfl
  unfold swapsWith
  simp only [hb, hl, Expr.pos]
  rfl
theorem setLc_of {X : Cx} {elt tg iter : Expr} {ifs : List Expr} {scope : Scope} {own : List (Str × Nat)} {pos : Pos} {wi : TI} {g : TG} {tt : TT} {te : TE} (hc : X.calm = true) (hN : X.N.Nodup)
    (hi : PI X tg iter wi) (ok : BlkOk X.N X.env.scope scope own)
    (hg : ∀ (s : Shared) (H : Hp) (C : Addr) (cl : List (Str × Addr)) (fp : List Addr), PG (X.blk s H scope (compEnvC scope cl C X.env) fp) tg g) (ht : ∀ (s : Shared) (H : Hp) (C : Addr) (cl : List (Str × Addr)) (fp : List Addr), PTs (X.blk s H scope (compEnvC scope cl C X.env) fp) ifs tt)
    (he : ∀ (s : Shared) (H : Hp) (C : Addr) (cl : List (Str × Addr)) (fp : List Addr), PE (X.blk s H scope (compEnvC scope cl C X.env) fp) elt te) (hs : ∀ x, foldedSetIterable iter X.env x = pure x) :
    SetR X (.ListComp elt [⟨tg, iter, ifs, 0⟩] scope pos) (tLc wi g tt te (own.map (·.2))) := fun i y py spos h1 h2 h3 h4 => by
  have sw := sw_lc (elt := elt) (gs := [⟨tg, iter, ifs, 0⟩]) (scope := scope) (pos := pos) (py := py) (y := y) (l := spos.line) h4
  cases hb : (isLoc (X.env.scope.names.lookup y) && py.line == pos.line && !(scope.names.any fun (n, k) => n == y && (k == .local || k == .cell))) with
  | true =>
    rw [hb] at sw
    have hl : X.env.scope.names.lookup y = some .local := by
      have := (and3 hb).1
      revert this
      cases X.env.scope.names.lookup y with
      | none => intro q; cases q
      | some k => cases k <;> intro q <;> first | rfl | cases q
    exact ps_setLc hc hN h1 hl sw hi ok hg ht he hs
  | false =>
    rw [hb] at sw
    exact ps_asg (pe_lc hc hN hi ok hg ht he hs) (pg_name hN h1 h2 h3) sw (by rfl)
theorem setLc2_of {X : Cx} {elt tg iter tg1 iter1 : Expr} {ifs ifs1 : List Expr} {scope : Scope} {own : List (Str × Nat)} {vs1 : List Nat} {pos : Pos} {wi wi1 : TI} {g g1 : TG} {tt tt1 : TT} {te : TE} (hc : X.calm = true) (hN : X.N.Nodup)
    (hi : PI X tg iter wi) (ok : BlkOk X.N X.env.scope scope own) (hv : ∀ i ∈ vs1, i ∈ own.map (·.2))
    (hg : ∀ (s : Shared) (H : Hp) (C : Addr) (cl : List (Str × Addr)) (fp : List Addr), PG (X.blk s H scope (compEnvC scope cl C X.env) fp) tg g) (ht : ∀ (s : Shared) (H : Hp) (C : Addr) (cl : List (Str × Addr)) (fp : List Addr), PTs (X.blk s H scope (compEnvC scope cl C X.env) fp) ifs tt)
    (hi1 : ∀ (s : Shared) (H : Hp) (C : Addr) (cl : List (Str × Addr)) (fp : List Addr), PI (X.blk s H scope (compEnvC scope cl C X.env) fp) tg1 iter1 wi1)
    (hg1 : ∀ (s : Shared) (H : Hp) (C : Addr) (cl : List (Str × Addr)) (fp : List Addr), PG (X.blk s H scope (compEnvC scope cl C X.env) fp) tg1 g1) (ht1 : ∀ (s : Shared) (H : Hp) (C : Addr) (cl : List (Str × Addr)) (fp : List Addr), PTs (X.blk s H scope (compEnvC scope cl C X.env) fp) ifs1 tt1)
    (he : ∀ (s : Shared) (H : Hp) (C : Addr) (cl : List (Str × Addr)) (fp : List Addr), PE (X.blk s H scope (compEnvC scope cl C X.env) fp) elt te) (hs : ∀ x, foldedSetIterable iter X.env x = pure x) (hs1 : ∀ env x, foldedSetIterable iter1 env x = pure x) :
    SetR X (.ListComp elt [⟨tg, iter, ifs, 0⟩, ⟨tg1, iter1, ifs1, 0⟩] scope pos) (tLc2 wi g tt wi1 g1 tt1 te (own.map (·.2)) vs1) := fun i y py spos h1 h2 h3 h4 => by
  have sw := sw_lc (elt := elt) (gs := [⟨tg, iter, ifs, 0⟩, ⟨tg1, iter1, ifs1, 0⟩]) (scope := scope) (pos := pos) (py := py) (y := y) (l := spos.line) h4
  cases hb : (isLoc (X.env.scope.names.lookup y) && py.line == pos.line && !(scope.names.any fun (n, k) => n == y && (k == .local || k == .cell))) with
  | true =>
    rw [hb] at sw
    have hl : X.env.scope.names.lookup y = some .local := by
      have := (and3 hb).1
      revert this
      cases X.env.scope.names.lookup y with
      | none => intro q; cases q
      | some k => cases k <;> intro q <;> first | rfl | cases q
    exact ps_setLc2 hc hN h1 hl sw hi ok hv hg ht hi1 hg1 ht1 he hs hs1
  | false =>
    rw [hb] at sw
    exact ps_asg (pe_lc2 hc hN hi ok hv hg ht hi1 hg1 ht1 he hs hs1) (pg_name hN h1 h2 h3) sw (by rfl)
theorem SetR.of {X : Cx} {x : Expr} {t t' : TE} (h : SetR X x t) (w : ∀ σ H Q, t' σ H Q → t σ H Q) : SetR X x t' := fun i y py spos h1 h2 h3 h4 =>
  ⟨fun pins s σ H D I q => (h i y py spos h1 h2 h3 h4).run pins s σ H D I (w σ H _ q)⟩
theorem tk0 {X : Cx} : Takes X W0 := takes0
theorem pi_noMark {x : Expr} {env : PySem.Env} (h : noMark x = true) : ∀ v, foldedSetIterable x env v = pure v := fun v => by cases x <;> first | rfl | cases h
theorem isRev_of {s : Expr} (h : isRev s = true) : ∃ k p1 p2 p3, s = .Slice none none (some (.UnaryOp .USub (.Constant (.int 1) k p1) p2)) p3 := by
  unfold isRev at h
  split at h
  · exact ⟨_, _, _, _, rfl⟩
  · cases h
theorem chkI_noMark {it : IE} {Γ : Gam} {t : Bool} {x : Expr} (h : chkI it Γ t x = true) : noMark x = true := by
  cases it with
  | seq e => exact (Bool.and_eq_true_iff.mp h).1
  | _ => cases x <;> first | rfl | (simp [chkI] at h; done)
theorem own_map (Γ : Gam) (own : List Nat) : (ownN Γ own).map (·.2) = own := by
  unfold ownN
  rw [List.map_map]
  exact List.map_id _
theorem sub_of {us vs : List Nat} (h : us.all (vs.contains ·) = true) : ∀ i ∈ us, i ∈ vs := fun i hi => by
  have := List.all_eq_true.mp h i hi
  simpa using this
mutual
theorem sE : ∀ (e : E) (Γ : Gam) (x : Expr), chkE e Γ x = true → ∀ (X : Cx) (W : WX), Ctx X Γ cl n call → Takes X W → SE cl call X W x e
  | .k c, Γ, x, h, X, W, cx, tk => by
    cases x <;> first | (simp [chkE] at h; done) | skip
    exact .gen cx (se_k h) (fun i q => by cases q) (fun _ => rfl) (fun _ _ _ q => by cases q) rfl rfl
  | .v i, Γ, x, h, X, W, cx, tk => by
    cases x <;> first | (simp [chkE] at h; done) | skip
    exact ⟨se_v cx h, sb_v cx h, st_gen (se_v cx h) fun _ => rfl, fun _ _ _ q => (by cases q), setR_of (se_v cx h) rfl rfl cx.nd, fun q => (by cases q), fun q => (by cases q)⟩
  | .g y c, Γ, x, h, X, W, cx, tk => by
    cases x <;> first | (simp [chkE] at h; done) | skip
    exact .gen cx (se_g cx (Bool.and_eq_true_iff.mp h).2) (fun i q => by cases q) (fun _ => rfl) (fun _ _ _ q => by cases q) rfl rfl
  | .bin o a b, Γ, x, h, X, W, cx, tk => by
    cases x <;> first | (simp [chkE] at h; done) | skip
    obtain ⟨h1, h2, h3⟩ := and3 h
    exact .gen cx (se_bin h1 (sE a Γ _ h2 X W cx tk).pb (sE b Γ _ h3 X W cx tk).pb) (fun i q => by cases q) (fun _ => rfl) (fun _ _ _ q => by cases q) rfl rfl
  | .neg a, Γ, x, h, X, W, cx, tk => by
    cases x <;> first | (simp [chkE] at h; done) | skip
    rename_i op y pos
    cases op <;> first | (simp [chkE] at h; done) | skip
    exact .gen cx (se_neg (sE a Γ y h X W cx tk).pe) (fun i q => by cases q) (fun _ => rfl) (fun _ _ _ q => by cases q) rfl rfl
  | .not a, Γ, x, h, X, W, cx, tk => by
    cases x <;> first | (simp [chkE] at h; done) | skip
    rename_i op y pos
    cases op <;> first | (simp [chkE] at h; done) | skip
    have s := sE a Γ y h X W cx tk
    exact .tst cx (se_not s.pt s.pe) (fun i q => by cases q) (st_not s.pt) (fun _ _ _ q => by cases q) rfl rfl
  | .and a b, Γ, x, h, X, W, cx, tk => by
    cases x <;> first | (simp [chkE] at h; done) | skip
    rename_i op vs pos
    match op, vs, h with
    | .And, y :: z :: [], h =>
      obtain ⟨h1, h2⟩ := Bool.and_eq_true_iff.mp (show (chkE a Γ y && chkE b Γ z) = true from h)
      have sa := sE a Γ y h1 X W cx tk
      have sb := sE b Γ z h2 X W cx tk
      have w : PW X (.BoolOp .And (y :: z :: []) pos) (tBl X.K cl call W (.and a b)) := sw_and sa.pt (pw_and1 sb.pt)
      exact ⟨se_and sa.pe (pe_one sb.pe), sb_of (fun i q => by cases q) (se_and sa.pe (pe_one sb.pe)), w.pt, fun _ _ _ _ => w, setR_of (se_and sa.pe (pe_one sb.pe)) rfl rfl cx.nd, fun q => (by cases q), fun q => (by cases q)⟩
    | .And, y :: z :: z2 :: r, h =>
      obtain ⟨h1, h2⟩ := Bool.and_eq_true_iff.mp (show (chkE a Γ y && chkE b Γ (.BoolOp .And (z :: z2 :: r) pos)) = true from h)
      have sa := sE a Γ y h1 X W cx tk
      have sb := sE b Γ _ h2 X W cx tk
      have w : PW X (.BoolOp .And (y :: z :: z2 :: r) pos) (tBl X.K cl call W (.and a b)) := sw_and sa.pt (sb.pw _ _ _ rfl)
      exact ⟨se_and sa.pe sb.pe, sb_of (fun i q => by cases q) (se_and sa.pe sb.pe), w.pt, fun _ _ _ _ => w, setR_of (se_and sa.pe sb.pe) rfl rfl cx.nd, fun q => (by cases q), fun q => (by cases q)⟩
    | .Or, _, h => simp [chkE] at h
    | .And, [], h => simp [chkE] at h
    | .And, [_], h => simp [chkE] at h
  | .or a b, Γ, x, h, X, W, cx, tk => by
    cases x <;> first | (simp [chkE] at h; done) | skip
    rename_i op vs pos
    match op, vs, h with
    | .Or, y :: z :: [], h =>
      obtain ⟨h1, h2⟩ := Bool.and_eq_true_iff.mp (show (chkE a Γ y && chkE b Γ z) = true from h)
      have sa := sE a Γ y h1 X W cx tk
      have sb := sE b Γ z h2 X W cx tk
      have w : PW X (.BoolOp .Or (y :: z :: []) pos) (tBl X.K cl call W (.or a b)) := sw_or sa.pt (pw_or1 sb.pt)
      exact ⟨se_or sa.pe (pe_one sb.pe), sb_of (fun i q => by cases q) (se_or sa.pe (pe_one sb.pe)), w.pt, fun _ _ _ _ => w, setR_of (se_or sa.pe (pe_one sb.pe)) rfl rfl cx.nd, fun q => (by cases q), fun q => (by cases q)⟩
    | .Or, y :: z :: z2 :: r, h =>
      obtain ⟨h1, h2⟩ := Bool.and_eq_true_iff.mp (show (chkE a Γ y && chkE b Γ (.BoolOp .Or (z :: z2 :: r) pos)) = true from h)
      have sa := sE a Γ y h1 X W cx tk
      have sb := sE b Γ _ h2 X W cx tk
      have w : PW X (.BoolOp .Or (y :: z :: z2 :: r) pos) (tBl X.K cl call W (.or a b)) := sw_or sa.pt (sb.pw _ _ _ rfl)
      exact ⟨se_or sa.pe sb.pe, sb_of (fun i q => by cases q) (se_or sa.pe sb.pe), w.pt, fun _ _ _ _ => w, setR_of (se_or sa.pe sb.pe) rfl rfl cx.nd, fun q => (by cases q), fun q => (by cases q)⟩
    | .And, _, h => simp [chkE] at h
    | .Or, [], h => simp [chkE] at h
    | .Or, [_], h => simp [chkE] at h
  | .cmp o a b, Γ, x, h, X, W, cx, tk => by
    cases x <;> first | (simp [chkE] at h; done) | skip
    rename_i y ops zs pos
    match ops, zs, h with
    | [op], [z], h =>
      simp only [chkE, Bool.and_eq_true] at h
      obtain ⟨⟨⟨h1, h2⟩, h3⟩, h4⟩ := h
      have sa := sE a Γ y h3 X W cx tk
      have sb := sE b Γ z h4 X W cx tk
      exact .tst cx (se_cmp cx h1 h2 sa.pb sb.pb) (fun i q => by cases q) (st_cmp cx h1 h2 sa.pb sb.pb) (fun _ _ _ q => by cases q) rfl rfl
    | [], _, h => simp [chkE] at h
    | [_], [], h => simp [chkE] at h
    | [_], _ :: _ :: _, h => simp [chkE] at h
    | _ :: _ :: _, _, h => simp [chkE] at h
  | .chain o o' a b c, Γ, x, h, X, W, cx, tk => by
    cases x <;> first | (simp [chkE] at h; done) | skip
    rename_i y ops zs pos
    match ops, zs, h with
    | [op, op'], [z, z'], h =>
      simp only [chkE, Bool.and_eq_true] at h
      obtain ⟨⟨⟨⟨⟨h1, h2⟩, h3⟩, h4⟩, h5⟩, h6⟩ := h
      have sa := sE a Γ y h4 X W cx tk
      have sb := sE b Γ z h5 X W cx tk
      have sc := sE c Γ z' h6 X W cx tk
      exact .tst cx (se_chain cx h1 h2 h3 sa.pb sb.pb sc.pb) (fun i q => by cases q) (st_chain cx h1 h2 h3 sa.pb sb.pb sc.pb) (fun _ _ _ q => by cases q) rfl rfl
    | [], _, h => simp [chkE] at h
    | [_], _, h => simp [chkE] at h
    | [_, _], [], h => simp [chkE] at h
    | [_, _], [_], h => simp [chkE] at h
    | [_, _], _ :: _ :: _ :: _, h => simp [chkE] at h
    | _ :: _ :: _ :: _, _, h => simp [chkE] at h
  | .ite c a b, Γ, x, h, X, W, cx, tk => by
    cases x <;> first | (simp [chkE] at h; done) | skip
    obtain ⟨h1, h2, h3⟩ := and3 h
    have sc := sE c Γ _ h1 X W cx tk
    have sa := sE a Γ _ h2 X W cx tk
    have sb := sE b Γ _ h3 X W cx tk
    exact .tst cx (se_ite sc.pt sa.pe sb.pe) (fun i q => by cases q) (st_ite sc.pt sa.pt sb.pt) (fun _ _ _ q => by cases q) rfl rfl
  | .tup es, Γ, x, h, X, W, cx, tk => by
    cases x <;> first | (simp [chkE] at h; done) | skip
    exact .gen cx (se_tup (sEs es Γ _ h X W cx tk)) (fun i q => by cases q) (fun _ => rfl) (fun _ _ _ q => by cases q) rfl rfl
  | .lst es, Γ, x, h, X, W, cx, tk => by
    cases x <;> first | (simp [chkE] at h; done) | skip
    exact .new cx (se_lst (sEs es Γ _ h X W cx tk)) (fun _ => sn_lst (sEs es Γ _ h X W cx tk)) (fun i q => by cases q) (fun _ => rfl) (fun _ _ _ q => by cases q) rfl
  | .ix a b, Γ, x, h, X, W, cx, tk => by
    cases x <;> first | (simp [chkE] at h; done) | skip
    obtain ⟨h1, h2, h3⟩ := and3 h
    exact .gen cx (se_ix h1 (sE a Γ _ h2 X W cx tk).pb (sE b Γ _ h3 X W cx tk).pb) (fun i q => by cases q) (fun _ => rfl) (fun _ _ _ q => by cases q) rfl rfl
  | .sl a lo hi, Γ, x, h, X, W, cx, tk => by
    cases x <;> first | (simp [chkE] at h; done) | skip
    rename_i y s pos
    cases s <;> first | (simp [chkE] at h; done) | skip
    rename_i l u st p
    cases st <;> first | (simp [chkE] at h; done) | skip
    obtain ⟨h1, h2, h3⟩ := and3 h
    exact .gen cx (se_sl (sE a Γ _ h1 X W cx tk).pb (sO lo Γ _ h2 X W cx tk) (sO hi Γ _ h3 X W cx tk)) (fun i q => by cases q) (fun _ => rfl) (fun _ _ _ q => by cases q) rfl rfl
  | .rev a, Γ, x, h, X, W, cx, tk => by
    cases x <;> first | (simp [chkE] at h; done) | skip
    obtain ⟨h1, h2⟩ := Bool.and_eq_true_iff.mp h
    obtain ⟨k, p1, p2, p3, rfl⟩ := isRev_of h1
    exact .gen cx (se_rev (sE a Γ _ h2 X W cx tk).pb) (fun i q => by cases q) (fun _ => rfl) (fun _ _ _ q => by cases q) rfl rfl
  | .sumL a, Γ, x, h, X, W, cx, tk => by
    cases x <;> first | (simp [chkE] at h; done) | skip
    rename_i fn args kws pos
    cases fn <;> first | (simp [chkE] at h; done) | skip
    match args, kws, h with
    | [y, .List [] p2], [], h =>
      simp only [chkE, Bool.and_eq_true, decide_eq_true_eq] at h
      obtain ⟨⟨⟨h1, h2⟩, h3⟩, h4⟩ := h
      exact .gen cx (se_sumL cx h1 h2 h3 (sE a Γ _ h4 X W cx tk).pb) (fun i q => by cases q) (fun _ => rfl) (fun _ _ _ q => by cases q) rfl rfl
    | [], _, h => simp [chkE] at h
    | [_], _, h => simp [chkE] at h
    | [_, _], _ :: _, h => simp [chkE] at h
    | _ :: _ :: _ :: _, _, h => simp [chkE] at h
    | [_, z], [], h =>
      cases z <;> first | (simp [chkE] at h; done) | skip
      rename_i es p2
      cases es with
      | cons a l => simp [chkE] at h
      | nil => 
        simp only [chkE, Bool.and_eq_true, decide_eq_true_eq] at h
        obtain ⟨⟨⟨h1, h2⟩, h3⟩, h4⟩ := h
        exact .gen cx (se_sumL cx h1 h2 h3 (sE a Γ _ h4 X W cx tk).pb) (fun i q => by cases q) (fun _ => rfl) (fun _ _ _ q => by cases q) rfl rfl
  | .join a b, Γ, x, h, X, W, cx, tk => by
    cases x <;> first | (simp [chkE] at h; done) | skip
    rename_i fn args kws pos
    cases fn <;> first | (simp [chkE] at h; done) | skip
    rename_i o nm ap
    cases o <;> first | (simp [chkE] at h; done) | skip
    match args, kws, h with
    | [y], [], h =>
      simp only [chkE, Bool.and_eq_true, decide_eq_true_eq] at h
      obtain ⟨⟨⟨⟨h1, h2⟩, h3⟩, h4⟩, h5⟩ := h
      exact .gen cx (se_join cx h1 h2 h3 (sE a Γ _ (by simpa only [chkE] using h4) X W cx tk).pb (sE b Γ _ h5 X W cx tk).pb) (fun i q => by cases q) (fun _ => rfl) (fun _ _ _ q => by cases q) rfl rfl
    | [], _, h => simp [chkE] at h
    | [_], _ :: _, h => simp [chkE] at h
    | _ :: _ :: _, _, h => simp [chkE] at h
  | .cnt a b, Γ, x, h, X, W, cx, tk => by
    cases x <;> first | (simp [chkE] at h; done) | skip
    rename_i fn args kws pos
    cases fn <;> first | (simp [chkE] at h; done) | skip
    rename_i o nm ap
    cases o <;> first | (simp [chkE] at h; done) | skip
    match args, kws, h with
    | [y], [], h =>
      simp only [chkE, Bool.and_eq_true, decide_eq_true_eq] at h
      obtain ⟨⟨⟨⟨h1, h2⟩, h3⟩, h4⟩, h5⟩ := h
      exact .gen cx (se_cnt h1 h2 h3 (sE a Γ _ (by simpa only [chkE] using h4) X W cx tk).pb (sE b Γ _ h5 X W cx tk).pe) (fun i q => by cases q) (fun _ => rfl) (fun _ _ _ q => by cases q) rfl rfl
    | [], _, h => simp [chkE] at h
    | [_], _ :: _, h => simp [chkE] at h
    | _ :: _ :: _, _, h => simp [chkE] at h
  | .stp a lo m, Γ, x, h, X, W, cx, tk => by
    cases x <;> first | (simp [chkE] at h; done) | skip
    rename_i y s pos
    cases s <;> first | (simp [chkE] at h; done) | skip
    rename_i l u st p
    cases l <;> first | (simp [chkE] at h; done) | skip
    cases u <;> first | (simp [chkE] at h; done) | skip
    cases st <;> first | (simp [chkE] at h; done) | skip
    obtain ⟨h1, h2, h3⟩ := and3 h
    exact .gen cx (se_stp (sE a Γ _ h1 X W cx tk).pb (sE lo Γ _ h2 X W cx tk).pe (sE m Γ _ h3 X W cx tk).pe) (fun i q => by cases q) (fun _ => rfl) (fun _ _ _ q => by cases q) rfl rfl
  | .call f es, Γ, x, h, X, W, cx, tk => by
    cases x <;> first | (simp [chkE] at h; done) | skip
    rename_i fn args kws pos
    cases fn <;> first | (simp [chkE] at h; done) | skip
    match args, kws, h with
    | y :: ys, [], h =>
      obtain ⟨h1, h2, h3⟩ := and3 h
      cases hs : (y :: ys).all notStar with
      | true =>
        rw [List.all_cons, Bool.and_eq_true] at hs
        exact .gen cx (se_call cx tk h1 hs.2 hs.1 (sEs es Γ _ h3 X W cx tk)) (fun i q => by cases q) (fun _ => rfl) (fun _ _ _ q => by cases q) rfl rfl
      | false =>
        rw [hs, Bool.false_or] at h2
        cases ys with
        | nil => cases h2
        | cons u ys => exact .gen cx (se_callS cx tk h1 hs (sEs es Γ _ h3 X W cx tk)) (fun i q => by cases q) (fun _ => rfl) (fun _ _ _ q => by cases q) rfl rfl
    | [], _, h => simp [chkE] at h
    | _ :: _, _ :: _, h => simp [chkE] at h
  | .bf b es, Γ, x, h, X, W, cx, tk => by
    cases x <;> first | (simp [chkE] at h; done) | skip
    rename_i fn args kws pos
    cases fn <;> first | (simp [chkE] at h; done) | skip
    match args, kws, h with
    | y :: ys, [], h =>
      simp only [chkE, Bool.and_eq_true, decide_eq_true_eq] at h
      obtain ⟨⟨⟨h1, h2⟩, h3⟩, h4⟩ := h
      have h3' : (y :: ys).all notStar = true := h3
      rw [List.all_cons, Bool.and_eq_true] at h3'
      have sb := sBs es Γ _ h4 h3 X W cx tk
      refine .new cx (se_bf cx h1 h2 h3'.2 h3'.1 sb) (fun q => ?_) (fun i q => by cases q) (fun _ => rfl) (fun _ _ _ q => by cases q) rfl
      cases b <;> first | (cases q; done) | skip
      exact sn_list cx h1 h2 h3'.2 h3'.1 sb
    | [], _, h => simp [chkE] at h
    | _ :: _, _ :: _, h => simp [chkE] at h
  | .refu c e due, Γ, x, h, X, W, cx, tk => by
    have h : (match refC x with
      | some z => Γ.lam && Γ.isRefu z.x c && notStar z.y && LamX.lamSB Γ.sc z.scope && chkE e (Γ.lamG z.scope) z.body && chkE due Γ z.y
      | none => false) = true := h
    cases hz : refC x with
    | none => rw [hz] at h; cases h
    | some z =>
      rw [hz] at h
      rw [refC_eq hz]
      simp only [Bool.and_eq_true] at h
      obtain ⟨⟨⟨⟨⟨h1, h2⟩, h3⟩, h4⟩, h5⟩, h6⟩ := h
      exact .gen cx (se_refu cx tk h1 h2 h3 h4 (fun X' W' cx' tk' => (sE e (Γ.lamG z.scope) z.body h5 X' W' cx' tk').pe) (sE due Γ z.y h6 X W cx tk).pe) (fun i q => by cases q) (fun _ => rfl) (fun _ _ _ q => by cases q) rfl rfl
  | .isI a t, Γ, x, h, X, W, cx, tk => by
    cases x <;> first | (simp [chkE] at h; done) | skip
    rename_i fn args kws pos
    cases fn <;> first | (simp [chkE] at h; done) | skip
    match args, kws, h with
    | [y, z], [], h =>
      cases z <;> first | (simp [chkE] at h; done) | skip
      simp only [chkE, Bool.and_eq_true, decide_eq_true_eq] at h
      obtain ⟨⟨⟨⟨h1, h2⟩, h3⟩, h4⟩, h5⟩ := h
      exact .gen cx (se_isI cx h1 h2 h3 h4 (chkE_notStar h5) (sE a Γ _ h5 X W cx tk).pb) (fun i q => by cases q) (fun _ => rfl) (fun _ _ _ q => by cases q) rfl rfl
    | [], _, h => simp [chkE] at h
    | [_], _, h => simp [chkE] at h
    | [_, _], _ :: _, h => simp [chkE] at h
    | _ :: _ :: _ :: _, _, h => simp [chkE] at h
  | .lc elt tg it ifs own, Γ, x, h, X, W, cx, tk => by
    cases x <;> first | (simp [chkE] at h; done) | skip
    rename_i elt' gs scope pos
    match gs, h with
    | [⟨tg', it', ifs', k⟩], h =>
      by_cases hk : k = 0
      · subst hk
        simp only [chkE, Bool.and_eq_true] at h
        obtain ⟨⟨⟨⟨⟨h1, h2⟩, h3⟩, h4⟩, h5⟩, h6⟩ := h
        have ii := sI it Γ tg' it' h2 X W cx tk
        have bo : BlkOk X.N X.env.scope scope (ownN Γ own) := blkOk_by (by rw [cx.N, cx.sc]; exact h1)
        have gg := fun s H C cv fp => pg_of (cx.blk s H scope C cv fp) h4
        have tt := fun s H C cv fp => sTs ifs _ _ h5 _ W0 (cx.blk s H scope C cv fp) tk0
        have ee := fun s H C cv fp => (sE elt _ _ h6 _ W0 (cx.blk s H scope C cv fp) tk0).pe
        have nm := pi_noMark (env := X.env) (chkI_noMark h2)
        have q := pe_lc (pos := pos) (elt := elt') (ifs := ifs') (g := tgR X.K tg) (tt := tTs X.K cl call W0 ifs) (te := tE X.K cl call W0 elt) cx.calm cx.nd ii bo gg tt ee nm
        have q2 := setLc_of (pos := pos) (elt := elt') (ifs := ifs') (g := tgR X.K tg) (tt := tTs X.K cl call W0 ifs) (te := tE X.K cl call W0 elt) cx.calm cx.nd ii bo gg tt ee nm
        rw [own_map] at q q2
        have pe : PE X (.ListComp elt' [⟨tg', it', ifs', 0⟩] scope pos) (tE X.K cl call W (.lc elt tg it ifs own)) := PE.of q fun σ H Q ⟨P, φ, F, env, st, r, o⟩ => lc_run (sub_of h3) r o fin_E
        have pn : PE X (.ListComp elt' [⟨tg', it', ifs', 0⟩] scope pos) (tN X.K cl call W (.lc elt tg it ifs own)) := PE.of q fun σ H Q ⟨P, φ, F, env, st, r, o⟩ => lc_run (sub_of h3) r o fin_N
        exact ⟨pe, sb_of (fun i q => by cases q) pe, st_gen pe fun _ => rfl, fun _ _ _ q => (by cases q), q2.of fun σ H Q ⟨P, φ, F, env, st, r, o⟩ => lc_run (sub_of h3) r o fin_E, fun _ => pn, fun _ => q2.of fun σ H Q ⟨P, φ, F, env, st, r, o⟩ => lc_run (sub_of h3) r o fin_N⟩
      · simp [chkE, hk] at h
    | [], h => simp [chkE] at h
    | _ :: _ :: _, h => simp [chkE] at h
  | .lc2 elt tg it tg2 it2 ifs own own2, Γ, x, h, X, W, cx, tk => by
    cases x <;> first | (simp [chkE] at h; done) | skip
    rename_i elt' gs scope pos
    match gs, h with
    | [⟨tg', it', [], k⟩, ⟨tg2', it2', ifs', k2⟩], h =>
      by_cases hk : k = 0
      · by_cases hk2 : k2 = 0
        · subst hk hk2
          simp only [chkE, Bool.and_eq_true] at h
          obtain ⟨⟨⟨⟨⟨⟨⟨⟨⟨h1, h2⟩, h3⟩, h4⟩, h5⟩, h6⟩, h7⟩, h8⟩, h9⟩, h10⟩ := h
          have ii := sI it Γ tg' it' h2 X W cx tk
          have bo : BlkOk X.N X.env.scope scope (ownN Γ own) := blkOk_by (by rw [cx.N, cx.sc]; exact h1)
          have gg := fun s H C cv fp => pg_of (cx.blk s H scope C cv fp) h4
          have jj := fun s H C cv fp => sI it2 _ tg2' it2' h5 _ W0 (cx.blk s H scope C cv fp) tk0
          have gg2 := fun s H C cv fp => pg_of (cx.blk s H scope C cv fp) h8
          have tt := fun s H C cv fp => sTs ifs _ _ h9 _ W0 (cx.blk s H scope C cv fp) tk0
          have ee := fun s H C cv fp => (sE elt _ _ h10 _ W0 (cx.blk s H scope C cv fp) tk0).pe
          have nm := pi_noMark (env := X.env) (chkI_noMark h2)
          have nm2 : ∀ env x, foldedSetIterable it2' env x = pure x := fun env => pi_noMark (chkI_noMark h5)
          have sv : ∀ i ∈ own2, i ∈ (ownN Γ own).map (·.2) := by rw [own_map]; exact sub_of h7
          have q := pe_lc2 (pos := pos) (vs1 := own2) (elt := elt') (ifs := []) (ifs1 := ifs') (g := tgR X.K tg) (tt := tYes) (wi1 := tIt X.K cl call W0 it2) (g1 := tgR X.K tg2) (tt1 := tTs X.K cl call W0 ifs) (te := tE X.K cl call W0 elt) cx.calm cx.nd ii bo sv gg (fun s H C cv fp => pts_nil) jj gg2 tt ee nm nm2
          have q2 := setLc2_of (pos := pos) (vs1 := own2) (elt := elt') (ifs := []) (ifs1 := ifs') (g := tgR X.K tg) (tt := tYes) (wi1 := tIt X.K cl call W0 it2) (g1 := tgR X.K tg2) (tt1 := tTs X.K cl call W0 ifs) (te := tE X.K cl call W0 elt) cx.calm cx.nd ii bo sv gg (fun s H C cv fp => pts_nil) jj gg2 tt ee nm nm2
          rw [own_map] at q q2
          have pe : PE X (.ListComp elt' [⟨tg', it', [], 0⟩, ⟨tg2', it2', ifs', 0⟩] scope pos) (tE X.K cl call W (.lc2 elt tg it tg2 it2 ifs own own2)) := PE.of q fun σ H Q ⟨P, φ, F, env, st, r, o⟩ => lc2_run (sub_of h3) (sub_of h6) r o fin_E
          have pn : PE X (.ListComp elt' [⟨tg', it', [], 0⟩, ⟨tg2', it2', ifs', 0⟩] scope pos) (tN X.K cl call W (.lc2 elt tg it tg2 it2 ifs own own2)) := PE.of q fun σ H Q ⟨P, φ, F, env, st, r, o⟩ => lc2_run (sub_of h3) (sub_of h6) r o fin_N
          exact ⟨pe, sb_of (fun i q => by cases q) pe, st_gen pe fun _ => rfl, fun _ _ _ q => (by cases q), q2.of fun σ H Q ⟨P, φ, F, env, st, r, o⟩ => lc2_run (sub_of h3) (sub_of h6) r o fin_E, fun _ => pn, fun _ => q2.of fun σ H Q ⟨P, φ, F, env, st, r, o⟩ => lc2_run (sub_of h3) (sub_of h6) r o fin_N⟩
        · simp [chkE, hk2] at h
      · simp [chkE, hk] at h
    | [], h => simp [chkE] at h
    | [_], h => simp [chkE] at h
    | [⟨_, _, _ :: _, _⟩, _], h => simp [chkE] at h
    | _ :: _ :: _ :: _, h => simp [chkE] at h
theorem sEs : ∀ (es : Es) (Γ : Gam) (xs : List Expr), chkEs es Γ xs = true → ∀ (X : Cx) (W : WX), Ctx X Γ cl n call → Takes X W → PA X xs (tEs X.K cl call W es)
  | .nil, Γ, xs, h, X, W, cx, tk => by
    cases xs with
    | nil => exact sa_nil
    | cons x r => simp [chkEs] at h
  | .cons e es, Γ, xs, h, X, W, cx, tk => by
    cases xs with
    | nil => simp [chkEs] at h
    | cons x r =>
      obtain ⟨h1, h2⟩ := Bool.and_eq_true_iff.mp (show (chkE e Γ x && chkEs es Γ r) = true from h)
      exact sa_cons (sE e Γ x h1 X W cx tk).pe (chkE_notStar h1) (sEs es Γ r h2 X W cx tk)
  | .star e es, Γ, xs, h, X, W, cx, tk => by
    cases xs with
    | nil => simp [chkEs] at h
    | cons x r =>
      cases x <;> first | (simp [chkEs] at h; done) | skip
      obtain ⟨h1, h2⟩ := Bool.and_eq_true_iff.mp (show (chkE e Γ _ && chkEs es Γ r) = true from h)
      exact sa_star (sE e Γ _ h1 X W cx tk).pb (sEs es Γ r h2 X W cx tk)
theorem sBs : ∀ (es : Es) (Γ : Gam) (xs : List Expr), chkEs es Γ xs = true → xs.all notStar = true → ∀ (X : Cx) (W : WX), Ctx X Γ cl n call → Takes X W → PA X xs (tBs X.K cl call W es)
  | .nil, Γ, xs, h, hn, X, W, cx, tk => by
    cases xs with
    | nil => exact ba_nil
    | cons x r => simp [chkEs] at h
  | .cons e es, Γ, xs, h, hn, X, W, cx, tk => by
    cases xs with
    | nil => simp [chkEs] at h
    | cons x r =>
      obtain ⟨h1, h2⟩ := Bool.and_eq_true_iff.mp (show (chkE e Γ x && chkEs es Γ r) = true from h)
      rw [List.all_cons, Bool.and_eq_true] at hn
      exact ba_cons (sE e Γ x h1 X W cx tk).pb (chkE_notStar h1) (sBs es Γ r h2 hn.2 X W cx tk)
  | .star e es, Γ, xs, h, hn, X, W, cx, tk => by
    cases xs with
    | nil => simp [chkEs] at h
    | cons x r =>
      cases x <;> first | (simp [chkEs] at h; done) | skip
      simp [notStar] at hn
theorem sO : ∀ (es : Es) (Γ : Gam) (x : Option Expr), chkO es Γ x = true → ∀ (X : Cx) (W : WX), Ctx X Γ cl n call → Takes X W → PO X x (tOp1 X.K cl call W es)
  | .nil, Γ, x, h, X, W, cx, tk => by
    cases x with
    | none => exact so_nil
    | some x => simp [chkO] at h
  | .cons e es, Γ, x, h, X, W, cx, tk => by
    cases x with
    | none => simp [chkO] at h
    | some x => exact so_some (sE e Γ x h X W cx tk).pe
  | .star e es, Γ, x, h, X, W, cx, tk => by simp [chkO] at h
theorem sTs : ∀ (es : Es) (Γ : Gam) (xs : List Expr), chkT es Γ xs = true → ∀ (X : Cx) (W : WX), Ctx X Γ cl n call → Takes X W → PTs X xs (tTs X.K cl call W es)
  | .nil, Γ, xs, h, X, W, cx, tk => by
    cases xs with
    | nil => exact PTs.of pts_nil fun σ H Q ⟨P, φ, F, env, st, r, o⟩ => Out.here (rl := rlT) o r.sok rfl
    | cons x r => simp [chkT] at h
  | .cons e es, Γ, xs, h, X, W, cx, tk => by
    match xs, h with
    | [x], h => exact pts_one (sE e Γ x h X W cx tk).pt
    | [], h => simp [chkT] at h
    | _ :: _ :: _, h => simp [chkT] at h
  | .star e es, Γ, xs, h, X, W, cx, tk => by simp [chkT] at h
theorem sI : ∀ (it : IE) (Γ : Gam) (tg x : Expr), chkI it Γ (isTup tg) x = true → ∀ (X : Cx) (W : WX), Ctx X Γ cl n call → Takes X W → PI X tg x (tIt X.K cl call W it)
  | .seq e, Γ, tg, x, h, X, W, cx, tk => si_seq (sE e Γ x (Bool.and_eq_true_iff.mp h).2 X W cx tk).pe
  | .rng1 a, Γ, tg, x, h, X, W, cx, tk => by
    cases x <;> first | (simp [chkI] at h; done) | skip
    rename_i fn as kws pos
    cases fn <;> first | (simp [chkI] at h; done) | skip
    match as, kws, h with
    | [y], [], h =>
      simp only [chkI, Bool.and_eq_true, decide_eq_true_eq] at h
      exact si_rng1 cx h.1.1 h.1.2 (chkE_notStar h.2) (sE a Γ _ h.2 X W cx tk).pe
    | [], _, h => simp [chkI] at h
    | [_], _ :: _, h => simp [chkI] at h
    | _ :: _ :: _, _, h => simp [chkI] at h
  | .rng2 a b, Γ, tg, x, h, X, W, cx, tk => by
    cases x <;> first | (simp [chkI] at h; done) | skip
    rename_i fn as kws pos
    cases fn <;> first | (simp [chkI] at h; done) | skip
    match as, kws, h with
    | [y, z], [], h =>
      simp only [chkI, Bool.and_eq_true, decide_eq_true_eq] at h
      exact si_rng2 cx h.1.1.1 h.1.1.2 (chkE_notStar h.1.2) (chkE_notStar h.2) (sE a Γ _ h.1.2 X W cx tk).pe (sE b Γ _ h.2 X W cx tk).pe
    | [], _, h => simp [chkI] at h
    | [_], _, h => simp [chkI] at h
    | [_, _], _ :: _, h => simp [chkI] at h
    | _ :: _ :: _ :: _, _, h => simp [chkI] at h
  | .rng3 es, Γ, tg, x, h, X, W, cx, tk => by
    cases x <;> first | (simp [chkI] at h; done) | skip
    rename_i fn as kws pos
    cases fn <;> first | (simp [chkI] at h; done) | skip
    match as, kws, h with
    | [y, z, w], [], h =>
      simp only [chkI, Bool.and_eq_true, decide_eq_true_eq] at h
      exact si_rng3 cx h.1.1.1.1.1 h.1.1.1.1.2 h.1.1.1.2 h.1.1.2 h.1.2 (sEs es Γ _ h.2 X W cx tk)
    | [], _, h => simp [chkI] at h
    | [_], _, h => simp [chkI] at h
    | [_, _], _, h => simp [chkI] at h
    | [_, _, _], _ :: _, h => simp [chkI] at h
    | _ :: _ :: _ :: _ :: _, _, h => simp [chkI] at h
  | .enum e, Γ, tg, x, h, X, W, cx, tk => by
    cases x <;> first | (simp [chkI] at h; done) | skip
    rename_i fn as kws pos
    cases fn <;> first | (simp [chkI] at h; done) | skip
    match as, kws, h with
    | [y], [], h =>
      simp only [chkI, Bool.and_eq_true, decide_eq_true_eq] at h
      exact si_enum cx h.1.1.1 h.1.1.2 h.1.2 (chkE_notStar h.2) (sE e Γ _ h.2 X W cx tk).pe
    | [], _, h => simp [chkI] at h
    | [_], _ :: _, h => simp [chkI] at h
    | _ :: _ :: _, _, h => simp [chkI] at h
  | .zip a b, Γ, tg, x, h, X, W, cx, tk => by
    cases x <;> first | (simp [chkI] at h; done) | skip
    rename_i fn as kws pos
    cases fn <;> first | (simp [chkI] at h; done) | skip
    match as, kws, h with
    | [y, z], [], h =>
      simp only [chkI, Bool.and_eq_true, decide_eq_true_eq] at h
      exact si_zip cx h.1.1.1.1 h.1.1.1.2 h.1.1.2 (chkE_notStar h.1.2) (chkE_notStar h.2) (sE a Γ _ h.1.2 X W cx tk).pe (sE b Γ _ h.2 X W cx tk).pe
    | [], _, h => simp [chkI] at h
    | [_], _, h => simp [chkI] at h
    | [_, _], _ :: _, h => simp [chkI] at h
    | _ :: _ :: _ :: _, _, h => simp [chkI] at h
end
end
end Eng
end

section
set_option autoImplicit false
namespace Eng
open PySem PySem.Spec PyProof.Rows L2

/-! ## statements -/
def freezeE (env : Env) : List Nat → Env
  | [] => env
  | i :: is => freezeE (match sget env i with | .own ds => env.set i (.val (.lst ds)) | _ => env) is
abbrev RS := R (Fl × Env)
def lift {α : Type} (r : R α) (env : Env) (k : α → Sto → RS) : RS := match r with
  | .ok a s => k a s
  | .exc x s => .ok (.ex x, env) s
  | .stuck => .stuck
/-- what a slot takes: data, or a new list as its own -/
def slotOf (own : Bool) (e : E) (d : D) : Option Sl := match own with
  | false => some (.val d)
  | true => match isNew e with
    | true => match d with
      | .lst ds => some (.own ds)
      | _ => none
    | false => none
def slotR (own : Bool) (e : E) (r : R D) : R Sl := r.bind fun d s => .of (slotOf own e d) s
def augop (o : BOp) (x y : D) : Option D := match x, y with
  | .int i, .int j => match o with
    | .add => binop o (.int i) (.int j)
    | .sub => binop o (.int i) (.int j)
    | .mul => binop o (.int i) (.int j)
    | .fdiv => match decide (0 < j) && decide (j < 1073741824) with
      | true => some (.int (i / j))
      | false => none
    | _ => none
  | .str a, .str b => match o with
    | .add => binop o (.str a) (.str b)
    | _ => none
  | _, _ => none
def loopF (set : D → Env → Option Env) (body : Env → Sto → RS) : List D → Env → Sto → RS
  | [], env, s => .ok (.nx, env) s
  | d :: r, env, s => match set d env with
    | none => .stuck
    | some env1 => (body env1 s).bind fun p s1 => match p.1 with
      | .nx => loopF set body r p.2 s1
      | .ct => loopF set body r p.2 s1
      | .bk => .ok (.nx, p.2) s1
      | .rt d => .ok (.rt d, p.2) s1
      | .ex x => .ok (.ex x, p.2) s1
def loopW (test : Env → Sto → R Bool) (body : Env → Sto → RS) : Nat → Env → Sto → RS
  | 0, _, _ => .stuck
  | n + 1, env, s => lift (test env s) env fun c s1 => match c with
    | false => .ok (.nx, env) s1
    | true => (body env s1).bind fun p s2 => match p.1 with
      | .nx => loopW test body n p.2 s2
      | .ct => loopW test body n p.2 s2
      | .bk => .ok (.nx, p.2) s2
      | .rt d => .ok (.rt d, p.2) s2
      | .ex x => .ok (.ex x, p.2) s2
def evHd (th : D) (env : Env) : Hd → Option Fl
  | .ret b => (evHB th env b).map fun c => .rt (.bl c)
  | .ifret b c => (evHB th env b).map fun t => match t with
    | true => .rt (.bl c)
    | false => .nx
  | .retB c => some (.rt (.bl c))
def tryR (c i : Nat) (h : Hd) (r : RS) : RS := r.bind fun p s1 => match p.1 with
  | .ex x => match decide (x.cls = c) with
    | true => match decide (i < p.2.length) with
      | true => match evHd x.thing (p.2.set i .un) h with
        | some fl => .ok (fl, p.2.set i .un) s1
        | none => .stuck
      | false => .stuck
    | false => .ok (.ex x, p.2) s1
  | fl => .ok (fl, p.2) s1
section
variable (call : Nat → List D → Sto → R D) (L : Nat)
mutual
def evS : S → Env → Sto → RS
  | .fz is s, env, st => evS s (freezeE env is) st
  | .asg o i e, env, st => lift (slotR o e (evE call e env st)) env fun x s1 => .ok (.nx, env.set i x) s1
  | .newref i e, env, st => match isNew e with
    | true => lift (evE call e env st) env fun d s1 => match d with
      | .lst ds => .ok (.nx, env.set i (.val (.ref s1.length))) (s1 ++ [ds])
      | _ => .stuck
    | false => .stuck
  | .unp is e, env, st => lift (evE call e env st) env fun d s1 => match tgSet (.many is) d env with
    | some env1 => .ok (.nx, env1) s1
    | none => .stuck
  | .unpl is e, env, st => lift (evE call e env st) env fun d s1 => match lsSet is d env with
    | some env1 => .ok (.nx, env1) s1
    | none => .stuck
  | .par2 i o1 a j o2 b, env, st => lift (slotR o1 a (evE call a env st)) env fun x s1 => lift (slotR o2 b (evE call b env s1)) env fun y s2 => .ok (.nx, (env.set i x).set j y) s2
  | .par3 i o1 a j o2 b k o3 c, env, st => lift (slotR o1 a (evE call a env st)) env fun x s1 => lift (slotR o2 b (evE call b env s1)) env fun y s2 => lift (slotR o3 c (evE call c env s2)) env fun z s3 => .ok (.nx, ((env.set i x).set j y).set k z) s3
  | .aug i o e, env, st => match sget env i with
    | .val x => lift ((rdB e env st (evE call e env st)).bind fun y s1 => .of (augop o x y) s1) env fun z s2 => .ok (.nx, env.set i (.val z)) s2
    | _ => .stuck
  | .app i e, env, st => match sget env i with
    | .own ds => lift (evE call e env st) env fun d s1 => match decide (ds.length < sizeLine) with
      | true => .ok (.nx, env.set i (.own (ds ++ [d]))) s1
      | false => .stuck
    | _ => .stuck
  | .ext i e, env, st => match sget env i with
    | .own ds => lift (rdB e env st (evE call e env st)) env fun d s1 => match d with
      | .lst es => match decide (ds.length + es.length ≤ sizeLine) with
        | true => .ok (.nx, env.set i (.own (ds ++ es))) s1
        | false => .stuck
      | _ => .stuck
    | _ => .stuck
  | .seti i ix e, env, st => lift (evE call e env st) env fun d s1 => match sget env i with
    | .own ds => lift (asI (evE call ix env s1)) env fun k s2 => match ixN ds.length k with
      | some j => .ok (.nx, env.set i (.own (ds.set j d))) s2
      | none => .stuck
    | _ => .stuck
  | .setr i ix e, env, st => lift (evE call e env st) env fun d s1 => match sget env i with
    | .val (.ref n) => lift (asI (evE call ix env s1)) env fun k s2 => match s2[n]? with
      | some ds => match ixN ds.length k with
        | some j => .ok (.nx, env) (s2.set n (ds.set j d))
        | none => .stuck
      | none => .stuck
    | _ => .stuck
  | .expr e, env, st => lift (evE call e env st) env fun d s1 => .ok (.nx, env) s1
  | .ret e, env, st => lift (evE call e env st) env fun d s1 => .ok (.rt d, env) s1
  | .retN, env, st => .ok (.rt .non, env) st
  | .ife c a b, env, st => lift (asB (evE call c env st)) env fun t s1 => match t with
    | true => evSs a env s1
    | false => evSs b env s1
  | .whl c b, env, st => loopW (fun env s => asB (evE call c env s)) (fun env s => evSs b env s) L env st
  | .forr tg it b, env, st => lift (evI call it env st) env fun xs s1 => loopF (tgSet tg) (fun env s => evSs b env s) xs env s1
  | .brk, env, st => .ok (.bk, env) st
  | .cont, env, st => .ok (.ct, env) st
  | .pass, env, st => .ok (.nx, env) st
  | .raise c e, env, st => lift (evE call e env st) env fun d s1 => .ok (.ex ⟨c, d⟩, env) s1
  | .tryx b c i h, env, st => tryR c i h (evSs b env st)
  | .nev, _, _ => .stuck
def evSs : Ss → Env → Sto → RS
  | .nil, env, st => .ok (.nx, env) st
  | .cons s ss, env, st => (evS s env st).bind fun p s1 => match p.1 with
    | .nx => evSs ss p.2 s1
    | .rt d => .ok (.rt d, p.2) s1
    | .bk => .ok (.bk, p.2) s1
    | .ct => .ok (.ct, p.2) s1
    | .ex x => .ok (.ex x, p.2) s1
end
end
/-- a def: how many parameters, how many slots, its body -/
structure Fn where
  np : Nat
  ns : Nat
  body : Ss
def initE (ns : Nat) (ds : List D) : Env := ds.map Sl.val ++ List.replicate (ns - ds.length) .un
/-- no written list is named -/
def noRef : D → Bool
  | .lst xs => all xs
  | .tup xs => all xs
  | .dct _ => false
  | .ref _ => false
  | _ => true
where
  all : List D → Bool
  | [] => true
  | x :: xs => noRef x && all xs
def endF (fl : Fl) (s : Sto) : R D := match fl with
  | .rt d => .ok d s
  | .nx => .ok .non s
  | .ex x => .exc x s
  | _ => .stuck
def flOk : Fl → Bool
  | .rt d => noRef d
  | .ex x => noRef x.thing
  | _ => true
/-- behind a call: its own written lists are gone -/
def endR (n : Nat) (r : RS) : R D := match r with
  | .ok p s => match decide (s.length = n) with
    | true => endF p.1 s
    | false => match flOk p.1 && (s.take n).all noRef.all with
      | true => endF p.1 (s.take n)
      | false => .stuck
  | _ => .stuck
def callN (fs : List Fn) (L : Nat) : Nat → Nat → List D → Sto → R D
  | 0, _, _, _ => .stuck
  | n + 1, f, ds, st => match fs[f]? with
    | some fn => match decide (ds.length = fn.np) with
      | true => endR st.length (evSs (callN fs L n) L fn.body (initE fn.ns ds) st)
      | false => .stuck
    | none => .stuck

/-! ## states of a frame -/
structure StR (K : PySem.W.Frag) (P : Addr → Prop) (φ : List Addr) (F : Hp) (env : Env) (st : Sto) (σ : L2.St) (H : Hp) : Prop where
  rel : Rel K P φ F env st σ H
  dom : ∀ a, P a → Dm H a
/-- the written lists, more of them -/
structure Pre (P : Addr → Prop) (φ φ' : List Addr) : Prop where
  at_ : ∀ (n : Nat) (a : Addr), φ[n]? = some a → φ'[n]? = some a
  new : ∀ a, a ∈ φ' → P a → a ∈ φ
theorem Pre.refl {P : Addr → Prop} {φ : List Addr} : Pre P φ φ := ⟨fun _ _ h => h, fun _ h _ => h⟩
theorem Pre.trans {P : Addr → Prop} {φ φ1 φ2 : List Addr} (a : Pre P φ φ1) (b : Pre P φ1 φ2) : Pre P φ φ2 := ⟨fun n x h => b.at_ n x (a.at_ n x h), fun x h p => a.new x (b.new x h p) p⟩
theorem Ext.weak {P P' : Addr → Prop} {φ : List Addr} {F H F1 H1 : Hp} (e : Ext P' φ F H F1 H1) (h : ∀ a, P a → P' a) : Ext P φ F H F1 H1 :=
  ⟨fun a o p n => e.keep a o (h a p) n, fun a p => e.frz a (h a p), e.mono, e.dom⟩
theorem Ext.go {P : Addr → Prop} {φ φ1 : List Addr} {F H F1 H1 F2 H2 : Hp} (e : Ext P φ F H F1 H1) (p : Pre P φ φ1) (e2 : Ext P φ1 F1 H1 F2 H2) : Ext P φ F H F2 H2 :=
  ⟨fun a o q n i t => e2.keep a o q (fun h => n (p.new a h q)) (e.keep a o q n i t) t, fun a q => (e2.frz a q).trans (e.frz a q), e.mono.trans e2.mono, fun a q => e2.dom a (e.dom a q)⟩
/-- what a statement's end asks -/
def FlR (K : PySem.W.Frag) (cl : List Addr) (W : WX) (D : Ends) (φ : List Addr) (F : Hp) (fl : Fl) (σ : L2.St) (H : Hp) : Prop := match fl with
  | .nx => D.nx σ H
  | .rt d => ∀ v, Rep K φ F v d → D.rt v H
  | .bk => D.bk σ H
  | .ct => D.ct σ H
  | .ex x => ∀ c dx, XnR K cl φ F H x c dx → W c (some dx) σ H
def OutS (K : PySem.W.Frag) (cl : List Addr) (P : Addr → Prop) (φ : List Addr) (F H : Hp) (W : WX) (D : Ends) (r : RS) : Prop := match r with
  | .ok p st' => ∀ σ' H' F' φ', Pre P φ φ' → Ext P φ F H F' H' → StR K P φ' F' p.2 st' σ' H' → FlR K cl W D φ' F' p.1 σ' H'
  | _ => False
def tS (K : PySem.W.Frag) (cl : List Addr) (call : Nat → List D → Sto → R D) (L : Nat) (W : WX) (s : S) : TS := fun D σ H => ∃ P φ F env st, StR K P φ F env st σ H ∧ OutS K cl P φ F H W D (evS call L s env st)
def tSs (K : PySem.W.Frag) (cl : List Addr) (call : Nat → List D → Sto → R D) (L : Nat) (W : WX) (s : Ss) : TS := fun D σ H => ∃ P φ F env st, StR K P φ F env st σ H ∧ OutS K cl P φ F H W D (evSs call L s env st)
theorem PS.of {X : Cx} {st : Stmt} {t t' : TS} (h : PS X st t) (w : ∀ D σ H, t' D σ H → t D σ H) : PS X st t' := ⟨fun pins s σ H D I q => h.run pins s σ H D I (w D σ H q)⟩
theorem PSs.of {X : Cx} {st : List Stmt} {t t' : TS} (h : PSs X st t) (w : ∀ D σ H, t' D σ H → t D σ H) : PSs X st t' := ⟨fun pins s σ H D I q => h.run pins s σ H D I (w D σ H q)⟩
section
variable {K : PySem.W.Frag} {cl φ φ1 : List Addr} {P : Addr → Prop} {F H F1 H1 : Hp} {W : WX} {D : Ends} {env : Env} {st st1 : Sto} {σ : L2.St}
theorem OutS.step {r : RS} (h : OutS K cl P φ F H W D r) (p : Pre P φ φ1) (e : Ext P φ F H F1 H1) : OutS K cl P φ1 F1 H1 W D r := by
  cases r with
  | ok q st' => exact fun σ' H' F' φ' p' e' s' => h σ' H' F' φ' (p.trans p') (e.go p e') s'
  | exc x s => exact h
  | stuck => exact h
theorem StR.step (s : StR K P φ F env st σ H) (e : Ext (Dm H) φ F H F1 H1) (k : Sok K φ F1 st1 H1) : StR K P φ F1 env st1 σ H1 := ⟨s.rel.step e k, fun a p => e.dom a (s.dom a p)⟩
theorem OutS.lift {α β : Type} {rl : Hp → Hp → α → β → Prop} {r : R β} {k : β → Sto → RS} {Q : α → Hp → Prop} (h : OutS K cl P φ F H W D (Eng.lift r env k)) (re : StR K P φ F env st σ H)
    (kk : ∀ v H1 F1 d st1, StR K P φ F1 env st1 σ H1 → Ext (Dm H) φ F H F1 H1 → rl F1 H1 v d → r = .ok d st1 → OutS K cl P φ F1 H1 W D (k d st1) → Q v H1) : Out K cl φ F H σ W rl r Q := by
  cases r with
  | ok d s => exact fun v H' F' e k' q => kk v H' F' d s (re.step e k') e q rfl (OutS.step h .refl (e.weak re.dom))
  | exc x s => exact fun c dx H' F' e k' q => h σ H' F' φ .refl (e.weak re.dom) (re.step e k') c dx q
  | stuck => exact h
theorem OutS.here {fl : Fl} {env' : Env} (h : OutS K cl P φ F H W D (.ok (fl, env') st)) {σ' : L2.St} (s : StR K P φ F env' st σ' H) : FlR K cl W D φ F fl σ' H := h σ' H F φ .refl .refl s
theorem OutS.bind {r : RS} {k : Fl × Env → Sto → RS} (h : OutS K cl P φ F H W D (r.bind k)) {D' : Ends}
    (kk : ∀ p st' σ' H' F' φ', r = .ok p st' → Pre P φ φ' → Ext P φ F H F' H' → StR K P φ' F' p.2 st' σ' H' → OutS K cl P φ' F' H' W D (k p st') → FlR K cl W D' φ' F' p.1 σ' H') : OutS K cl P φ F H W D' r := by
  cases r with
  | ok p s => exact fun σ' H' F' φ' p' e' s' => kk p s σ' H' F' φ' rfl p' e' s' (OutS.step h p' e')
  | exc x s => exact h
  | stuck => exact h
end
/-! ### slots that take -/
section
variable {K : PySem.W.Frag} {P : Addr → Prop} {φ : List Addr} {F H F1 H1 : Hp} {env : Env} {st st1 : Sto} {σ : L2.St}
theorem sget_out {env : Env} {i : Nat} (h : env.length ≤ i) : sget env i = .un := by
  unfold sget
  rw [List.getD_eq_getElem?_getD, List.getElem?_eq_none h]
  rfl
/-- none of the frame's own lists stands at a -/
def Away (env : Env) (σ : L2.St) (a : Addr) : Prop := ∀ j, isOwn (sget env j) = true → σ[j]? ≠ some (some (.ref a))
theorem Rel.setOwn (r : Rel K P φ F env st σ H) (i : Nat) {a : Addr} {vs : List V} {ds : List D} (h : H a = some (.lst vs)) (hF : F a = none) (hφ : a ∉ φ) (hP : ¬ P a) (ra : RepA K φ F vs ds) (aw : ∀ j, j ≠ i → isOwn (sget env j) = true → σ[j]? ≠ some (some (.ref a))) :
    Rel K P φ F (env.set i (.own ds)) st (σ.set i (some (.ref a))) H := by
  have hl := r.len
  have slot : ∀ j, SlotR K P φ F H (sget (env.set i (.own ds)) j) (σ.set i (some (.ref a)))[j]? := fun j => by
    rw [sget_set, List.getElem?_set]
    by_cases e : i = j
    · subst e
      by_cases q : i < env.length
      · rw [if_pos ⟨rfl, q⟩, if_pos rfl, if_pos (hl ▸ q)]
        exact ⟨a, vs, rfl, h, hF, hφ, hP, ra⟩
      · rw [if_neg (fun z => q z.2), if_pos rfl, if_neg (hl ▸ q)]
        have := r.sl i
        rw [List.getElem?_eq_none (by omega)] at this
        exact this
    · rw [if_neg (fun z => e z.1), if_neg e]
      exact r.sl j
  refine ⟨r.sok, slot, fun j k hjk h1 h2 => ?_, by rw [List.length_set, List.length_set]; exact hl⟩
  rw [sget_set] at h1 h2
  rw [List.getElem?_set, List.getElem?_set]
  by_cases ej : i = j
  · by_cases ek : i = k
    · exact absurd (ej.symm.trans ek) hjk
    · rw [if_neg (fun z => ek z.1)] at h2
      rw [if_pos ej, if_neg ek]
      have q := aw k (fun z => ek z.symm) h2
      by_cases hq : i < σ.length
      · rw [if_pos hq]; exact fun z => q z.symm
      · have hq' : ¬ i < env.length := hl ▸ hq
        rw [if_neg (fun z => hq' z.2), ← ej, sget_out (by omega)] at h1
        cases h1
  · rw [if_neg (fun z => ej z.1)] at h1
    by_cases ek : i = k
    · rw [if_neg ej, if_pos ek]
      have q := aw j (fun z => ej z.symm) h1
      by_cases hq : i < σ.length
      · rw [if_pos hq]; exact q
      · have hq' : ¬ i < env.length := hl ▸ hq
        rw [if_neg (fun z => hq' z.2), ← ek, sget_out (by omega)] at h2
        cases h2
    · rw [if_neg (fun z => ek z.1)] at h2
      rw [if_neg ej, if_neg ek]
      exact r.sep j k hjk h1 h2
/-- the own list in slot i is another one now, at its place -/
theorem Rel.own_at (r : Rel K P φ F env st σ H) {i : Nat} {ds : List D} (h : sget env i = .own ds) : ∃ a vs, σ[i]? = some (some (.ref a)) ∧ H a = some (.lst vs) ∧ F a = none ∧ a ∉ φ ∧ ¬ P a ∧ RepA K φ F vs ds ∧ i < env.length ∧ ∀ j, j ≠ i → isOwn (sget env j) = true → σ[j]? ≠ some (some (.ref a)) := by
  have s := r.sl i
  rw [h] at s
  obtain ⟨a, vs, h1, h2, h3, h4, h5, h6⟩ := s
  refine ⟨a, vs, h1, h2, h3, h4, h5, h6, ?_, fun j hj ho z => r.sep j i hj ho (by rw [h]; rfl) (z.trans h1.symm)⟩
  rw [r.len]
  exact (List.getElem?_eq_some_iff.mp h1).1
theorem set_same {σ : L2.St} {i : Nat} {x : Option V} (h : σ[i]? = some x) : σ.set i x = σ := by
  apply List.ext_getElem?
  intro j
  rw [List.getElem?_set]
  by_cases e : i = j
  · subst e
    rw [if_pos rfl, if_pos (List.getElem?_eq_some_iff.mp h).1, h]
  · rw [if_neg e]
theorem Rel.write (r : Rel K P φ F env st σ H) {i : Nat} {ds ds' : List D} {a : Addr} {vs' : List V} (h : sget env i = .own ds) (ha : σ[i]? = some (some (.ref a))) (ra : RepA K φ F vs' ds') : Rel K P φ F (env.set i (.own ds')) st σ (upd H a (.lst vs')) := by
  obtain ⟨a', vs, h1, h2, h3, h4, h5, h6, h7, h8⟩ := r.own_at h
  rw [h1] at ha
  cases ha
  have k : Sok K φ F st (upd H a (.lst vs')) := r.sok.write h2 h3 h4
  have r2 : Rel K P φ F (env.set i .un) st σ (upd H a (.lst vs')) := by
    have r1 : Rel K P φ F (env.set i .un) st σ H := by
      have := r.setUn i (some (.ref a))
      rw [set_same h1] at this
      exact this
    refine ⟨k, fun j => ?_, r1.sep, r1.len⟩
    have s := r1.sl j
    revert s
    cases e : sget (env.set i .un) j with
    | un => exact fun _ => trivial
    | val d => exact fun s => s
    | own es =>
      intro s
      obtain ⟨b, ws, q1, q2, q3⟩ := s
      have hb : b ≠ a := fun z => by
        subst z
        rw [sget_set] at e
        by_cases q : i = j ∧ i < env.length
        · rw [if_pos q] at e; cases e
        · rw [if_neg q] at e
          by_cases ij : i = j
          · exact q ⟨ij, h7⟩
          · exact h8 j (fun z => ij z.symm) (by rw [e]; rfl) q1
      exact ⟨b, ws, q1, by rw [upd_ne hb]; exact q2, q3⟩
  have r3 := r2.setOwn i (a := a) (vs := vs') (ds := ds') upd_same h3 h4 h5 ra (fun j hj ho => by
    rw [sget_set, if_neg (fun z => hj z.1.symm)] at ho
    exact h8 j hj ho)
  rw [set_same h1, List.set_set] at r3
  exact r3
/-- an own list stands still from here on -/
theorem Rel.freeze1 (r : Rel K P φ F env st σ H) (i : Nat) : ∃ F', Rel K P φ F' (match sget env i with | .own ds => env.set i (.val (.lst ds)) | _ => env) st σ H ∧ Le F F' ∧ (∀ a, P a → F' a = F a) := by
  cases h : sget env i with
  | un => exact ⟨F, r, Le.refl F, fun _ _ => rfl⟩
  | val d => exact ⟨F, r, Le.refl F, fun _ _ => rfl⟩
  | own ds =>
    obtain ⟨a, vs, h1, h2, h3, h4, h5, h6, h7, h8⟩ := r.own_at h
    have lF : Le F (upd F a (.lst vs)) := le_upd h3
    have k : Sok K φ (upd F a (.lst vs)) st H := r.sok.freeze noTb_lst h2 h3 h4
    refine ⟨upd F a (.lst vs), ⟨k, fun j => ?_, fun j k' hjk e1 e2 => ?_, by rw [List.length_set]; exact r.len⟩, lF, fun b hb => upd_ne fun z => h5 (z ▸ hb)⟩
    · show SlotR K P φ _ H (sget (env.set i (.val (.lst ds))) j) _
      rw [sget_set]
      by_cases q : i = j ∧ i < env.length
      · rw [if_pos q, ← q.1]
        exact ⟨.ref a, h1, .lst upd_same (h6.le lF)⟩
      · rw [if_neg q]
        have s := r.sl j
        revert s
        cases e : sget env j with
        | un => exact fun _ => trivial
        | val d =>
          intro s
          obtain ⟨v, q1, q2⟩ := s
          exact ⟨v, q1, q2.le lF⟩
        | own es =>
          intro s
          obtain ⟨b, ws, q1, q2, q3, q4, q5, q6⟩ := s
          have hij : j ≠ i := fun z => q ⟨z.symm, h7⟩
          have hb : b ≠ a := fun z => by
            subst z
            exact h8 j hij (by rw [e]; rfl) q1
          exact ⟨b, ws, q1, q2, by rw [upd_ne hb]; exact q3, q4, q5, q6.le lF⟩
    · have f : ∀ j, isOwn (sget (env.set i (.val (.lst ds))) j) = true → isOwn (sget env j) = true := fun j hj => by
        rw [sget_set] at hj
        by_cases q : i = j ∧ i < env.length
        · rw [if_pos q] at hj; cases hj
        · rw [if_neg q] at hj; exact hj
      exact r.sep j k' hjk (f j e1) (f k' e2)
theorem Rel.freeze (r : Rel K P φ F env st σ H) (is : List Nat) : ∃ F', Rel K P φ F' (freezeE env is) st σ H ∧ Le F F' ∧ (∀ a, P a → F' a = F a) := by
  induction is generalizing F env with
  | nil => exact ⟨F, r, Le.refl F, fun _ _ => rfl⟩
  | cons i is ih =>
    obtain ⟨F1, r1, l1, f1⟩ := r.freeze1 i
    obtain ⟨F2, r2, l2, f2⟩ := ih r1
    exact ⟨F2, r2, l1.trans l2, fun a p => (f2 a p).trans (f1 a p)⟩
end
end Eng
end

section
set_option autoImplicit false
namespace Eng
open PySem PySem.Spec PyProof.Rows L2

/-! ## statements: the text is the syntax -/
def iopB (o : BOp) (op : Operator) : Bool := match o, op with
  | .add, .Add => true | .sub, .Sub => true | .mul, .Mult => true | .fdiv, .FloorDiv => true
  | _, _ => false
def isSlice : Expr → Bool
  | .Slice _ _ _ _ => true
  | _ => false
def starE : Expr → Bool
  | .Starred _ _ => true
  | _ => false
def notLoc (sc : Scope) (t : Expr) : Bool := match t with
  | .Name x _ => !isLoc (sc.names.lookup x)
  | _ => true
def noSwap (sc : Scope) (ts : List Expr) (x : Expr) : Bool := match x with
  | .Tuple vs _ _ => !(ts.length == 2 || ts.length == 3) || vs.length != ts.length || vs.all (foldedForSure 8) || ts.any (notLoc sc)
  | _ => true
/-- x, y = u, v taken apart -/
structure P2 where
  x : Str
  p : Pos
  y : Str
  q : Pos
  k1 : Nat
  p1 : Pos
  u : Expr
  v : Expr
  k2 : Nat
  p2 : Pos
  pos : Pos
def P2.back (t : P2) : Stmt := .Assign [.Tuple [.Name t.x t.p, .Name t.y t.q] t.k1 t.p1] (.Tuple [t.u, t.v] t.k2 t.p2) t.pos
def asg2 : Stmt → Option P2
  | .Assign [.Tuple [.Name x p, .Name y q] k1 p1] (.Tuple [u, v] k2 p2) pos => some ⟨x, p, y, q, k1, p1, u, v, k2, p2, pos⟩
  | _ => none
theorem asg2_eq {t : Stmt} {z : P2} (h : asg2 t = some z) : t = z.back := by
  unfold asg2 at h
  split at h
  · cases h; rfl
  · cases h
structure P3 extends P2 where
  z : Str
  r : Pos
  w : Expr
def P3.back (t : P3) : Stmt := .Assign [.Tuple [.Name t.x t.p, .Name t.y t.q, .Name t.z t.r] t.k1 t.p1] (.Tuple [t.u, t.v, t.w] t.k2 t.p2) t.pos
def asg3 : Stmt → Option P3
  | .Assign [.Tuple [.Name x p, .Name y q, .Name z r] k1 p1] (.Tuple [u, v, w] k2 p2) pos => some ⟨⟨x, p, y, q, k1, p1, u, v, k2, p2, pos⟩, z, r, w⟩
  | _ => none
theorem asg3_eq {t : Stmt} {z : P3} (h : asg3 t = some z) : t = z.back := by
  unfold asg3 at h
  split at h
  · cases h; rfl
  · cases h
/-- x.name(y) taken apart -/
structure PM where
  x : Str
  px : Pos
  name : Str
  apos : Pos
  y : Expr
  cpos : Pos
  pos : Pos
def PM.back (t : PM) : Stmt := .Expr (.Call (.Attribute (.Name t.x t.px) t.name t.apos) [t.y] [] t.cpos) t.pos
def metS : Stmt → Option PM
  | .Expr (.Call (.Attribute (.Name x px) name apos) [y] [] cpos) pos => some ⟨x, px, name, apos, y, cpos, pos⟩
  | _ => none
theorem metS_eq {t : Stmt} {z : PM} (h : metS t = some z) : t = z.back := by
  unfold metS at h
  split at h
  · cases h; rfl
  · cases h
/-- x[y] = z taken apart -/
structure PI' where
  x : Str
  px : Pos
  y : Expr
  ps : Pos
  z : Expr
  pos : Pos
def PI'.back (t : PI') : Stmt := .Assign [.Subscript (.Name t.x t.px) t.y t.ps] t.z t.pos
def setS : Stmt → Option PI'
  | .Assign [.Subscript (.Name x px) y ps] z pos => some ⟨x, px, y, ps, z, pos⟩
  | _ => none
theorem setS_eq {t : Stmt} {z : PI'} (h : setS t = some z) : t = z.back := by
  unfold setS at h
  split at h
  · cases h; rfl
  · cases h
def sw2 (sc : Scope) (z : P2) : Bool := isLoc (sc.names.lookup z.x) && isLoc (sc.names.lookup z.y) && (z.q.line == z.p.line) && !(z.x == z.y) && !([z.u, z.v].all (foldedForSure 8)) && !([z.u, z.v].all (constantsAlone 8))
def sw3 (sc : Scope) (z : P3) : Bool := isLoc (sc.names.lookup z.x) && isLoc (sc.names.lookup z.y) && isLoc (sc.names.lookup z.z) && (z.q.line == z.p.line) && (z.r.line == z.p.line) && !(z.x == z.y) && !(z.x == z.z) && !(z.y == z.z) && !([z.u, z.v, z.w].all (foldedForSure 8)) && !([z.u, z.v, z.w].all (constantsAlone 8))
/-- if x: return c, taken apart -/
structure PF' where
  x : Expr
  c : Bool
  j : Nat
  p1 : Pos
  p2 : Pos
  p3 : Pos
def PF'.back (t : PF') : Stmt := .If t.x [.Return (some (.Constant (.bool t.c) t.j t.p1)) t.p2] [] t.p3
def ifrS : Stmt → Option PF'
  | .If x [.Return (some (.Constant (.bool c) j p1)) p2] [] p3 => some ⟨x, c, j, p1, p2, p3⟩
  | _ => none
theorem ifrS_eq {t : Stmt} {z : PF'} (h : ifrS t = some z) : t = z.back := by
  unfold ifrS at h
  split at h
  · cases h; rfl
  · cases h
def chkHd (Γ : Gam) (i : Nat) (n : Str) : Hd → Stmt → Bool
  | .ret b, .Return (some x) _ => chkHB Γ i n b x
  | .ifret b c, t => match ifrS t with
    | some z => decide (c = z.c) && chkHB Γ i n b z.x
    | none => false
  | .retB c, .Return (some (.Constant (.bool d) _ _)) _ => decide (c = d)
  | _, _ => false
/-- try .. except x as n, taken apart -/
structure PT' where
  body : List Stmt
  x : Str
  n : Str
  st : Stmt
  p1 : Pos
  p2 : Pos
  p3 : Pos
def PT'.back (t : PT') : Stmt := .Try t.body [.ExceptHandler (some (.Name t.x t.p1)) (some t.n) [t.st] t.p2] [] [] t.p3
def tryS : Stmt → Option PT'
  | .Try body [.ExceptHandler (some (.Name x p1)) (some n) [st] p2] [] [] p3 => some ⟨body, x, n, st, p1, p2, p3⟩
  | _ => none
theorem tryS_eq {t : Stmt} {z : PT'} (h : tryS t = some z) : t = z.back := by
  unfold tryS at h
  split at h
  · cases h; rfl
  · cases h
/-- raise x(y), taken apart -/
structure PR' where
  x : Str
  y : Expr
  p1 : Pos
  p2 : Pos
  p3 : Pos
def PR'.back (t : PR') : Stmt := .Raise (some (.Call (.Name t.x t.p1) [t.y] [] t.p2)) none t.p3
def raiS : Stmt → Option PR'
  | .Raise (some (.Call (.Name x p1) [y] [] p2)) none p3 => some ⟨x, y, p1, p2, p3⟩
  | _ => none
theorem raiS_eq {t : Stmt} {z : PR'} (h : raiS t = some z) : t = z.back := by
  unfold raiS at h
  split at h
  · cases h; rfl
  · cases h
def with1 {α : Type} (o : Option α) (f : α → Bool) : Bool := match o with | some z => f z | none => false
theorem with1_eq {α : Type} {o : Option α} {f : α → Bool} (h : with1 o f = true) : ∃ z, o = some z ∧ f z = true := by
  cases o with
  | none => cases h
  | some z => exact ⟨z, rfl, h⟩
mutual
def chkS : S → Gam → Stmt → Bool
  | .fz _ s, Γ, t => chkS s Γ t
  | .asg o i e, Γ, .Assign [.Name y _] x _ => Γ.tgt i y && (!o || isNew e) && chkE e Γ x
  | .newref i e, Γ, .Assign [.Name y _] x _ => Γ.tgt i y && isNew e && chkE e Γ x
  | .unp is e, Γ, .Assign [.Tuple ts k p] x _ => chkTg (.many is) Γ (.Tuple ts k p) && noSwap Γ.sc ts x && chkE e Γ x
  | .unpl is e, Γ, .Assign [.Tuple ts k p] x _ => chkTg (.many is) Γ (.Tuple ts k p) && noSwap Γ.sc ts x && chkE e Γ x
  | .par2 i o1 a j o2 b, Γ, t => with1 (asg2 t) fun z => Γ.tgt i z.x && Γ.tgt j z.y && decide (i ≠ j) && notStar z.u && notStar z.v && (!o1 || isNew a) && (!o2 || isNew b) && chkE a Γ z.u && chkE b Γ z.v && (sw2 Γ.sc z || noSwap Γ.sc [.Name z.x z.p, .Name z.y z.q] (.Tuple [z.u, z.v] z.k2 z.p2))
  | .par3 i o1 a j o2 b l o3 c, Γ, t => with1 (asg3 t) fun z => Γ.tgt i z.x && Γ.tgt j z.y && Γ.tgt l z.z && decide (i ≠ j) && decide (i ≠ l) && decide (j ≠ l) && notStar z.u && notStar z.v && notStar z.w && (!o1 || isNew a) && (!o2 || isNew b) && (!o3 || isNew c) &&
      chkE a Γ z.u && chkE b Γ z.v && chkE c Γ z.w && (sw3 Γ.sc z || noSwap Γ.sc [.Name z.x z.p, .Name z.y z.q, .Name z.z z.r] (.Tuple [z.u, z.v, z.w] z.k2 z.p2))
  | .aug i o e, Γ, .AugAssign (.Name x _) op y _ => Γ.tgt i x && iopB o op && chkE e Γ y
  | .app i e, Γ, t => with1 (metS t) fun z => decide (z.name = "append") && Γ.nm i z.x && (z.apos.endLine == z.cpos.line) && chkE e Γ z.y
  | .ext i e, Γ, t => with1 (metS t) fun z => decide (z.name = "extend") && Γ.nm i z.x && (z.apos.endLine == z.cpos.line) && chkE e Γ z.y
  | .seti i ix e, Γ, t => with1 (setS t) fun z => Γ.nm i z.x && !isSlice z.y && noComp z.z && chkE ix Γ z.y && chkE e Γ z.z
  | .setr i ix e, Γ, t => with1 (setS t) fun z => Γ.nm i z.x && !isSlice z.y && noComp z.z && chkE ix Γ z.y && chkE e Γ z.z
  | .expr e, Γ, .Expr x _ => noComp x && chkE e Γ x
  | .ret e, Γ, .Return (some x) _ => chkE e Γ x
  | .retN, _, .Return none _ => true
  | .ife c a b, Γ, .If x s t _ => chkE c Γ x && chkSs a Γ s && chkSs b Γ t
  | .whl c b, Γ, .While x s [] _ => chkE c Γ x && chkSs b Γ s
  | .forr tg it b, Γ, .For t x s [] _ => chkTg tg Γ t && chkI it Γ (isTup t) x && chkSs b Γ s
  | .brk, _, .Break _ => true
  | .cont, _, .Continue _ => true
  | .pass, _, .Pass _ => true
  | .raise c e, Γ, t => with1 (raiS t) fun z => Γ.isCls z.x c && notStar z.y && chkE e Γ z.y
  | .tryx b c i h, Γ, t => with1 (tryS t) fun z => Γ.isCls z.x c && Γ.lc i z.n && chkHd Γ i z.n h z.st && chkSs b Γ z.body
  | .nev, _, _ => true
  | _, _, _ => false
def chkSs : Ss → Gam → List Stmt → Bool
  | .nil, _, [] => true
  | .cons s ss, Γ, t :: ts => chkS s Γ t && chkSs ss Γ ts
  | _, _, _ => false
end
structure SX (X : Cx) (Γ : Gam) (cl : List Addr) (n : Nat) (call : Nat → List D → Sto → R D) (W : WX) : Prop where
  cx : Ctx X Γ cl n call
  kind : X.env.scope.kind = .function
  room2 : Room (3 * n + 2) X.A
  stk : X.stack = X.env :: X.outer
  frm : X.env.frame = some X.env.locals
  pass : PassesOwn (model X.prog X.w) X.A X.env X.xe
  tk : Takes X W

/-! ### parts -/
/-- a value for a slot: data, or a new list -/
def rlX (K : PySem.W.Frag) (φ : List Addr) (H0 : Hp) (o : Bool) : Hp → Hp → V → D → Prop := match o with
  | false => rlE K φ
  | true => rlN K φ H0
def tX (K : PySem.W.Frag) (cl : List Addr) (call : Nat → List D → Sto → R D) (W : WX) (o : Bool) (e : E) : TE := match o with
  | false => tE K cl call W e
  | true => tN K cl call W e
theorem tX_iff {K : PySem.W.Frag} {cl : List Addr} {call : Nat → List D → Sto → R D} {W : WX} {o : Bool} {e : E} {σ : L2.St} {H : Hp} {Q : VK} :
    tX K cl call W o e σ H Q ↔ ∃ P φ F env st, Rel K P φ F env st σ H ∧ Out K cl φ F H σ W (rlX K φ H o) (evE call e env st) Q := by
  cases o <;> exact Iff.rfl
theorem SE.px {cl : List Addr} {call : Nat → List D → Sto → R D} {X : Cx} {W : WX} {x : Expr} {e : E} {o : Bool} (se : SE cl call X W x e) (h : (!o || isNew e) = true) : PE X x (tX X.K cl call W o e) := by
  cases o with
  | false => exact se.pe
  | true => exact se.pn h
theorem SE.sx {cl : List Addr} {call : Nat → List D → Sto → R D} {X : Cx} {W : WX} {x : Expr} {e : E} {o : Bool} (se : SE cl call X W x e) (h : (!o || isNew e) = true) : SetR X x (tX X.K cl call W o e) := by
  cases o with
  | false => exact se.ps
  | true => exact se.pz h
theorem lift_slot {o : Bool} {e : E} {r : R D} {env : Env} {k : Sl → Sto → RS} : lift (slotR o e r) env k = lift r env fun d s => match slotOf o e d with | some x => k x s | none => .stuck := by
  cases r with
  | ok d s =>
    show lift (R.of (slotOf o e d) s) env k = match slotOf o e d with | some x => k x s | none => .stuck
    cases slotOf o e d <;> rfl
  | exc x s => rfl
  | stuck => rfl
section
variable {K : PySem.W.Frag} {P : Addr → Prop} {φ : List Addr} {F H F1 H1 : Hp} {env : Env} {st st1 : Sto} {σ : L2.St}
theorem StR.setVal (s : StR K P φ F env st σ H) (i : Nat) {d : D} {v : V} (h : Rep K φ F v d) : StR K P φ F (env.set i (.val d)) st (σ.set i (some v)) H := ⟨s.rel.setVal i h, s.dom⟩
theorem StR.take (s : StR K P φ F env st σ H) {o : Bool} {e : E} {d : D} {v : V} {x : Sl} (ex : Ext (Dm H) φ F H F1 H1) (k : Sok K φ F1 st1 H1) (i : Nat) (q : rlX K φ H o F1 H1 v d) (hx : slotOf o e d = some x) : StR K P φ F1 (env.set i x) st1 (σ.set i (some v)) H1 := by
  have s1 := s.step ex k
  cases o with
  | false =>
    cases hx
    exact s1.setVal i q
  | true =>
    have q : rlN K φ H F1 H1 v d := q
    obtain ⟨a, vs, ds, rfl, rfl, h0, h1, h2, h3⟩ := q
    have hx : (match isNew e with | true => some (Sl.own ds) | false => none) = some x := hx
    cases hn : isNew e with
    | false => rw [hn] at hx; cases hx
    | true =>
      rw [hn] at hx
      cases hx
      refine ⟨s1.rel.setOwn i h1 h2 (s.rel.sok.notInD h0) (fun p => h0 (s.dom a p)) h3 fun j hj ho z => ?_, s1.dom⟩
      cases es : sget env j with
      | un => rw [es] at ho; cases ho
      | val _ => rw [es] at ho; cases ho
      | own es' =>
        obtain ⟨b, ws, q1, q2, _⟩ := s.rel.own_at es
        rw [q1] at z
        cases z
        exact h0 (dm_lst q2)
theorem StR.go (s : StR K P φ F env st σ H) (ex : Ext (Dm H) φ F H F1 H1) (k : Sok K φ F1 st1 H1) : StR K P φ F1 env st1 σ H1 := s.step ex k
/-- a new list, written from many places -/
theorem StR.ref (s : StR K P φ F env st σ H) {ds : List D} {a : Addr} {vs : List V} (ex : Ext (Dm H) φ F H F1 H1) (k : Sok K φ F1 st1 H1) (i : Nat) (h0 : ¬ Dm H a) (h1 : H1 a = some (.lst vs)) (h2 : F1 a = none) (h3 : RepA K φ F1 vs ds) :
    StR K P (φ ++ [a]) F1 (env.set i (.val (.ref st1.length))) (st1 ++ [ds]) (σ.set i (some (.ref a))) H1 ∧ Pre P φ (φ ++ [a]) := by
  have s1 := s.step ex k
  have hn : a ∉ φ := s.rel.sok.notInD h0
  have mo : ∀ (n : Nat) (b : Addr), φ[n]? = some b → (φ ++ [a])[n]? = some b := fun n b e => by
    rw [List.getElem?_append_left (List.getElem?_eq_some_iff.mp e).1]; exact e
  have lift : ∀ {v d}, RepA K φ F1 v d → RepA K (φ ++ [a]) F1 v d := fun r => r.mono (Le.refl _) mo
  have k2 : Sok K (φ ++ [a]) F1 (st1 ++ [ds]) H1 := by
    refine ⟨k.le, by rw [List.length_append, List.length_append, k.len]; rfl, fun n b es e1 e2 => ?_, ?_, k.tab, k.nt⟩
    · by_cases hl : n < φ.length
      · rw [List.getElem?_append_left hl] at e1
        rw [List.getElem?_append_left (by rw [k.len]; exact hl)] at e2
        obtain ⟨q1, ws, q2, q3⟩ := k.cell n b es e1 e2
        exact ⟨q1, ws, q2, lift q3⟩
      · rw [List.getElem?_append_right (by omega)] at e1
        rw [List.getElem?_append_right (by rw [k.len]; omega)] at e2
        have hz : n - φ.length = 0 := by
          have := (List.getElem?_eq_some_iff.mp e1).1
          simp at this
          exact this
        rw [hz] at e1
        rw [k.len, hz] at e2
        cases e1; cases e2
        exact ⟨h2, vs, h1, lift h3⟩
    · rw [List.nodup_append]
      refine ⟨k.nd, by simp, fun x hx y hy => ?_⟩
      cases List.mem_singleton.mp hy
      exact fun z => hn (z ▸ hx)
  have r2 : Rel K P (φ ++ [a]) F1 env (st1 ++ [ds]) σ H1 := by
    refine ⟨k2, fun j => ?_, s1.rel.sep, s1.rel.len⟩
    have q := s.rel.sl j
    have q1 := s1.rel.sl j
    revert q q1
    cases es : sget env j with
    | un => exact fun _ _ => trivial
    | val d =>
      rintro _ ⟨v, e, r⟩
      exact ⟨v, e, r.mono (Le.refl _) mo⟩
    | own es' =>
      rintro ⟨b0, ws0, p1, p2, _⟩ ⟨b, ws, q1, q2, q3, q4, q5, q6⟩
      rw [p1] at q1
      cases q1
      refine ⟨b0, ws, p1, q2, q3, fun z => ?_, q5, lift q6⟩
      rcases List.mem_append.mp z with z | z
      · exact q4 z
      · cases List.mem_singleton.mp z
        exact h0 (dm_lst p2)
  refine ⟨⟨r2.setVal i (.ref ?_), s1.dom⟩, mo, fun b hb hp => ?_⟩
  · rw [k.len, List.getElem?_append_right (Nat.le_refl _), Nat.sub_self]
    rfl
  · rcases List.mem_append.mp hb with z | z
    · exact z
    · cases List.mem_singleton.mp z
      exact absurd (s.dom _ hp) h0
variable {cl : List Addr} {W : WX} {D' : Ends}
/-- the own list in a slot is written -/
theorem OutS.write {i : Nat} {ds ds' : List D} {a : Addr} {vs' : List V} {fl : Fl} (o : OutS K cl P φ F H W D' (.ok (fl, env.set i (.own ds')) st)) (s : StR K P φ F env st σ H) (h : sget env i = .own ds) (ha : σ[i]? = some (some (.ref a))) (ra : RepA K φ F vs' ds') :
    FlR K cl W D' φ F fl σ (upd H a (.lst vs')) := by
  obtain ⟨a', vs, h1, h2, h3, h4, h5, h6, h7, h8⟩ := s.rel.own_at h
  rw [h1] at ha
  cases ha
  have dm : ∀ b, Dm H b → Dm (upd H a (.lst vs')) b := fun b hb => dm_upd noTb_lst hb
  exact o σ _ F φ .refl ⟨fun b u pb _ e _ => (upd_ne fun z => h5 (by rw [← z]; exact pb)).trans e, fun _ _ => rfl, Le.refl F, dm⟩ ⟨s.rel.write h h1 ra, fun b pb => dm b (s.dom b pb)⟩
/-- a list written from many places is written -/
theorem OutS.writeR {n : Nat} {ds ds' : List D} {a : Addr} {vs' : List V} {fl : Fl} (o : OutS K cl P φ F H W D' (.ok (fl, env) (st.set n ds'))) (s : StR K P φ F env st σ H) (h : st[n]? = some ds) (ha : φ[n]? = some a) (ra : RepA K φ F vs' ds') :
    FlR K cl W D' φ F fl σ (upd H a (.lst vs')) := by
  have k := s.rel.sok
  obtain ⟨hF, vs, hH, _⟩ := k.cell n a ds ha h
  have dm : ∀ b, Dm H b → Dm (upd H a (.lst vs')) b := fun b hb => dm_upd noTb_lst hb
  have hm : a ∈ φ := List.mem_of_getElem? ha
  have hl : n < st.length := (List.getElem?_eq_some_iff.mp h).1
  refine o σ _ F φ .refl ⟨fun b u _ hb e _ => (upd_ne fun z => hb (by rw [z]; exact hm)).trans e, fun _ _ => rfl, Le.refl F, dm⟩ ⟨⟨⟨fun b x e => ?_, by rw [List.length_set]; exact k.len, fun m b es e1 e2 => ?_, k.nd, tabs_write hH k.tab, k.nt⟩, fun j => ?_, s.rel.sep, s.rel.len⟩, fun b pb => dm b (s.dom b pb)⟩
  · have hb : b ≠ a := fun z => by rw [z, hF] at e; cases e
    rw [upd_ne hb]; exact k.le b x e
  · by_cases hmn : n = m
    · subst hmn
      rw [ha] at e1
      cases e1
      rw [List.getElem?_set, if_pos rfl, if_pos hl] at e2
      cases e2
      exact ⟨hF, vs', upd_same, ra⟩
    · rw [List.getElem?_set, if_neg hmn] at e2
      obtain ⟨q1, ws, q2, q3⟩ := k.cell m b es e1 e2
      have hb : b ≠ a := fun z => by
        subst z
        have l1 := (List.getElem?_eq_some_iff.mp ha)
        have l2 := (List.getElem?_eq_some_iff.mp e1)
        rcases Nat.lt_or_gt_of_ne hmn with w | w
        · exact List.pairwise_iff_getElem.mp k.nd n m l1.1 l2.1 w (l1.2.trans l2.2.symm)
        · exact List.pairwise_iff_getElem.mp k.nd m n l2.1 l1.1 w (l2.2.trans l1.2.symm)
      exact ⟨q1, ws, by rw [upd_ne hb]; exact q2, q3⟩
  · have q := s.rel.sl j
    revert q
    cases es : sget env j with
    | un => exact fun _ => trivial
    | val d => exact fun q => q
    | own es' =>
      rintro ⟨b, ws, q1, q2, q3, q4, q5, q6⟩
      exact ⟨b, ws, q1, by rw [upd_ne (fun z => q4 (by rw [z]; exact hm))]; exact q2, q3, q4, q5, q6⟩
end
end Eng
end

section
set_option autoImplicit false
namespace Eng
open PySem PySem.Spec PyProof.Rows L2
section
variable {cl : List Addr} {n L : Nat} {call : Nat → List D → Sto → R D} {X : Cx} {Γ : Gam} {W : WX}
theorem Ctx.tgt3 (c : Ctx X Γ cl n call) {i : Nat} {x : Str} (h : Γ.tgt i x = true) : X.N[i]? = some x ∧ L2.Loc X.env.scope x ∧ (X.fn x = true ∨ X.env.scope.names.lookup x = some .local) := by
  unfold Gam.tgt at h
  obtain ⟨h12, h3⟩ := Bool.and_eq_true_iff.mp h
  obtain ⟨h1, h2⟩ := Bool.and_eq_true_iff.mp h12
  refine ⟨by rw [c.N]; exact of_decide_eq_true h1, c.loc h2, ?_⟩
  rcases Bool.or_eq_true_iff.mp h3 with q | q
  · left; rw [c.fn]; exact q
  · right
    rw [c.sc]
    revert q
    cases Γ.sc.names.lookup x with
    | none => intro q; cases q
    | some k => cases k <;> intro q <;> first | rfl | cases q
theorem Ctx.lc2 (c : Ctx X Γ cl n call) {i : Nat} {x : Str} (h : Γ.lc i x = true) : X.N[i]? = some x ∧ X.env.scope.names.lookup x = some .local := by
  obtain ⟨h1, h2⟩ := Bool.and_eq_true_iff.mp h
  refine ⟨by rw [c.N]; exact of_decide_eq_true h1, ?_⟩
  rw [c.sc]
  revert h2
  cases Γ.sc.names.lookup x with
  | none => intro q; cases q
  | some k => cases k <;> intro q <;> first | rfl | cases q
theorem blockKind_of {env : PySem.Env} (h : env.scope.kind = .function) : env.blockKind = .function := by
  unfold Env.blockKind; rw [h] <;> rfl
/-! ### assignment -/
theorem ss_asg (sx : SX X Γ cl n call W) {o : Bool} {i : Nat} {e : E} {x : Expr} {y : Str} {py pos : Pos} (se : SE cl call X W x e) (ho : (!o || isNew e) = true) (ht : Γ.tgt i y = true) : PS X (.Assign [.Name y py] x pos) (tS X.K cl call L W (.asg o i e)) := by
  obtain ⟨h1, h2, h3⟩ := sx.cx.tgt3 ht
  refine PS.of (se.sx ho i y py pos h1 h2 h3 sx.kind) fun D σ H ⟨P, φ, F, env, st, s, q⟩ => tX_iff.mpr ⟨P, φ, F, env, st, s.rel, ?_⟩
  have q : OutS X.K cl P φ F H W D (lift (slotR o e (evE call e env st)) env fun x s1 => .ok (.nx, env.set i x) s1) := q
  rw [lift_slot] at q
  refine OutS.lift (rl := rlX X.K φ H o) q s fun v H1 F1 d st1 s1 e1 q1 _ o1 => ?_
  cases hx : slotOf o e d with
  | none => rw [hx] at o1; exact o1.elim
  | some z =>
    rw [hx] at o1
    exact o1.here (s.take e1 s1.rel.sok i q1 hx)
theorem ss_newref (sx : SX X Γ cl n call W) {i : Nat} {e : E} {x : Expr} {y : Str} {py pos : Pos} (se : SE cl call X W x e) (ho : isNew e = true) (ht : Γ.tgt i y = true) : PS X (.Assign [.Name y py] x pos) (tS X.K cl call L W (.newref i e)) := by
  obtain ⟨h1, h2, h3⟩ := sx.cx.tgt3 ht
  refine PS.of (se.pz ho i y py pos h1 h2 h3 sx.kind) fun D σ H ⟨P, φ, F, env, st, s, q⟩ => ⟨P, φ, F, env, st, s.rel, ?_⟩
  have q : OutS X.K cl P φ F H W D (match isNew e with
    | true => lift (evE call e env st) env fun d s1 => match d with
      | .lst ds => .ok (.nx, env.set i (.val (.ref s1.length))) (s1 ++ [ds])
      | _ => .stuck
    | false => .stuck) := q
  rw [ho] at q
  refine OutS.lift (rl := rlN X.K φ H) q s fun v H1 F1 d st1 s1 e1 q1 _ o1 => ?_
  obtain ⟨a, vs, ds, rfl, rfl, h0, h1, h2, h3⟩ := q1
  obtain ⟨sr, pr⟩ := s.ref e1 s1.rel.sok i h0 h1 h2 h3
  exact o1 _ _ _ _ pr .refl sr
def nameIf (env : PySem.Env) (l : Nat) : Expr → Option Str := fun e => match e with
  | .Name id pos => if (env.kindOf id == some .local && pos.line == l) = true then some id else none
  | _ => none
theorem names_short {env : PySem.Env} {l : Nat} {ts : List Expr} (h : ts.any (notLoc env.scope) = true) : ((ts.filterMap (nameIf env l)).length != ts.length) = true := by
  have key : (ts.filterMap (nameIf env l)).length < ts.length := by
    rw [List.length_filterMap_lt_length_iff_exists]
    obtain ⟨t, ht, hn⟩ := List.any_eq_true.mp h
    refine ⟨t, ht, ?_⟩
    cases t <;> first | rfl | skip
    rename_i x p
    have hn : (!isLoc (env.scope.names.lookup x)) = true := hn
    have hk : (env.kindOf x == some NameKind.local) = false := by
      show (env.scope.names.lookup x == some .local) = false
      revert hn
      cases env.scope.names.lookup x with
      | none => intro _; rfl
      | some k => cases k <;> intro hn <;> first | rfl | cases hn
    show (if (env.kindOf x == some NameKind.local && p.line == l) = true then some x else none) = none
    rw [hk] <;> rfl
  rw [bne_iff_ne]
  omega
theorem noSwap_of {ts : List Expr} {k : Nat} {p : Pos} {x : Expr} {env : PySem.Env} {sc : Scope} (hsc : env.scope = sc) (h : noSwap sc ts x = true) : swappedStores [.Tuple ts k p] x env = pure none := by
  cases x <;> first | rfl | skip
  rename_i vs k2 p2
  subst hsc
  have h : (!(ts.length == 2 || ts.length == 3) || vs.length != ts.length || vs.all (foldedForSure 8) || ts.any (notLoc env.scope)) = true := h
  show (if (!(ts.length == 2 || ts.length == 3) || vs.length != ts.length || env.blockKind != .function) = true then (pure none : Sem (Option (List Str))) else if (vs.any starE) = true then pure none else
      if ((ts.filterMap (nameIf env ((ts.head?.map (·.pos.line)).getD 0))).length != ts.length || (ts.filterMap (nameIf env ((ts.head?.map (·.pos.line)).getD 0))).eraseDups.length != (ts.filterMap (nameIf env ((ts.head?.map (·.pos.line)).getD 0))).length) = true then pure none else if vs.all (foldedForSure 8) = true then pure none else
      if vs.all (constantsAlone 8) = true then (do unsupported "assign.tuple-of-constant-expressions:order-of-the-stores"; pure (some _)) else pure (some _)) = pure none
  by_cases h1 : (!(ts.length == 2 || ts.length == 3) || vs.length != ts.length) = true
  · rw [h1] <;> rfl
  · have h1 := Bool.eq_false_iff.mpr h1
    rw [h1, Bool.false_or] at h
    by_cases h2 : vs.all (foldedForSure 8) = true
    · rw [h2]
      split
      · rfl
      · split
        · rfl
        · split
          · rfl
          · rfl
    · rw [Bool.eq_false_iff.mpr h2, Bool.false_or] at h
      rw [names_short h]
      split
      · rfl
      · split
        · rfl
        · rfl
theorem names_one {env : PySem.Env} {l : Nat} {x : Str} {p : Pos} (hx : env.scope.names.lookup x = some .local) (hl : (p.line == l) = true) : (if (env.kindOf x == some NameKind.local && p.line == l) = true then some x else none) = some x := by
  have : (env.kindOf x == some NameKind.local) = true := by
    show (env.scope.names.lookup x == some .local) = true
    rw [hx] <;> rfl
  rw [this, hl] <;> rfl
theorem star_no {x : Expr} (h : notStar x = true) : starE x = false := by
  cases x <;> first | rfl | cases h
theorem swaps_end {ts vs : List Expr} {env : PySem.Env} {names : List Str} {l : Nat} (hl : (!(ts.length == 2 || ts.length == 3) || vs.length != ts.length) = false) (hk : env.scope.kind = .function) (hs : vs.any starE = false) (hN : names.length = ts.length) (hd : names.eraseDups.length = names.length)
    (hf : vs.all (foldedForSure 8) = false) (hc : vs.all (constantsAlone 8) = false) : (if (!(ts.length == 2 || ts.length == 3) || vs.length != ts.length || env.blockKind != .function) = true then (pure none : Sem (Option (List Str))) else if (vs.any starE) = true then pure none else
      if (names.length != ts.length || names.eraseDups.length != names.length) = true then pure none else if vs.all (foldedForSure 8) = true then pure none else
      if vs.all (constantsAlone 8) = true then (do unsupported "assign.tuple-of-constant-expressions:order-of-the-stores"; pure (some names)) else pure (some names)) = pure (some names) := by
  have hb : (env.blockKind != .function) = false := by rw [blockKind_of hk] <;> rfl
  have h1 : (names.length != ts.length || names.eraseDups.length != names.length) = false := by rw [hN, hd, hN]; simp
  rw [hl, hb, hs, h1, hf, hc] <;> rfl
theorem swap2 {env : PySem.Env} {x y : Str} {u v : Expr} {px py pt pt2 : Pos} {kt k2 : Nat} (hk : env.scope.kind = .function) (hx : env.scope.names.lookup x = some .local) (hy : env.scope.names.lookup y = some .local) (hl : (py.line == px.line) = true) (hn : (x == y) = false)
    (h1 : notStar u = true) (h2 : notStar v = true) (hf : [u, v].all (foldedForSure 8) = false) (hc : [u, v].all (constantsAlone 8) = false) : swappedStores [.Tuple [.Name x px, .Name y py] kt pt] (.Tuple [u, v] k2 pt2) env = pure (some [x, y]) := by
  have hN : [Expr.Name x px, Expr.Name y py].filterMap (nameIf env px.line) = [x, y] := by
    have e1 : nameIf env px.line (.Name x px) = some x := names_one hx (beq_self_eq_true _)
    have e2 : nameIf env px.line (.Name y py) = some y := names_one hy hl
    rw [List.filterMap_cons, List.filterMap_cons, e1, e2] <;> rfl
  have hd : ([x, y] : List Str).eraseDups.length = ([x, y] : List Str).length := by
    have : (y == x) = false := by rw [← hn]; exact Bool.beq_comm
    simp [List.eraseDups_cons, this]
  have := swaps_end (ts := [.Name x px, .Name y py]) (vs := [u, v]) (names := [Expr.Name x px, Expr.Name y py].filterMap (nameIf env px.line)) (l := 0) rfl hk (by rw [List.any_cons, List.any_cons, star_no h1, star_no h2] <;> rfl) (by rw [hN] <;> rfl) (by rw [hN]; exact hd) hf hc
  rw [hN] at this
  rw [← this, ← hN]
  rfl
theorem swap3 {env : PySem.Env} {x y z : Str} {u v w : Expr} {px py pz pt pt2 : Pos} {kt k2 : Nat} (hk : env.scope.kind = .function) (hx : env.scope.names.lookup x = some .local) (hy : env.scope.names.lookup y = some .local) (hz : env.scope.names.lookup z = some .local) (hl : (py.line == px.line) = true) (hl2 : (pz.line == px.line) = true)
    (hn : (x == y) = false) (hn2 : (x == z) = false) (hn3 : (y == z) = false) (h1 : notStar u = true) (h2 : notStar v = true) (h3 : notStar w = true) (hf : [u, v, w].all (foldedForSure 8) = false) (hc : [u, v, w].all (constantsAlone 8) = false) :
    swappedStores [.Tuple [.Name x px, .Name y py, .Name z pz] kt pt] (.Tuple [u, v, w] k2 pt2) env = pure (some [x, y, z]) := by
  have hN : [Expr.Name x px, Expr.Name y py, Expr.Name z pz].filterMap (nameIf env px.line) = [x, y, z] := by
    have e1 : nameIf env px.line (.Name x px) = some x := names_one hx (beq_self_eq_true _)
    have e2 : nameIf env px.line (.Name y py) = some y := names_one hy hl
    have e3 : nameIf env px.line (.Name z pz) = some z := names_one hz hl2
    rw [List.filterMap_cons, List.filterMap_cons, List.filterMap_cons, e1, e2, e3] <;> rfl
  have hd : ([x, y, z] : List Str).eraseDups.length = ([x, y, z] : List Str).length := by
    have q1 : (y == x) = false := by rw [← hn]; exact Bool.beq_comm
    have q2 : (z == x) = false := by rw [← hn2]; exact Bool.beq_comm
    have q3 : (z == y) = false := by rw [← hn3]; exact Bool.beq_comm
    simp [List.eraseDups_cons, q1, q2, q3]
  have := swaps_end (ts := [.Name x px, .Name y py, .Name z pz]) (vs := [u, v, w]) (names := [Expr.Name x px, Expr.Name y py, Expr.Name z pz].filterMap (nameIf env px.line)) (l := 0) rfl hk (by rw [List.any_cons, List.any_cons, List.any_cons, star_no h1, star_no h2, star_no h3] <;> rfl) (by rw [hN] <;> rfl) (by rw [hN]; exact hd) hf hc
  rw [hN] at this
  rw [← this, ← hN]
  rfl
theorem sws {t x : Expr} {l : Nat} {env : PySem.Env} (h : noComp x = true) : swapsWithSole [t] x l env = pure false := by
  show swapsWith x (some t) l env = pure false
  cases x <;> first | rfl | cases h
theorem sws_t {x : Expr} {ts : List Expr} {k l : Nat} {p : Pos} {env : PySem.Env} : swapsWithSole [.Tuple ts k p] x l env = pure false := by
  show swapsWith x (some (.Tuple ts k p)) l env = pure false
  cases x <;> rfl
theorem ss_unp (sx : SX X Γ cl n call W) {is : List Nat} {e : E} {x : Expr} {ts : List Expr} {k : Nat} {p pos : Pos} (se : SE cl call X W x e) (hs : noSwap Γ.sc ts x = true) (ht : chkTg (.many is) Γ (.Tuple ts k p) = true) : PS X (.Assign [.Tuple ts k p] x pos) (tS X.K cl call L W (.unp is e)) := by
  refine PS.of (ps_asg se.pe (pg_of sx.cx ht) sws_t (noSwap_of sx.cx.sc hs)) fun D σ H ⟨P, φ, F, env, st, s, q⟩ => ⟨P, φ, F, env, st, s.rel, OutS.lift (rl := rlE X.K φ) q s fun v H1 F1 d st1 s1 e1 q1 _ o1 => ?_⟩
  cases hx : tgSet (.many is) d env with
  | none => rw [hx] at o1; exact o1.elim
  | some env1 =>
    rw [hx] at o1
    obtain ⟨σ', g1, g2, _⟩ := tg_run s1.rel q1 hx
    exact g1 _ (o1.here ⟨g2, s1.dom⟩)
theorem ss_unpl (sx : SX X Γ cl n call W) {is : List Nat} {e : E} {x : Expr} {ts : List Expr} {k : Nat} {p pos : Pos} (se : SE cl call X W x e) (hs : noSwap Γ.sc ts x = true) (ht : chkTg (.many is) Γ (.Tuple ts k p) = true) : PS X (.Assign [.Tuple ts k p] x pos) (tS X.K cl call L W (.unpl is e)) := by
  obtain ⟨h1, h2, h3⟩ := pgs_go sx.cx is ts ht
  refine PS.of (ps_asg se.pe (pg_lst sx.cx.calm h1 h2 h3) sws_t (noSwap_of sx.cx.sc hs)) fun D σ H ⟨P, φ, F, env, st, s, q⟩ => ⟨P, φ, F, env, st, s.rel, OutS.lift (rl := rlE X.K φ) q s fun v H1 F1 d st1 s1 e1 q1 er o1 => ?_⟩
  cases d <;> first | (exact o1.elim) | skip
  rename_i ds
  have o1 : OutS X.K cl P φ F1 H1 W D (match tgSet (.many is) (.tup ds) env with
    | some env1 => .ok (.nx, env1) st1
    | none => .stuck) := o1
  obtain ⟨a, vs, rfl, ha, ra⟩ := RepB.lst (F := F1) (H := H1) s1.rel.sok.le (.inl q1)
  simp only [tgSet] at o1
  by_cases hl : ds.length = is.length
  · rw [if_pos hl] at o1
    obtain ⟨σ', g1, g2, _⟩ := gs_run is vs ds env σ s1.rel ra hl
    exact ⟨a, vs, rfl, SqL.of ha, by rw [ra.len]; exact hl, g1 _ (o1.here ⟨g2, s1.dom⟩)⟩
  · rw [if_neg hl] at o1
    exact o1.elim
/-! ### two or three at once -/
theorem ss_par2 (sx : SX X Γ cl n call W) {i j : Nat} {o1 o2 : Bool} {a b : E} {x y : Str} {u v : Expr} {px py pt pt2 pos : Pos} {kt k2 : Nat} (sa : SE cl call X W u a) (sb : SE cl call X W v b) (h1 : (!o1 || isNew a) = true) (h2 : (!o2 || isNew b) = true)
    (hx : Γ.lc i x = true) (hy : Γ.lc j y = true) (hij : i ≠ j) (hs1 : notStar u = true) (hs2 : notStar v = true) (hw : swappedStores [.Tuple [.Name x px, .Name y py] kt pt] (.Tuple [u, v] k2 pt2) X.env = pure (some [x, y])) :
    PS X (.Assign [.Tuple [.Name x px, .Name y py] kt pt] (.Tuple [u, v] k2 pt2) pos) (tS X.K cl call L W (.par2 i o1 a j o2 b)) := by
  obtain ⟨n1, l1⟩ := sx.cx.lc2 hx
  obtain ⟨n2, l2⟩ := sx.cx.lc2 hy
  refine PS.of (ps_par sx.cx.calm sx.cx.nd n1 n2 hij l1 l2 (pa_cons (sa.px h1) (pa_cons (sb.px h2) pa_nil (starEach_of hs2 _ _)) (starEach_of hs1 _ _)) hw) fun D σ H ⟨P, φ, F, env, st, s, q⟩ => tX_iff.mpr ⟨P, φ, F, env, st, s.rel, ?_⟩
  have q : OutS X.K cl P φ F H W D (lift (slotR o1 a (evE call a env st)) env fun x s1 => lift (slotR o2 b (evE call b env s1)) env fun y s2 => .ok (.nx, (env.set i x).set j y) s2) := q
  rw [lift_slot] at q
  refine OutS.lift (rl := rlX X.K φ H o1) q s fun v1 H1 F1 d1 st1 s1 e1 q1 _ o => ?_
  cases z1 : slotOf o1 a d1 with
  | none => rw [z1] at o; exact o.elim
  | some x1 =>
    rw [z1] at o
    have o : OutS X.K cl P φ F1 H1 W D (lift (slotR o2 b (evE call b env st1)) env fun y s2 => .ok (.nx, (env.set i x1).set j y) s2) := o
    rw [lift_slot] at o
    have t1 := s.take e1 s1.rel.sok i q1 z1
    refine tX_iff.mpr ⟨P, φ, F1, env, st1, s1.rel, OutS.lift (rl := rlX X.K φ H1 o2) o s1 fun v2 H2 F2 d2 st2 s2 e2 q2 _ o' => ?_⟩
    cases z2 : slotOf o2 b d2 with
    | none => rw [z2] at o'; exact o'.elim
    | some x2 =>
      rw [z2] at o'
      exact ⟨v1, v2, rfl, o'.here (t1.take e2 s2.rel.sok j q2 z2)⟩
theorem ss_par3 (sx : SX X Γ cl n call W) {i j l : Nat} {o1 o2 o3 : Bool} {a b c : E} {x y z : Str} {u v w : Expr} {px py pz pt pt2 pos : Pos} {kt k2 : Nat} (sa : SE cl call X W u a) (sb : SE cl call X W v b) (sc : SE cl call X W w c) (h1 : (!o1 || isNew a) = true) (h2 : (!o2 || isNew b) = true) (h3 : (!o3 || isNew c) = true)
    (hx : Γ.lc i x = true) (hy : Γ.lc j y = true) (hz : Γ.lc l z = true) (hij : i ≠ j) (hil : i ≠ l) (hjl : j ≠ l) (hs1 : notStar u = true) (hs2 : notStar v = true) (hs3 : notStar w = true)
    (hw : swappedStores [.Tuple [.Name x px, .Name y py, .Name z pz] kt pt] (.Tuple [u, v, w] k2 pt2) X.env = pure (some [x, y, z])) :
    PS X (.Assign [.Tuple [.Name x px, .Name y py, .Name z pz] kt pt] (.Tuple [u, v, w] k2 pt2) pos) (tS X.K cl call L W (.par3 i o1 a j o2 b l o3 c)) := by
  obtain ⟨n1, l1⟩ := sx.cx.lc2 hx
  obtain ⟨n2, l2⟩ := sx.cx.lc2 hy
  obtain ⟨n3, l3⟩ := sx.cx.lc2 hz
  refine PS.of (ps_par3 sx.cx.calm sx.cx.nd n1 n2 n3 hij hil hjl l1 l2 l3 (pa_cons (sa.px h1) (pa_cons (sb.px h2) (pa_cons (sc.px h3) pa_nil (starEach_of hs3 _ _)) (starEach_of hs2 _ _)) (starEach_of hs1 _ _)) hw) fun D σ H ⟨P, φ, F, env, st, s, q⟩ => tX_iff.mpr ⟨P, φ, F, env, st, s.rel, ?_⟩
  have q : OutS X.K cl P φ F H W D (lift (slotR o1 a (evE call a env st)) env fun x s1 => lift (slotR o2 b (evE call b env s1)) env fun y s2 => lift (slotR o3 c (evE call c env s2)) env fun z s3 => .ok (.nx, ((env.set i x).set j y).set l z) s3) := q
  rw [lift_slot] at q
  refine OutS.lift (rl := rlX X.K φ H o1) q s fun v1 H1 F1 d1 st1 s1 e1 q1 _ o => ?_
  cases z1 : slotOf o1 a d1 with
  | none => rw [z1] at o; exact o.elim
  | some x1 =>
    rw [z1] at o
    have o : OutS X.K cl P φ F1 H1 W D (lift (slotR o2 b (evE call b env st1)) env fun y s2 => lift (slotR o3 c (evE call c env s2)) env fun z s3 => .ok (.nx, ((env.set i x1).set j y).set l z) s3) := o
    rw [lift_slot] at o
    have t1 := s.take e1 s1.rel.sok i q1 z1
    refine tX_iff.mpr ⟨P, φ, F1, env, st1, s1.rel, OutS.lift (rl := rlX X.K φ H1 o2) o s1 fun v2 H2 F2 d2 st2 s2 e2 q2 _ o => ?_⟩
    cases z2 : slotOf o2 b d2 with
    | none => rw [z2] at o; exact o.elim
    | some x2 =>
      rw [z2] at o
      have o : OutS X.K cl P φ F2 H2 W D (lift (slotR o3 c (evE call c env st2)) env fun z s3 => .ok (.nx, ((env.set i x1).set j x2).set l z) s3) := o
      rw [lift_slot] at o
      have t2 := t1.take e2 s2.rel.sok j q2 z2
      refine tX_iff.mpr ⟨P, φ, F2, env, st2, s2.rel, OutS.lift (rl := rlX X.K φ H2 o3) o s2 fun v3 H3 F3 d3 st3 s3 e3 q3 _ o => ?_⟩
      cases z3 : slotOf o3 c d3 with
      | none => rw [z3] at o; exact o.elim
      | some x3 =>
        rw [z3] at o
        exact ⟨v1, v2, v3, rfl, o.here (t2.take e3 s3.rel.sok l q3 z3)⟩
/-- an object that nothing is told of is new -/
theorem OutS.newO {P : Addr → Prop} {φ : List Addr} {F H : Hp} {D : Ends} {fl : Fl} {env' : Env} {st : Sto} {σ : L2.St} {p : Addr} {ob : HO} (o : OutS X.K cl P φ F H W D (.ok (fl, env') st)) (s : StR X.K P φ F env' st σ H) (hp : H p = none) : FlR X.K cl W D φ F fl σ (upd H p ob) :=
  o _ _ F φ .refl ((ext_new s.rel.sok hp).weak s.dom) (s.step (ext_new s.rel.sok hp) (s.rel.sok.new hp))
theorem pg_two (cx : Ctx X Γ cl n call) {i j : Nat} {x y : Str} {px py pt : Pos} {kt : Nat} (hx : Γ.tgt i x = true) (hy : Γ.tgt j y = true) : PG X (.Tuple [.Name x px, .Name y py] kt pt) (tgR X.K (.many [i, j])) :=
  pg_of cx (tg := .many [i, j]) (by show (Γ.tgt i x && (Γ.tgt j y && true)) = true; rw [hx, hy] <;> rfl)
theorem ss_par2u (sx : SX X Γ cl n call W) {i j : Nat} {o1 o2 : Bool} {a b : E} {x y : Str} {u v : Expr} {px py pt pt2 pos : Pos} {kt k2 : Nat} (sa : SE cl call X W u a) (sb : SE cl call X W v b) (h1 : (!o1 || isNew a) = true) (h2 : (!o2 || isNew b) = true)
    (hx : Γ.tgt i x = true) (hy : Γ.tgt j y = true) (hs1 : notStar u = true) (hs2 : notStar v = true) (hw : noSwap Γ.sc [.Name x px, .Name y py] (.Tuple [u, v] k2 pt2) = true) :
    PS X (.Assign [.Tuple [.Name x px, .Name y py] kt pt] (.Tuple [u, v] k2 pt2) pos) (tS X.K cl call L W (.par2 i o1 a j o2 b)) := by
  refine PS.of (ps_asg (pe_tup (pa_cons (sa.px h1) (pa_cons (sb.px h2) pa_nil (starEach_of hs2 _ _)) (starEach_of hs1 _ _))) (pg_two sx.cx hx hy) (sws rfl) (noSwap_of sx.cx.sc hw)) fun D σ H ⟨P, φ, F, env, st, s, q⟩ => tX_iff.mpr ⟨P, φ, F, env, st, s.rel, ?_⟩
  have q : OutS X.K cl P φ F H W D (lift (slotR o1 a (evE call a env st)) env fun x s1 => lift (slotR o2 b (evE call b env s1)) env fun y s2 => .ok (.nx, (env.set i x).set j y) s2) := q
  rw [lift_slot] at q
  refine OutS.lift (rl := rlX X.K φ H o1) q s fun v1 H1 F1 d1 st1 s1 e1 q1 _ o => ?_
  cases z1 : slotOf o1 a d1 with
  | none => rw [z1] at o; exact o.elim
  | some x1 =>
    rw [z1] at o
    have o : OutS X.K cl P φ F1 H1 W D (lift (slotR o2 b (evE call b env st1)) env fun y s2 => .ok (.nx, (env.set i x1).set j y) s2) := o
    rw [lift_slot] at o
    have t1 := s.take e1 s1.rel.sok i q1 z1
    refine tX_iff.mpr ⟨P, φ, F1, env, st1, s1.rel, OutS.lift (rl := rlX X.K φ H1 o2) o s1 fun v2 H2 F2 d2 st2 s2 e2 q2 _ o' => ?_⟩
    cases z2 : slotOf o2 b d2 with
    | none => rw [z2] at o'; exact o'.elim
    | some x2 =>
      rw [z2] at o'
      exact ⟨by show 2 ≤ sizeLine; decide, fun p hp => ⟨p, [v1, v2], rfl, SqT.of upd_same, rfl, v1, [v2], rfl, v2, [], rfl, rfl, OutS.newO o' (t1.take e2 s2.rel.sok j q2 z2) hp⟩⟩
theorem ss_par3u (sx : SX X Γ cl n call W) {i j l : Nat} {o1 o2 o3 : Bool} {a b c : E} {x y z : Str} {u v w : Expr} {px py pz pt pt2 pos : Pos} {kt k2 : Nat} (sa : SE cl call X W u a) (sb : SE cl call X W v b) (sc : SE cl call X W w c) (h1 : (!o1 || isNew a) = true) (h2 : (!o2 || isNew b) = true) (h3 : (!o3 || isNew c) = true)
    (hx : Γ.tgt i x = true) (hy : Γ.tgt j y = true) (hz : Γ.tgt l z = true) (hs1 : notStar u = true) (hs2 : notStar v = true) (hs3 : notStar w = true) (hw : noSwap Γ.sc [.Name x px, .Name y py, .Name z pz] (.Tuple [u, v, w] k2 pt2) = true) :
    PS X (.Assign [.Tuple [.Name x px, .Name y py, .Name z pz] kt pt] (.Tuple [u, v, w] k2 pt2) pos) (tS X.K cl call L W (.par3 i o1 a j o2 b l o3 c)) := by
  have pg : PG X (.Tuple [.Name x px, .Name y py, .Name z pz] kt pt) (tgR X.K (.many [i, j, l])) := pg_of sx.cx (tg := .many [i, j, l]) (by show (Γ.tgt i x && (Γ.tgt j y && (Γ.tgt l z && true))) = true; rw [hx, hy, hz] <;> rfl)
  refine PS.of (ps_asg (pe_tup (pa_cons (sa.px h1) (pa_cons (sb.px h2) (pa_cons (sc.px h3) pa_nil (starEach_of hs3 _ _)) (starEach_of hs2 _ _)) (starEach_of hs1 _ _))) pg (sws rfl) (noSwap_of sx.cx.sc hw)) fun D σ H ⟨P, φ, F, env, st, s, q⟩ => tX_iff.mpr ⟨P, φ, F, env, st, s.rel, ?_⟩
  have q : OutS X.K cl P φ F H W D (lift (slotR o1 a (evE call a env st)) env fun x s1 => lift (slotR o2 b (evE call b env s1)) env fun y s2 => lift (slotR o3 c (evE call c env s2)) env fun z s3 => .ok (.nx, ((env.set i x).set j y).set l z) s3) := q
  rw [lift_slot] at q
  refine OutS.lift (rl := rlX X.K φ H o1) q s fun v1 H1 F1 d1 st1 s1 e1 q1 _ o => ?_
  cases z1 : slotOf o1 a d1 with
  | none => rw [z1] at o; exact o.elim
  | some x1 =>
    rw [z1] at o
    have o : OutS X.K cl P φ F1 H1 W D (lift (slotR o2 b (evE call b env st1)) env fun y s2 => lift (slotR o3 c (evE call c env s2)) env fun z s3 => .ok (.nx, ((env.set i x1).set j y).set l z) s3) := o
    rw [lift_slot] at o
    have t1 := s.take e1 s1.rel.sok i q1 z1
    refine tX_iff.mpr ⟨P, φ, F1, env, st1, s1.rel, OutS.lift (rl := rlX X.K φ H1 o2) o s1 fun v2 H2 F2 d2 st2 s2 e2 q2 _ o => ?_⟩
    cases z2 : slotOf o2 b d2 with
    | none => rw [z2] at o; exact o.elim
    | some x2 =>
      rw [z2] at o
      have o : OutS X.K cl P φ F2 H2 W D (lift (slotR o3 c (evE call c env st2)) env fun z s3 => .ok (.nx, ((env.set i x1).set j x2).set l z) s3) := o
      rw [lift_slot] at o
      have t2 := t1.take e2 s2.rel.sok j q2 z2
      refine tX_iff.mpr ⟨P, φ, F2, env, st2, s2.rel, OutS.lift (rl := rlX X.K φ H2 o3) o s2 fun v3 H3 F3 d3 st3 s3 e3 q3 _ o => ?_⟩
      cases z3 : slotOf o3 c d3 with
      | none => rw [z3] at o; exact o.elim
      | some x3 =>
        rw [z3] at o
        exact ⟨by show 3 ≤ sizeLine; decide, fun p hp => ⟨p, [v1, v2, v3], rfl, SqT.of upd_same, rfl, v1, [v2, v3], rfl, v2, [v3], rfl, v3, [], rfl, rfl, OutS.newO o (t2.take e3 s3.rel.sok l q3 z3) hp⟩⟩
theorem lc_of {i : Nat} {x : Str} (h : Γ.tgt i x = true) (hl : isLoc (Γ.sc.names.lookup x) = true) : Γ.lc i x = true := by
  unfold Gam.tgt at h
  unfold Gam.lc
  rw [hl, (Bool.and_eq_true_iff.mp (Bool.and_eq_true_iff.mp h).1).1] <;> rfl
end
end Eng
end

section
set_option autoImplicit false
namespace Eng
open PySem PySem.Spec PyProof.Rows L2
section
variable {cl : List Addr} {n L : Nat} {call : Nat → List D → Sto → R D} {X : Cx} {Γ : Gam} {W : WX}
theorem made_eq {H : Hp} {a dx C : Addr} {v : V} {o : HO} (h1 : H a = none) (h2 : H dx = none) (ne : dx ≠ a) :
    upd (del (upd (upd (upd H a (exo a C none)) dx (exd dx [(("thing" : Str), v)])) a (exo a C (some dx))) a) dx o = upd H dx o := by
  funext b
  by_cases hb : b = dx
  · subst hb; rw [upd_same, upd_same]
  · rw [upd_ne hb, upd_ne hb]
    by_cases ha : b = a
    · subst ha; rw [del_same, h1]
    · rw [del_ne ha, upd_ne ha, upd_ne hb, upd_ne ha]
theorem ss_raise (sx : SX X Γ cl n call W) {c : Nat} {e : E} {x : Str} {y : Expr} {p1 p2 p3 : Pos} (se : SE cl call X W y e) (hc : Γ.isCls x c = true) (hs : notStar y = true) :
    PS X (.Raise (some (.Call (.Name x p1) [y] [] p2)) none p3) (tS X.K cl call L W (.raise c e)) := by
  obtain ⟨h1, C, fI, c1, c2, c3, c4⟩ := sx.cx.clsG hc
  obtain ⟨g1, g2, g3⟩ := sx.cx.glo h1
  obtain ⟨fd, Fn, hb⟩ := ini_ok (w := X.w) (mg := X.mg) (base := X.base) c3
  refine PS.of (ps_raise sx.cx.calm sx.tk (pmk_oex c3.T c3.ini c3.ty Fn (sx.room2.mono (by omega)) hb .nil (passes_call sx.tk fun _ _ _ _ q => q.elim) g1 c2 (pa_cons se.pe pa_nil (starEach_of hs _ _)) g2 (starEach_of hs _ _) rfl)) fun D σ H ⟨P, φ, F, env, st, s, q⟩ =>
    ⟨P, φ, F, env, st, s.rel, OutS.lift (rl := rlE X.K φ) q s fun v H1 F1 d st1 s1 e1 q1 _ o1 => ⟨by show 1 ≤ 1000; decide, fun a ha => ⟨a, v, rfl, upd_same, fun dx n ne => ⟨rfl, dx, [(("thing" : Str), v)], upd_same, ?_, ?_, ?_⟩⟩⟩⟩
  · rw [upd_ne ne]; exact upd_same
  · rw [upd_ne ne] at n; exact n
  · have hd : H1 dx = none := by rw [upd_ne ne] at n; exact n
    rw [made_eq ha hd ne]
    have k := s1.rel.sok
    have s2 : StR X.K P φ F1 env st1 σ (upd H1 dx (.xd [(("thing" : Str), v)])) := s1.step (ext_new k hd) (k.new hd)
    exact o1 σ _ F1 φ .refl ((ext_new k hd).weak s1.dom) s2 (.ref C) dx ⟨C, v, c1, rfl, upd_same, q1⟩
section
variable {C a : Addr} {oe : Obj} {cls : Value} {d : Option Addr} {i : Nat} {nm : Str} {pn : List (Addr × Obj)}
/-- the suite's reading -/
def tHd (K : PySem.W.Frag) (cl : List Addr) (C a : Addr) (cls : Value) (d : Option Addr) (i : Nat) (h : Hd) : TS := fun D σ H => ∃ P φ F env st th, Rel K P φ F env st σ H ∧ TF K C a cls d i th φ F σ H ∧
  ∃ fl, evHd th env h = some fl ∧ ∀ F' H', Ext (Dm H) φ F H F' H' → Sok K φ F' st H' → FlR K cl W0 D φ F' fl σ H'
theorem sHd (cx : Ctx X Γ cl n call) (xf : XfC X.K C) (noF : PySem.W.findIn X.K (.ref C) "thing" = some none) (hz : Zc cls d oe) (hd : ∃ vs, oe.data = .fields vs) :
    ∀ (h : Hd) (x : Stmt), chkHd Γ i nm h x = true → PSs (X.suite a ((a, oe) :: pn)) [x] (tHd X.K cl C a cls d i h)
  | .ret b, x, hh => by
    cases x <;> first | (simp [chkHd] at hh; done) | skip
    rename_i o pos
    cases o <;> first | (simp [chkHd] at hh; done) | skip
    refine PSs.of (pss_one (ps_ret (sHB cx xf noF hz hd b _ hh))) fun D σ H ⟨P, φ, F, env, st, th, r, t, fl, e, q⟩ => ⟨P, φ, F, env, st, th, r, t, ?_⟩
    have e : (evHB th env b).map (fun c => Fl.rt (.bl c)) = some fl := e
    show Out X.K cl φ F H σ W0 rlBl (R.of (evHB th env b) st) _
    cases eb : evHB th env b with
    | none => rw [eb] at e; cases e
    | some c =>
      rw [eb] at e
      cases e
      intro v H' F' ex k qv
      have qv : v = .bl c := qv
      subst qv
      exact q F' H' ex k _ (.bl c)
  | .retB c, x, hh => by
    cases x <;> first | (simp [chkHd] at hh; done) | skip
    rename_i o pos
    cases o <;> first | (simp [chkHd] at hh; done) | skip
    rename_i y
    cases y <;> first | (simp [chkHd] at hh; done) | skip
    rename_i k j p
    cases k <;> first | (simp [chkHd] at hh; done) | skip
    have hh : c = _ := of_decide_eq_true hh
    subst hh
    exact PSs.of (pss_one (ps_ret (pe_bl (X := X.suite a ((a, oe) :: pn))))) fun D σ H ⟨P, φ, F, env, st, th, r, t, fl, e, q⟩ => by
      cases e
      exact q F H .refl r.sok _ (.bl c)
  | .ifret b c, x, hh => by
    have hh : (match ifrS x with
      | some z => decide (c = z.c) && chkHB Γ i nm b z.x
      | none => false) = true := hh
    cases hz' : ifrS x with
    | none => rw [hz'] at hh; cases hh
    | some z =>
      rw [hz'] at hh
      rw [ifrS_eq hz']
      obtain ⟨h1, h2⟩ := Bool.and_eq_true_iff.mp (show (decide (c = z.c) && chkHB Γ i nm b z.x) = true from hh)
      have h1 : c = z.c := of_decide_eq_true h1
      refine PSs.of (pss_one (ps_if (X := X.suite a ((a, oe) :: pn)) (sHBt cx xf noF hz hd b z.x h2) (pss_one (ps_ret (pe_bl (X := X.suite a ((a, oe) :: pn))))) pss_nil)) fun D σ H ⟨P, φ, F, env, st, th, r, t, fl, e, q⟩ => ⟨P, φ, F, env, st, th, r, t, ?_⟩
      have e : (evHB th env b).map (fun t => match t with | true => Fl.rt (.bl c) | false => .nx) = some fl := e
      show Out X.K cl φ F H σ W0 rlT (R.of (evHB th env b) st) _
      cases eb : evHB th env b with
      | none => rw [eb] at e; cases e
      | some t =>
        rw [eb] at e
        intro v H' F' ex k qv
        have qv : v = t := qv
        subst qv
        cases v with
        | true =>
          cases e
          rw [if_pos rfl]
          exact q F' H' ex k _ (by rw [← h1]; exact .bl c)
        | false =>
          cases e
          rw [if_neg (by decide)]
          exact q F' H' ex k
theorem evHd_fl {th : D} {env : Env} {h : Hd} {fl : Fl} (e : evHd th env h = some fl) : fl = .nx ∨ ∃ x, fl = .rt x := by
  cases h with
  | ret b =>
    have e : (evHB th env b).map (fun c => Fl.rt (.bl c)) = some fl := e
    cases eb : evHB th env b with
    | none => rw [eb] at e; cases e
    | some c => rw [eb] at e; cases e; exact .inr ⟨_, rfl⟩
  | ifret b c =>
    have e : (evHB th env b).map (fun t => match t with | true => Fl.rt (.bl c) | false => .nx) = some fl := e
    cases eb : evHB th env b with
    | none => rw [eb] at e; cases e
    | some t => rw [eb] at e; cases t <;> cases e <;> first | exact .inl rfl | exact .inr ⟨_, rfl⟩
  | retB c => cases e; exact .inr ⟨_, rfl⟩
end
theorem ss_try (sx : SX X Γ cl n call W) {b : Ss} {c i : Nat} {h : Hd} {z : PT'} (hb : ∀ (pn : List (Addr × Obj)) (xe : Value → Shared → Prop) (W' : WX), SX (X.tr pn xe) Γ cl n call W' → PSs (X.tr pn xe) z.body (tSs X.K cl call L W' b))
    (hc : Γ.isCls z.x c = true) (hl : Γ.lc i z.n = true) (hh : chkHd Γ i z.n h z.st = true) : PS X z.back (tS X.K cl call L W (.tryx b c i h)) := by
  obtain ⟨h1, C, fI, c1, c2, c3, c4⟩ := sx.cx.clsG hc
  obtain ⟨g1, g2, g3⟩ := sx.cx.glo h1
  obtain ⟨n1, l1⟩ := sx.cx.lc2 hl
  have cx := sx.cx
  refine PS.of (ps_try_as (tb := fun W' => tSs X.K cl call L W' b) (ts := fun a cls d => tHd X.K cl C a cls d i h) sx.stk sx.frm cx.nd n1 l1 ⟨g1, g2, .inl c2⟩ sx.tk
    (fun W' pn xe tk' ps' => hb pn xe W' ⟨⟨cx.N, cx.nd, cx.sc, cx.fn, cx.calm, cx.room, cx.gd, fun q => ⟨(cx.lam q).room, (cx.lam q).tb⟩, cx.g⟩, sx.kind, sx.room2, sx.stk, sx.frm, ps', tk'⟩)
    (fun a oe cls d pn hz hd => sHd cx c4 c3.noF hz hd h z.st hh)) fun D σ H ⟨P, φ, F, env, st, s, q⟩ => ⟨P, φ, F, env, st, s, ?_⟩
  have q : OutS X.K cl P φ F H W D (tryR c i h (evSs call L b env st)) := q
  cases er : evSs call L b env st with
  | exc x s => rw [er] at q; exact q.elim
  | stuck => rw [er] at q; exact q.elim
  | ok p s1 =>
    rw [er] at q
    obtain ⟨fl, env'⟩ := p
    cases fl with
    | nx => exact q
    | rt d => exact q
    | bk => exact q
    | ct => exact q
    | ex x =>
      intro σ' H' F' φ' pr ex s' cc dx hx
      have q : OutS X.K cl P φ F H W D (match decide (x.cls = c) with
        | true => match decide (i < env'.length) with
          | true => match evHd x.thing (env'.set i .un) h with
            | some fl => .ok (fl, env'.set i .un) s1
            | none => .stuck
          | false => .stuck
        | false => .ok (.ex x, env') s1) := q
      obtain ⟨A, v, e1, rfl, e3, e4⟩ := hx
      refine ⟨decide (x.cls = c), cx.g.exm _ _ _ _ e1 c1, fun hy a ha => ?_, fun hn => ?_⟩
      · rw [hy] at q
        have hxc : x.cls = c := of_decide_eq_true hy
        have hAC : A = C := by rw [hxc, c1] at e1; exact (Option.some.inj e1).symm
        subst hAC
        have q : OutS X.K cl P φ F H W D (match decide (i < env'.length) with
          | true => match evHd x.thing (env'.set i .un) h with
            | some fl => .ok (fl, env'.set i .un) s1
            | none => .stuck
          | false => .stuck) := q
        cases hi : decide (i < env'.length) with
        | false => rw [hi] at q; exact q.elim
        | true =>
        rw [hi] at q
        have q : OutS X.K cl P φ F H W D (match evHd x.thing (env'.set i .un) h with
            | some fl => .ok (fl, env'.set i .un) s1
            | none => .stuck) := q
        have ri : i < σ'.length := by rw [← s'.rel.len]; exact of_decide_eq_true hi
        cases eh : evHd x.thing (env'.set i .un) h with
        | none => rw [eh] at q; exact q.elim
        | some fl =>
          rw [eh] at q
          refine ⟨P, φ', F', env'.set i .un, s1, x.thing, s'.rel.setUn i _, ⟨rfl, by rw [List.getElem?_set, if_pos rfl, if_pos ri], dx, v, rfl, e3, e4⟩, fl, eh, fun F2 H2 ex2 k2 => ?_⟩
          have r2 : StR X.K P φ' F2 (env'.set i .un) s1 (σ'.set i none) H2 := ⟨(s'.rel.step ex2 k2).setUn i none, fun a p => ex2.dom a (s'.dom a p)⟩
          have fin := q _ _ F2 φ' pr (ex.go pr (ex2.weak s'.dom)) r2
          rcases evHd_fl eh with rfl | ⟨y, rfl⟩
          · show D.nx ((σ'.set i (some (.ref a))).set i none) H2
            rw [List.set_set]
            exact fin
          · exact fin
      · rw [hn] at q
        exact q σ' H' F' φ' pr ex s' (.ref A) dx ⟨A, v, e1, rfl, e3, e4⟩
end
end Eng
end

section
set_option autoImplicit false
namespace Eng
open PySem PySem.Spec PyProof.Rows L2
section
variable {cl : List Addr} {n L : Nat} {call : Nat → List D → Sto → R D} {X : Cx} {Γ : Gam} {W : WX}
theorem ss_fz {is : List Nat} {s : S} {t : Stmt} (h : PS X t (tS X.K cl call L W s)) : PS X t (tS X.K cl call L W (.fz is s)) :=
  PS.of h fun D σ H ⟨P, φ, F, env, st, s, q⟩ => by
    obtain ⟨F', r, l, f⟩ := s.rel.freeze is
    have e : Ext P φ F H F' H := ⟨fun _ _ _ _ e _ => e, fun a p => f a p, l, fun _ h => h⟩
    exact ⟨P, φ, F', freezeE env is, st, ⟨r, s.dom⟩, OutS.step q .refl e⟩
/-! ### name op= e -/
def rAug (K : PySem.W.Frag) (o : BOp) : V → V → Hp → VK → Prop := fun x y H Q => ∃ (φ : List Addr) (F : Hp) (d e r : D), Rep K φ F x d ∧ RepB K φ F H y e ∧ augop o d e = some r ∧ ∀ v, (∀ φ F, Rep K φ F v r) → Q v H
theorem op_aug {o : BOp} {op : Operator} (ho : iopB o op = true) : PIp X op (rAug X.K o) := by
  intro pins s σ H x y v u Q I rx ry h
  obtain ⟨φ, F, d, e, r, r1, r2, e1, h⟩ := h
  have r1 : RepB X.K φ F H x d := .inl r1
  cases o <;> cases op <;> first | (cases ho; done) | skip
  · cases d <;> cases e <;> first | (simp [augop] at e1; done) | skip
    · simp only [augop, binop, Option.some.injEq] at e1
      exact iop_add pins s σ H x y v u Q I rx ry ⟨_, _, r1.int, r2.int, h _ fun _ _ => by rw [← e1]; exact .int _⟩
    · simp only [augop, binop] at e1
      split at e1
      · rename_i hz
        cases e1
        exact iop_add_str pins s σ H x y v u Q I rx ry ⟨_, _, r1.str, r2.str, of_decide_eq_true hz, h _ fun _ _ => .str _⟩
      · cases e1
  · cases d <;> cases e <;> first | (simp [augop] at e1; done) | skip
    simp only [augop, binop, Option.some.injEq] at e1
    exact iop_sub pins s σ H x y v u Q I rx ry ⟨_, _, r1.int, r2.int, h _ fun _ _ => by rw [← e1]; exact .int _⟩
  · cases d <;> cases e <;> first | (simp [augop] at e1; done) | skip
    rename_i i j
    simp only [augop, binop] at e1
    split at e1
    · rename_i hz
      cases e1
      exact iop_mul pins s σ H x y v u Q I rx ry ⟨_, _, r1.int, r2.int, (Bool.or_eq_true_iff.mp hz).elim (fun q => .inl (nat_lt_of q)) (fun q => .inr (nat_lt_of q)), h _ fun _ _ => .int _⟩
    · cases e1
  · cases d <;> cases e <;> first | (simp [augop] at e1; done) | skip
    rename_i i j
    simp only [augop] at e1
    split at e1
    · rename_i hz
      obtain ⟨z1, z2⟩ := Bool.and_eq_true_iff.mp hz
      cases e1
      exact iop_fdiv pins s σ H x y v u Q I rx ry ⟨_, _, r1.int, r2.int, ⟨of_decide_eq_true z1, of_decide_eq_true z2⟩, h _ fun _ _ => .int _⟩
    · cases e1
theorem lift_bind {α β : Type} {r : R α} {f : α → Sto → R β} {env : Env} {k : β → Sto → RS} : lift (r.bind f) env k = lift r env fun a s => lift (f a s) env k := by
  cases r <;> rfl
theorem ss_aug (sx : SX X Γ cl n call W) {i : Nat} {o : BOp} {op : Operator} {e : E} {x : Str} {y : Expr} {px pos : Pos} (se : SE cl call X W y e) (ht : Γ.tgt i x = true) (ho : iopB o op = true) : PS X (.AugAssign (.Name x px) op y pos) (tS X.K cl call L W (.aug i o e)) := by
  obtain ⟨h1, h2, h3⟩ := sx.cx.tgt3 ht
  refine PS.of (ps_aug sx.cx.nd h1 h2 se.pb (op_aug ho) h3) fun D σ H ⟨P, φ, F, env, st, s, q⟩ => ?_
  have q : OutS X.K cl P φ F H W D (match sget env i with
    | .val x => lift ((rdB e env st (evE call e env st)).bind fun y s1 => .of (augop o x y) s1) env fun z s2 => .ok (.nx, env.set i (.val z)) s2
    | _ => .stuck) := q
  have sl := s.rel.sl i
  cases es : sget env i with
  | un => rw [es] at q; exact q.elim
  | own _ => rw [es] at q; exact q.elim
  | val d =>
    rw [es] at q sl
    obtain ⟨v, e1, rv⟩ := sl
    have q : OutS X.K cl P φ F H W D (lift ((rdB e env st (evE call e env st)).bind fun y s1 => .of (augop o d y) s1) env fun z s2 => .ok (.nx, env.set i (.val z)) s2) := q
    rw [lift_bind] at q
    refine ⟨v, e1, P, φ, F, env, st, s.rel, OutS.lift (rl := rlB X.K φ) q s fun w H1 F1 d1 st1 s1 x1 q1 _ o1 => ?_⟩
    cases ea : augop o d d1 with
    | none => rw [ea] at o1; exact o1.elim
    | some z =>
      rw [ea] at o1
      exact ⟨φ, F1, d, d1, z, rv.le x1.mono, q1, ea, fun v' hv => OutS.here o1 (s1.setVal i (hv φ F1))⟩
/-! ### x.append(e), x.extend(e) -/
theorem pe_lm {T id : String} {name : Str} {r : V → List V → Hp → VK → Prop} {o e : Expr} {to : TE} {t : TA} {apos cpos : Pos} (pa : PlainAttrs T) (slot : Slot T name id) (hty : typeOf (.builtin id) = pure (.type "method_descriptor")) (hm : MtR X id r) (ho : PE X o to) (ha : PA X [e] t)
    (hbase : attributeBase o name X.env (eval o X.env) = eval o X.env) (hline : (apos.endLine == cpos.line) = true) (hs : notStar e = true) : PE X (.Call (.Attribute o name apos) [e] [] cpos) (tBM X.K T r to t) :=
  pe_bm pa slot hty hm ho ha hbase (by rw [starEach_of hs] <;> rfl) hline (starEach_of hs _ _) rfl
theorem ss_app (sx : SX X Γ cl n call W) {i : Nat} {e : E} {x : Str} {y : Expr} {px apos cpos pos : Pos} {name : Str} (hn : name = "append") (se : SE cl call X W y e) (hs : notStar y = true) (ht : Γ.nm i x = true) (hl : (apos.endLine == cpos.line) = true) :
    PS X (.Expr (.Call (.Attribute (.Name x px) name apos) [y] [] cpos) pos) (tS X.K cl call L W (.app i e)) := by
  subst hn
  obtain ⟨h1, h2, h3, h4⟩ := nm_parts sx.cx ht
  refine PS.of (ps_expr (pe_lm PySem.F.plainAttrs_list PySem.F.slot_list_append PySem.F.type_list_append mt_append (pe_var h1 h2 h3 h4) (pa_cons se.pe pa_nil (starEach_of hs _ _)) rfl hl hs) rfl) fun D σ H ⟨P, φ, F, env, st, s, q⟩ => ?_
  have q : OutS X.K cl P φ F H W D (match sget env i with
    | .own ds => lift (evE call e env st) env fun d s1 => match decide (ds.length < sizeLine) with
      | true => .ok (.nx, env.set i (.own (ds ++ [d]))) s1
      | false => .stuck
    | _ => .stuck) := q
  cases es : sget env i with
  | un => rw [es] at q; exact q.elim
  | val _ => rw [es] at q; exact q.elim
  | own ds =>
    rw [es] at q
    obtain ⟨a, vs, e1, e2, _⟩ := s.rel.own_at es
    refine ⟨.ref a, e1, .inl ⟨rfl, vs, SqL.of e2⟩, P, φ, F, env, st, s.rel, OutS.lift (rl := rlE X.K φ) q s fun v H1 F1 d st1 s1 x1 q1 _ o1 => ?_⟩
    obtain ⟨a', vs', p1, p2, p3, p4, p5, p6, p7, p8⟩ := s1.rel.own_at es
    rw [e1] at p1
    cases p1
    cases hz : decide (ds.length < sizeLine) with
    | false => rw [hz] at o1; exact o1.elim
    | true =>
      rw [hz] at o1
      exact ⟨a, vs', v, rfl, rfl, p2, by rw [p6.len]; exact of_decide_eq_true hz, OutS.write o1 s1 es e1 (p6.app (.cons q1 .nil))⟩
theorem ss_ext (sx : SX X Γ cl n call W) {i : Nat} {e : E} {x : Str} {y : Expr} {px apos cpos pos : Pos} {name : Str} (hn : name = "extend") (se : SE cl call X W y e) (hs : notStar y = true) (ht : Γ.nm i x = true) (hl : (apos.endLine == cpos.line) = true) :
    PS X (.Expr (.Call (.Attribute (.Name x px) name apos) [y] [] cpos) pos) (tS X.K cl call L W (.ext i e)) := by
  subst hn
  obtain ⟨h1, h2, h3, h4⟩ := nm_parts sx.cx ht
  refine PS.of (ps_expr (pe_lm PySem.F.plainAttrs_list PySem.F.slot_list_extend PySem.F.type_list_extend mt_extend (pe_var h1 h2 h3 h4) (pa_cons se.pb pa_nil (starEach_of hs _ _)) rfl hl hs) rfl) fun D σ H ⟨P, φ, F, env, st, s, q⟩ => ?_
  have q : OutS X.K cl P φ F H W D (match sget env i with
    | .own ds => lift (rdB e env st (evE call e env st)) env fun d s1 => match d with
      | .lst es => match decide (ds.length + es.length ≤ sizeLine) with
        | true => .ok (.nx, env.set i (.own (ds ++ es))) s1
        | false => .stuck
      | _ => .stuck
    | _ => .stuck) := q
  cases es : sget env i with
  | un => rw [es] at q; exact q.elim
  | val _ => rw [es] at q; exact q.elim
  | own ds =>
    rw [es] at q
    obtain ⟨a, vs, e1, e2, _⟩ := s.rel.own_at es
    refine ⟨.ref a, e1, .inl ⟨rfl, vs, SqL.of e2⟩, P, φ, F, env, st, s.rel, OutS.lift (rl := rlB X.K φ) q s fun v H1 F1 d st1 s1 x1 q1 er o1 => ?_⟩
    obtain ⟨a', vs', p1, p2, p3, p4, p5, p6, p7, p8⟩ := s1.rel.own_at es
    rw [e1] at p1
    cases p1
    cases d <;> first | (exact o1.elim) | skip
    rename_i xs
    obtain ⟨b, ws, rfl, q2, q3⟩ := q1.lst s1.rel.sok.le
    cases hz : decide (ds.length + xs.length ≤ sizeLine) with
    | false =>
      have o1 : OutS X.K cl P φ F1 H1 W D (match decide (ds.length + xs.length ≤ sizeLine) with
        | true => .ok (.nx, env.set i (.own (ds ++ xs))) st1
        | false => .stuck) := o1
      rw [hz] at o1; exact o1.elim
    | true =>
      have o1 : OutS X.K cl P φ F1 H1 W D (match decide (ds.length + xs.length ≤ sizeLine) with
        | true => .ok (.nx, env.set i (.own (ds ++ xs))) st1
        | false => .stuck) := o1
      rw [hz] at o1
      exact ⟨a, b, vs', ws, rfl, rfl, p2, q2, by rw [p6.len, q3.len]; exact of_decide_eq_true hz, OutS.write o1 s1 es e1 (p6.app q3)⟩
/-! ### x[i] = e -/
theorem lift_asI {r : R D} {env : Env} {k : Int → Sto → RS} : lift (asI r) env k = lift r env fun d s => match d with | .int i => k i s | _ => .stuck := by
  cases r with
  | ok d s => cases d <;> rfl
  | exc x s => rfl
  | stuck => rfl
theorem pg_ix {o i : Expr} {to ti : TE} {pos : Pos} (ho : PE X o to) (hi : PE X i ti) (h : isSlice i = false) : PG X (.Subscript o i pos) (gSub to ti rSetL) :=
  pg_sub ho hi set_list fun v => by cases i <;> first | rfl | cases h
theorem assignEach_sub {o i : Expr} {p : Pos} : (assignEach [.Subscript o i p] X.env).map (·.2) = [assign (.Subscript o i p) X.env] := rfl
theorem ss_seti (sx : SX X Γ cl n call W) {i : Nat} {ix e : E} {x : Str} {y z : Expr} {px ps pos : Pos} (sy : SE cl call X W y ix) (sz : SE cl call X W z e) (hn : noComp z = true) (hs : isSlice y = false) (ht : Γ.nm i x = true) :
    PS X (.Assign [.Subscript (.Name x px) y ps] z pos) (tS X.K cl call L W (.seti i ix e)) := by
  obtain ⟨h1, h2, h3, h4⟩ := nm_parts sx.cx ht
  refine PS.of (ps_asg sz.pe (pg_ix (pe_var h1 h2 h3 h4) sy.pe hs) (sws hn) (by cases z <;> rfl)) fun D σ H ⟨P, φ, F, env, st, s, q⟩ => ⟨P, φ, F, env, st, s.rel, OutS.lift (rl := rlE X.K φ) q s fun v H1 F1 d st1 s1 x1 q1 _ o1 => ?_⟩
  cases es : sget env i with
  | un => rw [es] at o1; exact o1.elim
  | val _ => rw [es] at o1; exact o1.elim
  | own ds =>
    rw [es] at o1
    obtain ⟨a, vs, e1, _⟩ := s1.rel.own_at es
    have o1 : OutS X.K cl P φ F1 H1 W D (lift (asI (evE call ix env st1)) env fun k s2 => match ixN ds.length k with
      | some j => .ok (.nx, env.set i (.own (ds.set j d))) s2
      | none => .stuck) := o1
    rw [lift_asI] at o1
    refine ⟨.ref a, e1, P, φ, F1, env, st1, s1.rel, OutS.lift (rl := rlE X.K φ) o1 s1 fun w H2 F2 d2 st2 s2 x2 q2 er o2 => ?_⟩
    cases d2 <;> first | (exact o2.elim) | skip
    rename_i k
    cases q2
    obtain ⟨a', vs', p1, p2, p3, p4, p5, p6, p7, p8⟩ := s2.rel.own_at es
    rw [e1] at p1
    cases p1
    have o2 : OutS X.K cl P φ F2 H2 W D (match ixN ds.length k with
      | some j => .ok (.nx, env.set i (.own (ds.set j d))) st2
      | none => .stuck) := o2
    cases hj : ixN ds.length k with
    | none => rw [hj] at o2; exact o2.elim
    | some j =>
      rw [hj] at o2
      exact ⟨a, vs', k, j, rfl, rfl, p2, by rw [p6.len]; exact hj, OutS.write o2 s2 es e1 (RepA.set (q1.le x2.mono) j p6)⟩
theorem ss_setr (sx : SX X Γ cl n call W) {i : Nat} {ix e : E} {x : Str} {y z : Expr} {px ps pos : Pos} (sy : SE cl call X W y ix) (sz : SE cl call X W z e) (hn : noComp z = true) (hs : isSlice y = false) (ht : Γ.nm i x = true) :
    PS X (.Assign [.Subscript (.Name x px) y ps] z pos) (tS X.K cl call L W (.setr i ix e)) := by
  obtain ⟨h1, h2, h3, h4⟩ := nm_parts sx.cx ht
  refine PS.of (ps_asg sz.pe (pg_ix (pe_var h1 h2 h3 h4) sy.pe hs) (sws hn) (by cases z <;> rfl)) fun D σ H ⟨P, φ, F, env, st, s, q⟩ => ⟨P, φ, F, env, st, s.rel, OutS.lift (rl := rlE X.K φ) q s fun v H1 F1 d st1 s1 x1 q1 _ o1 => ?_⟩
  have sl := s1.rel.sl i
  cases es : sget env i with
  | un => rw [es] at o1; exact o1.elim
  | own _ => rw [es] at o1; exact o1.elim
  | val dr =>
    rw [es] at o1 sl
    cases dr <;> first | (exact o1.elim) | skip
    rename_i m
    obtain ⟨va, e1, rva⟩ := sl
    cases rva with
    | @ref a _ hm =>
      have o1 : OutS X.K cl P φ F1 H1 W D (lift (asI (evE call ix env st1)) env fun k s2 => match s2[m]? with
        | some ds => match ixN ds.length k with
          | some j => .ok (.nx, env) (s2.set m (ds.set j d))
          | none => .stuck
        | none => .stuck) := o1
      rw [lift_asI] at o1
      refine ⟨.ref a, e1, P, φ, F1, env, st1, s1.rel, OutS.lift (rl := rlE X.K φ) o1 s1 fun w H2 F2 d2 st2 s2 x2 q2 er o2 => ?_⟩
      cases d2 <;> first | (exact o2.elim) | skip
      rename_i k
      cases q2
      have o2 : OutS X.K cl P φ F2 H2 W D (match st2[m]? with
        | some ds => match ixN ds.length k with
          | some j => .ok (.nx, env) (st2.set m (ds.set j d))
          | none => .stuck
        | none => .stuck) := o2
      cases hd : st2[m]? with
      | none => rw [hd] at o2; exact o2.elim
      | some ds =>
        rw [hd] at o2
        have o2 : OutS X.K cl P φ F2 H2 W D (match ixN ds.length k with
          | some j => .ok (.nx, env) (st2.set m (ds.set j d))
          | none => .stuck) := o2
        cases hj : ixN ds.length k with
        | none => rw [hj] at o2; exact o2.elim
        | some j =>
          rw [hj] at o2
          obtain ⟨_, vs, p1, p2⟩ := s2.rel.sok.cell m a ds hm hd
          exact ⟨a, vs, k, j, rfl, rfl, p1, by rw [p2.len]; exact hj, OutS.writeR o2 s2 hd hm (RepA.set (q1.le x2.mono) j p2)⟩
/-! ### the rest -/
theorem ss_expr {e : E} {x : Expr} {pos : Pos} (se : SE cl call X W x e) (hn : noComp x = true) : PS X (.Expr x pos) (tS X.K cl call L W (.expr e)) :=
  PS.of (ps_expr se.pe (by cases x <;> first | rfl | cases hn)) fun D σ H ⟨P, φ, F, env, st, s, q⟩ => ⟨P, φ, F, env, st, s.rel, OutS.lift (rl := rlE X.K φ) q s fun v H1 F1 d st1 s1 x1 q1 _ o1 => o1.here s1⟩
theorem ss_ret {e : E} {x : Expr} {pos : Pos} (se : SE cl call X W x e) : PS X (.Return (some x) pos) (tS X.K cl call L W (.ret e)) :=
  PS.of (ps_ret se.pe) fun D σ H ⟨P, φ, F, env, st, s, q⟩ => ⟨P, φ, F, env, st, s.rel, OutS.lift (rl := rlE X.K φ) q s fun v H1 F1 d st1 s1 x1 q1 _ o1 => o1.here s1 v q1⟩
theorem ss_retN {pos : Pos} : PS X (.Return none pos) (tS X.K cl call L W .retN) :=
  PS.of ps_retN fun D σ H ⟨P, φ, F, env, st, s, q⟩ => OutS.here q s .non .non
theorem ss_brk {pos : Pos} : PS X (.Break pos) (tS X.K cl call L W .brk) := PS.of ps_break fun D σ H ⟨P, φ, F, env, st, s, q⟩ => OutS.here q s
theorem ss_cont {pos : Pos} : PS X (.Continue pos) (tS X.K cl call L W .cont) := PS.of ps_continue fun D σ H ⟨P, φ, F, env, st, s, q⟩ => OutS.here q s
theorem ss_pass {pos : Pos} : PS X (.Pass pos) (tS X.K cl call L W .pass) := PS.of ps_pass fun D σ H ⟨P, φ, F, env, st, s, q⟩ => OutS.here q s
theorem ss_if {c : E} {a b : Ss} {x : Expr} {s t : List Stmt} {pos : Pos} (sc : SE cl call X W x c) (sa : PSs X s (tSs X.K cl call L W a)) (sb : PSs X t (tSs X.K cl call L W b)) : PS X (.If x s t pos) (tS X.K cl call L W (.ife c a b)) :=
  PS.of (ps_if sc.pt sa sb) fun D σ H ⟨P, φ, F, env, st, s, q⟩ => ⟨P, φ, F, env, st, s.rel, OutS.lift (rl := rlT) q s fun v H1 F1 d st1 s1 x1 q1 _ o1 => by
    have q1 : v = d := q1
    subst q1
    cases v with
    | true => rw [if_pos rfl]; exact ⟨P, φ, F1, env, st1, s1, o1⟩
    | false => rw [if_neg (by decide)]; exact ⟨P, φ, F1, env, st1, s1, o1⟩⟩
/-- a loop's body: where its ends go -/
theorem turn_body {P : Addr → Prop} {φ : List Addr} {F H : Hp} {D : Ends} {N : L2.St → Hp → Prop} {r : RS} {k : Env → Sto → RS}
    (o : OutS X.K cl P φ F H W D (r.bind fun p s => match p.1 with
      | .nx => k p.2 s
      | .ct => k p.2 s
      | .bk => .ok (.nx, p.2) s
      | .rt d => .ok (.rt d, p.2) s
      | .ex x => .ok (.ex x, p.2) s))
    (hN : ∀ φ' F' H' env' st' σ', Pre P φ φ' → Ext P φ F H F' H' → StR X.K P φ' F' env' st' σ' H' → OutS X.K cl P φ' F' H' W D (k env' st') → N σ' H') : OutS X.K cl P φ F H W { D with nx := N, ct := N, bk := D.nx } r :=
  OutS.bind o fun p st' σ' H' F' φ' hr pr ex s' o' => by
    obtain ⟨fl, env'⟩ := p
    cases fl with
    | nx => exact hN _ _ _ _ _ _ pr ex s' o'
    | ct => exact hN _ _ _ _ _ _ pr ex s' o'
    | bk => exact OutS.here o' s'
    | rt d => exact OutS.here o' s'
    | ex x => exact OutS.here o' s'
theorem ss_whl (sx : SX X Γ cl n call W) {c : E} {b : Ss} {x : Expr} {s : List Stmt} {pos : Pos} (sc : SE cl call X W x c) (sb : PSs X s (tSs X.K cl call L W b)) : PS X (.While x s [] pos) (tS X.K cl call L W (.whl c b)) :=
  PS.of (ps_while sx.pass sc.pt sb) fun D σ H ⟨P, φ, F, env, st, s, q⟩ =>
    ⟨fun m σ H => ∃ P φ F env st, StR X.K P φ F env st σ H ∧ OutS X.K cl P φ F H W D (loopW (fun env s => asB (evE call c env s)) (fun env s => evSs call L b env s) m env st), ⟨L, P, φ, F, env, st, s, q⟩,
      fun m σ H ⟨P, φ, F, env, st, s, q⟩ => by
        cases m with
        | zero => exact q.elim
        | succ m =>
          refine ⟨P, φ, F, env, st, s.rel, OutS.lift (rl := rlT) q s fun v H1 F1 d st1 s1 x1 q1 _ o1 => ?_⟩
          have q1 : v = d := q1
          subst q1
          cases v with
          | false => rw [if_neg (by decide)]; exact OutS.here o1 s1
          | true =>
            rw [if_pos rfl]
            exact ⟨_, fun σ' H' h => ⟨m, Nat.lt_succ_self m, h⟩, P, φ, F1, env, st1, s1, turn_body o1 fun φ' F' H' env' st' σ' pr ex s' o' => ⟨P, φ', F', env', st', s', o'⟩⟩⟩
theorem Good.mono {K : PySem.W.Frag} {φ : List Addr} {F F1 : Hp} {J : L2.It} {ds : List D} (g : Good K φ F J ds) (l : Le F F1) : Good K φ F1 J ds :=
  ⟨fun i F' H' d l1 l2 e => g.go i F' H' d (l.trans l1) l2 e, fun F' H' l1 l2 => g.stop F' H' (l.trans l1) l2⟩
theorem ss_for (sx : SX X Γ cl n call W) {tg : Tg} {it : IE} {b : Ss} {t x : Expr} {s : List Stmt} {pos : Pos} (ht : chkTg tg Γ t = true) (si : PI X t x (tIt X.K cl call W it)) (hm : noMark x = true) (sb : PSs X s (tSs X.K cl call L W b)) : PS X (.For t x s [] pos) (tS X.K cl call L W (.forr tg it b)) :=
  PS.of (ps_for sx.pass sx.cx.calm si (pg_of sx.cx ht) sb (pi_noMark hm)) fun D σ H ⟨P, φ, F, env, st, s, q⟩ => ⟨P, φ, F, env, st, s.rel, OutS.lift (rl := rlI X.K φ) q s fun J H1 F1 items st1 s1 x1 q1 _ o1 => by
    have q1 : Good X.K φ F1 J items := q1
    refine ⟨fun i m σ H => m + i = items.length ∧ ∃ P φ' F env st, StR X.K P φ' F env st σ H ∧ Le F1 F ∧ (∀ (n : Nat) (a : Addr), φ[n]? = some a → φ'[n]? = some a) ∧ OutS X.K cl P φ' F H W D (loopF (tgSet tg) (fun env s => evSs call L b env s) (items.drop i) env st),
      ⟨items.length, rfl, P, φ, F1, env, st1, s1, Le.refl _, fun _ _ h => h, o1⟩, fun i m σ H ⟨hm, P, φ', F, env, st, s, lF, mo, q⟩ => ?_⟩
    cases hi : items[i]? with
    | none =>
      left
      have hl := List.getElem?_eq_none_iff.mp hi
      have hil : i = items.length := by omega
      subst hil
      rw [List.drop_length] at q
      exact ⟨q1.stop F H lF s.rel.sok.le, OutS.here q s⟩
    | some d =>
      right
      obtain ⟨g1, g2⟩ := q1.go i F H d lF s.rel.sok.le hi
      have hlt := (List.getElem?_eq_some_iff.mp hi)
      have hlt1 : i < items.length := hlt.1
      have hd : items.drop i = d :: items.drop (i + 1) := by rw [← hlt.2]; exact List.drop_eq_getElem_cons hlt.1
      rw [hd] at q
      refine ⟨g1, fun σ' H' => i + 1 + (items.length - (i + 1)) = items.length ∧ ∃ P φ' F env st, StR X.K P φ' F env st σ' H' ∧ Le F1 F ∧ (∀ (n : Nat) (a : Addr), φ[n]? = some a → φ'[n]? = some a) ∧ OutS X.K cl P φ' F H' W D (loopF (tgSet tg) (fun env s => evSs call L b env s) (items.drop (i + 1)) env st),
        fun σ' H' h => ⟨items.length - (i + 1), by omega, by omega, h.2⟩, fun y H2 hy => ?_⟩
      have key : ∀ F2 H2, StR X.K P φ' F2 env st σ H2 → Ext P φ' F H F2 H2 → Rep X.K φ' F2 y d → tgR X.K tg y σ H2 fun σ2 H3 => tSs X.K cl call L W b { D with nx := fun σ' H' => i + 1 + (items.length - (i + 1)) = items.length ∧ ∃ P φ' F env st, StR X.K P φ' F env st σ' H' ∧ Le F1 F ∧ (∀ (n : Nat) (a : Addr), φ[n]? = some a → φ'[n]? = some a) ∧ OutS X.K cl P φ' F H' W D (loopF (tgSet tg) (fun env s => evSs call L b env s) (items.drop (i + 1)) env st), ct := fun σ' H' => i + 1 + (items.length - (i + 1)) = items.length ∧ ∃ P φ' F env st, StR X.K P φ' F env st σ' H' ∧ Le F1 F ∧ (∀ (n : Nat) (a : Addr), φ[n]? = some a → φ'[n]? = some a) ∧ OutS X.K cl P φ' F H' W D (loopF (tgSet tg) (fun env s => evSs call L b env s) (items.drop (i + 1)) env st), bk := D.nx } σ2 H3 := fun F2 H2 s2 ex ry => by
        have o2 := OutS.step q .refl ex
        have o2 : OutS X.K cl P φ' F2 H2 W D (match tgSet tg d env with
          | none => .stuck
          | some env1 => (evSs call L b env1 st).bind fun p s1 => match p.1 with
            | .nx => loopF (tgSet tg) (fun env s => evSs call L b env s) (items.drop (i + 1)) p.2 s1
            | .ct => loopF (tgSet tg) (fun env s => evSs call L b env s) (items.drop (i + 1)) p.2 s1
            | .bk => .ok (.nx, p.2) s1
            | .rt d => .ok (.rt d, p.2) s1
            | .ex x => .ok (.ex x, p.2) s1) := o2
        cases hx : tgSet tg d env with
        | none => rw [hx] at o2; exact o2.elim
        | some env1 =>
          rw [hx] at o2
          obtain ⟨σ2, t1, t2, _⟩ := tg_run s2.rel ry hx
          refine t1 _ ⟨P, φ', F2, env1, st, ⟨t2, s2.dom⟩, turn_body o2 fun φ3 F3 H3 env3 st3 σ3 pr ex3 s3 o3 => ⟨by omega, P, φ3, F3, env3, st3, s3, ?_, fun n a h => pr.at_ n a (mo n a h), o3⟩⟩
          exact (lF.trans ex.mono).trans ex3.mono
      rcases g2 y H2 hy with ⟨rfl, ry⟩ | ⟨T, vs, ds, hT, rfl, rfl, rfl, ra⟩
      · exact key F H2 s .refl (ry.mono (Le.refl _) mo)
      · have k := s.rel.sok
        have ex := ext_newF (o := .tup vs) k hT
        have s2 := s.step ex (k.newF hT)
        exact key _ _ s2 (ex.weak s.dom) (.tup (SqT.of upd_same) ((ra.mono (Le.refl _) mo).le (le_upd (k.fresh hT))))⟩
theorem nb {b : Bool} (h : (!b) = true) : b = false := by cases b <;> first | rfl | cases h
theorem ls_nx {r : RS} {k : Fl × Env → Sto → RS} : True := trivial
mutual
theorem sS : ∀ (s : S) (Γ : Gam) (t : Stmt), chkS s Γ t = true → ∀ (X : Cx) (W : WX), SX X Γ cl n call W → PS X t (tS X.K cl call L W s)
  | .fz is s, Γ, t, h, X, W, sx => ss_fz (sS s Γ t h X W sx)
  | .asg o i e, Γ, t, h, X, W, sx => by
    cases t <;> first | (simp [chkS] at h; done) | skip
    rename_i ts x pos
    match ts, h with
    | [.Name y py], h =>
      simp only [chkS, Bool.and_eq_true] at h
      exact ss_asg sx (sE e Γ x h.2 X W sx.cx sx.tk) h.1.2 h.1.1
  | .newref i e, Γ, t, h, X, W, sx => by
    cases t <;> first | (simp [chkS] at h; done) | skip
    rename_i ts x pos
    match ts, h with
    | [.Name y py], h =>
      simp only [chkS, Bool.and_eq_true] at h
      exact ss_newref sx (sE e Γ x h.2 X W sx.cx sx.tk) h.1.2 h.1.1
  | .unp is e, Γ, t, h, X, W, sx => by
    cases t <;> first | (simp [chkS] at h; done) | skip
    rename_i ts x pos
    match ts, h with
    | [.Tuple ts k p], h =>
      simp only [chkS, Bool.and_eq_true] at h
      exact ss_unp sx (sE e Γ x h.2 X W sx.cx sx.tk) h.1.2 h.1.1
  | .unpl is e, Γ, t, h, X, W, sx => by
    cases t <;> first | (simp [chkS] at h; done) | skip
    rename_i ts x pos
    match ts, h with
    | [.Tuple ts k p], h =>
      simp only [chkS, Bool.and_eq_true] at h
      exact ss_unpl sx (sE e Γ x h.2 X W sx.cx sx.tk) h.1.2 h.1.1
  | .par2 i o1 a j o2 b, Γ, t, h, X, W, sx => by
    obtain ⟨z, hz, h⟩ := with1_eq h
    rw [asg2_eq hz]
    simp only [Bool.and_eq_true, decide_eq_true_eq] at h
    obtain ⟨⟨⟨⟨⟨⟨⟨⟨⟨h1, h2⟩, h3⟩, h4⟩, h5⟩, h6⟩, h7⟩, h8⟩, h9⟩, h10⟩ := h
    have sa := sE a Γ _ h8 X W sx.cx sx.tk
    have sb := sE b Γ _ h9 X W sx.cx sx.tk
    rcases Bool.or_eq_true_iff.mp h10 with q | q
    · unfold sw2 at q
      simp only [Bool.and_eq_true] at q
      obtain ⟨⟨⟨⟨⟨q1, q2⟩, q3⟩, q4⟩, q5⟩, q6⟩ := q
      have l1 := lc_of h1 q1
      have l2 := lc_of h2 q2
      exact ss_par2 sx sa sb h6 h7 l1 l2 h3 h4 h5 (swap2 sx.kind (sx.cx.lc2 l1).2 (sx.cx.lc2 l2).2 q3 (nb q4) h4 h5 (nb q5) (nb q6))
    · exact ss_par2u sx sa sb h6 h7 h1 h2 h4 h5 q
  | .par3 i o1 a j o2 b l o3 c, Γ, t, h, X, W, sx => by
    obtain ⟨z, hz, h⟩ := with1_eq h
    rw [asg3_eq hz]
    simp only [Bool.and_eq_true, decide_eq_true_eq] at h
    obtain ⟨⟨⟨⟨⟨⟨⟨⟨⟨⟨⟨⟨⟨⟨⟨h1, h2⟩, h3⟩, h4⟩, h5⟩, h6⟩, h7⟩, h8⟩, h9⟩, h10⟩, h11⟩, h12⟩, h13⟩, h14⟩, h15⟩, h16⟩ := h
    have sa := sE a Γ _ h13 X W sx.cx sx.tk
    have sb := sE b Γ _ h14 X W sx.cx sx.tk
    have sc := sE c Γ _ h15 X W sx.cx sx.tk
    rcases Bool.or_eq_true_iff.mp h16 with q | q
    · unfold sw3 at q
      simp only [Bool.and_eq_true] at q
      obtain ⟨⟨⟨⟨⟨⟨⟨⟨⟨q1, q2⟩, q3⟩, q4⟩, q5⟩, q6⟩, q7⟩, q8⟩, q9⟩, q10⟩ := q
      have l1 := lc_of h1 q1
      have l2 := lc_of h2 q2
      have l3 := lc_of h3 q3
      exact ss_par3 sx sa sb sc h10 h11 h12 l1 l2 l3 h4 h5 h6 h7 h8 h9 (swap3 sx.kind (sx.cx.lc2 l1).2 (sx.cx.lc2 l2).2 (sx.cx.lc2 l3).2 q4 q5 (nb q6) (nb q7) (nb q8) h7 h8 h9 (nb q9) (nb q10))
    · exact ss_par3u sx sa sb sc h10 h11 h12 h1 h2 h3 h7 h8 h9 q
  | .aug i o e, Γ, t, h, X, W, sx => by
    cases t <;> first | (simp [chkS] at h; done) | skip
    rename_i tg op y pos
    cases tg <;> first | (simp [chkS] at h; done) | skip
    simp only [chkS, Bool.and_eq_true] at h
    exact ss_aug sx (sE e Γ y h.2 X W sx.cx sx.tk) h.1.1 h.1.2
  | .app i e, Γ, t, h, X, W, sx => by
    obtain ⟨z, hz, h⟩ := with1_eq h
    rw [metS_eq hz]
    simp only [Bool.and_eq_true, decide_eq_true_eq] at h
    exact ss_app sx h.1.1.1 (sE e Γ _ h.2 X W sx.cx sx.tk) (chkE_notStar h.2) h.1.1.2 h.1.2
  | .ext i e, Γ, t, h, X, W, sx => by
    obtain ⟨z, hz, h⟩ := with1_eq h
    rw [metS_eq hz]
    simp only [Bool.and_eq_true, decide_eq_true_eq] at h
    exact ss_ext sx h.1.1.1 (sE e Γ _ h.2 X W sx.cx sx.tk) (chkE_notStar h.2) h.1.1.2 h.1.2
  | .seti i ix e, Γ, t, h, X, W, sx => by
    obtain ⟨z, hz, h⟩ := with1_eq h
    rw [setS_eq hz]
    simp only [Bool.and_eq_true] at h
    exact ss_seti sx (sE ix Γ _ h.1.2 X W sx.cx sx.tk) (sE e Γ _ h.2 X W sx.cx sx.tk) h.1.1.2 (nb h.1.1.1.2) h.1.1.1.1
  | .setr i ix e, Γ, t, h, X, W, sx => by
    obtain ⟨z, hz, h⟩ := with1_eq h
    rw [setS_eq hz]
    simp only [Bool.and_eq_true] at h
    exact ss_setr sx (sE ix Γ _ h.1.2 X W sx.cx sx.tk) (sE e Γ _ h.2 X W sx.cx sx.tk) h.1.1.2 (nb h.1.1.1.2) h.1.1.1.1
  | .expr e, Γ, t, h, X, W, sx => by
    cases t <;> first | (simp [chkS] at h; done) | skip
    simp only [chkS, Bool.and_eq_true] at h
    exact ss_expr (sE e Γ _ h.2 X W sx.cx sx.tk) h.1
  | .ret e, Γ, t, h, X, W, sx => by
    cases t <;> first | (simp [chkS] at h; done) | skip
    rename_i x pos
    cases x <;> first | (simp [chkS] at h; done) | skip
    exact ss_ret (sE e Γ _ h X W sx.cx sx.tk)
  | .retN, Γ, t, h, X, W, sx => by
    cases t <;> first | (simp [chkS] at h; done) | skip
    rename_i x pos
    cases x <;> first | (simp [chkS] at h; done) | skip
    exact ss_retN
  | .ife c a b, Γ, t, h, X, W, sx => by
    cases t <;> first | (simp [chkS] at h; done) | skip
    simp only [chkS, Bool.and_eq_true] at h
    exact ss_if (sE c Γ _ h.1.1 X W sx.cx sx.tk) (sSs a Γ _ h.1.2 X W sx) (sSs b Γ _ h.2 X W sx)
  | .whl c b, Γ, t, h, X, W, sx => by
    cases t <;> first | (simp [chkS] at h; done) | skip
    rename_i x s els pos
    cases els <;> first | (simp [chkS] at h; done) | skip
    simp only [chkS, Bool.and_eq_true] at h
    exact ss_whl sx (sE c Γ _ h.1 X W sx.cx sx.tk) (sSs b Γ _ h.2 X W sx)
  | .forr tg it b, Γ, t, h, X, W, sx => by
    cases t <;> first | (simp [chkS] at h; done) | skip
    rename_i tg' x s els pos
    cases els <;> first | (simp [chkS] at h; done) | skip
    simp only [chkS, Bool.and_eq_true] at h
    exact ss_for sx h.1.1 (sI it Γ tg' x h.1.2 X W sx.cx sx.tk) (chkI_noMark h.1.2) (sSs b Γ _ h.2 X W sx)
  | .brk, Γ, t, h, X, W, sx => by
    cases t <;> first | (simp [chkS] at h; done) | skip
    exact ss_brk
  | .cont, Γ, t, h, X, W, sx => by
    cases t <;> first | (simp [chkS] at h; done) | skip
    exact ss_cont
  | .pass, Γ, t, h, X, W, sx => by
    cases t <;> first | (simp [chkS] at h; done) | skip
    exact ss_pass
  | .raise c e, Γ, t, h, X, W, sx => by
    obtain ⟨z, hz, h⟩ := with1_eq h
    rw [raiS_eq hz]
    simp only [Bool.and_eq_true] at h
    exact ss_raise sx (sE e Γ _ h.2 X W sx.cx sx.tk) h.1.1 h.1.2
  | .tryx b c i hd, Γ, t, h, X, W, sx => by
    obtain ⟨z, hz, h⟩ := with1_eq h
    rw [tryS_eq hz]
    simp only [Bool.and_eq_true] at h
    exact ss_try sx (fun pn xe W' sx' => sSs b Γ z.body h.2 _ W' sx') h.1.1.1 h.1.1.2 h.1.2
  | .nev, Γ, t, h, X, W, sx => PS.of ps_never fun D σ H ⟨P, φ, F, env, st, s, q⟩ => q
theorem sSs : ∀ (ss : Ss) (Γ : Gam) (ts : List Stmt), chkSs ss Γ ts = true → ∀ (X : Cx) (W : WX), SX X Γ cl n call W → PSs X ts (tSs X.K cl call L W ss)
  | .nil, Γ, ts, h, X, W, sx => by
    cases ts with
    | nil => exact PSs.of pss_nil fun D σ H ⟨P, φ, F, env, st, s, q⟩ => OutS.here q s
    | cons t r => simp [chkSs] at h
  | .cons s ss, Γ, ts, h, X, W, sx => by
    cases ts with
    | nil => simp [chkSs] at h
    | cons t r =>
      obtain ⟨h1, h2⟩ := Bool.and_eq_true_iff.mp (show (chkS s Γ t && chkSs ss Γ r) = true from h)
      exact PSs.of (pss_cons (sS s Γ t h1 X W sx) (sSs ss Γ r h2 X W sx)) fun D σ H ⟨P, φ, F, env, st, s, q⟩ => ⟨P, φ, F, env, st, s, OutS.bind q fun p st' σ' H' F' φ' hr pr ex s' o' => by
        obtain ⟨fl, env'⟩ := p
        cases fl with
        | nx => exact ⟨P, φ', F', env', st', s', o'⟩
        | rt d => exact OutS.here o' s'
        | bk => exact OutS.here o' s'
        | ct => exact OutS.here o' s'
        | ex x => exact OutS.here o' s'⟩
end
end
end Eng
end

section
set_option autoImplicit false
namespace Eng
open PySem PySem.Spec PyProof.Rows L2

/-! ## defs -/
section
variable {K : PySem.W.Frag} {φ φ' : List Addr} {F : Hp}
mutual
theorem Rep.noRef : ∀ {v : V} {d : D}, Rep K φ F v d → noRef d = true → Rep K φ' F v d
  | _, _, .non, _ => .non
  | _, _, .bl b, _ => .bl b
  | _, _, .int b, _ => .int b
  | _, _, .str b, _ => .str b
  | _, _, .scr h, _ => .scr h
  | _, _, .lst h t, n => .lst h (RepA.noRef t n)
  | _, _, .tup h t, n => .tup h (RepA.noRef t n)
  | _, _, .ref h, n => by cases n
theorem RepA.noRef : ∀ {v : List V} {d : List D}, RepA K φ F v d → noRef.all d = true → RepA K φ' F v d
  | _, _, .nil, _ => .nil
  | _, _, .cons (d := d) (ds := ds) h t, n => by
    have n : (Eng.noRef d && noRef.all ds) = true := n
    obtain ⟨n1, n2⟩ := Bool.and_eq_true_iff.mp n
    exact .cons (Rep.noRef h n1) (RepA.noRef t n2)
end
end
theorem init_rel {K : PySem.W.Frag} {φ : List Addr} {F H : Hp} {st : Sto} {N : List Str} {vs : List V} {ds : List D} (k : Sok K φ F st H) (r : RepA K φ F vs ds) : StR K (Dm H) φ F (initE N.length ds) st (start N vs) H := by
  have hl := r.len
  have sg : ∀ i, sget (initE N.length ds) i = match ds[i]? with | some d => .val d | none => .un := fun i => by
    unfold sget initE
    rw [List.getD_eq_getElem?_getD]
    by_cases h : i < ds.length
    · rw [List.getElem?_append_left (by simpa using h), List.getElem?_map, List.getElem?_eq_getElem h]
      rfl
    · rw [List.getElem?_append_right (by simpa using h), List.getElem?_replicate, List.getElem?_eq_none (by omega)]
      split <;> rfl
  refine ⟨⟨k, fun i => ?_, fun i j _ h _ => ?_, ?_⟩, fun _ h => h⟩
  · rw [sg]
    cases e : ds[i]? with
    | none => exact trivial
    | some d =>
      obtain ⟨v, ev, rv⟩ := r.getD e
      refine ⟨v, ?_, rv⟩
      unfold L2.start
      have hv := (List.getElem?_eq_some_iff.mp ev).1
      rw [List.getElem?_append_left (by simpa using hv), List.getElem?_map, ev]
      rfl
  · rw [sg] at h
    cases e : ds[i]? <;> rw [e] at h <;> cases h
  · unfold initE L2.start
    rw [List.length_append, List.length_append, List.length_map, List.length_map, List.length_replicate, List.length_replicate, hl]
theorem Pre.same {P : Addr → Prop} {φ φ' : List Addr} (p : Pre P φ φ') (h : φ'.length = φ.length) : φ' = φ := by
  apply List.ext_getElem? 
  intro i
  cases e : φ[i]? with
  | none => exact List.getElem?_eq_none (by rw [h]; exact List.getElem?_eq_none_iff.mp e)
  | some a => exact p.at_ i a e
theorem Sok.cut {P : Addr → Prop} {K : PySem.W.Frag} {φ φ' : List Addr} {F H : Hp} {st : Sto} (k : Sok K φ' F st H) (p : Pre P φ φ') (nd : φ.Nodup) (h : (st.take φ.length).all noRef.all = true) : Sok K φ F (st.take φ.length) H := by
  have hl : φ.length ≤ φ'.length := by
    rcases Nat.lt_or_ge φ'.length φ.length with q | q
    · have := p.at_ φ'.length φ[φ'.length] (List.getElem?_eq_getElem q)
      rw [List.getElem?_eq_none (Nat.le_refl _)] at this
      cases this
    · exact q
  refine ⟨k.le, by rw [List.length_take, k.len]; omega, fun n a ds e1 e2 => ?_, nd, k.tab, k.nt⟩
  have hn := (List.getElem?_eq_some_iff.mp e1).1
  have e3 : st[n]? = some ds := by rw [List.getElem?_take_of_lt hn] at e2; exact e2
  obtain ⟨q1, vs, q2, q3⟩ := k.cell n a ds (p.at_ n a e1) e3
  exact ⟨q1, vs, q2, q3.noRef (List.all_eq_true.mp h ds (List.mem_of_getElem? e2))⟩
theorem end_out {K : PySem.W.Frag} {cl φ : List Addr} {F H : Hp} {st : Sto} {r : RS} {Q : VK} {E : XK} {σ : L2.St} (k : Sok K φ F st H) (o : Out K cl φ F H σ (fun c d _ H' => E c d H') (rlE K φ) (endR st.length r) Q) :
    OutS K cl (Dm H) φ F H (fun c d _ H' => E c d H') { nx := fun _ H' => Q .non H', rt := Q } r := by
  cases r with
  | exc x s => exact o.elim
  | stuck => exact o.elim
  | ok p s =>
    intro σ' H' F' φ' pr ex s'
    have k' := s'.rel.sok
    have o : Out K cl φ F H σ (fun c d _ H' => E c d H') (rlE K φ) (match decide (s.length = st.length) with
      | true => endF p.1 s
      | false => match flOk p.1 && (s.take st.length).all noRef.all with
        | true => endF p.1 (s.take st.length)
        | false => .stuck) Q := o
    by_cases hl : s.length = st.length
    · rw [decide_eq_true hl] at o
      have e : φ' = φ := pr.same (by rw [← k'.len, hl, k.len])
      subst e
      obtain ⟨fl, env'⟩ := p
      cases fl with
      | nx => exact o .non H' F' ex k' .non
      | rt d => exact fun v rv => o v H' F' ex k' rv
      | bk => exact o.elim
      | ct => exact o.elim
      | ex x => exact fun c dx q => o c dx H' F' ex k' q
    · rw [decide_eq_false hl] at o
      cases hz : (flOk p.1 && (s.take st.length).all noRef.all) with
      | false => rw [hz] at o; exact o.elim
      | true =>
        rw [hz] at o
        obtain ⟨z1, z2⟩ := Bool.and_eq_true_iff.mp hz
        have o : Out K cl φ F H σ (fun c d _ H' => E c d H') (rlE K φ) (endF p.1 (s.take st.length)) Q := o
        rw [k.len] at o z2
        have kc := k'.cut pr k.nd z2
        obtain ⟨fl, env'⟩ := p
        cases fl with
        | nx => exact o .non H' F' ex kc .non
        | rt d => exact fun v rv => o v H' F' ex kc (rv.noRef z1)
        | bk => exact o.elim
        | ct => exact o.elim
        | ex x => exact fun c dx ⟨a, v, h1, h2, h3, h4⟩ => o c dx H' F' ex kc ⟨a, v, h1, h2, h3, h4.noRef z1⟩
section
variable {P : Program} {w : World} {K : PySem.W.Frag} {mg : Str → Option Value} {base : Heap} {cl : List Addr} {fs : List Fn} {L : Nat} {G : List (Str × GV)}
theorem callN_zero {i : Nat} {ds : List D} {st : Sto} : callN fs L 0 i ds st = .stuck := rfl
theorem callN_succ {n i : Nat} {ds : List D} {st : Sto} {fn : Fn} (h : fs[i]? = some fn) : callN fs L (n + 1) i ds st = match decide (ds.length = fn.np) with
  | true => endR st.length (evSs (callN fs L n) L fn.body (initE fn.ns ds) st)
  | false => .stuck := by
  show (match fs[i]? with | some fn => _ | none => _) = _
  rw [h] <;> rfl
theorem lam_mem {x : Str} {f : Addr} (hx : x ∈ lamNames) (hns : PySem.W.nsIn K mainGlobals x = some (some (.ref f))) : ((He.cT K (x, none)).2, (x ++ ".<locals>.") ++ "<lambda>") ∈ tabsOf K := by
  unfold tabsOf
  rw [List.mem_filterMap]
  exact ⟨x, hx, by rw [hns]⟩
theorem lam_at {x : Str} {f c : Addr} {q : Str} (hx : x ∈ lamNames) (hns : PySem.W.nsIn K mainGlobals x = some (some (.ref f))) (tb : LamX.TabB base mg c (He.cT K (x, none)).2) (tuq : ∀ p ∈ tabsOf K, ∀ q ∈ tabsOf K, p.1 = q.1 → p.2 = q.2) (hq : q = x ++ ".<locals>.") :
    ∃ d T, LamX.TabB base mg d T ∧ Value.ref c = .ref d ∧ (T, q ++ "<lambda>") ∈ tabsOf K ∧ ∀ p ∈ tabsOf K, p.1 = T → p.2 = q ++ "<lambda>" := by
  have mem := lam_mem hx hns
  rw [← hq] at mem
  generalize (He.cT K (x, none)).2 = T at mem tb
  exact ⟨c, T, tb, rfl, mem, fun p hp e => tuq p hp (T, q ++ "<lambda>") mem e⟩
theorem fn_step {n i : Nat} {fn : Fn} {x qual : Str} {params : Arguments} {body : List Stmt} {scope : Scope} {dvs : List V} {kws : List (Str × V)} {f : Addr} {fd : FuncData} {N ps : List Str} (g : GOk P w K mg base cl n (callN fs L n) G) (hf : fs[i]? = some fn)
    (Fd : FunD K x qual params body scope dvs kws f fd) (S : FnScope N ps scope) (h1 : fn.np = ps.length) (h2 : fn.ns = N.length) (hq : qual = x) (hns : PySem.W.nsIn K mainGlobals x = some (some (.ref f))) (chk : chkSs fn.body ⟨N, scope, fun _ => true, G, decide (x ∈ lamNames)⟩ body = true) :
    FnG P w K mg base (n + 1) f fd ps (spOf K cl (callN fs L (n + 1) i)) := by
  have len : ∀ vs H Q E, spOf K cl (callN fs L (n + 1) i) vs H Q E → vs.length = ps.length := fun vs H Q E ⟨φ, F, st, ds, k, r, o⟩ => by
    rw [callN_succ hf] at o
    by_cases e : ds.length = fn.np
    · rw [r.len, e, h1]
    · rw [decide_eq_false e] at o; exact o.elim
  refine ⟨len, fun A outer s H args us vs Q E hr hg e0 hb rv hsp => ?_⟩
  have hl := len _ _ _ _ hsp
  obtain ⟨φ, F, st, ds, k, r, o⟩ := hsp
  obtain ⟨oc, od, dV, kV, doc, pm, an, cdv, ct, osl, rfl, lk, hcd, _, _⟩ := Fd.ex
  refine LamX.run_ofS (k := 3 * n + 2) lk hcd S (hr.mono (by omega)) e0 hb rv hl fun hr2 => ?_
  rw [callN_succ hf] at o
  by_cases e : ds.length = fn.np
  · rw [decide_eq_true e] at o
    have o : Out K cl φ F H [] (fun c d _ H' => E c d H') (rlE K φ) (endR st.length (evSs (callN fs L n) L fn.body (initE fn.ns ds) st)) Q := o
    have sx : SX (cxOf (L2.CX P w) P w K mg base N qual scope f cdv A outer s H E) ⟨N, scope, fun _ => true, G, decide (x ∈ lamNames)⟩ cl n (callN fs L n) (fun c d _ H' => E c d H') := by
      refine ⟨⟨rfl, S.nd, rfl, rfl, rfl, hr2.mono (by omega), hg, fun q => ⟨hr2, ?_⟩, g⟩, S.kind, hr2, rfl, rfl, passes_of rfl, takes_of rfl rfl rfl rfl⟩
      have hx : x ∈ lamNames := of_decide_eq_true q
      subst hq
      obtain ⟨c, hc⟩ := He.codeIn_ref hcd
      subst hc
      have hga : He.ga K qual = f := by unfold He.ga; rw [hns]
      have hco : He.codeOf K (qual, none) = c := He.codeOf_eq (p := (qual, none)) (by show K.lookup (He.ga K qual) = _; rw [hga]; exact lk) rfl
      have tb := g.tbs qual hx f hns
      have e1 : (He.cT K (qual, none)).1 = c := hco
      rw [e1] at tb
      exact lam_at hx hns tb g.tuq rfl
    refine ⟨_, sSs (L := L) fn.body _ body chk _ _ sx, Dm H, φ, F, initE fn.ns ds, st, ?_, end_out k o⟩
    rw [h2]
    exact init_rel k r
  · rw [decide_eq_false e] at o; exact o.elim
theorem fn_zero {i : Nat} {f : Addr} {fd : FuncData} {ps : List Str} : FnG P w K mg base 0 f fd ps (spOf K cl (callN fs L 0 i)) :=
  ⟨fun _ _ _ _ ⟨_, _, _, _, _, _, o⟩ => o.elim, fun _ _ _ _ _ _ _ _ _ _ _ _ _ _ ⟨_, _, _, _, _, _, o⟩ => o.elim⟩
/-- a def of the text and its syntax -/
structure DefOk (K : PySem.W.Frag) (mg : Str → Option Value) (fs : List Fn) (G : List (Str × GV)) (x : Str) (i : Nat) : Prop where
  ex : ∃ (qual : Str) (params : Arguments) (body : List Stmt) (scope : Scope) (N ps : List Str) (f : Addr) (fd : FuncData) (fn : Fn), fs[i]? = some fn ∧ mg x = some (.ref f) ∧ FunD K x qual params body scope [] [] f fd ∧ Binds K fd ps [] ∧ FnScope N ps scope ∧ fn.np = ps.length ∧ fn.ns = N.length ∧
    chkSs fn.body ⟨N, scope, fun _ => true, G, decide (x ∈ lamNames)⟩ body = true ∧ qual = x ∧ PySem.W.nsIn K mainGlobals x = some (some (.ref f))
theorem gok (hd : ∀ x i, G.lookup x = some (.fn i) → DefOk K mg fs G x i) (hcl : ∀ x c, G.lookup x = some (.cls c) → ∃ C fI, cl[c]? = some C ∧ mg x = some (.ref C) ∧ IniF P K C fI ∧ XfC K C) (hex : ∀ (c c' : Nat) (C C' : Addr), cl[c]? = some C → cl[c']? = some C' → PySem.W.exmOne K (.ref C) (.ref C') = some (decide (c = c'))) (hrf : ∀ x c, G.lookup x = some (.refu c) → RefF K mg G x c) (htb : ∀ x ∈ lamNames, ∀ a, PySem.W.nsIn K mainGlobals x = some (some (.ref a)) → LamX.TabB base mg (He.cT K (x, none)).1 (He.cT K (x, none)).2) (htq : ∀ p ∈ tabsOf K, ∀ q ∈ tabsOf K, p.1 = q.1 → p.2 = q.2) (hf : ∀ x, G.lookup x = some .free → mg x = none) (hc : ∀ x d, G.lookup x = some (.const d) → ∃ v u, mg x = some u ∧ RelV v u ∧ ∀ φ F, Rep K φ F v d) :
    ∀ n, GOk P w K mg base cl n (callN fs L n) G
  | 0 => ⟨fun x i h => by
      obtain ⟨qual, params, body, scope, N, ps, f, fd, fn, h1, h2, h3, h4, h5, h6, h7, h8, h9, h10⟩ := (hd x i h).ex
      exact ⟨f, fd, ps, h2, h3.kp, h4, fn_zero⟩, hf, hcl, hex, hrf, htb, htq, hc⟩
  | n + 1 => ⟨fun x i h => by
      obtain ⟨qual, params, body, scope, N, ps, f, fd, fn, h1, h2, h3, h4, h5, h6, h7, h8, h9, h10⟩ := (hd x i h).ex
      exact ⟨f, fd, ps, h2, h3.kp, h4, fn_step (gok hd hcl hex hrf htb htq hf hc n) h1 h3 h5 h6 h7 h9 h10 h8⟩, hf, hcl, hex, hrf, htb, htq, hc⟩
end
end Eng
end

section
set_option autoImplicit false
namespace Eng
open PySem PySem.Spec PyProof.Rows L2

/-! ## the own exceptions' facts by a look at K -/
theorem ba2 {a b : Bool} (h : (a && b) = true) : a = true ∧ b = true := Bool.and_eq_true_iff.mp h
def excObjB (C : Addr) (o : Obj) : Bool := match o with
  | ⟨.type t, _, .cls cd, sl⟩ => t == "type" && (match cd.mro, sl.toList with
    | .ref D :: bm, [_, _, _, _, some (.builtin n), _] => D == C && n == "ValueError.__new__" && !cd.hasDel && cd.hasDict && PySem.HandSPX.refsVE bm
    | _, _ => false)
  | _ => false
theorem excObjB_ok {C : Addr} {o : Obj} (q : excObjB C o = true) : ∃ nm q N bs bm sn sub ab col dd k0 k1 k2 k3 k5, o = excClassObj nm q C N bs bm true sn sub ab col dd k0 k1 k2 k3 k5 "ValueError.__new__" ∧ PySem.HandSPX.refsVE bm = true := by
  unfold excObjB at q
  split at q
  · rename_i t dd cd sl
    obtain ⟨ht, qq⟩ := ba2 q
    clear q
    obtain rfl : t = "type" := eq_of_beq ht
    split at qq
    · rename_i D bm k0 k1 k2 k3 n k5 hm hs
      obtain ⟨q, q5⟩ := ba2 qq
      obtain ⟨q, q4⟩ := ba2 q
      obtain ⟨q, q3⟩ := ba2 q
      obtain ⟨q1, q2⟩ := ba2 q
      obtain rfl : D = C := eq_of_beq q1
      obtain rfl : n = "ValueError.__new__" := eq_of_beq q2
      obtain ⟨nm, bs, mro, ns, qn, hd, sn, sub, ab, col, del⟩ := cd
      dsimp only at hm q3 q4
      subst hm
      obtain rfl : hd = true := q4
      have hdel : del = false := by cases del <;> first | rfl | cases q3
      subst hdel
      have hsl : sl = #[k0, k1, k2, k3, some (.builtin "ValueError.__new__"), k5] := by
        obtain ⟨l⟩ := sl
        simp only at hs
        rw [hs]
      subst hsl
      exact ⟨nm, qn, ns, bs, bm, sn, sub, ab, col, dd, k0, k1, k2, k3, k5, rfl, q5⟩
    · cases qq
  · cases q
def oexB (K : PySem.W.Frag) (C : Addr) : Bool := (match K.lookup C with
    | some o => excObjB C o
    | none => false) &&
  (decide (PySem.W.findIn K (.ref C) "__setattr__" = some (some (.builtin "object.__setattr__"))) && (decide (PySem.W.subIn K (.ref C) (.type "BaseException") = some true) && (decide (PySem.W.typeIn K (.ref C) = some (.type "type")) && PySem.W.keepIn K (.ref C))))
theorem oexB_ok {K : PySem.W.Frag} {C : Addr} (h : oexB K C = true) : OexC K C := by
  obtain ⟨h1, h⟩ := ba2 h
  obtain ⟨h2, h⟩ := ba2 h
  obtain ⟨h3, h⟩ := ba2 h
  obtain ⟨h4, h5⟩ := ba2 h
  refine ⟨?_, of_decide_eq_true h2, of_decide_eq_true h3, of_decide_eq_true h4, h5⟩
  cases hk : K.lookup C with
  | none => rw [hk] at h1; cases h1
  | some o =>
    rw [hk] at h1
    obtain ⟨nm, q, N, bs, bm, sn, sub, ab, col, dd, k0, k1, k2, k3, k5, e, hbm⟩ := excObjB_ok h1
    exact ⟨nm, q, N, bs, bm, sn, sub, ab, col, dd, k0, k1, k2, k3, k5, congrArg some e, hbm⟩
/-- the code object's file is the program's -/
def fileB (P : Program) (K : PySem.W.Frag) (cda : Addr) : Bool := match K.lookup cda with
  | some ⟨_, _, .fields vs, _⟩ => (match (vs[2]? : Option Value) with
    | some (.str file _) => (P.main.file : Str) == file
    | _ => false)
  | _ => false
theorem fileB_ok {P : Program} {K : PySem.W.Frag} {cda : Addr} (h : fileB P K cda = true) : ∃ (ccl : Value) (cdd : Option Addr) (vs : Array Value) (ccs : Array (Option Value)) (file : Str) (tf : Tok), K.lookup cda = some ⟨ccl, cdd, .fields vs, ccs⟩ ∧ vs[2]? = some (.str file tf) ∧ ((P.main.file : Str) == file) = true := by
  unfold fileB at h
  split at h
  · rename_i ccl cdd vs ccs hk
    split at h
    · rename_i file tf hv
      exact ⟨ccl, cdd, vs, ccs, file, tf, hk, hv, h⟩
    · cases h
  · cases h
def cellB (K : PySem.W.Frag) (cc C : Addr) : Bool := match K.lookup cc with
  | some ⟨_, _, .cell (some (.ref D)), _⟩ => D == C
  | _ => false
theorem cellB_ok {K : PySem.W.Frag} {cc C : Addr} (h : cellB K cc C = true) : ∃ (cl : Value) (cld : Option Addr) (csl : Array (Option Value)), K.lookup cc = some ⟨cl, cld, .cell (some (.ref C)), csl⟩ := by
  unfold cellB at h
  split at h
  · rename_i cl cld D csl hk
    obtain rfl : D = C := eq_of_beq h
    exact ⟨cl, cld, csl, hk⟩
  · cases h
def parB (a : Arguments) : Bool := match a with
  | ⟨[], [a1, a2], none, [], [], none, []⟩ => decide (a1.arg = "self") && decide (a2.arg = "thing")
  | _ => false
theorem parB_ok {a : Arguments} (h : parB a = true) : ∃ a1 a2, a = ⟨[], [a1, a2], none, [], [], none, []⟩ ∧ a1.arg = "self" ∧ a2.arg = "thing" := by
  unfold parB at h
  split at h
  · rename_i a1 a2
    obtain ⟨h1, h2⟩ := ba2 h
    exact ⟨a1, a2, rfl, of_decide_eq_true h1, of_decide_eq_true h2⟩
  · cases h
def bodB (b : FuncBody) : Bool := match b with
  | .stmts l => (match iniP l with
    | some z => (z.p2.endLine == z.p4.line) && (decide (z.sup = "super") && (decide (z.nm = "__init__") && (decide (z.s = "self") && (decide (z.f = "thing") && decide (z.t = "thing")))))
    | none => false)
  | _ => false
theorem bodB_ok {b : FuncBody} (h : bodB b = true) : ∃ z : IniP, b = .stmts z.back ∧ (z.p2.endLine == z.p4.line) = true ∧ z.sup = "super" ∧ z.nm = "__init__" ∧ z.s = "self" ∧ z.f = "thing" ∧ z.t = "thing" := by
  unfold bodB at h
  split at h
  · rename_i l
    split at h
    · rename_i z hz
      obtain ⟨h1, h⟩ := ba2 h
      obtain ⟨h2, h⟩ := ba2 h
      obtain ⟨h3, h⟩ := ba2 h
      obtain ⟨h4, h⟩ := ba2 h
      obtain ⟨h5, h6⟩ := ba2 h
      exact ⟨z, by rw [iniP_eq hz], h1, of_decide_eq_true h2, of_decide_eq_true h3, of_decide_eq_true h4, of_decide_eq_true h5, of_decide_eq_true h6⟩
    · cases h
  · cases h
def iniFnB (P : Program) (K : PySem.W.Frag) (C fI : Addr) : Bool := match K.lookup fI with
  | some ⟨_, _, .func ⟨name, qual, params, body, scope, gl, [(c, cc)], .none, _, _, _, _, .ref cda, _, bl⟩, _⟩ =>
    decide (name = "__init__") && (decide (gl = mainGlobals) && (decide (bl = builtinsNs) && (decide (c = "__class__") && (parB params && (bodB body && (PySem.W.codeIn K (.ref cda) qual && (fileB P K cda && (cellB K cc C && (NdefX.nscB iniN iniPs ["__class__"] scope && decide (scope.names.lookup ("super" : Str) = some .globalImplicit))))))))))
  | _ => false
def iniB (P : Program) (K : PySem.W.Frag) (C fI : Addr) : Bool := oexB K C && (iniFnB P K C fI && (!(P.main.scope.names.lookup ("super" : Str)).isSome && (decide (PySem.W.nsIn K mainGlobals "super" = some none) && (decide (PySem.W.nsIn K cStatics "thirdparty.any" = some none) && ((PySem.W.clsIn K C).isSome &&
  (decide (PySem.W.mroIn K C (.ref C) = some true) && (decide (PySem.W.ks_superIn K C C "__init__" = some (some (.builtin "ValueError.__init__"))) && (decide (PySem.W.subIn K (.ref C) (.type "ValueError") = some true) && (decide (PySem.W.findIn K (.ref C) "thing" = some none) &&
  (decide (PySem.W.findIn K (.ref C) "__init__" = some (some (.ref fI))) && decide (PySem.W.typeIn K (.ref fI) = some (.type "function"))))))))))))
theorem iniB_ok {P : Program} {K : PySem.W.Frag} {C fI : Addr} (h : iniB P K C fI = true) : IniF P K C fI := by
  obtain ⟨h1, h⟩ := ba2 h
  obtain ⟨h2, h⟩ := ba2 h
  obtain ⟨h3, h⟩ := ba2 h
  obtain ⟨h4, h⟩ := ba2 h
  obtain ⟨h5, h⟩ := ba2 h
  obtain ⟨h6, h⟩ := ba2 h
  obtain ⟨h7, h⟩ := ba2 h
  obtain ⟨h8, h⟩ := ba2 h
  obtain ⟨h9, h⟩ := ba2 h
  obtain ⟨h10, h⟩ := ba2 h
  obtain ⟨h11, h12⟩ := ba2 h
  refine ⟨oexB_ok h1, ?_, by cases q : (P.main.scope.names.lookup ("super" : Str)).isSome <;> first | rfl | (rw [q] at h3; cases h3), of_decide_eq_true h4, of_decide_eq_true h5, Option.isSome_iff_exists.mp h6, of_decide_eq_true h7, of_decide_eq_true h8, of_decide_eq_true h9, of_decide_eq_true h10, of_decide_eq_true h11, of_decide_eq_true h12⟩
  unfold iniFnB at h2
  split at h2
  · rename_i oc od name qual params body scope gl c cc kV doc pm an cda ct bl osl hk
    obtain ⟨g1, h2⟩ := ba2 h2
    obtain ⟨g2, h2⟩ := ba2 h2
    obtain ⟨g3, h2⟩ := ba2 h2
    obtain ⟨g4, h2⟩ := ba2 h2
    obtain ⟨g5, h2⟩ := ba2 h2
    obtain ⟨g6, h2⟩ := ba2 h2
    obtain ⟨g7, h2⟩ := ba2 h2
    obtain ⟨g8, h2⟩ := ba2 h2
    obtain ⟨g9, h2⟩ := ba2 h2
    obtain ⟨g10, g11⟩ := ba2 h2
    obtain ⟨a1, a2, rfl, e6, e7⟩ := parB_ok g5
    obtain ⟨z, rfl, e0, e1, e2, e3, e4, e5⟩ := bodB_ok g6
    obtain rfl : name = "__init__" := of_decide_eq_true g1
    obtain rfl : gl = mainGlobals := of_decide_eq_true g2
    obtain rfl : bl = builtinsNs := of_decide_eq_true g3
    obtain rfl : c = "__class__" := of_decide_eq_true g4
    exact ⟨z, oc, od, osl, qual, a1, a2, scope, kV, doc, pm, an, cda, ct, cc, hk, g7, fileB_ok g8, cellB_ok g9, NdefX.nscope_by g10, of_decide_eq_true g11, e0, e1, e2, e3, e4, e5, e6, e7⟩
  · cases h2
/-- the classes' addresses -/
def clOf (K : PySem.W.Frag) (cls : List Str) : List Addr := cls.map (He.ga K)
def clsB (P : Program) (cls : List Str) (K : PySem.W.Frag) : Bool := (cls.all fun x => He.eqO (PySem.W.nsIn K mainGlobals x) (some (some (.ref (He.ga K x)))) && (iniB P K (He.ga K x) (He.ma K (He.ga K x) "__init__") && xfB K (He.ga K x))) &&
  ((List.range cls.length).all fun c => (List.range cls.length).all fun c' => decide (PySem.W.exmOne K (.ref (He.ga K (cls.getD c ""))) (.ref (He.ga K (cls.getD c' ""))) = some (decide (c = c'))))
section
variable {P : Program} {K : PySem.W.Frag} {cls : List Str} {mg : Str → Option Value} {h : Heap}
theorem cl_at {c : Nat} {C : Addr} (e : (clOf K cls)[c]? = some C) : c < cls.length ∧ C = He.ga K (cls.getD c "") := by
  unfold clOf at e
  rw [List.getElem?_map] at e
  cases q : cls[c]? with
  | none => rw [q] at e; cases e
  | some x =>
    rw [q] at e
    cases e
    refine ⟨(List.getElem?_eq_some_iff.mp q).1, ?_⟩
    rw [List.getD_eq_getElem?_getD, q] <;> rfl
theorem clsB_cls (g : clsB P cls K = true) (X : K.In h) (Gn : h.Ns mainGlobals mg) {x : Str} {c : Nat} (e : cls[c]? = some x) : ∃ C fI, (clOf K cls)[c]? = some C ∧ mg x = some (.ref C) ∧ IniF P K C fI ∧ XfC K C := by
  obtain ⟨g1, _⟩ := ba2 g
  have q := List.all_eq_true.mp g1 x (List.mem_of_getElem? e)
  obtain ⟨q1, q⟩ := ba2 q
  obtain ⟨q2, q3⟩ := ba2 q
  exact ⟨He.ga K x, _, by unfold clOf; rw [List.getElem?_map, e] <;> rfl, PySem.W.mg_of X Gn (He.eqO_ok q1), iniB_ok q2, xfB_ok q3⟩
theorem clsB_exm (g : clsB P cls K = true) (c c' : Nat) (C C' : Addr) (e : (clOf K cls)[c]? = some C) (e' : (clOf K cls)[c']? = some C') : PySem.W.exmOne K (.ref C) (.ref C') = some (decide (c = c')) := by
  obtain ⟨_, g2⟩ := ba2 g
  obtain ⟨l1, rfl⟩ := cl_at e
  obtain ⟨l2, rfl⟩ := cl_at e'
  have q := List.all_eq_true.mp g2 c (List.mem_range.mpr l1)
  exact of_decide_eq_true (List.all_eq_true.mp q c' (List.mem_range.mpr l2))
end
end Eng
namespace Eng
open PySem PySem.Spec PyProof.Rows L2
/-! ## the Hook: the model's statics are told too -/
def kOf (g : Addr → Option Obj) (n : Nat) : PySem.W.Frag := He.frT g (He.asD g n ++ [cStatics])
def obsC (n : Nat) (fn : List He.DefD) (tf : List He.Defn) (ex : PySem.W.Frag → Bool) (g : Addr → Option Obj) : He.AlX := (He.obsT [] fn [] (kOf g n), ex (kOf g n) && He.tabsB g tf (kOf g n))
theorem saysC {n : Nat} {fn : List He.DefD} {tf : List He.Defn} {ex : PySem.W.Frag → Bool} {w : World} {h : Heap} (e : obsC n fn tf ex h.get? = He.valX fn [] w) : He.SaysX [] fn [] tf ex w h (kOf h.get? n) := by
  obtain ⟨e1, e2⟩ := Prod.mk.inj (show (He.obsT [] fn [] (kOf h.get? n), ex (kOf h.get? n) && He.tabsB h.get? tf (kOf h.get? n)) = (He.valT fn [] w, true) from e)
  obtain ⟨m1, m2⟩ := ba2 e2
  have each : ∀ p ∈ tf, PySem.W.codeHdIn (kOf h.get? n) (He.cT (kOf h.get? n) p).1 (He.cT (kOf h.get? n) p).2 = true ∧ ∃ o, h.get? (He.cT (kOf h.get? n) p).2 = some o ∧ He.emptyTab o = true := fun p hp => by
    obtain ⟨c1, c2⟩ := ba2 (List.all_eq_true.mp m2 p hp)
    cases q : h.get? (He.cT (kOf h.get? n) p).2 with
    | none => rw [q] at c2; cases c2
    | some o => rw [q] at c2; exact ⟨c1, o, rfl, c2⟩
  exact { t := e1, more := m1, hd := fun p hp => (each p hp).1, out := fun p hp => (each p hp).2.elim fun o q => He.frT_none q.1 q.2, empty := fun p hp => (each p hp).2.elim fun o q => by rw [q.1, He.emptyTab_eq q.2] }
def hookC (n : Nat) (fn : List He.DefD) (tf : List He.Defn) (ex : PySem.W.Frag → Bool) : PySem.W.Hook where
  α := He.AlX
  obs := fun s => obsC n fn tf ex s.heap.get?
  val := fun w => He.valX fn [] w
  says := fun w h => ∃ K : PySem.W.Frag, K.In h ∧ He.SaysX [] fn [] tf ex w h K
  of := fun _ _ e => ⟨_, He.frT_in, saysC e⟩
  keeps := fun _ _ _ ⟨K, i, c⟩ k => ⟨K, i.keeps k, { t := c.t, more := c.more, hd := c.hd, out := c.out, empty := fun p hp => k _ _ (c.empty p hp) }⟩
theorem obsC_eq {n : Nat} {fn : List He.DefD} {tf : List He.Defn} {ex : PySem.W.Frag → Bool} {g : Addr → Option Obj} {s : Shared} (h : ∀ a, g a = s.heap.get? a) : obsC n fn tf ex g = (hookC n fn tf ex).obs s := by
  obtain rfl : g = s.heap.get? := funext h
  rfl
end Eng
end

section
set_option autoImplicit false
namespace Eng
open PySem PySem.Spec PyProof.Rows L2

/-! ## the head -/
mutual
def conB (K : PySem.W.Frag) : D → Value → Bool
  | .non, .none => true
  | .bl b, .bool c => decide (b = c)
  | .int i, .int j _ => decide (i = j)
  | .str x, .str y _ => decide (x = y)
  | .tup ds, .ref a => match K.lookup a with
    | some ⟨.type c, _, .seq its _, _⟩ => decide (c = "tuple") && (decide (its.size ≤ sizeLine) && conA K ds its.toList)
    | _ => false
  | _, _ => false
def conA (K : PySem.W.Frag) : List D → List Value → Bool
  | [], [] => true
  | d :: ds, u :: us => conB K d u && conA K ds us
  | _, _ => false
end
mutual
theorem conB_ok {K : PySem.W.Frag} : ∀ (d : D) (u : Value), conB K d u = true → ∃ v, RelV v u ∧ ∀ φ F, Rep K φ F v d
  | .non, u, h => by
    cases u <;> first | (simp [conB] at h; done) | skip
    exact ⟨.non, rfl, fun _ _ => .non⟩
  | .bl b, u, h => by
    cases u <;> first | (simp [conB] at h; done) | skip
    have h : b = _ := of_decide_eq_true h
    exact ⟨.bl b, by rw [h] <;> rfl, fun _ _ => .bl b⟩
  | .int i, u, h => by
    cases u <;> first | (simp [conB] at h; done) | skip
    have h : i = _ := of_decide_eq_true h
    exact ⟨.int i, ⟨_, by rw [h]⟩, fun _ _ => .int i⟩
  | .str x, u, h => by
    cases u <;> first | (simp [conB] at h; done) | skip
    have h : x = _ := of_decide_eq_true h
    exact ⟨.str x, ⟨_, by rw [h]⟩, fun _ _ => .str x⟩
  | .tup ds, u, h => by
    cases u <;> first | (simp [conB] at h; done) | skip
    rename_i a
    have h : (match K.lookup a with
      | some ⟨.type c, _, .seq its _, _⟩ => decide (c = "tuple") && (decide (its.size ≤ sizeLine) && conA K ds its.toList)
      | _ => false) = true := h
    cases q : K.lookup a with
    | none => rw [q] at h; cases h
    | some o =>
      obtain ⟨oc, od, dt, osl⟩ := o
      rw [q] at h
      cases oc with
      | type c =>
        cases dt with
        | seq its n =>
          obtain ⟨h1, h2⟩ := Bool.and_eq_true_iff.mp (show (decide (c = "tuple") && (decide (its.size ≤ sizeLine) && conA K ds its.toList)) = true from h)
          obtain ⟨h3, h4⟩ := Bool.and_eq_true_iff.mp h2
          obtain ⟨vs, r, t⟩ := conA_ok ds its.toList h4
          exact ⟨.ref a, rfl, fun φ F => .tup (.inr ⟨_, its, n, q, congrArg Value.type (of_decide_eq_true h1), rfl, of_decide_eq_true h3, r⟩) (t φ F)⟩
        | _ => cases h
      | _ => cases dt <;> cases h
  | .lst _, u, h => by cases u <;> simp [conB] at h
  | .dct _, u, h => by cases u <;> simp [conB] at h
  | .ref _, u, h => by cases u <;> simp [conB] at h
  | .scr _, u, h => by cases u <;> simp [conB] at h
theorem conA_ok {K : PySem.W.Frag} : ∀ (ds : List D) (us : List Value), conA K ds us = true → ∃ vs, Vals vs us ∧ ∀ φ F, RepA K φ F vs ds
  | [], [], _ => ⟨[], .nil, fun _ _ => .nil⟩
  | d :: ds, u :: us, h => by
    obtain ⟨h1, h2⟩ := Bool.and_eq_true_iff.mp (show (conB K d u && conA K ds us) = true from h)
    obtain ⟨v, r, t⟩ := conB_ok d u h1
    obtain ⟨vs, r2, t2⟩ := conA_ok ds us h2
    exact ⟨v :: vs, .cons r r2, fun φ F => .cons (t φ F) (t2 φ F)⟩
  | [], _ :: _, h => by simp [conA] at h
  | _ :: _, [], h => by simp [conA] at h
end
def entB (K : PySem.W.Frag) (x : Str) : GV → Bool
  | .fn _ => He.eqO (PySem.W.nsIn K mainGlobals x) (some (some (.ref (He.ga K x))))
  | .free => He.eqO (PySem.W.nsIn K mainGlobals x) (some none)
  | .const d => match PySem.W.nsIn K mainGlobals x with
    | some (some u) => conB K d u
    | _ => false
  | .cls _ => true
  | .refu _ => He.eqO (PySem.W.nsIn K mainGlobals x) (some (some (.ref (He.ga K x))))
def gsB (G : List (Str × GV)) (K : PySem.W.Frag) : Bool := G.all fun p => entB K p.1 p.2
/-- a def of the text: its name, its place at the top, its parameters, its slots' names, its syntax -/
structure Rw where
  x : Str
  ix : Nat
  ps : List Str
  N : List Str
  body : Ss
def Rw.fn (r : Rw) : Fn := ⟨r.ps.length, r.N.length, r.body⟩
def Rw.dd (top : Nat → Stmt) (r : Rw) : He.DefD := ⟨(r.x, none), r.x, r.x, defArgs (top r.ix), defBody (top r.ix), defScope (top r.ix), [], []⟩
def Rw.scB (r : Rw) (sc : Scope) : Bool := sc.kind == .function && !sc.isCoroutine && !sc.isGenerator && decide r.N.Nodup && decide (r.N.take r.ps.length = r.ps) && r.ps.all (fun x => loc (sc.names.lookup x)) && sc.names.all (fun y => !(y.2 == .free))
theorem loc_of {k : Option NameKind} (h : loc k = true) : k = some .local ∨ k = some .cell := by
  cases k with
  | none => cases h
  | some k => cases k <;> first | exact .inl rfl | exact .inr rfl | cases h
theorem Rw.sc_ok {r : Rw} {sc : Scope} (h : r.scB sc = true) : FnScope r.N r.ps sc := by
  unfold Rw.scB at h
  simp only [Bool.and_eq_true, decide_eq_true_eq, Bool.not_eq_true', List.all_eq_true] at h
  obtain ⟨⟨⟨⟨⟨⟨h1, h2⟩, h3⟩, h4⟩, h5⟩, h6⟩, h7⟩ := h
  exact ⟨by simpa using h1, h2, h3, h4, h5, fun x hx => loc_of (h6 x hx), fun y hy e => by have := h7 y hy; rw [e] at this; cases this⟩
def Rw.okB (top : Nat → Stmt) (G : List (Str × GV)) (r : Rw) : Bool := r.scB (defScope (top r.ix)) && chkSs r.body ⟨r.N, defScope (top r.ix), fun _ => true, G, decide (r.x ∈ lamNames)⟩ (defBody (top r.ix))
def gF (x : Str) (i : Nat) : Str × GV := (x, .fn i)
def gC (x : Str) (d : D) : Str × GV := (x, .const d)
def gE (x : Str) (c : Nat) : Str × GV := (x, .refu c)
def gX (x : Str) (c : Nat) : Str × GV := (x, .cls c)
/-- every def that makes lambdas is told of -/
def tabB (tf : List He.Defn) (K : PySem.W.Frag) : Bool := lamNames.all fun x => match PySem.W.nsIn K mainGlobals x with
  | some (some (.ref _)) => decide ((x, none) ∈ tf)
  | _ => true
theorem tabs_of {K : PySem.W.Frag} {tf : List He.Defn} {H : Hp} (h : tabB tf K = true) (t : ∀ p ∈ tf.map (He.cT K), H p.2 = some (.tbl #[])) : LamX.Tabs (tabsOf K) H := fun p hp => by
  obtain ⟨x, hx, e⟩ := List.mem_filterMap.mp hp
  have q := List.all_eq_true.mp h x hx
  split at e
  · rename_i a ea
    cases e
    rw [ea] at q
    have q : (x, none) ∈ tf := of_decide_eq_true q
    exact LamX.TabS.nil (t _ (List.mem_map.mpr ⟨_, q, rfl⟩))
  · cases e
def tuqB (K : PySem.W.Frag) : Bool := (tabsOf K).all fun p => (tabsOf K).all fun q => !(p.1 == q.1) || decide (p.2 = q.2)
theorem tuqB_ok {K : PySem.W.Frag} (h : tuqB K = true) : ∀ p ∈ tabsOf K, ∀ q ∈ tabsOf K, p.1 = q.1 → p.2 = q.2 := fun p hp q hq e => by
  have z := List.all_eq_true.mp (List.all_eq_true.mp h p hp) q hq
  rw [e, beq_self_eq_true] at z
  exact of_decide_eq_true z
def exB (P : Program) (cls : List Str) (tf : List He.Defn) (G : List (Str × GV)) (K : PySem.W.Frag) : Bool := gsB G K && (clsB P cls K && (tabB tf K && tuqB K))
def gR (x : Str) : Str × GV := (x, .free)
/-- the def is _law_refuses, its class the one with this number -/
def refB (top : Nat → Stmt) (G : List (Str × GV)) (c : Nat) (r : Rw) : Bool := decide (r.ps = refPs) && Rw.scB ⟨r.x, r.ix, refPs, refN, .nil⟩ (defScope (top r.ix)) && (match refP (defBody (top r.ix)) with
  | some z => Gam.nm ⟨refN, defScope (top r.ix), fun _ => true, G, false⟩ 0 z.work && Gam.isCls ⟨refN, defScope (top r.ix), fun _ => true, G, false⟩ z.x c && Gam.lc ⟨refN, defScope (top r.ix), fun _ => true, G, false⟩ 2 z.n &&
    chkHB ⟨refN, defScope (top r.ix), fun _ => true, G, false⟩ 2 z.n (.eq (.repr .thing) (.repr (.v 1))) z.test
  | none => false)
def entsB (top : Nat → Stmt) (rows : List Rw) (cls : List Str) (G : List (Str × GV)) : Bool := G.all fun p => match p.2 with
  | .refu c => rows.any fun r => decide (r.x = p.1) && refB top G c r
  | .cls c => match cls[c]? with
    | some y => decide (y = p.1)
    | none => false
  | .fn i => match rows[i]? with
    | some r => decide (r.x = p.1)
    | none => false
  | _ => true
/-- a call binds the parameters in their order -/
def Rw.binds (top : Nat → Stmt) (r : Rw) : Prop := ∀ (kV doc pm : Value) (an : Option Addr) (cdv ct : Value) (us : List Value), us.length = r.ps.length →
  bindArgs (PySem.W.fnOf r.x r.x (defArgs (top r.ix)) (defBody (top r.ix)) (defScope (top r.ix)) .none kV doc pm an cdv ct) ⟨us, []⟩ = pure (r.ps.zip us)
def AllQ {α : Type} (p : α → Prop) : List α → Prop
  | [] => True
  | a :: l => p a ∧ AllQ p l
theorem AllQ.mem {α : Type} {p : α → Prop} : ∀ {l : List α}, AllQ p l → ∀ a ∈ l, p a
  | b :: l, h, a, m => by
    rcases List.mem_cons.mp m with e | m
    · rw [e]; exact h.1
    · exact AllQ.mem h.2 a m
theorem mem_of_lk {α β : Type} [BEq α] [LawfulBEq α] {l : List (α × β)} {x : α} {y : β} (h : l.lookup x = some y) : (x, y) ∈ l := by
  induction l with
  | nil => cases h
  | cons p l ih =>
    obtain ⟨a, b⟩ := p
    rw [List.lookup_cons] at h
    cases e : x == a with
    | true =>
      rw [e] at h
      cases h
      rw [eq_of_beq e]
      exact List.mem_cons_self
    | false =>
      rw [e] at h
      exact List.mem_cons_of_mem _ (ih h)
section
variable {K : PySem.W.Frag} {mg : Str → Option Value} {top : Nat → Stmt} {rows : List Rw} {G : List (Str × GV)} {h : Heap} {fa : List He.Fa}
theorem ent_fn {x : Str} {i : Nat} (X : K.In h) (Gn : h.Ns mainGlobals mg) (g : gsB G K = true) (e : (x, GV.fn i) ∈ G) : mg x = some (.ref (He.ga K x)) := PySem.W.mg_of X Gn (He.eqO_ok (List.all_eq_true.mp g _ e))
theorem ent_free {x : Str} (X : K.In h) (Gn : h.Ns mainGlobals mg) (g : gsB G K = true) (e : (x, GV.free) ∈ G) : mg x = none := PySem.W.mg_none_of X Gn (He.eqO_ok (List.all_eq_true.mp g _ e))
theorem ent_const {x : Str} {d : D} (X : K.In h) (Gn : h.Ns mainGlobals mg) (g : gsB G K = true) (e : (x, GV.const d) ∈ G) : ∃ v u, mg x = some u ∧ RelV v u ∧ ∀ φ F, Rep K φ F v d := by
  have q := List.all_eq_true.mp g _ e
  have q : (match PySem.W.nsIn K mainGlobals x with
    | some (some u) => conB K d u
    | _ => false) = true := q
  cases z : PySem.W.nsIn K mainGlobals x with
  | none => rw [z] at q; cases q
  | some o =>
    rw [z] at q
    cases o with
    | none => cases q
    | some u =>
      obtain ⟨v, r, t⟩ := conB_ok d u q
      exact ⟨v, u, PySem.W.mg_of X Gn z, r, t⟩
theorem tbs_of {K : PySem.W.Frag} {tf : List He.Defn} {base : Heap} {mg : Str → Option Value} (h : tabB tf K = true) (t : ∀ p ∈ tf.map (He.cT K), LamX.TabB base mg p.1 p.2) : ∀ x ∈ lamNames, ∀ a, PySem.W.nsIn K mainGlobals x = some (some (.ref a)) → LamX.TabB base mg (He.cT K (x, none)).1 (He.cT K (x, none)).2 := fun x hx a ea => by
  have q := List.all_eq_true.mp h x hx
  rw [ea] at q
  exact t _ (List.mem_map.mpr ⟨_, of_decide_eq_true q, rfl⟩)
theorem ent_ref {x : Str} {c : Nat} (X : K.In h) (Gn : h.Ns mainGlobals mg) (g : gsB G K = true) (e : (x, GV.refu c) ∈ G) : mg x = some (.ref (He.ga K x)) := PySem.W.mg_of X Gn (He.eqO_ok (List.all_eq_true.mp g _ e))
theorem head_ok {P : Program} {w : World} {base : Heap} {cls : List Str} {L : Nat} (htb : ∀ x ∈ lamNames, ∀ a, PySem.W.nsIn K mainGlobals x = some (some (.ref a)) → LamX.TabB base mg (He.cT K (x, none)).1 (He.cT K (x, none)).2) (htq : ∀ p ∈ tabsOf K, ∀ q ∈ tabsOf K, p.1 = q.1 → p.2 = q.2) (X : K.In h) (Gn : h.Ns mainGlobals mg) (g : gsB G K = true) (gc : clsB P cls K = true) (c : He.SaysD fa (rows.map (Rw.dd top)) K) (hr : ∀ r ∈ rows, r.okB top G = true) (hb : AllQ (Rw.binds top) rows) (he : entsB top rows cls G = true) :
    ∀ n, GOk P w K mg base (clOf K cls) n (callN (rows.map Rw.fn) L n) G := by
  refine gok (fun x i e => ?_) (fun x c e => ?_) (clsB_exm gc) (fun x c' e => ?_) htb htq (fun x e => ent_free X Gn g (mem_of_lk e)) (fun x d e => ent_const X Gn g (mem_of_lk e))
  · have m := mem_of_lk e
    have q := List.all_eq_true.mp he _ m
    have q : (match rows[i]? with
      | some r => decide (r.x = x)
      | none => false) = true := q
    cases z : rows[i]? with
    | none => rw [z] at q; cases q
    | some r =>
      rw [z] at q
      have q : r.x = x := of_decide_eq_true q
      subst q
      have mr := List.mem_of_getElem? z
      obtain ⟨fd, F⟩ := c.def_ i (d := r.dd top) (by rw [List.getElem?_map, z] <;> rfl)
      have F : FunD K r.x r.x (defArgs (top r.ix)) (defBody (top r.ix)) (defScope (top r.ix)) [] [] (He.ga K r.x) fd := F
      obtain ⟨k1, k2⟩ := Bool.and_eq_true_iff.mp (hr r mr)
      exact ⟨r.x, _, _, _, r.N, r.ps, He.ga K r.x, fd, r.fn, by rw [List.getElem?_map, z] <;> rfl, ent_fn X Gn g m, F, F.bindsN (hb.mem r mr), Rw.sc_ok k1, rfl, rfl, k2, rfl, He.eqO_ok (List.all_eq_true.mp g _ m)⟩
  · have m := mem_of_lk e
    have q := List.all_eq_true.mp he _ m
    have q : (match cls[c]? with
      | some y => decide (y = x)
      | none => false) = true := q
    cases z : cls[c]? with
    | none => rw [z] at q; cases q
    | some y =>
      rw [z] at q
      obtain rfl : y = x := of_decide_eq_true q
      exact clsB_cls gc X Gn z
  · have m := mem_of_lk e
    have q := List.all_eq_true.mp he _ m
    obtain ⟨r, mr, q⟩ := List.any_eq_true.mp (show (rows.any fun r => decide (r.x = x) && refB top G c' r) = true from q)
    obtain ⟨q1, q2⟩ := ba2 q
    obtain rfl : r.x = x := of_decide_eq_true q1
    obtain ⟨q3, q5⟩ := ba2 q2
    obtain ⟨q3, q4⟩ := ba2 q3
    have q3 : r.ps = refPs := of_decide_eq_true q3
    obtain ⟨i, hi⟩ := List.mem_iff_getElem?.mp mr
    obtain ⟨fd, F⟩ := c.def_ i (d := r.dd top) (by rw [List.getElem?_map, hi] <;> rfl)
    have F : FunD K r.x r.x (defArgs (top r.ix)) (defBody (top r.ix)) (defScope (top r.ix)) [] [] (He.ga K r.x) fd := F
    have bb := F.bindsN (hb.mem r mr)
    rw [q3] at bb
    cases hz : refP (defBody (top r.ix)) with
    | none => rw [hz] at q5; cases q5
    | some z =>
      rw [hz] at q5
      rw [refP_eq hz] at F
      obtain ⟨q5, q6⟩ := ba2 q5
      obtain ⟨q5, q7⟩ := ba2 q5
      obtain ⟨q5, q8⟩ := ba2 q5
      exact ⟨He.ga K r.x, fd, _, _, z, ent_ref X Gn g m, F, bb, Rw.sc_ok q4, q5, q8, q7, q6⟩
theorem law_fn {P : Program} {w : World} {cls : List Str} {n L i : Nat} {fa' : Addr} {r : Rw} {s : Str} {tf : List He.Defn} (gt : tabB tf K = true) (gq : tuqB K = true) (X : K.In h) (Gn : h.Ns mainGlobals mg) (g : gsB G K = true) (gc : clsB P cls K = true) (c : He.SaysD fa (rows.map (Rw.dd top)) K) (hr : ∀ r ∈ rows, r.okB top G = true) (hb : AllQ (Rw.binds top) rows) (he : entsB top rows cls G = true)
    (hi : rows[i]? = some r) (hp : r.ps = [s]) (hG : (r.x, GV.fn i) ∈ G) (hm : mg r.x = some (.ref fa')) :
    ∃ fd : FuncData, (∀ (t : Shared) (v : Value), BindsTo t fd ⟨[v], []⟩ [(s, v)]) ∧ ∀ base : Heap, K.In base → base.Ns mainGlobals mg → (∀ p ∈ tf.map (He.cT K), LamX.TabB base mg p.1 p.2) → FnG P w K mg base (n + 1) fa' fd [s] (spOf K (clOf K cls) (callN (rows.map Rw.fn) L (n + 1) i)) := by
  have mr := List.mem_of_getElem? hi
  obtain ⟨fd, F⟩ := c.def_ i (d := r.dd top) (by rw [List.getElem?_map, hi] <;> rfl)
  have F : FunD K r.x r.x (defArgs (top r.ix)) (defBody (top r.ix)) (defScope (top r.ix)) [] [] (He.ga K r.x) fd := F
  have e := hm.symm.trans (ent_fn X Gn g hG)
  cases e
  obtain ⟨k1, k2⟩ := Bool.and_eq_true_iff.mp (hr r mr)
  refine ⟨fd, fun t v => ?_, fun base _ _ tbs => ?_⟩
  · have := F.bindsA (ps := [s]) (by have := hb.mem r mr; unfold Rw.binds at this; rw [hp] at this; exact this) t [v] rfl
    exact this
  · have q := fn_step (P := P) (w := w) (base := base) (mg := mg) (cl := clOf K cls) (n := n) (L := L) (i := i) (fn := r.fn) (head_ok (tbs_of gt tbs) (tuqB_ok gq) X Gn g gc c hr hb he n) (by rw [List.getElem?_map, hi] <;> rfl) F (Rw.sc_ok k1) rfl rfl rfl (He.eqO_ok (List.all_eq_true.mp g _ hG)) k2
    rw [hp] at q
    exact q
/-- all but the tables -/
def noTbl (H : Hp) : Hp := fun b => match H b with
  | some (.tbl _) => none
  | x => x
theorem noTbl_le {H : Hp} : Le (noTbl H) H := fun a o e => by
  unfold noTbl at e
  split at e
  · cases e
  · exact e
theorem noTbl_nt {H : Hp} (a : Addr) (o : HO) (e : noTbl H a = some o) : NoTb o := fun ps z => by
  subst z
  unfold noTbl at e
  split at e
  · cases e
  · rename_i h
    exact h ps e
theorem noTbl_at {H : Hp} {a : Addr} {o : HO} (e : H a = some o) (t : NoTb o) : noTbl H a = some o := by
  unfold noTbl
  split
  · rename_i ps h
    rw [h] at e
    cases e
    exact absurd rfl (t ps)
  · exact e
theorem noTbl_sq {K : PySem.W.Frag} {H : Hp} {a : Addr} {xs : List V} (h : SqL K H a xs) : SqL K (noTbl H) a xs := by
  rcases h with (h | ⟨o, h⟩) | h
  · exact .inl (.inl (noTbl_at h fun _ z => by cases z))
  · exact .inl (.inr ⟨o, noTbl_at h fun _ z => by cases z⟩)
  · exact .inr h
theorem law_sp {cl : List Addr} {f : List D → Sto → R D} {H : Hp} {a : Addr} {ns : List Int} (h : ∃ s, f [.scr ns] [] = .ok (.bl true) s) (ht : LamX.Tabs (tabsOf K) H) (hs : SqL K H a (ns.map V.int)) : spOf K cl f [.ref a] H (fun v _ => v = .bl true) fun _ _ _ => False := by
  obtain ⟨s, e⟩ := h
  refine ⟨[], noTbl H, [], [.scr ns], ⟨noTbl_le, rfl, fun n b ds q => by simp at q, List.nodup_nil, ht, noTbl_nt⟩, .cons (.scr (noTbl_sq hs)) .nil, ?_⟩
  rw [e]
  intro v H' F' _ _ r
  cases r with
  | bl => rfl
end
end Eng
end

section
set_option autoImplicit false
namespace Eng
open PySem PySem.Spec PyProof.Rows L2 LamX

/-! ## the law's call: nothing is told but the tables and the script -/
section
variable {P : Program} {w : World} {K : PySem.W.Frag} {mg mb : Str → Option Value} {k : Nat} {fa a : Addr} {cs : List (Addr × Addr)} {fd : FuncData} {x : Str} {sp : Sp} {z : Shared} {vs : List Value} {ns : List Int}
def lawH (K : PySem.W.Frag) (tl : List Addr) (a : Addr) (vs : List Value) (ns : List Int) : Hp := fun b => if b ∈ tl then some (.tbl #[]) else if b = a ∧ K.lookup a = none then some (.frz { cls := .type "list", data := .seq vs.toArray } (.lst (ns.map V.int))) else none
theorem lawH_tab {tl : List Addr} {b : Addr} (h : b ∈ tl) : lawH K tl a vs ns b = some (.tbl #[]) := if_pos h
theorem lawH_cases {tl : List Addr} {b : Addr} {o : HO} (h : lawH K tl a vs ns b = some o) : (b ∈ tl ∧ o = .tbl #[]) ∨ (b ∉ tl ∧ b = a ∧ K.lookup a = none ∧ o = .frz { cls := .type "list", data := .seq vs.toArray } (.lst (ns.map V.int))) := by
  unfold lawH at h
  by_cases q : b ∈ tl
  · rw [if_pos q] at h; cases h; exact .inl ⟨q, rfl⟩
  · rw [if_neg q] at h
    by_cases q2 : b = a ∧ K.lookup a = none
    · rw [if_pos q2] at h; cases h; exact .inr ⟨q, q2.1, q2.2, rfl⟩
    · rw [if_neg q2] at h; cases h
theorem law_run (KX : K.In z.heap) (gns : z.heap.Ns mainGlobals mg) (bns : z.heap.Ns builtinsNs mb) (bb : ∀ y : Str, y ≠ "__name__" → mb y = bootBuiltins y) (lim : z.heap.NoLimit) (gn : z.gens = #[])
    (tE : ∀ p ∈ cs, z.heap.get? p.2 = some { cls := .none, data := .fields #[] }) (tK : ∀ p ∈ cs, K.lookup p.2 = none) (tC : ∀ p ∈ cs, PySem.W.CodeHd z.heap p.1 p.2)
    (bmod : ∃ (bm : Addr) (ob : Obj), mg "__builtins__" = some (.ref bm) ∧ bm ≠ builtinsNs ∧ z.heap.get? bm = some ob ∧ ob.cls = .type "module" ∧ ob.dict = some builtinsNs ∧ ob.data = .plain)
    (sa : z.heap.get? a = some { cls := .type "list", data := .seq vs.toArray }) (si : IntsAre vs ns) (sl : ns.length ≤ sizeLine) (room : Room (3 * k) callerA)
    (F : ∀ base : Heap, K.In base → base.Ns mainGlobals mg → (∀ p ∈ cs, TabB base mg p.1 p.2) → FnG P w K mg base k fa fd [x] sp) (bind : ∀ (s : Shared) (u : Value), BindsTo s fd ⟨[u], []⟩ [(x, u)])
    (spk : ∀ H : Hp, (∀ p ∈ cs, H p.2 = some (.tbl #[])) → SqL K H a (ns.map V.int) → sp [.ref a] H (fun v _ => v = .bl true) fun _ _ _ => False) :
    codeAny (model P w) callerA (.call (.ref fa) ⟨[.ref a], []⟩) (fun r s' => r = .ok (.ret (.bool true)) ∧ OldK z.heap s'.heap ∧ s'.os = z.os ∧ AllBare s'.gens) z := by
  obtain ⟨tl, etl⟩ : ∃ tl, tl = cs.map (·.2) := ⟨_, rfl⟩
  have memT : ∀ p ∈ cs, p.2 ∈ tl := fun p hp => by rw [etl]; exact List.mem_map.mpr ⟨p, hp, rfl⟩
  have ofT : ∀ b ∈ tl, ∃ p ∈ cs, p.2 = b := fun b hb => by rw [etl] at hb; exact List.mem_map.mp hb
  have emp : ∀ b ∈ tl, z.heap.get? b = some { cls := .none, data := .fields #[] } := fun b hb => by
    obtain ⟨p, hp, e⟩ := ofT b hb
    rw [← e]; exact tE p hp
  have aNT : a ∉ tl := fun q => by
    have e := emp a q
    rw [sa] at e
    exact absurd (congrArg Obj.data (Option.some.inj e)) (fun q => by cases q)
  obtain ⟨H, eH⟩ : ∃ H, H = lawH K tl a vs ns := ⟨_, rfl⟩
  have cases' : ∀ {b o}, H b = some o → (b ∈ tl ∧ o = .tbl #[]) ∨ (b ∉ tl ∧ b = a ∧ K.lookup a = none ∧ o = .frz { cls := .type "list", data := .seq vs.toArray } (.lst (ns.map V.int))) := fun {b o} e => lawH_cases (by rw [← eH]; exact e)
  have quiet : ∀ {b : Addr} {o : Obj}, z.heap.get? b = some o → (∀ l m, o.data ≠ .seq l m) → o.data ≠ .fields #[] → H b = none := fun {b o} e h1 h2 => by
    cases q : H b with
    | none => rfl
    | some u =>
      rcases cases' q with ⟨q1, _⟩ | ⟨_, q1, _⟩
      · rw [emp b q1] at e; cases e; exact absurd rfl h2
      · rw [q1, sa] at e; cases e; exact absurd rfl (h1 _ _)
  have quietD : ∀ {b : Addr} {o : Obj} {es : Array DictEntry} {m : Nat}, z.heap.get? b = some o → o.data = .dict es m → H b = none := fun e d => quiet e (fun l m q => by rw [d] at q; cases q) fun q => by rw [d] at q; cases q
  have sees : ∀ {b : Addr} {o : Obj}, z.heap.get? b = some o → H b = none → (hidT z.heap H).get? b = some o := fun e n => hidT_get e n
  have seesN : ∀ {b : Addr} {m : Str → Option Value}, z.heap.Ns b m → (hidT z.heap H).Ns b m := fun {b m} ⟨o, es, ep, e, d, r⟩ => ⟨o, es, ep, sees e (quietD e d), d, r⟩
  have inB : K.In (hidT z.heap H) := fun b o e => sees (KX b o e) (by
    cases q : H b with
    | none => rfl
    | some u =>
      rcases cases' q with ⟨q1, _⟩ | ⟨_, q1, q2, _⟩
      · obtain ⟨p, hp, e'⟩ := ofT b q1
        rw [← e', tK p hp] at e; cases e
      · rw [q1, q2] at e; cases e)
  have hM : L2.Mod K mg (hidT z.heap H) := ⟨inB, seesN gns, ⟨mb, seesN bns, bb⟩, by obtain ⟨mc, c1, c2⟩ := lim; exact ⟨mc, seesN c1, c2⟩⟩
  have hTB : ∀ p ∈ cs, TabB (hidT z.heap H) mg p.1 p.2 := fun p hp => by
    obtain ⟨bm, ob, b1, b2, b3, b4, b5, b6⟩ := bmod
    have plain : ∀ {q : Addr}, bm = q → ∀ o, z.heap.get? q = some o → o.data = .plain := fun {q} e o eo => by rw [← e, b3] at eo; cases eo; exact b6
    have bmH : H bm = none := quiet b3 (fun l m q => by rw [b6] at q; cases q) fun q => by rw [b6] at q; cases q
    refine ⟨?_, ⟨bm, ob, b1, b2, fun q => ?_, fun q => ?_, sees b3 bmH, b4, b5, b6⟩, fun q => ?_⟩
    · obtain ⟨o, us, file, tf, fl, tg, inF, tx, tt, c1, c2, c3, c4⟩ := tC p hp
      refine ⟨o, us, file, tf, fl, tg, inF, tx, tt, sees c1 (quiet c1 (fun l m q => by rw [c3] at q; cases q) fun q => ?_), c2, c3, c4⟩
      rw [c3] at q
      cases q
      simp at c4
    · obtain ⟨o, es, ep, e, d, _⟩ := gns
      have := plain q o e
      rw [d] at this; cases this
    · have := plain q _ (tE p hp)
      cases this
    · obtain ⟨o, es, ep, e, d, _⟩ := gns
      rw [q, tE p hp] at e
      cases e; cases d
  have rv := vals_ints si
  have ok : HOk P w H z.heap := fun b o e => by
    rcases cases' e with ⟨q1, rfl⟩ | ⟨_, rfl, _, rfl⟩
    · exact emp b q1
    · exact ⟨sa, by rw [List.length_map]; exact sl, vs, _, rv, sa⟩
  have hS : SqL K H a (ns.map V.int) := by
    cases hk : K.lookup a with
    | none =>
      refine .inl (.inr ⟨{ cls := .type "list", data := .seq vs.toArray }, ?_⟩)
      rw [eH]
      unfold lawH
      rw [if_neg aNT, if_pos ⟨rfl, hk⟩]
    | some o =>
      have e := KX a o hk
      rw [sa] at e
      cases e
      exact .inr ⟨_, vs.toArray, _, hk, rfl, rfl, rfl, by rw [List.size_toArray, si.length]; exact sl, by simpa using rv⟩
  have hH : ∀ p ∈ cs, H p.2 = some (.tbl #[]) := fun p hp => by rw [eH]; exact lawH_tab (memT p hp)
  have e0 : Env0 P w K mg (hidT z.heap H) callerA [] z H := ⟨rfl, hM, fun b o e => of_hidT e, Nat.le_of_eq (hidT_size _ _), trivial, fun b hb => absurd hb (by show b ∉ ([] : List Addr); simp), ok, .of_eq gn⟩
  have run := (F _ inB (seesN gns) hTB).run callerA [] z H ⟨[.ref a], []⟩ [.ref a] [.ref a] _ _ room rfl e0 (bind z (.ref a)) (.cons rfl .nil) (spk H hH hS)
  refine codeAny_mono run fun r s' q => ?_
  match r, q with
  | .error e, ⟨_, _, _, _, _, _, _, _, _, _, _, _, q⟩ => exact q.elim
  | .ok .next, q => exact q.elim
  | .ok .brk, q => exact q.elim
  | .ok .cont, q => exact q.elim
  | .ok (.ret u), ⟨v, H', os, bare, un, ok', rv', q⟩ =>
    have q : v = .bl true := q
    subst q
    obtain rfl : u = Value.bool true := rv'
    have same : ∀ b o, b ∉ tl → z.heap.get? b = some o → s'.heap.get? b = some o := fun b o nb e => by
      cases q : H b with
      | none => exact un.keep b o e q (by show b ∉ ([] : List Addr); simp) (by simp)
      | some u =>
        rcases cases' q with ⟨q1, _⟩ | ⟨_, q1, _, q2⟩
        · exact absurd q1 nb
        · rw [q2] at q
          obtain ⟨e2, _⟩ := ok' b _ (un.frzs b _ _ q)
          rw [q1, sa] at e
          cases e
          rw [q1] at e2 ⊢
          exact e2
    have grown : ∀ p ∈ cs, ∃ more : Array Value, s'.heap.get? p.2 = some { cls := .none, data := .fields more } := fun p hp => by
      obtain ⟨more, e⟩ := un.tbls p.2 #[] (hH p hp)
      exact ⟨_, ok' p.2 _ e⟩
    refine ⟨rfl, ⟨fun b o e => ?_, fun b o e => ?_⟩, os, bare⟩
    · by_cases hb : b ∈ tl
      · obtain ⟨p, hp, rfl⟩ := ofT b hb
        obtain ⟨more, hm⟩ := grown p hp
        rw [tE p hp] at e
        cases e
        exact .inr (.inl ⟨((tC p hp).tab (tE p hp)).isCodeTable, rfl, #[], more, rfl, by rw [Array.empty_append]; exact hm⟩)
      · exact .inl (same b o hb e)
    · by_cases hb : b ∈ tl
      · obtain ⟨p, hp, rfl⟩ := ofT b hb
        obtain ⟨more, hm⟩ := grown p hp
        exact ⟨_, hm⟩
      · exact ⟨o, same b o hb e⟩
end
theorem walk_law {l : PySem.W.OpenLaw} {n k : Nat} {q : Program} {loose : List Str} {XP : (Str → Option Value) → Heap → Prop} {YP : World → Heap → Prop} {d : DefRec} {x : Str}
    (hn : l.most = some n) (hn2 : n ≤ sizeLine) (hdf : d.params.defaults = []) (hr : Room (3 * k) callerA)
    (F : ∀ (w : World) (mg : Str → Option Value) (fa : Addr) (h : Heap), YP w h → h.Ns mainGlobals mg → mg d.name = some (.ref fa) →
      ∃ (K : PySem.W.Frag) (fd : FuncData) (sp : Sp) (cs : List (Addr × Addr)), K.In h ∧ (∀ p ∈ cs, h.get? p.2 = some { cls := .none, data := .fields #[] }) ∧ (∀ p ∈ cs, K.lookup p.2 = none) ∧ (∀ p ∈ cs, PySem.W.CodeHd h p.1 p.2) ∧ (∀ (s : Shared) (u : Value), BindsTo s fd ⟨[u], []⟩ [(x, u)]) ∧
        (∀ (H : Hp) (a : Addr) (ns : List Int), ns.length ≤ n → (∀ p ∈ cs, H p.2 = some (.tbl #[])) → SqL K H a (ns.map V.int) → sp [.ref a] H (fun v _ => v = .bl true) fun _ _ _ => False) ∧
        ∀ base : Heap, K.In base → base.Ns mainGlobals mg → (∀ p ∈ cs, TabB base mg p.1 p.2) → FnG l.prog w K mg base k fa fd [x] sp) :
    PySem.W.WalkO q loose XP YP l.row.toRowW d [] (fun f vs => PySem.call f vs) := by
  refine Att.attach_call hn hdf fun w s₀ s₁ mg mb fa o pm cd doc a vs ns G Y ho hd hcd hmg hobj hints hlen hg => ?_
  obtain ⟨K, fd, sp, cs, KX, t1, t2, t3, hb, hsp, hF⟩ := F w mg fa _ Y G.T.g hmg
  exact law_run KX G.T.g G.T.b G.T.builtins G.T.nolimit hg t1 t2 t3 G.T.bmain hobj hints (Nat.le_trans hlen hn2) hr hF hb fun H hH hS => hsp H a ns hlen hH hS
end Eng
end

section
set_option autoImplicit false
namespace Eng
open PySem PySem.Spec PyProof.Rows L2

/-! ## the evaluator's steps, for the laws' own lemmas -/
section
variable {fs : List Fn} {L n f : Nat} {ds : List D} {st st1 : Sto} {fn : Fn} {env env1 : Env} {call : Nat → List D → Sto → R D}
theorem callN_eq (h : fs[f]? = some fn) (hl : ds.length = fn.np) : callN fs L (n + 1) f ds st = endR st.length (evSs (callN fs L n) L fn.body (initE fn.ns ds) st) := by
  show (match fs[f]? with
    | some fn => (match decide (ds.length = fn.np) with
      | true => endR st.length (evSs (callN fs L n) L fn.body (initE fn.ns ds) st)
      | false => .stuck)
    | none => .stuck) = _
  rw [h]
  show (match decide (ds.length = fn.np) with
      | true => endR st.length (evSs (callN fs L n) L fn.body (initE fn.ns ds) st)
      | false => .stuck) = _
  rw [decide_eq_true hl]
theorem endR_ok {fl : Fl} (h : st1.length = n) : endR n (.ok (fl, env) st1) = endF fl st1 := by
  show (match decide (st1.length = n) with
    | true => endF fl st1
    | false => _) = _
  rw [decide_eq_true h]
theorem call_rt {d : D} (h : fs[f]? = some fn) (hl : ds.length = fn.np) (hs : st1.length = st.length) (e : evSs (callN fs L n) L fn.body (initE fn.ns ds) st = .ok (.rt d, env) st1) : callN fs L (n + 1) f ds st = .ok d st1 := by
  rw [callN_eq h hl, e, endR_ok hs] <;> rfl
theorem call_nx (h : fs[f]? = some fn) (hl : ds.length = fn.np) (hs : st1.length = st.length) (e : evSs (callN fs L n) L fn.body (initE fn.ns ds) st = .ok (.nx, env) st1) : callN fs L (n + 1) f ds st = .ok .non st1 := by
  rw [callN_eq h hl, e, endR_ok hs] <;> rfl
theorem call_ex {x : Xn} (h : fs[f]? = some fn) (hl : ds.length = fn.np) (hs : st1.length = st.length) (e : evSs (callN fs L n) L fn.body (initE fn.ns ds) st = .ok (.ex x, env) st1) : callN fs L (n + 1) f ds st = .exc x st1 := by
  rw [callN_eq h hl, e, endR_ok hs] <;> rfl
/-- the law's own call: its written lists are let go -/
theorem call_law {b : Bool} (h : fs[f]? = some fn) (hl : ds.length = fn.np) (e : evSs (callN fs L n) L fn.body (initE fn.ns ds) [] = .ok (.rt (.bl b), env) st1) : callN fs L (n + 1) f ds [] = .ok (.bl b) [] := by
  rw [callN_eq h hl, e]
  show (match decide (st1.length = 0) with
    | true => endF (.rt (.bl b)) st1
    | false => (match flOk (.rt (.bl b)) && (st1.take 0).all noRef.all with
      | true => endF (.rt (.bl b)) (st1.take 0)
      | false => .stuck)) = _
  cases st1 with
  | nil => rfl
  | cons a l => rfl
theorem ss_nx {s : S} {ss : Ss} (h : evS call L s env st = .ok (.nx, env1) st1) : evSs call L (.cons s ss) env st = evSs call L ss env1 st1 := by
  show (evS call L s env st).bind _ = _
  rw [h]
theorem ss_rt {s : S} {ss : Ss} {d : D} (h : evS call L s env st = .ok (.rt d, env1) st1) : evSs call L (.cons s ss) env st = .ok (.rt d, env1) st1 := by
  show (evS call L s env st).bind _ = _
  rw [h]
theorem ss_ex {s : S} {ss : Ss} {x : Xn} (h : evS call L s env st = .ok (.ex x, env1) st1) : evSs call L (.cons s ss) env st = .ok (.ex x, env1) st1 := by
  show (evS call L s env st).bind _ = _
  rw [h]
theorem ss_nil : evSs call L .nil env st = .ok (.nx, env) st := rfl
/-! matches made plain -/
theorem lift_ok {α : Type} {a : α} {k : α → Sto → RS} : lift (.ok a st) env k = k a st := rfl
theorem lift_ex {α : Type} {x : Xn} {k : α → Sto → RS} : lift (.exc x st : R α) env k = .ok (.ex x, env) st := rfl
theorem bind_ok {α β : Type} {a : α} {k : α → Sto → R β} : (R.ok a st).bind k = k a st := rfl
theorem bind_ex {α β : Type} {x : Xn} {k : α → Sto → R β} : (R.exc x st).bind k = .exc x st := rfl
theorem of_some {α : Type} {a : α} : R.of (some a) st = .ok a st := rfl
theorem asB_ok {b : Bool} : asB (.ok (.bl b) st) = .ok b st := rfl
theorem asB_ex {x : Xn} : asB (.exc x st) = .exc x st := rfl
theorem asI_ok {i : Int} : asI (.ok (.int i) st) = .ok i st := rfl
theorem asI_ex {x : Xn} : asI (.exc x st) = .exc x st := rfl
theorem asD_ok {b : Bool} : asD (.ok b st) = .ok (.bl b) st := rfl
theorem asD_ex {x : Xn} : asD (.exc x st) = .exc x st := rfl
theorem fold2_t {α : Type} {f g : Sto → R α} : fold2 (.ok true st) f g = f st := rfl
theorem fold2_f {α : Type} {f g : Sto → R α} : fold2 (.ok false st) f g = g st := rfl
theorem fold2_ex {α : Type} {x : Xn} {f g : Sto → R α} : fold2 (.exc x st) f g = .exc x st := rfl
theorem keepIf_t {f : Sto → R D} : keepIf (.ok true st) f = (f st).bind fun y s1 => .ok (some y) s1 := rfl
theorem keepIf_f {f : Sto → R D} : keepIf (.ok false st) f = .ok none st := rfl
theorem ntup_some {f : Env → R (Option D)} : ntup (some env) f = calm (f env) := rfl
theorem calm_o {α : Type} {a : α} : calm (.ok a st) = .ok a st := rfl
theorem items_t {ys : List D} : asItems (.ok (.tup ys) st) = .ok ys st := rfl
theorem items_l {ys : List D} : asItems (.ok (.lst ys) st) = .ok ys st := rfl
theorem sized_ok' {xs : List D} (h : xs.length ≤ sizeLine) : sized xs st = .ok (.lst xs) st := by
  unfold sized
  rw [decide_eq_true h]
theorem sizedT_ok' {xs : List D} (h : xs.length ≤ sizeLine) : sizedT xs st = .ok (.tup xs) st := by
  unfold sizedT
  rw [decide_eq_true h]
theorem b_add (i j : Int) : binop .add (.int i) (.int j) = some (.int (i + j)) := rfl
theorem b_sub (i j : Int) : binop .sub (.int i) (.int j) = some (.int (i - j)) := rfl
theorem b_mul (i j : Int) (h : small64 i = true ∨ small64 j = true) : binop .mul (.int i) (.int j) = some (.int (i * j)) := by
  show (match small64 i || small64 j with
    | true => some (D.int (i * j))
    | false => none) = _
  rw [Bool.or_eq_true_iff.mpr h]
theorem small_of {i : Int} (h1 : -(2 ^ 64) < i) (h2 : i < 2 ^ 64) : small64 i = true := by
  unfold small64
  rw [decide_eq_true h1, decide_eq_true h2] <;> rfl
theorem b_mod (i j : Int) (h : 0 < j) : binop .mod (.int i) (.int j) = some (.int (i % j)) := by
  show (match decide (0 < j) with
    | true => some (D.int (i % j))
    | false => none) = _
  rw [decide_eq_true h]
theorem b_fdiv (i j : Int) (h : 0 < j) (h2 : j.natAbs.log2 < 9000) : binop .fdiv (.int i) (.int j) = some (.int (i / j)) := by
  show (match decide (0 < j) && decide (j.natAbs.log2 < 9000) with
    | true => some (D.int (i / j))
    | false => none) = _
  rw [decide_eq_true h, decide_eq_true h2] <;> rfl
theorem b_pow (i : Int) (j : Nat) (h1 : (j : Int) ≤ 1000000) (h2 : small64 i = true) : binop .pow (.int i) (.int (j : Int)) = some (.int (i ^ j)) := by
  show (match decide ((0 : Int) ≤ (j : Int)) && decide ((j : Int) ≤ 1000000) && small64 i with
    | true => some (D.int (i ^ ((j : Int)).toNat))
    | false => none) = _
  rw [decide_eq_true (show (0 : Int) ≤ (j : Int) by omega), decide_eq_true h1, h2, Int.toNat_natCast] <;> rfl
theorem b_pow2 (i : Int) (h2 : small64 i = true) : binop .pow (.int i) (.int 2) = some (.int (i ^ 2)) := b_pow i 2 (by decide) h2
theorem b_catT (xs ys : List D) (h : xs.length + ys.length ≤ sizeLine) : binop .add (.tup xs) (.tup ys) = some (.tup (xs ++ ys)) := by
  show (cat xs ys).map D.tup = _
  unfold cat
  rw [decide_eq_true h] <;> rfl
theorem b_catL (xs ys : List D) (h : xs.length + ys.length ≤ sizeLine) : binop .add (.lst xs) (.lst ys) = some (.lst (xs ++ ys)) := by
  show (cat xs ys).map D.lst = _
  unfold cat
  rw [decide_eq_true h] <;> rfl
theorem b_repL (xs : List D) (k : Int) (h1 : -(2 ^ 63) ≤ k) (h2 : k < 2 ^ 63) (h3 : xs.length * k.toNat ≤ sizeLine) : binop .mul (.lst xs) (.int k) = some (.lst (List.replicate k.toNat xs).flatten) := by
  show (rep xs k).map D.lst = _
  unfold rep
  rw [decide_eq_true h1, decide_eq_true h2, decide_eq_true h3] <;> rfl
theorem b_repT (xs : List D) (k : Int) (h0 : xs ≠ []) (h1 : 2 ≤ k) (h2 : k * (xs.length : Int) ≤ 1000000) : binop .mul (.tup xs) (.int k) = some (.tup (List.replicate k.toNat xs).flatten) := by
  have hp := List.length_pos_iff.mpr h0
  have hk : k * 1 ≤ k * (xs.length : Int) := Int.mul_le_mul_of_nonneg_left (by omega) (by omega)
  have e0 : xs.isEmpty = false := by
    cases xs with
    | nil => exact absurd rfl h0
    | cons a l => rfl
  show (repT xs k).map D.tup = _
  unfold repT
  rw [decide_eq_true (show -(2 ^ 63) ≤ k by omega), decide_eq_true (show k < 2 ^ 63 by omega), e0, decide_eq_false (show ¬ k = 1 by omega), decide_eq_true h1, decide_eq_true h2] <;> rfl
theorem flat_one {α : Type} (x : α) (m : Nat) : (List.replicate m [x]).flatten = List.replicate m x := by
  induction m with
  | zero => rfl
  | succ m ih => rw [List.replicate_succ, List.flatten_cons, ih, List.replicate_succ] <;> rfl
theorem c_eq (a b : D) : cmpop .eq a b = eqD a b := rfl
theorem c_ne (a b : D) : cmpop .ne a b = (eqD a b).map (!·) := rfl
theorem c_lt (i j : Int) : cmpop .lt (.int i) (.int j) = some (decide (i < j)) := rfl
theorem c_le (i j : Int) : cmpop .le (.int i) (.int j) = some (decide (i ≤ j)) := rfl
theorem c_gt (i j : Int) : cmpop .gt (.int i) (.int j) = some (decide (j < i)) := rfl
theorem c_ge (i j : Int) : cmpop .ge (.int i) (.int j) = some (decide (j ≤ i)) := rfl
theorem f_lenL (xs : List D) : bfop .len [.lst xs] = some (.int xs.length) := rfl
theorem f_lenT (xs : List D) : bfop .len [.tup xs] = some (.int xs.length) := rfl
theorem f_tupL (xs : List D) : bfop .tuple [.lst xs] = some (.tup xs) := rfl
theorem f_tupT (xs : List D) : bfop .tuple [.tup xs] = some (.tup xs) := rfl
theorem f_lstL (xs : List D) : bfop .list [.lst xs] = some (.lst xs) := rfl
theorem f_lstT (xs : List D) : bfop .list [.tup xs] = some (.lst xs) := rfl
theorem f_int (i : Int) : bfop .int [.int i] = some (.int i) := rfl
theorem f_abs (i : Int) : bfop .abs [.int i] = some (.int (if i < 0 then -i else i)) := rfl
theorem i_int (i : Int) : isIop .int (.int i) = some true := rfl
theorem i_intB (b : Bool) : isIop .int (.bl b) = some true := rfl
theorem i_intN : isIop .int .non = some false := rfl
theorem i_intT (xs : List D) : isIop .int (.tup xs) = some false := rfl
theorem i_intL (xs : List D) : isIop .int (.lst xs) = some false := rfl
theorem i_intS (x : Str) : isIop .int (.str x) = some false := rfl
theorem i_bool (i : Int) : isIop .bool (.int i) = some false := rfl
theorem i_boolB (b : Bool) : isIop .bool (.bl b) = some true := rfl
theorem i_tup (xs : List D) : isIop .tuple (.tup xs) = some true := rfl
theorem i_tupN : isIop .tuple .non = some false := rfl
theorem i_tupL (xs : List D) : isIop .tuple (.lst xs) = some false := rfl
theorem i_tupI (i : Int) : isIop .tuple (.int i) = some false := rfl
theorem x_tup (xs : List D) (i : Int) (s : Sto) : ixS (.tup xs) (.int i) s = .of (atI xs i) s := rfl
theorem x_lst (xs : List D) (i : Int) (s : Sto) : ixS (.lst xs) (.int i) s = .of (atI xs i) s := rfl
theorem x_ref (n : Nat) (i : Int) (s : Sto) : ixS (.ref n) (.int i) s = .of ((s[n]?).bind fun xs => atI xs i) s := rfl
theorem l_tup (xs : List D) (lo hi : Option Int) : slop (.tup xs) lo hi = some (.tup (cutD xs lo hi)) := rfl
theorem l_lst (xs : List D) (lo hi : Option Int) : slop (.lst xs) lo hi = some (.lst (cutD xs lo hi)) := rfl
theorem l_scr (ns : List Int) (lo hi : Option Int) : slop (.scr ns) lo hi = some (.lst ((cutD ns lo hi).map .int)) := rfl
theorem r_lst (xs : List D) : revop (.lst xs) = some (.lst xs.reverse) := rfl
theorem r_tup (xs : List D) : revop (.tup xs) = some (.tup xs.reverse) := rfl
theorem q_lst (xs : List D) : seqD (.lst xs) = some xs := rfl
theorem q_tup (xs : List D) : seqD (.tup xs) = some xs := rfl
theorem z_lst (xs ys : List D) : zipA (.lst xs) (.lst ys) = some (zipD xs ys) := rfl
theorem z_tup (xs ys : List D) : zipA (.tup xs) (.tup ys) = some (zipD xs ys) := rfl
theorem t_one (i : Nat) (d : D) (e : Env) : tgSet (.one i) d e = some (e.set i (.val d)) := rfl
theorem t_many2 (i j : Nat) (a b : D) (e : Env) : tgSet (.many [i, j]) (.tup [a, b]) e = some ((e.set i (.val a)).set j (.val b)) := rfl
theorem t_many3 (i j k : Nat) (a b c : D) (e : Env) : tgSet (.many [i, j, k]) (.tup [a, b, c]) e = some (((e.set i (.val a)).set j (.val b)).set k (.val c)) := rfl
theorem t_many4 (i j k l : Nat) (a b c d : D) (e : Env) : tgSet (.many [i, j, k, l]) (.tup [a, b, c, d]) e = some ((((e.set i (.val a)).set j (.val b)).set k (.val c)).set l (.val d)) := rfl
theorem t_lst2 (i j : Nat) (a b : D) (e : Env) : lsSet [i, j] (.lst [a, b]) e = some ((e.set i (.val a)).set j (.val b)) := rfl
theorem t_lst3 (i j k : Nat) (a b c : D) (e : Env) : lsSet [i, j, k] (.lst [a, b, c]) e = some (((e.set i (.val a)).set j (.val b)).set k (.val c)) := rfl
theorem w_nil (e : Env) : wipeE e [] = e := rfl
theorem w_cons (e : Env) (v : Nat) (vs : List Nat) : wipeE e (v :: vs) = (wipeE e vs).set v .un := rfl
theorem sl_v (e : E) (d : D) : slotOf false e d = some (.val d) := rfl
theorem intsD_map : ∀ ns : List Int, intsD (ns.map D.int) = some ns
  | [] => rfl
  | n :: r => by
    show (intsD (r.map D.int)).map (n :: ·) = _
    rw [intsD_map r] <;> rfl
theorem boolsD_map : ∀ ns : List Bool, boolsD (ns.map D.bl) = some ns
  | [] => rfl
  | n :: r => by
    show (boolsD (r.map D.bl)).map (n :: ·) = _
    rw [boolsD_map r] <;> rfl
theorem atI_map {α β : Type} (g : α → β) (xs : List α) (i : Int) : atI (xs.map g) i = (atI xs i).map g := by
  unfold atI
  rw [List.length_map]
  cases ixN xs.length i with
  | none => rfl
  | some j => exact List.getElem?_map
section
variable {env : Env} {st : Sto} {r : R D} {a b e : E} {es fs : Es} {c : D} {x : Str} {o : BOp} {p q : COp} {f i : Nat} {h : Bf} {t : Ty}
theorem rd_k : rdB (.k c) env st r = r := rfl
theorem rd_g : rdB (.g x c) env st r = r := rfl
theorem rd_bin : rdB (.bin o a b) env st r = r := rfl
theorem rd_neg : rdB (.neg a) env st r = r := rfl
theorem rd_not : rdB (.not a) env st r = r := rfl
theorem rd_and : rdB (.and a b) env st r = r := rfl
theorem rd_or : rdB (.or a b) env st r = r := rfl
theorem rd_cmp : rdB (.cmp p a b) env st r = r := rfl
theorem rd_chain : rdB (.chain p q a b e) env st r = r := rfl
theorem rd_ite : rdB (.ite e a b) env st r = r := rfl
theorem rd_tup : rdB (.tup es) env st r = r := rfl
theorem rd_lst : rdB (.lst es) env st r = r := rfl
theorem rd_ix : rdB (.ix a b) env st r = r := rfl
theorem rd_sl : rdB (.sl a es fs) env st r = r := rfl
theorem rd_rev : rdB (.rev a) env st r = r := rfl
theorem rd_sumL : rdB (.sumL a) env st r = r := rfl
theorem rd_cnt : rdB (.cnt a b) env st r = r := rfl
theorem rd_stp : rdB (.stp a b e) env st r = r := rfl
theorem rd_join : rdB (.join a b) env st r = r := rfl
theorem rd_call : rdB (.call f es) env st r = r := rfl
theorem rd_bf : rdB (.bf h es) env st r = r := rfl
theorem rd_isI : rdB (.isI a t) env st r = r := rfl
theorem rd_v : rdB (.v i) env st r = (match sget env i with
  | .val d => .ok d st
  | .own ds => .ok (.lst ds) st
  | .un => .stuck) := rfl
end
theorem bools_of {α : Type} (p : α → Bool) (xs : List α) : boolsD (xs.map fun x => .bl (p x)) = some (xs.map p) := by
  induction xs with
  | nil => rfl
  | cons x r ih =>
    show (boolsD (r.map fun x => .bl (p x))).map (p x :: ·) = _
    rw [ih] <;> rfl
theorem ints_of {α : Type} (p : α → Int) (xs : List α) : intsD (xs.map fun x => .int (p x)) = some (xs.map p) := by
  induction xs with
  | nil => rfl
  | cons x r ih =>
    show (intsD (r.map fun x => .int (p x))).map (p x :: ·) = _
    rw [ih] <;> rfl
theorem f_all {α : Type} (p : α → Bool) (xs : List α) : bfop .all [.lst (xs.map fun x => .bl (p x))] = some (.bl (xs.all p)) := by
  show (boolsD (xs.map fun x => .bl (p x))).map _ = _
  rw [bools_of]
  show some (D.bl ((xs.map p).all id)) = _
  rw [List.all_map] <;> rfl
theorem f_any {α : Type} (p : α → Bool) (xs : List α) : bfop .any [.lst (xs.map fun x => .bl (p x))] = some (.bl (xs.any p)) := by
  show (boolsD (xs.map fun x => .bl (p x))).map _ = _
  rw [bools_of]
  show some (D.bl ((xs.map p).any id)) = _
  rw [List.any_map] <;> rfl
theorem f_sumL {α : Type} (p : α → Int) (xs : List α) : bfop .sum [.lst (xs.map fun x => .int (p x))] = some (.int (xs.map p).sum) := by
  show (intsD (xs.map fun x => .int (p x))).map _ = _
  rw [ints_of] <;> rfl
theorem f_sumT (xs : List Int) : bfop .sum [.tup (xs.map .int)] = some (.int xs.sum) := by
  show (intsD (xs.map .int)).map _ = _
  rw [intsD_map] <;> rfl
theorem f_sortT (xs : List Int) : bfop .sorted [.tup (xs.map .int)] = some (.lst ((sortI xs).map .int)) := by
  show (intsD (xs.map .int)).map _ = _
  rw [intsD_map] <;> rfl
theorem f_sortL (xs : List Int) : bfop .sorted [.lst (xs.map .int)] = some (.lst ((sortI xs).map .int)) := by
  show (intsD (xs.map .int)).map _ = _
  rw [intsD_map] <;> rfl
theorem f_minL (x : Int) (xs : List Int) : bfop .min [.lst ((x :: xs).map .int)] = some (.int (xs.foldl (fun a b => if b < a then b else a) x)) := by
  show (match intsD ((x :: xs).map .int) with
    | some ns => (minI ns).map D.int
    | none => _) = _
  rw [intsD_map] <;> rfl
theorem f_maxL (x : Int) (xs : List Int) : bfop .max [.lst ((x :: xs).map .int)] = some (.int (xs.foldl (fun a b => if a < b then b else a) x)) := by
  show ((intsD ((x :: xs).map .int)).bind fun ns => (maxI ns).map D.int) = _
  rw [intsD_map] <;> rfl
theorem cut_take {α : Type} (xs : List α) (l : Nat) : cutD xs none (some (l : Int)) = xs.take l := by
  unfold cutD
  have e0 : HT.sIx xs.length 0 none = 0 := rfl
  have e1 : HT.sIx xs.length xs.length (some (l : Int)) = min l xs.length := by
    unfold HT.sIx
    simp
    omega
  rw [e0, e1, List.drop_zero, Nat.sub_zero, List.take_eq_take_iff]
  omega
theorem cut_drop {α : Type} (xs : List α) (l : Nat) : cutD xs (some (l : Int)) none = xs.drop l := by
  unfold cutD
  have e0 : HT.sIx xs.length 0 (some (l : Int)) = min l xs.length := by
    unfold HT.sIx
    simp
    omega
  have e1 : HT.sIx xs.length xs.length none = xs.length := rfl
  rw [e0, e1]
  have e2 : xs.drop (min l xs.length) = xs.drop l := by
    by_cases h : l ≤ xs.length
    · rw [Nat.min_eq_left h]
    · rw [Nat.min_eq_right (by omega), List.drop_length, List.drop_eq_nil_of_le (by omega)]
  rw [e2, List.take_of_length_le]
  rw [List.length_drop]
  omega
theorem cut_1 {α : Type} (xs : List α) : cutD xs (some 1) none = xs.drop 1 := cut_drop xs 1
theorem cut_all {α : Type} (xs : List α) : cutD xs none none = xs := by
  unfold cutD
  have e0 : HT.sIx xs.length 0 none = 0 := rfl
  have e1 : HT.sIx xs.length xs.length none = xs.length := rfl
  rw [e0, e1, List.drop_zero, Nat.sub_zero, List.take_length]
theorem zip_map {α β : Type} (f : α → D) (g : β → D) : ∀ (xs : List α) (ys : List β), zipD (xs.map f) (ys.map g) = (xs.zip ys).map fun p => .tup [f p.1, g p.2]
  | [], _ => rfl
  | _ :: _, [] => rfl
  | x :: xs, y :: ys => by
    show D.tup [f x, g y] :: zipD (xs.map f) (ys.map g) = _
    rw [zip_map f g xs ys] <;> rfl
theorem at_nat {α : Type} (xs : List α) (i : Nat) (h : i < xs.length) : atI xs (i : Int) = some xs[i] := by
  have e : ixN xs.length (i : Int) = some i := by
    unfold ixN
    simp
    omega
  unfold atI
  rw [e]
  exact List.getElem?_eq_getElem h
theorem at_last {α : Type} (xs : List α) (h : xs ≠ []) : atI xs (-1) = some (xs.getLast h) := by
  have hl := List.length_pos_iff.mpr h
  have e : ixN xs.length (-1) = some (xs.length - 1) := by
    unfold ixN
    simp
    omega
  unfold atI
  rw [e, List.getLast_eq_getElem]
  exact List.getElem?_eq_getElem (by omega)
theorem sget_0 {x : Sl} {e : Env} : sget (x :: e) 0 = x := rfl
theorem sget_S {x : Sl} {e : Env} {i : Nat} : sget (x :: e) (i + 1) = sget e i := rfl
theorem size_small {k : Nat} (h : k ≤ 16777216) : k ≤ sizeLine := by rw [sizeLine_eq]; exact h
theorem sz_0 (s : Sto) : sized [] s = .ok (.lst []) s := sized_ok' (size_small (by simp))
theorem szT_0 (s : Sto) : sizedT [] s = .ok (.tup []) s := sizedT_ok' (size_small (by simp))
theorem sz_1 (a : D) (s : Sto) : sized [a] s = .ok (.lst [a]) s := sized_ok' (size_small (by simp))
theorem szT_1 (a : D) (s : Sto) : sizedT [a] s = .ok (.tup [a]) s := sizedT_ok' (size_small (by simp))
theorem sz_2 (a b : D) (s : Sto) : sized [a, b] s = .ok (.lst [a, b]) s := sized_ok' (size_small (by simp))
theorem szT_2 (a b : D) (s : Sto) : sizedT [a, b] s = .ok (.tup [a, b]) s := sizedT_ok' (size_small (by simp))
theorem sz_3 (a b c : D) (s : Sto) : sized [a, b, c] s = .ok (.lst [a, b, c]) s := sized_ok' (size_small (by simp))
theorem szT_3 (a b c : D) (s : Sto) : sizedT [a, b, c] s = .ok (.tup [a, b, c]) s := sizedT_ok' (size_small (by simp))
theorem sz_4 (a b c d : D) (s : Sto) : sized [a, b, c, d] s = .ok (.lst [a, b, c, d]) s := sized_ok' (size_small (by simp))
theorem szT_4 (a b c d : D) (s : Sto) : sizedT [a, b, c, d] s = .ok (.tup [a, b, c, d]) s := sizedT_ok' (size_small (by simp))
theorem sz_5 (a b c d e : D) (s : Sto) : sized [a, b, c, d, e] s = .ok (.lst [a, b, c, d, e]) s := sized_ok' (size_small (by simp))
theorem szT_5 (a b c d e : D) (s : Sto) : sizedT [a, b, c, d, e] s = .ok (.tup [a, b, c, d, e]) s := sizedT_ok' (size_small (by simp))
theorem sz_6 (a b c d e f : D) (s : Sto) : sized [a, b, c, d, e, f] s = .ok (.lst [a, b, c, d, e, f]) s := sized_ok' (size_small (by simp))
theorem szT_6 (a b c d e f : D) (s : Sto) : sizedT [a, b, c, d, e, f] s = .ok (.tup [a, b, c, d, e, f]) s := sizedT_ok' (size_small (by simp))
/-! ### comprehensions -/
theorem turns_map {α : Type} {f : D → Sto → R (Option D)} (c : α → D) (g : α → D) : ∀ {xs : List α}, (∀ x ∈ xs, f (c x) st = .ok (some (g x)) st) → turns f (xs.map c) st = .ok (xs.map g) st
  | [], _ => rfl
  | x :: xs, h => by
    show (f (c x) st).bind _ = _
    rw [h x List.mem_cons_self, bind_ok, turns_map c g fun y hy => h y (List.mem_cons_of_mem _ hy)] <;> rfl
theorem turns_filter {α : Type} {f : D → Sto → R (Option D)} (c : α → D) (p : α → Bool) (g : α → D) : ∀ {xs : List α}, (∀ x ∈ xs, f (c x) st = .ok (if p x then some (g x) else none) st) → turns f (xs.map c) st = .ok ((xs.filter p).map g) st
  | [], _ => rfl
  | x :: xs, h => by
    show (f (c x) st).bind _ = _
    rw [h x List.mem_cons_self, bind_ok, turns_filter c p g fun y hy => h y (List.mem_cons_of_mem _ hy)]
    cases e : p x with
    | true => rw [List.filter_cons_of_pos e] <;> rfl
    | false => rw [List.filter_cons_of_neg (by rw [e]; exact Bool.false_ne_true)] <;> rfl
/-- turns that change the store -/
theorem turns_any {f : D → Sto → R (Option D)} (I : Nat → Sto → Prop) (Q : D → Prop) : ∀ (xs : List D) (i : Nat) (st : Sto), I i st → (∀ x ∈ xs, ∀ i st, I i st → ∃ y st1, f x st = .ok (some y) st1 ∧ Q y ∧ I (i + 1) st1) →
    ∃ ys st1, turns f xs st = .ok ys st1 ∧ ys.length = xs.length ∧ (∀ y ∈ ys, Q y) ∧ I (i + xs.length) st1
  | [], i, st, h, _ => ⟨[], st, rfl, rfl, by simp, h⟩
  | x :: xs, i, st, h, k => by
    obtain ⟨y, st1, e, q, h1⟩ := k x List.mem_cons_self i st h
    obtain ⟨ys, st2, e2, l, q2, h2⟩ := turns_any I Q xs (i + 1) st1 h1 fun z hz => k z (List.mem_cons_of_mem _ hz)
    refine ⟨y :: ys, st2, ?_, by rw [List.length_cons, List.length_cons, l], fun z hz => ?_, ?_⟩
    · show (f x st).bind _ = _
      rw [e, bind_ok, e2] <;> rfl
    · rcases List.mem_cons.mp hz with rfl | hz
      · exact q
      · exact q2 z hz
    · rw [List.length_cons, show i + (xs.length + 1) = i + 1 + xs.length by omega]
      exact h2
/-! ### loops -/
theorem loopF_nil {set : D → Env → Option Env} {body : Env → Sto → RS} : loopF set body [] env st = .ok (.nx, env) st := rfl
theorem loopF_step {set : D → Env → Option Env} {body : Env → Sto → RS} {d : D} {r : List D} {env2 : Env} (h : set d env = some env1) (e : body env1 st = .ok (.nx, env2) st1) : loopF set body (d :: r) env st = loopF set body r env2 st1 := by
  show (match set d env with
    | none => _
    | some env1 => (body env1 st).bind _) = _
  rw [h]
  show (body env1 st).bind _ = _
  rw [e]
theorem loopW_step {test : Env → Sto → R Bool} {body : Env → Sto → RS} {m : Nat} {s1 : Sto} {env2 : Env} {st2 : Sto} (h : test env st = .ok true s1) (e : body env s1 = .ok (.nx, env2) st2) : loopW test body (m + 1) env st = loopW test body m env2 st2 := by
  show lift (test env st) env _ = _
  rw [h]
  show (body env s1).bind _ = _
  rw [e]
theorem loopW_done {test : Env → Sto → R Bool} {body : Env → Sto → RS} {m : Nat} {s1 : Sto} (h : test env st = .ok false s1) : loopW test body (m + 1) env st = .ok (.nx, env) s1 := by
  show lift (test env st) env _ = _
  rw [h] <;> rfl
theorem loopF_inv {set : D → Env → Option Env} {body : Env → Sto → RS} (I : Nat → Env → Sto → Prop) : ∀ (xs : List D) (i : Nat) (env : Env) (st : Sto), I i env st →
    (∀ (j : Nat) (d : D) (env : Env) (st : Sto), xs[j]? = some d → I (i + j) env st → ∃ env1 env2 st1, set d env = some env1 ∧ body env1 st = .ok (.nx, env2) st1 ∧ I (i + j + 1) env2 st1) →
    ∃ env' st', loopF set body xs env st = .ok (.nx, env') st' ∧ I (i + xs.length) env' st'
  | [], i, env, st, h, _ => ⟨env, st, rfl, h⟩
  | d :: r, i, env, st, h, k => by
    obtain ⟨env1, env2, st1, e1, e2, h1⟩ := k 0 d env st rfl h
    obtain ⟨env', st', e3, h2⟩ := loopF_inv I r (i + 1) env2 st1 (by simpa using h1) fun j d' en s hj hI => by
      have := k (j + 1) d' en s (by simpa using hj) (by rw [show i + (j + 1) = i + 1 + j by omega]; exact hI)
      rw [show i + (j + 1) + 1 = i + 1 + j + 1 by omega] at this
      exact this
    refine ⟨env', st', (loopF_step e1 e2).trans e3, ?_⟩
    rw [List.length_cons, show i + (r.length + 1) = i + 1 + r.length by omega]
    exact h2
end
/-! ### data -/
/-- all flat and of no great depth -/
def plD : D → Bool
  | .non => true | .bl _ => true | .int _ => true | .str x => PyData.canLay0 (.str x)
  | _ => false
theorem plD_ok {d : D} (h : plD d = true) : PyData.canLay0 (toPy d) = true ∧ PyData.depth (toPy d) = 0 := by
  cases d <;> first | (cases h; done) | (exact ⟨h, rfl⟩) | exact ⟨rfl, rfl⟩
theorem all_map {α : Type} (g : α → D) : ∀ xs : List α, toPy.all (xs.map g) = xs.map fun x => toPy (g x)
  | [] => rfl
  | x :: r => by
    show toPy (g x) :: toPy.all (r.map g) = _
    rw [all_map g r] <;> rfl
theorem lay_ints : ∀ ns : List Int, PyData.canLayAll0 (toPy.all (ns.map D.int)) = true
  | [] => rfl
  | n :: r => by
    show (PyData.canLay0 (.int n) && PyData.canLayAll0 (toPy.all (r.map D.int))) = true
    rw [lay_ints r] <;> rfl
theorem dep_ints : ∀ ns : List Int, PyData.depthAll (toPy.all (ns.map D.int)) = 0
  | [] => rfl
  | n :: r => by
    show max (PyData.depth (.int n)) (PyData.depthAll (toPy.all (r.map D.int))) = 0
    rw [dep_ints r] <;> rfl
theorem eqv_ints : ∀ a b : List Int, PyData.eqvAll (toPy.all (a.map D.int)) (toPy.all (b.map D.int)) = decide (a = b)
  | [], [] => rfl
  | [], _ :: _ => rfl
  | _ :: _, [] => rfl
  | x :: a, y :: b => by
    show (x == y && PyData.eqvAll (toPy.all (a.map D.int)) (toPy.all (b.map D.int))) = _
    rw [eqv_ints a b]
    by_cases h : x = y
    · subst h
      simp
    · simp [h]
theorem okD_ints (ns : List Int) : okD (.tup (ns.map D.int)) = true := by
  show (PyData.canLayAll0 (toPy.all (ns.map D.int)) && decide (PyData.depthAll (toPy.all (ns.map D.int)) + 1 ≤ 64)) = true
  rw [lay_ints, dep_ints] <;> rfl
theorem okL_ints (ns : List Int) : okD (.lst (ns.map D.int)) = true := by
  show (PyData.canLayAll0 (toPy.all (ns.map D.int)) && decide (PyData.depthAll (toPy.all (ns.map D.int)) + 1 ≤ 64)) = true
  rw [lay_ints, dep_ints] <;> rfl
theorem eqD_int (i j : Int) : eqD (.int i) (.int j) = some (decide (i = j)) := by
  show some (i == j) = _
  rw [show (i == j) = decide (i = j) from rfl]
theorem eqD_ints (a b : List Int) : eqD (.tup (a.map D.int)) (.tup (b.map D.int)) = some (decide (a = b)) := by
  show (match okD (.tup (a.map D.int)) && okD (.tup (b.map D.int)) with
    | true => some (PyData.eqvAll (toPy.all (a.map D.int)) (toPy.all (b.map D.int)))
    | false => none) = _
  rw [okD_ints, okD_ints, eqv_ints] <;> rfl
theorem eqL_ints (a b : List Int) : eqD (.lst (a.map D.int)) (.lst (b.map D.int)) = some (decide (a = b)) := by
  show (match okD (.lst (a.map D.int)) && okD (.lst (b.map D.int)) with
    | true => some (PyData.eqvAll (toPy.all (a.map D.int)) (toPy.all (b.map D.int)))
    | false => none) = _
  rw [okL_ints, okL_ints, eqv_ints] <;> rfl
theorem range_int (lo hi : Int) (h1 : -(2 ^ 62) ≤ lo) (h2 : lo < 2 ^ 62) (h3 : -(2 ^ 62) ≤ hi) (h4 : hi < 2 ^ 62) : rangeD lo hi = some ((List.range (hi - lo).toNat).map fun (i : Nat) => .int (lo + i)) := by
  unfold rangeD
  rw [decide_eq_true h1, decide_eq_true h2, decide_eq_true h3, decide_eq_true h4] <;> rfl

theorem at3_0 (a b c : D) : atI [a, b, c] 0 = some a := rfl
theorem at3_1 (a b c : D) : atI [a, b, c] 1 = some b := rfl
theorem at3_2 (a b c : D) : atI [a, b, c] 2 = some c := rfl
theorem refR_yes {c : Nat} {d : D} {s : Sto} (h : reprB d = true) : refR c d (.exc ⟨c, d⟩ s) = .ok (.bl true) s := by
  have e : bfop .repr [d] = some (.str (toPy d).shown) := by
    show (match reprB d with
      | true => some (D.str (toPy d).shown)
      | false => none) = _
    rw [h]
  show (match decide (c = c) with
    | true => R.of ((bfop .repr [d]).bind fun a => (bfop .repr [d]).bind fun b => (cmpop .eq a b).map D.bl) s
    | false => _) = _
  rw [decide_eq_true rfl, e]
  show R.of (some (D.bl ((toPy d).shown == (toPy d).shown))) s = _
  rw [beq_self_eq_true] <;> rfl
theorem sget_ne {env : Env} {i j : Nat} {x : Sl} (h : i ≠ j) : sget (env.set i x) j = sget env j := by
  rw [sget_set, if_neg fun z => h z.1]
theorem sget_eq {env : Env} {i : Nat} {x : Sl} (h : i < env.length) : sget (env.set i x) i = x := by
  rw [sget_set, if_pos ⟨rfl, h⟩]
/-- a loop whose turns change nothing but the target's slot -/
theorem loop_same {i : Nat} {body : Env → Sto → RS} {ev : Sl → Env} {st : Sto} (hE : ∀ z d, (ev z).set i (.val d) = ev (.val d)) : ∀ {ds : List D}, (∀ d ∈ ds, body (ev (.val d)) st = .ok (.nx, ev (.val d)) st) → ∀ z, ∃ z', loopF (tgSet (.one i)) body ds (ev z) st = .ok (.nx, ev z') st
  | [], _, z => ⟨z, rfl⟩
  | d :: ds, h, z => by
    obtain ⟨z', e⟩ := loop_same hE (ds := ds) (fun x hx => h x (List.mem_cons_of_mem _ hx)) (.val d)
    refine ⟨z', ?_⟩
    rw [← e]
    exact loopF_step (by rw [t_one, hE]) (h d List.mem_cons_self)
theorem forr_same {i : Nat} {b : Ss} {it : IE} {call : Nat → List D → Sto → R D} {L : Nat} {ev : Sl → Env} {st : Sto} {ds : List D} {z : Sl} (hi : evI call it (ev z) st = .ok ds st) (hE : ∀ z d, (ev z).set i (.val d) = ev (.val d)) (h : ∀ d ∈ ds, evSs call L b (ev (.val d)) st = .ok (.nx, ev (.val d)) st) :
    ∃ z', evS call L (.forr (.one i) it b) (ev z) st = .ok (.nx, ev z') st := by
  obtain ⟨z', e⟩ := loop_same (body := fun env s => evSs call L b env s) hE h z
  refine ⟨z', ?_⟩
  show lift (evI call it (ev z) st) (ev z) _ = _
  rw [hi, lift_ok]
  exact e
theorem ints_ex : ∀ {ys : List D} {p : Int → Prop}, (∀ y ∈ ys, ∃ x, y = .int x ∧ p x) → ∃ xs : List Int, ys = xs.map .int ∧ ∀ x ∈ xs, p x
  | [], _, _ => ⟨[], rfl, by simp⟩
  | y :: ys, p, h => by
    obtain ⟨x, rfl, hx⟩ := h y List.mem_cons_self
    obtain ⟨xs, rfl, hxs⟩ := ints_ex (ys := ys) fun z hz => h z (List.mem_cons_of_mem _ hz)
    refine ⟨x :: xs, rfl, fun z hz => ?_⟩
    rcases List.mem_cons.mp hz with rfl | hz
    · exact hx
    · exact hxs z hz
theorem turns_nil {f : D → Sto → R (Option D)} {st : Sto} : turns f [] st = .ok [] st := rfl
theorem turns_cons {f : D → Sto → R (Option D)} {st st1 : Sto} {d y : D} {r : List D} (h : f d st = .ok (some y) st1) : turns f (d :: r) st = (turns f r st1).bind fun ys s2 => .ok (y :: ys) s2 := by
  show (f d st).bind _ = _
  rw [h]
theorem eqD_refl {d : D} (h : okD d = true) (e : PyData.eqv (toPy d) (toPy d) = true) : eqD d d = some true := by
  cases hs : scalD d d with
  | true =>
    show (match scalD d d with
      | true => some (deq d d)
      | false => _) = _
    rw [hs]
    exact congrArg some e
  | false =>
    show (match scalD d d with
      | true => some (deq d d)
      | false => match okD d && okD d with
        | true => some (deq d d)
        | false => none) = _
    rw [hs, h]
    exact congrArg some e
theorem eqD_bl (a b : Bool) : eqD (.bl a) (.bl b) = some (a == b) := rfl
theorem repr_big (d : D) (h1 : PyData.layable0 (toPy d) = true) (h2 : (toPy d).intsShort 13 = true) (h3 : PyData.showable (toPy d) = true) (h4 : (toPy d).depth ≤ 60) : reprB d = true := by
  have a := PyProof.Rows.shown_le13 h1 h2
  have b : PyData.canLay0 (toPy d) = true := (Bool.and_eq_true_iff.mp (Bool.and_eq_true_iff.mp h1).1).1
  unfold reprB
  rw [b, h3, decide_eq_true (Nat.le_trans a (size_small (by decide))), decide_eq_true h4] <;> rfl
end Eng
end

section
set_option maxHeartbeats 0
namespace K
open PySem PySem.Spec PyProof.Rows L2 Eng
def top (i : Nat) : Stmt := PySem.Challenge.pw_keptpoints_k26_whole_seasons.main.body.getD i (.Pass ⟨0, 0, 0, 0⟩)
def b_is_whole : Ss := (.cons (.ret (.and (.isI (.v 0) .int) (.not (.isI (.v 0) .bool)))) .nil)
def r_is_whole : Rw := ⟨"is_whole", 5, ["thing"], ["thing"], b_is_whole⟩
def b_is_from : Ss := (.cons (.ret (.and (.call 0 (.cons (.v 0) .nil)) (.chain .le .le (.v 1) (.v 0) (.v 2)))) .nil)
def r_is_from : Rw := ⟨"is_from", 6, ["thing", "least", "most"], ["thing", "least", "most"], b_is_from⟩
def b_is_number : Ss := (.cons (.ret (.call 1 (.cons (.v 0) (.cons (.neg (.g "MOST_NUMBER" (.int (1000000000000)))) (.cons (.g "MOST_NUMBER" (.int (1000000000000))) .nil))))) .nil)
def r_is_number : Rw := ⟨"is_number", 7, ["thing"], ["thing"], b_is_number⟩
def s_lean_0 : S := (.ife (.cmp .lt (.v 1) (.k (.int (0)))) (.cons (.par2 0 false (.neg (.v 0)) 1 false (.neg (.v 1))) .nil) .nil)
def s_lean_1 : S := (.par2 2 false (.bf .abs (.cons (.v 0) .nil)) 3 false (.v 1))
def f_lean_0 : Ss := (.cons (.par2 2 false (.v 3) 3 false (.bin .sub (.v 2) (.bin .mul (.v 3) (.bin .fdiv (.v 2) (.v 3))))) .nil)
def s_lean_2 : S := (.whl (.cmp .gt (.v 3) (.k (.int (0)))) f_lean_0)
def s_lean_3 : S := (.ret (.tup (.cons (.bin .fdiv (.v 0) (.v 2)) (.cons (.bin .fdiv (.v 1) (.v 2)) .nil))))
def b_lean : Ss := (.cons s_lean_0 (.cons s_lean_1 (.cons s_lean_2 (.cons s_lean_3 .nil))))
def r_lean : Rw := ⟨"lean", 8, ["top", "below"], ["top", "below", "one", "other"], b_lean⟩
def x_check_numbers_0 : E := (.lc (.call 2 (.cons (.v 1) .nil)) (.one 1) (.seq (.v 0)) .nil [1])
theorem x_check_numbers_0_rd (env : Eng.Env) (s : Sto) (r : R D) : rdB x_check_numbers_0 env s r = r := rfl
def b_check_numbers : Ss := (.cons (.ife (.or (.not (.isI (.v 0) .tuple)) (.or (.cmp .gt (.bf .len (.cons (.v 0) .nil)) (.k (.int (1000)))) (.not (.bf .all (.cons x_check_numbers_0 .nil))))) (.cons (.raise 0 (.v 0)) .nil) .nil) .nil)
def r_check_numbers : Rw := ⟨"check_numbers", 10, ["row"], ["row", "one"], b_check_numbers⟩
def s_is_period_0 : S := (.expr (.call 4 (.cons (.v 0) .nil)))
def s_is_period_1 : S := (.ife (.or (.not (.call 0 (.cons (.v 1) .nil))) (.cmp .lt (.v 1) (.k (.int (1))))) (.cons (.raise 0 (.v 1)) .nil) .nil)
def x_is_period_0 : E := (.lc (.cmp .eq (.ix (.v 0) (.v 2)) (.ix (.v 0) (.bin .sub (.v 2) (.v 1)))) (.one 2) (.rng2 (.v 1) (.bf .len (.cons (.v 0) .nil))) .nil [2])
theorem x_is_period_0_rd (env : Eng.Env) (s : Sto) (r : R D) : rdB x_is_period_0 env s r = r := rfl
def s_is_period_2 : S := (.ret (.bf .all (.cons x_is_period_0 .nil)))
def b_is_period : Ss := (.cons s_is_period_0 (.cons s_is_period_1 (.cons s_is_period_2 .nil)))
def r_is_period : Rw := ⟨"is_period", 12, ["row", "period"], ["row", "period", "at"], b_is_period⟩
def s_least_period_0 : S := (.expr (.call 4 (.cons (.v 0) .nil)))
def s_least_period_1 : S := (.ife (.cmp .eq (.v 0) (.tup .nil)) (.cons (.raise 0 (.v 0)) .nil) .nil)
def s_least_period_2 : S := (.asg false 1 (.call 7 (.cons (.v 0) .nil)))
def s_least_period_3 : S := (.ret (.bin .sub (.bf .len (.cons (.v 0) .nil)) (.ix (.v 1) (.neg (.k (.int (1)))))))
def b_least_period : Ss := (.cons s_least_period_0 (.cons s_least_period_1 (.cons s_least_period_2 (.cons s_least_period_3 .nil))))
def r_least_period : Rw := ⟨"least_period", 13, ["row"], ["row", "borders"], b_least_period⟩
def s_borders_of_0 : S := (.par2 1 true (.lst (.cons (.k (.int (0))) .nil)) 2 false (.k (.int (0))))
def f_borders_of_0 : Ss := (.cons (.asg false 2 (.ix (.v 1) (.bin .sub (.v 2) (.k (.int (1)))))) .nil)
def f_borders_of_1 : Ss := (.cons (.whl (.and (.cmp .gt (.v 2) (.k (.int (0)))) (.cmp .ne (.ix (.v 0) (.v 3)) (.ix (.v 0) (.v 2)))) f_borders_of_0) (.cons (.aug 2 .add (.ite (.cmp .eq (.ix (.v 0) (.v 3)) (.ix (.v 0) (.v 2))) (.k (.int (1))) (.k (.int (0))))) (.cons (.app 1 (.v 2)) .nil)))
def s_borders_of_1 : S := (.forr (.one 3) (.rng2 (.k (.int (1))) (.bf .len (.cons (.v 0) .nil))) f_borders_of_1)
def s_borders_of_2 : S := (.fz [1] (.ret (.v 1)))
def b_borders_of : Ss := (.cons s_borders_of_0 (.cons s_borders_of_1 (.cons s_borders_of_2 .nil)))
def r_borders_of : Rw := ⟨"borders_of", 14, ["row"], ["row", "found", "length", "at"], b_borders_of⟩
def s_misses_of_0 : S := (.expr (.call 4 (.cons (.v 0) .nil)))
def s_misses_of_1 : S := (.ife (.not (.call 1 (.cons (.v 1) (.cons (.k (.int (1))) (.cons (.bf .max (.cons (.lst (.cons (.k (.int (1))) (.cons (.bf .len (.cons (.v 0) .nil)) .nil))) .nil)) .nil))))) (.cons (.raise 0 (.v 1)) .nil) .nil)
def s_misses_of_2 : S := (.asg false 2 (.k (.int (0))))
def x_misses_of_0 : E := (.lc (.cnt (.v 4) (.v 5)) (.one 5) (.seq (.v 4)) .nil [5])
theorem x_misses_of_0_rd (env : Eng.Env) (s : Sto) (r : R D) : rdB x_misses_of_0 env s r = r := rfl
def f_misses_of_0 : Ss := (.cons (.asg false 4 (.bf .list (.cons (.stp (.v 0) (.v 3) (.v 1)) .nil))) (.cons (.aug 2 .add (.bin .sub (.bf .len (.cons (.v 4) .nil)) (.bf .max (.cons x_misses_of_0 .nil)))) .nil))
def s_misses_of_3 : S := (.forr (.one 3) (.rng1 (.bf .min (.cons (.lst (.cons (.v 1) (.cons (.bf .len (.cons (.v 0) .nil)) .nil))) .nil))) f_misses_of_0)
def s_misses_of_4 : S := (.ret (.v 2))
def b_misses_of : Ss := (.cons s_misses_of_0 (.cons s_misses_of_1 (.cons s_misses_of_2 (.cons s_misses_of_3 (.cons s_misses_of_4 .nil)))))
def r_misses_of : Rw := ⟨"misses_of", 15, ["row", "period"], ["row", "period", "total", "phase", "some", "one"], b_misses_of⟩
def s_nearest_season_0 : S := (.expr (.call 4 (.cons (.v 0) .nil)))
def s_nearest_season_1 : S := (.ife (.or (.cmp .eq (.v 0) (.tup .nil)) (.not (.call 1 (.cons (.v 1) (.cons (.k (.int (1))) (.cons (.bf .len (.cons (.v 0) .nil)) .nil)))))) (.cons (.raise 0 (.v 1)) .nil) .nil)
def s_nearest_season_2 : S := (.asg true 2 (.lst .nil))
def x_nearest_season_0 : E := (.lc (.tup (.cons (.neg (.cnt (.v 4) (.v 5))) (.cons (.v 5) .nil))) (.one 5) (.seq (.v 4)) .nil [5])
theorem x_nearest_season_0_rd (env : Eng.Env) (s : Sto) (r : R D) : rdB x_nearest_season_0 env s r = r := rfl
def f_nearest_season_0 : Ss := (.cons (.asg false 4 (.bf .list (.cons (.stp (.v 0) (.v 3) (.v 1)) .nil))) (.cons (.app 2 (.ix (.bf .min (.cons x_nearest_season_0 .nil)) (.k (.int (1))))) .nil))
def s_nearest_season_3 : S := (.forr (.one 3) (.rng1 (.v 1)) f_nearest_season_0)
def s_nearest_season_4 : S := (.ret (.bf .tuple (.cons (.v 2) .nil)))
def b_nearest_season : Ss := (.cons s_nearest_season_0 (.cons s_nearest_season_1 (.cons s_nearest_season_2 (.cons s_nearest_season_3 (.cons s_nearest_season_4 .nil)))))
def r_nearest_season : Rw := ⟨"nearest_season", 16, ["row", "period"], ["row", "period", "found", "phase", "some", "one"], b_nearest_season⟩
def s_best_period_0 : S := (.expr (.call 4 (.cons (.v 0) .nil)))
def s_best_period_1 : S := (.ife (.cmp .eq (.v 0) (.tup .nil)) (.cons (.raise 0 (.v 0)) .nil) .nil)
def s_best_period_2 : S := (.ife (.not (.call 1 (.cons (.v 1) (.cons (.k (.int (1))) (.cons (.bf .len (.cons (.v 0) .nil)) .nil))))) (.cons (.raise 0 (.v 1)) .nil) .nil)
def x_best_period_0 : E := (.lc (.tup (.cons (.call 8 (.cons (.v 0) (.cons (.v 2) .nil))) (.cons (.v 2) .nil))) (.one 2) (.rng2 (.k (.int (1))) (.bin .add (.v 1) (.k (.int (1))))) .nil [2])
theorem x_best_period_0_rd (env : Eng.Env) (s : Sto) (r : R D) : rdB x_best_period_0 env s r = r := rfl
def s_best_period_3 : S := (.ret (.bf .min (.cons x_best_period_0 .nil)))
def b_best_period : Ss := (.cons s_best_period_0 (.cons s_best_period_1 (.cons s_best_period_2 (.cons s_best_period_3 .nil))))
def r_best_period : Rw := ⟨"best_period", 17, ["row", "most"], ["row", "most", "period"], b_best_period⟩
def s_means_of_0 : S := (.expr (.call 4 (.cons (.v 0) .nil)))
def s_means_of_1 : S := (.ife (.or (.cmp .eq (.v 0) (.tup .nil)) (.not (.call 1 (.cons (.v 1) (.cons (.k (.int (1))) (.cons (.bf .len (.cons (.v 0) .nil)) .nil)))))) (.cons (.raise 0 (.v 1)) .nil) .nil)
def x_means_of_0 : E := (.lc (.call 3 (.cons (.bf .sum (.cons (.stp (.v 0) (.v 2) (.v 1)) .nil)) (.cons (.bf .len (.cons (.stp (.v 0) (.v 2) (.v 1)) .nil)) .nil))) (.one 2) (.rng1 (.v 1)) .nil [2])
theorem x_means_of_0_rd (env : Eng.Env) (s : Sto) (r : R D) : rdB x_means_of_0 env s r = r := rfl
def s_means_of_2 : S := (.ret (.bf .tuple (.cons x_means_of_0 .nil)))
def b_means_of : Ss := (.cons s_means_of_0 (.cons s_means_of_1 (.cons s_means_of_2 .nil)))
def r_means_of : Rw := ⟨"means_of", 18, ["row", "period"], ["row", "period", "phase"], b_means_of⟩
def s_rest_of_0 : S := (.asg false 2 (.call 11 (.cons (.v 0) (.cons (.v 1) .nil))))
def s_rest_of_1 : S := (.asg true 3 (.lst .nil))
def f_rest_of_0 : Ss := (.cons (.unp [6, 7] (.ix (.v 2) (.bin .sub (.v 4) (.bin .mul (.v 1) (.bin .fdiv (.v 4) (.v 1)))))) (.cons (.app 3 (.call 3 (.cons (.bin .sub (.bin .mul (.v 5) (.v 7)) (.v 6)) (.cons (.v 7) .nil)))) .nil))
def s_rest_of_2 : S := (.forr (.many [4, 5]) (.enum (.v 0)) f_rest_of_0)
def s_rest_of_3 : S := (.ret (.bf .tuple (.cons (.v 3) .nil)))
def b_rest_of : Ss := (.cons s_rest_of_0 (.cons s_rest_of_1 (.cons s_rest_of_2 (.cons s_rest_of_3 .nil))))
def r_rest_of : Rw := ⟨"rest_of", 19, ["row", "period"], ["row", "period", "means", "found", "at", "number", "top", "below"], b_rest_of⟩
def s_standing_out_0 : S := (.expr (.call 4 (.cons (.v 0) .nil)))
def s_standing_out_1 : S := (.ife (.not (.call 1 (.cons (.v 1) (.cons (.k (.int (0))) (.cons (.k (.int (1000))) .nil))))) (.cons (.raise 0 (.v 1)) .nil) .nil)
def s_standing_out_2 : S := (.ife (.not (.call 1 (.cons (.v 2) (.cons (.k (.int (0))) (.cons (.bin .pow (.k (.int (10))) (.k (.int (12)))) .nil))))) (.cons (.raise 0 (.v 2)) .nil) .nil)
def s_standing_out_3 : S := (.asg true 3 (.lst .nil))
def f_standing_out_0 : Ss := (.cons (.asg false 6 (.bf .sorted (.cons (.sl (.v 0) (.cons (.bf .max (.cons (.lst (.cons (.k (.int (0))) (.cons (.bin .sub (.v 4) (.v 1)) .nil))) .nil)) .nil) (.cons (.bin .add (.bin .add (.v 4) (.v 1)) (.k (.int (1)))) .nil)) .nil))) (.cons (.ife (.cmp .gt (.bf .abs (.cons (.bin .sub (.v 5) (.ix (.v 6) (.bin .fdiv (.bin .sub (.bf .len (.cons (.v 6) .nil)) (.k (.int (1)))) (.k (.int (2)))))) .nil)) (.v 2)) (.cons (.app 3 (.v 4)) .nil) .nil) .nil))
def s_standing_out_4 : S := (.forr (.many [4, 5]) (.enum (.v 0)) f_standing_out_0)
def s_standing_out_5 : S := (.ret (.bf .tuple (.cons (.v 3) .nil)))
def b_standing_out : Ss := (.cons s_standing_out_0 (.cons s_standing_out_1 (.cons s_standing_out_2 (.cons s_standing_out_3 (.cons s_standing_out_4 (.cons s_standing_out_5 .nil))))))
def r_standing_out : Rw := ⟨"standing_out", 20, ["row", "width", "bound"], ["row", "width", "bound", "found", "at", "number", "some"], b_standing_out⟩
def s_first_again_0 : S := (.expr (.call 4 (.cons (.v 0) .nil)))
def s_first_again_1 : S := (.ife (.or (.not (.isI (.v 1) .tuple)) (.cmp .eq (.v 1) (.tup .nil))) (.cons (.raise 0 (.v 1)) .nil) .nil)
def x_first_again_0 : E := (.lc (.v 2) (.one 2) (.rng1 (.bin .add (.bin .sub (.bf .len (.cons (.v 0) .nil)) (.bf .len (.cons (.v 1) .nil))) (.k (.int (1))))) (.cons (.cmp .eq (.sl (.v 0) (.cons (.v 2) .nil) (.cons (.bin .add (.v 2) (.bf .len (.cons (.v 1) .nil))) .nil)) (.v 1)) .nil) [2])
theorem x_first_again_0_rd (env : Eng.Env) (s : Sto) (r : R D) : rdB x_first_again_0 env s r = r := rfl
def s_first_again_2 : S := (.ret (.bf .tuple (.cons x_first_again_0 .nil)))
def b_first_again : Ss := (.cons s_first_again_0 (.cons s_first_again_1 (.cons s_first_again_2 .nil)))
def r_first_again : Rw := ⟨"first_again", 21, ["row", "part"], ["row", "part", "at"], b_first_again⟩
def s_longest_again_0 : S := (.expr (.call 4 (.cons (.v 0) .nil)))
def s_longest_again_1 : S := (.ife (.cmp .gt (.bf .len (.cons (.v 0) .nil)) (.k (.int (200)))) (.cons (.raise 0 (.v 0)) .nil) .nil)
def s_longest_again_2 : S := (.asg false 1 (.tup (.cons (.k (.int (0))) (.cons (.k (.int (0))) (.cons (.k (.int (0))) .nil)))))
def f_longest_again_0 : Ss := (.cons (.aug 4 .add (.k (.int (1)))) .nil)
def f_longest_again_1 : Ss := (.cons (.asg false 4 (.k (.int (0)))) (.cons (.whl (.and (.cmp .lt (.bin .add (.v 3) (.v 4)) (.bf .len (.cons (.v 0) .nil))) (.cmp .eq (.ix (.v 0) (.bin .add (.v 2) (.v 4))) (.ix (.v 0) (.bin .add (.v 3) (.v 4))))) f_longest_again_0) (.cons (.ife (.cmp .gt (.v 4) (.ix (.v 1) (.k (.int (0))))) (.cons (.asg false 1 (.tup (.cons (.v 4) (.cons (.v 2) (.cons (.v 3) .nil))))) .nil) .nil) .nil)))
def f_longest_again_2 : Ss := (.cons (.forr (.one 3) (.rng2 (.bin .add (.v 2) (.k (.int (1)))) (.bf .len (.cons (.v 0) .nil))) f_longest_again_1) .nil)
def s_longest_again_3 : S := (.forr (.one 2) (.rng1 (.bf .len (.cons (.v 0) .nil))) f_longest_again_2)
def s_longest_again_4 : S := (.ret (.v 1))
def b_longest_again : Ss := (.cons s_longest_again_0 (.cons s_longest_again_1 (.cons s_longest_again_2 (.cons s_longest_again_3 (.cons s_longest_again_4 .nil)))))
def r_longest_again : Rw := ⟨"longest_again", 22, ["row"], ["row", "best", "one", "other", "length"], b_longest_again⟩
def s__law_cell_at_0 : S := (.ife (.cmp .lt (.v 1) (.bf .len (.cons (.v 0) .nil))) (.cons (.ret (.ix (.v 0) (.v 1))) .nil) .nil)
def s__law_cell_at_1 : S := (.ret (.k (.int (0))))
def b__law_cell_at : Ss := (.cons s__law_cell_at_0 (.cons s__law_cell_at_1 .nil))
def r__law_cell_at : Rw := ⟨"_law_cell_at", 24, ["script", "k"], ["script", "k"], b__law_cell_at⟩
def s__law_draw_0 : S := (.asg false 3 (.tup (.cons (.k (.int (1000003))) (.cons (.k (.int (1000033))) (.cons (.k (.int (1000037))) (.cons (.k (.int (1000039))) (.cons (.k (.int (1000081))) (.cons (.k (.int (1000099))) (.cons (.k (.int (1000117))) (.cons (.k (.int (1000121))) (.cons (.k (.int (1000133))) (.cons (.k (.int (1000151))) (.cons (.k (.int (1000159))) (.cons (.k (.int (1000171))) (.cons (.k (.int (1000183))) (.cons (.k (.int (1000187))) (.cons (.k (.int (1000193))) (.cons (.k (.int (1000199))) .nil))))))))))))))))))
def s__law_draw_1 : S := (.ret (.bin .mod (.bin .mod (.bf .int (.cons (.bin .add (.bin .mul (.v 0) (.k (.int (48271)))) (.bin .mul (.v 1) (.k (.int (69621))))) .nil)) (.ix (.v 3) (.bin .mod (.bf .int (.cons (.v 1) .nil)) (.k (.int (16)))))) (.v 2)))
def b__law_draw : Ss := (.cons s__law_draw_0 (.cons s__law_draw_1 .nil))
def r__law_draw : Rw := ⟨"_law_draw", 25, ["cell", "k", "bound"], ["cell", "k", "bound", "primes"], b__law_draw⟩
def s__law_number_0 : S := (.asg false 3 (.k (.int (1))))
def f__law_number_0 : Ss := (.cons (.asg false 3 (.bin .mul (.v 3) (.k (.int (1009))))) .nil)
def s__law_number_1 : S := (.forr (.one 4) (.rng1 (.bin .mod (.bf .int (.cons (.v 1) .nil)) (.k (.int (24))))) f__law_number_0)
def s__law_number_2 : S := (.asg false 5 (.bin .fdiv (.bin .sub (.v 0) (.bin .pow (.k (.int (10))) (.k (.int (18))))) (.v 3)))
def s__law_number_3 : S := (.ife (.cmp .gt (.v 5) (.k (.int (0)))) (.cons (.ret (.bin .mod (.bin .mod (.bf .int (.cons (.v 5) .nil)) (.k (.int (1009)))) (.v 2))) .nil) .nil)
def s__law_number_4 : S := (.asg false 6 (.bin .mod (.bf .int (.cons (.v 0) .nil)) (.k (.int (1000003)))))
def s__law_number_5 : S := (.ret (.bin .mod (.call 17 (.cons (.bin .mul (.bin .add (.v 6) (.bin .mul (.k (.int (977))) (.v 1))) (.bin .add (.bin .add (.v 6) (.bin .mul (.k (.int (31))) (.v 1))) (.k (.int (5))))) (.cons (.bin .add (.bin .mod (.bf .int (.cons (.v 1) .nil)) (.k (.int (9)))) (.k (.int (1)))) (.cons (.k (.int (999983))) .nil)))) (.v 2)))
def b__law_number : Ss := (.cons s__law_number_0 (.cons s__law_number_1 (.cons s__law_number_2 (.cons s__law_number_3 (.cons s__law_number_4 (.cons s__law_number_5 .nil))))))
def r__law_number : Rw := ⟨"_law_number", 26, ["cell", "k", "bound"], ["cell", "k", "bound", "scale", "lap", "remains", "small"], b__law_number⟩
def s__law_next_0 : S := (.setr 0 (.k (.int (2))) (.bin .add (.ix (.v 0) (.k (.int (2)))) (.k (.int (1)))))
def s__law_next_1 : S := (.asg false 2 (.bin .fdiv (.ix (.v 0) (.k (.int (2)))) (.k (.int (12)))))
def s__law_next_2 : S := (.asg false 3 (.bin .add (.call 16 (.cons (.ix (.v 0) (.k (.int (0)))) (.cons (.bin .add (.ix (.v 0) (.k (.int (1)))) (.v 2)) .nil))) (.bin .mul (.k (.int (31))) (.v 2))))
def s__law_next_3 : S := (.ret (.call 18 (.cons (.v 3) (.cons (.bin .add (.bin .mod (.bf .int (.cons (.ix (.v 0) (.k (.int (2)))) .nil)) (.k (.int (12)))) (.k (.int (1)))) (.cons (.v 1) .nil)))))
def b__law_next : Ss := (.cons s__law_next_0 (.cons s__law_next_1 (.cons s__law_next_2 (.cons s__law_next_3 .nil))))
def r__law_next : Rw := ⟨"_law_next", 27, ["draw", "bound"], ["draw", "bound", "at", "cell"], b__law_next⟩
def b__law_refuses : Ss := (.cons (.tryx (.cons .nev (.cons (.ret (.k (.bl false))) .nil)) 0 2 (.ret (.eq (.repr .thing) (.repr (.v 1))))) .nil)
def r__law_refuses : Rw := ⟨"_law_refuses", 28, ["work", "due"], ["work", "due", "e"], b__law_refuses⟩
def s__law_misses_0 : S := (.asg false 2 (.k (.int (0))))
def x__law_misses_0 : E := (.lc (.ix (.v 0) (.v 5)) (.one 5) (.rng3 (.cons (.v 3) (.cons (.bf .len (.cons (.v 0) .nil)) (.cons (.v 1) .nil)))) .nil [5])
theorem x__law_misses_0_rd (env : Eng.Env) (s : Sto) (r : R D) : rdB x__law_misses_0 env s r = r := rfl
def x__law_misses_1 : E := (.lc (.cnt (.v 4) (.v 6)) (.one 6) (.seq (.v 4)) .nil [6])
theorem x__law_misses_1_rd (env : Eng.Env) (s : Sto) (r : R D) : rdB x__law_misses_1 env s r = r := rfl
def f__law_misses_0 : Ss := (.cons (.asg false 4 x__law_misses_0) (.cons (.asg false 2 (.bin .sub (.bin .add (.v 2) (.bf .len (.cons (.v 4) .nil))) (.bf .max (.cons (.bin .add x__law_misses_1 (.lst (.cons (.k (.int (0))) .nil))) .nil)))) .nil))
def s__law_misses_1 : S := (.forr (.one 3) (.rng1 (.v 1)) f__law_misses_0)
def s__law_misses_2 : S := (.ret (.v 2))
def b__law_misses : Ss := (.cons s__law_misses_0 (.cons s__law_misses_1 (.cons s__law_misses_2 .nil)))
def r__law_misses : Rw := ⟨"_law_misses", 29, ["row", "period"], ["row", "period", "total", "phase", "some", "at", "one"], b__law_misses⟩
def f__law_refused_right_0 : Ss := (.cons (.ife (.not (.refu 0 (.call 5 (.cons (.v 1) (.cons (.k (.non)) .nil))) (.v 1))) (.cons (.ret (.k (.bl false))) .nil) .nil) (.cons (.ife (.not (.refu 0 (.call 10 (.cons (.v 1) (.cons (.k (.non)) .nil))) (.v 1))) (.cons (.ret (.k (.bl false))) .nil) .nil) (.cons (.ife (.not (.refu 0 (.call 13 (.cons (.v 1) (.cons (.k (.non)) (.cons (.k (.non)) .nil)))) (.v 1))) (.cons (.ret (.k (.bl false))) .nil) .nil) .nil)))
def s__law_refused_right_0 : S := (.forr (.one 1) (.seq (.tup (.cons (.k (.non)) (.cons (.lst (.cons (.k (.int (1))) .nil)) (.cons (.tup (.cons (.k (.non)) .nil)) (.cons (.tup (.cons (.k (.bl true)) .nil)) .nil)))))) f__law_refused_right_0)
def s__law_refused_right_1 : S := (.ife (.not (.refu 0 (.call 6 (.cons (.tup .nil) .nil)) (.tup .nil))) (.cons (.ret (.k (.bl false))) .nil) .nil)
def s__law_refused_right_2 : S := (.ife (.not (.refu 0 (.call 10 (.cons (.tup .nil) (.cons (.k (.non)) .nil))) (.tup .nil))) (.cons (.ret (.k (.bl false))) .nil) .nil)
def f__law_refused_right_1 : Ss := (.cons (.ife (.not (.refu 0 (.call 5 (.cons (.v 0) (.cons (.v 1) .nil))) (.v 1))) (.cons (.ret (.k (.bl false))) .nil) .nil) .nil)
def s__law_refused_right_3 : S := (.forr (.one 1) (.seq (.tup (.cons (.k (.int (0))) (.cons (.neg (.k (.int (1)))) (.cons (.k (.non)) (.cons (.k (.bl true)) .nil)))))) f__law_refused_right_1)
def f__law_refused_right_2 : Ss := (.cons (.ife (.not (.refu 0 (.call 8 (.cons (.v 0) (.cons (.v 1) .nil))) (.v 1))) (.cons (.ret (.k (.bl false))) .nil) .nil) (.cons (.ife (.not (.refu 0 (.call 9 (.cons (.v 0) (.cons (.v 1) .nil))) (.v 1))) (.cons (.ret (.k (.bl false))) .nil) .nil) (.cons (.ife (.not (.refu 0 (.call 12 (.cons (.v 0) (.cons (.v 1) .nil))) (.v 1))) (.cons (.ret (.k (.bl false))) .nil) .nil) (.cons (.ife (.not (.refu 0 (.call 10 (.cons (.v 0) (.cons (.v 1) .nil))) (.v 1))) (.cons (.ret (.k (.bl false))) .nil) .nil) .nil))))
def s__law_refused_right_4 : S := (.forr (.one 1) (.seq (.tup (.cons (.k (.int (0))) (.cons (.bin .add (.bf .len (.cons (.v 0) .nil)) (.k (.int (1)))) (.cons (.k (.non)) .nil))))) f__law_refused_right_2)
def f__law_refused_right_3 : Ss := (.cons (.ife (.not (.refu 0 (.call 13 (.cons (.v 0) (.cons (.v 2) (.cons (.v 3) .nil)))) (.v 4))) (.cons (.ret (.k (.bl false))) .nil) .nil) .nil)
def s__law_refused_right_5 : S := (.forr (.many [2, 3, 4]) (.seq (.tup (.cons (.tup (.cons (.neg (.k (.int (1)))) (.cons (.k (.non)) (.cons (.neg (.k (.int (1)))) .nil)))) (.cons (.tup (.cons (.k (.int (1001))) (.cons (.k (.non)) (.cons (.k (.int (1001))) .nil)))) (.cons (.tup (.cons (.k (.non)) (.cons (.k (.int (0))) (.cons (.k (.non)) .nil)))) (.cons (.tup (.cons (.k (.int (0))) (.cons (.neg (.k (.int (1)))) (.cons (.neg (.k (.int (1)))) .nil)))) (.cons (.tup (.cons (.k (.int (0))) (.cons (.k (.non)) (.cons (.k (.non)) .nil)))) .nil))))))) f__law_refused_right_3)
def f__law_refused_right_4 : Ss := (.cons (.ife (.not (.refu 0 (.call 14 (.cons (.v 0) (.cons (.v 1) .nil))) (.v 1))) (.cons (.ret (.k (.bl false))) .nil) .nil) .nil)
def s__law_refused_right_6 : S := (.forr (.one 1) (.seq (.tup (.cons (.k (.non)) (.cons (.tup .nil) (.cons (.lst (.cons (.k (.int (1))) .nil)) .nil))))) f__law_refused_right_4)
def s__law_refused_right_7 : S := (.ret (.refu 0 (.call 15 (.cons (.bin .mul (.tup (.cons (.k (.int (0))) .nil)) (.k (.int (201)))) .nil)) (.bin .mul (.tup (.cons (.k (.int (0))) .nil)) (.k (.int (201))))))
def b__law_refused_right : Ss := (.cons s__law_refused_right_0 (.cons s__law_refused_right_1 (.cons s__law_refused_right_2 (.cons s__law_refused_right_3 (.cons s__law_refused_right_4 (.cons s__law_refused_right_5 (.cons s__law_refused_right_6 (.cons s__law_refused_right_7 .nil))))))))
def r__law_refused_right : Rw := ⟨"_law_refused_right", 30, ["row"], ["row", "bad", "width", "bound", "due"], b__law_refused_right⟩
def s_law_0 : S := (.newref 1 (.lst (.cons (.sl (.v 0) .nil (.cons (.k (.int (63))) .nil)) (.cons (.k (.int (0))) (.cons (.k (.int (0))) .nil)))))
def x_law_0 : E := (.lc (.call 19 (.cons (.v 1) (.cons (.k (.int (4))) .nil))) (.one 21) (.rng1 (.bin .add (.k (.int (1))) (.call 19 (.cons (.v 1) (.cons (.k (.int (4))) .nil))))) .nil [21])
theorem x_law_0_rd (env : Eng.Env) (s : Sto) (r : R D) : rdB x_law_0 env s r = r := rfl
def s_law_1 : S := (.asg false 2 x_law_0)
def x_law_1 : E := (.lc (.bin .add (.ix (.v 2) (.bin .sub (.v 10) (.bin .mul (.bf .len (.cons (.v 2) .nil)) (.bin .fdiv (.v 10) (.bf .len (.cons (.v 2) .nil)))))) (.ite (.cmp .eq (.call 19 (.cons (.v 1) (.cons (.k (.int (6))) .nil))) (.k (.int (0)))) (.k (.int (1))) (.k (.int (0))))) (.one 10) (.rng1 (.call 19 (.cons (.v 1) (.cons (.k (.int (14))) .nil)))) .nil [10])
theorem x_law_1_rd (env : Eng.Env) (s : Sto) (r : R D) : rdB x_law_1 env s r = r := rfl
def s_law_2 : S := (.asg false 3 (.bf .tuple (.cons x_law_1 .nil)))
def s_law_3 : S := (.ife (.cmp .eq (.v 3) (.tup .nil)) (.cons (.ret (.and (.call 5 (.cons (.tup .nil) (.cons (.k (.int (3))) .nil))) (.cmp .eq (.call 15 (.cons (.tup .nil) .nil)) (.tup (.cons (.k (.int (0))) (.cons (.k (.int (0))) (.cons (.k (.int (0))) .nil))))))) .nil) .nil)
def x_law_2 : E := (.lc (.cmp .eq (.ix (.v 3) (.v 10)) (.ix (.v 3) (.bin .sub (.v 10) (.v 6)))) (.one 10) (.rng2 (.v 6) (.bf .len (.cons (.v 3) .nil))) .nil [10])
theorem x_law_2_rd (env : Eng.Env) (s : Sto) (r : R D) : rdB x_law_2 env s r = r := rfl
def x_law_3 : E := (.lc (.v 6) (.one 6) (.rng2 (.k (.int (1))) (.bin .add (.bf .len (.cons (.v 3) .nil)) (.k (.int (1))))) (.cons (.bf .all (.cons x_law_2 .nil)) .nil) [6])
theorem x_law_3_rd (env : Eng.Env) (s : Sto) (r : R D) : rdB x_law_3 env s r = r := rfl
def s_law_4 : S := (.asg false 4 x_law_3)
def s_law_5 : S := (.ife (.cmp .ne (.call 6 (.cons (.v 3) .nil)) (.ix (.v 4) (.k (.int (0))))) (.cons (.ret (.k (.bl false))) .nil) .nil)
def s_law_6 : S := (.asg false 5 (.bin .add (.k (.int (1))) (.call 19 (.cons (.v 1) (.cons (.bf .len (.cons (.v 3) .nil)) .nil)))))
def x_law_4 : E := (.lc (.tup (.cons (.call 21 (.cons (.v 3) (.cons (.v 6) .nil))) (.cons (.v 6) .nil))) (.one 6) (.rng2 (.k (.int (1))) (.bin .add (.v 5) (.k (.int (1))))) .nil [6])
theorem x_law_4_rd (env : Eng.Env) (s : Sto) (r : R D) : rdB x_law_4 env s r = r := rfl
def s_law_7 : S := (.ife (.cmp .ne (.call 10 (.cons (.v 3) (.cons (.v 5) .nil))) (.bf .min (.cons x_law_4 .nil))) (.cons (.ret (.k (.bl false))) .nil) .nil)
def x_law_5 : E := (.lc (.ix (.v 3) (.v 10)) (.one 10) (.rng3 (.cons (.v 22) (.cons (.bf .len (.cons (.v 3) .nil)) (.cons (.v 6) .nil)))) .nil [10])
theorem x_law_5_rd (env : Eng.Env) (s : Sto) (r : R D) : rdB x_law_5 env s r = r := rfl
def x_law_6 : E := (.lc x_law_5 (.one 22) (.rng1 (.v 6)) .nil [22])
theorem x_law_6_rd (env : Eng.Env) (s : Sto) (r : R D) : rdB x_law_6 env s r = r := rfl
def x_law_7 : E := (.lc (.tup (.cons (.neg (.cnt (.v 12) (.v 18))) (.cons (.v 18) .nil))) (.one 18) (.seq (.v 12)) .nil [18])
theorem x_law_7_rd (env : Eng.Env) (s : Sto) (r : R D) : rdB x_law_7 env s r = r := rfl
def x_law_8 : E := (.lc (.ix (.bf .min (.cons x_law_7 .nil)) (.k (.int (1)))) (.one 12) (.seq (.v 7)) .nil [12])
theorem x_law_8_rd (env : Eng.Env) (s : Sto) (r : R D) : rdB x_law_8 env s r = r := rfl
def x_law_9 : E := (.lc (.call 3 (.cons (.bf .sum (.cons (.v 12) .nil)) (.cons (.bf .len (.cons (.v 12) .nil)) .nil))) (.one 12) (.seq (.v 7)) .nil [12])
theorem x_law_9_rd (env : Eng.Env) (s : Sto) (r : R D) : rdB x_law_9 env s r = r := rfl
def f_law_0 : Ss := (.cons (.asg false 12 (.ix (.v 7) (.bin .sub (.v 10) (.bin .mul (.v 6) (.bin .fdiv (.v 10) (.v 6)))))) (.cons (.app 9 (.call 3 (.cons (.bin .sub (.bin .mul (.v 11) (.bf .len (.cons (.v 12) .nil))) (.bf .sum (.cons (.v 12) .nil))) (.cons (.bf .len (.cons (.v 12) .nil)) .nil)))) .nil))
def f_law_1 : Ss := (.cons (.asg false 7 x_law_6) (.cons (.ife (.or (.cmp .ne (.call 5 (.cons (.v 3) (.cons (.v 6) .nil))) (.cmp .mem (.v 6) (.v 4))) (.or (.cmp .ne (.call 8 (.cons (.v 3) (.cons (.v 6) .nil))) (.call 21 (.cons (.v 3) (.cons (.v 6) .nil)))) (.cmp .ne (.cmp .eq (.call 8 (.cons (.v 3) (.cons (.v 6) .nil))) (.k (.int (0)))) (.cmp .mem (.v 6) (.v 4))))) (.cons (.ret (.k (.bl false))) .nil) .nil) (.cons (.ife (.cmp .ne (.call 9 (.cons (.v 3) (.cons (.v 6) .nil))) (.bf .tuple (.cons x_law_8 .nil))) (.cons (.ret (.k (.bl false))) .nil) .nil) (.cons (.asg false 8 x_law_9) (.cons (.asg true 9 (.lst .nil)) (.cons (.forr (.many [10, 11]) (.enum (.v 3)) f_law_0) (.cons (.ife (.or (.cmp .ne (.call 11 (.cons (.v 3) (.cons (.v 6) .nil))) (.bf .tuple (.cons (.v 8) .nil))) (.cmp .ne (.call 12 (.cons (.v 3) (.cons (.v 6) .nil))) (.bf .tuple (.cons (.v 9) .nil)))) (.cons (.ret (.k (.bl false))) .nil) .nil) .nil)))))))
def s_law_8 : S := (.forr (.one 6) (.seq (.tup (.cons (.bin .add (.k (.int (1))) (.call 19 (.cons (.v 1) (.cons (.bf .len (.cons (.v 3) .nil)) .nil)))) (.cons (.v 5) .nil)))) f_law_1)
def s_law_9 : S := (.par3 13 false (.call 19 (.cons (.v 1) (.cons (.k (.int (4))) .nil))) 14 false (.call 19 (.cons (.v 1) (.cons (.k (.int (3))) .nil))) 15 false (.lst .nil))
def x_law_10 : E := (.lc (.ix (.v 3) (.v 23)) (.one 23) (.rng1 (.bf .len (.cons (.v 3) .nil))) (.cons (.cmp .le (.bf .abs (.cons (.bin .sub (.v 23) (.v 10)) .nil)) (.v 13)) .nil) [23])
theorem x_law_10_rd (env : Eng.Env) (s : Sto) (r : R D) : rdB x_law_10 env s r = r := rfl
def f_law_2 : Ss := (.cons (.asg false 12 (.bf .sorted (.cons x_law_10 .nil))) (.cons (.asg false 15 (.bin .add (.v 15) (.ite (.cmp .gt (.bf .abs (.cons (.bin .sub (.v 11) (.ix (.v 12) (.bin .fdiv (.bin .sub (.bf .len (.cons (.v 12) .nil)) (.k (.int (1)))) (.k (.int (2)))))) .nil)) (.v 14)) (.lst (.cons (.v 10) .nil)) (.lst .nil)))) .nil))
def s_law_10 : S := (.forr (.many [10, 11]) (.enum (.v 3)) f_law_2)
def s_law_11 : S := (.ife (.cmp .ne (.call 13 (.cons (.v 3) (.cons (.v 13) (.cons (.v 14) .nil)))) (.bf .tuple (.cons (.v 15) .nil))) (.cons (.ret (.k (.bl false))) .nil) .nil)
def s_law_12 : S := (.asg false 16 (.call 19 (.cons (.v 1) (.cons (.bf .len (.cons (.v 3) .nil)) .nil))))
def s_law_13 : S := (.asg false 12 (.sl (.v 3) (.cons (.v 16) .nil) (.cons (.bin .add (.bin .add (.v 16) (.k (.int (1)))) (.call 19 (.cons (.v 1) (.cons (.k (.int (3))) .nil)))) .nil)))
def x_law_11 : E := (.lc (.v 10) (.one 10) (.rng1 (.bf .len (.cons (.v 3) .nil))) (.cons (.cmp .eq (.sl (.v 3) (.cons (.v 10) .nil) (.cons (.bin .add (.v 10) (.bf .len (.cons (.v 12) .nil))) .nil)) (.v 12)) .nil) [10])
theorem x_law_11_rd (env : Eng.Env) (s : Sto) (r : R D) : rdB x_law_11 env s r = r := rfl
def s_law_14 : S := (.ife (.cmp .ne (.call 14 (.cons (.v 3) (.cons (.v 12) .nil))) (.bf .tuple (.cons x_law_11 .nil))) (.cons (.ret (.k (.bl false))) .nil) .nil)
def s_law_15 : S := (.asg false 17 (.tup (.cons (.k (.int (0))) (.cons (.k (.int (0))) (.cons (.k (.int (0))) .nil)))))
def x_law_12 : E := (.lc (.v 24) (.one 24) (.rng2 (.k (.int (1))) (.bin .add (.bin .sub (.bf .len (.cons (.v 3) .nil)) (.v 19)) (.k (.int (1))))) (.cons (.cmp .eq (.sl (.v 3) (.cons (.v 18) .nil) (.cons (.bin .add (.v 18) (.v 24)) .nil)) (.sl (.v 3) (.cons (.v 19) .nil) (.cons (.bin .add (.v 19) (.v 24)) .nil))) .nil) [24])
theorem x_law_12_rd (env : Eng.Env) (s : Sto) (r : R D) : rdB x_law_12 env s r = r := rfl
def f_law_3 : Ss := (.cons (.asg false 20 (.bf .len (.cons x_law_12 .nil))) (.cons (.asg false 17 (.ite (.cmp .gt (.v 20) (.ix (.v 17) (.k (.int (0))))) (.tup (.cons (.v 20) (.cons (.v 18) (.cons (.v 19) .nil)))) (.v 17))) .nil))
def f_law_4 : Ss := (.cons (.forr (.one 19) (.rng2 (.bin .add (.v 18) (.k (.int (1)))) (.bf .len (.cons (.v 3) .nil))) f_law_3) .nil)
def s_law_16 : S := (.forr (.one 18) (.rng1 (.bf .len (.cons (.v 3) .nil))) f_law_4)
def s_law_17 : S := (.ife (.cmp .ne (.call 15 (.cons (.v 3) .nil)) (.v 17)) (.cons (.ret (.k (.bl false))) .nil) .nil)
def s_law_18 : S := (.ret (.call 22 (.cons (.v 3) .nil)))
def b_law : Ss := (.cons s_law_0 (.cons s_law_1 (.cons s_law_2 (.cons s_law_3 (.cons s_law_4 (.cons s_law_5 (.cons s_law_6 (.cons s_law_7 (.cons s_law_8 (.cons s_law_9 (.cons s_law_10 (.cons s_law_11 (.cons s_law_12 (.cons s_law_13 (.cons s_law_14 (.cons s_law_15 (.cons s_law_16 (.cons s_law_17 (.cons s_law_18 .nil)))))))))))))))))))
def r_law : Rw := ⟨"law", 31, ["script"], ["script", "draw", "part", "row", "fits", "most", "period", "phases", "means", "rest", "at", "number", "some", "width", "bound", "far", "begin", "best", "one", "other", "length", "turn", "phase", "place", "size"], b_law⟩
def rows : List Rw := [r_is_whole, r_is_from, r_is_number, r_lean, r_check_numbers, r_is_period, r_least_period, r_borders_of, r_misses_of, r_nearest_season, r_best_period, r_means_of, r_rest_of, r_standing_out, r_first_again, r_longest_again, r__law_cell_at, r__law_draw, r__law_number, r__law_next, r__law_refuses, r__law_misses, r__law_refused_right, r_law]
def cls : List Str := ["BadThing"]
def tf : List He.Defn := [("law", none), ("_law_refused_right", none)]
theorem binds : AllQ (Rw.binds top) rows := ⟨fun _ _ _ _ _ _ us hl => match us, hl with | [_], _ => rfl, fun _ _ _ _ _ _ us hl => match us, hl with | [_, _, _], _ => rfl, fun _ _ _ _ _ _ us hl => match us, hl with | [_], _ => rfl, fun _ _ _ _ _ _ us hl => match us, hl with | [_, _], _ => rfl, fun _ _ _ _ _ _ us hl => match us, hl with | [_], _ => rfl, fun _ _ _ _ _ _ us hl => match us, hl with | [_, _], _ => rfl, fun _ _ _ _ _ _ us hl => match us, hl with | [_], _ => rfl, fun _ _ _ _ _ _ us hl => match us, hl with | [_], _ => rfl, fun _ _ _ _ _ _ us hl => match us, hl with | [_, _], _ => rfl, fun _ _ _ _ _ _ us hl => match us, hl with | [_, _], _ => rfl, fun _ _ _ _ _ _ us hl => match us, hl with | [_, _], _ => rfl, fun _ _ _ _ _ _ us hl => match us, hl with | [_, _], _ => rfl, fun _ _ _ _ _ _ us hl => match us, hl with | [_, _], _ => rfl, fun _ _ _ _ _ _ us hl => match us, hl with | [_, _, _], _ => rfl, fun _ _ _ _ _ _ us hl => match us, hl with | [_, _], _ => rfl, fun _ _ _ _ _ _ us hl => match us, hl with | [_], _ => rfl, fun _ _ _ _ _ _ us hl => match us, hl with | [_, _], _ => rfl, fun _ _ _ _ _ _ us hl => match us, hl with | [_, _, _], _ => rfl, fun _ _ _ _ _ _ us hl => match us, hl with | [_, _, _], _ => rfl, fun _ _ _ _ _ _ us hl => match us, hl with | [_, _], _ => rfl, fun _ _ _ _ _ _ us hl => match us, hl with | [_, _], _ => rfl, fun _ _ _ _ _ _ us hl => match us, hl with | [_, _], _ => rfl, fun _ _ _ _ _ _ us hl => match us, hl with | [_], _ => rfl, fun _ _ _ _ _ _ us hl => match us, hl with | [_], _ => rfl, trivial⟩
def G : List (Str × GV) := [gF "is_whole" 0, gF "is_from" 1, gF "is_number" 2, gF "lean" 3, gF "check_numbers" 4, gF "is_period" 5, gF "least_period" 6, gF "borders_of" 7, gF "misses_of" 8, gF "nearest_season" 9, gF "best_period" 10, gF "means_of" 11, gF "rest_of" 12, gF "standing_out" 13, gF "first_again" 14, gF "longest_again" 15, gF "_law_cell_at" 16, gF "_law_draw" 17, gF "_law_number" 18, gF "_law_next" 19, gE "_law_refuses" 0, gF "_law_misses" 21, gF "_law_refused_right" 22, gF "law" 23, gR "isinstance", gR "int", gR "bool", gC "MOST_NUMBER" (.int (1000000000000)), gR "abs", gR "tuple", gR "len", gR "all", gR "range", gR "max", gR "min", gR "list", gR "sum", gR "enumerate", gR "sorted", gR "repr", gX "BadThing" 0]
def loose : List PySem.Str := (["PointError", "BadThing", "MOST_NUMBER", "is_whole", "is_from", "is_number", "lean", "check_numbers", "is_period", "least_period", "borders_of", "misses_of", "nearest_season", "best_period", "means_of", "rest_of", "standing_out", "first_again", "longest_again", "_law_cell_at", "_law_draw", "_law_number", "_law_next", "_law_refuses", "_law_misses", "_law_refused_right"] : List PySem.Str)

abbrev fuelN : Nat := 30
abbrev fuelL : Nat := 5000
abbrev C (n : Nat) : Nat → List D → Sto → R D := callN (rows.map Rw.fn) fuelL n
/-! ### the drawing of numbers -/
theorem cell_ok {n : Nat} {cs : List Int} {k : Int} {st : Sto} (hk : 0 ≤ k) : ∃ v : Int, C (n + 1) 16 [.lst (cs.map .int), .int k] st = .ok (.int v) st := by
  by_cases h : k < cs.length
  · have e : atI (cs.map D.int) k = some (.int (cs[k.toNat]'(by omega))) := by
      obtain ⟨m, rfl⟩ : ∃ m : Nat, k = m := ⟨k.toNat, by omega⟩
      rw [atI_map, at_nat _ _ (by omega)] <;> rfl
    have e2 : decide (k < (cs.length : Nat)) = true := decide_eq_true h
    exact ⟨_, call_rt (fn := r__law_cell_at.fn) rfl rfl rfl (env := [.val (.lst (cs.map .int)), .val (.int k)]) (by
      show evSs (C n) fuelL (.cons s__law_cell_at_0 (.cons s__law_cell_at_1 .nil)) [.val (.lst (cs.map .int)), .val (.int k)] st = _
      simp only [s__law_cell_at_0, evSs, evS, evE, evEs, evBs, evO, evT, evI, rd_k, rd_g, rd_bin, rd_neg, rd_not, rd_and, rd_or, rd_cmp, rd_chain, rd_ite, rd_tup, rd_lst, rd_ix, rd_sl, rd_rev, rd_call, rd_sumL, rd_join, rd_cnt, rd_stp, rd_bf, rd_isI, rd_v, R.bind, lift_ok, lift_ex, of_some, asB_ok, asB_ex, asI_ok, asI_ex, asD_ok, asD_ex, fold2_t, fold2_f, fold2_ex, keepIf_t, keepIf_f, ntup_some, calm_o, items_t, items_l, slotR, sl_v, b_add, b_sub, c_eq, c_ne, c_lt, c_le, c_gt, c_ge, f_lenL, f_lenT, f_tupL, f_tupT, f_lstL, f_lstT, f_int, f_abs, i_int, i_intB, i_intN, i_intT, i_intL, i_intS, i_bool, i_boolB, i_tup, i_tupN, i_tupL, i_tupI, x_tup, x_lst, l_tup, l_lst, r_lst, r_tup, q_lst, q_tup, z_lst, z_tup, t_one, w_nil, w_cons, sget_0, sget_S, List.set_cons_zero, List.set_cons_succ, Option.map_some, Option.bind_some, eqD_int, Bool.not_true, Bool.not_false, sz_0, szT_0, sz_1, szT_1, sz_2, szT_2, sz_3, szT_3, sz_4, szT_4, sz_5, szT_5, sz_6, szT_6, t_many2, t_many3, t_many4, t_lst2, t_lst3, List.length_map, e2, e]
      rfl)⟩
  · have e2 : decide (k < (cs.length : Nat)) = false := decide_eq_false h
    exact ⟨0, call_rt (fn := r__law_cell_at.fn) rfl rfl rfl (env := [.val (.lst (cs.map .int)), .val (.int k)]) (by
      show evSs (C n) fuelL (.cons s__law_cell_at_0 (.cons s__law_cell_at_1 .nil)) [.val (.lst (cs.map .int)), .val (.int k)] st = _
      simp only [s__law_cell_at_0, s__law_cell_at_1, evSs, evS, evE, evEs, evBs, evO, evT, evI, rd_k, rd_g, rd_bin, rd_neg, rd_not, rd_and, rd_or, rd_cmp, rd_chain, rd_ite, rd_tup, rd_lst, rd_ix, rd_sl, rd_rev, rd_call, rd_sumL, rd_join, rd_cnt, rd_stp, rd_bf, rd_isI, rd_v, R.bind, lift_ok, lift_ex, of_some, asB_ok, asB_ex, asI_ok, asI_ex, asD_ok, asD_ex, fold2_t, fold2_f, fold2_ex, keepIf_t, keepIf_f, ntup_some, calm_o, items_t, items_l, slotR, sl_v, b_add, b_sub, c_eq, c_ne, c_lt, c_le, c_gt, c_ge, f_lenL, f_lenT, f_tupL, f_tupT, f_lstL, f_lstT, f_int, f_abs, i_int, i_intB, i_intN, i_intT, i_intL, i_intS, i_bool, i_boolB, i_tup, i_tupN, i_tupL, i_tupI, x_tup, x_lst, l_tup, l_lst, r_lst, r_tup, q_lst, q_tup, z_lst, z_tup, t_one, w_nil, w_cons, sget_0, sget_S, List.set_cons_zero, List.set_cons_succ, Option.map_some, Option.bind_some, eqD_int, Bool.not_true, Bool.not_false, sz_0, szT_0, sz_1, szT_1, sz_2, szT_2, sz_3, szT_3, sz_4, szT_4, sz_5, szT_5, sz_6, szT_6, t_many2, t_many3, t_many4, t_lst2, t_lst3, List.length_map, e2])⟩
abbrev primes : List Int := [1000003, 1000033, 1000037, 1000039, 1000081, 1000099, 1000117, 1000121, 1000133, 1000151, 1000159, 1000171, 1000183, 1000187, 1000193, 1000199]
theorem prime_at {k : Int} (h1 : 0 ≤ k) (h2 : k < 16) : ∃ p : Int, 0 < p ∧ atI (primes.map D.int) k = some (.int p) := by
  obtain ⟨m, rfl⟩ : ∃ m : Nat, k = m := ⟨k.toNat, by omega⟩
  have hm : m < primes.length := by show m < 16; omega
  refine ⟨primes[m], ?_, by rw [atI_map, at_nat _ _ hm] <;> rfl⟩
  have : ∀ p ∈ primes, 0 < p := by decide
  exact this _ (List.getElem_mem hm)
theorem draw_ok {n : Nat} {c k b : Int} {st : Sto} (hb : 0 < b) : ∃ r : Int, 0 ≤ r ∧ r < b ∧ C (n + 1) 17 [.int c, .int k, .int b] st = .ok (.int r) st := by
  obtain ⟨p, hp, e⟩ := prime_at (k := k % 16) (Int.emod_nonneg _ (by decide)) (Int.emod_lt_of_pos _ (by decide))
  refine ⟨(c * 48271 + k * 69621) % p % b, Int.emod_nonneg _ (by omega), Int.emod_lt_of_pos _ hb, call_rt (fn := r__law_draw.fn) rfl rfl rfl (env := [.val (.int c), .val (.int k), .val (.int b), .val (.tup (primes.map .int))]) ?_⟩
  show evSs (C n) fuelL (.cons s__law_draw_0 (.cons s__law_draw_1 .nil)) [.val (.int c), .val (.int k), .val (.int b), .un] st = _
  have a0 : evS (C n) fuelL s__law_draw_0 [.val (.int c), .val (.int k), .val (.int b), .un] st = .ok (.nx, [.val (.int c), .val (.int k), .val (.int b), .val (.tup (primes.map .int))]) st := by
    simp only [s__law_draw_0, evSs, evS, evE, evEs, evBs, evO, evT, evI, rd_k, rd_g, rd_bin, rd_neg, rd_not, rd_and, rd_or, rd_cmp, rd_chain, rd_ite, rd_tup, rd_lst, rd_ix, rd_sl, rd_rev, rd_call, rd_sumL, rd_join, rd_cnt, rd_stp, rd_bf, rd_isI, rd_v, R.bind, lift_ok, lift_ex, of_some, asB_ok, asB_ex, asI_ok, asI_ex, asD_ok, asD_ex, fold2_t, fold2_f, fold2_ex, keepIf_t, keepIf_f, ntup_some, calm_o, items_t, items_l, slotR, sl_v, b_add, b_sub, c_eq, c_ne, c_lt, c_le, c_gt, c_ge, f_lenL, f_lenT, f_tupL, f_tupT, f_lstL, f_lstT, f_int, f_abs, i_int, i_intB, i_intN, i_intT, i_intL, i_intS, i_bool, i_boolB, i_tup, i_tupN, i_tupL, i_tupI, x_tup, x_lst, l_tup, l_lst, r_lst, r_tup, q_lst, q_tup, z_lst, z_tup, t_one, w_nil, w_cons, sget_0, sget_S, List.set_cons_zero, List.set_cons_succ, Option.map_some, Option.bind_some, eqD_int, Bool.not_true, Bool.not_false, sz_0, szT_0, sz_1, szT_1, sz_2, szT_2, sz_3, szT_3, sz_4, szT_4, sz_5, szT_5, sz_6, szT_6, t_many2, t_many3, t_many4, t_lst2, t_lst3]
    rw [sizedT_ok' (size_small (by simp))]
    rfl
  rw [ss_nx a0]
  simp only [s__law_draw_1, evSs, evS, evE, evEs, evBs, evO, evT, evI, rd_k, rd_g, rd_bin, rd_neg, rd_not, rd_and, rd_or, rd_cmp, rd_chain, rd_ite, rd_tup, rd_lst, rd_ix, rd_sl, rd_rev, rd_call, rd_sumL, rd_join, rd_cnt, rd_stp, rd_bf, rd_isI, rd_v, R.bind, lift_ok, lift_ex, of_some, asB_ok, asB_ex, asI_ok, asI_ex, asD_ok, asD_ex, fold2_t, fold2_f, fold2_ex, keepIf_t, keepIf_f, ntup_some, calm_o, items_t, items_l, slotR, sl_v, b_add, b_sub, c_eq, c_ne, c_lt, c_le, c_gt, c_ge, f_lenL, f_lenT, f_tupL, f_tupT, f_lstL, f_lstT, f_int, f_abs, i_int, i_intB, i_intN, i_intT, i_intL, i_intS, i_bool, i_boolB, i_tup, i_tupN, i_tupL, i_tupI, x_tup, x_lst, l_tup, l_lst, r_lst, r_tup, q_lst, q_tup, z_lst, z_tup, t_one, w_nil, w_cons, sget_0, sget_S, List.set_cons_zero, List.set_cons_succ, Option.map_some, Option.bind_some, eqD_int, Bool.not_true, Bool.not_false, sz_0, szT_0, sz_1, szT_1, sz_2, szT_2, sz_3, szT_3, sz_4, szT_4, sz_5, szT_5, sz_6, szT_6, t_many2, t_many3, t_many4, t_lst2, t_lst3, b_mul _ _ (.inr (small_of (i := 48271) (by decide) (by decide))), b_mul _ _ (.inr (small_of (i := 69621) (by decide) (by decide))), b_mod _ 16 (by decide), e, b_mod _ _ hp, b_mod _ _ hb]
theorem scale_small {i : Nat} (h : i ≤ 24) : ((1009 : Int) ^ i).natAbs.log2 < 9000 ∧ (0 : Int) < 1009 ^ i := by
  have h1 : (1009 : Int) ^ i = ((1009 ^ i : Nat) : Int) := by simp
  have h2 : 1009 ^ i ≤ 1009 ^ 24 := Nat.pow_le_pow_right (by decide) h
  have h3 : 0 < 1009 ^ i := Nat.pow_pos (by decide)
  rw [h1]
  refine ⟨?_, by omega⟩
  rw [Int.natAbs_natCast]
  have : 1009 ^ i < 2 ^ 9000 := Nat.lt_of_le_of_lt h2 (by decide +kernel)
  exact (Nat.log2_lt (by omega)).mpr this
theorem pow18 : binop .pow (.int 10) (.int 18) = some (.int 1000000000000000000) := by
  have h : small64 10 = true := small_of (by decide) (by decide)
  have e : (10 : Int) ^ (18 : Int).toNat = 1000000000000000000 := by decide
  show (match decide ((0 : Int) ≤ 18) && decide ((18 : Int) ≤ 1000000) && small64 10 with
    | true => some (D.int ((10 : Int) ^ (18 : Int).toNat))
    | false => none) = _
  rw [h, e] <;> rfl
theorem scale_run {n : Nat} {c k b : Int} {st : Sto} (hk : 0 ≤ k) (hk2 : k < 24) : ∃ (s : Int) (z : Sl), s.natAbs.log2 < 9000 ∧ 0 < s ∧ evS (C (n + 1)) fuelL s__law_number_1 [.val (.int c), .val (.int k), .val (.int b), .val (.int 1), .un, .un, .un] st = .ok (.nx, [.val (.int c), .val (.int k), .val (.int b), .val (.int s), z, .un, .un]) st := by
  have hm : k % 24 = k := Int.emod_eq_of_lt hk hk2
  obtain ⟨env', st', e, ⟨s, z, hz, hs, hp⟩⟩ := loopF_inv (set := tgSet (.one 4)) (body := fun env s => evSs (C (n + 1)) fuelL f__law_number_0 env s)
    (fun i env s => ∃ v z, env = [.val (.int c), .val (.int k), .val (.int b), .val (.int v), z, .un, .un] ∧ s = st ∧ v = 1009 ^ i)
    ((List.range (k - 0).toNat).map fun (i : Nat) => D.int (0 + i)) 0 [.val (.int c), .val (.int k), .val (.int b), .val (.int 1), .un, .un, .un] st ⟨1, .un, rfl, rfl, rfl⟩ (by
      rintro j d env s hj ⟨v, z, rfl, rfl, hv⟩
      have e : evSs (C (n + 1)) fuelL f__law_number_0 [.val (.int c), .val (.int k), .val (.int b), .val (.int v), .val d, .un, .un] s = .ok (.nx, [.val (.int c), .val (.int k), .val (.int b), .val (.int (v * 1009)), .val d, .un, .un]) s := by
        simp only [f__law_number_0, evSs, evS, evE, evEs, evBs, evO, evT, evI, rd_k, rd_g, rd_bin, rd_neg, rd_not, rd_and, rd_or, rd_cmp, rd_chain, rd_ite, rd_tup, rd_lst, rd_ix, rd_sl, rd_rev, rd_call, rd_sumL, rd_join, rd_cnt, rd_stp, rd_bf, rd_isI, rd_v, R.bind, lift_ok, lift_ex, of_some, asB_ok, asB_ex, asI_ok, asI_ex, asD_ok, asD_ex, fold2_t, fold2_f, fold2_ex, keepIf_t, keepIf_f, ntup_some, calm_o, items_t, items_l, slotR, sl_v, b_add, b_sub, c_eq, c_ne, c_lt, c_le, c_gt, c_ge, f_lenL, f_lenT, f_tupL, f_tupT, f_lstL, f_lstT, f_int, f_abs, i_int, i_intB, i_intN, i_intT, i_intL, i_intS, i_bool, i_boolB, i_tup, i_tupN, i_tupL, i_tupI, x_tup, x_lst, l_tup, l_lst, r_lst, r_tup, q_lst, q_tup, z_lst, z_tup, t_one, w_nil, w_cons, sget_0, sget_S, List.set_cons_zero, List.set_cons_succ, Option.map_some, Option.bind_some, eqD_int, Bool.not_true, Bool.not_false, sz_0, szT_0, sz_1, szT_1, sz_2, szT_2, sz_3, szT_3, sz_4, szT_4, sz_5, szT_5, sz_6, szT_6, t_many2, t_many3, t_many4, t_lst2, t_lst3, b_mul _ _ (.inr (small_of (i := 1009) (by decide) (by decide)))]
      exact ⟨_, _, _, rfl, e, v * 1009, .val d, rfl, rfl, by rw [hv, Int.pow_succ]⟩)
  subst hz hs
  rw [List.length_map, List.length_range] at hp
  obtain ⟨s1, s2⟩ := scale_small (i := 0 + (k - 0).toNat) (by omega)
  rw [← hp] at s1 s2
  refine ⟨s, z, s1, s2, ?_⟩
  simp only [s__law_number_1, evSs, evS, evE, evEs, evBs, evO, evT, evI, rd_k, rd_g, rd_bin, rd_neg, rd_not, rd_and, rd_or, rd_cmp, rd_chain, rd_ite, rd_tup, rd_lst, rd_ix, rd_sl, rd_rev, rd_call, rd_sumL, rd_join, rd_cnt, rd_stp, rd_bf, rd_isI, rd_v, R.bind, lift_ok, lift_ex, of_some, asB_ok, asB_ex, asI_ok, asI_ex, asD_ok, asD_ex, fold2_t, fold2_f, fold2_ex, keepIf_t, keepIf_f, ntup_some, calm_o, items_t, items_l, slotR, sl_v, b_add, b_sub, c_eq, c_ne, c_lt, c_le, c_gt, c_ge, f_lenL, f_lenT, f_tupL, f_tupT, f_lstL, f_lstT, f_int, f_abs, i_int, i_intB, i_intN, i_intT, i_intL, i_intS, i_bool, i_boolB, i_tup, i_tupN, i_tupL, i_tupI, x_tup, x_lst, l_tup, l_lst, r_lst, r_tup, q_lst, q_tup, z_lst, z_tup, t_one, w_nil, w_cons, sget_0, sget_S, List.set_cons_zero, List.set_cons_succ, Option.map_some, Option.bind_some, eqD_int, Bool.not_true, Bool.not_false, sz_0, szT_0, sz_1, szT_1, sz_2, szT_2, sz_3, szT_3, sz_4, szT_4, sz_5, szT_5, sz_6, szT_6, t_many2, t_many3, t_many4, t_lst2, t_lst3, b_mod _ 24 (by decide), hm, range_int 0 k (by decide) (by decide) (by omega) (by omega)]
  exact e
theorem number_2 {n : Nat} {c k b s : Int} {z : Sl} {st : Sto} (s1 : s.natAbs.log2 < 9000) (s2 : 0 < s) : evS (C (n + 1)) fuelL s__law_number_2 [.val (.int c), .val (.int k), .val (.int b), .val (.int s), z, .un, .un] st = .ok (.nx, [.val (.int c), .val (.int k), .val (.int b), .val (.int s), z, .val (.int ((c - 1000000000000000000) / s)), .un]) st := by
  simp only [s__law_number_2, evSs, evS, evE, evEs, evBs, evO, evT, evI, rd_k, rd_g, rd_bin, rd_neg, rd_not, rd_and, rd_or, rd_cmp, rd_chain, rd_ite, rd_tup, rd_lst, rd_ix, rd_sl, rd_rev, rd_call, rd_sumL, rd_join, rd_cnt, rd_stp, rd_bf, rd_isI, rd_v, R.bind, lift_ok, lift_ex, of_some, asB_ok, asB_ex, asI_ok, asI_ex, asD_ok, asD_ex, fold2_t, fold2_f, fold2_ex, keepIf_t, keepIf_f, ntup_some, calm_o, items_t, items_l, slotR, sl_v, b_add, b_sub, c_eq, c_ne, c_lt, c_le, c_gt, c_ge, f_lenL, f_lenT, f_tupL, f_tupT, f_lstL, f_lstT, f_int, f_abs, i_int, i_intB, i_intN, i_intT, i_intL, i_intS, i_bool, i_boolB, i_tup, i_tupN, i_tupL, i_tupI, x_tup, x_lst, l_tup, l_lst, r_lst, r_tup, q_lst, q_tup, z_lst, z_tup, t_one, w_nil, w_cons, sget_0, sget_S, List.set_cons_zero, List.set_cons_succ, Option.map_some, Option.bind_some, eqD_int, Bool.not_true, Bool.not_false, sz_0, szT_0, sz_1, szT_1, sz_2, szT_2, sz_3, szT_3, sz_4, szT_4, sz_5, szT_5, sz_6, szT_6, t_many2, t_many3, t_many4, t_lst2, t_lst3, pow18, b_fdiv _ _ s2 s1]
theorem number_3 {n : Nat} {c k b s m : Int} {z : Sl} {st : Sto} (hb : 0 < b) (h : 0 < m) : evSs (C (n + 1)) fuelL (.cons s__law_number_3 (.cons s__law_number_4 (.cons s__law_number_5 .nil))) [.val (.int c), .val (.int k), .val (.int b), .val (.int s), z, .val (.int m), .un] st =
    .ok (.rt (.int (m % 1009 % b)), [.val (.int c), .val (.int k), .val (.int b), .val (.int s), z, .val (.int m), .un]) st := by
  simp only [s__law_number_3, evSs, evS, evE, evEs, evBs, evO, evT, evI, rd_k, rd_g, rd_bin, rd_neg, rd_not, rd_and, rd_or, rd_cmp, rd_chain, rd_ite, rd_tup, rd_lst, rd_ix, rd_sl, rd_rev, rd_call, rd_sumL, rd_join, rd_cnt, rd_stp, rd_bf, rd_isI, rd_v, R.bind, lift_ok, lift_ex, of_some, asB_ok, asB_ex, asI_ok, asI_ex, asD_ok, asD_ex, fold2_t, fold2_f, fold2_ex, keepIf_t, keepIf_f, ntup_some, calm_o, items_t, items_l, slotR, sl_v, b_add, b_sub, c_eq, c_ne, c_lt, c_le, c_gt, c_ge, f_lenL, f_lenT, f_tupL, f_tupT, f_lstL, f_lstT, f_int, f_abs, i_int, i_intB, i_intN, i_intT, i_intL, i_intS, i_bool, i_boolB, i_tup, i_tupN, i_tupL, i_tupI, x_tup, x_lst, l_tup, l_lst, r_lst, r_tup, q_lst, q_tup, z_lst, z_tup, t_one, w_nil, w_cons, sget_0, sget_S, List.set_cons_zero, List.set_cons_succ, Option.map_some, Option.bind_some, eqD_int, Bool.not_true, Bool.not_false, sz_0, szT_0, sz_1, szT_1, sz_2, szT_2, sz_3, szT_3, sz_4, szT_4, sz_5, szT_5, sz_6, szT_6, t_many2, t_many3, t_many4, t_lst2, t_lst3, decide_eq_true h, b_mod _ 1009 (by decide), b_mod _ _ hb]
theorem number_4 {n : Nat} {c k b s m x r : Int} {z : Sl} {st : Sto} (hb : 0 < b) (h : ¬ 0 < m) (hx : binop .mod (.int c) (.int 1000003) = some (.int x)) (hs : small64 (x + 977 * k) = true) (hr : C (n + 1) 17 [.int ((x + 977 * k) * (x + 31 * k + 5)), .int (k % 9 + 1), .int 999983] st = .ok (.int r) st) :
    evSs (C (n + 1)) fuelL (.cons s__law_number_3 (.cons s__law_number_4 (.cons s__law_number_5 .nil))) [.val (.int c), .val (.int k), .val (.int b), .val (.int s), z, .val (.int m), .un] st =
    .ok (.rt (.int (r % b)), [.val (.int c), .val (.int k), .val (.int b), .val (.int s), z, .val (.int m), .val (.int x)]) st := by
  simp only [s__law_number_3, s__law_number_4, s__law_number_5, evSs, evS, evE, evEs, evBs, evO, evT, evI, rd_k, rd_g, rd_bin, rd_neg, rd_not, rd_and, rd_or, rd_cmp, rd_chain, rd_ite, rd_tup, rd_lst, rd_ix, rd_sl, rd_rev, rd_call, rd_sumL, rd_join, rd_cnt, rd_stp, rd_bf, rd_isI, rd_v, R.bind, lift_ok, lift_ex, of_some, asB_ok, asB_ex, asI_ok, asI_ex, asD_ok, asD_ex, fold2_t, fold2_f, fold2_ex, keepIf_t, keepIf_f, ntup_some, calm_o, items_t, items_l, slotR, sl_v, b_add, b_sub, c_eq, c_ne, c_lt, c_le, c_gt, c_ge, f_lenL, f_lenT, f_tupL, f_tupT, f_lstL, f_lstT, f_int, f_abs, i_int, i_intB, i_intN, i_intT, i_intL, i_intS, i_bool, i_boolB, i_tup, i_tupN, i_tupL, i_tupI, x_tup, x_lst, l_tup, l_lst, r_lst, r_tup, q_lst, q_tup, z_lst, z_tup, t_one, w_nil, w_cons, sget_0, sget_S, List.set_cons_zero, List.set_cons_succ, Option.map_some, Option.bind_some, eqD_int, Bool.not_true, Bool.not_false, sz_0, szT_0, sz_1, szT_1, sz_2, szT_2, sz_3, szT_3, sz_4, szT_4, sz_5, szT_5, sz_6, szT_6, t_many2, t_many3, t_many4, t_lst2, t_lst3, decide_eq_false h, hx, b_mod _ 9 (by decide), b_mul _ _ (.inl (small_of (i := 977) (by decide) (by decide))), b_mul _ _ (.inl (small_of (i := 31) (by decide) (by decide))),
        b_mul (x + 977 * k) _ (.inl hs), hr, b_mod _ _ hb]
theorem number_ok {n : Nat} {c k b : Int} {st : Sto} (hk : 0 ≤ k) (hk2 : k < 24) (hb : 0 < b) : ∃ r : Int, 0 ≤ r ∧ r < b ∧ C (n + 2) 18 [.int c, .int k, .int b] st = .ok (.int r) st := by
  have a0 : evS (C (n + 1)) fuelL s__law_number_0 [.val (.int c), .val (.int k), .val (.int b), .un, .un, .un, .un] st = .ok (.nx, [.val (.int c), .val (.int k), .val (.int b), .val (.int 1), .un, .un, .un]) st := by
    simp only [s__law_number_0, evSs, evS, evE, evEs, evBs, evO, evT, evI, rd_k, rd_g, rd_bin, rd_neg, rd_not, rd_and, rd_or, rd_cmp, rd_chain, rd_ite, rd_tup, rd_lst, rd_ix, rd_sl, rd_rev, rd_call, rd_sumL, rd_join, rd_cnt, rd_stp, rd_bf, rd_isI, rd_v, R.bind, lift_ok, lift_ex, of_some, asB_ok, asB_ex, asI_ok, asI_ex, asD_ok, asD_ex, fold2_t, fold2_f, fold2_ex, keepIf_t, keepIf_f, ntup_some, calm_o, items_t, items_l, slotR, sl_v, b_add, b_sub, c_eq, c_ne, c_lt, c_le, c_gt, c_ge, f_lenL, f_lenT, f_tupL, f_tupT, f_lstL, f_lstT, f_int, f_abs, i_int, i_intB, i_intN, i_intT, i_intL, i_intS, i_bool, i_boolB, i_tup, i_tupN, i_tupL, i_tupI, x_tup, x_lst, l_tup, l_lst, r_lst, r_tup, q_lst, q_tup, z_lst, z_tup, t_one, w_nil, w_cons, sget_0, sget_S, List.set_cons_zero, List.set_cons_succ, Option.map_some, Option.bind_some, eqD_int, Bool.not_true, Bool.not_false, sz_0, szT_0, sz_1, szT_1, sz_2, szT_2, sz_3, szT_3, sz_4, szT_4, sz_5, szT_5, sz_6, szT_6, t_many2, t_many3, t_many4, t_lst2, t_lst3]
  obtain ⟨s, z, s1, s2, a1⟩ := scale_run (n := n) (c := c) (b := b) (st := st) hk hk2
  have a2 := number_2 (n := n) (c := c) (k := k) (b := b) (z := z) (st := st) s1 s2
  obtain ⟨m, hm⟩ : ∃ m, m = (c - 1000000000000000000) / s := ⟨_, rfl⟩
  rw [← hm] at a2
  by_cases h : 0 < m
  · exact ⟨m % 1009 % b, Int.emod_nonneg _ (by omega), Int.emod_lt_of_pos _ hb, call_rt (fn := r__law_number.fn) rfl rfl rfl (((ss_nx a0).trans (ss_nx a1)).trans ((ss_nx a2).trans (number_3 hb h)))⟩
  · have hs : 0 ≤ c % 1000003 ∧ c % 1000003 < 1000003 := ⟨Int.emod_nonneg _ (by decide), Int.emod_lt_of_pos _ (by decide)⟩
    obtain ⟨r, _, _, hr⟩ := draw_ok (n := n) (c := (c % 1000003 + 977 * k) * (c % 1000003 + 31 * k + 5)) (k := k % 9 + 1) (b := 999983) (st := st) (by decide)
    exact ⟨r % b, Int.emod_nonneg _ (by omega), Int.emod_lt_of_pos _ hb, call_rt (fn := r__law_number.fn) rfl rfl rfl (((ss_nx a0).trans (ss_nx a1)).trans ((ss_nx a2).trans (number_4 hb h (b_mod _ _ (by decide)) (small_of (by omega) (by omega)) hr)))⟩
/-- the drawing's state: the cells, how many were drawn -/
abbrev Dw (cs : List Int) (j : Int) : Sto := [[.lst (cs.map .int), .int 0, .int j]]
theorem next_0 {n : Nat} {cs : List Int} {j b : Int} : evS (C (n + 2)) fuelL s__law_next_0 [.val (.ref 0), .val (.int b), .un, .un] (Dw cs j) = .ok (.nx, [.val (.ref 0), .val (.int b), .un, .un]) (Dw cs (j + 1)) := by
  simp only [s__law_next_0, evSs, evS, evE, evEs, evBs, evO, evT, evI, rd_k, rd_g, rd_bin, rd_neg, rd_not, rd_and, rd_or, rd_cmp, rd_chain, rd_ite, rd_tup, rd_lst, rd_ix, rd_sl, rd_rev, rd_call, rd_sumL, rd_join, rd_cnt, rd_stp, rd_bf, rd_isI, rd_v, R.bind, lift_ok, lift_ex, of_some, asB_ok, asB_ex, asI_ok, asI_ex, asD_ok, asD_ex, fold2_t, fold2_f, fold2_ex, keepIf_t, keepIf_f, ntup_some, calm_o, items_t, items_l, slotR, sl_v, b_add, b_sub, c_eq, c_ne, c_lt, c_le, c_gt, c_ge, f_lenL, f_lenT, f_tupL, f_tupT, f_lstL, f_lstT, f_int, f_abs, i_int, i_intB, i_intN, i_intT, i_intL, i_intS, i_bool, i_boolB, i_tup, i_tupN, i_tupL, i_tupI, x_tup, x_lst, l_tup, l_lst, r_lst, r_tup, q_lst, q_tup, z_lst, z_tup, t_one, w_nil, w_cons, sget_0, sget_S, List.set_cons_zero, List.set_cons_succ, Option.map_some, Option.bind_some, eqD_int, Bool.not_true, Bool.not_false, sz_0, szT_0, sz_1, szT_1, sz_2, szT_2, sz_3, szT_3, sz_4, szT_4, sz_5, szT_5, sz_6, szT_6, t_many2, t_many3, t_many4, t_lst2, t_lst3, x_ref]
  rfl
theorem next_1 {n : Nat} {cs : List Int} {j b a : Int} (ha : binop .fdiv (.int j) (.int 12) = some (.int a)) : evS (C (n + 2)) fuelL s__law_next_1 [.val (.ref 0), .val (.int b), .un, .un] (Dw cs j) = .ok (.nx, [.val (.ref 0), .val (.int b), .val (.int a), .un]) (Dw cs j) := by
  simp only [s__law_next_1, evSs, evS, evE, evEs, evBs, evO, evT, evI, rd_k, rd_g, rd_bin, rd_neg, rd_not, rd_and, rd_or, rd_cmp, rd_chain, rd_ite, rd_tup, rd_lst, rd_ix, rd_sl, rd_rev, rd_call, rd_sumL, rd_join, rd_cnt, rd_stp, rd_bf, rd_isI, rd_v, R.bind, lift_ok, lift_ex, of_some, asB_ok, asB_ex, asI_ok, asI_ex, asD_ok, asD_ex, fold2_t, fold2_f, fold2_ex, keepIf_t, keepIf_f, ntup_some, calm_o, items_t, items_l, slotR, sl_v, b_add, b_sub, c_eq, c_ne, c_lt, c_le, c_gt, c_ge, f_lenL, f_lenT, f_tupL, f_tupT, f_lstL, f_lstT, f_int, f_abs, i_int, i_intB, i_intN, i_intT, i_intL, i_intS, i_bool, i_boolB, i_tup, i_tupN, i_tupL, i_tupI, x_tup, x_lst, l_tup, l_lst, r_lst, r_tup, q_lst, q_tup, z_lst, z_tup, t_one, w_nil, w_cons, sget_0, sget_S, List.set_cons_zero, List.set_cons_succ, Option.map_some, Option.bind_some, eqD_int, Bool.not_true, Bool.not_false, sz_0, szT_0, sz_1, szT_1, sz_2, szT_2, sz_3, szT_3, sz_4, szT_4, sz_5, szT_5, sz_6, szT_6, t_many2, t_many3, t_many4, t_lst2, t_lst3, x_ref, show ((Dw cs j)[0]?.bind fun xs => atI xs 2) = some (.int j) from rfl, ha]
theorem next_2 {n : Nat} {cs : List Int} {j b a v : Int} (hv : C (n + 2) 16 [.lst (cs.map .int), .int (0 + a)] (Dw cs j) = .ok (.int v) (Dw cs j)) : evS (C (n + 2)) fuelL s__law_next_2 [.val (.ref 0), .val (.int b), .val (.int a), .un] (Dw cs j) = .ok (.nx, [.val (.ref 0), .val (.int b), .val (.int a), .val (.int (v + 31 * a))]) (Dw cs j) := by
  simp only [s__law_next_2, evSs, evS, evE, evEs, evBs, evO, evT, evI, rd_k, rd_g, rd_bin, rd_neg, rd_not, rd_and, rd_or, rd_cmp, rd_chain, rd_ite, rd_tup, rd_lst, rd_ix, rd_sl, rd_rev, rd_call, rd_sumL, rd_join, rd_cnt, rd_stp, rd_bf, rd_isI, rd_v, R.bind, lift_ok, lift_ex, of_some, asB_ok, asB_ex, asI_ok, asI_ex, asD_ok, asD_ex, fold2_t, fold2_f, fold2_ex, keepIf_t, keepIf_f, ntup_some, calm_o, items_t, items_l, slotR, sl_v, b_add, b_sub, c_eq, c_ne, c_lt, c_le, c_gt, c_ge, f_lenL, f_lenT, f_tupL, f_tupT, f_lstL, f_lstT, f_int, f_abs, i_int, i_intB, i_intN, i_intT, i_intL, i_intS, i_bool, i_boolB, i_tup, i_tupN, i_tupL, i_tupI, x_tup, x_lst, l_tup, l_lst, r_lst, r_tup, q_lst, q_tup, z_lst, z_tup, t_one, w_nil, w_cons, sget_0, sget_S, List.set_cons_zero, List.set_cons_succ, Option.map_some, Option.bind_some, eqD_int, Bool.not_true, Bool.not_false, sz_0, szT_0, sz_1, szT_1, sz_2, szT_2, sz_3, szT_3, sz_4, szT_4, sz_5, szT_5, sz_6, szT_6, t_many2, t_many3, t_many4, t_lst2, t_lst3, x_ref, show ((Dw cs j)[0]?.bind fun xs => atI xs 1) = some (.int 0) from rfl, show ((Dw cs j)[0]?.bind fun xs => atI xs 0) = some (.lst (cs.map .int)) from rfl, hv, b_mul _ _ (.inl (small_of (i := 31) (by decide) (by decide)))]
theorem next_3 {n : Nat} {cs : List Int} {j b a v m r : Int} (hm : binop .mod (.int j) (.int 12) = some (.int m)) (hr : C (n + 2) 18 [.int v, .int (m + 1), .int b] (Dw cs j) = .ok (.int r) (Dw cs j)) : evSs (C (n + 2)) fuelL (.cons s__law_next_3 .nil) [.val (.ref 0), .val (.int b), .val (.int a), .val (.int v)] (Dw cs j) = .ok (.rt (.int r), [.val (.ref 0), .val (.int b), .val (.int a), .val (.int v)]) (Dw cs j) := by
  simp only [s__law_next_3, evSs, evS, evE, evEs, evBs, evO, evT, evI, rd_k, rd_g, rd_bin, rd_neg, rd_not, rd_and, rd_or, rd_cmp, rd_chain, rd_ite, rd_tup, rd_lst, rd_ix, rd_sl, rd_rev, rd_call, rd_sumL, rd_join, rd_cnt, rd_stp, rd_bf, rd_isI, rd_v, R.bind, lift_ok, lift_ex, of_some, asB_ok, asB_ex, asI_ok, asI_ex, asD_ok, asD_ex, fold2_t, fold2_f, fold2_ex, keepIf_t, keepIf_f, ntup_some, calm_o, items_t, items_l, slotR, sl_v, b_add, b_sub, c_eq, c_ne, c_lt, c_le, c_gt, c_ge, f_lenL, f_lenT, f_tupL, f_tupT, f_lstL, f_lstT, f_int, f_abs, i_int, i_intB, i_intN, i_intT, i_intL, i_intS, i_bool, i_boolB, i_tup, i_tupN, i_tupL, i_tupI, x_tup, x_lst, l_tup, l_lst, r_lst, r_tup, q_lst, q_tup, z_lst, z_tup, t_one, w_nil, w_cons, sget_0, sget_S, List.set_cons_zero, List.set_cons_succ, Option.map_some, Option.bind_some, eqD_int, Bool.not_true, Bool.not_false, sz_0, szT_0, sz_1, szT_1, sz_2, szT_2, sz_3, szT_3, sz_4, szT_4, sz_5, szT_5, sz_6, szT_6, t_many2, t_many3, t_many4, t_lst2, t_lst3, x_ref, show ((Dw cs j)[0]?.bind fun xs => atI xs 2) = some (.int j) from rfl, hm, hr]
theorem next_ok {n : Nat} {cs : List Int} {j b : Int} (hj : 0 ≤ j) (hb : 0 < b) : ∃ r : Int, 0 ≤ r ∧ r < b ∧ C (n + 3) 19 [.ref 0, .int b] (Dw cs j) = .ok (.int r) (Dw cs (j + 1)) := by
  obtain ⟨i, hi⟩ : ∃ i, i = j + 1 := ⟨_, rfl⟩
  have w0 := next_0 (n := n) (cs := cs) (j := j) (b := b)
  rw [← hi] at w0
  have ha : binop .fdiv (.int i) (.int 12) = some (.int (i / 12)) := b_fdiv _ _ (by decide) (by decide)
  have hm : binop .mod (.int i) (.int 12) = some (.int (i % 12)) := b_mod _ _ (by decide)
  have ga : 0 ≤ 0 + i / 12 := by omega
  have gm : 0 ≤ i % 12 + 1 ∧ i % 12 + 1 < 24 := by omega
  generalize i / 12 = a at ha ga
  generalize i % 12 = m at hm gm
  obtain ⟨v, hv⟩ := cell_ok (n := n + 1) (cs := cs) (k := 0 + a) (st := Dw cs i) ga
  obtain ⟨r, h1, h2, hr⟩ := number_ok (n := n) (c := v + 31 * a) (k := m + 1) (b := b) (st := Dw cs i) gm.1 gm.2 hb
  refine ⟨r, h1, h2, ?_⟩
  rw [← hi]
  exact call_rt (fn := r__law_next.fn) rfl rfl rfl (((ss_nx w0).trans (ss_nx (next_1 ha))).trans ((ss_nx (next_2 hv)).trans (next_3 hm hr)))

theorem whole_int {n : Nat} {i : Int} {st : Sto} : C (n + 1) 0 [.int i] st = .ok (.bl true) st :=
  call_rt (fn := r_is_whole.fn) rfl rfl rfl (env := [.val (.int i)]) (by
    show evSs (C n) fuelL b_is_whole [.val (.int i)] st = _
    simp only [b_is_whole, evSs, evS, evE, evEs, evBs, evO, evT, evI, rd_k, rd_g, rd_bin, rd_neg, rd_not, rd_and, rd_or, rd_cmp, rd_chain, rd_ite, rd_tup, rd_lst, rd_ix, rd_sl, rd_rev, rd_call, rd_sumL, rd_join, rd_cnt, rd_stp, rd_bf, rd_isI, rd_v, R.bind, lift_ok, lift_ex, of_some, asB_ok, asB_ex, asI_ok, asI_ex, asD_ok, asD_ex, fold2_t, fold2_f, fold2_ex, keepIf_t, keepIf_f, ntup_some, calm_o, items_t, items_l, slotR, sl_v, b_add, b_sub, c_eq, c_ne, c_lt, c_le, c_gt, c_ge, f_lenL, f_lenT, f_tupL, f_tupT, f_lstL, f_lstT, f_int, f_abs, i_int, i_intB, i_intN, i_intT, i_intL, i_intS, i_bool, i_boolB, i_tup, i_tupN, i_tupL, i_tupI, x_tup, x_lst, l_tup, l_lst, r_lst, r_tup, q_lst, q_tup, z_lst, z_tup, t_one, w_nil, w_cons, sget_0, sget_S, List.set_cons_zero, List.set_cons_succ, Option.map_some, Option.bind_some, eqD_int, Bool.not_true, Bool.not_false, sz_0, szT_0, sz_1, szT_1, sz_2, szT_2, sz_3, szT_3, sz_4, szT_4, sz_5, szT_5, sz_6, szT_6, t_many2, t_many3, t_many4, t_lst2, t_lst3])
theorem whole_non {n : Nat} {st : Sto} : C (n + 1) 0 [.non] st = .ok (.bl false) st :=
  call_rt (fn := r_is_whole.fn) rfl rfl rfl (env := [.val .non]) (by
    show evSs (C n) fuelL b_is_whole [.val .non] st = _
    simp only [b_is_whole, evSs, evS, evE, evEs, evBs, evO, evT, evI, rd_k, rd_g, rd_bin, rd_neg, rd_not, rd_and, rd_or, rd_cmp, rd_chain, rd_ite, rd_tup, rd_lst, rd_ix, rd_sl, rd_rev, rd_call, rd_sumL, rd_join, rd_cnt, rd_stp, rd_bf, rd_isI, rd_v, R.bind, lift_ok, lift_ex, of_some, asB_ok, asB_ex, asI_ok, asI_ex, asD_ok, asD_ex, fold2_t, fold2_f, fold2_ex, keepIf_t, keepIf_f, ntup_some, calm_o, items_t, items_l, slotR, sl_v, b_add, b_sub, c_eq, c_ne, c_lt, c_le, c_gt, c_ge, f_lenL, f_lenT, f_tupL, f_tupT, f_lstL, f_lstT, f_int, f_abs, i_int, i_intB, i_intN, i_intT, i_intL, i_intS, i_bool, i_boolB, i_tup, i_tupN, i_tupL, i_tupI, x_tup, x_lst, l_tup, l_lst, r_lst, r_tup, q_lst, q_tup, z_lst, z_tup, t_one, w_nil, w_cons, sget_0, sget_S, List.set_cons_zero, List.set_cons_succ, Option.map_some, Option.bind_some, eqD_int, Bool.not_true, Bool.not_false, sz_0, szT_0, sz_1, szT_1, sz_2, szT_2, sz_3, szT_3, sz_4, szT_4, sz_5, szT_5, sz_6, szT_6, t_many2, t_many3, t_many4, t_lst2, t_lst3])
theorem from_int {n : Nat} {i lo hi : Int} {st : Sto} : C (n + 2) 1 [.int i, .int lo, .int hi] st = .ok (.bl (decide (lo ≤ i) && decide (i ≤ hi))) st :=
  call_rt (fn := r_is_from.fn) rfl rfl rfl (env := [.val (.int i), .val (.int lo), .val (.int hi)]) (by
    show evSs (C (n + 1)) fuelL b_is_from [.val (.int i), .val (.int lo), .val (.int hi)] st = _
    cases h : decide (lo ≤ i) <;> simp only [b_is_from, evSs, evS, evE, evEs, evBs, evO, evT, evI, rd_k, rd_g, rd_bin, rd_neg, rd_not, rd_and, rd_or, rd_cmp, rd_chain, rd_ite, rd_tup, rd_lst, rd_ix, rd_sl, rd_rev, rd_call, rd_sumL, rd_join, rd_cnt, rd_stp, rd_bf, rd_isI, rd_v, R.bind, lift_ok, lift_ex, of_some, asB_ok, asB_ex, asI_ok, asI_ex, asD_ok, asD_ex, fold2_t, fold2_f, fold2_ex, keepIf_t, keepIf_f, ntup_some, calm_o, items_t, items_l, slotR, sl_v, b_add, b_sub, c_eq, c_ne, c_lt, c_le, c_gt, c_ge, f_lenL, f_lenT, f_tupL, f_tupT, f_lstL, f_lstT, f_int, f_abs, i_int, i_intB, i_intN, i_intT, i_intL, i_intS, i_bool, i_boolB, i_tup, i_tupN, i_tupL, i_tupI, x_tup, x_lst, l_tup, l_lst, r_lst, r_tup, q_lst, q_tup, z_lst, z_tup, t_one, w_nil, w_cons, sget_0, sget_S, List.set_cons_zero, List.set_cons_succ, Option.map_some, Option.bind_some, eqD_int, Bool.not_true, Bool.not_false, sz_0, szT_0, sz_1, szT_1, sz_2, szT_2, sz_3, szT_3, sz_4, szT_4, sz_5, szT_5, sz_6, szT_6, t_many2, t_many3, t_many4, t_lst2, t_lst3, whole_int, h, Bool.true_and, Bool.false_and])
theorem from_yes {n : Nat} {i lo hi : Int} {st : Sto} (h1 : lo ≤ i) (h2 : i ≤ hi) : C (n + 2) 1 [.int i, .int lo, .int hi] st = .ok (.bl true) st := by
  rw [from_int, decide_eq_true h1, decide_eq_true h2] <;> rfl
theorem from_non {n : Nat} {lo hi : D} {st : Sto} : C (n + 2) 1 [.non, lo, hi] st = .ok (.bl false) st :=
  call_rt (fn := r_is_from.fn) rfl rfl rfl (env := [.val .non, .val lo, .val hi]) (by
    show evSs (C (n + 1)) fuelL b_is_from [.val .non, .val lo, .val hi] st = _
    simp only [b_is_from, evSs, evS, evE, evEs, evBs, evO, evT, evI, rd_k, rd_g, rd_bin, rd_neg, rd_not, rd_and, rd_or, rd_cmp, rd_chain, rd_ite, rd_tup, rd_lst, rd_ix, rd_sl, rd_rev, rd_call, rd_sumL, rd_join, rd_cnt, rd_stp, rd_bf, rd_isI, rd_v, R.bind, lift_ok, lift_ex, of_some, asB_ok, asB_ex, asI_ok, asI_ex, asD_ok, asD_ex, fold2_t, fold2_f, fold2_ex, keepIf_t, keepIf_f, ntup_some, calm_o, items_t, items_l, slotR, sl_v, b_add, b_sub, c_eq, c_ne, c_lt, c_le, c_gt, c_ge, f_lenL, f_lenT, f_tupL, f_tupT, f_lstL, f_lstT, f_int, f_abs, i_int, i_intB, i_intN, i_intT, i_intL, i_intS, i_bool, i_boolB, i_tup, i_tupN, i_tupL, i_tupI, x_tup, x_lst, l_tup, l_lst, r_lst, r_tup, q_lst, q_tup, z_lst, z_tup, t_one, w_nil, w_cons, sget_0, sget_S, List.set_cons_zero, List.set_cons_succ, Option.map_some, Option.bind_some, eqD_int, Bool.not_true, Bool.not_false, sz_0, szT_0, sz_1, szT_1, sz_2, szT_2, sz_3, szT_3, sz_4, szT_4, sz_5, szT_5, sz_6, szT_6, t_many2, t_many3, t_many4, t_lst2, t_lst3, whole_non])
def Nm (i : Int) : Prop := -1000000000000 ≤ i ∧ i ≤ 1000000000000
theorem num_int {n : Nat} {i : Int} {st : Sto} (h : Nm i) : C (n + 3) 2 [.int i] st = .ok (.bl true) st :=
  call_rt (fn := r_is_number.fn) rfl rfl rfl (env := [.val (.int i)]) (by
    show evSs (C (n + 2)) fuelL b_is_number [.val (.int i)] st = _
    simp only [b_is_number, evSs, evS, evE, evEs, evBs, evO, evT, evI, rd_k, rd_g, rd_bin, rd_neg, rd_not, rd_and, rd_or, rd_cmp, rd_chain, rd_ite, rd_tup, rd_lst, rd_ix, rd_sl, rd_rev, rd_call, rd_sumL, rd_join, rd_cnt, rd_stp, rd_bf, rd_isI, rd_v, R.bind, lift_ok, lift_ex, of_some, asB_ok, asB_ex, asI_ok, asI_ex, asD_ok, asD_ex, fold2_t, fold2_f, fold2_ex, keepIf_t, keepIf_f, ntup_some, calm_o, items_t, items_l, slotR, sl_v, b_add, b_sub, c_eq, c_ne, c_lt, c_le, c_gt, c_ge, f_lenL, f_lenT, f_tupL, f_tupT, f_lstL, f_lstT, f_int, f_abs, i_int, i_intB, i_intN, i_intT, i_intL, i_intS, i_bool, i_boolB, i_tup, i_tupN, i_tupL, i_tupI, x_tup, x_lst, l_tup, l_lst, r_lst, r_tup, q_lst, q_tup, z_lst, z_tup, t_one, w_nil, w_cons, sget_0, sget_S, List.set_cons_zero, List.set_cons_succ, Option.map_some, Option.bind_some, eqD_int, Bool.not_true, Bool.not_false, sz_0, szT_0, sz_1, szT_1, sz_2, szT_2, sz_3, szT_3, sz_4, szT_4, sz_5, szT_5, sz_6, szT_6, t_many2, t_many3, t_many4, t_lst2, t_lst3, from_yes h.1 h.2])
theorem num_non {n : Nat} {st : Sto} : C (n + 3) 2 [.non] st = .ok (.bl false) st :=
  call_rt (fn := r_is_number.fn) rfl rfl rfl (env := [.val .non]) (by
    show evSs (C (n + 2)) fuelL b_is_number [.val .non] st = _
    simp only [b_is_number, evSs, evS, evE, evEs, evBs, evO, evT, evI, rd_k, rd_g, rd_bin, rd_neg, rd_not, rd_and, rd_or, rd_cmp, rd_chain, rd_ite, rd_tup, rd_lst, rd_ix, rd_sl, rd_rev, rd_call, rd_sumL, rd_join, rd_cnt, rd_stp, rd_bf, rd_isI, rd_v, R.bind, lift_ok, lift_ex, of_some, asB_ok, asB_ex, asI_ok, asI_ex, asD_ok, asD_ex, fold2_t, fold2_f, fold2_ex, keepIf_t, keepIf_f, ntup_some, calm_o, items_t, items_l, slotR, sl_v, b_add, b_sub, c_eq, c_ne, c_lt, c_le, c_gt, c_ge, f_lenL, f_lenT, f_tupL, f_tupT, f_lstL, f_lstT, f_int, f_abs, i_int, i_intB, i_intN, i_intT, i_intL, i_intS, i_bool, i_boolB, i_tup, i_tupN, i_tupL, i_tupI, x_tup, x_lst, l_tup, l_lst, r_lst, r_tup, q_lst, q_tup, z_lst, z_tup, t_one, w_nil, w_cons, sget_0, sget_S, List.set_cons_zero, List.set_cons_succ, Option.map_some, Option.bind_some, eqD_int, Bool.not_true, Bool.not_false, sz_0, szT_0, sz_1, szT_1, sz_2, szT_2, sz_3, szT_3, sz_4, szT_4, sz_5, szT_5, sz_6, szT_6, t_many2, t_many3, t_many4, t_lst2, t_lst3, from_non])
theorem whole_tt {n : Nat} {st : Sto} : C (n + 1) 0 [.bl true] st = .ok (.bl false) st :=
  call_rt (fn := r_is_whole.fn) rfl rfl rfl (env := [.val (.bl true)]) (by
    show evSs (C n) fuelL b_is_whole [.val (.bl true)] st = _
    simp only [b_is_whole, evSs, evS, evE, evEs, evBs, evO, evT, evI, rd_k, rd_g, rd_bin, rd_neg, rd_not, rd_and, rd_or, rd_cmp, rd_chain, rd_ite, rd_tup, rd_lst, rd_ix, rd_sl, rd_rev, rd_call, rd_sumL, rd_join, rd_cnt, rd_stp, rd_bf, rd_isI, rd_v, R.bind, lift_ok, lift_ex, of_some, asB_ok, asB_ex, asI_ok, asI_ex, asD_ok, asD_ex, fold2_t, fold2_f, fold2_ex, keepIf_t, keepIf_f, ntup_some, calm_o, items_t, items_l, slotR, sl_v, b_add, b_sub, c_eq, c_ne, c_lt, c_le, c_gt, c_ge, f_lenL, f_lenT, f_tupL, f_tupT, f_lstL, f_lstT, f_int, f_abs, i_int, i_intB, i_intN, i_intT, i_intL, i_intS, i_bool, i_boolB, i_tup, i_tupN, i_tupL, i_tupI, x_tup, x_lst, l_tup, l_lst, r_lst, r_tup, q_lst, q_tup, z_lst, z_tup, t_one, w_nil, w_cons, sget_0, sget_S, List.set_cons_zero, List.set_cons_succ, Option.map_some, Option.bind_some, eqD_int, Bool.not_true, Bool.not_false, sz_0, szT_0, sz_1, szT_1, sz_2, szT_2, sz_3, szT_3, sz_4, szT_4, sz_5, szT_5, sz_6, szT_6, t_many2, t_many3, t_many4, t_lst2, t_lst3])
theorem from_tt {n : Nat} {st : Sto} {lo hi : D} : C (n + 2) 1 [.bl true, lo, hi] st = .ok (.bl false) st :=
  call_rt (fn := r_is_from.fn) rfl rfl rfl (env := [.val (.bl true), .val lo, .val hi]) (by
    show evSs (C (n + 1)) fuelL b_is_from [.val (.bl true), .val lo, .val hi] st = _
    simp only [b_is_from, evSs, evS, evE, evEs, evBs, evO, evT, evI, rd_k, rd_g, rd_bin, rd_neg, rd_not, rd_and, rd_or, rd_cmp, rd_chain, rd_ite, rd_tup, rd_lst, rd_ix, rd_sl, rd_rev, rd_call, rd_sumL, rd_join, rd_cnt, rd_stp, rd_bf, rd_isI, rd_v, R.bind, lift_ok, lift_ex, of_some, asB_ok, asB_ex, asI_ok, asI_ex, asD_ok, asD_ex, fold2_t, fold2_f, fold2_ex, keepIf_t, keepIf_f, ntup_some, calm_o, items_t, items_l, slotR, sl_v, b_add, b_sub, c_eq, c_ne, c_lt, c_le, c_gt, c_ge, f_lenL, f_lenT, f_tupL, f_tupT, f_lstL, f_lstT, f_int, f_abs, i_int, i_intB, i_intN, i_intT, i_intL, i_intS, i_bool, i_boolB, i_tup, i_tupN, i_tupL, i_tupI, x_tup, x_lst, l_tup, l_lst, r_lst, r_tup, q_lst, q_tup, z_lst, z_tup, t_one, w_nil, w_cons, sget_0, sget_S, List.set_cons_zero, List.set_cons_succ, Option.map_some, Option.bind_some, eqD_int, Bool.not_true, Bool.not_false, sz_0, szT_0, sz_1, szT_1, sz_2, szT_2, sz_3, szT_3, sz_4, szT_4, sz_5, szT_5, sz_6, szT_6, t_many2, t_many3, t_many4, t_lst2, t_lst3, whole_tt])
theorem from_no {n : Nat} {st : Sto} {i lo hi : Int} (h : ¬ (lo ≤ i ∧ i ≤ hi)) : C (n + 2) 1 [.int i, .int lo, .int hi] st = .ok (.bl false) st := by
  rw [from_int]
  by_cases h1 : lo ≤ i
  · rw [decide_eq_false (fun q => h ⟨h1, q⟩), Bool.and_false]
  · rw [decide_eq_false h1, Bool.false_and]
theorem whole_tup {n : Nat} {st : Sto} {xs : List D} : C (n + 1) 0 [.tup xs] st = .ok (.bl false) st :=
  call_rt (fn := r_is_whole.fn) rfl rfl rfl (env := [.val (.tup xs)]) (by
    show evSs (C n) fuelL b_is_whole [.val (.tup xs)] st = _
    simp only [b_is_whole, evSs, evS, evE, evEs, evBs, evO, evT, evI, rd_k, rd_g, rd_bin, rd_neg, rd_not, rd_and, rd_or, rd_cmp, rd_chain, rd_ite, rd_tup, rd_lst, rd_ix, rd_sl, rd_rev, rd_call, rd_sumL, rd_join, rd_cnt, rd_stp, rd_bf, rd_isI, rd_v, R.bind, lift_ok, lift_ex, of_some, asB_ok, asB_ex, asI_ok, asI_ex, asD_ok, asD_ex, fold2_t, fold2_f, fold2_ex, keepIf_t, keepIf_f, ntup_some, calm_o, items_t, items_l, slotR, sl_v, b_add, b_sub, c_eq, c_ne, c_lt, c_le, c_gt, c_ge, f_lenL, f_lenT, f_tupL, f_tupT, f_lstL, f_lstT, f_int, f_abs, i_int, i_intB, i_intN, i_intT, i_intL, i_intS, i_bool, i_boolB, i_tup, i_tupN, i_tupL, i_tupI, x_tup, x_lst, l_tup, l_lst, r_lst, r_tup, q_lst, q_tup, z_lst, z_tup, t_one, w_nil, w_cons, sget_0, sget_S, List.set_cons_zero, List.set_cons_succ, Option.map_some, Option.bind_some, eqD_int, Bool.not_true, Bool.not_false, sz_0, szT_0, sz_1, szT_1, sz_2, szT_2, sz_3, szT_3, sz_4, szT_4, sz_5, szT_5, sz_6, szT_6, t_many2, t_many3, t_many4, t_lst2, t_lst3])
theorem whole_lst {n : Nat} {st : Sto} {xs : List D} : C (n + 1) 0 [.lst xs] st = .ok (.bl false) st :=
  call_rt (fn := r_is_whole.fn) rfl rfl rfl (env := [.val (.lst xs)]) (by
    show evSs (C n) fuelL b_is_whole [.val (.lst xs)] st = _
    simp only [b_is_whole, evSs, evS, evE, evEs, evBs, evO, evT, evI, rd_k, rd_g, rd_bin, rd_neg, rd_not, rd_and, rd_or, rd_cmp, rd_chain, rd_ite, rd_tup, rd_lst, rd_ix, rd_sl, rd_rev, rd_call, rd_sumL, rd_join, rd_cnt, rd_stp, rd_bf, rd_isI, rd_v, R.bind, lift_ok, lift_ex, of_some, asB_ok, asB_ex, asI_ok, asI_ex, asD_ok, asD_ex, fold2_t, fold2_f, fold2_ex, keepIf_t, keepIf_f, ntup_some, calm_o, items_t, items_l, slotR, sl_v, b_add, b_sub, c_eq, c_ne, c_lt, c_le, c_gt, c_ge, f_lenL, f_lenT, f_tupL, f_tupT, f_lstL, f_lstT, f_int, f_abs, i_int, i_intB, i_intN, i_intT, i_intL, i_intS, i_bool, i_boolB, i_tup, i_tupN, i_tupL, i_tupI, x_tup, x_lst, l_tup, l_lst, r_lst, r_tup, q_lst, q_tup, z_lst, z_tup, t_one, w_nil, w_cons, sget_0, sget_S, List.set_cons_zero, List.set_cons_succ, Option.map_some, Option.bind_some, eqD_int, Bool.not_true, Bool.not_false, sz_0, szT_0, sz_1, szT_1, sz_2, szT_2, sz_3, szT_3, sz_4, szT_4, sz_5, szT_5, sz_6, szT_6, t_many2, t_many3, t_many4, t_lst2, t_lst3])
theorem num_tt {n : Nat} {st : Sto} : C (n + 3) 2 [.bl true] st = .ok (.bl false) st :=
  call_rt (fn := r_is_number.fn) rfl rfl rfl (env := [.val (.bl true)]) (by
    show evSs (C (n + 2)) fuelL b_is_number [.val (.bl true)] st = _
    simp only [b_is_number, evSs, evS, evE, evEs, evBs, evO, evT, evI, rd_k, rd_g, rd_bin, rd_neg, rd_not, rd_and, rd_or, rd_cmp, rd_chain, rd_ite, rd_tup, rd_lst, rd_ix, rd_sl, rd_rev, rd_call, rd_sumL, rd_join, rd_cnt, rd_stp, rd_bf, rd_isI, rd_v, R.bind, lift_ok, lift_ex, of_some, asB_ok, asB_ex, asI_ok, asI_ex, asD_ok, asD_ex, fold2_t, fold2_f, fold2_ex, keepIf_t, keepIf_f, ntup_some, calm_o, items_t, items_l, slotR, sl_v, b_add, b_sub, c_eq, c_ne, c_lt, c_le, c_gt, c_ge, f_lenL, f_lenT, f_tupL, f_tupT, f_lstL, f_lstT, f_int, f_abs, i_int, i_intB, i_intN, i_intT, i_intL, i_intS, i_bool, i_boolB, i_tup, i_tupN, i_tupL, i_tupI, x_tup, x_lst, l_tup, l_lst, r_lst, r_tup, q_lst, q_tup, z_lst, z_tup, t_one, w_nil, w_cons, sget_0, sget_S, List.set_cons_zero, List.set_cons_succ, Option.map_some, Option.bind_some, eqD_int, Bool.not_true, Bool.not_false, sz_0, szT_0, sz_1, szT_1, sz_2, szT_2, sz_3, szT_3, sz_4, szT_4, sz_5, szT_5, sz_6, szT_6, t_many2, t_many3, t_many4, t_lst2, t_lst3, from_tt])

/-! ### lean fractions -/
theorem lean_turn {n : Nat} {a b x y : Int} {st : Sto} (hy : 0 < y) (hy2 : y ≤ 4000) : evSs (C n) fuelL f_lean_0 [.val (.int a), .val (.int b), .val (.int x), .val (.int y)] st = .ok (.nx, [.val (.int a), .val (.int b), .val (.int y), .val (.int (x - y * (x / y)))]) st := by
  have h1 : y.natAbs.log2 < 9000 := by
    have : y.natAbs < 2 ^ 9000 := Nat.lt_of_le_of_lt (show y.natAbs ≤ 4000 by omega) (by decide +kernel)
    exact (Nat.log2_lt (by omega)).mpr this
  have h2 : small64 y = true := small_of (by omega) (by omega)
  simp only [f_lean_0, evSs, evS, evE, evEs, evBs, evO, evT, evI, rd_k, rd_g, rd_bin, rd_neg, rd_not, rd_and, rd_or, rd_cmp, rd_chain, rd_ite, rd_tup, rd_lst, rd_ix, rd_sl, rd_rev, rd_call, rd_sumL, rd_join, rd_cnt, rd_stp, rd_bf, rd_isI, rd_v, R.bind, lift_ok, lift_ex, of_some, asB_ok, asB_ex, asI_ok, asI_ex, asD_ok, asD_ex, fold2_t, fold2_f, fold2_ex, keepIf_t, keepIf_f, ntup_some, calm_o, items_t, items_l, slotR, sl_v, b_add, b_sub, c_eq, c_ne, c_lt, c_le, c_gt, c_ge, f_lenL, f_lenT, f_tupL, f_tupT, f_lstL, f_lstT, f_int, f_abs, i_int, i_intB, i_intN, i_intT, i_intL, i_intS, i_bool, i_boolB, i_tup, i_tupN, i_tupL, i_tupI, x_tup, x_lst, l_tup, l_lst, r_lst, r_tup, q_lst, q_tup, z_lst, z_tup, t_one, w_nil, w_cons, sget_0, sget_S, List.set_cons_zero, List.set_cons_succ, Option.map_some, Option.bind_some, eqD_int, Bool.not_true, Bool.not_false, sz_0, szT_0, sz_1, szT_1, sz_2, szT_2, sz_3, szT_3, sz_4, szT_4, sz_5, szT_5, sz_6, szT_6, t_many2, t_many3, t_many4, t_lst2, t_lst3, b_fdiv _ _ hy h1, b_mul _ _ (.inl h2)]
theorem gcd_turn {x y : Int} (hx : 0 ≤ x) (hy : 0 ≤ y) : Int.gcd y (x % y) = Int.gcd x y := by
  obtain ⟨p, rfl⟩ := Int.eq_ofNat_of_zero_le hx
  obtain ⟨q, rfl⟩ := Int.eq_ofNat_of_zero_le hy
  show Nat.gcd q (p % q) = Nat.gcd p q
  rw [Nat.gcd_comm p q, Nat.gcd_comm q (p % q), ← Nat.gcd_rec]
theorem lean_loop {n : Nat} {a b : Int} {st : Sto} : ∀ (m : Nat) (x y : Int) (L : Nat), 0 ≤ x → 0 ≤ y → y ≤ (m : Nat) → m ≤ 4000 → m < L →
    loopW (fun env s => asB (evE (C n) (.cmp .gt (.v 3) (.k (.int (0)))) env s)) (fun env s => evSs (C n) fuelL f_lean_0 env s) L [.val (.int a), .val (.int b), .val (.int x), .val (.int y)] st =
    .ok (.nx, [.val (.int a), .val (.int b), .val (.int (Int.gcd x y)), .val (.int 0)]) st := by
  intro m
  induction m with
  | zero =>
    intro x y L hx h0 hy hm hL
    obtain ⟨L, rfl⟩ : ∃ k, L = k + 1 := ⟨L - 1, by omega⟩
    obtain rfl : y = 0 := by omega
    have t : asB (evE (C n) (.cmp .gt (.v 3) (.k (.int (0)))) [.val (.int a), .val (.int b), .val (.int x), .val (.int 0)] st) = .ok false st := by
      simp only [evSs, evS, evE, evEs, evBs, evO, evT, evI, rd_k, rd_g, rd_bin, rd_neg, rd_not, rd_and, rd_or, rd_cmp, rd_chain, rd_ite, rd_tup, rd_lst, rd_ix, rd_sl, rd_rev, rd_call, rd_sumL, rd_join, rd_cnt, rd_stp, rd_bf, rd_isI, rd_v, R.bind, lift_ok, lift_ex, of_some, asB_ok, asB_ex, asI_ok, asI_ex, asD_ok, asD_ex, fold2_t, fold2_f, fold2_ex, keepIf_t, keepIf_f, ntup_some, calm_o, items_t, items_l, slotR, sl_v, b_add, b_sub, c_eq, c_ne, c_lt, c_le, c_gt, c_ge, f_lenL, f_lenT, f_tupL, f_tupT, f_lstL, f_lstT, f_int, f_abs, i_int, i_intB, i_intN, i_intT, i_intL, i_intS, i_bool, i_boolB, i_tup, i_tupN, i_tupL, i_tupI, x_tup, x_lst, l_tup, l_lst, r_lst, r_tup, q_lst, q_tup, z_lst, z_tup, t_one, w_nil, w_cons, sget_0, sget_S, List.set_cons_zero, List.set_cons_succ, Option.map_some, Option.bind_some, eqD_int, Bool.not_true, Bool.not_false, sz_0, szT_0, sz_1, szT_1, sz_2, szT_2, sz_3, szT_3, sz_4, szT_4, sz_5, szT_5, sz_6, szT_6, t_many2, t_many3, t_many4, t_lst2, t_lst3]
      rfl
    rw [loopW_done t, Int.gcd_zero_right, Int.natAbs_of_nonneg hx]
  | succ m ih =>
    intro x y L hx h0 hy hm hL
    obtain ⟨L, rfl⟩ : ∃ k, L = k + 1 := ⟨L - 1, by omega⟩
    by_cases q : 0 < y
    · have t : asB (evE (C n) (.cmp .gt (.v 3) (.k (.int (0)))) [.val (.int a), .val (.int b), .val (.int x), .val (.int y)] st) = .ok true st := by
        simp only [evSs, evS, evE, evEs, evBs, evO, evT, evI, rd_k, rd_g, rd_bin, rd_neg, rd_not, rd_and, rd_or, rd_cmp, rd_chain, rd_ite, rd_tup, rd_lst, rd_ix, rd_sl, rd_rev, rd_call, rd_sumL, rd_join, rd_cnt, rd_stp, rd_bf, rd_isI, rd_v, R.bind, lift_ok, lift_ex, of_some, asB_ok, asB_ex, asI_ok, asI_ex, asD_ok, asD_ex, fold2_t, fold2_f, fold2_ex, keepIf_t, keepIf_f, ntup_some, calm_o, items_t, items_l, slotR, sl_v, b_add, b_sub, c_eq, c_ne, c_lt, c_le, c_gt, c_ge, f_lenL, f_lenT, f_tupL, f_tupT, f_lstL, f_lstT, f_int, f_abs, i_int, i_intB, i_intN, i_intT, i_intL, i_intS, i_bool, i_boolB, i_tup, i_tupN, i_tupL, i_tupI, x_tup, x_lst, l_tup, l_lst, r_lst, r_tup, q_lst, q_tup, z_lst, z_tup, t_one, w_nil, w_cons, sget_0, sget_S, List.set_cons_zero, List.set_cons_succ, Option.map_some, Option.bind_some, eqD_int, Bool.not_true, Bool.not_false, sz_0, szT_0, sz_1, szT_1, sz_2, szT_2, sz_3, szT_3, sz_4, szT_4, sz_5, szT_5, sz_6, szT_6, t_many2, t_many3, t_many4, t_lst2, t_lst3, decide_eq_true q]
      rw [loopW_step t (lean_turn q (by omega))]
      have e : x - y * (x / y) = x % y := by rw [Int.emod_def]
      have h1 := Int.emod_nonneg x (show y ≠ 0 by omega)
      have h2 := Int.emod_lt_of_pos x q
      rw [e, ih y (x % y) L h0 h1 (by omega) (by omega) (by omega)]
      have g := gcd_turn hx h0
      rw [g]
    · obtain rfl : y = 0 := by omega
      have t : asB (evE (C n) (.cmp .gt (.v 3) (.k (.int (0)))) [.val (.int a), .val (.int b), .val (.int x), .val (.int 0)] st) = .ok false st := by
        simp only [evSs, evS, evE, evEs, evBs, evO, evT, evI, rd_k, rd_g, rd_bin, rd_neg, rd_not, rd_and, rd_or, rd_cmp, rd_chain, rd_ite, rd_tup, rd_lst, rd_ix, rd_sl, rd_rev, rd_call, rd_sumL, rd_join, rd_cnt, rd_stp, rd_bf, rd_isI, rd_v, R.bind, lift_ok, lift_ex, of_some, asB_ok, asB_ex, asI_ok, asI_ex, asD_ok, asD_ex, fold2_t, fold2_f, fold2_ex, keepIf_t, keepIf_f, ntup_some, calm_o, items_t, items_l, slotR, sl_v, b_add, b_sub, c_eq, c_ne, c_lt, c_le, c_gt, c_ge, f_lenL, f_lenT, f_tupL, f_tupT, f_lstL, f_lstT, f_int, f_abs, i_int, i_intB, i_intN, i_intT, i_intL, i_intS, i_bool, i_boolB, i_tup, i_tupN, i_tupL, i_tupI, x_tup, x_lst, l_tup, l_lst, r_lst, r_tup, q_lst, q_tup, z_lst, z_tup, t_one, w_nil, w_cons, sget_0, sget_S, List.set_cons_zero, List.set_cons_succ, Option.map_some, Option.bind_some, eqD_int, Bool.not_true, Bool.not_false, sz_0, szT_0, sz_1, szT_1, sz_2, szT_2, sz_3, szT_3, sz_4, szT_4, sz_5, szT_5, sz_6, szT_6, t_many2, t_many3, t_many4, t_lst2, t_lst3]
        rfl
      rw [loopW_done t, Int.gcd_zero_right, Int.natAbs_of_nonneg hx]
theorem lean_end {n : Nat} {a b g : Int} {st : Sto} (h0 : 0 < g) (h1 : g.natAbs.log2 < 9000) : evS (C n) fuelL s_lean_3 [.val (.int a), .val (.int b), .val (.int g), .val (.int 0)] st = .ok (.rt (.tup [.int (a / g), .int (b / g)]), [.val (.int a), .val (.int b), .val (.int g), .val (.int 0)]) st := by
  simp only [s_lean_3, evSs, evS, evE, evEs, evBs, evO, evT, evI, rd_k, rd_g, rd_bin, rd_neg, rd_not, rd_and, rd_or, rd_cmp, rd_chain, rd_ite, rd_tup, rd_lst, rd_ix, rd_sl, rd_rev, rd_call, rd_sumL, rd_join, rd_cnt, rd_stp, rd_bf, rd_isI, rd_v, R.bind, lift_ok, lift_ex, of_some, asB_ok, asB_ex, asI_ok, asI_ex, asD_ok, asD_ex, fold2_t, fold2_f, fold2_ex, keepIf_t, keepIf_f, ntup_some, calm_o, items_t, items_l, slotR, sl_v, b_add, b_sub, c_eq, c_ne, c_lt, c_le, c_gt, c_ge, f_lenL, f_lenT, f_tupL, f_tupT, f_lstL, f_lstT, f_int, f_abs, i_int, i_intB, i_intN, i_intT, i_intL, i_intS, i_bool, i_boolB, i_tup, i_tupN, i_tupL, i_tupI, x_tup, x_lst, l_tup, l_lst, r_lst, r_tup, q_lst, q_tup, z_lst, z_tup, t_one, w_nil, w_cons, sget_0, sget_S, List.set_cons_zero, List.set_cons_succ, Option.map_some, Option.bind_some, eqD_int, Bool.not_true, Bool.not_false, sz_0, szT_0, sz_1, szT_1, sz_2, szT_2, sz_3, szT_3, sz_4, szT_4, sz_5, szT_5, sz_6, szT_6, t_many2, t_many3, t_many4, t_lst2, t_lst3, b_fdiv _ _ h0 h1]
theorem lean_ok {n : Nat} {a b : Int} {st : Sto} (hb : 0 < b) (hb2 : b ≤ 4000) : C (n + 1) 3 [.int a, .int b] st = .ok (.tup [.int (a / Int.gcd a b), .int (b / Int.gcd a b)]) st := by
  have e0 : evS (C n) fuelL s_lean_0 [.val (.int a), .val (.int b), .un, .un] st = .ok (.nx, [.val (.int a), .val (.int b), .un, .un]) st := by
    simp only [s_lean_0, evSs, evS, evE, evEs, evBs, evO, evT, evI, rd_k, rd_g, rd_bin, rd_neg, rd_not, rd_and, rd_or, rd_cmp, rd_chain, rd_ite, rd_tup, rd_lst, rd_ix, rd_sl, rd_rev, rd_call, rd_sumL, rd_join, rd_cnt, rd_stp, rd_bf, rd_isI, rd_v, R.bind, lift_ok, lift_ex, of_some, asB_ok, asB_ex, asI_ok, asI_ex, asD_ok, asD_ex, fold2_t, fold2_f, fold2_ex, keepIf_t, keepIf_f, ntup_some, calm_o, items_t, items_l, slotR, sl_v, b_add, b_sub, c_eq, c_ne, c_lt, c_le, c_gt, c_ge, f_lenL, f_lenT, f_tupL, f_tupT, f_lstL, f_lstT, f_int, f_abs, i_int, i_intB, i_intN, i_intT, i_intL, i_intS, i_bool, i_boolB, i_tup, i_tupN, i_tupL, i_tupI, x_tup, x_lst, l_tup, l_lst, r_lst, r_tup, q_lst, q_tup, z_lst, z_tup, t_one, w_nil, w_cons, sget_0, sget_S, List.set_cons_zero, List.set_cons_succ, Option.map_some, Option.bind_some, eqD_int, Bool.not_true, Bool.not_false, sz_0, szT_0, sz_1, szT_1, sz_2, szT_2, sz_3, szT_3, sz_4, szT_4, sz_5, szT_5, sz_6, szT_6, t_many2, t_many3, t_many4, t_lst2, t_lst3, decide_eq_false (show ¬ b < 0 by omega)]
  obtain ⟨x, hx⟩ : ∃ x, x = (if a < 0 then -a else a) := ⟨_, rfl⟩
  have hx0 : 0 ≤ x := by rw [hx]; split <;> omega
  have e1 : evS (C n) fuelL s_lean_1 [.val (.int a), .val (.int b), .un, .un] st = .ok (.nx, [.val (.int a), .val (.int b), .val (.int x), .val (.int b)]) st := by
    simp only [s_lean_1, evSs, evS, evE, evEs, evBs, evO, evT, evI, rd_k, rd_g, rd_bin, rd_neg, rd_not, rd_and, rd_or, rd_cmp, rd_chain, rd_ite, rd_tup, rd_lst, rd_ix, rd_sl, rd_rev, rd_call, rd_sumL, rd_join, rd_cnt, rd_stp, rd_bf, rd_isI, rd_v, R.bind, lift_ok, lift_ex, of_some, asB_ok, asB_ex, asI_ok, asI_ex, asD_ok, asD_ex, fold2_t, fold2_f, fold2_ex, keepIf_t, keepIf_f, ntup_some, calm_o, items_t, items_l, slotR, sl_v, b_add, b_sub, c_eq, c_ne, c_lt, c_le, c_gt, c_ge, f_lenL, f_lenT, f_tupL, f_tupT, f_lstL, f_lstT, f_int, f_abs, i_int, i_intB, i_intN, i_intT, i_intL, i_intS, i_bool, i_boolB, i_tup, i_tupN, i_tupL, i_tupI, x_tup, x_lst, l_tup, l_lst, r_lst, r_tup, q_lst, q_tup, z_lst, z_tup, t_one, w_nil, w_cons, sget_0, sget_S, List.set_cons_zero, List.set_cons_succ, Option.map_some, Option.bind_some, eqD_int, Bool.not_true, Bool.not_false, sz_0, szT_0, sz_1, szT_1, sz_2, szT_2, sz_3, szT_3, sz_4, szT_4, sz_5, szT_5, sz_6, szT_6, t_many2, t_many3, t_many4, t_lst2, t_lst3, ← hx]
  have e2 : evS (C n) fuelL s_lean_2 [.val (.int a), .val (.int b), .val (.int x), .val (.int b)] st = .ok (.nx, [.val (.int a), .val (.int b), .val (.int (Int.gcd x b)), .val (.int 0)]) st :=
    lean_loop (b.toNat) x b fuelL hx0 (by omega) (by omega) (by omega) (by show b.toNat < 5000; omega)
  have g : Int.gcd x b = Int.gcd a b := by
    rw [hx]
    split
    · exact Int.neg_gcd
    · rfl
  rw [g] at e2
  have hg : 0 < Int.gcd a b := Int.gcd_pos_of_ne_zero_right a (by omega)
  have hg2 : Int.gcd a b ≤ b.natAbs := Nat.le_of_dvd (by omega) (Int.gcd_dvd_natAbs_right a b)
  have h1 : ((Int.gcd a b : Nat) : Int).natAbs.log2 < 9000 := by
    have : ((Int.gcd a b : Nat) : Int).natAbs < 2 ^ 9000 := Nat.lt_of_le_of_lt (show ((Int.gcd a b : Nat) : Int).natAbs ≤ 4000 by omega) (by decide +kernel)
    exact (Nat.log2_lt (by omega)).mpr this
  have h0 : (0 : Int) < ((Int.gcd a b : Nat) : Int) := by omega
  generalize ((Int.gcd a b : Nat) : Int) = gg at e2 h0 h1 ⊢
  exact call_rt (fn := r_lean.fn) rfl rfl rfl (((ss_nx e0).trans (ss_nx e1)).trans ((ss_nx e2).trans (ss_rt (lean_end h0 h1))))
theorem lean_up {n v w : Int} (hn : 0 < n) : (n * v) / Int.gcd (n * v) (n * w) = v / Int.gcd v w ∧ (n * w) / Int.gcd (n * v) (n * w) = w / Int.gcd v w := by
  have e : ((Int.gcd (n * v) (n * w) : Nat) : Int) = n * (Int.gcd v w : Nat) := by
    rw [Int.gcd_mul_left, Int.natCast_mul, Int.natAbs_of_nonneg (by omega)]
  rw [e]
  exact ⟨Int.mul_ediv_mul_of_pos _ _ hn, Int.mul_ediv_mul_of_pos _ _ hn⟩
/-! ### plain mathematics -/
abbrev Pt := Int × Int
def gg (rw : List Int) (i : Nat) : Int := rw.getD i 0
def leanP (a b : Int) : Pt := (a / Int.gcd a b, b / Int.gcd a b)
theorem lean_sc (a : Int) {b : Int} (hb : 0 < b) : ∃ g : Int, 0 < g ∧ a = g * (leanP a b).1 ∧ b = g * (leanP a b).2 ∧ 0 < (leanP a b).2 := by
  have hg : 0 < Int.gcd a b := Int.gcd_pos_of_ne_zero_right a (by omega)
  have h1 := Int.mul_ediv_cancel' (Int.gcd_dvd_left a b)
  have h2 := Int.mul_ediv_cancel' (Int.gcd_dvd_right a b)
  refine ⟨(Int.gcd a b : Nat), by omega, h1.symm, h2.symm, ?_⟩
  have hp : 0 < ((Int.gcd a b : Nat) : Int) := by omega
  show 0 < b / ((Int.gcd a b : Nat) : Int)
  by_cases q : 0 < b / ((Int.gcd a b : Nat) : Int)
  · exact q
  · have := Int.mul_nonneg (Int.le_of_lt hp) (show 0 ≤ -(b / ((Int.gcd a b : Nat) : Int)) by omega)
    rw [Int.mul_neg] at this
    omega
/-- a number less its phase's mean -/
theorem rest_eq {x s l : Int} (hl : 0 < l) : leanP (x * (leanP s l).2 - (leanP s l).1) (leanP s l).2 = leanP (x * l - s) l := by
  obtain ⟨g, h0, h1, h2, h3⟩ := lean_sc s hl
  generalize leanP s l = p at *
  have e : x * l - s = g * (x * p.2 - p.1) := by rw [h1, h2]; grind
  rw [e]
  have e2 : leanP (g * (x * p.2 - p.1)) l = leanP (g * (x * p.2 - p.1)) (g * p.2) := by rw [← h2]
  rw [e2]
  obtain ⟨a, b⟩ := lean_up (n := g) (v := x * p.2 - p.1) (w := p.2) h0
  unfold leanP
  rw [a, b]
/-! phases -/
def phs (rw : List Int) (m p : Nat) : List Int := stpL rw p m
def cntP (N p m : Nat) : Nat := if p < N then (N - p - 1) / m + 1 else 0
theorem in_phase {N p m j : Nat} (hm : 0 < m) : j < cntP N p m ↔ p + j * m < N := by
  unfold cntP
  split
  · rw [Nat.lt_succ_iff, Nat.le_div_iff_mul_le hm]
    omega
  · constructor
    · omega
    · intro h
      omega
theorem phs_eq {rw : List Int} {m p : Nat} (hm : 0 < m) : phs rw m p = (List.range (cntP rw.length p m)).map fun j => gg rw (p + j * m) := by
  unfold phs stpL
  show (List.range (cntP rw.length p m)).filterMap _ = _
  have : ∀ l : List Nat, (∀ j ∈ l, p + j * m < rw.length) → l.filterMap (fun j => rw[p + j * m]?) = l.map fun j => gg rw (p + j * m) := by
    intro l
    induction l with
    | nil => intro _; rfl
    | cons j l ih =>
      intro h
      have hj := h j List.mem_cons_self
      rw [List.filterMap_cons, List.getElem?_eq_getElem hj, List.map_cons, ih fun k hk => h k (List.mem_cons_of_mem _ hk)]
      unfold gg
      rw [List.getD_eq_getElem?_getD, List.getElem?_eq_getElem hj] <;> rfl
  exact this _ fun j hj => (in_phase hm).mp (List.mem_range.mp hj)
theorem phs_len {rw : List Int} {m p : Nat} (hm : 0 < m) : (phs rw m p).length = cntP rw.length p m := by
  rw [phs_eq hm, List.length_map, List.length_range]
theorem stp_map {α β : Type} (f : α → β) (xs : List α) (i m : Nat) : stpL (xs.map f) i m = (stpL xs i m).map f := by
  unfold stpL
  rw [List.length_map]
  generalize (if i < xs.length then (xs.length - i - 1) / m + 1 else 0) = k
  rw [List.map_filterMap]
  congr 1
  funext j
  rw [List.getElem?_map]
def perP (rw : List Int) (m : Nat) : Bool := (List.range (rw.length - m)).all fun i => decide (gg rw (m + i) = gg rw i)
def mxc (xs : List Int) : Int := (maxI (xs.map fun x => (xs.count x : Int))).getD 0
def pm (rw : List Int) (m : Nat) : Int := ((List.range m).map fun p => ((phs rw m p).length : Int) - mxc (phs rw m p)).sum
theorem mxc_some {xs : List Int} (h : xs ≠ []) : maxI (xs.map fun x => (xs.count x : Int)) = some (mxc xs) ∧ (∃ x ∈ xs, mxc xs = (xs.count x : Int)) ∧ ∀ x ∈ xs, (xs.count x : Int) ≤ mxc xs := by
  have hs : ∃ m, maxI (xs.map fun x => (xs.count x : Int)) = some m := by
    cases hx : xs.map fun x => (xs.count x : Int) with
    | nil => rw [List.map_eq_nil_iff] at hx; exact absurd hx h
    | cons a r => exact ⟨_, rfl⟩
  obtain ⟨m, hm⟩ := hs
  have e : mxc xs = m := by unfold mxc; rw [hm] <;> rfl
  obtain ⟨h1, h2⟩ := maxI_spec hm
  rw [e]
  refine ⟨hm, ?_, fun x hx => h2 _ (List.mem_map.mpr ⟨x, hx, rfl⟩)⟩
  obtain ⟨x, hx, q⟩ := List.mem_map.mp h1
  exact ⟨x, hx, q.symm⟩
theorem mxc_le (xs : List Int) : mxc xs ≤ xs.length ∧ 0 ≤ mxc xs := by
  by_cases h : xs = []
  · subst h
    exact ⟨by decide, by decide⟩
  · obtain ⟨_, ⟨x, hx, e⟩, _⟩ := mxc_some h
    rw [e]
    have := List.count_le_length (a := x) (l := xs)
    omega
theorem max_0 (xs : List Int) : maxI ((xs.map fun x => (xs.count x : Int)) ++ [0]) = some (mxc xs) := by
  by_cases h : xs = []
  · subst h
    rfl
  · have hs : ∃ m, maxI ((xs.map fun x => (xs.count x : Int)) ++ [0]) = some m := by
      cases hx : (xs.map fun x => (xs.count x : Int)) ++ [0] with
      | nil => simp at hx
      | cons a r => exact ⟨_, rfl⟩
    obtain ⟨m, hm⟩ := hs
    rw [hm]
    obtain ⟨h1, h2⟩ := maxI_spec hm
    obtain ⟨_, ⟨x, hx, e⟩, h3⟩ := mxc_some h
    have a1 : mxc xs ≤ m := by rw [e]; exact h2 _ (List.mem_append_left _ (List.mem_map.mpr ⟨x, hx, rfl⟩))
    have a2 : m ≤ mxc xs := by
      rcases List.mem_append.mp h1 with q | q
      · obtain ⟨y, hy, rfl⟩ := List.mem_map.mp q
        exact h3 y hy
      · rw [List.mem_singleton.mp q]
        exact (mxc_le xs).2
    congr 1
    omega
theorem mxc_full {xs : List Int} (h : xs ≠ []) : ((xs.length : Int) - mxc xs = 0) ↔ ∃ x, ∀ y ∈ xs, y = x := by
  obtain ⟨_, ⟨x, hx, e⟩, h3⟩ := mxc_some h
  constructor
  · intro q
    refine ⟨x, fun y hy => ?_⟩
    have : xs.count x = xs.length := by omega
    exact (List.count_eq_length.mp this y hy).symm
  · rintro ⟨z, hz⟩
    have : xs.count x = xs.length := List.count_eq_length.mpr fun b hb => by rw [hz b hb, hz x hx]
    omega
theorem sum_zero {f : Nat → Int} : ∀ (l : List Nat), (∀ p ∈ l, 0 ≤ f p) → 0 ≤ (l.map f).sum ∧ ((l.map f).sum = 0 ↔ ∀ p ∈ l, f p = 0)
  | [], _ => ⟨Int.le_refl _, by simp⟩
  | p :: l, h => by
    obtain ⟨h1, h2⟩ := sum_zero l fun q hq => h q (List.mem_cons_of_mem _ hq)
    have h0 := h p List.mem_cons_self
    rw [List.map_cons, List.sum_cons]
    refine ⟨by omega, fun e q hq => ?_, fun e => ?_⟩
    · rcases List.mem_cons.mp hq with z | z
      · rw [z]; omega
      · exact h2.mp (by omega) q z
    · rw [e p List.mem_cons_self, h2.mpr fun q hq => e q (List.mem_cons_of_mem _ hq)] <;> rfl
theorem pm_zero {rw : List Int} {m : Nat} (hm : 0 < m) (hN : m ≤ rw.length) : (pm rw m = 0) ↔ perP rw m = true := by
  have hs := (sum_zero (f := fun p => ((phs rw m p).length : Int) - mxc (phs rw m p)) (List.range m) fun p _ => by have := (mxc_le (phs rw m p)).1; omega).2
  have hne : ∀ p < m, phs rw m p ≠ [] := fun p hp z => by
    have := congrArg List.length z
    rw [phs_len hm] at this
    unfold cntP at this
    rw [if_pos (by omega)] at this
    simp at this
  unfold pm
  rw [hs]
  unfold perP
  rw [List.all_eq_true]
  constructor
  · intro h i hi
    have hi := List.mem_range.mp hi
    have hp : i % m < m := Nat.mod_lt _ hm
    obtain ⟨x, hx⟩ := (mxc_full (hne _ hp)).mp (h _ (List.mem_range.mpr hp))
    have mem : ∀ k, k < rw.length → k % m = i % m → gg rw k = x := fun k hk e => by
      refine hx _ ?_
      rw [phs_eq hm]
      refine List.mem_map.mpr ⟨k / m, List.mem_range.mpr ((in_phase hm).mpr ?_), ?_⟩
      · rw [← e, Nat.mul_comm, Nat.mod_add_div]; exact hk
      · rw [← e, Nat.mul_comm, Nat.mod_add_div]
    refine decide_eq_true ?_
    rw [mem (m + i) (by omega) (by rw [Nat.add_mod_left]), mem i (by omega) rfl]
  · intro h p hp
    have hp := List.mem_range.mp hp
    refine (mxc_full (hne p hp)).mpr ⟨gg rw p, fun y hy => ?_⟩
    rw [phs_eq hm] at hy
    obtain ⟨j, hj, rfl⟩ := List.mem_map.mp hy
    replace hj := (in_phase hm).mp (List.mem_range.mp hj)
    clear hy
    induction j with
    | zero => rw [Nat.zero_mul, Nat.add_zero]
    | succ j ih =>
      rw [Nat.succ_mul] at hj
      have := of_decide_eq_true (h (p + j * m) (List.mem_range.mpr (by omega)))
      rw [← ih (by omega), ← this, Nat.succ_mul]
      congr 1
      omega
/-! borders -/
def isB (rw : List Int) (i L : Nat) : Prop := L < i ∧ ∀ t, t < L → gg rw t = gg rw (i - L + t)
def MaxB (rw : List Int) (i L : Nat) : Prop := isB rw i L ∧ ∀ L', isB rw i L' → L' ≤ L
theorem b_succ {rw : List Int} {i L : Nat} : isB rw (i + 1) (L + 1) ↔ isB rw i L ∧ gg rw L = gg rw i := by
  unfold isB
  constructor
  · rintro ⟨h1, h2⟩
    refine ⟨⟨by omega, fun t ht => ?_⟩, ?_⟩
    · have := h2 t (by omega)
      rw [this]
      congr 1
      omega
    · have := h2 L (by omega)
      rw [this]
      congr 1
      omega
  · rintro ⟨⟨h1, h2⟩, h3⟩
    refine ⟨by omega, fun t ht => ?_⟩
    by_cases q : t = L
    · subst q
      rw [h3]
      congr 1
      omega
    · rw [h2 t (by omega)]
      congr 1
      omega
theorem b_less {rw : List Int} {i L L' : Nat} (h : isB rw i L) (h' : isB rw i L') (hl : L' < L) : isB rw L L' := by
  refine ⟨hl, fun t ht => ?_⟩
  rw [h'.2 t ht, h.2 (L - L' + t) (by omega)]
  congr 1
  have := h.1
  omega
theorem b_trans {rw : List Int} {i L L' : Nat} (h : isB rw i L) (h' : isB rw L L') : isB rw i L' := by
  have a := h.1
  have b := h'.1
  refine ⟨by omega, fun t ht => ?_⟩
  rw [h'.2 t ht, h.2 (L - L' + t) (by omega)]
  congr 1
  omega
/-- what the inner loop keeps -/
def Inn (rw : List Int) (i L : Nat) : Prop := isB rw i L ∧ ∀ L', isB rw (i + 1) (L' + 1) → L' ≤ L
theorem inn_step {rw : List Int} {i L F : Nat} (h : Inn rw i L) (hL : 0 < L) (hne : gg rw i ≠ gg rw L) (hF : MaxB rw L F) : Inn rw i F ∧ F < L := by
  refine ⟨⟨b_trans h.1 hF.1, fun L' h' => ?_⟩, hF.1.1⟩
  have h1 := h.2 L' h'
  obtain ⟨h2, h3⟩ := b_succ.mp h'
  by_cases q : L' = L
  · subst q
    exact absurd h3.symm hne
  · exact hF.2 L' (b_less h.1 h2 (by omega))
theorem inn_end {rw : List Int} {i L : Nat} (h : Inn rw i L) (he : L = 0 ∨ gg rw i = gg rw L) : MaxB rw (i + 1) (if gg rw i = gg rw L then L + 1 else L) := by
  by_cases q : gg rw i = gg rw L
  · rw [if_pos q]
    refine ⟨b_succ.mpr ⟨h.1, q.symm⟩, fun L' h' => ?_⟩
    cases L' with
    | zero => omega
    | succ L' => have := h.2 L' h'; omega
  · rw [if_neg q]
    have h0 := he.resolve_right q
    subst h0
    refine ⟨⟨by omega, fun t ht => by omega⟩, fun L' h' => ?_⟩
    cases L' with
    | zero => omega
    | succ L' =>
      have h1 := h.2 L' h'
      obtain rfl : L' = 0 := by omega
      exact absurd (b_succ.mp h').2.symm q
theorem inn_0 {rw : List Int} {i L : Nat} (h : MaxB rw i L) : Inn rw i L := ⟨h.1, fun L' h' => h.2 L' (b_succ.mp h').1⟩
theorem per_b {rw : List Int} {m : Nat} (h0 : 0 < m) (h1 : m ≤ rw.length) : perP rw m = true ↔ isB rw rw.length (rw.length - m) := by
  unfold perP isB
  rw [List.all_eq_true]
  constructor
  · intro h
    refine ⟨by omega, fun t ht => ?_⟩
    have := of_decide_eq_true (h t (List.mem_range.mpr ht))
    rw [← this]
    congr 1
    omega
  · rintro ⟨_, h⟩ i hi
    have hi := List.mem_range.mp hi
    refine decide_eq_true ?_
    rw [h i hi]
    congr 1
    omega
def fitL (rw : List Int) : List Nat := ((List.range rw.length).map (· + 1)).filter (perP rw)
theorem first_filter (p : Nat → Bool) (k : Nat) (hk : p k = true) : ∀ n, k < n → (∀ j, j < k → p j = false) → ∃ r, (List.range n).filter p = k :: r
  | 0, h, _ => by omega
  | n + 1, h, hj => by
    rw [List.range_succ, List.filter_append]
    by_cases q : k < n
    · obtain ⟨r, e⟩ := first_filter p k hk n q hj
      exact ⟨_, by rw [e, List.cons_append]⟩
    · obtain rfl : k = n := by omega
      have : (List.range k).filter p = [] := List.filter_eq_nil_iff.mpr fun a ha => by rw [hj a (List.mem_range.mp ha)]; exact Bool.false_ne_true
      rw [this, List.nil_append, List.filter_cons_of_pos hk]
      exact ⟨_, rfl⟩
theorem fit_first {rw : List Int} {b : Nat} (h : MaxB rw rw.length b) : ∃ r, fitL rw = (rw.length - b) :: r := by
  have hb := h.1.1
  unfold fitL
  rw [List.filter_map]
  obtain ⟨r, e⟩ := first_filter (perP rw ∘ (· + 1)) (rw.length - b - 1) (by
    show perP rw (rw.length - b - 1 + 1) = true
    rw [show rw.length - b - 1 + 1 = rw.length - b by omega]
    refine (per_b (by omega) (by omega)).mpr ?_
    rw [show rw.length - (rw.length - b) = b by omega]
    exact h.1) rw.length (by omega) (fun j hj => by
    show perP rw (j + 1) = false
    rw [← Bool.not_eq_true]
    intro z
    have := h.2 _ ((per_b (by omega) (by omega)).mp z)
    omega)
  rw [e, List.map_cons]
  exact ⟨_, by rw [show rw.length - b - 1 + 1 = rw.length - b by omega]⟩
/-! slices -/
theorem drop_take (xs : List Int) : ∀ (a c : Nat), (xs.drop a).take c = ((List.range xs.length).filter fun i => decide (a ≤ i) && decide (i < a + c)).map (gg xs) := by
  induction xs with
  | nil => intro a c; simp
  | cons x xs ih =>
    intro a c
    have hg : ∀ i, gg (x :: xs) (i + 1) = gg xs i := fun i => rfl
    rw [List.length_cons, List.range_succ_eq_map]
    cases a with
    | zero =>
      cases c with
      | zero =>
        rw [List.take_zero, List.filter_eq_nil_iff.mpr]
        · rfl
        · intro i _
          simp
      | succ c =>
        rw [List.drop_zero, List.take_succ_cons, List.filter_cons_of_pos (by simp), List.map_cons]
        have := ih 0 c
        rw [List.drop_zero] at this
        rw [this, List.filter_map, List.map_map]
        congr 1
        have e : (fun i => decide (0 ≤ i) && decide (i < 0 + (c + 1))) ∘ Nat.succ = fun i => decide (0 ≤ i) && decide (i < 0 + c) := by
          funext i
          simp
        rw [e] <;> rfl
    | succ a =>
      rw [List.drop_succ_cons, ih a c, List.filter_cons_of_neg (by simp), List.filter_map, List.map_map]
      have e : (fun i => decide (a + 1 ≤ i) && decide (i < a + 1 + c)) ∘ Nat.succ = fun i => decide (a ≤ i) && decide (i < a + c) := by
        funext i
        show (decide (a + 1 ≤ i + 1) && decide (i + 1 < a + 1 + c)) = _
        rw [show (decide (a + 1 ≤ i + 1)) = decide (a ≤ i) by rw [decide_eq_decide]; omega, show (decide (i + 1 < a + 1 + c)) = decide (i < a + c) by rw [decide_eq_decide]; omega]
      rw [e] <;> rfl
/-! parts that come again -/
def lcp (rw : List Int) : Nat → Nat → Nat → Nat
  | _, _, 0 => 0
  | a, b, k + 1 => if gg rw a = gg rw b then lcp rw (a + 1) (b + 1) k + 1 else 0
theorem lcp_le (rw : List Int) : ∀ (k a b : Nat), lcp rw a b k ≤ k
  | 0, _, _ => Nat.le_refl _
  | k + 1, a, b => by
    rw [lcp]
    split
    · have := lcp_le rw k (a + 1) (b + 1)
      omega
    · omega
theorem drop_gg {rw : List Int} {a : Nat} (h : a < rw.length) : rw.drop a = gg rw a :: rw.drop (a + 1) := by
  rw [List.drop_eq_getElem_cons h]
  unfold gg
  rw [List.getD_eq_getElem?_getD, List.getElem?_eq_getElem h] <;> rfl
theorem take_lcp {rw : List Int} : ∀ (k a b s : Nat), k = rw.length - b → a ≤ b → b ≤ rw.length → s ≤ k → (((rw.drop a).take s = (rw.drop b).take s) ↔ s ≤ lcp rw a b k)
  | k, a, b, 0, hk, hab, hb, hs => by simp
  | 0, a, b, s + 1, hk, hab, hb, hs => by omega
  | k + 1, a, b, s + 1, hk, hab, hb, hs => by
    rw [drop_gg (show a < rw.length by omega), drop_gg (show b < rw.length by omega), List.take_succ_cons, List.take_succ_cons, lcp]
    by_cases q : gg rw a = gg rw b
    · rw [if_pos q]
      have ih := take_lcp (rw := rw) k (a + 1) (b + 1) s (by omega) (by omega) (by omega) (by omega)
      constructor
      · intro h
        injection h with _ h
        have := ih.mp h
        omega
      · intro h
        rw [q, ih.mpr (by omega)]
    · rw [if_neg q]
      constructor
      · intro h
        injection h with h _
        exact absurd h q
      · intro h
        omega
theorem count_lt (L : Nat) : ∀ k, L ≤ k → ((List.range k).filter fun i => decide (i + 1 ≤ L)).length = L
  | 0, h => by
    have : L = 0 := by omega
    rw [this] <;> rfl
  | k + 1, h => by
    rw [List.range_succ, List.filter_append, List.length_append]
    by_cases q : L ≤ k
    · rw [count_lt L k q, List.filter_cons_of_neg (by simp; omega)] <;> rfl
    · obtain rfl : L = k + 1 := by omega
      rw [List.filter_cons_of_pos (by simp)]
      have : (List.range k).filter (fun i => decide (i + 1 ≤ k + 1)) = List.range k := List.filter_eq_self.mpr fun a ha => by
        have := List.mem_range.mp ha
        exact decide_eq_true (by omega)
      rw [this, List.length_range] <;> rfl
/-! ### rows -/
abbrev T (xs : List Int) : D := .tup (xs.map .int)
abbrev natD (i : Nat) : D := .int (i : Int)
theorem all_tt {α : Type} (xs : List α) : (xs.all fun _ => true) = true := by simp
theorem loopW_rt {test : Eng.Env → Sto → R Bool} {body : Eng.Env → Sto → RS} {m : Nat} {env env2 : Eng.Env} {st s1 st2 : Sto} {d : D} (h : test env st = .ok true s1) (e : body env s1 = .ok (.rt d, env2) st2) : loopW test body (m + 1) env st = .ok (.rt d, env2) st2 := by
  show lift (test env st) env _ = _
  rw [h]
  show (body env s1).bind _ = _
  rw [e]
theorem row_at {rw : List Int} {i : Nat} (h : i < rw.length) : atI (rw.map D.int) (i : Int) = some (.int (gg rw i)) := by
  unfold gg
  rw [atI_map, at_nat _ _ h, List.getD_eq_getElem?_getD, List.getElem?_eq_getElem h] <;> rfl
theorem range_k (k : Nat) (h : k ≤ 1000000) : rangeD 0 (k : Int) = some ((List.range k).map natD) := by
  rw [range_int 0 (k : Int) (by decide) (by decide) (by omega) (by omega), show ((k : Int) - 0).toNat = k by omega]
  congr 1
  refine List.map_congr_left fun i _ => ?_
  rw [Int.zero_add]
theorem range_ab (a b : Nat) (h : b ≤ 1000000) (h2 : a ≤ 1000000) : rangeD (a : Int) (b : Int) = some ((List.range (b - a)).map fun i => natD (a + i)) := by
  rw [range_int (a : Int) (b : Int) (by omega) (by omega) (by omega) (by omega), show ((b : Int) - (a : Int)).toNat = b - a by omega]
  congr 1
structure Row (rw : List Int) : Prop where
  l : rw.length ≤ 13
  p : 0 < rw.length
  v : ∀ x ∈ rw, 0 ≤ x ∧ x ≤ 4
theorem gg_mem {rw : List Int} {i : Nat} (h : i < rw.length) : gg rw i ∈ rw := by
  unfold gg
  rw [List.getD_eq_getElem?_getD, List.getElem?_eq_getElem h]
  exact List.getElem_mem h
section
variable {n : Nat} {st : Sto} {rw : List Int}
theorem chk_ok (h : rw.length ≤ 1000) (hv : ∀ x ∈ rw, Nm x) : C (n + 4) 4 [T rw] st = .ok .non st :=
  call_nx (fn := r_check_numbers.fn) rfl rfl rfl (env := [.val (T rw), .un]) (by
    show evSs (C (n + 3)) fuelL b_check_numbers [.val (T rw), .un] st = _
    have b0 : evE (C (n + 3)) x_check_numbers_0 [.val (T rw), .un] st = .ok (.lst (rw.map fun _ => .bl true)) st := by
      simp only [x_check_numbers_0, evSs, evS, evE, evEs, evBs, evO, evT, evI, rd_k, rd_g, rd_bin, rd_neg, rd_not, rd_and, rd_or, rd_cmp, rd_chain, rd_ite, rd_tup, rd_lst, rd_ix, rd_sl, rd_rev, rd_call, rd_sumL, rd_join, rd_cnt, rd_stp, rd_bf, rd_isI, rd_v, R.bind, lift_ok, lift_ex, of_some, asB_ok, asB_ex, asI_ok, asI_ex, asD_ok, asD_ex, fold2_t, fold2_f, fold2_ex, keepIf_t, keepIf_f, ntup_some, calm_o, items_t, items_l, slotR, sl_v, b_add, b_sub, c_eq, c_ne, c_lt, c_le, c_gt, c_ge, f_lenL, f_lenT, f_tupL, f_tupT, f_lstL, f_lstT, f_int, f_abs, i_int, i_intB, i_intN, i_intT, i_intL, i_intS, i_bool, i_boolB, i_tup, i_tupN, i_tupL, i_tupI, x_tup, x_lst, l_tup, l_lst, r_lst, r_tup, q_lst, q_tup, z_lst, z_tup, t_one, w_nil, w_cons, sget_0, sget_S, List.set_cons_zero, List.set_cons_succ, Option.map_some, Option.bind_some, eqD_int, Bool.not_true, Bool.not_false, sz_0, szT_0, sz_1, szT_1, sz_2, szT_2, sz_3, szT_3, sz_4, szT_4, sz_5, szT_5, sz_6, szT_6, t_many2, t_many3, t_many4, t_lst2, t_lst3]
      rw [turns_map D.int (fun _ => .bl true) fun k hk => by simp only [evSs, evS, evE, evEs, evBs, evO, evT, evI, rd_k, rd_g, rd_bin, rd_neg, rd_not, rd_and, rd_or, rd_cmp, rd_chain, rd_ite, rd_tup, rd_lst, rd_ix, rd_sl, rd_rev, rd_call, rd_sumL, rd_join, rd_cnt, rd_stp, rd_bf, rd_isI, rd_v, R.bind, lift_ok, lift_ex, of_some, asB_ok, asB_ex, asI_ok, asI_ex, asD_ok, asD_ex, fold2_t, fold2_f, fold2_ex, keepIf_t, keepIf_f, ntup_some, calm_o, items_t, items_l, slotR, sl_v, b_add, b_sub, c_eq, c_ne, c_lt, c_le, c_gt, c_ge, f_lenL, f_lenT, f_tupL, f_tupT, f_lstL, f_lstT, f_int, f_abs, i_int, i_intB, i_intN, i_intT, i_intL, i_intS, i_bool, i_boolB, i_tup, i_tupN, i_tupL, i_tupI, x_tup, x_lst, l_tup, l_lst, r_lst, r_tup, q_lst, q_tup, z_lst, z_tup, t_one, w_nil, w_cons, sget_0, sget_S, List.set_cons_zero, List.set_cons_succ, Option.map_some, Option.bind_some, eqD_int, Bool.not_true, Bool.not_false, sz_0, szT_0, sz_1, szT_1, sz_2, szT_2, sz_3, szT_3, sz_4, szT_4, sz_5, szT_5, sz_6, szT_6, t_many2, t_many3, t_many4, t_lst2, t_lst3, num_int (hv k hk)]]
      show sized _ _ = _
      exact sized_ok' (by rw [List.length_map]; exact size_small (by omega))
    have g : decide ((1000 : Int) < rw.length) = false := decide_eq_false (by omega)
    simp only [b_check_numbers, evSs, evS, evE, evEs, evBs, evO, evT, evI, rd_k, rd_g, rd_bin, rd_neg, rd_not, rd_and, rd_or, rd_cmp, rd_chain, rd_ite, rd_tup, rd_lst, rd_ix, rd_sl, rd_rev, rd_call, rd_sumL, rd_join, rd_cnt, rd_stp, rd_bf, rd_isI, rd_v, R.bind, lift_ok, lift_ex, of_some, asB_ok, asB_ex, asI_ok, asI_ex, asD_ok, asD_ex, fold2_t, fold2_f, fold2_ex, keepIf_t, keepIf_f, ntup_some, calm_o, items_t, items_l, slotR, sl_v, b_add, b_sub, c_eq, c_ne, c_lt, c_le, c_gt, c_ge, f_lenL, f_lenT, f_tupL, f_tupT, f_lstL, f_lstT, f_int, f_abs, i_int, i_intB, i_intN, i_intT, i_intL, i_intS, i_bool, i_boolB, i_tup, i_tupN, i_tupL, i_tupI, x_tup, x_lst, l_tup, l_lst, r_lst, r_tup, q_lst, q_tup, z_lst, z_tup, t_one, w_nil, w_cons, sget_0, sget_S, List.set_cons_zero, List.set_cons_succ, Option.map_some, Option.bind_some, eqD_int, Bool.not_true, Bool.not_false, sz_0, szT_0, sz_1, szT_1, sz_2, szT_2, sz_3, szT_3, sz_4, szT_4, sz_5, szT_5, sz_6, szT_6, t_many2, t_many3, t_many4, t_lst2, t_lst3, List.length_map, g, b0, x_check_numbers_0_rd, f_all, all_tt])
theorem Row.nm (h : Row rw) : ∀ x ∈ rw, Nm x := fun x hx => by
  have := h.v x hx
  exact ⟨by omega, by omega⟩
theorem per_x {mi Ni : Int} {k : Nat} {f u v : Nat → Int} {z : Sl} (hN : (rw.length : Int) = Ni) (hk : k ≤ 1000) (hr : rangeD mi Ni = some ((List.range k).map fun i => .int (f i))) (hx : ∀ i < k, atI (rw.map D.int) (f i) = some (.int (u i)) ∧ atI (rw.map D.int) (f i - mi) = some (.int (v i))) :
    evE (C n) x_is_period_0 [.val (T rw), .val (.int mi), z] st = .ok (.lst ((List.range k).map fun i => .bl (decide (u i = v i)))) st := by
  simp only [x_is_period_0, evSs, evS, evE, evEs, evBs, evO, evT, evI, rd_k, rd_g, rd_bin, rd_neg, rd_not, rd_and, rd_or, rd_cmp, rd_chain, rd_ite, rd_tup, rd_lst, rd_ix, rd_sl, rd_rev, rd_call, rd_sumL, rd_join, rd_cnt, rd_stp, rd_bf, rd_isI, rd_v, R.bind, lift_ok, lift_ex, of_some, asB_ok, asB_ex, asI_ok, asI_ex, asD_ok, asD_ex, fold2_t, fold2_f, fold2_ex, keepIf_t, keepIf_f, ntup_some, calm_o, items_t, items_l, slotR, sl_v, b_add, b_sub, c_eq, c_ne, c_lt, c_le, c_gt, c_ge, f_lenL, f_lenT, f_tupL, f_tupT, f_lstL, f_lstT, f_int, f_abs, i_int, i_intB, i_intN, i_intT, i_intL, i_intS, i_bool, i_boolB, i_tup, i_tupN, i_tupL, i_tupI, x_tup, x_lst, l_tup, l_lst, r_lst, r_tup, q_lst, q_tup, z_lst, z_tup, t_one, w_nil, w_cons, sget_0, sget_S, List.set_cons_zero, List.set_cons_succ, Option.map_some, Option.bind_some, eqD_int, Bool.not_true, Bool.not_false, sz_0, szT_0, sz_1, szT_1, sz_2, szT_2, sz_3, szT_3, sz_4, szT_4, sz_5, szT_5, sz_6, szT_6, t_many2, t_many3, t_many4, t_lst2, t_lst3, List.length_map, hN, hr]
  rw [turns_map (fun i => D.int (f i)) (fun i => .bl (decide (u i = v i))) fun i hi => by
    obtain ⟨h1, h2⟩ := hx i (List.mem_range.mp hi)
    simp only [evSs, evS, evE, evEs, evBs, evO, evT, evI, rd_k, rd_g, rd_bin, rd_neg, rd_not, rd_and, rd_or, rd_cmp, rd_chain, rd_ite, rd_tup, rd_lst, rd_ix, rd_sl, rd_rev, rd_call, rd_sumL, rd_join, rd_cnt, rd_stp, rd_bf, rd_isI, rd_v, R.bind, lift_ok, lift_ex, of_some, asB_ok, asB_ex, asI_ok, asI_ex, asD_ok, asD_ex, fold2_t, fold2_f, fold2_ex, keepIf_t, keepIf_f, ntup_some, calm_o, items_t, items_l, slotR, sl_v, b_add, b_sub, c_eq, c_ne, c_lt, c_le, c_gt, c_ge, f_lenL, f_lenT, f_tupL, f_tupT, f_lstL, f_lstT, f_int, f_abs, i_int, i_intB, i_intN, i_intT, i_intL, i_intS, i_bool, i_boolB, i_tup, i_tupN, i_tupL, i_tupI, x_tup, x_lst, l_tup, l_lst, r_lst, r_tup, q_lst, q_tup, z_lst, z_tup, t_one, w_nil, w_cons, sget_0, sget_S, List.set_cons_zero, List.set_cons_succ, Option.map_some, Option.bind_some, eqD_int, Bool.not_true, Bool.not_false, sz_0, szT_0, sz_1, szT_1, sz_2, szT_2, sz_3, szT_3, sz_4, szT_4, sz_5, szT_5, sz_6, szT_6, t_many2, t_many3, t_many4, t_lst2, t_lst3, h1, h2]]
  show sized _ _ = _
  exact sized_ok' (by rw [List.length_map, List.length_range]; exact size_small (by omega))
theorem per_facts {m : Nat} (hm : m ≤ 1000) (hl : rw.length ≤ 1000) : rangeD (m : Int) (rw.length : Int) = some ((List.range (rw.length - m)).map fun i => .int ((m + i : Nat) : Int)) ∧ ∀ i < rw.length - m, atI (rw.map D.int) ((m + i : Nat) : Int) = some (.int (gg rw (m + i))) ∧ atI (rw.map D.int) (((m + i : Nat) : Int) - (m : Int)) = some (.int (gg rw i)) := by
  refine ⟨range_ab m rw.length (by omega) (by omega), fun i hi => ⟨row_at (by omega), ?_⟩⟩
  rw [show ((m + i : Nat) : Int) - (m : Int) = (i : Int) by omega]
  exact row_at (by omega)
theorem isper_go {mi : Int} {bs : List Bool} (h0 : 1 ≤ mi) (hl : rw.length ≤ 1000) (hv : ∀ x ∈ rw, Nm x) (b : evE (C (n + 4)) x_is_period_0 [.val (T rw), .val (.int mi), .un] st = .ok (.lst (bs.map .bl)) st) : C (n + 5) 5 [T rw, .int mi] st = .ok (.bl (bs.all id)) st := by
  have e0 : evS (C (n + 4)) fuelL s_is_period_0 [.val (T rw), .val (.int mi), .un] st = .ok (.nx, [.val (T rw), .val (.int mi), .un]) st := by
    simp only [s_is_period_0, evSs, evS, evE, evEs, evBs, evO, evT, evI, rd_k, rd_g, rd_bin, rd_neg, rd_not, rd_and, rd_or, rd_cmp, rd_chain, rd_ite, rd_tup, rd_lst, rd_ix, rd_sl, rd_rev, rd_call, rd_sumL, rd_join, rd_cnt, rd_stp, rd_bf, rd_isI, rd_v, R.bind, lift_ok, lift_ex, of_some, asB_ok, asB_ex, asI_ok, asI_ex, asD_ok, asD_ex, fold2_t, fold2_f, fold2_ex, keepIf_t, keepIf_f, ntup_some, calm_o, items_t, items_l, slotR, sl_v, b_add, b_sub, c_eq, c_ne, c_lt, c_le, c_gt, c_ge, f_lenL, f_lenT, f_tupL, f_tupT, f_lstL, f_lstT, f_int, f_abs, i_int, i_intB, i_intN, i_intT, i_intL, i_intS, i_bool, i_boolB, i_tup, i_tupN, i_tupL, i_tupI, x_tup, x_lst, l_tup, l_lst, r_lst, r_tup, q_lst, q_tup, z_lst, z_tup, t_one, w_nil, w_cons, sget_0, sget_S, List.set_cons_zero, List.set_cons_succ, Option.map_some, Option.bind_some, eqD_int, Bool.not_true, Bool.not_false, sz_0, szT_0, sz_1, szT_1, sz_2, szT_2, sz_3, szT_3, sz_4, szT_4, sz_5, szT_5, sz_6, szT_6, t_many2, t_many3, t_many4, t_lst2, t_lst3, chk_ok (n := n) (st := st) hl hv]
  have e1 : evS (C (n + 4)) fuelL s_is_period_1 [.val (T rw), .val (.int mi), .un] st = .ok (.nx, [.val (T rw), .val (.int mi), .un]) st := by
    have w : C (n + 4) 0 [.int mi] st = .ok (.bl true) st := whole_int
    simp only [s_is_period_1, evSs, evS, evE, evEs, evBs, evO, evT, evI, rd_k, rd_g, rd_bin, rd_neg, rd_not, rd_and, rd_or, rd_cmp, rd_chain, rd_ite, rd_tup, rd_lst, rd_ix, rd_sl, rd_rev, rd_call, rd_sumL, rd_join, rd_cnt, rd_stp, rd_bf, rd_isI, rd_v, R.bind, lift_ok, lift_ex, of_some, asB_ok, asB_ex, asI_ok, asI_ex, asD_ok, asD_ex, fold2_t, fold2_f, fold2_ex, keepIf_t, keepIf_f, ntup_some, calm_o, items_t, items_l, slotR, sl_v, b_add, b_sub, c_eq, c_ne, c_lt, c_le, c_gt, c_ge, f_lenL, f_lenT, f_tupL, f_tupT, f_lstL, f_lstT, f_int, f_abs, i_int, i_intB, i_intN, i_intT, i_intL, i_intS, i_bool, i_boolB, i_tup, i_tupN, i_tupL, i_tupI, x_tup, x_lst, l_tup, l_lst, r_lst, r_tup, q_lst, q_tup, z_lst, z_tup, t_one, w_nil, w_cons, sget_0, sget_S, List.set_cons_zero, List.set_cons_succ, Option.map_some, Option.bind_some, eqD_int, Bool.not_true, Bool.not_false, sz_0, szT_0, sz_1, szT_1, sz_2, szT_2, sz_3, szT_3, sz_4, szT_4, sz_5, szT_5, sz_6, szT_6, t_many2, t_many3, t_many4, t_lst2, t_lst3, w, decide_eq_false (show ¬ mi < 1 by omega)]
  have f : bfop .all [.lst (bs.map .bl)] = some (.bl (bs.all id)) := f_all id bs
  have e2 : evS (C (n + 4)) fuelL s_is_period_2 [.val (T rw), .val (.int mi), .un] st = .ok (.rt (.bl (bs.all id)), [.val (T rw), .val (.int mi), .un]) st := by
    simp only [s_is_period_2, evSs, evS, evE, evEs, evBs, evO, evT, evI, rd_k, rd_g, rd_bin, rd_neg, rd_not, rd_and, rd_or, rd_cmp, rd_chain, rd_ite, rd_tup, rd_lst, rd_ix, rd_sl, rd_rev, rd_call, rd_sumL, rd_join, rd_cnt, rd_stp, rd_bf, rd_isI, rd_v, R.bind, lift_ok, lift_ex, of_some, asB_ok, asB_ex, asI_ok, asI_ex, asD_ok, asD_ex, fold2_t, fold2_f, fold2_ex, keepIf_t, keepIf_f, ntup_some, calm_o, items_t, items_l, slotR, sl_v, b_add, b_sub, c_eq, c_ne, c_lt, c_le, c_gt, c_ge, f_lenL, f_lenT, f_tupL, f_tupT, f_lstL, f_lstT, f_int, f_abs, i_int, i_intB, i_intN, i_intT, i_intL, i_intS, i_bool, i_boolB, i_tup, i_tupN, i_tupL, i_tupI, x_tup, x_lst, l_tup, l_lst, r_lst, r_tup, q_lst, q_tup, z_lst, z_tup, t_one, w_nil, w_cons, sget_0, sget_S, List.set_cons_zero, List.set_cons_succ, Option.map_some, Option.bind_some, eqD_int, Bool.not_true, Bool.not_false, sz_0, szT_0, sz_1, szT_1, sz_2, szT_2, sz_3, szT_3, sz_4, szT_4, sz_5, szT_5, sz_6, szT_6, t_many2, t_many3, t_many4, t_lst2, t_lst3, b, x_is_period_0_rd, f]
  exact call_rt (fn := r_is_period.fn) rfl rfl rfl (((ss_nx e0).trans (ss_nx e1)).trans (ss_rt e2))
theorem is_period_ok {m : Nat} (h0 : 1 ≤ m) (hm : m ≤ 1000) (hl : rw.length ≤ 1000) (hv : ∀ x ∈ rw, Nm x) : C (n + 5) 5 [T rw, .int m] st = .ok (.bl (perP rw m)) st := by
  obtain ⟨f1, f2⟩ := per_facts hm hl
  have b := per_x (n := n + 4) (st := st) (z := .un) rfl (by omega) f1 f2
  have em : ((List.range (rw.length - m)).map fun i => D.bl (decide (gg rw (m + i) = gg rw i))) = ((List.range (rw.length - m)).map fun i => decide (gg rw (m + i) = gg rw i)).map .bl := by
    rw [List.map_map] <;> rfl
  rw [em] at b
  have r := isper_go (n := n) (by omega) hl hv b
  rw [List.all_map] at r
  exact r
/-! borders -/
structure Fd (rw : List Int) (i : Nat) (fl : List Nat) : Prop where
  l : fl.length = i
  m : ∀ k, 1 ≤ k → k ≤ i → MaxB rw k (fl.getD (k - 1) 0)
theorem bo_body {z0 z3 : Sl} {fl : List D} {L : Int} {x : D} (h : atI fl (L - 1) = some x) : evSs (C n) fuelL f_borders_of_0 [z0, .own fl, .val (.int L), z3] st = .ok (.nx, [z0, .own fl, .val x, z3]) st := by
  simp only [f_borders_of_0, evSs, evS, evE, evEs, evBs, evO, evT, evI, rd_k, rd_g, rd_bin, rd_neg, rd_not, rd_and, rd_or, rd_cmp, rd_chain, rd_ite, rd_tup, rd_lst, rd_ix, rd_sl, rd_rev, rd_call, rd_sumL, rd_join, rd_cnt, rd_stp, rd_bf, rd_isI, rd_v, R.bind, lift_ok, lift_ex, of_some, asB_ok, asB_ex, asI_ok, asI_ex, asD_ok, asD_ex, fold2_t, fold2_f, fold2_ex, keepIf_t, keepIf_f, ntup_some, calm_o, items_t, items_l, slotR, sl_v, b_add, b_sub, c_eq, c_ne, c_lt, c_le, c_gt, c_ge, f_lenL, f_lenT, f_tupL, f_tupT, f_lstL, f_lstT, f_int, f_abs, i_int, i_intB, i_intN, i_intT, i_intL, i_intS, i_bool, i_boolB, i_tup, i_tupN, i_tupL, i_tupI, x_tup, x_lst, l_tup, l_lst, r_lst, r_tup, q_lst, q_tup, z_lst, z_tup, t_one, w_nil, w_cons, sget_0, sget_S, List.set_cons_zero, List.set_cons_succ, Option.map_some, Option.bind_some, eqD_int, Bool.not_true, Bool.not_false, sz_0, szT_0, sz_1, szT_1, sz_2, szT_2, sz_3, szT_3, sz_4, szT_4, sz_5, szT_5, sz_6, szT_6, t_many2, t_many3, t_many4, t_lst2, t_lst3, h]
theorem bo_test {fl : List D} {L a : Int} {x y : Int} {b : Bool} (hb : decide (0 < L) = b) (hx : atI (rw.map D.int) a = some (.int x)) (hy : atI (rw.map D.int) L = some (.int y)) : asB (evE (C n) (.and (.cmp .gt (.v 2) (.k (.int (0)))) (.cmp .ne (.ix (.v 0) (.v 3)) (.ix (.v 0) (.v 2)))) [.val (T rw), .own fl, .val (.int L), .val (.int a)] st) = .ok (b && !decide (x = y)) st := by
  cases b <;> simp only [evSs, evS, evE, evEs, evBs, evO, evT, evI, rd_k, rd_g, rd_bin, rd_neg, rd_not, rd_and, rd_or, rd_cmp, rd_chain, rd_ite, rd_tup, rd_lst, rd_ix, rd_sl, rd_rev, rd_call, rd_sumL, rd_join, rd_cnt, rd_stp, rd_bf, rd_isI, rd_v, R.bind, lift_ok, lift_ex, of_some, asB_ok, asB_ex, asI_ok, asI_ex, asD_ok, asD_ex, fold2_t, fold2_f, fold2_ex, keepIf_t, keepIf_f, ntup_some, calm_o, items_t, items_l, slotR, sl_v, b_add, b_sub, c_eq, c_ne, c_lt, c_le, c_gt, c_ge, f_lenL, f_lenT, f_tupL, f_tupT, f_lstL, f_lstT, f_int, f_abs, i_int, i_intB, i_intN, i_intT, i_intL, i_intS, i_bool, i_boolB, i_tup, i_tupN, i_tupL, i_tupI, x_tup, x_lst, l_tup, l_lst, r_lst, r_tup, q_lst, q_tup, z_lst, z_tup, t_one, w_nil, w_cons, sget_0, sget_S, List.set_cons_zero, List.set_cons_succ, Option.map_some, Option.bind_some, eqD_int, Bool.not_true, Bool.not_false, sz_0, szT_0, sz_1, szT_1, sz_2, szT_2, sz_3, szT_3, sz_4, szT_4, sz_5, szT_5, sz_6, szT_6, t_many2, t_many3, t_many4, t_lst2, t_lst3, hb, hx, hy, Bool.true_and, Bool.false_and]
theorem bo_inner {i : Nat} {fl : List Nat} (hi : i < rw.length) (hF : Fd rw i fl) : ∀ (f L Lf : Nat), L ≤ f → f < Lf → Inn rw i L → ∃ L', Inn rw i L' ∧ (L' = 0 ∨ gg rw i = gg rw L') ∧
    loopW (fun env s => asB (evE (C n) (.and (.cmp .gt (.v 2) (.k (.int (0)))) (.cmp .ne (.ix (.v 0) (.v 3)) (.ix (.v 0) (.v 2)))) env s)) (fun env s => evSs (C n) fuelL f_borders_of_0 env s) Lf [.val (T rw), .own (fl.map natD), .val (natD L), .val (natD i)] st =
    .ok (.nx, [.val (T rw), .own (fl.map natD), .val (natD L'), .val (natD i)]) st
  | f, L, 0, h1, h2, _ => by omega
  | f, L, Lf + 1, h1, h2, hI => by
    have hLi := hI.1.1
    have t := bo_test (n := n) (st := st) (rw := rw) (fl := fl.map natD) (L := (L : Int)) (a := (i : Int)) rfl (row_at hi) (row_at (show L < rw.length by omega))
    by_cases q : L = 0 ∨ gg rw i = gg rw L
    · have hf : (decide (0 < (L : Int)) && !decide (gg rw i = gg rw L)) = false := by
        rcases q with q | q
        · rw [decide_eq_false (by omega), Bool.false_and]
        · rw [decide_eq_true q, Bool.not_true, Bool.and_false]
      rw [hf] at t
      exact ⟨L, hI, q, loopW_done t⟩
    · have q1 : ¬ L = 0 := fun z => q (.inl z)
      have q2 : ¬ gg rw i = gg rw L := fun z => q (.inr z)
      have hf : (decide (0 < (L : Int)) && !decide (gg rw i = gg rw L)) = true := by
        rw [decide_eq_true (by omega), decide_eq_false q2] <;> rfl
      rw [hf] at t
      obtain ⟨s1, s2⟩ := inn_step hI (by omega) q2 (hF.m L (by omega) (by omega))
      obtain ⟨f, rfl⟩ : ∃ k, f = k + 1 := ⟨f - 1, by omega⟩
      obtain ⟨L', a1, a2, a3⟩ := bo_inner hi hF f (fl.getD (L - 1) 0) Lf (by omega) (by omega) s1
      have ha : atI (fl.map natD) ((L : Int) - 1) = some (natD (fl.getD (L - 1) 0)) := by
        rw [show (L : Int) - 1 = ((L - 1 : Nat) : Int) by omega, atI_map, at_nat _ _ (by have := hF.l; omega), List.getD_eq_getElem?_getD, List.getElem?_eq_getElem (by have := hF.l; omega)] <;> rfl
      exact ⟨L', a1, a2, (loopW_step t (bo_body ha)).trans a3⟩
theorem bo_end {fl : List D} {L a x y : Int} (hx : atI (rw.map D.int) a = some (.int x)) (hy : atI (rw.map D.int) L = some (.int y)) (hl : fl.length < 10000) : evSs (C n) fuelL (.cons (.aug 2 .add (.ite (.cmp .eq (.ix (.v 0) (.v 3)) (.ix (.v 0) (.v 2))) (.k (.int (1))) (.k (.int (0))))) (.cons (.app 1 (.v 2)) .nil)) [.val (T rw), .own fl, .val (.int L), .val (.int a)] st =
    .ok (.nx, [.val (T rw), .own (fl ++ [.int (L + if x = y then 1 else 0)]), .val (.int (L + if x = y then 1 else 0)), .val (.int a)]) st := by
  have d1 : decide (fl.length < sizeLine) = true := decide_eq_true (Nat.lt_of_lt_of_le (show fl.length < 16777216 by omega) (size_small (Nat.le_refl _)))
  have aa : ∀ k, augop .add (.int L) (.int k) = some (.int (L + k)) := fun _ => rfl
  by_cases q : x = y
  · rw [if_pos q]
    simp only [evSs, evS, evE, evEs, evBs, evO, evT, evI, rd_k, rd_g, rd_bin, rd_neg, rd_not, rd_and, rd_or, rd_cmp, rd_chain, rd_ite, rd_tup, rd_lst, rd_ix, rd_sl, rd_rev, rd_call, rd_sumL, rd_join, rd_cnt, rd_stp, rd_bf, rd_isI, rd_v, R.bind, lift_ok, lift_ex, of_some, asB_ok, asB_ex, asI_ok, asI_ex, asD_ok, asD_ex, fold2_t, fold2_f, fold2_ex, keepIf_t, keepIf_f, ntup_some, calm_o, items_t, items_l, slotR, sl_v, b_add, b_sub, c_eq, c_ne, c_lt, c_le, c_gt, c_ge, f_lenL, f_lenT, f_tupL, f_tupT, f_lstL, f_lstT, f_int, f_abs, i_int, i_intB, i_intN, i_intT, i_intL, i_intS, i_bool, i_boolB, i_tup, i_tupN, i_tupL, i_tupI, x_tup, x_lst, l_tup, l_lst, r_lst, r_tup, q_lst, q_tup, z_lst, z_tup, t_one, w_nil, w_cons, sget_0, sget_S, List.set_cons_zero, List.set_cons_succ, Option.map_some, Option.bind_some, eqD_int, Bool.not_true, Bool.not_false, sz_0, szT_0, sz_1, szT_1, sz_2, szT_2, sz_3, szT_3, sz_4, szT_4, sz_5, szT_5, sz_6, szT_6, t_many2, t_many3, t_many4, t_lst2, t_lst3, hx, hy, decide_eq_true q, aa, d1]
  · rw [if_neg q]
    simp only [evSs, evS, evE, evEs, evBs, evO, evT, evI, rd_k, rd_g, rd_bin, rd_neg, rd_not, rd_and, rd_or, rd_cmp, rd_chain, rd_ite, rd_tup, rd_lst, rd_ix, rd_sl, rd_rev, rd_call, rd_sumL, rd_join, rd_cnt, rd_stp, rd_bf, rd_isI, rd_v, R.bind, lift_ok, lift_ex, of_some, asB_ok, asB_ex, asI_ok, asI_ex, asD_ok, asD_ex, fold2_t, fold2_f, fold2_ex, keepIf_t, keepIf_f, ntup_some, calm_o, items_t, items_l, slotR, sl_v, b_add, b_sub, c_eq, c_ne, c_lt, c_le, c_gt, c_ge, f_lenL, f_lenT, f_tupL, f_tupT, f_lstL, f_lstT, f_int, f_abs, i_int, i_intB, i_intN, i_intT, i_intL, i_intS, i_bool, i_boolB, i_tup, i_tupN, i_tupL, i_tupI, x_tup, x_lst, l_tup, l_lst, r_lst, r_tup, q_lst, q_tup, z_lst, z_tup, t_one, w_nil, w_cons, sget_0, sget_S, List.set_cons_zero, List.set_cons_succ, Option.map_some, Option.bind_some, eqD_int, Bool.not_true, Bool.not_false, sz_0, szT_0, sz_1, szT_1, sz_2, szT_2, sz_3, szT_3, sz_4, szT_4, sz_5, szT_5, sz_6, szT_6, t_many2, t_many3, t_many4, t_lst2, t_lst3, hx, hy, decide_eq_false q, aa, d1]
theorem getD_l {α : Type} {t : List α} {m d : α} {i : Nat} (h : i < t.length) : (t ++ [m]).getD i d = t.getD i d := by
  rw [List.getD_eq_getElem?_getD, List.getD_eq_getElem?_getD, List.getElem?_append_left h]
theorem getD_r {α : Type} {t : List α} {m d : α} : (t ++ [m]).getD t.length d = m := by
  rw [List.getD_eq_getElem?_getD, List.getElem?_append_right (Nat.le_refl _), Nat.sub_self] <;> rfl
theorem inn_fin {rw : List Int} {i L : Nat} (h : Inn rw i L) (he : L = 0 ∨ gg rw i = gg rw L) : ∃ M, MaxB rw (i + 1) M ∧ ((L : Int) + if gg rw i = gg rw L then 1 else 0) = (M : Int) := by
  refine ⟨_, inn_end h he, ?_⟩
  split <;> omega
theorem fd_app {i M : Nat} {fl : List Nat} (hF : Fd rw i fl) (hm : MaxB rw (i + 1) M) : Fd rw (i + 1) (fl ++ [M]) := by
  refine ⟨by rw [List.length_append, hF.l] <;> rfl, fun k k1 k2 => ?_⟩
  by_cases q : k = i + 1
  · subst q
    have := getD_r (t := fl) (m := M) (d := 0)
    rw [hF.l] at this
    rw [Nat.add_sub_cancel, this]
    exact hm
  · rw [getD_l (by rw [hF.l]; omega)]
    exact hF.m k k1 (by omega)
end
section
variable {n : Nat} {st : Sto} {rw : List Int}
theorem bo_turn {i L : Nat} {fl : List Nat} (hi : i < rw.length) (hi2 : i ≤ 1000) (hF : Fd rw i fl) (hL : MaxB rw i L) : ∃ L', MaxB rw (i + 1) L' ∧ Fd rw (i + 1) (fl ++ [L']) ∧ evSs (C n) fuelL f_borders_of_1 [.val (T rw), .own (fl.map natD), .val (natD L), .val (natD i)] st = .ok (.nx, [.val (T rw), .own ((fl ++ [L']).map natD), .val (natD L'), .val (natD i)]) st := by
  obtain ⟨K, a1, a2, a3⟩ := bo_inner (n := n) (st := st) hi hF L L fuelL (Nat.le_refl _) (by have := hL.1.1; show L < 5000; omega) (inn_0 hL)
  obtain ⟨M, hm, hM⟩ := inn_fin a1 a2
  refine ⟨M, hm, fd_app hF hm, ?_⟩
  have e1 : evS (C n) fuelL (.whl (.and (.cmp .gt (.v 2) (.k (.int (0)))) (.cmp .ne (.ix (.v 0) (.v 3)) (.ix (.v 0) (.v 2)))) f_borders_of_0) [.val (T rw), .own (fl.map natD), .val (natD L), .val (natD i)] st = .ok (.nx, [.val (T rw), .own (fl.map natD), .val (natD K), .val (natD i)]) st := a3
  have e2 := bo_end (n := n) (st := st) (fl := fl.map natD) (row_at hi) (row_at (rw := rw) (i := K) (by have := a1.1.1; omega)) (by rw [List.length_map, hF.l]; omega)
  rw [hM] at e2
  have em : (fl ++ [M]).map natD = fl.map natD ++ [natD M] := by rw [List.map_append] <;> rfl
  rw [em]
  show evSs (C n) fuelL (.cons (.whl (.and (.cmp .gt (.v 2) (.k (.int (0)))) (.cmp .ne (.ix (.v 0) (.v 3)) (.ix (.v 0) (.v 2)))) f_borders_of_0) (.cons (.aug 2 .add (.ite (.cmp .eq (.ix (.v 0) (.v 3)) (.ix (.v 0) (.v 2))) (.k (.int (1))) (.k (.int (0))))) (.cons (.app 1 (.v 2)) .nil))) _ _ = _
  rw [ss_nx e1]
  exact e2
end
section
variable {n : Nat} {st : Sto} {rw : List Int}
theorem range_1 (k : Nat) (h : k ≤ 1000000) : rangeD 1 (k : Int) = some ((List.range (k - 1)).map fun i => natD (1 + i)) := by
  rw [range_int 1 (k : Int) (by decide) (by decide) (by omega) (by omega), show ((k : Int) - 1).toNat = k - 1 by omega]
  congr 1
theorem last_nat {fl : List Nat} {N : Nat} (h : fl.length = N) (h0 : 0 < N) : atI (fl.map natD) (-1) = some (natD (fl.getD (N - 1) 0)) := by
  have hne : fl ≠ [] := by intro z; subst z; simp at h; omega
  rw [atI_map, at_last _ hne, List.getLast_eq_getElem, List.getD_eq_getElem?_getD, List.getElem?_eq_getElem (by omega)]
  subst h
  rfl
theorem bo_rng {ds : List D} {env : Eng.Env} (hr : rangeD 1 (rw.length : Int) = some ds) (h0 : sget env 0 = .val (T rw)) : evI (C n) (.rng2 (.k (.int (1))) (.bf .len (.cons (.v 0) .nil))) env st = .ok ds st := by
  generalize hk : (rw.length : Int) = k at hr
  simp only [evSs, evS, evE, evEs, evBs, evO, evT, evI, rd_k, rd_g, rd_bin, rd_neg, rd_not, rd_and, rd_or, rd_cmp, rd_chain, rd_ite, rd_tup, rd_lst, rd_ix, rd_sl, rd_rev, rd_call, rd_sumL, rd_join, rd_cnt, rd_stp, rd_bf, rd_isI, rd_v, R.bind, lift_ok, lift_ex, of_some, asB_ok, asB_ex, asI_ok, asI_ex, asD_ok, asD_ex, fold2_t, fold2_f, fold2_ex, keepIf_t, keepIf_f, ntup_some, calm_o, items_t, items_l, slotR, sl_v, b_add, b_sub, c_eq, c_ne, c_lt, c_le, c_gt, c_ge, f_lenL, f_lenT, f_tupL, f_tupT, f_lstL, f_lstT, f_int, f_abs, i_int, i_intB, i_intN, i_intT, i_intL, i_intS, i_bool, i_boolB, i_tup, i_tupN, i_tupL, i_tupI, x_tup, x_lst, l_tup, l_lst, r_lst, r_tup, q_lst, q_tup, z_lst, z_tup, t_one, w_nil, w_cons, sget_0, sget_S, List.set_cons_zero, List.set_cons_succ, Option.map_some, Option.bind_some, eqD_int, Bool.not_true, Bool.not_false, sz_0, szT_0, sz_1, szT_1, sz_2, szT_2, sz_3, szT_3, sz_4, szT_4, sz_5, szT_5, sz_6, szT_6, t_many2, t_many3, t_many4, t_lst2, t_lst3, h0, List.length_map, hk, hr]
theorem borders_ok (h : Row rw) : ∃ (fl : List Nat) (b : Nat), fl.length = rw.length ∧ fl.getD (rw.length - 1) 0 = b ∧ MaxB rw rw.length b ∧ C (n + 1) 7 [T rw] st = .ok (.lst (fl.map natD)) st := by
  have hl := h.l
  have hp := h.p
  have m1 : MaxB rw 1 0 := ⟨⟨by omega, fun t ht => by omega⟩, fun L' h' => by have := h'.1; omega⟩
  obtain ⟨env', st', e, fl, L, z, he, hs, hF, hL⟩ := loopF_inv (set := tgSet (.one 3)) (body := fun env s => evSs (C n) fuelL f_borders_of_1 env s)
    (fun k env s => ∃ (fl : List Nat) (L : Nat) (z : Sl), env = [.val (T rw), .own (fl.map natD), .val (natD L), z] ∧ s = st ∧ Fd rw (k + 1) fl ∧ MaxB rw (k + 1) L)
    ((List.range (rw.length - 1)).map fun i => natD (1 + i)) 0 [.val (T rw), .own [.int 0], .val (.int 0), .un] st ⟨[0], 0, .un, rfl, rfl, ⟨rfl, fun k k1 k2 => by
      obtain rfl : k = 1 := by omega
      exact m1⟩, m1⟩ (by
      rintro j d env s hj ⟨fl, L, z, rfl, rfl, hF, hL⟩
      rw [Nat.zero_add] at hF hL
      rw [List.getElem?_map] at hj
      obtain ⟨i, hi, rfl⟩ := Option.map_eq_some_iff.mp hj
      obtain ⟨hi1, hi2⟩ := List.getElem?_eq_some_iff.mp hi
      rw [List.getElem_range] at hi2
      subst hi2
      rw [List.length_range] at hi1
      obtain ⟨L', b1, b2, b3⟩ := bo_turn (n := n) (st := s) (rw := rw) (fl := fl) (L := L) (i := 1 + j) (by omega) (by omega) (by rw [Nat.add_comm]; exact hF) (by rw [Nat.add_comm]; exact hL)
      exact ⟨_, _, _, rfl, b3, _, _, _, rfl, rfl, by rw [Nat.zero_add, Nat.add_comm j 1]; exact b2, by rw [Nat.zero_add, Nat.add_comm j 1]; exact b1⟩)
  rw [he, hs] at e
  rw [List.length_map, List.length_range, show 0 + (rw.length - 1) + 1 = rw.length by omega] at hF hL
  have e0 : evS (C n) fuelL s_borders_of_0 [.val (T rw), .un, .un, .un] st = .ok (.nx, [.val (T rw), .own [.int 0], .val (.int 0), .un]) st := by
    have hs : slotOf true (E.lst (.cons (.k (.int 0)) .nil)) (D.lst [.int 0]) = some (.own [.int 0]) := rfl
    simp only [s_borders_of_0, evSs, evS, evE, evEs, evBs, evO, evT, evI, rd_k, rd_g, rd_bin, rd_neg, rd_not, rd_and, rd_or, rd_cmp, rd_chain, rd_ite, rd_tup, rd_lst, rd_ix, rd_sl, rd_rev, rd_call, rd_sumL, rd_join, rd_cnt, rd_stp, rd_bf, rd_isI, rd_v, R.bind, lift_ok, lift_ex, of_some, asB_ok, asB_ex, asI_ok, asI_ex, asD_ok, asD_ex, fold2_t, fold2_f, fold2_ex, keepIf_t, keepIf_f, ntup_some, calm_o, items_t, items_l, slotR, sl_v, b_add, b_sub, c_eq, c_ne, c_lt, c_le, c_gt, c_ge, f_lenL, f_lenT, f_tupL, f_tupT, f_lstL, f_lstT, f_int, f_abs, i_int, i_intB, i_intN, i_intT, i_intL, i_intS, i_bool, i_boolB, i_tup, i_tupN, i_tupL, i_tupI, x_tup, x_lst, l_tup, l_lst, r_lst, r_tup, q_lst, q_tup, z_lst, z_tup, t_one, w_nil, w_cons, sget_0, sget_S, List.set_cons_zero, List.set_cons_succ, Option.map_some, Option.bind_some, eqD_int, Bool.not_true, Bool.not_false, sz_0, szT_0, sz_1, szT_1, sz_2, szT_2, sz_3, szT_3, sz_4, szT_4, sz_5, szT_5, sz_6, szT_6, t_many2, t_many3, t_many4, t_lst2, t_lst3, hs]
  have e1 : evS (C n) fuelL s_borders_of_1 [.val (T rw), .own [.int 0], .val (.int 0), .un] st = .ok (.nx, [.val (T rw), .own (fl.map natD), .val (natD L), z]) st := by
    have ei : evI (C n) (.rng2 (.k (.int (1))) (.bf .len (.cons (.v 0) .nil))) [.val (T rw), .own [.int 0], .val (.int 0), .un] st = .ok ((List.range (rw.length - 1)).map fun i => natD (1 + i)) st := bo_rng (range_1 rw.length (by omega)) rfl
    show lift (evI (C n) _ _ _) _ _ = _
    rw [ei, lift_ok]
    exact e
  have e2 : evS (C n) fuelL s_borders_of_2 [.val (T rw), .own (fl.map natD), .val (natD L), z] st = .ok (.rt (.lst (fl.map natD)), [.val (T rw), .val (.lst (fl.map natD)), .val (natD L), z]) st := by
    show evS (C n) fuelL (.ret (.v 1)) [.val (T rw), .val (.lst (fl.map natD)), .val (natD L), z] st = _
    simp only [evSs, evS, evE, evEs, evBs, evO, evT, evI, rd_k, rd_g, rd_bin, rd_neg, rd_not, rd_and, rd_or, rd_cmp, rd_chain, rd_ite, rd_tup, rd_lst, rd_ix, rd_sl, rd_rev, rd_call, rd_sumL, rd_join, rd_cnt, rd_stp, rd_bf, rd_isI, rd_v, R.bind, lift_ok, lift_ex, of_some, asB_ok, asB_ex, asI_ok, asI_ex, asD_ok, asD_ex, fold2_t, fold2_f, fold2_ex, keepIf_t, keepIf_f, ntup_some, calm_o, items_t, items_l, slotR, sl_v, b_add, b_sub, c_eq, c_ne, c_lt, c_le, c_gt, c_ge, f_lenL, f_lenT, f_tupL, f_tupT, f_lstL, f_lstT, f_int, f_abs, i_int, i_intB, i_intN, i_intT, i_intL, i_intS, i_bool, i_boolB, i_tup, i_tupN, i_tupL, i_tupI, x_tup, x_lst, l_tup, l_lst, r_lst, r_tup, q_lst, q_tup, z_lst, z_tup, t_one, w_nil, w_cons, sget_0, sget_S, List.set_cons_zero, List.set_cons_succ, Option.map_some, Option.bind_some, eqD_int, Bool.not_true, Bool.not_false, sz_0, szT_0, sz_1, szT_1, sz_2, szT_2, sz_3, szT_3, sz_4, szT_4, sz_5, szT_5, sz_6, szT_6, t_many2, t_many3, t_many4, t_lst2, t_lst3]
  exact ⟨fl, _, hF.l, rfl, hF.m rw.length (by omega) (Nat.le_refl _), call_rt (fn := r_borders_of.fn) rfl rfl rfl (((ss_nx e0).trans (ss_nx e1)).trans (ss_rt e2))⟩
end
section
variable {n : Nat} {st : Sto} {rw : List Int}
theorem eqD_Tnil (xs : List Int) : eqD (T xs) (.tup []) = some (decide (xs = [])) := eqD_ints xs []
theorem lp_2 {w : D} (e : C n 7 [T rw] st = .ok w st) : evS (C n) fuelL s_least_period_2 [.val (T rw), .un] st = .ok (.nx, [.val (T rw), .val w]) st := by
  simp only [s_least_period_2, evSs, evS, evE, evEs, evBs, evO, evT, evI, rd_k, rd_g, rd_bin, rd_neg, rd_not, rd_and, rd_or, rd_cmp, rd_chain, rd_ite, rd_tup, rd_lst, rd_ix, rd_sl, rd_rev, rd_call, rd_sumL, rd_join, rd_cnt, rd_stp, rd_bf, rd_isI, rd_v, R.bind, lift_ok, lift_ex, of_some, asB_ok, asB_ex, asI_ok, asI_ex, asD_ok, asD_ex, fold2_t, fold2_f, fold2_ex, keepIf_t, keepIf_f, ntup_some, calm_o, items_t, items_l, slotR, sl_v, b_add, b_sub, c_eq, c_ne, c_lt, c_le, c_gt, c_ge, f_lenL, f_lenT, f_tupL, f_tupT, f_lstL, f_lstT, f_int, f_abs, i_int, i_intB, i_intN, i_intT, i_intL, i_intS, i_bool, i_boolB, i_tup, i_tupN, i_tupL, i_tupI, x_tup, x_lst, l_tup, l_lst, r_lst, r_tup, q_lst, q_tup, z_lst, z_tup, t_one, w_nil, w_cons, sget_0, sget_S, List.set_cons_zero, List.set_cons_succ, Option.map_some, Option.bind_some, eqD_int, Bool.not_true, Bool.not_false, sz_0, szT_0, sz_1, szT_1, sz_2, szT_2, sz_3, szT_3, sz_4, szT_4, sz_5, szT_5, sz_6, szT_6, t_many2, t_many3, t_many4, t_lst2, t_lst3, e]
theorem lp_3 {w : List D} {Ni b : Int} (hN : (rw.length : Int) = Ni) (ha : atI w (-1) = some (.int b)) : evS (C n) fuelL s_least_period_3 [.val (T rw), .val (.lst w)] st = .ok (.rt (.int (Ni - b)), [.val (T rw), .val (.lst w)]) st := by
  simp only [s_least_period_3, evSs, evS, evE, evEs, evBs, evO, evT, evI, rd_k, rd_g, rd_bin, rd_neg, rd_not, rd_and, rd_or, rd_cmp, rd_chain, rd_ite, rd_tup, rd_lst, rd_ix, rd_sl, rd_rev, rd_call, rd_sumL, rd_join, rd_cnt, rd_stp, rd_bf, rd_isI, rd_v, R.bind, lift_ok, lift_ex, of_some, asB_ok, asB_ex, asI_ok, asI_ex, asD_ok, asD_ex, fold2_t, fold2_f, fold2_ex, keepIf_t, keepIf_f, ntup_some, calm_o, items_t, items_l, slotR, sl_v, b_add, b_sub, c_eq, c_ne, c_lt, c_le, c_gt, c_ge, f_lenL, f_lenT, f_tupL, f_tupT, f_lstL, f_lstT, f_int, f_abs, i_int, i_intB, i_intN, i_intT, i_intL, i_intS, i_bool, i_boolB, i_tup, i_tupN, i_tupL, i_tupI, x_tup, x_lst, l_tup, l_lst, r_lst, r_tup, q_lst, q_tup, z_lst, z_tup, t_one, w_nil, w_cons, sget_0, sget_S, List.set_cons_zero, List.set_cons_succ, Option.map_some, Option.bind_some, eqD_int, Bool.not_true, Bool.not_false, sz_0, szT_0, sz_1, szT_1, sz_2, szT_2, sz_3, szT_3, sz_4, szT_4, sz_5, szT_5, sz_6, szT_6, t_many2, t_many3, t_many4, t_lst2, t_lst3, List.length_map, hN, ha]
theorem least_ok (h : Row rw) : ∃ b, MaxB rw rw.length b ∧ C (n + 5) 6 [T rw] st = .ok (.int ((rw.length : Int) - (b : Int))) st := by
  have hl := h.l
  have hp := h.p
  obtain ⟨fl, b, f1, f2, f3, eb⟩ := borders_ok (n := n + 3) (st := st) h
  refine ⟨b, f3, ?_⟩
  have q := eqD_Tnil rw
  rw [decide_eq_false (by intro z; rw [z] at hp; simp at hp)] at q
  have ha := last_nat f1 hp
  rw [f2] at ha
  have e0 : evS (C (n + 4)) fuelL s_least_period_0 [.val (T rw), .un] st = .ok (.nx, [.val (T rw), .un]) st := by
    simp only [s_least_period_0, evSs, evS, evE, evEs, evBs, evO, evT, evI, rd_k, rd_g, rd_bin, rd_neg, rd_not, rd_and, rd_or, rd_cmp, rd_chain, rd_ite, rd_tup, rd_lst, rd_ix, rd_sl, rd_rev, rd_call, rd_sumL, rd_join, rd_cnt, rd_stp, rd_bf, rd_isI, rd_v, R.bind, lift_ok, lift_ex, of_some, asB_ok, asB_ex, asI_ok, asI_ex, asD_ok, asD_ex, fold2_t, fold2_f, fold2_ex, keepIf_t, keepIf_f, ntup_some, calm_o, items_t, items_l, slotR, sl_v, b_add, b_sub, c_eq, c_ne, c_lt, c_le, c_gt, c_ge, f_lenL, f_lenT, f_tupL, f_tupT, f_lstL, f_lstT, f_int, f_abs, i_int, i_intB, i_intN, i_intT, i_intL, i_intS, i_bool, i_boolB, i_tup, i_tupN, i_tupL, i_tupI, x_tup, x_lst, l_tup, l_lst, r_lst, r_tup, q_lst, q_tup, z_lst, z_tup, t_one, w_nil, w_cons, sget_0, sget_S, List.set_cons_zero, List.set_cons_succ, Option.map_some, Option.bind_some, eqD_int, Bool.not_true, Bool.not_false, sz_0, szT_0, sz_1, szT_1, sz_2, szT_2, sz_3, szT_3, sz_4, szT_4, sz_5, szT_5, sz_6, szT_6, t_many2, t_many3, t_many4, t_lst2, t_lst3, chk_ok (n := n) (st := st) (rw := rw) (by omega) h.nm]
  have e1 : evS (C (n + 4)) fuelL s_least_period_1 [.val (T rw), .un] st = .ok (.nx, [.val (T rw), .un]) st := by
    simp only [s_least_period_1, evSs, evS, evE, evEs, evBs, evO, evT, evI, rd_k, rd_g, rd_bin, rd_neg, rd_not, rd_and, rd_or, rd_cmp, rd_chain, rd_ite, rd_tup, rd_lst, rd_ix, rd_sl, rd_rev, rd_call, rd_sumL, rd_join, rd_cnt, rd_stp, rd_bf, rd_isI, rd_v, R.bind, lift_ok, lift_ex, of_some, asB_ok, asB_ex, asI_ok, asI_ex, asD_ok, asD_ex, fold2_t, fold2_f, fold2_ex, keepIf_t, keepIf_f, ntup_some, calm_o, items_t, items_l, slotR, sl_v, b_add, b_sub, c_eq, c_ne, c_lt, c_le, c_gt, c_ge, f_lenL, f_lenT, f_tupL, f_tupT, f_lstL, f_lstT, f_int, f_abs, i_int, i_intB, i_intN, i_intT, i_intL, i_intS, i_bool, i_boolB, i_tup, i_tupN, i_tupL, i_tupI, x_tup, x_lst, l_tup, l_lst, r_lst, r_tup, q_lst, q_tup, z_lst, z_tup, t_one, w_nil, w_cons, sget_0, sget_S, List.set_cons_zero, List.set_cons_succ, Option.map_some, Option.bind_some, eqD_int, Bool.not_true, Bool.not_false, sz_0, szT_0, sz_1, szT_1, sz_2, szT_2, sz_3, szT_3, sz_4, szT_4, sz_5, szT_5, sz_6, szT_6, t_many2, t_many3, t_many4, t_lst2, t_lst3, q]
  have e2 := lp_2 eb
  have e3 := lp_3 (n := n + 4) (st := st) (rw := rw) rfl ha
  exact call_rt (fn := r_least_period.fn) rfl rfl rfl (((ss_nx e0).trans (ss_nx e1)).trans ((ss_nx e2).trans (ss_rt e3)))
end
/-! ### phases -/
theorem max2 (a b : Int) : bfop .max [.lst [.int a, .int b]] = some (.int (if a < b then b else a)) := rfl
theorem min2 (a b : Int) : bfop .min [.lst [.int a, .int b]] = some (.int (if b < a then b else a)) := rfl
theorem cnt_xs (xs : List Int) (k : Int) : cntop (.lst (xs.map .int)) (.int k) = some (.int (xs.count k : Nat)) := by
  show (intsD (xs.map .int)).map _ = _
  rw [intsD_map] <;> rfl
theorem f_maxI {l : List Int} {m : Int} (h : maxI l = some m) : bfop .max [.lst (l.map .int)] = some (.int m) := by
  show ((intsD (l.map .int)).bind fun ns => (maxI ns).map D.int) = _
  rw [intsD_map]
  show (maxI l).map D.int = _
  rw [h] <;> rfl
theorem stp_var {l : List D} {i m : Int} (h1 : 0 ≤ i) (h2 : i < 1073741824) (h3 : 1 ≤ m) (h4 : m < 1073741824) : stpop (.tup l) i m = some (.tup (stpL l i.toNat m.toNat)) := by
  unfold stpop
  simp only [decide_eq_true h1, decide_eq_true h2, decide_eq_true h3, decide_eq_true h4, Bool.and_self]
theorem stp_T {rw : List Int} {p m : Nat} (hp : p ≤ 1000) (h1 : 1 ≤ m) (hm : m ≤ 1000) : stpop (T rw) (p : Int) (m : Int) = some (T (phs rw m p)) := by
  rw [stp_var (by omega) (by omega) (by omega) (by omega), Int.toNat_natCast, Int.toNat_natCast, stp_map]
  rfl
theorem range3_var {i j c : Int} (h1 : -(2 ^ 62) ≤ i) (h2 : i < 2 ^ 62) (h3 : -(2 ^ 62) ≤ j) (h4 : j < 2 ^ 62) (h5 : 0 < c) (h6 : c < 1073741824) : range3A [.int i, .int j, .int c] = some ((List.range (stepN i j c)).map fun (k : Nat) => .int (i + k * c)) := by
  show range3D i j c = _
  unfold range3D
  simp only [decide_eq_true h1, decide_eq_true h2, decide_eq_true h3, decide_eq_true h4, decide_eq_true h5, decide_eq_true h6, Bool.and_self, Bool.or_true]
theorem phs_ne {rw : List Int} {m p : Nat} (hm : 0 < m) (hp : p < rw.length) : phs rw m p ≠ [] := fun z => by
  have := congrArg List.length z
  rw [phs_len hm] at this
  unfold cntP at this
  rw [if_pos hp] at this
  simp at this
theorem phs_le (rw : List Int) (m p : Nat) : (phs rw m p).length ≤ rw.length := stp_le rw p m
def ctI (xs : List Int) : List Int := xs.map fun x => (xs.count x : Int)
theorem ct_map (xs : List Int) : (ctI xs).map D.int = xs.map fun x => .int (xs.count x : Int) := by
  unfold ctI
  rw [List.map_map] <;> rfl
section
variable {n : Nat} {st : Sto} {rw : List Int}
theorem mi_x {xs : List Int} {z0 z1 z2 z3 z5 : Sl} (hl : xs.length ≤ 1000) : evE (C n) x_misses_of_0 [z0, z1, z2, z3, .val (.lst (xs.map .int)), z5] st = .ok (.lst ((ctI xs).map .int)) st := by
  simp only [x_misses_of_0, evSs, evS, evE, evEs, evBs, evO, evT, evI, rd_k, rd_g, rd_bin, rd_neg, rd_not, rd_and, rd_or, rd_cmp, rd_chain, rd_ite, rd_tup, rd_lst, rd_ix, rd_sl, rd_rev, rd_call, rd_sumL, rd_join, rd_cnt, rd_stp, rd_bf, rd_isI, rd_v, R.bind, lift_ok, lift_ex, of_some, asB_ok, asB_ex, asI_ok, asI_ex, asD_ok, asD_ex, fold2_t, fold2_f, fold2_ex, keepIf_t, keepIf_f, ntup_some, calm_o, items_t, items_l, slotR, sl_v, b_add, b_sub, c_eq, c_ne, c_lt, c_le, c_gt, c_ge, f_lenL, f_lenT, f_tupL, f_tupT, f_lstL, f_lstT, f_int, f_abs, i_int, i_intB, i_intN, i_intT, i_intL, i_intS, i_bool, i_boolB, i_tup, i_tupN, i_tupL, i_tupI, x_tup, x_lst, l_tup, l_lst, r_lst, r_tup, q_lst, q_tup, z_lst, z_tup, t_one, w_nil, w_cons, sget_0, sget_S, List.set_cons_zero, List.set_cons_succ, Option.map_some, Option.bind_some, eqD_int, Bool.not_true, Bool.not_false, sz_0, szT_0, sz_1, szT_1, sz_2, szT_2, sz_3, szT_3, sz_4, szT_4, sz_5, szT_5, sz_6, szT_6, t_many2, t_many3, t_many4, t_lst2, t_lst3]
  rw [turns_map D.int (fun x => .int (xs.count x : Int)) fun k hk => by simp only [evSs, evS, evE, evEs, evBs, evO, evT, evI, rd_k, rd_g, rd_bin, rd_neg, rd_not, rd_and, rd_or, rd_cmp, rd_chain, rd_ite, rd_tup, rd_lst, rd_ix, rd_sl, rd_rev, rd_call, rd_sumL, rd_join, rd_cnt, rd_stp, rd_bf, rd_isI, rd_v, R.bind, lift_ok, lift_ex, of_some, asB_ok, asB_ex, asI_ok, asI_ex, asD_ok, asD_ex, fold2_t, fold2_f, fold2_ex, keepIf_t, keepIf_f, ntup_some, calm_o, items_t, items_l, slotR, sl_v, b_add, b_sub, c_eq, c_ne, c_lt, c_le, c_gt, c_ge, f_lenL, f_lenT, f_tupL, f_tupT, f_lstL, f_lstT, f_int, f_abs, i_int, i_intB, i_intN, i_intT, i_intL, i_intS, i_bool, i_boolB, i_tup, i_tupN, i_tupL, i_tupI, x_tup, x_lst, l_tup, l_lst, r_lst, r_tup, q_lst, q_tup, z_lst, z_tup, t_one, w_nil, w_cons, sget_0, sget_S, List.set_cons_zero, List.set_cons_succ, Option.map_some, Option.bind_some, eqD_int, Bool.not_true, Bool.not_false, sz_0, szT_0, sz_1, szT_1, sz_2, szT_2, sz_3, szT_3, sz_4, szT_4, sz_5, szT_5, sz_6, szT_6, t_many2, t_many3, t_many4, t_lst2, t_lst3, cnt_xs], ct_map]
  show sized _ _ = _
  exact sized_ok' (by rw [List.length_map]; exact size_small (by omega))
theorem mi_turn {xs : List Int} {mi t pi mx : Int} {z4 z5 : Sl} (hl : xs.length ≤ 1000) (hs : stpop (T rw) pi mi = some (T xs)) (hm : maxI (ctI xs) = some mx) : evSs (C n) fuelL f_misses_of_0 [.val (T rw), .val (.int mi), .val (.int t), .val (.int pi), z4, z5] st =
    .ok (.nx, [.val (T rw), .val (.int mi), .val (.int (t + ((xs.length : Int) - mx))), .val (.int pi), .val (.lst (xs.map .int)), z5]) st := by
  have b := mi_x (n := n) (st := st) (xs := xs) (z0 := .val (T rw)) (z1 := .val (.int mi)) (z2 := .val (.int t)) (z3 := .val (.int pi)) (z5 := z5) hl
  have f := f_maxI hm
  have aa : ∀ k, augop .add (.int t) (.int k) = some (.int (t + k)) := fun _ => rfl
  simp only [f_misses_of_0, evSs, evS, evE, evEs, evBs, evO, evT, evI, rd_k, rd_g, rd_bin, rd_neg, rd_not, rd_and, rd_or, rd_cmp, rd_chain, rd_ite, rd_tup, rd_lst, rd_ix, rd_sl, rd_rev, rd_call, rd_sumL, rd_join, rd_cnt, rd_stp, rd_bf, rd_isI, rd_v, R.bind, lift_ok, lift_ex, of_some, asB_ok, asB_ex, asI_ok, asI_ex, asD_ok, asD_ex, fold2_t, fold2_f, fold2_ex, keepIf_t, keepIf_f, ntup_some, calm_o, items_t, items_l, slotR, sl_v, b_add, b_sub, c_eq, c_ne, c_lt, c_le, c_gt, c_ge, f_lenL, f_lenT, f_tupL, f_tupT, f_lstL, f_lstT, f_int, f_abs, i_int, i_intB, i_intN, i_intT, i_intL, i_intS, i_bool, i_boolB, i_tup, i_tupN, i_tupL, i_tupI, x_tup, x_lst, l_tup, l_lst, r_lst, r_tup, q_lst, q_tup, z_lst, z_tup, t_one, w_nil, w_cons, sget_0, sget_S, List.set_cons_zero, List.set_cons_succ, Option.map_some, Option.bind_some, eqD_int, Bool.not_true, Bool.not_false, sz_0, szT_0, sz_1, szT_1, sz_2, szT_2, sz_3, szT_3, sz_4, szT_4, sz_5, szT_5, sz_6, szT_6, t_many2, t_many3, t_many4, t_lst2, t_lst3, hs, b, x_misses_of_0_rd, f, List.length_map, aa]
theorem mi_loop {m : Nat} {z5 : Sl} (h1 : 1 ≤ m) (hm : m ≤ rw.length) (hl : rw.length ≤ 1000) : ∀ (ps : List Nat) (t : Int) (z3 z4 : Sl), (∀ p ∈ ps, p < m) → ∃ z3' z4', loopF (tgSet (.one 3)) (fun env s => evSs (C n) fuelL f_misses_of_0 env s) (ps.map natD) [.val (T rw), .val (natD m), .val (.int t), z3, z4, z5] st =
    .ok (.nx, [.val (T rw), .val (natD m), .val (.int (t + (ps.map fun p => ((phs rw m p).length : Int) - mxc (phs rw m p)).sum)), z3', z4', z5]) st
  | [], t, z3, z4, _ => ⟨z3, z4, by rw [List.map_nil, List.map_nil, List.sum_nil, Int.add_zero] <;> rfl⟩
  | p :: ps, t, z3, z4, hp => by
    have hpm := hp p List.mem_cons_self
    have u := mi_turn (n := n) (st := st) (t := t) (z4 := z4) (z5 := z5) (xs := phs rw m p) (by have := phs_le rw m p; omega) (stp_T (rw := rw) (p := p) (m := m) (by omega) h1 (by omega)) (mxc_some (phs_ne (by omega) (by omega))).1
    obtain ⟨z3', z4', w⟩ := mi_loop h1 hm hl ps (t + (((phs rw m p).length : Int) - mxc (phs rw m p))) (.val (natD p)) (.val (.lst ((phs rw m p).map .int))) fun q hq => hp q (List.mem_cons_of_mem _ hq)
    refine ⟨z3', z4', (loopF_step (by rw [t_one] <;> rfl) u).trans (w.trans ?_)⟩
    rw [List.map_cons, List.sum_cons, Int.add_assoc]
theorem mi_1 {mi Ni mx : Int} (hN : (rw.length : Int) = Ni) (h2 : (if (1 : Int) < Ni then Ni else 1) = mx) (h3 : C n 1 [.int mi, .int 1, .int mx] st = .ok (.bl true) st) : evS (C n) fuelL s_misses_of_1 [.val (T rw), .val (.int mi), .un, .un, .un, .un] st = .ok (.nx, [.val (T rw), .val (.int mi), .un, .un, .un, .un]) st := by
  simp only [s_misses_of_1, evSs, evS, evE, evEs, evBs, evO, evT, evI, rd_k, rd_g, rd_bin, rd_neg, rd_not, rd_and, rd_or, rd_cmp, rd_chain, rd_ite, rd_tup, rd_lst, rd_ix, rd_sl, rd_rev, rd_call, rd_sumL, rd_join, rd_cnt, rd_stp, rd_bf, rd_isI, rd_v, R.bind, lift_ok, lift_ex, of_some, asB_ok, asB_ex, asI_ok, asI_ex, asD_ok, asD_ex, fold2_t, fold2_f, fold2_ex, keepIf_t, keepIf_f, ntup_some, calm_o, items_t, items_l, slotR, sl_v, b_add, b_sub, c_eq, c_ne, c_lt, c_le, c_gt, c_ge, f_lenL, f_lenT, f_tupL, f_tupT, f_lstL, f_lstT, f_int, f_abs, i_int, i_intB, i_intN, i_intT, i_intL, i_intS, i_bool, i_boolB, i_tup, i_tupN, i_tupL, i_tupI, x_tup, x_lst, l_tup, l_lst, r_lst, r_tup, q_lst, q_tup, z_lst, z_tup, t_one, w_nil, w_cons, sget_0, sget_S, List.set_cons_zero, List.set_cons_succ, Option.map_some, Option.bind_some, eqD_int, Bool.not_true, Bool.not_false, sz_0, szT_0, sz_1, szT_1, sz_2, szT_2, sz_3, szT_3, sz_4, szT_4, sz_5, szT_5, sz_6, szT_6, t_many2, t_many3, t_many4, t_lst2, t_lst3, List.length_map, hN, max2, h2, h3]
theorem mi_rng {mi Ni mn : Int} {ds : List D} {z2 z3 z4 z5 : Sl} (hN : (rw.length : Int) = Ni) (h2 : (if Ni < mi then Ni else mi) = mn) (hr : rangeD 0 mn = some ds) : evI (C n) (.rng1 (.bf .min (.cons (.lst (.cons (.v 1) (.cons (.bf .len (.cons (.v 0) .nil)) .nil))) .nil))) [.val (T rw), .val (.int mi), z2, z3, z4, z5] st = .ok ds st := by
  simp only [evSs, evS, evE, evEs, evBs, evO, evT, evI, rd_k, rd_g, rd_bin, rd_neg, rd_not, rd_and, rd_or, rd_cmp, rd_chain, rd_ite, rd_tup, rd_lst, rd_ix, rd_sl, rd_rev, rd_call, rd_sumL, rd_join, rd_cnt, rd_stp, rd_bf, rd_isI, rd_v, R.bind, lift_ok, lift_ex, of_some, asB_ok, asB_ex, asI_ok, asI_ex, asD_ok, asD_ex, fold2_t, fold2_f, fold2_ex, keepIf_t, keepIf_f, ntup_some, calm_o, items_t, items_l, slotR, sl_v, b_add, b_sub, c_eq, c_ne, c_lt, c_le, c_gt, c_ge, f_lenL, f_lenT, f_tupL, f_tupT, f_lstL, f_lstT, f_int, f_abs, i_int, i_intB, i_intN, i_intT, i_intL, i_intS, i_bool, i_boolB, i_tup, i_tupN, i_tupL, i_tupI, x_tup, x_lst, l_tup, l_lst, r_lst, r_tup, q_lst, q_tup, z_lst, z_tup, t_one, w_nil, w_cons, sget_0, sget_S, List.set_cons_zero, List.set_cons_succ, Option.map_some, Option.bind_some, eqD_int, Bool.not_true, Bool.not_false, sz_0, szT_0, sz_1, szT_1, sz_2, szT_2, sz_3, szT_3, sz_4, szT_4, sz_5, szT_5, sz_6, szT_6, t_many2, t_many3, t_many4, t_lst2, t_lst3, List.length_map, hN, min2, h2, hr]
theorem misses_ok {m : Nat} (h : Row rw) (h1 : 1 ≤ m) (hm : m ≤ rw.length) : C (n + 5) 8 [T rw, .int m] st = .ok (.int (pm rw m)) st := by
  have hl := h.l
  have e0 : evS (C (n + 4)) fuelL s_misses_of_0 [.val (T rw), .val (natD m), .un, .un, .un, .un] st = .ok (.nx, [.val (T rw), .val (natD m), .un, .un, .un, .un]) st := by
    simp only [s_misses_of_0, evSs, evS, evE, evEs, evBs, evO, evT, evI, rd_k, rd_g, rd_bin, rd_neg, rd_not, rd_and, rd_or, rd_cmp, rd_chain, rd_ite, rd_tup, rd_lst, rd_ix, rd_sl, rd_rev, rd_call, rd_sumL, rd_join, rd_cnt, rd_stp, rd_bf, rd_isI, rd_v, R.bind, lift_ok, lift_ex, of_some, asB_ok, asB_ex, asI_ok, asI_ex, asD_ok, asD_ex, fold2_t, fold2_f, fold2_ex, keepIf_t, keepIf_f, ntup_some, calm_o, items_t, items_l, slotR, sl_v, b_add, b_sub, c_eq, c_ne, c_lt, c_le, c_gt, c_ge, f_lenL, f_lenT, f_tupL, f_tupT, f_lstL, f_lstT, f_int, f_abs, i_int, i_intB, i_intN, i_intT, i_intL, i_intS, i_bool, i_boolB, i_tup, i_tupN, i_tupL, i_tupI, x_tup, x_lst, l_tup, l_lst, r_lst, r_tup, q_lst, q_tup, z_lst, z_tup, t_one, w_nil, w_cons, sget_0, sget_S, List.set_cons_zero, List.set_cons_succ, Option.map_some, Option.bind_some, eqD_int, Bool.not_true, Bool.not_false, sz_0, szT_0, sz_1, szT_1, sz_2, szT_2, sz_3, szT_3, sz_4, szT_4, sz_5, szT_5, sz_6, szT_6, t_many2, t_many3, t_many4, t_lst2, t_lst3, chk_ok (n := n) (st := st) (rw := rw) (by omega) h.nm]
  have e1 : evS (C (n + 4)) fuelL s_misses_of_1 [.val (T rw), .val (natD m), .un, .un, .un, .un] st = .ok (.nx, [.val (T rw), .val (natD m), .un, .un, .un, .un]) st := mi_1 rfl rfl (from_yes (by omega) (by split <;> omega))
  have e2 : evS (C (n + 4)) fuelL s_misses_of_2 [.val (T rw), .val (natD m), .un, .un, .un, .un] st = .ok (.nx, [.val (T rw), .val (natD m), .val (.int 0), .un, .un, .un]) st := by
    simp only [s_misses_of_2, evSs, evS, evE, evEs, evBs, evO, evT, evI, rd_k, rd_g, rd_bin, rd_neg, rd_not, rd_and, rd_or, rd_cmp, rd_chain, rd_ite, rd_tup, rd_lst, rd_ix, rd_sl, rd_rev, rd_call, rd_sumL, rd_join, rd_cnt, rd_stp, rd_bf, rd_isI, rd_v, R.bind, lift_ok, lift_ex, of_some, asB_ok, asB_ex, asI_ok, asI_ex, asD_ok, asD_ex, fold2_t, fold2_f, fold2_ex, keepIf_t, keepIf_f, ntup_some, calm_o, items_t, items_l, slotR, sl_v, b_add, b_sub, c_eq, c_ne, c_lt, c_le, c_gt, c_ge, f_lenL, f_lenT, f_tupL, f_tupT, f_lstL, f_lstT, f_int, f_abs, i_int, i_intB, i_intN, i_intT, i_intL, i_intS, i_bool, i_boolB, i_tup, i_tupN, i_tupL, i_tupI, x_tup, x_lst, l_tup, l_lst, r_lst, r_tup, q_lst, q_tup, z_lst, z_tup, t_one, w_nil, w_cons, sget_0, sget_S, List.set_cons_zero, List.set_cons_succ, Option.map_some, Option.bind_some, eqD_int, Bool.not_true, Bool.not_false, sz_0, szT_0, sz_1, szT_1, sz_2, szT_2, sz_3, szT_3, sz_4, szT_4, sz_5, szT_5, sz_6, szT_6, t_many2, t_many3, t_many4, t_lst2, t_lst3]
  obtain ⟨z3, z4, e⟩ := mi_loop (n := n + 4) (st := st) (rw := rw) (z5 := .un) h1 hm (by omega) (List.range m) 0 .un .un fun p hp => List.mem_range.mp hp
  rw [Int.zero_add] at e
  have e3 : evS (C (n + 4)) fuelL s_misses_of_3 [.val (T rw), .val (natD m), .val (.int 0), .un, .un, .un] st = .ok (.nx, [.val (T rw), .val (natD m), .val (.int (pm rw m)), z3, z4, .un]) st := by
    have ei := mi_rng (n := n + 4) (st := st) (rw := rw) (mi := (m : Int)) (mn := (m : Int)) (z2 := .val (.int 0)) (z3 := .un) (z4 := .un) (z5 := .un) rfl (by rw [if_neg (by omega)]) (range_k m (by omega))
    show lift (evI (C (n + 4)) _ _ _) _ _ = _
    rw [ei, lift_ok]
    exact e
  have e4 : evS (C (n + 4)) fuelL s_misses_of_4 [.val (T rw), .val (natD m), .val (.int (pm rw m)), z3, z4, .un] st = .ok (.rt (.int (pm rw m)), [.val (T rw), .val (natD m), .val (.int (pm rw m)), z3, z4, .un]) st := by
    simp only [s_misses_of_4, evSs, evS, evE, evEs, evBs, evO, evT, evI, rd_k, rd_g, rd_bin, rd_neg, rd_not, rd_and, rd_or, rd_cmp, rd_chain, rd_ite, rd_tup, rd_lst, rd_ix, rd_sl, rd_rev, rd_call, rd_sumL, rd_join, rd_cnt, rd_stp, rd_bf, rd_isI, rd_v, R.bind, lift_ok, lift_ex, of_some, asB_ok, asB_ex, asI_ok, asI_ex, asD_ok, asD_ex, fold2_t, fold2_f, fold2_ex, keepIf_t, keepIf_f, ntup_some, calm_o, items_t, items_l, slotR, sl_v, b_add, b_sub, c_eq, c_ne, c_lt, c_le, c_gt, c_ge, f_lenL, f_lenT, f_tupL, f_tupT, f_lstL, f_lstT, f_int, f_abs, i_int, i_intB, i_intN, i_intT, i_intL, i_intS, i_bool, i_boolB, i_tup, i_tupN, i_tupL, i_tupI, x_tup, x_lst, l_tup, l_lst, r_lst, r_tup, q_lst, q_tup, z_lst, z_tup, t_one, w_nil, w_cons, sget_0, sget_S, List.set_cons_zero, List.set_cons_succ, Option.map_some, Option.bind_some, eqD_int, Bool.not_true, Bool.not_false, sz_0, szT_0, sz_1, szT_1, sz_2, szT_2, sz_3, szT_3, sz_4, szT_4, sz_5, szT_5, sz_6, szT_6, t_many2, t_many3, t_many4, t_lst2, t_lst3]
  exact call_rt (fn := r_misses_of.fn) rfl rfl rfl (((ss_nx e0).trans (ss_nx e1)).trans ((ss_nx e2).trans ((ss_nx e3).trans (ss_rt e4))))
/-! the law's own misses -/
theorem range3_ok {p N m : Nat} (h1 : 1 ≤ m) (hm : m ≤ 1000) (hp : p ≤ 1000) (hN : N ≤ 1000) : range3A [.int (p : Int), .int (N : Int), .int (m : Int)] = some ((List.range (cntP N p m)).map fun j => .int ((p + j * m : Nat) : Int)) := by
  have e : stepN (p : Int) (N : Int) (m : Int) = cntP N p m := by
    unfold stepN cntP
    rw [decide_eq_true (show (0 : Int) < (m : Int) by omega)]
    show (if (p : Int) < (N : Int) then (((N : Int) - (p : Int) - 1) / (m : Int)).toNat + 1 else 0) = _
    by_cases q : p < N
    · rw [if_pos q, if_pos (by omega), show (N : Int) - (p : Int) - 1 = ((N - p - 1 : Nat) : Int) by omega, ← Int.natCast_ediv, Int.toNat_natCast]
    · rw [if_neg q, if_neg (by omega)]
  rw [range3_var (by omega) (by omega) (by omega) (by omega) (by omega) (by omega), e]
  congr 1
theorem ph_x {mi pi Ni : Int} {k : Nat} {f u : Nat → Int} {z2 z4 z5 z6 : Sl} (hN : (rw.length : Int) = Ni) (hk : k ≤ 1000) (hr : range3A [.int pi, .int Ni, .int mi] = some ((List.range k).map fun j => .int (f j))) (hx : ∀ j < k, atI (rw.map D.int) (f j) = some (.int (u j))) :
    evE (C n) x__law_misses_0 [.val (T rw), .val (.int mi), z2, .val (.int pi), z4, z5, z6] st = .ok (.lst ((List.range k).map fun j => .int (u j))) st := by
  simp only [x__law_misses_0, evSs, evS, evE, evEs, evBs, evO, evT, evI, rd_k, rd_g, rd_bin, rd_neg, rd_not, rd_and, rd_or, rd_cmp, rd_chain, rd_ite, rd_tup, rd_lst, rd_ix, rd_sl, rd_rev, rd_call, rd_sumL, rd_join, rd_cnt, rd_stp, rd_bf, rd_isI, rd_v, R.bind, lift_ok, lift_ex, of_some, asB_ok, asB_ex, asI_ok, asI_ex, asD_ok, asD_ex, fold2_t, fold2_f, fold2_ex, keepIf_t, keepIf_f, ntup_some, calm_o, items_t, items_l, slotR, sl_v, b_add, b_sub, c_eq, c_ne, c_lt, c_le, c_gt, c_ge, f_lenL, f_lenT, f_tupL, f_tupT, f_lstL, f_lstT, f_int, f_abs, i_int, i_intB, i_intN, i_intT, i_intL, i_intS, i_bool, i_boolB, i_tup, i_tupN, i_tupL, i_tupI, x_tup, x_lst, l_tup, l_lst, r_lst, r_tup, q_lst, q_tup, z_lst, z_tup, t_one, w_nil, w_cons, sget_0, sget_S, List.set_cons_zero, List.set_cons_succ, Option.map_some, Option.bind_some, eqD_int, Bool.not_true, Bool.not_false, sz_0, szT_0, sz_1, szT_1, sz_2, szT_2, sz_3, szT_3, sz_4, szT_4, sz_5, szT_5, sz_6, szT_6, t_many2, t_many3, t_many4, t_lst2, t_lst3, List.length_map, hN, hr]
  rw [turns_map (fun j => D.int (f j)) (fun j => .int (u j)) fun j hj => by
    have h1 := hx j (List.mem_range.mp hj)
    simp only [evSs, evS, evE, evEs, evBs, evO, evT, evI, rd_k, rd_g, rd_bin, rd_neg, rd_not, rd_and, rd_or, rd_cmp, rd_chain, rd_ite, rd_tup, rd_lst, rd_ix, rd_sl, rd_rev, rd_call, rd_sumL, rd_join, rd_cnt, rd_stp, rd_bf, rd_isI, rd_v, R.bind, lift_ok, lift_ex, of_some, asB_ok, asB_ex, asI_ok, asI_ex, asD_ok, asD_ex, fold2_t, fold2_f, fold2_ex, keepIf_t, keepIf_f, ntup_some, calm_o, items_t, items_l, slotR, sl_v, b_add, b_sub, c_eq, c_ne, c_lt, c_le, c_gt, c_ge, f_lenL, f_lenT, f_tupL, f_tupT, f_lstL, f_lstT, f_int, f_abs, i_int, i_intB, i_intN, i_intT, i_intL, i_intS, i_bool, i_boolB, i_tup, i_tupN, i_tupL, i_tupI, x_tup, x_lst, l_tup, l_lst, r_lst, r_tup, q_lst, q_tup, z_lst, z_tup, t_one, w_nil, w_cons, sget_0, sget_S, List.set_cons_zero, List.set_cons_succ, Option.map_some, Option.bind_some, eqD_int, Bool.not_true, Bool.not_false, sz_0, szT_0, sz_1, szT_1, sz_2, szT_2, sz_3, szT_3, sz_4, szT_4, sz_5, szT_5, sz_6, szT_6, t_many2, t_many3, t_many4, t_lst2, t_lst3, h1]]
  show sized _ _ = _
  exact sized_ok' (by rw [List.length_map, List.length_range]; exact size_small (by omega))
theorem phs_D {m p : Nat} (hm : 0 < m) : (phs rw m p).map D.int = (List.range (cntP rw.length p m)).map fun j => .int (gg rw (p + j * m)) := by
  rw [phs_eq hm, List.map_map] <;> rfl
theorem cnt_le {N p m : Nat} : cntP N p m ≤ N := by
  unfold cntP
  split
  · have := Nat.div_le_self (N - p - 1) m
    omega
  · omega
theorem lm_x1 {xs : List Int} {z0 z1 z2 z3 z5 z6 : Sl} (hl : xs.length ≤ 1000) : evE (C n) x__law_misses_1 [z0, z1, z2, z3, .val (.lst (xs.map .int)), z5, z6] st = .ok (.lst ((ctI xs).map .int)) st := by
  simp only [x__law_misses_1, evSs, evS, evE, evEs, evBs, evO, evT, evI, rd_k, rd_g, rd_bin, rd_neg, rd_not, rd_and, rd_or, rd_cmp, rd_chain, rd_ite, rd_tup, rd_lst, rd_ix, rd_sl, rd_rev, rd_call, rd_sumL, rd_join, rd_cnt, rd_stp, rd_bf, rd_isI, rd_v, R.bind, lift_ok, lift_ex, of_some, asB_ok, asB_ex, asI_ok, asI_ex, asD_ok, asD_ex, fold2_t, fold2_f, fold2_ex, keepIf_t, keepIf_f, ntup_some, calm_o, items_t, items_l, slotR, sl_v, b_add, b_sub, c_eq, c_ne, c_lt, c_le, c_gt, c_ge, f_lenL, f_lenT, f_tupL, f_tupT, f_lstL, f_lstT, f_int, f_abs, i_int, i_intB, i_intN, i_intT, i_intL, i_intS, i_bool, i_boolB, i_tup, i_tupN, i_tupL, i_tupI, x_tup, x_lst, l_tup, l_lst, r_lst, r_tup, q_lst, q_tup, z_lst, z_tup, t_one, w_nil, w_cons, sget_0, sget_S, List.set_cons_zero, List.set_cons_succ, Option.map_some, Option.bind_some, eqD_int, Bool.not_true, Bool.not_false, sz_0, szT_0, sz_1, szT_1, sz_2, szT_2, sz_3, szT_3, sz_4, szT_4, sz_5, szT_5, sz_6, szT_6, t_many2, t_many3, t_many4, t_lst2, t_lst3]
  rw [turns_map D.int (fun x => .int (xs.count x : Int)) fun k hk => by simp only [evSs, evS, evE, evEs, evBs, evO, evT, evI, rd_k, rd_g, rd_bin, rd_neg, rd_not, rd_and, rd_or, rd_cmp, rd_chain, rd_ite, rd_tup, rd_lst, rd_ix, rd_sl, rd_rev, rd_call, rd_sumL, rd_join, rd_cnt, rd_stp, rd_bf, rd_isI, rd_v, R.bind, lift_ok, lift_ex, of_some, asB_ok, asB_ex, asI_ok, asI_ex, asD_ok, asD_ex, fold2_t, fold2_f, fold2_ex, keepIf_t, keepIf_f, ntup_some, calm_o, items_t, items_l, slotR, sl_v, b_add, b_sub, c_eq, c_ne, c_lt, c_le, c_gt, c_ge, f_lenL, f_lenT, f_tupL, f_tupT, f_lstL, f_lstT, f_int, f_abs, i_int, i_intB, i_intN, i_intT, i_intL, i_intS, i_bool, i_boolB, i_tup, i_tupN, i_tupL, i_tupI, x_tup, x_lst, l_tup, l_lst, r_lst, r_tup, q_lst, q_tup, z_lst, z_tup, t_one, w_nil, w_cons, sget_0, sget_S, List.set_cons_zero, List.set_cons_succ, Option.map_some, Option.bind_some, eqD_int, Bool.not_true, Bool.not_false, sz_0, szT_0, sz_1, szT_1, sz_2, szT_2, sz_3, szT_3, sz_4, szT_4, sz_5, szT_5, sz_6, szT_6, t_many2, t_many3, t_many4, t_lst2, t_lst3, cnt_xs], ct_map]
  show sized _ _ = _
  exact sized_ok' (by rw [List.length_map]; exact size_small (by omega))
theorem lm_turn {xs : List Int} {mi t pi mx : Int} {z4 z5 z6 : Sl} (hl : xs.length ≤ 1000) (hs : evE (C n) x__law_misses_0 [.val (T rw), .val (.int mi), .val (.int t), .val (.int pi), z4, z5, z6] st = .ok (.lst (xs.map .int)) st) (hm : maxI (ctI xs ++ [0]) = some mx) : evSs (C n) fuelL f__law_misses_0 [.val (T rw), .val (.int mi), .val (.int t), .val (.int pi), z4, z5, z6] st =
    .ok (.nx, [.val (T rw), .val (.int mi), .val (.int (t + (xs.length : Int) - mx)), .val (.int pi), .val (.lst (xs.map .int)), z5, z6]) st := by
  have b := lm_x1 (n := n) (st := st) (xs := xs) (z0 := .val (T rw)) (z1 := .val (.int mi)) (z2 := .val (.int t)) (z3 := .val (.int pi)) (z5 := z5) (z6 := z6) hl
  have f := f_maxI hm
  have cc : binop .add (.lst ((ctI xs).map .int)) (.lst [.int 0]) = some (.lst ((ctI xs ++ [0]).map .int)) := by
    rw [b_catL _ _ (size_small (by rw [List.length_map, ctI, List.length_map]; show xs.length + 1 ≤ _; omega))]
    rw [List.map_append] <;> rfl
  simp only [f__law_misses_0, evSs, evS, evE, evEs, evBs, evO, evT, evI, rd_k, rd_g, rd_bin, rd_neg, rd_not, rd_and, rd_or, rd_cmp, rd_chain, rd_ite, rd_tup, rd_lst, rd_ix, rd_sl, rd_rev, rd_call, rd_sumL, rd_join, rd_cnt, rd_stp, rd_bf, rd_isI, rd_v, R.bind, lift_ok, lift_ex, of_some, asB_ok, asB_ex, asI_ok, asI_ex, asD_ok, asD_ex, fold2_t, fold2_f, fold2_ex, keepIf_t, keepIf_f, ntup_some, calm_o, items_t, items_l, slotR, sl_v, b_add, b_sub, c_eq, c_ne, c_lt, c_le, c_gt, c_ge, f_lenL, f_lenT, f_tupL, f_tupT, f_lstL, f_lstT, f_int, f_abs, i_int, i_intB, i_intN, i_intT, i_intL, i_intS, i_bool, i_boolB, i_tup, i_tupN, i_tupL, i_tupI, x_tup, x_lst, l_tup, l_lst, r_lst, r_tup, q_lst, q_tup, z_lst, z_tup, t_one, w_nil, w_cons, sget_0, sget_S, List.set_cons_zero, List.set_cons_succ, Option.map_some, Option.bind_some, eqD_int, Bool.not_true, Bool.not_false, sz_0, szT_0, sz_1, szT_1, sz_2, szT_2, sz_3, szT_3, sz_4, szT_4, sz_5, szT_5, sz_6, szT_6, t_many2, t_many3, t_many4, t_lst2, t_lst3, hs, x__law_misses_0_rd, b, x__law_misses_1_rd, cc, f, List.length_map]
theorem lm_loop {m : Nat} {z5 z6 : Sl} (h1 : 1 ≤ m) (hm : m ≤ rw.length) (hl : rw.length ≤ 1000) : ∀ (ps : List Nat) (t : Int) (z3 z4 : Sl), (∀ p ∈ ps, p < m) → ∃ z3' z4', loopF (tgSet (.one 3)) (fun env s => evSs (C n) fuelL f__law_misses_0 env s) (ps.map natD) [.val (T rw), .val (natD m), .val (.int t), z3, z4, z5, z6] st =
    .ok (.nx, [.val (T rw), .val (natD m), .val (.int (t + (ps.map fun p => ((phs rw m p).length : Int) - mxc (phs rw m p)).sum)), z3', z4', z5, z6]) st
  | [], t, z3, z4, _ => ⟨z3, z4, by rw [List.map_nil, List.map_nil, List.sum_nil, Int.add_zero] <;> rfl⟩
  | p :: ps, t, z3, z4, hp => by
    have hpm := hp p List.mem_cons_self
    have hc : cntP rw.length p m ≤ rw.length := cnt_le
    have b := ph_x (n := n) (st := st) (rw := rw) (z2 := .val (.int t)) (z4 := z4) (z5 := z5) (z6 := z6) rfl (by omega) (range3_ok (p := p) (N := rw.length) (m := m) h1 (by omega) (by omega) (by omega)) fun j hj => row_at ((in_phase (by omega)).mp hj)
    rw [← phs_D (by omega)] at b
    have u := lm_turn (n := n) (st := st) (t := t) (z4 := z4) (z5 := z5) (z6 := z6) (xs := phs rw m p) (by have := phs_le rw m p; omega) b (max_0 (phs rw m p))
    have et : t + ((phs rw m p).length : Int) - mxc (phs rw m p) = t + (((phs rw m p).length : Int) - mxc (phs rw m p)) := by omega
    rw [et] at u
    obtain ⟨z3', z4', w⟩ := lm_loop h1 hm hl ps (t + (((phs rw m p).length : Int) - mxc (phs rw m p))) (.val (natD p)) (.val (.lst ((phs rw m p).map .int))) fun q hq => hp q (List.mem_cons_of_mem _ hq)
    refine ⟨z3', z4', (loopF_step (by rw [t_one] <;> rfl) u).trans (w.trans ?_)⟩
    rw [List.map_cons, List.sum_cons, Int.add_assoc]
theorem rng_v1 {mi : Int} {ds : List D} {env : Eng.Env} (hr : rangeD 0 mi = some ds) (h : sget env 1 = .val (.int mi)) : evI (C n) (.rng1 (.v 1)) env st = .ok ds st := by
  simp only [evSs, evS, evE, evEs, evBs, evO, evT, evI, rd_k, rd_g, rd_bin, rd_neg, rd_not, rd_and, rd_or, rd_cmp, rd_chain, rd_ite, rd_tup, rd_lst, rd_ix, rd_sl, rd_rev, rd_call, rd_sumL, rd_join, rd_cnt, rd_stp, rd_bf, rd_isI, rd_v, R.bind, lift_ok, lift_ex, of_some, asB_ok, asB_ex, asI_ok, asI_ex, asD_ok, asD_ex, fold2_t, fold2_f, fold2_ex, keepIf_t, keepIf_f, ntup_some, calm_o, items_t, items_l, slotR, sl_v, b_add, b_sub, c_eq, c_ne, c_lt, c_le, c_gt, c_ge, f_lenL, f_lenT, f_tupL, f_tupT, f_lstL, f_lstT, f_int, f_abs, i_int, i_intB, i_intN, i_intT, i_intL, i_intS, i_bool, i_boolB, i_tup, i_tupN, i_tupL, i_tupI, x_tup, x_lst, l_tup, l_lst, r_lst, r_tup, q_lst, q_tup, z_lst, z_tup, t_one, w_nil, w_cons, sget_0, sget_S, List.set_cons_zero, List.set_cons_succ, Option.map_some, Option.bind_some, eqD_int, Bool.not_true, Bool.not_false, sz_0, szT_0, sz_1, szT_1, sz_2, szT_2, sz_3, szT_3, sz_4, szT_4, sz_5, szT_5, sz_6, szT_6, t_many2, t_many3, t_many4, t_lst2, t_lst3, h, hr]
theorem law_misses_ok {m : Nat} (h : Row rw) (h1 : 1 ≤ m) (hm : m ≤ rw.length) : C (n + 1) 21 [T rw, .int m] st = .ok (.int (pm rw m)) st := by
  have hl := h.l
  have e0 : evS (C n) fuelL s__law_misses_0 [.val (T rw), .val (natD m), .un, .un, .un, .un, .un] st = .ok (.nx, [.val (T rw), .val (natD m), .val (.int 0), .un, .un, .un, .un]) st := by
    simp only [s__law_misses_0, evSs, evS, evE, evEs, evBs, evO, evT, evI, rd_k, rd_g, rd_bin, rd_neg, rd_not, rd_and, rd_or, rd_cmp, rd_chain, rd_ite, rd_tup, rd_lst, rd_ix, rd_sl, rd_rev, rd_call, rd_sumL, rd_join, rd_cnt, rd_stp, rd_bf, rd_isI, rd_v, R.bind, lift_ok, lift_ex, of_some, asB_ok, asB_ex, asI_ok, asI_ex, asD_ok, asD_ex, fold2_t, fold2_f, fold2_ex, keepIf_t, keepIf_f, ntup_some, calm_o, items_t, items_l, slotR, sl_v, b_add, b_sub, c_eq, c_ne, c_lt, c_le, c_gt, c_ge, f_lenL, f_lenT, f_tupL, f_tupT, f_lstL, f_lstT, f_int, f_abs, i_int, i_intB, i_intN, i_intT, i_intL, i_intS, i_bool, i_boolB, i_tup, i_tupN, i_tupL, i_tupI, x_tup, x_lst, l_tup, l_lst, r_lst, r_tup, q_lst, q_tup, z_lst, z_tup, t_one, w_nil, w_cons, sget_0, sget_S, List.set_cons_zero, List.set_cons_succ, Option.map_some, Option.bind_some, eqD_int, Bool.not_true, Bool.not_false, sz_0, szT_0, sz_1, szT_1, sz_2, szT_2, sz_3, szT_3, sz_4, szT_4, sz_5, szT_5, sz_6, szT_6, t_many2, t_many3, t_many4, t_lst2, t_lst3]
  obtain ⟨z3, z4, e⟩ := lm_loop (n := n) (st := st) (rw := rw) (z5 := .un) (z6 := .un) h1 hm (by omega) (List.range m) 0 .un .un fun p hp => List.mem_range.mp hp
  rw [Int.zero_add] at e
  have e1 : evS (C n) fuelL s__law_misses_1 [.val (T rw), .val (natD m), .val (.int 0), .un, .un, .un, .un] st = .ok (.nx, [.val (T rw), .val (natD m), .val (.int (pm rw m)), z3, z4, .un, .un]) st := by
    have ei : evI (C n) (.rng1 (.v 1)) [.val (T rw), .val (natD m), .val (.int 0), .un, .un, .un, .un] st = .ok ((List.range m).map natD) st := by
      exact rng_v1 (range_k m (by omega)) rfl
    show lift (evI (C n) _ _ _) _ _ = _
    rw [ei, lift_ok]
    exact e
  have e2 : evS (C n) fuelL s__law_misses_2 [.val (T rw), .val (natD m), .val (.int (pm rw m)), z3, z4, .un, .un] st = .ok (.rt (.int (pm rw m)), [.val (T rw), .val (natD m), .val (.int (pm rw m)), z3, z4, .un, .un]) st := by
    simp only [s__law_misses_2, evSs, evS, evE, evEs, evBs, evO, evT, evI, rd_k, rd_g, rd_bin, rd_neg, rd_not, rd_and, rd_or, rd_cmp, rd_chain, rd_ite, rd_tup, rd_lst, rd_ix, rd_sl, rd_rev, rd_call, rd_sumL, rd_join, rd_cnt, rd_stp, rd_bf, rd_isI, rd_v, R.bind, lift_ok, lift_ex, of_some, asB_ok, asB_ex, asI_ok, asI_ex, asD_ok, asD_ex, fold2_t, fold2_f, fold2_ex, keepIf_t, keepIf_f, ntup_some, calm_o, items_t, items_l, slotR, sl_v, b_add, b_sub, c_eq, c_ne, c_lt, c_le, c_gt, c_ge, f_lenL, f_lenT, f_tupL, f_tupT, f_lstL, f_lstT, f_int, f_abs, i_int, i_intB, i_intN, i_intT, i_intL, i_intS, i_bool, i_boolB, i_tup, i_tupN, i_tupL, i_tupI, x_tup, x_lst, l_tup, l_lst, r_lst, r_tup, q_lst, q_tup, z_lst, z_tup, t_one, w_nil, w_cons, sget_0, sget_S, List.set_cons_zero, List.set_cons_succ, Option.map_some, Option.bind_some, eqD_int, Bool.not_true, Bool.not_false, sz_0, szT_0, sz_1, szT_1, sz_2, szT_2, sz_3, szT_3, sz_4, szT_4, sz_5, szT_5, sz_6, szT_6, t_many2, t_many3, t_many4, t_lst2, t_lst3]
  exact call_rt (fn := r__law_misses.fn) rfl rfl rfl (((ss_nx e0).trans (ss_nx e1)).trans (ss_rt e2))
end
/-! ### the nearest season, the best period, means -/
theorem pairsD_map : ∀ rows : List Pt, pairsD (rows.map Eng.pairD) = some rows
  | [] => rfl
  | p :: r => by
    show (pairsD (r.map Eng.pairD)).map ((p.1, p.2) :: ·) = _
    rw [pairsD_map r] <;> rfl
theorem f_minP {rows : List Pt} {m : Pt} (h : minP rows = some m) : bfop .min [.lst (rows.map Eng.pairD)] = some (Eng.pairD m) := by
  cases rows with
  | nil => cases h
  | cons p r =>
    have hI : intsD ((p :: r).map Eng.pairD) = none := rfl
    show (match intsD ((p :: r).map Eng.pairD) with
      | some ns => (minI ns).map D.int
      | none => (pairsD ((p :: r).map Eng.pairD)).bind fun ps => (minP ps).map Eng.pairD) = _
    rw [hI, pairsD_map]
    show (minP (p :: r)).map Eng.pairD = _
    rw [h] <;> rfl
theorem minP_ne {rows : List Pt} (h : rows ≠ []) : ∃ m, minP rows = some m := by
  cases rows with
  | nil => exact absurd rfl h
  | cons p r => exact ⟨_, rfl⟩
theorem x_p1 (p : Pt) (s : Sto) : ixS (Eng.pairD p) (.int 1) s = .ok (.int p.2) s := rfl
theorem t_p2 (i j : Nat) (p : Pt) (e : Eng.Env) : tgSet (.many [i, j]) (Eng.pairD p) e = some ((e.set i (.val (.int p.1))).set j (.val (.int p.2))) := rfl
def neP (xs : List Int) : List Pt := xs.map fun x => (-(xs.count x : Int), x)
def nrst (xs : List Int) : Int := ((minP (neP xs)).getD (0, 0)).2
theorem nrst_some {xs : List Int} (h : xs ≠ []) : ∃ p, minP (neP xs) = some p ∧ nrst xs = p.2 := by
  obtain ⟨p, hp⟩ := minP_ne (rows := neP xs) (by unfold neP; rw [Ne, List.map_eq_nil_iff]; exact h)
  exact ⟨p, hp, by unfold nrst; rw [hp] <;> rfl⟩
def meanP (xs : List Int) : Pt := leanP xs.sum xs.length
section
variable {n : Nat} {st : Sto} {rw : List Int}
theorem chk_s {f : Row rw} : C (n + 4) 4 [T rw] st = .ok .non st := chk_ok (by have := f.l; omega) f.nm
theorem ne_x {xs : List Int} {z0 z1 z2 z3 z5 : Sl} (hl : xs.length ≤ 1000) : evE (C n) x_nearest_season_0 [z0, z1, z2, z3, .val (.lst (xs.map .int)), z5] st = .ok (.lst ((neP xs).map Eng.pairD)) st := by
  simp only [x_nearest_season_0, evSs, evS, evE, evEs, evBs, evO, evT, evI, rd_k, rd_g, rd_bin, rd_neg, rd_not, rd_and, rd_or, rd_cmp, rd_chain, rd_ite, rd_tup, rd_lst, rd_ix, rd_sl, rd_rev, rd_call, rd_sumL, rd_join, rd_cnt, rd_stp, rd_bf, rd_isI, rd_v, R.bind, lift_ok, lift_ex, of_some, asB_ok, asB_ex, asI_ok, asI_ex, asD_ok, asD_ex, fold2_t, fold2_f, fold2_ex, keepIf_t, keepIf_f, ntup_some, calm_o, items_t, items_l, slotR, sl_v, b_add, b_sub, c_eq, c_ne, c_lt, c_le, c_gt, c_ge, f_lenL, f_lenT, f_tupL, f_tupT, f_lstL, f_lstT, f_int, f_abs, i_int, i_intB, i_intN, i_intT, i_intL, i_intS, i_bool, i_boolB, i_tup, i_tupN, i_tupL, i_tupI, x_tup, x_lst, l_tup, l_lst, r_lst, r_tup, q_lst, q_tup, z_lst, z_tup, t_one, w_nil, w_cons, sget_0, sget_S, List.set_cons_zero, List.set_cons_succ, Option.map_some, Option.bind_some, eqD_int, Bool.not_true, Bool.not_false, sz_0, szT_0, sz_1, szT_1, sz_2, szT_2, sz_3, szT_3, sz_4, szT_4, sz_5, szT_5, sz_6, szT_6, t_many2, t_many3, t_many4, t_lst2, t_lst3]
  rw [turns_map D.int (fun x => Eng.pairD (-(xs.count x : Int), x)) fun k hk => by
    have e := cnt_xs xs k
    generalize ((xs.count k : Nat) : Int) = c at *
    simp only [evSs, evS, evE, evEs, evBs, evO, evT, evI, rd_k, rd_g, rd_bin, rd_neg, rd_not, rd_and, rd_or, rd_cmp, rd_chain, rd_ite, rd_tup, rd_lst, rd_ix, rd_sl, rd_rev, rd_call, rd_sumL, rd_join, rd_cnt, rd_stp, rd_bf, rd_isI, rd_v, R.bind, lift_ok, lift_ex, of_some, asB_ok, asB_ex, asI_ok, asI_ex, asD_ok, asD_ex, fold2_t, fold2_f, fold2_ex, keepIf_t, keepIf_f, ntup_some, calm_o, items_t, items_l, slotR, sl_v, b_add, b_sub, c_eq, c_ne, c_lt, c_le, c_gt, c_ge, f_lenL, f_lenT, f_tupL, f_tupT, f_lstL, f_lstT, f_int, f_abs, i_int, i_intB, i_intN, i_intT, i_intL, i_intS, i_bool, i_boolB, i_tup, i_tupN, i_tupL, i_tupI, x_tup, x_lst, l_tup, l_lst, r_lst, r_tup, q_lst, q_tup, z_lst, z_tup, t_one, w_nil, w_cons, sget_0, sget_S, List.set_cons_zero, List.set_cons_succ, Option.map_some, Option.bind_some, eqD_int, Bool.not_true, Bool.not_false, sz_0, szT_0, sz_1, szT_1, sz_2, szT_2, sz_3, szT_3, sz_4, szT_4, sz_5, szT_5, sz_6, szT_6, t_many2, t_many3, t_many4, t_lst2, t_lst3, e]
    rfl]
  unfold neP
  rw [List.map_map]
  show sized _ _ = _
  exact sized_ok' (by rw [List.length_map]; exact size_small (by omega))
theorem ne_turn {xs : List Int} {mi pi : Int} {fl : List D} {p : Pt} {z4 z5 : Sl} (hl : xs.length ≤ 1000) (hs : stpop (T rw) pi mi = some (T xs)) (hm : minP (neP xs) = some p) (hf : fl.length < 10000) : evSs (C n) fuelL f_nearest_season_0 [.val (T rw), .val (.int mi), .own fl, .val (.int pi), z4, z5] st =
    .ok (.nx, [.val (T rw), .val (.int mi), .own (fl ++ [.int p.2]), .val (.int pi), .val (.lst (xs.map .int)), z5]) st := by
  have b := ne_x (n := n) (st := st) (xs := xs) (z0 := .val (T rw)) (z1 := .val (.int mi)) (z2 := .own fl) (z3 := .val (.int pi)) (z5 := z5) hl
  have f := f_minP hm
  have d1 : decide (fl.length < sizeLine) = true := decide_eq_true (Nat.lt_of_lt_of_le (show fl.length < 16777216 by omega) (size_small (Nat.le_refl _)))
  simp only [f_nearest_season_0, evSs, evS, evE, evEs, evBs, evO, evT, evI, rd_k, rd_g, rd_bin, rd_neg, rd_not, rd_and, rd_or, rd_cmp, rd_chain, rd_ite, rd_tup, rd_lst, rd_ix, rd_sl, rd_rev, rd_call, rd_sumL, rd_join, rd_cnt, rd_stp, rd_bf, rd_isI, rd_v, R.bind, lift_ok, lift_ex, of_some, asB_ok, asB_ex, asI_ok, asI_ex, asD_ok, asD_ex, fold2_t, fold2_f, fold2_ex, keepIf_t, keepIf_f, ntup_some, calm_o, items_t, items_l, slotR, sl_v, b_add, b_sub, c_eq, c_ne, c_lt, c_le, c_gt, c_ge, f_lenL, f_lenT, f_tupL, f_tupT, f_lstL, f_lstT, f_int, f_abs, i_int, i_intB, i_intN, i_intT, i_intL, i_intS, i_bool, i_boolB, i_tup, i_tupN, i_tupL, i_tupI, x_tup, x_lst, l_tup, l_lst, r_lst, r_tup, q_lst, q_tup, z_lst, z_tup, t_one, w_nil, w_cons, sget_0, sget_S, List.set_cons_zero, List.set_cons_succ, Option.map_some, Option.bind_some, eqD_int, Bool.not_true, Bool.not_false, sz_0, szT_0, sz_1, szT_1, sz_2, szT_2, sz_3, szT_3, sz_4, szT_4, sz_5, szT_5, sz_6, szT_6, t_many2, t_many3, t_many4, t_lst2, t_lst3, hs, b, x_nearest_season_0_rd, f, x_p1, d1]
theorem ne_loop {m : Nat} {z5 : Sl} (h1 : 1 ≤ m) (hm : m ≤ rw.length) (hl : rw.length ≤ 1000) : ∀ (ps : List Nat) (acc : List Int) (z3 z4 : Sl), (∀ p ∈ ps, p < m) → acc.length + ps.length ≤ 5000 → ∃ z3' z4', loopF (tgSet (.one 3)) (fun env s => evSs (C n) fuelL f_nearest_season_0 env s) (ps.map natD) [.val (T rw), .val (natD m), .own (acc.map .int), z3, z4, z5] st =
    .ok (.nx, [.val (T rw), .val (natD m), .own ((acc ++ ps.map fun p => nrst (phs rw m p)).map .int), z3', z4', z5]) st
  | [], acc, z3, z4, _, _ => ⟨z3, z4, by rw [List.map_nil, List.map_nil, List.append_nil] <;> rfl⟩
  | p :: ps, acc, z3, z4, hp, ha => by
    rw [List.length_cons] at ha
    have hpm := hp p List.mem_cons_self
    obtain ⟨q, q1, q2⟩ := nrst_some (phs_ne (rw := rw) (m := m) (p := p) (by omega) (by omega))
    have u := ne_turn (n := n) (st := st) (z4 := z4) (z5 := z5) (fl := acc.map .int) (xs := phs rw m p) (by have := phs_le rw m p; omega) (stp_T (rw := rw) (p := p) (m := m) (by omega) h1 (by omega)) q1 (by rw [List.length_map]; omega)
    rw [← q2] at u
    have em : acc.map D.int ++ [.int (nrst (phs rw m p))] = (acc ++ [nrst (phs rw m p)]).map .int := by rw [List.map_append] <;> rfl
    rw [em] at u
    obtain ⟨z3', z4', w⟩ := ne_loop h1 hm hl ps (acc ++ [nrst (phs rw m p)]) (.val (natD p)) (.val (.lst ((phs rw m p).map .int))) (fun q hq => hp q (List.mem_cons_of_mem _ hq)) (by rw [List.length_append, List.length_cons, List.length_nil]; omega)
    refine ⟨z3', z4', (loopF_step (by rw [t_one] <;> rfl) u).trans (w.trans ?_)⟩
    rw [List.map_cons, List.append_assoc, List.cons_append, List.nil_append]
theorem row_ne (h : Row rw) : eqD (T rw) (.tup []) = some false := by
  have := eqD_Tnil rw
  rw [decide_eq_false (by have := h.p; intro z; rw [z] at this; simp at this)] at this
  exact this
theorem from_ok {m : Nat} {k : Nat} (h1 : 1 ≤ m) (hm : m ≤ rw.length) : C (k + 2) 1 [.int (m : Int), .int 1, .int (rw.length : Int)] st = .ok (.bl true) st := from_yes (by omega) (by omega)
theorem ne_1 {mi Ni : Int} (q : eqD (T rw) (.tup []) = some false) (hN : (rw.length : Int) = Ni) (h3 : C n 1 [.int mi, .int 1, .int Ni] st = .ok (.bl true) st) : evS (C n) fuelL s_nearest_season_1 [.val (T rw), .val (.int mi), .un, .un, .un, .un] st = .ok (.nx, [.val (T rw), .val (.int mi), .un, .un, .un, .un]) st := by
  simp only [s_nearest_season_1, evSs, evS, evE, evEs, evBs, evO, evT, evI, rd_k, rd_g, rd_bin, rd_neg, rd_not, rd_and, rd_or, rd_cmp, rd_chain, rd_ite, rd_tup, rd_lst, rd_ix, rd_sl, rd_rev, rd_call, rd_sumL, rd_join, rd_cnt, rd_stp, rd_bf, rd_isI, rd_v, R.bind, lift_ok, lift_ex, of_some, asB_ok, asB_ex, asI_ok, asI_ex, asD_ok, asD_ex, fold2_t, fold2_f, fold2_ex, keepIf_t, keepIf_f, ntup_some, calm_o, items_t, items_l, slotR, sl_v, b_add, b_sub, c_eq, c_ne, c_lt, c_le, c_gt, c_ge, f_lenL, f_lenT, f_tupL, f_tupT, f_lstL, f_lstT, f_int, f_abs, i_int, i_intB, i_intN, i_intT, i_intL, i_intS, i_bool, i_boolB, i_tup, i_tupN, i_tupL, i_tupI, x_tup, x_lst, l_tup, l_lst, r_lst, r_tup, q_lst, q_tup, z_lst, z_tup, t_one, w_nil, w_cons, sget_0, sget_S, List.set_cons_zero, List.set_cons_succ, Option.map_some, Option.bind_some, eqD_int, Bool.not_true, Bool.not_false, sz_0, szT_0, sz_1, szT_1, sz_2, szT_2, sz_3, szT_3, sz_4, szT_4, sz_5, szT_5, sz_6, szT_6, t_many2, t_many3, t_many4, t_lst2, t_lst3, q, List.length_map, hN, h3]
theorem nearest_ok {m : Nat} (h : Row rw) (h1 : 1 ≤ m) (hm : m ≤ rw.length) : C (n + 5) 9 [T rw, .int m] st = .ok (T ((List.range m).map fun p => nrst (phs rw m p))) st := by
  have hl := h.l
  have e0 : evS (C (n + 4)) fuelL s_nearest_season_0 [.val (T rw), .val (natD m), .un, .un, .un, .un] st = .ok (.nx, [.val (T rw), .val (natD m), .un, .un, .un, .un]) st := by
    simp only [s_nearest_season_0, evSs, evS, evE, evEs, evBs, evO, evT, evI, rd_k, rd_g, rd_bin, rd_neg, rd_not, rd_and, rd_or, rd_cmp, rd_chain, rd_ite, rd_tup, rd_lst, rd_ix, rd_sl, rd_rev, rd_call, rd_sumL, rd_join, rd_cnt, rd_stp, rd_bf, rd_isI, rd_v, R.bind, lift_ok, lift_ex, of_some, asB_ok, asB_ex, asI_ok, asI_ex, asD_ok, asD_ex, fold2_t, fold2_f, fold2_ex, keepIf_t, keepIf_f, ntup_some, calm_o, items_t, items_l, slotR, sl_v, b_add, b_sub, c_eq, c_ne, c_lt, c_le, c_gt, c_ge, f_lenL, f_lenT, f_tupL, f_tupT, f_lstL, f_lstT, f_int, f_abs, i_int, i_intB, i_intN, i_intT, i_intL, i_intS, i_bool, i_boolB, i_tup, i_tupN, i_tupL, i_tupI, x_tup, x_lst, l_tup, l_lst, r_lst, r_tup, q_lst, q_tup, z_lst, z_tup, t_one, w_nil, w_cons, sget_0, sget_S, List.set_cons_zero, List.set_cons_succ, Option.map_some, Option.bind_some, eqD_int, Bool.not_true, Bool.not_false, sz_0, szT_0, sz_1, szT_1, sz_2, szT_2, sz_3, szT_3, sz_4, szT_4, sz_5, szT_5, sz_6, szT_6, t_many2, t_many3, t_many4, t_lst2, t_lst3, chk_s (n := n) (st := st) (f := h)]
  have e1 : evS (C (n + 4)) fuelL s_nearest_season_1 [.val (T rw), .val (natD m), .un, .un, .un, .un] st = .ok (.nx, [.val (T rw), .val (natD m), .un, .un, .un, .un]) st := ne_1 (row_ne h) rfl (from_ok h1 hm)
  have e2 : evS (C (n + 4)) fuelL s_nearest_season_2 [.val (T rw), .val (natD m), .un, .un, .un, .un] st = .ok (.nx, [.val (T rw), .val (natD m), .own (([] : List Int).map .int), .un, .un, .un]) st := by
    simp only [s_nearest_season_2, evSs, evS, evE, evEs, evBs, evO, evT, evI, rd_k, rd_g, rd_bin, rd_neg, rd_not, rd_and, rd_or, rd_cmp, rd_chain, rd_ite, rd_tup, rd_lst, rd_ix, rd_sl, rd_rev, rd_call, rd_sumL, rd_join, rd_cnt, rd_stp, rd_bf, rd_isI, rd_v, R.bind, lift_ok, lift_ex, of_some, asB_ok, asB_ex, asI_ok, asI_ex, asD_ok, asD_ex, fold2_t, fold2_f, fold2_ex, keepIf_t, keepIf_f, ntup_some, calm_o, items_t, items_l, slotR, sl_v, b_add, b_sub, c_eq, c_ne, c_lt, c_le, c_gt, c_ge, f_lenL, f_lenT, f_tupL, f_tupT, f_lstL, f_lstT, f_int, f_abs, i_int, i_intB, i_intN, i_intT, i_intL, i_intS, i_bool, i_boolB, i_tup, i_tupN, i_tupL, i_tupI, x_tup, x_lst, l_tup, l_lst, r_lst, r_tup, q_lst, q_tup, z_lst, z_tup, t_one, w_nil, w_cons, sget_0, sget_S, List.set_cons_zero, List.set_cons_succ, Option.map_some, Option.bind_some, eqD_int, Bool.not_true, Bool.not_false, sz_0, szT_0, sz_1, szT_1, sz_2, szT_2, sz_3, szT_3, sz_4, szT_4, sz_5, szT_5, sz_6, szT_6, t_many2, t_many3, t_many4, t_lst2, t_lst3]
    rfl
  obtain ⟨z3, z4, e⟩ := ne_loop (n := n + 4) (st := st) (rw := rw) (z5 := .un) h1 hm (by omega) (List.range m) [] .un .un (fun p hp => List.mem_range.mp hp) (by rw [List.length_nil, List.length_range]; omega)
  rw [List.nil_append] at e
  have e3 : evS (C (n + 4)) fuelL s_nearest_season_3 [.val (T rw), .val (natD m), .own (([] : List Int).map .int), .un, .un, .un] st = .ok (.nx, [.val (T rw), .val (natD m), .own (((List.range m).map fun p => nrst (phs rw m p)).map .int), z3, z4, .un]) st := by
    have ei : evI (C (n + 4)) (.rng1 (.v 1)) [.val (T rw), .val (natD m), .own (([] : List Int).map .int), .un, .un, .un] st = .ok ((List.range m).map natD) st := rng_v1 (range_k m (by omega)) rfl
    show lift (evI (C (n + 4)) _ _ _) _ _ = _
    rw [ei, lift_ok]
    exact e
  have e4 : evS (C (n + 4)) fuelL s_nearest_season_4 [.val (T rw), .val (natD m), .own (((List.range m).map fun p => nrst (phs rw m p)).map .int), z3, z4, .un] st = .ok (.rt (T ((List.range m).map fun p => nrst (phs rw m p))), [.val (T rw), .val (natD m), .own (((List.range m).map fun p => nrst (phs rw m p)).map .int), z3, z4, .un]) st := by
    simp only [s_nearest_season_4, evSs, evS, evE, evEs, evBs, evO, evT, evI, rd_k, rd_g, rd_bin, rd_neg, rd_not, rd_and, rd_or, rd_cmp, rd_chain, rd_ite, rd_tup, rd_lst, rd_ix, rd_sl, rd_rev, rd_call, rd_sumL, rd_join, rd_cnt, rd_stp, rd_bf, rd_isI, rd_v, R.bind, lift_ok, lift_ex, of_some, asB_ok, asB_ex, asI_ok, asI_ex, asD_ok, asD_ex, fold2_t, fold2_f, fold2_ex, keepIf_t, keepIf_f, ntup_some, calm_o, items_t, items_l, slotR, sl_v, b_add, b_sub, c_eq, c_ne, c_lt, c_le, c_gt, c_ge, f_lenL, f_lenT, f_tupL, f_tupT, f_lstL, f_lstT, f_int, f_abs, i_int, i_intB, i_intN, i_intT, i_intL, i_intS, i_bool, i_boolB, i_tup, i_tupN, i_tupL, i_tupI, x_tup, x_lst, l_tup, l_lst, r_lst, r_tup, q_lst, q_tup, z_lst, z_tup, t_one, w_nil, w_cons, sget_0, sget_S, List.set_cons_zero, List.set_cons_succ, Option.map_some, Option.bind_some, eqD_int, Bool.not_true, Bool.not_false, sz_0, szT_0, sz_1, szT_1, sz_2, szT_2, sz_3, szT_3, sz_4, szT_4, sz_5, szT_5, sz_6, szT_6, t_many2, t_many3, t_many4, t_lst2, t_lst3]
  exact call_rt (fn := r_nearest_season.fn) rfl rfl rfl (((ss_nx e0).trans (ss_nx e1)).trans ((ss_nx e2).trans ((ss_nx e3).trans (ss_rt e4))))
/-! the best period -/
def bpL (rw : List Int) (k : Nat) : List Pt := (List.range k).map fun i => (pm rw (1 + i), ((1 + i : Nat) : Int))
theorem bp_x {mi : Int} {k : Nat} {z2 : Sl} (hk : k ≤ 1000) (hr : rangeD 1 (mi + 1) = some ((List.range k).map fun i => natD (1 + i))) (hx : ∀ i < k, C n 8 [T rw, natD (1 + i)] st = .ok (.int (pm rw (1 + i))) st) : evE (C n) x_best_period_0 [.val (T rw), .val (.int mi), z2] st = .ok (.lst ((bpL rw k).map Eng.pairD)) st := by
  simp only [x_best_period_0, evSs, evS, evE, evEs, evBs, evO, evT, evI, rd_k, rd_g, rd_bin, rd_neg, rd_not, rd_and, rd_or, rd_cmp, rd_chain, rd_ite, rd_tup, rd_lst, rd_ix, rd_sl, rd_rev, rd_call, rd_sumL, rd_join, rd_cnt, rd_stp, rd_bf, rd_isI, rd_v, R.bind, lift_ok, lift_ex, of_some, asB_ok, asB_ex, asI_ok, asI_ex, asD_ok, asD_ex, fold2_t, fold2_f, fold2_ex, keepIf_t, keepIf_f, ntup_some, calm_o, items_t, items_l, slotR, sl_v, b_add, b_sub, c_eq, c_ne, c_lt, c_le, c_gt, c_ge, f_lenL, f_lenT, f_tupL, f_tupT, f_lstL, f_lstT, f_int, f_abs, i_int, i_intB, i_intN, i_intT, i_intL, i_intS, i_bool, i_boolB, i_tup, i_tupN, i_tupL, i_tupI, x_tup, x_lst, l_tup, l_lst, r_lst, r_tup, q_lst, q_tup, z_lst, z_tup, t_one, w_nil, w_cons, sget_0, sget_S, List.set_cons_zero, List.set_cons_succ, Option.map_some, Option.bind_some, eqD_int, Bool.not_true, Bool.not_false, sz_0, szT_0, sz_1, szT_1, sz_2, szT_2, sz_3, szT_3, sz_4, szT_4, sz_5, szT_5, sz_6, szT_6, t_many2, t_many3, t_many4, t_lst2, t_lst3, hr]
  rw [turns_map (fun i => natD (1 + i)) (fun i => Eng.pairD (pm rw (1 + i), ((1 + i : Nat) : Int))) fun i hi => by
    have h1 := hx i (List.mem_range.mp hi)
    have en : Eng.pairD (pm rw (1 + i), ((1 + i : Nat) : Int)) = .tup [.int (pm rw (1 + i)), natD (1 + i)] := rfl
    rw [en]
    generalize natD (1 + i) = d at *
    simp only [evSs, evS, evE, evEs, evBs, evO, evT, evI, rd_k, rd_g, rd_bin, rd_neg, rd_not, rd_and, rd_or, rd_cmp, rd_chain, rd_ite, rd_tup, rd_lst, rd_ix, rd_sl, rd_rev, rd_call, rd_sumL, rd_join, rd_cnt, rd_stp, rd_bf, rd_isI, rd_v, R.bind, lift_ok, lift_ex, of_some, asB_ok, asB_ex, asI_ok, asI_ex, asD_ok, asD_ex, fold2_t, fold2_f, fold2_ex, keepIf_t, keepIf_f, ntup_some, calm_o, items_t, items_l, slotR, sl_v, b_add, b_sub, c_eq, c_ne, c_lt, c_le, c_gt, c_ge, f_lenL, f_lenT, f_tupL, f_tupT, f_lstL, f_lstT, f_int, f_abs, i_int, i_intB, i_intN, i_intT, i_intL, i_intS, i_bool, i_boolB, i_tup, i_tupN, i_tupL, i_tupI, x_tup, x_lst, l_tup, l_lst, r_lst, r_tup, q_lst, q_tup, z_lst, z_tup, t_one, w_nil, w_cons, sget_0, sget_S, List.set_cons_zero, List.set_cons_succ, Option.map_some, Option.bind_some, eqD_int, Bool.not_true, Bool.not_false, sz_0, szT_0, sz_1, szT_1, sz_2, szT_2, sz_3, szT_3, sz_4, szT_4, sz_5, szT_5, sz_6, szT_6, t_many2, t_many3, t_many4, t_lst2, t_lst3, h1]]
  unfold bpL
  rw [List.map_map]
  show sized _ _ = _
  exact sized_ok' (by rw [List.length_map, List.length_range]; exact size_small (by omega))
theorem range_1p {k : Nat} (h : k ≤ 1000) : rangeD 1 ((k : Int) + 1) = some ((List.range k).map fun i => natD (1 + i)) := by
  have := range_1 (k + 1) (by omega)
  rw [Nat.add_sub_cancel] at this
  exact this
theorem bp_2 {mi Ni : Int} (hN : (rw.length : Int) = Ni) (h3 : C n 1 [.int mi, .int 1, .int Ni] st = .ok (.bl true) st) : evS (C n) fuelL s_best_period_2 [.val (T rw), .val (.int mi), .un] st = .ok (.nx, [.val (T rw), .val (.int mi), .un]) st := by
  simp only [s_best_period_2, evSs, evS, evE, evEs, evBs, evO, evT, evI, rd_k, rd_g, rd_bin, rd_neg, rd_not, rd_and, rd_or, rd_cmp, rd_chain, rd_ite, rd_tup, rd_lst, rd_ix, rd_sl, rd_rev, rd_call, rd_sumL, rd_join, rd_cnt, rd_stp, rd_bf, rd_isI, rd_v, R.bind, lift_ok, lift_ex, of_some, asB_ok, asB_ex, asI_ok, asI_ex, asD_ok, asD_ex, fold2_t, fold2_f, fold2_ex, keepIf_t, keepIf_f, ntup_some, calm_o, items_t, items_l, slotR, sl_v, b_add, b_sub, c_eq, c_ne, c_lt, c_le, c_gt, c_ge, f_lenL, f_lenT, f_tupL, f_tupT, f_lstL, f_lstT, f_int, f_abs, i_int, i_intB, i_intN, i_intT, i_intL, i_intS, i_bool, i_boolB, i_tup, i_tupN, i_tupL, i_tupI, x_tup, x_lst, l_tup, l_lst, r_lst, r_tup, q_lst, q_tup, z_lst, z_tup, t_one, w_nil, w_cons, sget_0, sget_S, List.set_cons_zero, List.set_cons_succ, Option.map_some, Option.bind_some, eqD_int, Bool.not_true, Bool.not_false, sz_0, szT_0, sz_1, szT_1, sz_2, szT_2, sz_3, szT_3, sz_4, szT_4, sz_5, szT_5, sz_6, szT_6, t_many2, t_many3, t_many4, t_lst2, t_lst3, List.length_map, hN, h3]
theorem bp_3 {mi : Int} {rows : List Pt} {p : Pt} (b : evE (C n) x_best_period_0 [.val (T rw), .val (.int mi), .un] st = .ok (.lst (rows.map Eng.pairD)) st) (hm : minP rows = some p) : evS (C n) fuelL s_best_period_3 [.val (T rw), .val (.int mi), .un] st = .ok (.rt (Eng.pairD p), [.val (T rw), .val (.int mi), .un]) st := by
  have f := f_minP hm
  simp only [s_best_period_3, evSs, evS, evE, evEs, evBs, evO, evT, evI, rd_k, rd_g, rd_bin, rd_neg, rd_not, rd_and, rd_or, rd_cmp, rd_chain, rd_ite, rd_tup, rd_lst, rd_ix, rd_sl, rd_rev, rd_call, rd_sumL, rd_join, rd_cnt, rd_stp, rd_bf, rd_isI, rd_v, R.bind, lift_ok, lift_ex, of_some, asB_ok, asB_ex, asI_ok, asI_ex, asD_ok, asD_ex, fold2_t, fold2_f, fold2_ex, keepIf_t, keepIf_f, ntup_some, calm_o, items_t, items_l, slotR, sl_v, b_add, b_sub, c_eq, c_ne, c_lt, c_le, c_gt, c_ge, f_lenL, f_lenT, f_tupL, f_tupT, f_lstL, f_lstT, f_int, f_abs, i_int, i_intB, i_intN, i_intT, i_intL, i_intS, i_bool, i_boolB, i_tup, i_tupN, i_tupL, i_tupI, x_tup, x_lst, l_tup, l_lst, r_lst, r_tup, q_lst, q_tup, z_lst, z_tup, t_one, w_nil, w_cons, sget_0, sget_S, List.set_cons_zero, List.set_cons_succ, Option.map_some, Option.bind_some, eqD_int, Bool.not_true, Bool.not_false, sz_0, szT_0, sz_1, szT_1, sz_2, szT_2, sz_3, szT_3, sz_4, szT_4, sz_5, szT_5, sz_6, szT_6, t_many2, t_many3, t_many4, t_lst2, t_lst3, b, x_best_period_0_rd, f]
theorem best_ok {k : Nat} {p : Pt} (h : Row rw) (h1 : 1 ≤ k) (hm : k ≤ rw.length) (hp : minP (bpL rw k) = some p) : C (n + 6) 10 [T rw, .int k] st = .ok (Eng.pairD p) st := by
  have hl := h.l
  have e0 : evS (C (n + 5)) fuelL s_best_period_0 [.val (T rw), .val (natD k), .un] st = .ok (.nx, [.val (T rw), .val (natD k), .un]) st := by
    simp only [s_best_period_0, evSs, evS, evE, evEs, evBs, evO, evT, evI, rd_k, rd_g, rd_bin, rd_neg, rd_not, rd_and, rd_or, rd_cmp, rd_chain, rd_ite, rd_tup, rd_lst, rd_ix, rd_sl, rd_rev, rd_call, rd_sumL, rd_join, rd_cnt, rd_stp, rd_bf, rd_isI, rd_v, R.bind, lift_ok, lift_ex, of_some, asB_ok, asB_ex, asI_ok, asI_ex, asD_ok, asD_ex, fold2_t, fold2_f, fold2_ex, keepIf_t, keepIf_f, ntup_some, calm_o, items_t, items_l, slotR, sl_v, b_add, b_sub, c_eq, c_ne, c_lt, c_le, c_gt, c_ge, f_lenL, f_lenT, f_tupL, f_tupT, f_lstL, f_lstT, f_int, f_abs, i_int, i_intB, i_intN, i_intT, i_intL, i_intS, i_bool, i_boolB, i_tup, i_tupN, i_tupL, i_tupI, x_tup, x_lst, l_tup, l_lst, r_lst, r_tup, q_lst, q_tup, z_lst, z_tup, t_one, w_nil, w_cons, sget_0, sget_S, List.set_cons_zero, List.set_cons_succ, Option.map_some, Option.bind_some, eqD_int, Bool.not_true, Bool.not_false, sz_0, szT_0, sz_1, szT_1, sz_2, szT_2, sz_3, szT_3, sz_4, szT_4, sz_5, szT_5, sz_6, szT_6, t_many2, t_many3, t_many4, t_lst2, t_lst3, chk_s (n := n + 1) (st := st) (f := h)]
  have e1 : evS (C (n + 5)) fuelL s_best_period_1 [.val (T rw), .val (natD k), .un] st = .ok (.nx, [.val (T rw), .val (natD k), .un]) st := by
    simp only [s_best_period_1, evSs, evS, evE, evEs, evBs, evO, evT, evI, rd_k, rd_g, rd_bin, rd_neg, rd_not, rd_and, rd_or, rd_cmp, rd_chain, rd_ite, rd_tup, rd_lst, rd_ix, rd_sl, rd_rev, rd_call, rd_sumL, rd_join, rd_cnt, rd_stp, rd_bf, rd_isI, rd_v, R.bind, lift_ok, lift_ex, of_some, asB_ok, asB_ex, asI_ok, asI_ex, asD_ok, asD_ex, fold2_t, fold2_f, fold2_ex, keepIf_t, keepIf_f, ntup_some, calm_o, items_t, items_l, slotR, sl_v, b_add, b_sub, c_eq, c_ne, c_lt, c_le, c_gt, c_ge, f_lenL, f_lenT, f_tupL, f_tupT, f_lstL, f_lstT, f_int, f_abs, i_int, i_intB, i_intN, i_intT, i_intL, i_intS, i_bool, i_boolB, i_tup, i_tupN, i_tupL, i_tupI, x_tup, x_lst, l_tup, l_lst, r_lst, r_tup, q_lst, q_tup, z_lst, z_tup, t_one, w_nil, w_cons, sget_0, sget_S, List.set_cons_zero, List.set_cons_succ, Option.map_some, Option.bind_some, eqD_int, Bool.not_true, Bool.not_false, sz_0, szT_0, sz_1, szT_1, sz_2, szT_2, sz_3, szT_3, sz_4, szT_4, sz_5, szT_5, sz_6, szT_6, t_many2, t_many3, t_many4, t_lst2, t_lst3, row_ne h]
  have e2 : evS (C (n + 5)) fuelL s_best_period_2 [.val (T rw), .val (natD k), .un] st = .ok (.nx, [.val (T rw), .val (natD k), .un]) st := bp_2 rfl (from_ok h1 hm)
  have b := bp_x (n := n + 5) (st := st) (rw := rw) (z2 := .un) (k := k) (by omega) (range_1p (by omega)) fun i hi => misses_ok h (by omega) (by omega)
  exact call_rt (fn := r_best_period.fn) rfl rfl rfl (((ss_nx e0).trans (ss_nx e1)).trans ((ss_nx e2).trans (ss_rt (bp_3 b hp))))
/-! means -/
end
section
variable {n : Nat} {st : Sto} {rw : List Int}
theorem call_2 {call : Nat → List D → Sto → R D} {f : Nat} {a b : E} {da db r : D} {env : Eng.Env} {s : Sto} (h1 : evE call a env s = .ok da s) (h2 : evE call b env s = .ok db s) (e : call f [da, db] s = .ok r s) : evE call (.call f (.cons a (.cons b .nil))) env s = .ok r s := by
  show (evEs call (.cons a (.cons b .nil)) env s).bind _ = _
  have : evEs call (.cons a (.cons b .nil)) env s = .ok [da, db] s := by
    simp only [evEs, h1, h2, R.bind]
  rw [this]
  exact e
theorem bf_1 {call : Nat → List D → Sto → R D} {b : Bf} {a : E} {d r : D} {env : Eng.Env} {s : Sto} (h : rdB a env s (evE call a env s) = .ok d s) (e : bfop b [d] = some r) : evE call (.bf b (.cons a .nil)) env s = .ok r s := by
  show (evBs call (.cons a .nil) env s).bind _ = _
  have : evBs call (.cons a .nil) env s = .ok [d] s := by
    simp only [evBs, h, R.bind]
  rw [this]
  show R.of (bfop b [d]) s = _
  rw [e] <;> rfl
theorem stp_3 {call : Nat → List D → Sto → R D} {env : Eng.Env} {s : Sto} {d r : D} {i m : Int} (h0 : sget env 0 = .val d) (h1 : sget env 1 = .val (.int m)) (h2 : sget env 2 = .val (.int i)) (e : stpop d i m = some r) : rdB (.stp (.v 0) (.v 2) (.v 1)) env s (evE call (.stp (.v 0) (.v 2) (.v 1)) env s) = .ok r s := by
  simp only [evSs, evS, evE, evEs, evBs, evO, evT, evI, rd_k, rd_g, rd_bin, rd_neg, rd_not, rd_and, rd_or, rd_cmp, rd_chain, rd_ite, rd_tup, rd_lst, rd_ix, rd_sl, rd_rev, rd_call, rd_sumL, rd_join, rd_cnt, rd_stp, rd_bf, rd_isI, rd_v, R.bind, lift_ok, lift_ex, of_some, asB_ok, asB_ex, asI_ok, asI_ex, asD_ok, asD_ex, fold2_t, fold2_f, fold2_ex, keepIf_t, keepIf_f, ntup_some, calm_o, items_t, items_l, slotR, sl_v, b_add, b_sub, c_eq, c_ne, c_lt, c_le, c_gt, c_ge, f_lenL, f_lenT, f_tupL, f_tupT, f_lstL, f_lstT, f_int, f_abs, i_int, i_intB, i_intN, i_intT, i_intL, i_intS, i_bool, i_boolB, i_tup, i_tupN, i_tupL, i_tupI, x_tup, x_lst, l_tup, l_lst, r_lst, r_tup, q_lst, q_tup, z_lst, z_tup, t_one, w_nil, w_cons, sget_0, sget_S, List.set_cons_zero, List.set_cons_succ, Option.map_some, Option.bind_some, eqD_int, Bool.not_true, Bool.not_false, sz_0, szT_0, sz_1, szT_1, sz_2, szT_2, sz_3, szT_3, sz_4, szT_4, sz_5, szT_5, sz_6, szT_6, t_many2, t_many3, t_many4, t_lst2, t_lst3, h0, h1, h2, e]
theorem lc_eq {call : Nat → List D → Sto → R D} {elt : E} {tg : Tg} {it : IE} {ifs : Es} {own : List Nat} {env : Eng.Env} {s : Sto} : evE call (.lc elt tg it ifs own) env s = R.bind (evI call it env s) fun xs s1 => R.bind (turns (fun d s2 => ntup (tgSet tg d (wipeE env own)) fun env' => keepIf (evT call ifs env' s2) fun s3 => evE call elt env' s3) xs s1) fun ys s5 => sized ys s5 := rfl
theorem el_1 {call : Nat → List D → Sto → R D} {elt : E} {i : Nat} {d y : D} {env : Eng.Env} {s : Sto} (h : evE call elt (env.set i (.val d)) s = .ok y s) : (ntup (tgSet (.one i) d env) fun env' => keepIf (evT call .nil env' s) fun s3 => evE call elt env' s3) = .ok (some y) s := by
  rw [t_one, ntup_some]
  show calm (keepIf (.ok true s) _) = _
  rw [keepIf_t, h] <;> rfl
theorem me_x {mi : Int} {k : Nat} {z2 : Sl} {q : Nat → Pt} (hk : k ≤ 1000) (hr : rangeD 0 mi = some ((List.range k).map natD)) (hx : ∀ p < k, ∃ (w : D) (a b : Int), stpop (T rw) (p : Int) mi = some w ∧ bfop .sum [w] = some (.int a) ∧ bfop .len [w] = some (.int b) ∧ C n 3 [.int a, .int b] st = .ok (Eng.pairD (q p)) st) : evE (C n) x_means_of_0 [.val (T rw), .val (.int mi), z2] st = .ok (.lst ((List.range k).map fun p => Eng.pairD (q p))) st := by
  rw [x_means_of_0, lc_eq, rng_v1 hr rfl, bind_ok]
  rw [turns_map natD (fun p => Eng.pairD (q p)) fun p hp => by
    obtain ⟨w, a, b, hs, f1, f2, e⟩ := hx p (List.mem_range.mp hp)
    exact el_1 (call_2 (bf_1 (stp_3 rfl rfl rfl hs) f1) (bf_1 (stp_3 rfl rfl rfl hs) f2) e)]
  exact sized_ok' (by rw [List.length_map, List.length_range]; exact size_small (by omega))
theorem me_2 {mi : Int} {w : List D} (b : evE (C n) x_means_of_0 [.val (T rw), .val (.int mi), .un] st = .ok (.lst w) st) : evS (C n) fuelL s_means_of_2 [.val (T rw), .val (.int mi), .un] st = .ok (.rt (.tup w), [.val (T rw), .val (.int mi), .un]) st := by
  simp only [s_means_of_2, evSs, evS, evE, evEs, evBs, evO, evT, evI, rd_k, rd_g, rd_bin, rd_neg, rd_not, rd_and, rd_or, rd_cmp, rd_chain, rd_ite, rd_tup, rd_lst, rd_ix, rd_sl, rd_rev, rd_call, rd_sumL, rd_join, rd_cnt, rd_stp, rd_bf, rd_isI, rd_v, R.bind, lift_ok, lift_ex, of_some, asB_ok, asB_ex, asI_ok, asI_ex, asD_ok, asD_ex, fold2_t, fold2_f, fold2_ex, keepIf_t, keepIf_f, ntup_some, calm_o, items_t, items_l, slotR, sl_v, b_add, b_sub, c_eq, c_ne, c_lt, c_le, c_gt, c_ge, f_lenL, f_lenT, f_tupL, f_tupT, f_lstL, f_lstT, f_int, f_abs, i_int, i_intB, i_intN, i_intT, i_intL, i_intS, i_bool, i_boolB, i_tup, i_tupN, i_tupL, i_tupI, x_tup, x_lst, l_tup, l_lst, r_lst, r_tup, q_lst, q_tup, z_lst, z_tup, t_one, w_nil, w_cons, sget_0, sget_S, List.set_cons_zero, List.set_cons_succ, Option.map_some, Option.bind_some, eqD_int, Bool.not_true, Bool.not_false, sz_0, szT_0, sz_1, szT_1, sz_2, szT_2, sz_3, szT_3, sz_4, szT_4, sz_5, szT_5, sz_6, szT_6, t_many2, t_many3, t_many4, t_lst2, t_lst3, b, x_means_of_0_rd]
theorem me_0 {mi : Int} (h : C n 4 [T rw] st = .ok .non st) : evS (C n) fuelL s_means_of_0 [.val (T rw), .val (.int mi), .un] st = .ok (.nx, [.val (T rw), .val (.int mi), .un]) st := by
  simp only [s_means_of_0, evSs, evS, evE, evEs, evBs, evO, evT, evI, rd_k, rd_g, rd_bin, rd_neg, rd_not, rd_and, rd_or, rd_cmp, rd_chain, rd_ite, rd_tup, rd_lst, rd_ix, rd_sl, rd_rev, rd_call, rd_sumL, rd_join, rd_cnt, rd_stp, rd_bf, rd_isI, rd_v, R.bind, lift_ok, lift_ex, of_some, asB_ok, asB_ex, asI_ok, asI_ex, asD_ok, asD_ex, fold2_t, fold2_f, fold2_ex, keepIf_t, keepIf_f, ntup_some, calm_o, items_t, items_l, slotR, sl_v, b_add, b_sub, c_eq, c_ne, c_lt, c_le, c_gt, c_ge, f_lenL, f_lenT, f_tupL, f_tupT, f_lstL, f_lstT, f_int, f_abs, i_int, i_intB, i_intN, i_intT, i_intL, i_intS, i_bool, i_boolB, i_tup, i_tupN, i_tupL, i_tupI, x_tup, x_lst, l_tup, l_lst, r_lst, r_tup, q_lst, q_tup, z_lst, z_tup, t_one, w_nil, w_cons, sget_0, sget_S, List.set_cons_zero, List.set_cons_succ, Option.map_some, Option.bind_some, eqD_int, Bool.not_true, Bool.not_false, sz_0, szT_0, sz_1, szT_1, sz_2, szT_2, sz_3, szT_3, sz_4, szT_4, sz_5, szT_5, sz_6, szT_6, t_many2, t_many3, t_many4, t_lst2, t_lst3, h]
theorem me_1 {mi Ni : Int} (q : eqD (T rw) (.tup []) = some false) (hN : (rw.length : Int) = Ni) (h3 : C n 1 [.int mi, .int 1, .int Ni] st = .ok (.bl true) st) : evS (C n) fuelL s_means_of_1 [.val (T rw), .val (.int mi), .un] st = .ok (.nx, [.val (T rw), .val (.int mi), .un]) st := by
  simp only [s_means_of_1, evSs, evS, evE, evEs, evBs, evO, evT, evI, rd_k, rd_g, rd_bin, rd_neg, rd_not, rd_and, rd_or, rd_cmp, rd_chain, rd_ite, rd_tup, rd_lst, rd_ix, rd_sl, rd_rev, rd_call, rd_sumL, rd_join, rd_cnt, rd_stp, rd_bf, rd_isI, rd_v, R.bind, lift_ok, lift_ex, of_some, asB_ok, asB_ex, asI_ok, asI_ex, asD_ok, asD_ex, fold2_t, fold2_f, fold2_ex, keepIf_t, keepIf_f, ntup_some, calm_o, items_t, items_l, slotR, sl_v, b_add, b_sub, c_eq, c_ne, c_lt, c_le, c_gt, c_ge, f_lenL, f_lenT, f_tupL, f_tupT, f_lstL, f_lstT, f_int, f_abs, i_int, i_intB, i_intN, i_intT, i_intL, i_intS, i_bool, i_boolB, i_tup, i_tupN, i_tupL, i_tupI, x_tup, x_lst, l_tup, l_lst, r_lst, r_tup, q_lst, q_tup, z_lst, z_tup, t_one, w_nil, w_cons, sget_0, sget_S, List.set_cons_zero, List.set_cons_succ, Option.map_some, Option.bind_some, eqD_int, Bool.not_true, Bool.not_false, sz_0, szT_0, sz_1, szT_1, sz_2, szT_2, sz_3, szT_3, sz_4, szT_4, sz_5, szT_5, sz_6, szT_6, t_many2, t_many3, t_many4, t_lst2, t_lst3, q, List.length_map, hN, h3]
def mnL (rw : List Int) (m : Nat) : List Pt := (List.range m).map fun p => meanP (phs rw m p)
theorem means_ok {m : Nat} (h : Row rw) (h1 : 1 ≤ m) (hm : m ≤ rw.length) : C (n + 5) 11 [T rw, .int m] st = .ok (.tup ((mnL rw m).map Eng.pairD)) st := by
  have hl := h.l
  have b := me_x (n := n + 4) (st := st) (rw := rw) (z2 := .un) (q := fun p => meanP (phs rw m p)) (k := m) (by omega) (range_k m (by omega)) fun p hp => by
    have hne := List.length_pos_iff.mpr (phs_ne (rw := rw) (m := m) (p := p) (by omega) (by omega))
    have hle := phs_le rw m p
    exact ⟨T (phs rw m p), _, _, stp_T (by omega) h1 (by omega), f_sumT _, by rw [f_lenT, List.length_map], lean_ok (by omega) (by omega)⟩
  have em : ((List.range m).map fun p => Eng.pairD (meanP (phs rw m p))) = (mnL rw m).map Eng.pairD := by
    unfold mnL
    rw [List.map_map] <;> rfl
  rw [em] at b
  exact call_rt (fn := r_means_of.fn) rfl rfl rfl (((ss_nx (me_0 (chk_s (n := n) (f := h)))).trans (ss_nx (me_1 (row_ne h) rfl (from_ok h1 hm)))).trans (ss_rt (me_2 b)))
/-! rests -/
def rsP (rw : List Int) (m i : Nat) : Pt := leanP (gg rw i * ((phs rw m (i % m)).length : Int) - (phs rw m (i % m)).sum) (phs rw m (i % m)).length
def rsL (rw : List Int) (m : Nat) : List Pt := (List.range rw.length).map fun i => rsP rw m i
theorem rs_turn {mi ai x k : Int} {w fl : List D} {mp r : Pt} {z6 z7 : Sl} (hd : binop .fdiv (.int ai) (.int mi) = some (.int k)) (hs : small64 mi = true) (hw : atI w (ai - mi * k) = some (Eng.pairD mp)) (hx : small64 x = true) (he : C n 3 [.int (x * mp.2 - mp.1), .int mp.2] st = .ok (Eng.pairD r) st) (hf : fl.length < 10000) :
    evSs (C n) fuelL f_rest_of_0 [.val (T rw), .val (.int mi), .val (.tup w), .own fl, .val (.int ai), .val (.int x), z6, z7] st = .ok (.nx, [.val (T rw), .val (.int mi), .val (.tup w), .own (fl ++ [Eng.pairD r]), .val (.int ai), .val (.int x), .val (.int mp.1), .val (.int mp.2)]) st := by
  have d1 : decide (fl.length < sizeLine) = true := decide_eq_true (Nat.lt_of_lt_of_le (show fl.length < 16777216 by omega) (size_small (Nat.le_refl _)))
  simp only [f_rest_of_0, evSs, evS, evE, evEs, evBs, evO, evT, evI, rd_k, rd_g, rd_bin, rd_neg, rd_not, rd_and, rd_or, rd_cmp, rd_chain, rd_ite, rd_tup, rd_lst, rd_ix, rd_sl, rd_rev, rd_call, rd_sumL, rd_join, rd_cnt, rd_stp, rd_bf, rd_isI, rd_v, R.bind, lift_ok, lift_ex, of_some, asB_ok, asB_ex, asI_ok, asI_ex, asD_ok, asD_ex, fold2_t, fold2_f, fold2_ex, keepIf_t, keepIf_f, ntup_some, calm_o, items_t, items_l, slotR, sl_v, b_add, b_sub, c_eq, c_ne, c_lt, c_le, c_gt, c_ge, f_lenL, f_lenT, f_tupL, f_tupT, f_lstL, f_lstT, f_int, f_abs, i_int, i_intB, i_intN, i_intT, i_intL, i_intS, i_bool, i_boolB, i_tup, i_tupN, i_tupL, i_tupI, x_tup, x_lst, l_tup, l_lst, r_lst, r_tup, q_lst, q_tup, z_lst, z_tup, t_one, w_nil, w_cons, sget_0, sget_S, List.set_cons_zero, List.set_cons_succ, Option.map_some, Option.bind_some, eqD_int, Bool.not_true, Bool.not_false, sz_0, szT_0, sz_1, szT_1, sz_2, szT_2, sz_3, szT_3, sz_4, szT_4, sz_5, szT_5, sz_6, szT_6, t_many2, t_many3, t_many4, t_lst2, t_lst3, hd, b_mul _ _ (.inl hs), hw, t_p2, b_mul _ _ (.inl hx), he, d1]
theorem mean_pos {m p : Nat} (h1 : 1 ≤ m) (hm : m ≤ rw.length) (hp : p < m) (hl : rw.length ≤ 1000) : 0 < (meanP (phs rw m p)).2 ∧ (meanP (phs rw m p)).2 ≤ 1000 := by
  have hne := List.length_pos_iff.mpr (phs_ne (rw := rw) (m := m) (p := p) (by omega) (by omega))
  have hle := phs_le rw m p
  obtain ⟨g, h0, a1, a2, a3⟩ := lean_sc (phs rw m p).sum (show (0 : Int) < ((phs rw m p).length : Int) by omega)
  refine ⟨a3, ?_⟩
  show (leanP _ _).2 ≤ 1000
  have : 1 * (leanP (phs rw m p).sum ((phs rw m p).length : Int)).2 ≤ g * (leanP (phs rw m p).sum ((phs rw m p).length : Int)).2 := Int.mul_le_mul_of_nonneg_right (by omega) (by omega)
  omega
theorem rs_loop {m : Nat} (h : Row rw) (h1 : 1 ≤ m) (hm : m ≤ rw.length) : ∀ (xs : List Int) (i : Nat) (acc : List Pt) (z4 z5 z6 z7 : Sl), (∀ j, j < xs.length → xs.getD j 0 = gg rw (i + j)) → i + xs.length = rw.length → acc.length + xs.length ≤ 5000 →
    ∃ z4' z5' z6' z7', loopF (tgSet (.many [4, 5])) (fun env s => evSs (C (n + 1)) fuelL f_rest_of_0 env s) (enumD i (xs.map .int)) [.val (T rw), .val (natD m), .val (.tup ((mnL rw m).map Eng.pairD)), .own (acc.map Eng.pairD), z4, z5, z6, z7] st =
    .ok (.nx, [.val (T rw), .val (natD m), .val (.tup ((mnL rw m).map Eng.pairD)), .own ((acc ++ (List.range xs.length).map fun j => rsP rw m (i + j)).map Eng.pairD), z4', z5', z6', z7']) st
  | [], i, acc, z4, z5, z6, z7, _, _, _ => ⟨z4, z5, z6, z7, by
    show _ = R.ok (Fl.nx, [_, _, _, Sl.own ((acc ++ []).map Eng.pairD), _, _, _, _]) st
    rw [List.append_nil] <;> rfl⟩
  | x :: xs, i, acc, z4, z5, z6, z7, hx, hi, ha => by
    have hl := h.l
    rw [List.length_cons] at hi ha
    have x0 : x = gg rw i := hx 0 (by rw [List.length_cons]; omega)
    have hv := h.v _ (gg_mem (show i < rw.length by omega))
    rw [← x0] at hv
    have hp : i % m < m := Nat.mod_lt _ (by omega)
    obtain ⟨p1, p2⟩ := mean_pos (rw := rw) h1 hm hp (by omega)
    have hne := List.length_pos_iff.mpr (phs_ne (rw := rw) (m := m) (p := i % m) (by omega) (by omega))
    have hle : C (n + 1) 3 [.int (x * (meanP (phs rw m (i % m))).2 - (meanP (phs rw m (i % m))).1), .int (meanP (phs rw m (i % m))).2] st = .ok (Eng.pairD (rsP rw m i)) st := by
      have e : C (n + 1) 3 [.int (x * (meanP (phs rw m (i % m))).2 - (meanP (phs rw m (i % m))).1), .int (meanP (phs rw m (i % m))).2] st = .ok (Eng.pairD (leanP (x * (meanP (phs rw m (i % m))).2 - (meanP (phs rw m (i % m))).1) (meanP (phs rw m (i % m))).2)) st := lean_ok p1 (by omega)
      have q := rest_eq (x := x) (s := (phs rw m (i % m)).sum) (l := ((phs rw m (i % m)).length : Int)) (by omega)
      have q' : leanP (x * (meanP (phs rw m (i % m))).2 - (meanP (phs rw m (i % m))).1) (meanP (phs rw m (i % m))).2 = rsP rw m i := by
        unfold rsP
        rw [← x0]
        exact q
      rw [q'] at e
      exact e
    have hw : atI ((mnL rw m).map Eng.pairD) ((i : Int) - (m : Int) * ((i : Int) / (m : Int))) = some (Eng.pairD (meanP (phs rw m (i % m)))) := by
      have : (i : Int) - (m : Int) * ((i : Int) / (m : Int)) = ((i % m : Nat) : Int) := by
        rw [Int.natCast_emod, Int.emod_def]
      rw [this, atI_map, at_nat _ _ (by unfold mnL; rw [List.length_map, List.length_range]; exact hp)]
      unfold mnL
      rw [List.getElem_map, List.getElem_range] <;> rfl
    have u := rs_turn (n := n + 1) (st := st) (rw := rw) (z6 := z6) (z7 := z7) (fl := acc.map Eng.pairD) (b_fdiv (i : Int) (m : Int) (by omega) (by
      have : (m : Int).natAbs < 2 ^ 9000 := Nat.lt_of_le_of_lt (show (m : Int).natAbs ≤ 4000 by omega) (by decide +kernel)
      exact (Nat.log2_lt (by omega)).mpr this)) (small_of (by omega) (by omega)) hw (small_of (by omega) (by omega)) hle (by rw [List.length_map]; omega)
    have em : acc.map Eng.pairD ++ [Eng.pairD (rsP rw m i)] = (acc ++ [rsP rw m i]).map Eng.pairD := by rw [List.map_append] <;> rfl
    rw [em] at u
    obtain ⟨z4', z5', z6', z7', w⟩ := rs_loop h h1 hm xs (i + 1) (acc ++ [rsP rw m i]) (.val (.int (i : Int))) (.val (.int x)) (.val (.int (meanP (phs rw m (i % m))).1)) (.val (.int (meanP (phs rw m (i % m))).2)) (fun j hj => by
      have := hx (j + 1) (by rw [List.length_cons]; omega)
      rw [show i + 1 + j = i + (j + 1) by omega]
      exact this) (by omega) (by rw [List.length_append, List.length_cons, List.length_nil]; omega)
    refine ⟨z4', z5', z6', z7', (loopF_step rfl u).trans (w.trans ?_)⟩
    rw [List.append_assoc, List.length_cons, List.range_succ_eq_map, List.map_cons, List.map_map, List.cons_append, List.nil_append]
    have ef : ((fun j => rsP rw m (i + j)) ∘ Nat.succ) = fun j => rsP rw m (i + 1 + j) := by
      funext j
      show rsP rw m (i + (j + 1)) = _
      rw [show i + (j + 1) = i + 1 + j by omega]
    rw [ef] <;> rfl
theorem rest_ok {m : Nat} (h : Row rw) (h1 : 1 ≤ m) (hm : m ≤ rw.length) : C (n + 6) 12 [T rw, .int m] st = .ok (.tup ((rsL rw m).map Eng.pairD)) st := by
  have hl := h.l
  have em := means_ok (n := n) (st := st) h h1 hm
  have e0 : evS (C (n + 5)) fuelL s_rest_of_0 [.val (T rw), .val (natD m), .un, .un, .un, .un, .un, .un] st = .ok (.nx, [.val (T rw), .val (natD m), .val (.tup ((mnL rw m).map Eng.pairD)), .un, .un, .un, .un, .un]) st := by
    generalize (mnL rw m).map Eng.pairD = w at *
    have em' : C (n + 5) 11 [T rw, natD m] st = .ok (.tup w) st := em
    generalize natD m = d at *
    simp only [s_rest_of_0, evSs, evS, evE, evEs, evBs, evO, evT, evI, rd_k, rd_g, rd_bin, rd_neg, rd_not, rd_and, rd_or, rd_cmp, rd_chain, rd_ite, rd_tup, rd_lst, rd_ix, rd_sl, rd_rev, rd_call, rd_sumL, rd_join, rd_cnt, rd_stp, rd_bf, rd_isI, rd_v, R.bind, lift_ok, lift_ex, of_some, asB_ok, asB_ex, asI_ok, asI_ex, asD_ok, asD_ex, fold2_t, fold2_f, fold2_ex, keepIf_t, keepIf_f, ntup_some, calm_o, items_t, items_l, slotR, sl_v, b_add, b_sub, c_eq, c_ne, c_lt, c_le, c_gt, c_ge, f_lenL, f_lenT, f_tupL, f_tupT, f_lstL, f_lstT, f_int, f_abs, i_int, i_intB, i_intN, i_intT, i_intL, i_intS, i_bool, i_boolB, i_tup, i_tupN, i_tupL, i_tupI, x_tup, x_lst, l_tup, l_lst, r_lst, r_tup, q_lst, q_tup, z_lst, z_tup, t_one, w_nil, w_cons, sget_0, sget_S, List.set_cons_zero, List.set_cons_succ, Option.map_some, Option.bind_some, eqD_int, Bool.not_true, Bool.not_false, sz_0, szT_0, sz_1, szT_1, sz_2, szT_2, sz_3, szT_3, sz_4, szT_4, sz_5, szT_5, sz_6, szT_6, t_many2, t_many3, t_many4, t_lst2, t_lst3, em']
  have e1 : evS (C (n + 5)) fuelL s_rest_of_1 [.val (T rw), .val (natD m), .val (.tup ((mnL rw m).map Eng.pairD)), .un, .un, .un, .un, .un] st = .ok (.nx, [.val (T rw), .val (natD m), .val (.tup ((mnL rw m).map Eng.pairD)), .own (([] : List Pt).map Eng.pairD), .un, .un, .un, .un]) st := by
    simp only [s_rest_of_1, evSs, evS, evE, evEs, evBs, evO, evT, evI, rd_k, rd_g, rd_bin, rd_neg, rd_not, rd_and, rd_or, rd_cmp, rd_chain, rd_ite, rd_tup, rd_lst, rd_ix, rd_sl, rd_rev, rd_call, rd_sumL, rd_join, rd_cnt, rd_stp, rd_bf, rd_isI, rd_v, R.bind, lift_ok, lift_ex, of_some, asB_ok, asB_ex, asI_ok, asI_ex, asD_ok, asD_ex, fold2_t, fold2_f, fold2_ex, keepIf_t, keepIf_f, ntup_some, calm_o, items_t, items_l, slotR, sl_v, b_add, b_sub, c_eq, c_ne, c_lt, c_le, c_gt, c_ge, f_lenL, f_lenT, f_tupL, f_tupT, f_lstL, f_lstT, f_int, f_abs, i_int, i_intB, i_intN, i_intT, i_intL, i_intS, i_bool, i_boolB, i_tup, i_tupN, i_tupL, i_tupI, x_tup, x_lst, l_tup, l_lst, r_lst, r_tup, q_lst, q_tup, z_lst, z_tup, t_one, w_nil, w_cons, sget_0, sget_S, List.set_cons_zero, List.set_cons_succ, Option.map_some, Option.bind_some, eqD_int, Bool.not_true, Bool.not_false, sz_0, szT_0, sz_1, szT_1, sz_2, szT_2, sz_3, szT_3, sz_4, szT_4, sz_5, szT_5, sz_6, szT_6, t_many2, t_many3, t_many4, t_lst2, t_lst3]
    rfl
  obtain ⟨z4, z5, z6, z7, e⟩ := rs_loop (n := n + 4) (st := st) h h1 hm rw 0 [] .un .un .un .un (fun j hj => by rw [Nat.zero_add] <;> rfl) (by omega) (by rw [List.length_nil]; omega)
  rw [List.nil_append] at e
  have er : ((List.range rw.length).map fun j => rsP rw m (0 + j)) = rsL rw m := by
    unfold rsL
    congr 1
    funext j
    rw [Nat.zero_add]
  rw [er] at e
  have e2 : evS (C (n + 5)) fuelL s_rest_of_2 [.val (T rw), .val (natD m), .val (.tup ((mnL rw m).map Eng.pairD)), .own (([] : List Pt).map Eng.pairD), .un, .un, .un, .un] st = .ok (.nx, [.val (T rw), .val (natD m), .val (.tup ((mnL rw m).map Eng.pairD)), .own ((rsL rw m).map Eng.pairD), z4, z5, z6, z7]) st := by
    have ei : evI (C (n + 5)) (.enum (.v 0)) [.val (T rw), .val (natD m), .val (.tup ((mnL rw m).map Eng.pairD)), .own (([] : List Pt).map Eng.pairD), .un, .un, .un, .un] st = .ok (enumD 0 (rw.map .int)) st := by
      have q : enumA (T rw) = some (enumD 0 (rw.map .int)) := rfl
      simp only [evSs, evS, evE, evEs, evBs, evO, evT, evI, rd_k, rd_g, rd_bin, rd_neg, rd_not, rd_and, rd_or, rd_cmp, rd_chain, rd_ite, rd_tup, rd_lst, rd_ix, rd_sl, rd_rev, rd_call, rd_sumL, rd_join, rd_cnt, rd_stp, rd_bf, rd_isI, rd_v, R.bind, lift_ok, lift_ex, of_some, asB_ok, asB_ex, asI_ok, asI_ex, asD_ok, asD_ex, fold2_t, fold2_f, fold2_ex, keepIf_t, keepIf_f, ntup_some, calm_o, items_t, items_l, slotR, sl_v, b_add, b_sub, c_eq, c_ne, c_lt, c_le, c_gt, c_ge, f_lenL, f_lenT, f_tupL, f_tupT, f_lstL, f_lstT, f_int, f_abs, i_int, i_intB, i_intN, i_intT, i_intL, i_intS, i_bool, i_boolB, i_tup, i_tupN, i_tupL, i_tupI, x_tup, x_lst, l_tup, l_lst, r_lst, r_tup, q_lst, q_tup, z_lst, z_tup, t_one, w_nil, w_cons, sget_0, sget_S, List.set_cons_zero, List.set_cons_succ, Option.map_some, Option.bind_some, eqD_int, Bool.not_true, Bool.not_false, sz_0, szT_0, sz_1, szT_1, sz_2, szT_2, sz_3, szT_3, sz_4, szT_4, sz_5, szT_5, sz_6, szT_6, t_many2, t_many3, t_many4, t_lst2, t_lst3, q]
    show lift (evI (C (n + 5)) _ _ _) _ _ = _
    rw [ei, lift_ok]
    exact e
  have e3 : evS (C (n + 5)) fuelL s_rest_of_3 [.val (T rw), .val (natD m), .val (.tup ((mnL rw m).map Eng.pairD)), .own ((rsL rw m).map Eng.pairD), z4, z5, z6, z7] st = .ok (.rt (.tup ((rsL rw m).map Eng.pairD)), [.val (T rw), .val (natD m), .val (.tup ((mnL rw m).map Eng.pairD)), .own ((rsL rw m).map Eng.pairD), z4, z5, z6, z7]) st := by
    simp only [s_rest_of_3, evSs, evS, evE, evEs, evBs, evO, evT, evI, rd_k, rd_g, rd_bin, rd_neg, rd_not, rd_and, rd_or, rd_cmp, rd_chain, rd_ite, rd_tup, rd_lst, rd_ix, rd_sl, rd_rev, rd_call, rd_sumL, rd_join, rd_cnt, rd_stp, rd_bf, rd_isI, rd_v, R.bind, lift_ok, lift_ex, of_some, asB_ok, asB_ex, asI_ok, asI_ex, asD_ok, asD_ex, fold2_t, fold2_f, fold2_ex, keepIf_t, keepIf_f, ntup_some, calm_o, items_t, items_l, slotR, sl_v, b_add, b_sub, c_eq, c_ne, c_lt, c_le, c_gt, c_ge, f_lenL, f_lenT, f_tupL, f_tupT, f_lstL, f_lstT, f_int, f_abs, i_int, i_intB, i_intN, i_intT, i_intL, i_intS, i_bool, i_boolB, i_tup, i_tupN, i_tupL, i_tupI, x_tup, x_lst, l_tup, l_lst, r_lst, r_tup, q_lst, q_tup, z_lst, z_tup, t_one, w_nil, w_cons, sget_0, sget_S, List.set_cons_zero, List.set_cons_succ, Option.map_some, Option.bind_some, eqD_int, Bool.not_true, Bool.not_false, sz_0, szT_0, sz_1, szT_1, sz_2, szT_2, sz_3, szT_3, sz_4, szT_4, sz_5, szT_5, sz_6, szT_6, t_many2, t_many3, t_many4, t_lst2, t_lst3]
  exact call_rt (fn := r_rest_of.fn) rfl rfl rfl (((ss_nx e0).trans (ss_nx e1)).trans ((ss_nx e2).trans (ss_rt e3)))
end
/-! ### what stands out, parts that come again -/
def iabs (x : Int) : Int := if x < 0 then -x else x
theorem cut_ij {α : Type} (xs : List α) (i j : Nat) : Eng.cutD xs (some (i : Int)) (some (j : Int)) = (xs.drop i).take (j - i) := by
  unfold Eng.cutD
  have e0 : HT.sIx xs.length 0 (some (i : Int)) = min i xs.length := by
    unfold HT.sIx
    simp
    omega
  have e1 : HT.sIx xs.length xs.length (some (j : Int)) = min j xs.length := by
    unfold HT.sIx
    simp
    omega
  rw [e0, e1]
  by_cases h : i ≤ xs.length
  · rw [Nat.min_eq_left h, List.take_eq_take_iff, List.length_drop]
    omega
  · rw [Nat.min_eq_right (show xs.length ≤ i by omega), List.drop_length, List.drop_eq_nil_of_le (by omega), List.take_nil, List.take_nil]
theorem ins_len (x : Int) : ∀ l : List Int, (insI x l).length = l.length + 1
  | [] => rfl
  | y :: r => by
    unfold insI
    split
    · rfl
    · rw [List.length_cons, ins_len x r] <;> rfl
theorem sort_len : ∀ l : List Int, (sortI l).length = l.length
  | [] => rfl
  | x :: r => by
    show (insI x (sortI r)).length = _
    rw [ins_len, sort_len r] <;> rfl
def nb (rw : List Int) (w i : Nat) : List Int := (rw.drop (i - w)).take (i + w + 1 - (i - w))
def so (rw : List Int) (w : Nat) (b : Int) (i : Nat) : Bool := decide (b < iabs (gg rw i - (sortI (nb rw w i)).getD (((nb rw w i).length - 1) / 2) 0))
theorem nb_ne {rw : List Int} {w i : Nat} (h : i < rw.length) : 0 < (nb rw w i).length := by
  unfold nb
  rw [List.length_take, List.length_drop]
  omega
theorem nb_law (rw : List Int) (w i : Nat) : nb rw w i = ((List.range rw.length).filter fun (p : Nat) => decide (iabs ((p : Int) - (i : Int)) ≤ (w : Int))).map (gg rw) := by
  unfold nb
  rw [drop_take]
  congr 1
  refine List.filter_congr fun p _ => ?_
  have : (decide (i - w ≤ p) && decide (p < i - w + (i + w + 1 - (i - w)))) = decide (i - w ≤ p ∧ p < i - w + (i + w + 1 - (i - w))) := by rw [Bool.decide_and]
  rw [this, decide_eq_decide]
  unfold iabs
  split <;> omega
def fa (rw part : List Int) (N : Nat) : List Nat := (List.range N).filter fun i => decide ((rw.drop i).take part.length = part)
theorem filter_cut (p : Nat → Bool) (K : Nat) : ∀ N, K ≤ N → (∀ i, K ≤ i → i < N → p i = false) → (List.range N).filter p = (List.range K).filter p
  | 0, h, _ => by
    obtain rfl : K = 0 := by omega
    rfl
  | N + 1, h, hp => by
    by_cases q : K = N + 1
    · rw [q]
    · rw [List.range_succ, List.filter_append, List.filter_cons_of_neg (by rw [hp N (by omega) (by omega)]; exact Bool.false_ne_true), filter_cut p K N (by omega) fun i h1 h2 => hp i h1 (by omega)]
      simp
theorem fa_eq {rw part : List Int} (h : part ≠ []) : fa rw part rw.length = fa rw part (rw.length + 1 - part.length) := by
  have hp := List.length_pos_iff.mpr h
  refine filter_cut _ _ _ (by omega) fun i h1 h2 => decide_eq_false fun z => ?_
  have := congrArg List.length z
  rw [List.length_take, List.length_drop] at this
  omega
section
variable {n : Nat} {st : Sto} {rw : List Int}
theorem so_turn {ai wi bi x lo k y : Int} {S L : List Int} {fl : List D} {z6 : Sl} {b : Bool} (h1 : (if 0 < ai - wi then ai - wi else 0) = lo) (h2 : Eng.cutD (rw.map D.int) (some lo) (some (ai + wi + 1)) = S.map .int) (hL : sortI S = L) (hd : binop .fdiv (.int ((L.length : Int) - 1)) (.int 2) = some (.int k)) (hy : atI (L.map D.int) k = some (.int y)) (hb : decide (bi < iabs (x - y)) = b) (hf : fl.length < 10000) :
    evSs (C n) fuelL f_standing_out_0 [.val (T rw), .val (.int wi), .val (.int bi), .own fl, .val (.int ai), .val (.int x), z6] st = .ok (.nx, [.val (T rw), .val (.int wi), .val (.int bi), .own (if b = true then fl ++ [.int ai] else fl), .val (.int ai), .val (.int x), .val (.lst (L.map .int))]) st := by
  have d1 : decide (fl.length < sizeLine) = true := decide_eq_true (Nat.lt_of_lt_of_le (show fl.length < 16777216 by omega) (size_small (Nat.le_refl _)))
  have fs := f_sortT S
  rw [hL] at fs
  have ab : bfop .abs [.int (x - y)] = some (.int (iabs (x - y))) := rfl
  have mx := max2 0 (ai - wi)
  rw [h1] at mx
  generalize iabs (x - y) = v at *
  cases b
  · have e : ∀ s : Sto, R.of (bfop .abs [.int (x - y)]) s = .ok (.int v) s := fun s => by rw [ab] <;> rfl
    simp only [f_standing_out_0, evSs, evS, evE, evEs, evBs, evO, evT, evI, rd_k, rd_g, rd_bin, rd_neg, rd_bf, rd_lst, rd_sl, rd_ix, rd_cmp, rd_v, R.bind, lift_ok, of_some, asB_ok, asI_ok, asD_ok, slotR, sl_v, b_add, b_sub, c_gt, f_lenL, x_lst, l_tup, sz_2, sget_0, sget_S, List.set_cons_zero, List.set_cons_succ, List.length_map, mx, h2, fs, hd, hy, e, hb, if_neg Bool.false_ne_true]
  · have e : ∀ s : Sto, R.of (bfop .abs [.int (x - y)]) s = .ok (.int v) s := fun s => by rw [ab] <;> rfl
    simp only [f_standing_out_0, evSs, evS, evE, evEs, evBs, evO, evT, evI, rd_k, rd_g, rd_bin, rd_neg, rd_bf, rd_lst, rd_sl, rd_ix, rd_cmp, rd_v, R.bind, lift_ok, of_some, asB_ok, asI_ok, asD_ok, slotR, sl_v, b_add, b_sub, c_gt, f_lenL, x_lst, l_tup, sz_2, sget_0, sget_S, List.set_cons_zero, List.set_cons_succ, List.length_map, mx, h2, fs, hd, hy, e, hb, d1, if_true]
def soL (rw : List Int) (w : Nat) (b : Int) (N i : Nat) : List Nat := ((List.range N).map (i + ·)).filter (so rw w b)
theorem so_facts {w i : Nat} (h : i < rw.length) (hl : rw.length ≤ 1000) (hw : w ≤ 1000) : (if 0 < (i : Int) - (w : Int) then (i : Int) - (w : Int) else 0) = ((i - w : Nat) : Int) ∧ Eng.cutD (rw.map D.int) (some ((i - w : Nat) : Int)) (some ((i : Int) + (w : Int) + 1)) = (nb rw w i).map .int ∧
    binop .fdiv (.int (((sortI (nb rw w i)).length : Int) - 1)) (.int 2) = some (.int ((((nb rw w i).length - 1) / 2 : Nat) : Int)) ∧ atI ((sortI (nb rw w i)).map D.int) ((((nb rw w i).length - 1) / 2 : Nat) : Int) = some (.int ((sortI (nb rw w i)).getD (((nb rw w i).length - 1) / 2) 0)) := by
  have hn := nb_ne (w := w) h
  refine ⟨by split <;> omega, ?_, ?_, ?_⟩
  · rw [show (i : Int) + (w : Int) + 1 = ((i + w + 1 : Nat) : Int) by omega, cut_ij]
    unfold nb
    rw [List.map_take, List.map_drop]
  · rw [b_fdiv _ 2 (by decide) (by decide), sort_len]
    congr 2
    omega
  · rw [atI_map, at_nat _ _ (by rw [sort_len]; omega), List.getD_eq_getElem?_getD, List.getElem?_eq_getElem (by rw [sort_len]; omega)] <;> rfl
theorem so_loop {w : Nat} {b : Int} (hl : rw.length ≤ 1000) (hw : w ≤ 1000) : ∀ (xs : List Int) (i : Nat) (acc : List Nat) (z4 z5 z6 : Sl), (∀ j, j < xs.length → xs.getD j 0 = gg rw (i + j)) → i + xs.length = rw.length → acc.length + xs.length ≤ 5000 →
    ∃ z4' z5' z6', loopF (tgSet (.many [4, 5])) (fun env s => evSs (C n) fuelL f_standing_out_0 env s) (enumD i (xs.map .int)) [.val (T rw), .val (natD w), .val (.int b), .own (acc.map natD), z4, z5, z6] st =
    .ok (.nx, [.val (T rw), .val (natD w), .val (.int b), .own ((acc ++ soL rw w b xs.length i).map natD), z4', z5', z6']) st
  | [], i, acc, z4, z5, z6, _, _, _ => ⟨z4, z5, z6, by
    have : soL rw w b ([] : List Int).length i = [] := rfl
    rw [this, List.append_nil] <;> rfl⟩
  | x :: xs, i, acc, z4, z5, z6, hx, hi, ha => by
    rw [List.length_cons] at hi ha
    have x0 : x = gg rw i := hx 0 (by rw [List.length_cons]; omega)
    obtain ⟨f1, f2, f3, f4⟩ := so_facts (rw := rw) (w := w) (i := i) (by omega) hl hw
    have u := so_turn (n := n) (st := st) (rw := rw) (x := x) (bi := b) (fl := acc.map natD) (z6 := z6) (b := so rw w b i) f1 f2 rfl f3 f4 (by rw [x0] <;> rfl) (by rw [List.length_map]; omega)
    have em : (if so rw w b i = true then acc.map natD ++ [natD i] else acc.map natD) = (acc ++ if so rw w b i = true then [i] else []).map natD := by
      split
      · rw [List.map_append] <;> rfl
      · rw [List.append_nil]
    obtain ⟨z4', z5', z6', v⟩ := so_loop hl hw xs (i + 1) (acc ++ if so rw w b i = true then [i] else []) (.val (natD i)) (.val (.int x)) (.val (.lst ((sortI (nb rw w i)).map .int))) (fun j hj => by
      have := hx (j + 1) (by rw [List.length_cons]; omega)
      rw [show i + 1 + j = i + (j + 1) by omega]
      exact this) (by omega) (by
      rw [List.length_append]
      split <;> simp <;> omega)
    rw [← em] at v
    refine ⟨z4', z5', z6', (loopF_step rfl u).trans (v.trans ?_)⟩
    have es : soL rw w b (x :: xs).length i = (if so rw w b i = true then [i] else []) ++ soL rw w b xs.length (i + 1) := by
      unfold soL
      rw [List.length_cons, List.range_succ_eq_map, List.map_cons, Nat.add_zero, List.map_map]
      have : ((fun x => i + x) ∘ Nat.succ) = fun x => i + 1 + x := by
        funext k
        show i + (k + 1) = _
        omega
      rw [this]
      cases g : so rw w b i with
      | true => rw [List.filter_cons_of_pos g, if_pos rfl] <;> rfl
      | false => rw [List.filter_cons_of_neg (by rw [g]; exact Bool.false_ne_true), if_neg Bool.false_ne_true] <;> rfl
    rw [es, List.append_assoc]
theorem so_0 {a b : D} (h : C n 4 [T rw] st = .ok .non st) : evS (C n) fuelL s_standing_out_0 [.val (T rw), .val a, .val b, .un, .un, .un, .un] st = .ok (.nx, [.val (T rw), .val a, .val b, .un, .un, .un, .un]) st := by
  simp only [s_standing_out_0, evSs, evS, evE, evEs, evBs, evO, evT, evI, rd_k, rd_g, rd_bin, rd_neg, rd_not, rd_and, rd_or, rd_cmp, rd_chain, rd_ite, rd_tup, rd_lst, rd_ix, rd_sl, rd_rev, rd_call, rd_sumL, rd_join, rd_cnt, rd_stp, rd_bf, rd_isI, rd_v, R.bind, lift_ok, lift_ex, of_some, asB_ok, asB_ex, asI_ok, asI_ex, asD_ok, asD_ex, fold2_t, fold2_f, fold2_ex, keepIf_t, keepIf_f, ntup_some, calm_o, items_t, items_l, slotR, sl_v, b_add, b_sub, c_eq, c_ne, c_lt, c_le, c_gt, c_ge, f_lenL, f_lenT, f_tupL, f_tupT, f_lstL, f_lstT, f_int, f_abs, i_int, i_intB, i_intN, i_intT, i_intL, i_intS, i_bool, i_boolB, i_tup, i_tupN, i_tupL, i_tupI, x_tup, x_lst, l_tup, l_lst, r_lst, r_tup, q_lst, q_tup, z_lst, z_tup, t_one, w_nil, w_cons, sget_0, sget_S, List.set_cons_zero, List.set_cons_succ, Option.map_some, Option.bind_some, eqD_int, Bool.not_true, Bool.not_false, sz_0, szT_0, sz_1, szT_1, sz_2, szT_2, sz_3, szT_3, sz_4, szT_4, sz_5, szT_5, sz_6, szT_6, t_many2, t_many3, t_many4, t_lst2, t_lst3, h]
theorem so_1 {a b : D} (h : C n 1 [a, .int 0, .int 1000] st = .ok (.bl true) st) : evS (C n) fuelL s_standing_out_1 [.val (T rw), .val a, .val b, .un, .un, .un, .un] st = .ok (.nx, [.val (T rw), .val a, .val b, .un, .un, .un, .un]) st := by
  simp only [s_standing_out_1, evSs, evS, evE, evEs, evBs, evO, evT, evI, rd_k, rd_g, rd_bin, rd_neg, rd_not, rd_and, rd_or, rd_cmp, rd_chain, rd_ite, rd_tup, rd_lst, rd_ix, rd_sl, rd_rev, rd_call, rd_sumL, rd_join, rd_cnt, rd_stp, rd_bf, rd_isI, rd_v, R.bind, lift_ok, lift_ex, of_some, asB_ok, asB_ex, asI_ok, asI_ex, asD_ok, asD_ex, fold2_t, fold2_f, fold2_ex, keepIf_t, keepIf_f, ntup_some, calm_o, items_t, items_l, slotR, sl_v, b_add, b_sub, c_eq, c_ne, c_lt, c_le, c_gt, c_ge, f_lenL, f_lenT, f_tupL, f_tupT, f_lstL, f_lstT, f_int, f_abs, i_int, i_intB, i_intN, i_intT, i_intL, i_intS, i_bool, i_boolB, i_tup, i_tupN, i_tupL, i_tupI, x_tup, x_lst, l_tup, l_lst, r_lst, r_tup, q_lst, q_tup, z_lst, z_tup, t_one, w_nil, w_cons, sget_0, sget_S, List.set_cons_zero, List.set_cons_succ, Option.map_some, Option.bind_some, eqD_int, Bool.not_true, Bool.not_false, sz_0, szT_0, sz_1, szT_1, sz_2, szT_2, sz_3, szT_3, sz_4, szT_4, sz_5, szT_5, sz_6, szT_6, t_many2, t_many3, t_many4, t_lst2, t_lst3, h]
theorem pow_12 : binop .pow (.int 10) (.int 12) = some (.int 1000000000000) := b_pow 10 12 (by decide) (small_of (by decide) (by decide))
theorem so_2 {a b : D} (h : C n 1 [b, .int 0, .int 1000000000000] st = .ok (.bl true) st) : evS (C n) fuelL s_standing_out_2 [.val (T rw), .val a, .val b, .un, .un, .un, .un] st = .ok (.nx, [.val (T rw), .val a, .val b, .un, .un, .un, .un]) st := by
  simp only [s_standing_out_2, evSs, evS, evE, evEs, evBs, evO, evT, evI, rd_k, rd_g, rd_bin, rd_neg, rd_not, rd_and, rd_or, rd_cmp, rd_chain, rd_ite, rd_tup, rd_lst, rd_ix, rd_sl, rd_rev, rd_call, rd_sumL, rd_join, rd_cnt, rd_stp, rd_bf, rd_isI, rd_v, R.bind, lift_ok, lift_ex, of_some, asB_ok, asB_ex, asI_ok, asI_ex, asD_ok, asD_ex, fold2_t, fold2_f, fold2_ex, keepIf_t, keepIf_f, ntup_some, calm_o, items_t, items_l, slotR, sl_v, b_add, b_sub, c_eq, c_ne, c_lt, c_le, c_gt, c_ge, f_lenL, f_lenT, f_tupL, f_tupT, f_lstL, f_lstT, f_int, f_abs, i_int, i_intB, i_intN, i_intT, i_intL, i_intS, i_bool, i_boolB, i_tup, i_tupN, i_tupL, i_tupI, x_tup, x_lst, l_tup, l_lst, r_lst, r_tup, q_lst, q_tup, z_lst, z_tup, t_one, w_nil, w_cons, sget_0, sget_S, List.set_cons_zero, List.set_cons_succ, Option.map_some, Option.bind_some, eqD_int, Bool.not_true, Bool.not_false, sz_0, szT_0, sz_1, szT_1, sz_2, szT_2, sz_3, szT_3, sz_4, szT_4, sz_5, szT_5, sz_6, szT_6, t_many2, t_many3, t_many4, t_lst2, t_lst3, pow_12, h]
theorem so_ok {w : Nat} {b : Int} (h : Row rw) (hw : w ≤ 1000) (b0 : 0 ≤ b) (b1 : b ≤ 1000) : C (n + 5) 13 [T rw, .int w, .int b] st = .ok (.tup ((soL rw w b rw.length 0).map natD)) st := by
  have hl := h.l
  obtain ⟨z4, z5, z6, e⟩ := so_loop (n := n + 4) (st := st) (rw := rw) (b := b) (by omega) hw rw 0 [] .un .un .un (fun j hj => by rw [Nat.zero_add] <;> rfl) (by omega) (by rw [List.length_nil]; omega)
  rw [List.nil_append] at e
  have e3 : evS (C (n + 4)) fuelL s_standing_out_3 [.val (T rw), .val (natD w), .val (.int b), .un, .un, .un, .un] st = .ok (.nx, [.val (T rw), .val (natD w), .val (.int b), .own (([] : List Nat).map natD), .un, .un, .un]) st := by
    simp only [s_standing_out_3, evSs, evS, evE, evEs, evBs, evO, evT, evI, rd_k, rd_g, rd_bin, rd_neg, rd_not, rd_and, rd_or, rd_cmp, rd_chain, rd_ite, rd_tup, rd_lst, rd_ix, rd_sl, rd_rev, rd_call, rd_sumL, rd_join, rd_cnt, rd_stp, rd_bf, rd_isI, rd_v, R.bind, lift_ok, lift_ex, of_some, asB_ok, asB_ex, asI_ok, asI_ex, asD_ok, asD_ex, fold2_t, fold2_f, fold2_ex, keepIf_t, keepIf_f, ntup_some, calm_o, items_t, items_l, slotR, sl_v, b_add, b_sub, c_eq, c_ne, c_lt, c_le, c_gt, c_ge, f_lenL, f_lenT, f_tupL, f_tupT, f_lstL, f_lstT, f_int, f_abs, i_int, i_intB, i_intN, i_intT, i_intL, i_intS, i_bool, i_boolB, i_tup, i_tupN, i_tupL, i_tupI, x_tup, x_lst, l_tup, l_lst, r_lst, r_tup, q_lst, q_tup, z_lst, z_tup, t_one, w_nil, w_cons, sget_0, sget_S, List.set_cons_zero, List.set_cons_succ, Option.map_some, Option.bind_some, eqD_int, Bool.not_true, Bool.not_false, sz_0, szT_0, sz_1, szT_1, sz_2, szT_2, sz_3, szT_3, sz_4, szT_4, sz_5, szT_5, sz_6, szT_6, t_many2, t_many3, t_many4, t_lst2, t_lst3]
    rfl
  have e4 : evS (C (n + 4)) fuelL s_standing_out_4 [.val (T rw), .val (natD w), .val (.int b), .own (([] : List Nat).map natD), .un, .un, .un] st = .ok (.nx, [.val (T rw), .val (natD w), .val (.int b), .own ((soL rw w b rw.length 0).map natD), z4, z5, z6]) st := by
    have ei : evI (C (n + 4)) (.enum (.v 0)) [.val (T rw), .val (natD w), .val (.int b), .own (([] : List Nat).map natD), .un, .un, .un] st = .ok (enumD 0 (rw.map .int)) st := by
      have q : enumA (T rw) = some (enumD 0 (rw.map .int)) := rfl
      simp only [evSs, evS, evE, evEs, evBs, evO, evT, evI, rd_k, rd_g, rd_bin, rd_neg, rd_not, rd_and, rd_or, rd_cmp, rd_chain, rd_ite, rd_tup, rd_lst, rd_ix, rd_sl, rd_rev, rd_call, rd_sumL, rd_join, rd_cnt, rd_stp, rd_bf, rd_isI, rd_v, R.bind, lift_ok, lift_ex, of_some, asB_ok, asB_ex, asI_ok, asI_ex, asD_ok, asD_ex, fold2_t, fold2_f, fold2_ex, keepIf_t, keepIf_f, ntup_some, calm_o, items_t, items_l, slotR, sl_v, b_add, b_sub, c_eq, c_ne, c_lt, c_le, c_gt, c_ge, f_lenL, f_lenT, f_tupL, f_tupT, f_lstL, f_lstT, f_int, f_abs, i_int, i_intB, i_intN, i_intT, i_intL, i_intS, i_bool, i_boolB, i_tup, i_tupN, i_tupL, i_tupI, x_tup, x_lst, l_tup, l_lst, r_lst, r_tup, q_lst, q_tup, z_lst, z_tup, t_one, w_nil, w_cons, sget_0, sget_S, List.set_cons_zero, List.set_cons_succ, Option.map_some, Option.bind_some, eqD_int, Bool.not_true, Bool.not_false, sz_0, szT_0, sz_1, szT_1, sz_2, szT_2, sz_3, szT_3, sz_4, szT_4, sz_5, szT_5, sz_6, szT_6, t_many2, t_many3, t_many4, t_lst2, t_lst3, q]
    show lift (evI (C (n + 4)) _ _ _) _ _ = _
    rw [ei, lift_ok]
    exact e
  have e5 : evS (C (n + 4)) fuelL s_standing_out_5 [.val (T rw), .val (natD w), .val (.int b), .own ((soL rw w b rw.length 0).map natD), z4, z5, z6] st = .ok (.rt (.tup ((soL rw w b rw.length 0).map natD)), [.val (T rw), .val (natD w), .val (.int b), .own ((soL rw w b rw.length 0).map natD), z4, z5, z6]) st := by
    simp only [s_standing_out_5, evSs, evS, evE, evEs, evBs, evO, evT, evI, rd_k, rd_g, rd_bin, rd_neg, rd_not, rd_and, rd_or, rd_cmp, rd_chain, rd_ite, rd_tup, rd_lst, rd_ix, rd_sl, rd_rev, rd_call, rd_sumL, rd_join, rd_cnt, rd_stp, rd_bf, rd_isI, rd_v, R.bind, lift_ok, lift_ex, of_some, asB_ok, asB_ex, asI_ok, asI_ex, asD_ok, asD_ex, fold2_t, fold2_f, fold2_ex, keepIf_t, keepIf_f, ntup_some, calm_o, items_t, items_l, slotR, sl_v, b_add, b_sub, c_eq, c_ne, c_lt, c_le, c_gt, c_ge, f_lenL, f_lenT, f_tupL, f_tupT, f_lstL, f_lstT, f_int, f_abs, i_int, i_intB, i_intN, i_intT, i_intL, i_intS, i_bool, i_boolB, i_tup, i_tupN, i_tupL, i_tupI, x_tup, x_lst, l_tup, l_lst, r_lst, r_tup, q_lst, q_tup, z_lst, z_tup, t_one, w_nil, w_cons, sget_0, sget_S, List.set_cons_zero, List.set_cons_succ, Option.map_some, Option.bind_some, eqD_int, Bool.not_true, Bool.not_false, sz_0, szT_0, sz_1, szT_1, sz_2, szT_2, sz_3, szT_3, sz_4, szT_4, sz_5, szT_5, sz_6, szT_6, t_many2, t_many3, t_many4, t_lst2, t_lst3]
  exact call_rt (fn := r_standing_out.fn) rfl rfl rfl ((ss_nx (so_0 (chk_s (n := n) (f := h)))).trans ((ss_nx (so_1 (from_yes (by omega) (by omega)))).trans ((ss_nx (so_2 (from_yes (by omega) (by omega)))).trans ((ss_nx e3).trans ((ss_nx e4).trans (ss_rt e5))))))
/-! parts -/
theorem fa_x {part : List Int} {K : Nat} {Ki : Int} {z2 : Sl} (hN : (rw.length : Int) - (part.length : Int) + 1 = Ki) (hr : rangeD 0 Ki = some ((List.range K).map natD)) (hK : K ≤ 1000) (hc : ∀ i : Nat, Eng.cutD (rw.map D.int) (some (i : Int)) (some ((i : Int) + (part.length : Int))) = ((rw.drop i).take part.length).map .int) : evE (C n) x_first_again_0 [.val (T rw), .val (T part), z2] st = .ok (.lst ((fa rw part K).map natD)) st := by
  simp only [x_first_again_0, evSs, evS, evE, evEs, evBs, evO, evT, evI, rd_k, rd_g, rd_bin, rd_neg, rd_not, rd_and, rd_or, rd_cmp, rd_chain, rd_ite, rd_tup, rd_lst, rd_ix, rd_sl, rd_rev, rd_call, rd_sumL, rd_join, rd_cnt, rd_stp, rd_bf, rd_isI, rd_v, R.bind, lift_ok, lift_ex, of_some, asB_ok, asB_ex, asI_ok, asI_ex, asD_ok, asD_ex, fold2_t, fold2_f, fold2_ex, keepIf_t, keepIf_f, ntup_some, calm_o, items_t, items_l, slotR, sl_v, b_add, b_sub, c_eq, c_ne, c_lt, c_le, c_gt, c_ge, f_lenL, f_lenT, f_tupL, f_tupT, f_lstL, f_lstT, f_int, f_abs, i_int, i_intB, i_intN, i_intT, i_intL, i_intS, i_bool, i_boolB, i_tup, i_tupN, i_tupL, i_tupI, x_tup, x_lst, l_tup, l_lst, r_lst, r_tup, q_lst, q_tup, z_lst, z_tup, t_one, w_nil, w_cons, sget_0, sget_S, List.set_cons_zero, List.set_cons_succ, Option.map_some, Option.bind_some, eqD_int, Bool.not_true, Bool.not_false, sz_0, szT_0, sz_1, szT_1, sz_2, szT_2, sz_3, szT_3, sz_4, szT_4, sz_5, szT_5, sz_6, szT_6, t_many2, t_many3, t_many4, t_lst2, t_lst3, List.length_map, hN, hr]
  rw [turns_filter natD (fun i => decide ((rw.drop i).take part.length = part)) natD fun i hi => by
    have h1 := hc i
    have q := eqD_ints ((rw.drop i).take part.length) part
    have en : natD i = .int (i : Int) := rfl
    rw [en]
    generalize (i : Int) = ii at *
    generalize (part.length : Int) = pl at *
    cases g : decide ((rw.drop i).take part.length = part) <;> rw [g] at q <;> simp only [evSs, evS, evE, evEs, evBs, evO, evT, evI, rd_k, rd_g, rd_bin, rd_neg, rd_not, rd_and, rd_or, rd_cmp, rd_chain, rd_ite, rd_tup, rd_lst, rd_ix, rd_sl, rd_rev, rd_call, rd_sumL, rd_join, rd_cnt, rd_stp, rd_bf, rd_isI, rd_v, R.bind, lift_ok, lift_ex, of_some, asB_ok, asB_ex, asI_ok, asI_ex, asD_ok, asD_ex, fold2_t, fold2_f, fold2_ex, keepIf_t, keepIf_f, ntup_some, calm_o, items_t, items_l, slotR, sl_v, b_add, b_sub, c_eq, c_ne, c_lt, c_le, c_gt, c_ge, f_lenL, f_lenT, f_tupL, f_tupT, f_lstL, f_lstT, f_int, f_abs, i_int, i_intB, i_intN, i_intT, i_intL, i_intS, i_bool, i_boolB, i_tup, i_tupN, i_tupL, i_tupI, x_tup, x_lst, l_tup, l_lst, r_lst, r_tup, q_lst, q_tup, z_lst, z_tup, t_one, w_nil, w_cons, sget_0, sget_S, List.set_cons_zero, List.set_cons_succ, Option.map_some, Option.bind_some, eqD_int, Bool.not_true, Bool.not_false, sz_0, szT_0, sz_1, szT_1, sz_2, szT_2, sz_3, szT_3, sz_4, szT_4, sz_5, szT_5, sz_6, szT_6, t_many2, t_many3, t_many4, t_lst2, t_lst3, h1, q, if_true] <;> rfl]
  show sized _ _ = _
  exact sized_ok' (by
    rw [List.length_map]
    exact size_small (Nat.le_trans (List.length_filter_le _ _) (by rw [List.length_range]; omega)))
theorem cut_part (part : List Int) (i : Nat) : Eng.cutD (rw.map D.int) (some (i : Int)) (some ((i : Int) + (part.length : Int))) = ((rw.drop i).take part.length).map .int := by
  rw [show (i : Int) + (part.length : Int) = ((i + part.length : Nat) : Int) by omega, cut_ij, Nat.add_sub_cancel_left, List.map_take, List.map_drop]
theorem fa_0 {p : D} (h : C n 4 [T rw] st = .ok .non st) : evS (C n) fuelL s_first_again_0 [.val (T rw), .val p, .un] st = .ok (.nx, [.val (T rw), .val p, .un]) st := by
  simp only [s_first_again_0, evSs, evS, evE, evEs, evBs, evO, evT, evI, rd_k, rd_g, rd_bin, rd_neg, rd_not, rd_and, rd_or, rd_cmp, rd_chain, rd_ite, rd_tup, rd_lst, rd_ix, rd_sl, rd_rev, rd_call, rd_sumL, rd_join, rd_cnt, rd_stp, rd_bf, rd_isI, rd_v, R.bind, lift_ok, lift_ex, of_some, asB_ok, asB_ex, asI_ok, asI_ex, asD_ok, asD_ex, fold2_t, fold2_f, fold2_ex, keepIf_t, keepIf_f, ntup_some, calm_o, items_t, items_l, slotR, sl_v, b_add, b_sub, c_eq, c_ne, c_lt, c_le, c_gt, c_ge, f_lenL, f_lenT, f_tupL, f_tupT, f_lstL, f_lstT, f_int, f_abs, i_int, i_intB, i_intN, i_intT, i_intL, i_intS, i_bool, i_boolB, i_tup, i_tupN, i_tupL, i_tupI, x_tup, x_lst, l_tup, l_lst, r_lst, r_tup, q_lst, q_tup, z_lst, z_tup, t_one, w_nil, w_cons, sget_0, sget_S, List.set_cons_zero, List.set_cons_succ, Option.map_some, Option.bind_some, eqD_int, Bool.not_true, Bool.not_false, sz_0, szT_0, sz_1, szT_1, sz_2, szT_2, sz_3, szT_3, sz_4, szT_4, sz_5, szT_5, sz_6, szT_6, t_many2, t_many3, t_many4, t_lst2, t_lst3, h]
theorem fa_1 {part : List Int} (q : eqD (T part) (.tup []) = some false) : evS (C n) fuelL s_first_again_1 [.val (T rw), .val (T part), .un] st = .ok (.nx, [.val (T rw), .val (T part), .un]) st := by
  simp only [s_first_again_1, evSs, evS, evE, evEs, evBs, evO, evT, evI, rd_k, rd_g, rd_bin, rd_neg, rd_not, rd_and, rd_or, rd_cmp, rd_chain, rd_ite, rd_tup, rd_lst, rd_ix, rd_sl, rd_rev, rd_call, rd_sumL, rd_join, rd_cnt, rd_stp, rd_bf, rd_isI, rd_v, R.bind, lift_ok, lift_ex, of_some, asB_ok, asB_ex, asI_ok, asI_ex, asD_ok, asD_ex, fold2_t, fold2_f, fold2_ex, keepIf_t, keepIf_f, ntup_some, calm_o, items_t, items_l, slotR, sl_v, b_add, b_sub, c_eq, c_ne, c_lt, c_le, c_gt, c_ge, f_lenL, f_lenT, f_tupL, f_tupT, f_lstL, f_lstT, f_int, f_abs, i_int, i_intB, i_intN, i_intT, i_intL, i_intS, i_bool, i_boolB, i_tup, i_tupN, i_tupL, i_tupI, x_tup, x_lst, l_tup, l_lst, r_lst, r_tup, q_lst, q_tup, z_lst, z_tup, t_one, w_nil, w_cons, sget_0, sget_S, List.set_cons_zero, List.set_cons_succ, Option.map_some, Option.bind_some, eqD_int, Bool.not_true, Bool.not_false, sz_0, szT_0, sz_1, szT_1, sz_2, szT_2, sz_3, szT_3, sz_4, szT_4, sz_5, szT_5, sz_6, szT_6, t_many2, t_many3, t_many4, t_lst2, t_lst3, q]
theorem fa_2 {p : D} {w : List D} (b : evE (C n) x_first_again_0 [.val (T rw), .val p, .un] st = .ok (.lst w) st) : evS (C n) fuelL s_first_again_2 [.val (T rw), .val p, .un] st = .ok (.rt (.tup w), [.val (T rw), .val p, .un]) st := by
  simp only [s_first_again_2, evSs, evS, evE, evEs, evBs, evO, evT, evI, rd_k, rd_g, rd_bin, rd_neg, rd_not, rd_and, rd_or, rd_cmp, rd_chain, rd_ite, rd_tup, rd_lst, rd_ix, rd_sl, rd_rev, rd_call, rd_sumL, rd_join, rd_cnt, rd_stp, rd_bf, rd_isI, rd_v, R.bind, lift_ok, lift_ex, of_some, asB_ok, asB_ex, asI_ok, asI_ex, asD_ok, asD_ex, fold2_t, fold2_f, fold2_ex, keepIf_t, keepIf_f, ntup_some, calm_o, items_t, items_l, slotR, sl_v, b_add, b_sub, c_eq, c_ne, c_lt, c_le, c_gt, c_ge, f_lenL, f_lenT, f_tupL, f_tupT, f_lstL, f_lstT, f_int, f_abs, i_int, i_intB, i_intN, i_intT, i_intL, i_intS, i_bool, i_boolB, i_tup, i_tupN, i_tupL, i_tupI, x_tup, x_lst, l_tup, l_lst, r_lst, r_tup, q_lst, q_tup, z_lst, z_tup, t_one, w_nil, w_cons, sget_0, sget_S, List.set_cons_zero, List.set_cons_succ, Option.map_some, Option.bind_some, eqD_int, Bool.not_true, Bool.not_false, sz_0, szT_0, sz_1, szT_1, sz_2, szT_2, sz_3, szT_3, sz_4, szT_4, sz_5, szT_5, sz_6, szT_6, t_many2, t_many3, t_many4, t_lst2, t_lst3, b, x_first_again_0_rd]
theorem range_neg {k : Int} (h : k ≤ 0) (h2 : -1000000 ≤ k) : rangeD 0 k = some [] := by
  rw [range_int 0 k (by decide) (by decide) (by omega) (by omega), show (k - 0).toNat = 0 by omega] <;> rfl
theorem first_ok {part : List Int} (h : Row rw) (hp : part ≠ []) (hl2 : part.length ≤ 1000) : C (n + 5) 14 [T rw, T part] st = .ok (.tup ((fa rw part rw.length).map natD)) st := by
  have hl := h.l
  have q := eqD_Tnil part
  rw [decide_eq_false hp] at q
  have hr : rangeD 0 ((rw.length : Int) - (part.length : Int) + 1) = some ((List.range (rw.length + 1 - part.length)).map natD) := by
    by_cases g : part.length ≤ rw.length
    · rw [show (rw.length : Int) - (part.length : Int) + 1 = ((rw.length + 1 - part.length : Nat) : Int) by omega]
      exact range_k _ (by omega)
    · rw [range_neg (by omega) (by omega), show rw.length + 1 - part.length = 0 by omega] <;> rfl
  have b := fa_x (n := n + 4) (st := st) (rw := rw) (part := part) (z2 := .un) rfl hr (by omega) (cut_part part)
  rw [← fa_eq hp] at b
  exact call_rt (fn := r_first_again.fn) rfl rfl rfl ((ss_nx (fa_0 (chk_s (n := n) (f := h)))).trans ((ss_nx (fa_1 q)).trans (ss_rt (fa_2 b))))
end
/-! ### the longest part that comes again -/
abbrev Tr := Nat × Nat × Nat
def b3D (b : Tr) : D := .tup [natD b.1, natD b.2.1, natD b.2.2]
def upd3 (b : Tr) (l i j : Nat) : Tr := if b.1 < l then (l, i, j) else b
def betw (a N : Nat) : List Nat := (List.range (N - (a + 1))).map fun i => a + 1 + i
def inF (rw : List Int) (a : Nat) (b : Tr) : Tr := (betw a rw.length).foldl (fun b j => upd3 b (lcp rw a j (rw.length - j)) a j) b
def bestA (rw : List Int) : Tr := (List.range rw.length).foldl (fun b a => inF rw a b) (0, 0, 0)
theorem betw_mem {a N k : Nat} (h : k ∈ betw a N) : a < k ∧ k < N := by
  obtain ⟨i, hi, rfl⟩ := List.mem_map.mp h
  have := List.mem_range.mp hi
  omega
theorem betw_range (a N : Nat) (h : N ≤ 1000000) (h2 : a ≤ 100000) : rangeD ((a : Int) + 1) (N : Int) = some ((betw a N).map natD) := by
  have := range_ab (a + 1) N (by omega) (by omega)
  unfold betw
  rw [List.map_map]
  exact this
section
variable {n : Nat} {st : Sto} {rw : List Int}
theorem lg_t0 {z1 : Sl} {a b l Ni : Int} (hN : (rw.length : Int) = Ni) (h : decide (b + l < Ni) = false) : asB (evE (C n) (.and (.cmp .lt (.bin .add (.v 3) (.v 4)) (.bf .len (.cons (.v 0) .nil))) (.cmp .eq (.ix (.v 0) (.bin .add (.v 2) (.v 4))) (.ix (.v 0) (.bin .add (.v 3) (.v 4))))) [.val (T rw), z1, .val (.int a), .val (.int b), .val (.int l)] st) = .ok false st := by
  simp only [evSs, evS, evE, evEs, evBs, evO, evT, evI, rd_k, rd_g, rd_bin, rd_neg, rd_not, rd_and, rd_or, rd_cmp, rd_chain, rd_ite, rd_tup, rd_lst, rd_ix, rd_sl, rd_rev, rd_call, rd_sumL, rd_join, rd_cnt, rd_stp, rd_bf, rd_isI, rd_v, R.bind, lift_ok, lift_ex, of_some, asB_ok, asB_ex, asI_ok, asI_ex, asD_ok, asD_ex, fold2_t, fold2_f, fold2_ex, keepIf_t, keepIf_f, ntup_some, calm_o, items_t, items_l, slotR, sl_v, b_add, b_sub, c_eq, c_ne, c_lt, c_le, c_gt, c_ge, f_lenL, f_lenT, f_tupL, f_tupT, f_lstL, f_lstT, f_int, f_abs, i_int, i_intB, i_intN, i_intT, i_intL, i_intS, i_bool, i_boolB, i_tup, i_tupN, i_tupL, i_tupI, x_tup, x_lst, l_tup, l_lst, r_lst, r_tup, q_lst, q_tup, z_lst, z_tup, t_one, w_nil, w_cons, sget_0, sget_S, List.set_cons_zero, List.set_cons_succ, Option.map_some, Option.bind_some, eqD_int, Bool.not_true, Bool.not_false, sz_0, szT_0, sz_1, szT_1, sz_2, szT_2, sz_3, szT_3, sz_4, szT_4, sz_5, szT_5, sz_6, szT_6, t_many2, t_many3, t_many4, t_lst2, t_lst3, List.length_map, hN, h]
theorem lg_t1 {z1 : Sl} {a b l Ni x y : Int} (hN : (rw.length : Int) = Ni) (h : decide (b + l < Ni) = true) (hx : atI (rw.map D.int) (a + l) = some (.int x)) (hy : atI (rw.map D.int) (b + l) = some (.int y)) : asB (evE (C n) (.and (.cmp .lt (.bin .add (.v 3) (.v 4)) (.bf .len (.cons (.v 0) .nil))) (.cmp .eq (.ix (.v 0) (.bin .add (.v 2) (.v 4))) (.ix (.v 0) (.bin .add (.v 3) (.v 4))))) [.val (T rw), z1, .val (.int a), .val (.int b), .val (.int l)] st) = .ok (decide (x = y)) st := by
  simp only [evSs, evS, evE, evEs, evBs, evO, evT, evI, rd_k, rd_g, rd_bin, rd_neg, rd_not, rd_and, rd_or, rd_cmp, rd_chain, rd_ite, rd_tup, rd_lst, rd_ix, rd_sl, rd_rev, rd_call, rd_sumL, rd_join, rd_cnt, rd_stp, rd_bf, rd_isI, rd_v, R.bind, lift_ok, lift_ex, of_some, asB_ok, asB_ex, asI_ok, asI_ex, asD_ok, asD_ex, fold2_t, fold2_f, fold2_ex, keepIf_t, keepIf_f, ntup_some, calm_o, items_t, items_l, slotR, sl_v, b_add, b_sub, c_eq, c_ne, c_lt, c_le, c_gt, c_ge, f_lenL, f_lenT, f_tupL, f_tupT, f_lstL, f_lstT, f_int, f_abs, i_int, i_intB, i_intN, i_intT, i_intL, i_intS, i_bool, i_boolB, i_tup, i_tupN, i_tupL, i_tupI, x_tup, x_lst, l_tup, l_lst, r_lst, r_tup, q_lst, q_tup, z_lst, z_tup, t_one, w_nil, w_cons, sget_0, sget_S, List.set_cons_zero, List.set_cons_succ, Option.map_some, Option.bind_some, eqD_int, Bool.not_true, Bool.not_false, sz_0, szT_0, sz_1, szT_1, sz_2, szT_2, sz_3, szT_3, sz_4, szT_4, sz_5, szT_5, sz_6, szT_6, t_many2, t_many3, t_many4, t_lst2, t_lst3, List.length_map, hN, h, hx, hy]
theorem lg_body {z0 z1 z2 z3 : Sl} {l : Int} : evSs (C n) fuelL f_longest_again_0 [z0, z1, z2, z3, .val (.int l)] st = .ok (.nx, [z0, z1, z2, z3, .val (.int (l + 1))]) st := by
  have aa : ∀ k, augop .add (.int l) (.int k) = some (.int (l + k)) := fun _ => rfl
  simp only [f_longest_again_0, evSs, evS, evE, evEs, evBs, evO, evT, evI, rd_k, rd_g, rd_bin, rd_neg, rd_not, rd_and, rd_or, rd_cmp, rd_chain, rd_ite, rd_tup, rd_lst, rd_ix, rd_sl, rd_rev, rd_call, rd_sumL, rd_join, rd_cnt, rd_stp, rd_bf, rd_isI, rd_v, R.bind, lift_ok, lift_ex, of_some, asB_ok, asB_ex, asI_ok, asI_ex, asD_ok, asD_ex, fold2_t, fold2_f, fold2_ex, keepIf_t, keepIf_f, ntup_some, calm_o, items_t, items_l, slotR, sl_v, b_add, b_sub, c_eq, c_ne, c_lt, c_le, c_gt, c_ge, f_lenL, f_lenT, f_tupL, f_tupT, f_lstL, f_lstT, f_int, f_abs, i_int, i_intB, i_intN, i_intT, i_intL, i_intS, i_bool, i_boolB, i_tup, i_tupN, i_tupL, i_tupI, x_tup, x_lst, l_tup, l_lst, r_lst, r_tup, q_lst, q_tup, z_lst, z_tup, t_one, w_nil, w_cons, sget_0, sget_S, List.set_cons_zero, List.set_cons_succ, Option.map_some, Option.bind_some, eqD_int, Bool.not_true, Bool.not_false, sz_0, szT_0, sz_1, szT_1, sz_2, szT_2, sz_3, szT_3, sz_4, szT_4, sz_5, szT_5, sz_6, szT_6, t_many2, t_many3, t_many4, t_lst2, t_lst3, aa]
theorem lg_loop {z1 : Sl} {a b : Nat} (hab : a < b) : ∀ (k l L : Nat), rw.length - (b + l) = k → k < L → loopW (fun env s => asB (evE (C n) (.and (.cmp .lt (.bin .add (.v 3) (.v 4)) (.bf .len (.cons (.v 0) .nil))) (.cmp .eq (.ix (.v 0) (.bin .add (.v 2) (.v 4))) (.ix (.v 0) (.bin .add (.v 3) (.v 4))))) env s)) (fun env s => evSs (C n) fuelL f_longest_again_0 env s) L [.val (T rw), z1, .val (natD a), .val (natD b), .val (natD l)] st =
    .ok (.nx, [.val (T rw), z1, .val (natD a), .val (natD b), .val (natD (l + lcp rw (a + l) (b + l) k))]) st
  | k, l, 0, _, h => by omega
  | 0, l, L + 1, hk, _ => by
    rw [lcp, Nat.add_zero]
    exact loopW_done (lg_t0 rfl (decide_eq_false (by omega)))
  | k + 1, l, L + 1, hk, hL => by
    have hx := row_at (rw := rw) (i := a + l) (by omega)
    have hy := row_at (rw := rw) (i := b + l) (by omega)
    rw [Int.natCast_add] at hx hy
    have t := lg_t1 (n := n) (st := st) (rw := rw) (z1 := z1) rfl (decide_eq_true (by omega)) hx hy
    rw [lcp]
    by_cases q : gg rw (a + l) = gg rw (b + l)
    · rw [decide_eq_true q] at t
      rw [if_pos q]
      have ih := lg_loop (z1 := z1) hab k (l + 1) L (by omega) (by omega)
      have e1 : l + (lcp rw (a + l + 1) (b + l + 1) k + 1) = l + 1 + lcp rw (a + (l + 1)) (b + (l + 1)) k := by
        rw [show a + (l + 1) = a + l + 1 by omega, show b + (l + 1) = b + l + 1 by omega]
        omega
      rw [e1]
      exact (loopW_step t lg_body).trans ih
    · rw [decide_eq_false q] at t
      rw [if_neg q, Nat.add_zero]
      exact loopW_done t
theorem lg_if {z0 : Sl} {bd : D} {b0 l a j : Int} {c : Bool} (h0 : ∀ s : Sto, ixS bd (.int 0) s = .ok (.int b0) s) (hc : decide (b0 < l) = c) : evS (C n) fuelL (.ife (.cmp .gt (.v 4) (.ix (.v 1) (.k (.int (0))))) (.cons (.asg false 1 (.tup (.cons (.v 4) (.cons (.v 2) (.cons (.v 3) .nil))))) .nil) .nil) [z0, .val bd, .val (.int a), .val (.int j), .val (.int l)] st =
    .ok (.nx, [z0, .val (if c = true then .tup [.int l, .int a, .int j] else bd), .val (.int a), .val (.int j), .val (.int l)]) st := by
  cases c <;> simp only [evSs, evS, evE, evEs, evBs, evO, evT, evI, rd_k, rd_g, rd_bin, rd_neg, rd_not, rd_and, rd_or, rd_cmp, rd_chain, rd_ite, rd_tup, rd_lst, rd_ix, rd_sl, rd_rev, rd_call, rd_sumL, rd_join, rd_cnt, rd_stp, rd_bf, rd_isI, rd_v, R.bind, lift_ok, lift_ex, of_some, asB_ok, asB_ex, asI_ok, asI_ex, asD_ok, asD_ex, fold2_t, fold2_f, fold2_ex, keepIf_t, keepIf_f, ntup_some, calm_o, items_t, items_l, slotR, sl_v, b_add, b_sub, c_eq, c_ne, c_lt, c_le, c_gt, c_ge, f_lenL, f_lenT, f_tupL, f_tupT, f_lstL, f_lstT, f_int, f_abs, i_int, i_intB, i_intN, i_intT, i_intL, i_intS, i_bool, i_boolB, i_tup, i_tupN, i_tupL, i_tupI, x_tup, x_lst, l_tup, l_lst, r_lst, r_tup, q_lst, q_tup, z_lst, z_tup, t_one, w_nil, w_cons, sget_0, sget_S, List.set_cons_zero, List.set_cons_succ, Option.map_some, Option.bind_some, eqD_int, Bool.not_true, Bool.not_false, sz_0, szT_0, sz_1, szT_1, sz_2, szT_2, sz_3, szT_3, sz_4, szT_4, sz_5, szT_5, sz_6, szT_6, t_many2, t_many3, t_many4, t_lst2, t_lst3, h0, hc, if_true, if_neg Bool.false_ne_true]
theorem lg_turn {best : Tr} {a j : Nat} {z4 : Sl} (h : Row rw) (haj : a < j) (hj : j < rw.length) : evSs (C n) fuelL f_longest_again_1 [.val (T rw), .val (b3D best), .val (natD a), .val (natD j), z4] st = .ok (.nx, [.val (T rw), .val (b3D (upd3 best (lcp rw a j (rw.length - j)) a j)), .val (natD a), .val (natD j), .val (natD (lcp rw a j (rw.length - j)))]) st := by
  have hl := h.l
  have e0 : evS (C n) fuelL (.asg false 4 (.k (.int (0)))) [.val (T rw), .val (b3D best), .val (natD a), .val (natD j), z4] st = .ok (.nx, [.val (T rw), .val (b3D best), .val (natD a), .val (natD j), .val (natD 0)]) st := rfl
  have e1 : evS (C n) fuelL (.whl (.and (.cmp .lt (.bin .add (.v 3) (.v 4)) (.bf .len (.cons (.v 0) .nil))) (.cmp .eq (.ix (.v 0) (.bin .add (.v 2) (.v 4))) (.ix (.v 0) (.bin .add (.v 3) (.v 4))))) f_longest_again_0) [.val (T rw), .val (b3D best), .val (natD a), .val (natD j), .val (natD 0)] st = .ok (.nx, [.val (T rw), .val (b3D best), .val (natD a), .val (natD j), .val (natD (lcp rw a j (rw.length - j)))]) st := by
    have := lg_loop (n := n) (st := st) (rw := rw) (z1 := .val (b3D best)) haj (rw.length - j) 0 fuelL (by omega) (by show rw.length - j < 5000; omega)
    rw [Nat.zero_add, Nat.add_zero, Nat.add_zero] at this
    exact this
  have e2 := lg_if (n := n) (st := st) (z0 := .val (T rw)) (bd := b3D best) (b0 := (best.1 : Int)) (l := (lcp rw a j (rw.length - j) : Int)) (a := (a : Int)) (j := (j : Int)) (fun _ => rfl) rfl
  have eu : (if decide ((best.1 : Int) < (lcp rw a j (rw.length - j) : Int)) = true then D.tup [.int (lcp rw a j (rw.length - j) : Int), .int (a : Int), .int (j : Int)] else b3D best) = b3D (upd3 best (lcp rw a j (rw.length - j)) a j) := by
    unfold upd3
    generalize lcp rw a j (rw.length - j) = l
    by_cases q : best.1 < l
    · rw [if_pos q, if_pos (decide_eq_true (by omega))] <;> rfl
    · rw [if_neg q, if_neg (by rw [decide_eq_false (by omega)]; exact Bool.false_ne_true)]
  rw [eu] at e2
  exact (ss_nx e0).trans ((ss_nx e1).trans (ss_nx e2))
theorem lg_inner {a : Nat} (h : Row rw) : ∀ (js : List Nat) (best : Tr) (z3 z4 : Sl), (∀ j ∈ js, a < j ∧ j < rw.length) → ∃ z3' z4', loopF (tgSet (.one 3)) (fun env s => evSs (C n) fuelL f_longest_again_1 env s) (js.map natD) [.val (T rw), .val (b3D best), .val (natD a), z3, z4] st =
    .ok (.nx, [.val (T rw), .val (b3D (js.foldl (fun b j => upd3 b (lcp rw a j (rw.length - j)) a j) best)), .val (natD a), z3', z4']) st
  | [], best, z3, z4, _ => ⟨z3, z4, rfl⟩
  | j :: js, best, z3, z4, hj => by
    obtain ⟨j1, j2⟩ := hj j List.mem_cons_self
    have u := lg_turn (n := n) (st := st) (best := best) (z4 := z4) h j1 j2
    obtain ⟨z3', z4', w⟩ := lg_inner (a := a) h js (upd3 best (lcp rw a j (rw.length - j)) a j) (.val (natD j)) (.val (natD (lcp rw a j (rw.length - j)))) fun q hq => hj q (List.mem_cons_of_mem _ hq)
    exact ⟨z3', z4', (loopF_step (by rw [t_one] <;> rfl) u).trans w⟩
theorem lg_rng {ai Ni : Int} {ds : List D} {z1 z3 z4 : Sl} (hN : (rw.length : Int) = Ni) (hr : rangeD (ai + 1) Ni = some ds) : evI (C n) (.rng2 (.bin .add (.v 2) (.k (.int (1)))) (.bf .len (.cons (.v 0) .nil))) [.val (T rw), z1, .val (.int ai), z3, z4] st = .ok ds st := by
  simp only [evSs, evS, evE, evEs, evBs, evO, evT, evI, rd_k, rd_g, rd_bin, rd_neg, rd_not, rd_and, rd_or, rd_cmp, rd_chain, rd_ite, rd_tup, rd_lst, rd_ix, rd_sl, rd_rev, rd_call, rd_sumL, rd_join, rd_cnt, rd_stp, rd_bf, rd_isI, rd_v, R.bind, lift_ok, lift_ex, of_some, asB_ok, asB_ex, asI_ok, asI_ex, asD_ok, asD_ex, fold2_t, fold2_f, fold2_ex, keepIf_t, keepIf_f, ntup_some, calm_o, items_t, items_l, slotR, sl_v, b_add, b_sub, c_eq, c_ne, c_lt, c_le, c_gt, c_ge, f_lenL, f_lenT, f_tupL, f_tupT, f_lstL, f_lstT, f_int, f_abs, i_int, i_intB, i_intN, i_intT, i_intL, i_intS, i_bool, i_boolB, i_tup, i_tupN, i_tupL, i_tupI, x_tup, x_lst, l_tup, l_lst, r_lst, r_tup, q_lst, q_tup, z_lst, z_tup, t_one, w_nil, w_cons, sget_0, sget_S, List.set_cons_zero, List.set_cons_succ, Option.map_some, Option.bind_some, eqD_int, Bool.not_true, Bool.not_false, sz_0, szT_0, sz_1, szT_1, sz_2, szT_2, sz_3, szT_3, sz_4, szT_4, sz_5, szT_5, sz_6, szT_6, t_many2, t_many3, t_many4, t_lst2, t_lst3, List.length_map, hN, hr]
theorem lg_outer (h : Row rw) : ∀ (as : List Nat) (best : Tr) (z2 z3 z4 : Sl), (∀ a ∈ as, a < rw.length) → ∃ z2' z3' z4', loopF (tgSet (.one 2)) (fun env s => evSs (C n) fuelL f_longest_again_2 env s) (as.map natD) [.val (T rw), .val (b3D best), z2, z3, z4] st =
    .ok (.nx, [.val (T rw), .val (b3D (as.foldl (fun b a => inF rw a b) best)), z2', z3', z4']) st
  | [], best, z2, z3, z4, _ => ⟨z2, z3, z4, rfl⟩
  | a :: as, best, z2, z3, z4, ha => by
    have hl := h.l
    have a1 := ha a List.mem_cons_self
    obtain ⟨y3, y4, w⟩ := lg_inner (n := n) (st := st) (a := a) h (betw a rw.length) best z3 z4 fun j hj => betw_mem hj
    have u : evSs (C n) fuelL f_longest_again_2 [.val (T rw), .val (b3D best), .val (natD a), z3, z4] st = .ok (.nx, [.val (T rw), .val (b3D (inF rw a best)), .val (natD a), y3, y4]) st := by
      refine ss_nx (ss := .nil) ?_
      show lift (evI (C n) _ _ _) _ _ = _
      rw [lg_rng (n := n) (st := st) (rw := rw) (ai := (a : Int)) rfl (betw_range a rw.length (by omega) (by omega)), lift_ok]
      exact w
    obtain ⟨z2', z3', z4', v⟩ := lg_outer h as (inF rw a best) (.val (natD a)) y3 y4 fun q hq => ha q (List.mem_cons_of_mem _ hq)
    exact ⟨z2', z3', z4', (loopF_step (by rw [t_one] <;> rfl) u).trans v⟩
theorem lg_0 (h : C n 4 [T rw] st = .ok .non st) : evS (C n) fuelL s_longest_again_0 [.val (T rw), .un, .un, .un, .un] st = .ok (.nx, [.val (T rw), .un, .un, .un, .un]) st := by
  simp only [s_longest_again_0, evSs, evS, evE, evEs, evBs, evO, evT, evI, rd_k, rd_g, rd_bin, rd_neg, rd_not, rd_and, rd_or, rd_cmp, rd_chain, rd_ite, rd_tup, rd_lst, rd_ix, rd_sl, rd_rev, rd_call, rd_sumL, rd_join, rd_cnt, rd_stp, rd_bf, rd_isI, rd_v, R.bind, lift_ok, lift_ex, of_some, asB_ok, asB_ex, asI_ok, asI_ex, asD_ok, asD_ex, fold2_t, fold2_f, fold2_ex, keepIf_t, keepIf_f, ntup_some, calm_o, items_t, items_l, slotR, sl_v, b_add, b_sub, c_eq, c_ne, c_lt, c_le, c_gt, c_ge, f_lenL, f_lenT, f_tupL, f_tupT, f_lstL, f_lstT, f_int, f_abs, i_int, i_intB, i_intN, i_intT, i_intL, i_intS, i_bool, i_boolB, i_tup, i_tupN, i_tupL, i_tupI, x_tup, x_lst, l_tup, l_lst, r_lst, r_tup, q_lst, q_tup, z_lst, z_tup, t_one, w_nil, w_cons, sget_0, sget_S, List.set_cons_zero, List.set_cons_succ, Option.map_some, Option.bind_some, eqD_int, Bool.not_true, Bool.not_false, sz_0, szT_0, sz_1, szT_1, sz_2, szT_2, sz_3, szT_3, sz_4, szT_4, sz_5, szT_5, sz_6, szT_6, t_many2, t_many3, t_many4, t_lst2, t_lst3, h]
theorem len_gt {env : Eng.Env} {b : Bool} (h0 : sget env 0 = .val (T rw)) (h : decide ((200 : Int) < rw.length) = b) : evE (C n) (.cmp .gt (.bf .len (.cons (.v 0) .nil)) (.k (.int (200)))) env st = .ok (.bl b) st := by
  simp only [evSs, evS, evE, evEs, evBs, evO, evT, evI, rd_k, rd_g, rd_bin, rd_neg, rd_not, rd_and, rd_or, rd_cmp, rd_chain, rd_ite, rd_tup, rd_lst, rd_ix, rd_sl, rd_rev, rd_call, rd_sumL, rd_join, rd_cnt, rd_stp, rd_bf, rd_isI, rd_v, R.bind, lift_ok, lift_ex, of_some, asB_ok, asB_ex, asI_ok, asI_ex, asD_ok, asD_ex, fold2_t, fold2_f, fold2_ex, keepIf_t, keepIf_f, ntup_some, calm_o, items_t, items_l, slotR, sl_v, b_add, b_sub, c_eq, c_ne, c_lt, c_le, c_gt, c_ge, f_lenL, f_lenT, f_tupL, f_tupT, f_lstL, f_lstT, f_int, f_abs, i_int, i_intB, i_intN, i_intT, i_intL, i_intS, i_bool, i_boolB, i_tup, i_tupN, i_tupL, i_tupI, x_tup, x_lst, l_tup, l_lst, r_lst, r_tup, q_lst, q_tup, z_lst, z_tup, t_one, w_nil, w_cons, sget_0, sget_S, List.set_cons_zero, List.set_cons_succ, Option.map_some, Option.bind_some, eqD_int, Bool.not_true, Bool.not_false, sz_0, szT_0, sz_1, szT_1, sz_2, szT_2, sz_3, szT_3, sz_4, szT_4, sz_5, szT_5, sz_6, szT_6, t_many2, t_many3, t_many4, t_lst2, t_lst3, h0, List.length_map, h]
theorem lg_1 (h : decide ((200 : Int) < rw.length) = false) : evS (C n) fuelL s_longest_again_1 [.val (T rw), .un, .un, .un, .un] st = .ok (.nx, [.val (T rw), .un, .un, .un, .un]) st := by
  show lift (asB (evE (C n) (.cmp .gt (.bf .len (.cons (.v 0) .nil)) (.k (.int (200)))) [.val (T rw), .un, .un, .un, .un] st)) _ _ = _
  rw [len_gt (b := false) rfl h]
  rfl
theorem lg_r3 {env : Eng.Env} {ds : List D} (hr : rangeD 0 (rw.length : Int) = some ds) (h0 : sget env 0 = .val (T rw)) : evI (C n) (.rng1 (.bf .len (.cons (.v 0) .nil))) env st = .ok ds st := by
  generalize hk : (rw.length : Int) = k at hr
  simp only [evSs, evS, evE, evEs, evBs, evO, evT, evI, rd_k, rd_g, rd_bin, rd_neg, rd_not, rd_and, rd_or, rd_cmp, rd_chain, rd_ite, rd_tup, rd_lst, rd_ix, rd_sl, rd_rev, rd_call, rd_sumL, rd_join, rd_cnt, rd_stp, rd_bf, rd_isI, rd_v, R.bind, lift_ok, lift_ex, of_some, asB_ok, asB_ex, asI_ok, asI_ex, asD_ok, asD_ex, fold2_t, fold2_f, fold2_ex, keepIf_t, keepIf_f, ntup_some, calm_o, items_t, items_l, slotR, sl_v, b_add, b_sub, c_eq, c_ne, c_lt, c_le, c_gt, c_ge, f_lenL, f_lenT, f_tupL, f_tupT, f_lstL, f_lstT, f_int, f_abs, i_int, i_intB, i_intN, i_intT, i_intL, i_intS, i_bool, i_boolB, i_tup, i_tupN, i_tupL, i_tupI, x_tup, x_lst, l_tup, l_lst, r_lst, r_tup, q_lst, q_tup, z_lst, z_tup, t_one, w_nil, w_cons, sget_0, sget_S, List.set_cons_zero, List.set_cons_succ, Option.map_some, Option.bind_some, eqD_int, Bool.not_true, Bool.not_false, sz_0, szT_0, sz_1, szT_1, sz_2, szT_2, sz_3, szT_3, sz_4, szT_4, sz_5, szT_5, sz_6, szT_6, t_many2, t_many3, t_many4, t_lst2, t_lst3, h0, List.length_map, hk, hr]
theorem longest_ok (h : Row rw) : C (n + 5) 15 [T rw] st = .ok (b3D (bestA rw)) st := by
  have hl := h.l
  obtain ⟨z2, z3, z4, e⟩ := lg_outer (n := n + 4) (st := st) h (List.range rw.length) (0, 0, 0) .un .un .un fun a ha => List.mem_range.mp ha
  have e2 : evS (C (n + 4)) fuelL s_longest_again_2 [.val (T rw), .un, .un, .un, .un] st = .ok (.nx, [.val (T rw), .val (b3D (0, 0, 0)), .un, .un, .un]) st := by
    simp only [s_longest_again_2, evSs, evS, evE, evEs, evBs, evO, evT, evI, rd_k, rd_g, rd_bin, rd_neg, rd_not, rd_and, rd_or, rd_cmp, rd_chain, rd_ite, rd_tup, rd_lst, rd_ix, rd_sl, rd_rev, rd_call, rd_sumL, rd_join, rd_cnt, rd_stp, rd_bf, rd_isI, rd_v, R.bind, lift_ok, lift_ex, of_some, asB_ok, asB_ex, asI_ok, asI_ex, asD_ok, asD_ex, fold2_t, fold2_f, fold2_ex, keepIf_t, keepIf_f, ntup_some, calm_o, items_t, items_l, slotR, sl_v, b_add, b_sub, c_eq, c_ne, c_lt, c_le, c_gt, c_ge, f_lenL, f_lenT, f_tupL, f_tupT, f_lstL, f_lstT, f_int, f_abs, i_int, i_intB, i_intN, i_intT, i_intL, i_intS, i_bool, i_boolB, i_tup, i_tupN, i_tupL, i_tupI, x_tup, x_lst, l_tup, l_lst, r_lst, r_tup, q_lst, q_tup, z_lst, z_tup, t_one, w_nil, w_cons, sget_0, sget_S, List.set_cons_zero, List.set_cons_succ, Option.map_some, Option.bind_some, eqD_int, Bool.not_true, Bool.not_false, sz_0, szT_0, sz_1, szT_1, sz_2, szT_2, sz_3, szT_3, sz_4, szT_4, sz_5, szT_5, sz_6, szT_6, t_many2, t_many3, t_many4, t_lst2, t_lst3]
    rfl
  have e3 : evS (C (n + 4)) fuelL s_longest_again_3 [.val (T rw), .val (b3D (0, 0, 0)), .un, .un, .un] st = .ok (.nx, [.val (T rw), .val (b3D (bestA rw)), z2, z3, z4]) st := by
    show lift (evI (C (n + 4)) _ _ _) _ _ = _
    rw [lg_r3 (range_k rw.length (by omega)) rfl, lift_ok]
    exact e
  have e4 : evS (C (n + 4)) fuelL s_longest_again_4 [.val (T rw), .val (b3D (bestA rw)), z2, z3, z4] st = .ok (.rt (b3D (bestA rw)), [.val (T rw), .val (b3D (bestA rw)), z2, z3, z4]) st := by
    simp only [s_longest_again_4, evSs, evS, evE, evEs, evBs, evO, evT, evI, rd_k, rd_g, rd_bin, rd_neg, rd_not, rd_and, rd_or, rd_cmp, rd_chain, rd_ite, rd_tup, rd_lst, rd_ix, rd_sl, rd_rev, rd_call, rd_sumL, rd_join, rd_cnt, rd_stp, rd_bf, rd_isI, rd_v, R.bind, lift_ok, lift_ex, of_some, asB_ok, asB_ex, asI_ok, asI_ex, asD_ok, asD_ex, fold2_t, fold2_f, fold2_ex, keepIf_t, keepIf_f, ntup_some, calm_o, items_t, items_l, slotR, sl_v, b_add, b_sub, c_eq, c_ne, c_lt, c_le, c_gt, c_ge, f_lenL, f_lenT, f_tupL, f_tupT, f_lstL, f_lstT, f_int, f_abs, i_int, i_intB, i_intN, i_intT, i_intL, i_intS, i_bool, i_boolB, i_tup, i_tupN, i_tupL, i_tupI, x_tup, x_lst, l_tup, l_lst, r_lst, r_tup, q_lst, q_tup, z_lst, z_tup, t_one, w_nil, w_cons, sget_0, sget_S, List.set_cons_zero, List.set_cons_succ, Option.map_some, Option.bind_some, eqD_int, Bool.not_true, Bool.not_false, sz_0, szT_0, sz_1, szT_1, sz_2, szT_2, sz_3, szT_3, sz_4, szT_4, sz_5, szT_5, sz_6, szT_6, t_many2, t_many3, t_many4, t_lst2, t_lst3]
  exact call_rt (fn := r_longest_again.fn) rfl rfl rfl ((ss_nx (lg_0 (chk_s (n := n) (f := h)))).trans ((ss_nx (lg_1 (decide_eq_false (by omega)))).trans ((ss_nx e2).trans ((ss_nx e3).trans (ss_rt e4)))))
end
/-! ### the law -/
theorem lc_bind {n : Nat} {elt : E} {i : Nat} {it : IE} {env : Eng.Env} {s s1 s2 : Sto} {xs ys : List D} (hi : evI (C n) it env s = .ok xs s1) (ht : turns (fun d s2 => ntup (tgSet (.one i) d (wipeE env [i])) fun env' => keepIf (evT (C n) .nil env' s2) fun s3 => evE (C n) elt env' s3) xs s1 = .ok ys s2) (hl : ys.length ≤ 1000000) : evE (C n) (.lc elt (.one i) it .nil [i]) env s = .ok (.lst ys) s2 := by
  rw [lc_eq, hi, bind_ok, ht, bind_ok]
  exact sized_ok' (size_small (by omega))
theorem el_1' {call : Nat → List D → Sto → R D} {elt : E} {i : Nat} {d y : D} {env : Eng.Env} {s s1 : Sto} (h : evE call elt (env.set i (.val d)) s = .ok y s1) : (ntup (tgSet (.one i) d env) fun env' => keepIf (evT call .nil env' s) fun s3 => evE call elt env' s3) = .ok (some y) s1 := by
  rw [t_one, ntup_some]
  show calm (keepIf (.ok true s) _) = _
  rw [keepIf_t, h] <;> rfl
theorem law_0 {n : Nat} {ns : List Int} (h : ns.length ≤ 63) : evS (C (n + 20)) fuelL s_law_0 (.val (.scr ns) :: List.replicate 24 .un) [] = .ok (.nx, .val (.scr ns) :: .val (.ref 0) :: List.replicate 23 .un) (Dw (ns.take 63) 0) := by
  have e : Eng.cutD ns none (some 63) = ns.take 63 := cut_take ns 63
  simp only [s_law_0, evSs, evS, evE, evEs, evBs, evO, evT, evI, rd_k, rd_g, rd_bin, rd_neg, rd_not, rd_and, rd_or, rd_cmp, rd_chain, rd_ite, rd_tup, rd_lst, rd_ix, rd_sl, rd_rev, rd_call, rd_sumL, rd_join, rd_cnt, rd_stp, rd_bf, rd_isI, rd_v, R.bind, lift_ok, lift_ex, of_some, asB_ok, asB_ex, asI_ok, asI_ex, asD_ok, asD_ex, fold2_t, fold2_f, fold2_ex, keepIf_t, keepIf_f, ntup_some, calm_o, items_t, items_l, slotR, sl_v, b_add, b_sub, c_eq, c_ne, c_lt, c_le, c_gt, c_ge, f_lenL, f_lenT, f_tupL, f_tupT, f_lstL, f_lstT, f_int, f_abs, i_int, i_intB, i_intN, i_intT, i_intL, i_intS, i_bool, i_boolB, i_tup, i_tupN, i_tupL, i_tupI, x_tup, x_lst, l_tup, l_lst, r_lst, r_tup, q_lst, q_tup, z_lst, z_tup, t_one, w_nil, w_cons, sget_0, sget_S, List.set_cons_zero, List.set_cons_succ, Option.map_some, Option.bind_some, eqD_int, Bool.not_true, Bool.not_false, sz_0, szT_0, sz_1, szT_1, sz_2, szT_2, sz_3, szT_3, sz_4, szT_4, sz_5, szT_5, sz_6, szT_6, t_many2, t_many3, t_many4, t_lst2, t_lst3, isNew, l_scr, e]
  rfl
structure Pa (pt : List Int) : Prop where
  p : 0 < pt.length
  l : pt.length ≤ 4
  v : ∀ x ∈ pt, 0 ≤ x ∧ x ≤ 3
abbrev E2 (ns : List Int) (s2 s3 : Sl) : Eng.Env := [.val (.scr ns), .val (.ref 0), s2, s3, .un, .un, .un, .un, .un, .un, .un, .un, .un, .un, .un, .un, .un, .un, .un, .un, .un, .un, .un, .un, .un]
theorem law_1 {n : Nat} {ns cs : List Int} : ∃ (pt : List Int) (j : Int), 0 ≤ j ∧ Pa pt ∧ evS (C (n + 20)) fuelL s_law_1 (.val (.scr ns) :: .val (.ref 0) :: List.replicate 23 .un) (Dw cs 0) = .ok (.nx, E2 ns (.val (.lst (pt.map .int))) .un) (Dw cs j) := by
  obtain ⟨m, m1, m2, em⟩ := next_ok (n := n + 17) (cs := cs) (j := 0) (b := 4) (by decide) (by decide)
  obtain ⟨ys, st1, e2, l2, q2, i, hi, rfl⟩ := turns_any (f := fun d s2 => ntup (tgSet (.one 21) d (wipeE (E2 ns .un .un) [21])) fun env' => keepIf (evT (C (n + 20)) .nil env' s2) fun s3 => evE (C (n + 20)) (.call 19 (.cons (.v 1) (.cons (.k (.int (4))) .nil))) env' s3)
    (fun _ st => ∃ i, 0 ≤ i ∧ st = Dw cs i) (fun y => ∃ x, y = .int x ∧ (0 ≤ x ∧ x ≤ 3)) ((List.range (1 + m - 0).toNat).map fun (i : Nat) => D.int (0 + i)) 0 (Dw cs (0 + 1)) ⟨0 + 1, by decide, rfl⟩ (by
      rintro d hd _ st ⟨i, hi, rfl⟩
      obtain ⟨r, r1, r2, er⟩ := next_ok (n := n + 17) (cs := cs) (j := i) (b := 4) hi (by decide)
      exact ⟨.int r, Dw cs (i + 1), by simp only [evSs, evS, evE, evEs, evBs, evO, evT, evI, rd_k, rd_g, rd_bin, rd_neg, rd_not, rd_and, rd_or, rd_cmp, rd_chain, rd_ite, rd_tup, rd_lst, rd_ix, rd_sl, rd_rev, rd_call, rd_sumL, rd_join, rd_cnt, rd_stp, rd_bf, rd_isI, rd_v, R.bind, lift_ok, lift_ex, of_some, asB_ok, asB_ex, asI_ok, asI_ex, asD_ok, asD_ex, fold2_t, fold2_f, fold2_ex, keepIf_t, keepIf_f, ntup_some, calm_o, items_t, items_l, slotR, sl_v, b_add, b_sub, c_eq, c_ne, c_lt, c_le, c_gt, c_ge, f_lenL, f_lenT, f_tupL, f_tupT, f_lstL, f_lstT, f_int, f_abs, i_int, i_intB, i_intN, i_intT, i_intL, i_intS, i_bool, i_boolB, i_tup, i_tupN, i_tupL, i_tupI, x_tup, x_lst, l_tup, l_lst, r_lst, r_tup, q_lst, q_tup, z_lst, z_tup, t_one, w_nil, w_cons, sget_0, sget_S, List.set_cons_zero, List.set_cons_succ, Option.map_some, Option.bind_some, eqD_int, Bool.not_true, Bool.not_false, sz_0, szT_0, sz_1, szT_1, sz_2, szT_2, sz_3, szT_3, sz_4, szT_4, sz_5, szT_5, sz_6, szT_6, t_many2, t_many3, t_many4, t_lst2, t_lst3, er], ⟨r, rfl, by omega, by omega⟩, i + 1, by omega, rfl⟩)
  obtain ⟨xs, rfl, hx⟩ := ints_ex q2
  rw [List.length_map, List.length_map, List.length_range] at l2
  refine ⟨xs, i, hi, ⟨by omega, by omega, hx⟩, ?_⟩
  have ei : evI (C (n + 20)) (.rng1 (.bin .add (.k (.int (1))) (.call 19 (.cons (.v 1) (.cons (.k (.int (4))) .nil))))) (E2 ns .un .un) (Dw cs 0) = .ok ((List.range (1 + m - 0).toNat).map fun (i : Nat) => D.int (0 + i)) (Dw cs (0 + 1)) := by
    have hr := range_int 0 (1 + m) (by decide) (by decide) (by omega) (by omega)
    generalize ((List.range (1 + m - 0).toNat).map fun (i : Nat) => D.int (0 + i)) = ds at *
    simp only [evSs, evS, evE, evEs, evBs, evO, evT, evI, rd_k, rd_g, rd_bin, rd_neg, rd_not, rd_and, rd_or, rd_cmp, rd_chain, rd_ite, rd_tup, rd_lst, rd_ix, rd_sl, rd_rev, rd_call, rd_sumL, rd_join, rd_cnt, rd_stp, rd_bf, rd_isI, rd_v, R.bind, lift_ok, lift_ex, of_some, asB_ok, asB_ex, asI_ok, asI_ex, asD_ok, asD_ex, fold2_t, fold2_f, fold2_ex, keepIf_t, keepIf_f, ntup_some, calm_o, items_t, items_l, slotR, sl_v, b_add, b_sub, c_eq, c_ne, c_lt, c_le, c_gt, c_ge, f_lenL, f_lenT, f_tupL, f_tupT, f_lstL, f_lstT, f_int, f_abs, i_int, i_intB, i_intN, i_intT, i_intL, i_intS, i_bool, i_boolB, i_tup, i_tupN, i_tupL, i_tupI, x_tup, x_lst, l_tup, l_lst, r_lst, r_tup, q_lst, q_tup, z_lst, z_tup, t_one, w_nil, w_cons, sget_0, sget_S, List.set_cons_zero, List.set_cons_succ, Option.map_some, Option.bind_some, eqD_int, Bool.not_true, Bool.not_false, sz_0, szT_0, sz_1, szT_1, sz_2, szT_2, sz_3, szT_3, sz_4, szT_4, sz_5, szT_5, sz_6, szT_6, t_many2, t_many3, t_many4, t_lst2, t_lst3, em, hr]
  have b : evE (C (n + 20)) x_law_0 (E2 ns .un .un) (Dw cs 0) = .ok (.lst (xs.map .int)) (Dw cs i) := lc_bind ei e2 (by rw [List.length_map]; omega)
  show evS (C (n + 20)) fuelL s_law_1 (E2 ns .un .un) (Dw cs 0) = _
  simp only [s_law_1, evSs, evS, evE, evEs, evBs, evO, evT, evI, rd_k, rd_g, rd_bin, rd_neg, rd_not, rd_and, rd_or, rd_cmp, rd_chain, rd_ite, rd_tup, rd_lst, rd_ix, rd_sl, rd_rev, rd_call, rd_sumL, rd_join, rd_cnt, rd_stp, rd_bf, rd_isI, rd_v, R.bind, lift_ok, lift_ex, of_some, asB_ok, asB_ex, asI_ok, asI_ex, asD_ok, asD_ex, fold2_t, fold2_f, fold2_ex, keepIf_t, keepIf_f, ntup_some, calm_o, items_t, items_l, slotR, sl_v, b_add, b_sub, c_eq, c_ne, c_lt, c_le, c_gt, c_ge, f_lenL, f_lenT, f_tupL, f_tupT, f_lstL, f_lstT, f_int, f_abs, i_int, i_intB, i_intN, i_intT, i_intL, i_intS, i_bool, i_boolB, i_tup, i_tupN, i_tupL, i_tupI, x_tup, x_lst, l_tup, l_lst, r_lst, r_tup, q_lst, q_tup, z_lst, z_tup, t_one, w_nil, w_cons, sget_0, sget_S, List.set_cons_zero, List.set_cons_succ, Option.map_some, Option.bind_some, eqD_int, Bool.not_true, Bool.not_false, sz_0, szT_0, sz_1, szT_1, sz_2, szT_2, sz_3, szT_3, sz_4, szT_4, sz_5, szT_5, sz_6, szT_6, t_many2, t_many3, t_many4, t_lst2, t_lst3, b, x_law_0_rd]
structure Ro (rw : List Int) : Prop where
  l : rw.length ≤ 13
  v : ∀ x ∈ rw, 0 ≤ x ∧ x ≤ 4
theorem el_2 {n : Nat} {cs : List Int} {i ai li k x : Int} {w : List D} {env : Eng.Env} (h1 : sget env 1 = .val (.ref 0)) (h2 : sget env 2 = .val (.lst w)) (h10 : sget env 10 = .val (.int ai)) (hl : ((w.length : Nat) : Int) = li) (hd : binop .fdiv (.int ai) (.int li) = some (.int k)) (hs : small64 li = true) (hw : atI w (ai - li * k) = some (.int x)) {r : Int} (er : C n 19 [.ref 0, .int 6] (Dw cs i) = .ok (.int r) (Dw cs (i + 1))) : evE (C n) (.bin .add (.ix (.v 2) (.bin .sub (.v 10) (.bin .mul (.bf .len (.cons (.v 2) .nil)) (.bin .fdiv (.v 10) (.bf .len (.cons (.v 2) .nil)))))) (.ite (.cmp .eq (.call 19 (.cons (.v 1) (.cons (.k (.int (6))) .nil))) (.k (.int (0)))) (.k (.int (1))) (.k (.int (0))))) env (Dw cs i) = .ok (.int (x + if r = 0 then 1 else 0)) (Dw cs (i + 1)) := by
  by_cases q : r = 0
  · rw [if_pos q]
    simp only [evSs, evS, evE, evEs, evBs, evO, evT, evI, rd_k, rd_g, rd_bin, rd_neg, rd_not, rd_and, rd_or, rd_cmp, rd_chain, rd_ite, rd_tup, rd_lst, rd_ix, rd_sl, rd_rev, rd_call, rd_sumL, rd_join, rd_cnt, rd_stp, rd_bf, rd_isI, rd_v, R.bind, lift_ok, lift_ex, of_some, asB_ok, asB_ex, asI_ok, asI_ex, asD_ok, asD_ex, fold2_t, fold2_f, fold2_ex, keepIf_t, keepIf_f, ntup_some, calm_o, items_t, items_l, slotR, sl_v, b_add, b_sub, c_eq, c_ne, c_lt, c_le, c_gt, c_ge, f_lenL, f_lenT, f_tupL, f_tupT, f_lstL, f_lstT, f_int, f_abs, i_int, i_intB, i_intN, i_intT, i_intL, i_intS, i_bool, i_boolB, i_tup, i_tupN, i_tupL, i_tupI, x_tup, x_lst, l_tup, l_lst, r_lst, r_tup, q_lst, q_tup, z_lst, z_tup, t_one, w_nil, w_cons, sget_0, sget_S, List.set_cons_zero, List.set_cons_succ, Option.map_some, Option.bind_some, eqD_int, Bool.not_true, Bool.not_false, sz_0, szT_0, sz_1, szT_1, sz_2, szT_2, sz_3, szT_3, sz_4, szT_4, sz_5, szT_5, sz_6, szT_6, t_many2, t_many3, t_many4, t_lst2, t_lst3, h1, h2, h10, hl, hd, b_mul _ _ (.inl hs), hw, er, decide_eq_true q]
  · rw [if_neg q]
    simp only [evSs, evS, evE, evEs, evBs, evO, evT, evI, rd_k, rd_g, rd_bin, rd_neg, rd_not, rd_and, rd_or, rd_cmp, rd_chain, rd_ite, rd_tup, rd_lst, rd_ix, rd_sl, rd_rev, rd_call, rd_sumL, rd_join, rd_cnt, rd_stp, rd_bf, rd_isI, rd_v, R.bind, lift_ok, lift_ex, of_some, asB_ok, asB_ex, asI_ok, asI_ex, asD_ok, asD_ex, fold2_t, fold2_f, fold2_ex, keepIf_t, keepIf_f, ntup_some, calm_o, items_t, items_l, slotR, sl_v, b_add, b_sub, c_eq, c_ne, c_lt, c_le, c_gt, c_ge, f_lenL, f_lenT, f_tupL, f_tupT, f_lstL, f_lstT, f_int, f_abs, i_int, i_intB, i_intN, i_intT, i_intL, i_intS, i_bool, i_boolB, i_tup, i_tupN, i_tupL, i_tupI, x_tup, x_lst, l_tup, l_lst, r_lst, r_tup, q_lst, q_tup, z_lst, z_tup, t_one, w_nil, w_cons, sget_0, sget_S, List.set_cons_zero, List.set_cons_succ, Option.map_some, Option.bind_some, eqD_int, Bool.not_true, Bool.not_false, sz_0, szT_0, sz_1, szT_1, sz_2, szT_2, sz_3, szT_3, sz_4, szT_4, sz_5, szT_5, sz_6, szT_6, t_many2, t_many3, t_many4, t_lst2, t_lst3, h1, h2, h10, hl, hd, b_mul _ _ (.inl hs), hw, er, decide_eq_false q]
theorem law_2 {n : Nat} {ns cs pt : List Int} {j : Int} (hp : Pa pt) (hj : 0 ≤ j) : ∃ (rw : List Int) (i : Int), 0 ≤ i ∧ Ro rw ∧ evS (C (n + 20)) fuelL s_law_2 (E2 ns (.val (.lst (pt.map .int))) .un) (Dw cs j) = .ok (.nx, E2 ns (.val (.lst (pt.map .int))) (.val (T rw))) (Dw cs i) := by
  have hpp := hp.p
  have hpl := hp.l
  obtain ⟨m, m1, m2, em⟩ := next_ok (n := n + 17) (cs := cs) (j := j) (b := 14) hj (by decide)
  obtain ⟨ys, st1, e2, l2, q2, i, hi, rfl⟩ := turns_any (f := fun d s2 => ntup (tgSet (.one 10) d (wipeE (E2 ns (.val (.lst (pt.map .int))) .un) [10])) fun env' => keepIf (evT (C (n + 20)) .nil env' s2) fun s3 => evE (C (n + 20)) (.bin .add (.ix (.v 2) (.bin .sub (.v 10) (.bin .mul (.bf .len (.cons (.v 2) .nil)) (.bin .fdiv (.v 10) (.bf .len (.cons (.v 2) .nil)))))) (.ite (.cmp .eq (.call 19 (.cons (.v 1) (.cons (.k (.int (6))) .nil))) (.k (.int (0)))) (.k (.int (1))) (.k (.int (0))))) env' s3)
    (fun _ st => ∃ i, 0 ≤ i ∧ st = Dw cs i) (fun y => ∃ x, y = .int x ∧ (0 ≤ x ∧ x ≤ 4)) ((List.range (m - 0).toNat).map fun (i : Nat) => D.int (0 + i)) 0 (Dw cs (j + 1)) ⟨j + 1, by omega, rfl⟩ (by
      rintro d hd _ st ⟨i, hi, rfl⟩
      obtain ⟨a, ha, rfl⟩ := List.mem_map.mp hd
      have hat : ((a : Int)) - (pt.length : Int) * ((a : Int) / (pt.length : Int)) = ((a % pt.length : Nat) : Int) := by
        rw [Int.natCast_emod, Int.emod_def]
      have hlt : a % pt.length < pt.length := Nat.mod_lt _ hpp
      have hv := hp.v _ (List.getElem_mem hlt)
      have hw : atI (pt.map D.int) ((0 + (a : Int)) - (pt.length : Int) * ((0 + (a : Int)) / (pt.length : Int))) = some (.int pt[a % pt.length]) := by
        rw [Int.zero_add, hat, atI_map, at_nat _ _ hlt] <;> rfl
      obtain ⟨r, r1, r2, er⟩ := next_ok (n := n + 17) (cs := cs) (j := i) (b := 6) hi (by decide)
      refine ⟨_, Dw cs (i + 1), el_1' (el_2 (n := n + 20) rfl rfl rfl (by rw [List.length_map]) (b_fdiv _ _ (by omega) (by
        have : ((pt.length : Nat) : Int).natAbs < 2 ^ 9000 := Nat.lt_of_le_of_lt (show ((pt.length : Nat) : Int).natAbs ≤ 4000 by omega) (by decide +kernel)
        exact (Nat.log2_lt (by omega)).mpr this)) (small_of (by omega) (by omega)) hw er), ⟨_, rfl, ?_, ?_⟩, i + 1, by omega, rfl⟩
      · split <;> omega
      · split <;> omega)
  obtain ⟨xs, rfl, hx⟩ := ints_ex q2
  rw [List.length_map, List.length_map, List.length_range] at l2
  refine ⟨xs, i, hi, ⟨by omega, hx⟩, ?_⟩
  have ei : evI (C (n + 20)) (.rng1 (.call 19 (.cons (.v 1) (.cons (.k (.int (14))) .nil)))) (E2 ns (.val (.lst (pt.map .int))) .un) (Dw cs j) = .ok ((List.range (m - 0).toNat).map fun (i : Nat) => D.int (0 + i)) (Dw cs (j + 1)) := by
    have hr := range_int 0 m (by decide) (by decide) (by omega) (by omega)
    generalize ((List.range (m - 0).toNat).map fun (i : Nat) => D.int (0 + i)) = ds at *
    simp only [evSs, evS, evE, evEs, evBs, evO, evT, evI, rd_k, rd_g, rd_bin, rd_neg, rd_not, rd_and, rd_or, rd_cmp, rd_chain, rd_ite, rd_tup, rd_lst, rd_ix, rd_sl, rd_rev, rd_call, rd_sumL, rd_join, rd_cnt, rd_stp, rd_bf, rd_isI, rd_v, R.bind, lift_ok, lift_ex, of_some, asB_ok, asB_ex, asI_ok, asI_ex, asD_ok, asD_ex, fold2_t, fold2_f, fold2_ex, keepIf_t, keepIf_f, ntup_some, calm_o, items_t, items_l, slotR, sl_v, b_add, b_sub, c_eq, c_ne, c_lt, c_le, c_gt, c_ge, f_lenL, f_lenT, f_tupL, f_tupT, f_lstL, f_lstT, f_int, f_abs, i_int, i_intB, i_intN, i_intT, i_intL, i_intS, i_bool, i_boolB, i_tup, i_tupN, i_tupL, i_tupI, x_tup, x_lst, l_tup, l_lst, r_lst, r_tup, q_lst, q_tup, z_lst, z_tup, t_one, w_nil, w_cons, sget_0, sget_S, List.set_cons_zero, List.set_cons_succ, Option.map_some, Option.bind_some, eqD_int, Bool.not_true, Bool.not_false, sz_0, szT_0, sz_1, szT_1, sz_2, szT_2, sz_3, szT_3, sz_4, szT_4, sz_5, szT_5, sz_6, szT_6, t_many2, t_many3, t_many4, t_lst2, t_lst3, em, hr]
  have b : evE (C (n + 20)) x_law_1 (E2 ns (.val (.lst (pt.map .int))) .un) (Dw cs j) = .ok (.lst (xs.map .int)) (Dw cs i) := lc_bind ei e2 (by rw [List.length_map]; omega)
  simp only [s_law_2, evSs, evS, evE, evEs, evBs, evO, evT, evI, rd_k, rd_g, rd_bin, rd_neg, rd_not, rd_and, rd_or, rd_cmp, rd_chain, rd_ite, rd_tup, rd_lst, rd_ix, rd_sl, rd_rev, rd_call, rd_sumL, rd_join, rd_cnt, rd_stp, rd_bf, rd_isI, rd_v, R.bind, lift_ok, lift_ex, of_some, asB_ok, asB_ex, asI_ok, asI_ex, asD_ok, asD_ex, fold2_t, fold2_f, fold2_ex, keepIf_t, keepIf_f, ntup_some, calm_o, items_t, items_l, slotR, sl_v, b_add, b_sub, c_eq, c_ne, c_lt, c_le, c_gt, c_ge, f_lenL, f_lenT, f_tupL, f_tupT, f_lstL, f_lstT, f_int, f_abs, i_int, i_intB, i_intN, i_intT, i_intL, i_intS, i_bool, i_boolB, i_tup, i_tupN, i_tupL, i_tupI, x_tup, x_lst, l_tup, l_lst, r_lst, r_tup, q_lst, q_tup, z_lst, z_tup, t_one, w_nil, w_cons, sget_0, sget_S, List.set_cons_zero, List.set_cons_succ, Option.map_some, Option.bind_some, eqD_int, Bool.not_true, Bool.not_false, sz_0, szT_0, sz_1, szT_1, sz_2, szT_2, sz_3, szT_3, sz_4, szT_4, sz_5, szT_5, sz_6, szT_6, t_many2, t_many3, t_many4, t_lst2, t_lst3, b, x_law_1_rd]
theorem nil_ok {n : Nat} {cs : List Int} {j : Int} : C (n + 20) 5 [.tup [], .int 3] (Dw cs j) = .ok (.bl true) (Dw cs j) ∧ C (n + 20) 15 [.tup []] (Dw cs j) = .ok (.tup [.int 0, .int 0, .int 0]) (Dw cs j) := ⟨rfl, rfl⟩
theorem law_3_nil {n : Nat} {ns cs : List Int} {s2 : Sl} {j : Int} : evS (C (n + 20)) fuelL s_law_3 (E2 ns s2 (.val (T []))) (Dw cs j) = .ok (.rt (.bl true), E2 ns s2 (.val (T []))) (Dw cs j) := by
  obtain ⟨e1, e2⟩ := nil_ok (n := n) (cs := cs) (j := j)
  have q := eqD_Tnil []
  rw [decide_eq_true rfl] at q
  have q2 : eqD (.tup [.int 0, .int 0, .int 0]) (.tup [.int 0, .int 0, .int 0]) = some true := (eqD_ints [0, 0, 0] [0, 0, 0]).trans (by rw [decide_eq_true rfl])
  simp only [s_law_3, evSs, evS, evE, evEs, evBs, evO, evT, evI, rd_k, rd_g, rd_bin, rd_neg, rd_not, rd_and, rd_or, rd_cmp, rd_chain, rd_ite, rd_tup, rd_lst, rd_ix, rd_sl, rd_rev, rd_call, rd_sumL, rd_join, rd_cnt, rd_stp, rd_bf, rd_isI, rd_v, R.bind, lift_ok, lift_ex, of_some, asB_ok, asB_ex, asI_ok, asI_ex, asD_ok, asD_ex, fold2_t, fold2_f, fold2_ex, keepIf_t, keepIf_f, ntup_some, calm_o, items_t, items_l, slotR, sl_v, b_add, b_sub, c_eq, c_ne, c_lt, c_le, c_gt, c_ge, f_lenL, f_lenT, f_tupL, f_tupT, f_lstL, f_lstT, f_int, f_abs, i_int, i_intB, i_intN, i_intT, i_intL, i_intS, i_bool, i_boolB, i_tup, i_tupN, i_tupL, i_tupI, x_tup, x_lst, l_tup, l_lst, r_lst, r_tup, q_lst, q_tup, z_lst, z_tup, t_one, w_nil, w_cons, sget_0, sget_S, List.set_cons_zero, List.set_cons_succ, Option.map_some, Option.bind_some, eqD_int, Bool.not_true, Bool.not_false, sz_0, szT_0, sz_1, szT_1, sz_2, szT_2, sz_3, szT_3, sz_4, szT_4, sz_5, szT_5, sz_6, szT_6, t_many2, t_many3, t_many4, t_lst2, t_lst3, q, e1, e2, q2]
theorem law_3 {n : Nat} {ns rw : List Int} {s2 : Sl} {st : Sto} (h : Row rw) : evS (C (n + 20)) fuelL s_law_3 (E2 ns s2 (.val (T rw))) st = .ok (.nx, E2 ns s2 (.val (T rw))) st := by
  simp only [s_law_3, evSs, evS, evE, evEs, evBs, evO, evT, evI, rd_k, rd_g, rd_bin, rd_neg, rd_not, rd_and, rd_or, rd_cmp, rd_chain, rd_ite, rd_tup, rd_lst, rd_ix, rd_sl, rd_rev, rd_call, rd_sumL, rd_join, rd_cnt, rd_stp, rd_bf, rd_isI, rd_v, R.bind, lift_ok, lift_ex, of_some, asB_ok, asB_ex, asI_ok, asI_ex, asD_ok, asD_ex, fold2_t, fold2_f, fold2_ex, keepIf_t, keepIf_f, ntup_some, calm_o, items_t, items_l, slotR, sl_v, b_add, b_sub, c_eq, c_ne, c_lt, c_le, c_gt, c_ge, f_lenL, f_lenT, f_tupL, f_tupT, f_lstL, f_lstT, f_int, f_abs, i_int, i_intB, i_intN, i_intT, i_intL, i_intS, i_bool, i_boolB, i_tup, i_tupN, i_tupL, i_tupI, x_tup, x_lst, l_tup, l_lst, r_lst, r_tup, q_lst, q_tup, z_lst, z_tup, t_one, w_nil, w_cons, sget_0, sget_S, List.set_cons_zero, List.set_cons_succ, Option.map_some, Option.bind_some, eqD_int, Bool.not_true, Bool.not_false, sz_0, szT_0, sz_1, szT_1, sz_2, szT_2, sz_3, szT_3, sz_4, szT_4, sz_5, szT_5, sz_6, szT_6, t_many2, t_many3, t_many4, t_lst2, t_lst3, row_ne h]
def f_law_1_p0 : S := (.asg false 7 x_law_6)
def f_law_1_p1 : S := (.ife (.or (.cmp .ne (.call 5 (.cons (.v 3) (.cons (.v 6) .nil))) (.cmp .mem (.v 6) (.v 4))) (.or (.cmp .ne (.call 8 (.cons (.v 3) (.cons (.v 6) .nil))) (.call 21 (.cons (.v 3) (.cons (.v 6) .nil)))) (.cmp .ne (.cmp .eq (.call 8 (.cons (.v 3) (.cons (.v 6) .nil))) (.k (.int (0)))) (.cmp .mem (.v 6) (.v 4))))) (.cons (.ret (.k (.bl false))) .nil) .nil)
def f_law_1_p2 : S := (.ife (.cmp .ne (.call 9 (.cons (.v 3) (.cons (.v 6) .nil))) (.bf .tuple (.cons x_law_8 .nil))) (.cons (.ret (.k (.bl false))) .nil) .nil)
def f_law_1_p3 : S := (.asg false 8 x_law_9)
def f_law_1_p4 : S := (.asg true 9 (.lst .nil))
def f_law_1_p5 : S := (.forr (.many [10, 11]) (.enum (.v 3)) f_law_0)
def f_law_1_p6 : S := (.ife (.or (.cmp .ne (.call 11 (.cons (.v 3) (.cons (.v 6) .nil))) (.bf .tuple (.cons (.v 8) .nil))) (.cmp .ne (.call 12 (.cons (.v 3) (.cons (.v 6) .nil))) (.bf .tuple (.cons (.v 9) .nil)))) (.cons (.ret (.k (.bl false))) .nil) .nil)
abbrev En (ns : List Int) (s2 : Sl) (rw : List Int) (s4 s5 s6 s7 s8 s9 s10 s11 s12 s13 s14 s15 s16 s17 s18 s19 s20 : Sl) : Eng.Env := [.val (.scr ns), .val (.ref 0), s2, .val (T rw), s4, s5, s6, s7, s8, s9, s10, s11, s12, s13, s14, s15, s16, s17, s18, s19, s20, .un, .un, .un, .un]
theorem lc_bind' {n : Nat} {elt : E} {i : Nat} {it : IE} {ifs : Es} {env : Eng.Env} {s s1 s2 : Sto} {xs ys : List D} (hi : evI (C n) it env s = .ok xs s1) (ht : turns (fun d s2 => ntup (tgSet (.one i) d (wipeE env [i])) fun env' => keepIf (evT (C n) ifs env' s2) fun s3 => evE (C n) elt env' s3) xs s1 = .ok ys s2) (hl : ys.length ≤ 1000000) : evE (C n) (.lc elt (.one i) it ifs [i]) env s = .ok (.lst ys) s2 := by
  rw [lc_eq, hi, bind_ok, ht, bind_ok]
  exact sized_ok' (size_small (by omega))
theorem el_if {call : Nat → List D → Sto → R D} {test elt : E} {i : Nat} {d y : D} {b : Bool} {env : Eng.Env} {s : Sto} (ht : evE call test (env.set i (.val d)) s = .ok (.bl b) s) (he : evE call elt (env.set i (.val d)) s = .ok y s) : (ntup (tgSet (.one i) d env) fun env' => keepIf (evT call (.cons test .nil) env' s) fun s3 => evE call elt env' s3) = .ok (if b = true then some y else none) s := by
  rw [t_one, ntup_some]
  show calm (keepIf (asB (evE call test (env.set i (.val d)) s)) _) = _
  rw [ht, asB_ok]
  cases b
  · rfl
  · rw [keepIf_t, he] <;> rfl
theorem v_ok {call : Nat → List D → Sto → R D} {i : Nat} {d : D} {env : Eng.Env} {s : Sto} (h : sget env i = .val d) : evE call (.v i) env s = .ok d s := by
  show (match sget env i with
    | .val d => R.ok d s
    | _ => _) = _
  rw [h]
theorem mem_N (m : Nat) (L : List Nat) : memD (natD m) (L.map natD) = some (decide (m ∈ L)) := by
  have h2 : okD (.lst (L.map natD)) = true := by
    have := okL_ints (L.map fun (i : Nat) => (i : Int))
    rw [List.map_map] at this
    exact this
  have h1 : okD (natD m) = true := rfl
  unfold memD
  rw [h1, h2]
  show some ((L.map natD).any fun z => deq z (natD m)) = _
  congr 1
  induction L with
  | nil => rfl
  | cons x r ih =>
    rw [List.map_cons, List.any_cons, ih (by
      have := okL_ints (r.map fun (i : Nat) => (i : Int))
      rw [List.map_map] at this
      exact this)]
    have e : deq (natD x) (natD m) = decide ((x : Int) = (m : Int)) := rfl
    rw [e]
    by_cases q : x = m
    · rw [q]
      simp
    · have q' : ¬ m = x := fun z => q z.symm
      rw [decide_eq_false (by omega)]
      simp [q']
theorem c_memN (m : Nat) (L : List Nat) : cmpop .mem (natD m) (.lst (L.map natD)) = some (decide (m ∈ L)) := mem_N m L
theorem eqD_pD (p : Pt) : eqD (Eng.pairD p) (Eng.pairD p) = some true := (eqD_ints [p.1, p.2] [p.1, p.2]).trans (by rw [decide_eq_true rfl])
theorem eqv_PT : ∀ l : List Pt, PyData.eqvAll (toPy.all (l.map Eng.pairD)) (toPy.all (l.map Eng.pairD)) = true
  | [] => rfl
  | p :: r => by
    show ((p.1 == p.1 && (p.2 == p.2 && true)) && PyData.eqvAll (toPy.all (r.map Eng.pairD)) (toPy.all (r.map Eng.pairD))) = true
    rw [eqv_PT r]
    simp
theorem okD_PT (l : List Pt) : okD (.tup (l.map Eng.pairD)) = true := by
  show (PyData.canLayAll0 (toPy.all (l.map Eng.pairD)) && decide (PyData.depthAll (toPy.all (l.map Eng.pairD)) + 1 ≤ 64)) = true
  rw [lay_pairs, toPy_pairs, decide_eq_true (by have := depth_pairs l; omega)] <;> rfl
theorem eqD_PT (l : List Pt) : eqD (.tup (l.map Eng.pairD)) (.tup (l.map Eng.pairD)) = some true := eqD_refl (okD_PT l) (eqv_PT l)
section
variable {n : Nat} {ns cs rw : List Int} {s2 s4 s5 s6 s7 s8 s9 s10 s11 s12 s13 s14 s15 s16 s17 s18 s19 s20 : Sl} {st : Sto} {j : Int}
theorem el_per {env : Eng.Env} {ai mi x y : Int} (h3 : sget env 3 = .val (T rw)) (h10 : sget env 10 = .val (.int ai)) (h6 : sget env 6 = .val (.int mi)) (hx : atI (rw.map D.int) ai = some (.int x)) (hy : atI (rw.map D.int) (ai - mi) = some (.int y)) : evE (C n) (.cmp .eq (.ix (.v 3) (.v 10)) (.ix (.v 3) (.bin .sub (.v 10) (.v 6)))) env st = .ok (.bl (decide (x = y))) st := by
  simp only [evSs, evS, evE, evEs, evBs, evO, evT, evI, rd_k, rd_g, rd_bin, rd_neg, rd_not, rd_and, rd_or, rd_cmp, rd_chain, rd_ite, rd_tup, rd_lst, rd_ix, rd_sl, rd_rev, rd_call, rd_sumL, rd_join, rd_cnt, rd_stp, rd_bf, rd_isI, rd_v, R.bind, lift_ok, lift_ex, of_some, asB_ok, asB_ex, asI_ok, asI_ex, asD_ok, asD_ex, fold2_t, fold2_f, fold2_ex, keepIf_t, keepIf_f, ntup_some, calm_o, items_t, items_l, slotR, sl_v, b_add, b_sub, c_eq, c_ne, c_lt, c_le, c_gt, c_ge, f_lenL, f_lenT, f_tupL, f_tupT, f_lstL, f_lstT, f_int, f_abs, i_int, i_intB, i_intN, i_intT, i_intL, i_intS, i_bool, i_boolB, i_tup, i_tupN, i_tupL, i_tupI, x_tup, x_lst, l_tup, l_lst, r_lst, r_tup, q_lst, q_tup, z_lst, z_tup, t_one, w_nil, w_cons, sget_0, sget_S, List.set_cons_zero, List.set_cons_succ, Option.map_some, Option.bind_some, eqD_int, Bool.not_true, Bool.not_false, sz_0, szT_0, sz_1, szT_1, sz_2, szT_2, sz_3, szT_3, sz_4, szT_4, sz_5, szT_5, sz_6, szT_6, t_many2, t_many3, t_many4, t_lst2, t_lst3, h3, h10, h6, hx, hy]
theorem rng_36 {env : Eng.Env} {mi : Int} {ds : List D} (h3 : sget env 3 = .val (T rw)) (h6 : sget env 6 = .val (.int mi)) (hr : rangeD mi (rw.length : Int) = some ds) : evI (C n) (.rng2 (.v 6) (.bf .len (.cons (.v 3) .nil))) env st = .ok ds st := by
  generalize hk : (rw.length : Int) = k at hr
  simp only [evSs, evS, evE, evEs, evBs, evO, evT, evI, rd_k, rd_g, rd_bin, rd_neg, rd_not, rd_and, rd_or, rd_cmp, rd_chain, rd_ite, rd_tup, rd_lst, rd_ix, rd_sl, rd_rev, rd_call, rd_sumL, rd_join, rd_cnt, rd_stp, rd_bf, rd_isI, rd_v, R.bind, lift_ok, lift_ex, of_some, asB_ok, asB_ex, asI_ok, asI_ex, asD_ok, asD_ex, fold2_t, fold2_f, fold2_ex, keepIf_t, keepIf_f, ntup_some, calm_o, items_t, items_l, slotR, sl_v, b_add, b_sub, c_eq, c_ne, c_lt, c_le, c_gt, c_ge, f_lenL, f_lenT, f_tupL, f_tupT, f_lstL, f_lstT, f_int, f_abs, i_int, i_intB, i_intN, i_intT, i_intL, i_intS, i_bool, i_boolB, i_tup, i_tupN, i_tupL, i_tupI, x_tup, x_lst, l_tup, l_lst, r_lst, r_tup, q_lst, q_tup, z_lst, z_tup, t_one, w_nil, w_cons, sget_0, sget_S, List.set_cons_zero, List.set_cons_succ, Option.map_some, Option.bind_some, eqD_int, Bool.not_true, Bool.not_false, sz_0, szT_0, sz_1, szT_1, sz_2, szT_2, sz_3, szT_3, sz_4, szT_4, sz_5, szT_5, sz_6, szT_6, t_many2, t_many3, t_many4, t_lst2, t_lst3, h3, h6, List.length_map, hk, hr]
theorem fit_x {m : Nat} (h1 : 1 ≤ m) (hm : m ≤ 1000) (hl : rw.length ≤ 1000) : evE (C n) x_law_2 (En ns s2 rw s4 s5 (.val (natD m)) s7 s8 s9 s10 s11 s12 s13 s14 s15 s16 s17 s18 s19 s20) st = .ok (.lst (((List.range (rw.length - m)).map fun i => decide (gg rw (m + i) = gg rw i)).map .bl)) st := by
  obtain ⟨f1, f2⟩ := per_facts (rw := rw) hm hl
  rw [List.map_map]
  refine lc_bind' (rng_36 rfl rfl f1) ?_ (by rw [List.length_map, List.length_range]; omega)
  exact turns_map (fun i => D.int ((m + i : Nat) : Int)) (fun i => .bl (decide (gg rw (m + i) = gg rw i))) fun i hi => by
    obtain ⟨g1, g2⟩ := f2 i (List.mem_range.mp hi)
    exact el_1 (el_per rfl rfl rfl g1 g2)
theorem all_bl (bs : List Bool) : bfop .all [.lst (bs.map .bl)] = some (.bl (bs.all id)) := f_all id bs
theorem rng_1len {env : Eng.Env} {ds : List D} (h3 : sget env 3 = .val (T rw)) (hr : rangeD 1 ((rw.length : Int) + 1) = some ds) : evI (C n) (.rng2 (.k (.int (1))) (.bin .add (.bf .len (.cons (.v 3) .nil)) (.k (.int (1))))) env st = .ok ds st := by
  generalize hk : (rw.length : Int) = k at hr
  simp only [evSs, evS, evE, evEs, evBs, evO, evT, evI, rd_k, rd_g, rd_bin, rd_neg, rd_not, rd_and, rd_or, rd_cmp, rd_chain, rd_ite, rd_tup, rd_lst, rd_ix, rd_sl, rd_rev, rd_call, rd_sumL, rd_join, rd_cnt, rd_stp, rd_bf, rd_isI, rd_v, R.bind, lift_ok, lift_ex, of_some, asB_ok, asB_ex, asI_ok, asI_ex, asD_ok, asD_ex, fold2_t, fold2_f, fold2_ex, keepIf_t, keepIf_f, ntup_some, calm_o, items_t, items_l, slotR, sl_v, b_add, b_sub, c_eq, c_ne, c_lt, c_le, c_gt, c_ge, f_lenL, f_lenT, f_tupL, f_tupT, f_lstL, f_lstT, f_int, f_abs, i_int, i_intB, i_intN, i_intT, i_intL, i_intS, i_bool, i_boolB, i_tup, i_tupN, i_tupL, i_tupI, x_tup, x_lst, l_tup, l_lst, r_lst, r_tup, q_lst, q_tup, z_lst, z_tup, t_one, w_nil, w_cons, sget_0, sget_S, List.set_cons_zero, List.set_cons_succ, Option.map_some, Option.bind_some, eqD_int, Bool.not_true, Bool.not_false, sz_0, szT_0, sz_1, szT_1, sz_2, szT_2, sz_3, szT_3, sz_4, szT_4, sz_5, szT_5, sz_6, szT_6, t_many2, t_many3, t_many4, t_lst2, t_lst3, h3, List.length_map, hk, hr]
theorem fits_x (h : Row rw) : evE (C n) x_law_3 (En ns s2 rw s4 s5 s6 s7 s8 s9 s10 s11 s12 s13 s14 s15 s16 s17 s18 s19 s20) st = .ok (.lst ((fitL rw).map natD)) st := by
  have hl := h.l
  have er : ((List.range rw.length).map fun i => natD (1 + i)) = ((List.range rw.length).map (· + 1)).map natD := by
    rw [List.map_map]
    congr 1
    funext i
    show natD (1 + i) = natD (i + 1)
    rw [Nat.add_comm]
  have hr := range_1p (k := rw.length) (by omega)
  rw [er] at hr
  refine lc_bind' (rng_1len rfl hr) ?_ (by rw [List.length_map]; exact Nat.le_trans (List.length_filter_le _ _) (by rw [List.length_map, List.length_range]; omega))
  exact turns_filter natD (perP rw) natD fun m hm => by
    have hm1 : 1 ≤ m ∧ m ≤ rw.length := by
      obtain ⟨i, hi, e⟩ := List.mem_map.mp hm
      have hi := List.mem_range.mp hi
      have e : i + 1 = m := e
      omega
    have b := fit_x (n := n) (ns := ns) (s2 := s2) (s4 := s4) (s5 := s5) (s7 := s7) (s8 := s8) (s9 := s9) (s10 := s10) (s11 := s11) (s12 := s12) (s13 := s13) (s14 := s14) (s15 := s15) (s16 := s16) (s17 := s17) (s18 := s18) (s19 := s19) (s20 := s20) (st := st) (rw := rw) (m := m) (by omega) (by omega) (by omega)
    have t : evE (C n) (.bf .all (.cons x_law_2 .nil)) (En ns s2 rw s4 s5 (.val (natD m)) s7 s8 s9 s10 s11 s12 s13 s14 s15 s16 s17 s18 s19 s20) st = .ok (.bl (perP rw m)) st := by
      have := bf_1 (call := C n) (a := x_law_2) (b := .all) ((x_law_2_rd _ _ _).trans b) (all_bl _)
      rw [List.all_map] at this
      exact this
    exact el_if (env := (En ns s2 rw s4 s5 .un s7 s8 s9 s10 s11 s12 s13 s14 s15 s16 s17 s18 s19 s20)) (i := 6) t (v_ok rfl)
theorem asg_ok {call : Nat → List D → Sto → R D} {L i : Nat} {e : E} {d : D} {env : Eng.Env} {s s1 : Sto} (h : evE call e env s = .ok d s1) : evS call L (.asg false i e) env s = .ok (.nx, env.set i (.val d)) s1 := by
  show lift (slotR false e (evE call e env s)) env _ = _
  rw [h]
  rfl
theorem law_4 (h : Row rw) : evS (C (n + 20)) fuelL s_law_4 (En ns s2 rw s4 s5 s6 s7 s8 s9 s10 s11 s12 s13 s14 s15 s16 s17 s18 s19 s20) st = .ok (.nx, En ns s2 rw (.val (.lst ((fitL rw).map natD))) s5 s6 s7 s8 s9 s10 s11 s12 s13 s14 s15 s16 s17 s18 s19 s20) st := asg_ok (fits_x h)
theorem l5_ev {w : List D} {x : Int} (e : C (n + 20) 6 [T rw] st = .ok (.int x) st) (hw : atI w 0 = some (.int x)) : evS (C (n + 20)) fuelL s_law_5 (En ns s2 rw (.val (.lst w)) s5 s6 s7 s8 s9 s10 s11 s12 s13 s14 s15 s16 s17 s18 s19 s20) st = .ok (.nx, En ns s2 rw (.val (.lst w)) s5 s6 s7 s8 s9 s10 s11 s12 s13 s14 s15 s16 s17 s18 s19 s20) st := by
  simp only [s_law_5, evSs, evS, evE, evEs, evBs, evO, evT, evI, rd_k, rd_g, rd_bin, rd_neg, rd_not, rd_and, rd_or, rd_cmp, rd_chain, rd_ite, rd_tup, rd_lst, rd_ix, rd_sl, rd_rev, rd_call, rd_sumL, rd_join, rd_cnt, rd_stp, rd_bf, rd_isI, rd_v, R.bind, lift_ok, lift_ex, of_some, asB_ok, asB_ex, asI_ok, asI_ex, asD_ok, asD_ex, fold2_t, fold2_f, fold2_ex, keepIf_t, keepIf_f, ntup_some, calm_o, items_t, items_l, slotR, sl_v, b_add, b_sub, c_eq, c_ne, c_lt, c_le, c_gt, c_ge, f_lenL, f_lenT, f_tupL, f_tupT, f_lstL, f_lstT, f_int, f_abs, i_int, i_intB, i_intN, i_intT, i_intL, i_intS, i_bool, i_boolB, i_tup, i_tupN, i_tupL, i_tupI, x_tup, x_lst, l_tup, l_lst, r_lst, r_tup, q_lst, q_tup, z_lst, z_tup, t_one, w_nil, w_cons, sget_0, sget_S, List.set_cons_zero, List.set_cons_succ, Option.map_some, Option.bind_some, eqD_int, Bool.not_true, Bool.not_false, sz_0, szT_0, sz_1, szT_1, sz_2, szT_2, sz_3, szT_3, sz_4, szT_4, sz_5, szT_5, sz_6, szT_6, t_many2, t_many3, t_many4, t_lst2, t_lst3, e, hw, eq_self, decide_true]
theorem law_5 (h : Row rw) : evS (C (n + 20)) fuelL s_law_5 (En ns s2 rw (.val (.lst ((fitL rw).map natD))) s5 s6 s7 s8 s9 s10 s11 s12 s13 s14 s15 s16 s17 s18 s19 s20) st = .ok (.nx, En ns s2 rw (.val (.lst ((fitL rw).map natD))) s5 s6 s7 s8 s9 s10 s11 s12 s13 s14 s15 s16 s17 s18 s19 s20) st := by
  obtain ⟨b, hb, e⟩ := least_ok (n := n + 15) (st := st) h
  obtain ⟨r, er⟩ := fit_first hb
  have hw : atI ((fitL rw).map natD) 0 = some (.int ((rw.length : Int) - (b : Int))) := by
    have hlt := hb.1.1
    rw [er, show (rw.length : Int) - (b : Int) = ((rw.length - b : Nat) : Int) by omega]
    exact at_nat _ 0 (by rw [List.length_map, List.length_cons]; omega)
  exact l5_ev e hw
theorem law_6 (h : Row rw) (hj : 0 ≤ j) : ∃ k : Nat, 1 ≤ k ∧ k ≤ rw.length ∧ evS (C (n + 20)) fuelL s_law_6 (En ns s2 rw s4 s5 s6 s7 s8 s9 s10 s11 s12 s13 s14 s15 s16 s17 s18 s19 s20) (Dw cs j) = .ok (.nx, En ns s2 rw s4 (.val (natD k)) s6 s7 s8 s9 s10 s11 s12 s13 s14 s15 s16 s17 s18 s19 s20) (Dw cs (j + 1)) := by
  have hp := h.p
  obtain ⟨r, r1, r2, e⟩ := next_ok (n := n + 17) (cs := cs) (j := j) (b := (rw.length : Int)) hj (by omega)
  refine ⟨(1 + r).toNat, by omega, by omega, ?_⟩
  have en : natD (1 + r).toNat = .int (1 + r) := by
    show D.int (((1 + r).toNat : Nat) : Int) = _
    rw [Int.toNat_of_nonneg (by omega)]
  rw [en]
  generalize hk : (rw.length : Int) = k at *
  simp only [s_law_6, evSs, evS, evE, evEs, evBs, evO, evT, evI, rd_k, rd_g, rd_bin, rd_neg, rd_not, rd_and, rd_or, rd_cmp, rd_chain, rd_ite, rd_tup, rd_lst, rd_ix, rd_sl, rd_rev, rd_call, rd_sumL, rd_join, rd_cnt, rd_stp, rd_bf, rd_isI, rd_v, R.bind, lift_ok, lift_ex, of_some, asB_ok, asB_ex, asI_ok, asI_ex, asD_ok, asD_ex, fold2_t, fold2_f, fold2_ex, keepIf_t, keepIf_f, ntup_some, calm_o, items_t, items_l, slotR, sl_v, b_add, b_sub, c_eq, c_ne, c_lt, c_le, c_gt, c_ge, f_lenL, f_lenT, f_tupL, f_tupT, f_lstL, f_lstT, f_int, f_abs, i_int, i_intB, i_intN, i_intT, i_intL, i_intS, i_bool, i_boolB, i_tup, i_tupN, i_tupL, i_tupI, x_tup, x_lst, l_tup, l_lst, r_lst, r_tup, q_lst, q_tup, z_lst, z_tup, t_one, w_nil, w_cons, sget_0, sget_S, List.set_cons_zero, List.set_cons_succ, Option.map_some, Option.bind_some, eqD_int, Bool.not_true, Bool.not_false, sz_0, szT_0, sz_1, szT_1, sz_2, szT_2, sz_3, szT_3, sz_4, szT_4, sz_5, szT_5, sz_6, szT_6, t_many2, t_many3, t_many4, t_lst2, t_lst3, List.length_map, hk, e]
theorem el_bp {env : Eng.Env} {mi x : Int} (h3 : sget env 3 = .val (T rw)) (h6 : sget env 6 = .val (.int mi)) (e : C n 21 [T rw, .int mi] st = .ok (.int x) st) : evE (C n) (.tup (.cons (.call 21 (.cons (.v 3) (.cons (.v 6) .nil))) (.cons (.v 6) .nil))) env st = .ok (Eng.pairD (x, mi)) st := by
  simp only [evSs, evS, evE, evEs, evBs, evO, evT, evI, rd_k, rd_g, rd_bin, rd_neg, rd_not, rd_and, rd_or, rd_cmp, rd_chain, rd_ite, rd_tup, rd_lst, rd_ix, rd_sl, rd_rev, rd_call, rd_sumL, rd_join, rd_cnt, rd_stp, rd_bf, rd_isI, rd_v, R.bind, lift_ok, lift_ex, of_some, asB_ok, asB_ex, asI_ok, asI_ex, asD_ok, asD_ex, fold2_t, fold2_f, fold2_ex, keepIf_t, keepIf_f, ntup_some, calm_o, items_t, items_l, slotR, sl_v, b_add, b_sub, c_eq, c_ne, c_lt, c_le, c_gt, c_ge, f_lenL, f_lenT, f_tupL, f_tupT, f_lstL, f_lstT, f_int, f_abs, i_int, i_intB, i_intN, i_intT, i_intL, i_intS, i_bool, i_boolB, i_tup, i_tupN, i_tupL, i_tupI, x_tup, x_lst, l_tup, l_lst, r_lst, r_tup, q_lst, q_tup, z_lst, z_tup, t_one, w_nil, w_cons, sget_0, sget_S, List.set_cons_zero, List.set_cons_succ, Option.map_some, Option.bind_some, eqD_int, Bool.not_true, Bool.not_false, sz_0, szT_0, sz_1, szT_1, sz_2, szT_2, sz_3, szT_3, sz_4, szT_4, sz_5, szT_5, sz_6, szT_6, t_many2, t_many3, t_many4, t_lst2, t_lst3, h3, h6, e]
  rfl
theorem rng_1s {env : Eng.Env} {ki : Int} {ds : List D} (h5 : sget env 5 = .val (.int ki)) (hr : rangeD 1 (ki + 1) = some ds) : evI (C n) (.rng2 (.k (.int (1))) (.bin .add (.v 5) (.k (.int (1))))) env st = .ok ds st := by
  simp only [evSs, evS, evE, evEs, evBs, evO, evT, evI, rd_k, rd_g, rd_bin, rd_neg, rd_not, rd_and, rd_or, rd_cmp, rd_chain, rd_ite, rd_tup, rd_lst, rd_ix, rd_sl, rd_rev, rd_call, rd_sumL, rd_join, rd_cnt, rd_stp, rd_bf, rd_isI, rd_v, R.bind, lift_ok, lift_ex, of_some, asB_ok, asB_ex, asI_ok, asI_ex, asD_ok, asD_ex, fold2_t, fold2_f, fold2_ex, keepIf_t, keepIf_f, ntup_some, calm_o, items_t, items_l, slotR, sl_v, b_add, b_sub, c_eq, c_ne, c_lt, c_le, c_gt, c_ge, f_lenL, f_lenT, f_tupL, f_tupT, f_lstL, f_lstT, f_int, f_abs, i_int, i_intB, i_intN, i_intT, i_intL, i_intS, i_bool, i_boolB, i_tup, i_tupN, i_tupL, i_tupI, x_tup, x_lst, l_tup, l_lst, r_lst, r_tup, q_lst, q_tup, z_lst, z_tup, t_one, w_nil, w_cons, sget_0, sget_S, List.set_cons_zero, List.set_cons_succ, Option.map_some, Option.bind_some, eqD_int, Bool.not_true, Bool.not_false, sz_0, szT_0, sz_1, szT_1, sz_2, szT_2, sz_3, szT_3, sz_4, szT_4, sz_5, szT_5, sz_6, szT_6, t_many2, t_many3, t_many4, t_lst2, t_lst3, h5, hr]
theorem bp_law {k : Nat} (h : Row rw) (hk : k ≤ rw.length) : evE (C (n + 1)) x_law_4 (En ns s2 rw s4 (.val (natD k)) s6 s7 s8 s9 s10 s11 s12 s13 s14 s15 s16 s17 s18 s19 s20) st = .ok (.lst ((bpL rw k).map Eng.pairD)) st := by
  have hl := h.l
  have em : (bpL rw k).map Eng.pairD = (List.range k).map fun i => Eng.pairD (pm rw (1 + i), ((1 + i : Nat) : Int)) := by
    unfold bpL
    rw [List.map_map] <;> rfl
  rw [em]
  refine lc_bind' (rng_1s rfl (range_1p (by omega))) ?_ (by rw [List.length_map, List.length_range]; omega)
  exact turns_map (fun i => natD (1 + i)) (fun i => Eng.pairD (pm rw (1 + i), ((1 + i : Nat) : Int))) fun i hi => by
    have hi := List.mem_range.mp hi
    exact el_1 (el_bp rfl rfl (law_misses_ok h (by omega) (by omega)))
theorem l7_ev {k : Int} {rows : List Pt} {p : Pt} (e : C (n + 20) 10 [T rw, .int k] st = .ok (Eng.pairD p) st) (b : evE (C (n + 20)) x_law_4 (En ns s2 rw s4 (.val (.int k)) s6 s7 s8 s9 s10 s11 s12 s13 s14 s15 s16 s17 s18 s19 s20) st = .ok (.lst (rows.map Eng.pairD)) st) (hm : minP rows = some p) : evS (C (n + 20)) fuelL s_law_7 (En ns s2 rw s4 (.val (.int k)) s6 s7 s8 s9 s10 s11 s12 s13 s14 s15 s16 s17 s18 s19 s20) st = .ok (.nx, En ns s2 rw s4 (.val (.int k)) s6 s7 s8 s9 s10 s11 s12 s13 s14 s15 s16 s17 s18 s19 s20) st := by
  have f := f_minP hm
  have q := eqD_pD p
  simp only [s_law_7, evSs, evS, evE, evEs, evBs, evO, evT, evI, rd_k, rd_g, rd_bin, rd_neg, rd_not, rd_and, rd_or, rd_cmp, rd_chain, rd_ite, rd_tup, rd_lst, rd_ix, rd_sl, rd_rev, rd_call, rd_sumL, rd_join, rd_cnt, rd_stp, rd_bf, rd_isI, rd_v, R.bind, lift_ok, lift_ex, of_some, asB_ok, asB_ex, asI_ok, asI_ex, asD_ok, asD_ex, fold2_t, fold2_f, fold2_ex, keepIf_t, keepIf_f, ntup_some, calm_o, items_t, items_l, slotR, sl_v, b_add, b_sub, c_eq, c_ne, c_lt, c_le, c_gt, c_ge, f_lenL, f_lenT, f_tupL, f_tupT, f_lstL, f_lstT, f_int, f_abs, i_int, i_intB, i_intN, i_intT, i_intL, i_intS, i_bool, i_boolB, i_tup, i_tupN, i_tupL, i_tupI, x_tup, x_lst, l_tup, l_lst, r_lst, r_tup, q_lst, q_tup, z_lst, z_tup, t_one, w_nil, w_cons, sget_0, sget_S, List.set_cons_zero, List.set_cons_succ, Option.map_some, Option.bind_some, eqD_int, Bool.not_true, Bool.not_false, sz_0, szT_0, sz_1, szT_1, sz_2, szT_2, sz_3, szT_3, sz_4, szT_4, sz_5, szT_5, sz_6, szT_6, t_many2, t_many3, t_many4, t_lst2, t_lst3, e, b, x_law_4_rd, f, q]
theorem law_7 {k : Nat} (h : Row rw) (h1 : 1 ≤ k) (hk : k ≤ rw.length) : evS (C (n + 20)) fuelL s_law_7 (En ns s2 rw s4 (.val (natD k)) s6 s7 s8 s9 s10 s11 s12 s13 s14 s15 s16 s17 s18 s19 s20) st = .ok (.nx, En ns s2 rw s4 (.val (natD k)) s6 s7 s8 s9 s10 s11 s12 s13 s14 s15 s16 s17 s18 s19 s20) st := by
  obtain ⟨p, hp⟩ := minP_ne (rows := bpL rw k) (by
    unfold bpL
    rw [Ne, List.map_eq_nil_iff, List.range_eq_nil]
    omega)
  exact l7_ev (best_ok h h1 hk hp) (bp_law (n := n + 19) h hk) hp
end
section
variable {n : Nat} {ns cs rw : List Int} {s2 s4 s5 s6 s7 s8 s9 s10 s11 s12 s13 s14 s15 s16 s17 s18 s19 s20 : Sl} {st : Sto} {j : Int}
theorem rng_i {call : Nat → List D → Sto → R D} {i : Nat} {mi : Int} {ds : List D} {env : Eng.Env} {s : Sto} (h : sget env i = .val (.int mi)) (hr : rangeD 0 mi = some ds) : evI call (.rng1 (.v i)) env s = .ok ds s := by
  simp only [evSs, evS, evE, evEs, evBs, evO, evT, evI, rd_k, rd_g, rd_bin, rd_neg, rd_not, rd_and, rd_or, rd_cmp, rd_chain, rd_ite, rd_tup, rd_lst, rd_ix, rd_sl, rd_rev, rd_call, rd_sumL, rd_join, rd_cnt, rd_stp, rd_bf, rd_isI, rd_v, R.bind, lift_ok, lift_ex, of_some, asB_ok, asB_ex, asI_ok, asI_ex, asD_ok, asD_ex, fold2_t, fold2_f, fold2_ex, keepIf_t, keepIf_f, ntup_some, calm_o, items_t, items_l, slotR, sl_v, b_add, b_sub, c_eq, c_ne, c_lt, c_le, c_gt, c_ge, f_lenL, f_lenT, f_tupL, f_tupT, f_lstL, f_lstT, f_int, f_abs, i_int, i_intB, i_intN, i_intT, i_intL, i_intS, i_bool, i_boolB, i_tup, i_tupN, i_tupL, i_tupI, x_tup, x_lst, l_tup, l_lst, r_lst, r_tup, q_lst, q_tup, z_lst, z_tup, t_one, w_nil, w_cons, sget_0, sget_S, List.set_cons_zero, List.set_cons_succ, Option.map_some, Option.bind_some, eqD_int, Bool.not_true, Bool.not_false, sz_0, szT_0, sz_1, szT_1, sz_2, szT_2, sz_3, szT_3, sz_4, szT_4, sz_5, szT_5, sz_6, szT_6, t_many2, t_many3, t_many4, t_lst2, t_lst3, h, hr]
theorem ix_ok {call : Nat → List D → Sto → R D} {i k : Nat} {a b r : D} {env : Eng.Env} {s : Sto} (h1 : sget env i = .val a) (h2 : sget env k = .val b) (h : ixS a b s = .ok r s) : evE call (.ix (.v i) (.v k)) env s = .ok r s := by
  simp only [evSs, evS, evE, evEs, evBs, evO, evT, evI, rd_k, rd_g, rd_bin, rd_neg, rd_not, rd_and, rd_or, rd_cmp, rd_chain, rd_ite, rd_tup, rd_lst, rd_ix, rd_sl, rd_rev, rd_call, rd_sumL, rd_join, rd_cnt, rd_stp, rd_bf, rd_isI, rd_v, R.bind, lift_ok, lift_ex, of_some, asB_ok, asB_ex, asI_ok, asI_ex, asD_ok, asD_ex, fold2_t, fold2_f, fold2_ex, keepIf_t, keepIf_f, ntup_some, calm_o, items_t, items_l, slotR, sl_v, b_add, b_sub, c_eq, c_ne, c_lt, c_le, c_gt, c_ge, f_lenL, f_lenT, f_tupL, f_tupT, f_lstL, f_lstT, f_int, f_abs, i_int, i_intB, i_intN, i_intT, i_intL, i_intS, i_bool, i_boolB, i_tup, i_tupN, i_tupL, i_tupI, x_tup, x_lst, l_tup, l_lst, r_lst, r_tup, q_lst, q_tup, z_lst, z_tup, t_one, w_nil, w_cons, sget_0, sget_S, List.set_cons_zero, List.set_cons_succ, Option.map_some, Option.bind_some, eqD_int, Bool.not_true, Bool.not_false, sz_0, szT_0, sz_1, szT_1, sz_2, szT_2, sz_3, szT_3, sz_4, szT_4, sz_5, szT_5, sz_6, szT_6, t_many2, t_many3, t_many4, t_lst2, t_lst3, h1, h2, h]
theorem rng_3 {call : Nat → List D → Sto → R D} {env : Eng.Env} {pi Ni mi : Int} {ds : List D} {s : Sto} (h22 : sget env 22 = .val (.int pi)) (h3 : sget env 3 = .val (T rw)) (h6 : sget env 6 = .val (.int mi)) (hN : (rw.length : Int) = Ni) (hr : range3A [.int pi, .int Ni, .int mi] = some ds) : evI call (.rng3 (.cons (.v 22) (.cons (.bf .len (.cons (.v 3) .nil)) (.cons (.v 6) .nil)))) env s = .ok ds s := by
  simp only [evSs, evS, evE, evEs, evBs, evO, evT, evI, rd_k, rd_g, rd_bin, rd_neg, rd_not, rd_and, rd_or, rd_cmp, rd_chain, rd_ite, rd_tup, rd_lst, rd_ix, rd_sl, rd_rev, rd_call, rd_sumL, rd_join, rd_cnt, rd_stp, rd_bf, rd_isI, rd_v, R.bind, lift_ok, lift_ex, of_some, asB_ok, asB_ex, asI_ok, asI_ex, asD_ok, asD_ex, fold2_t, fold2_f, fold2_ex, keepIf_t, keepIf_f, ntup_some, calm_o, items_t, items_l, slotR, sl_v, b_add, b_sub, c_eq, c_ne, c_lt, c_le, c_gt, c_ge, f_lenL, f_lenT, f_tupL, f_tupT, f_lstL, f_lstT, f_int, f_abs, i_int, i_intB, i_intN, i_intT, i_intL, i_intS, i_bool, i_boolB, i_tup, i_tupN, i_tupL, i_tupI, x_tup, x_lst, l_tup, l_lst, r_lst, r_tup, q_lst, q_tup, z_lst, z_tup, t_one, w_nil, w_cons, sget_0, sget_S, List.set_cons_zero, List.set_cons_succ, Option.map_some, Option.bind_some, eqD_int, Bool.not_true, Bool.not_false, sz_0, szT_0, sz_1, szT_1, sz_2, szT_2, sz_3, szT_3, sz_4, szT_4, sz_5, szT_5, sz_6, szT_6, t_many2, t_many3, t_many4, t_lst2, t_lst3, h22, h3, h6, List.length_map, hN, hr]
def phD (rw : List Int) (m p : Nat) : D := .lst ((phs rw m p).map .int)
abbrev Ep (ns : List Int) (s2 : Sl) (rw : List Int) (s4 s5 s6 s7 s8 s9 s10 s11 s12 s13 s14 s15 s16 s17 s18 s19 s20 s22 : Sl) : Eng.Env := [.val (.scr ns), .val (.ref 0), s2, .val (T rw), s4, s5, s6, s7, s8, s9, s10, s11, s12, s13, s14, s15, s16, s17, s18, s19, s20, .un, s22, .un, .un]
theorem ph_5 {m p : Nat} (h1 : 1 ≤ m) (hm : m ≤ 1000) (hp : p ≤ 1000) (hl : rw.length ≤ 1000) : evE (C n) x_law_5 (Ep ns s2 rw s4 s5 (.val (natD m)) s7 s8 s9 s10 s11 s12 s13 s14 s15 s16 s17 s18 s19 s20 (.val (natD p))) st = .ok (phD rw m p) st := by
  have hc : cntP rw.length p m ≤ rw.length := cnt_le
  unfold phD
  rw [phs_D (by omega)]
  refine lc_bind' (rng_3 rfl rfl rfl rfl (range3_ok (p := p) (N := rw.length) (m := m) h1 hm hp hl)) ?_ (by rw [List.length_map, List.length_range]; omega)
  exact turns_map (fun j => D.int ((p + j * m : Nat) : Int)) (fun j => .int (gg rw (p + j * m))) fun j hj => by
    have h1 := row_at ((in_phase (by omega)).mp (List.mem_range.mp hj))
    refine el_1 (ix_ok rfl rfl ?_)
    show R.of (atI (rw.map D.int) _) st = _
    rw [h1] <;> rfl
theorem p_0 {m : Nat} (h1 : 1 ≤ m) (hm : m ≤ 1000) (hl : rw.length ≤ 1000) : evS (C (n + 20)) fuelL f_law_1_p0 (En ns s2 rw s4 s5 (.val (natD m)) s7 s8 s9 s10 s11 s12 s13 s14 s15 s16 s17 s18 s19 s20) st = .ok (.nx, En ns s2 rw s4 s5 (.val (natD m)) (.val (.lst ((List.range m).map (phD rw m)))) s8 s9 s10 s11 s12 s13 s14 s15 s16 s17 s18 s19 s20) st := by
  have ei : evI (C (n + 20)) (.rng1 (.v 6)) (En ns s2 rw s4 s5 (.val (natD m)) s7 s8 s9 s10 s11 s12 s13 s14 s15 s16 s17 s18 s19 s20) st = .ok ((List.range m).map natD) st := by
    exact rng_i rfl (range_k m (by omega))
  refine asg_ok (lc_bind' (elt := x_law_5) (i := 22) ei ?_ (by rw [List.length_map, List.length_range]; omega))
  exact turns_map natD (phD rw m) fun p hp => by
    have hp := List.mem_range.mp hp
    exact el_1 (ph_5 h1 hm (by omega) hl)
theorem p1_ev {mi x : Int} {b : Bool} {fw : List D} (e1 : C (n + 20) 5 [T rw, .int mi] st = .ok (.bl b) st) (e2 : cmpop .mem (.int mi) (.lst fw) = some b) (e3 : C (n + 20) 8 [T rw, .int mi] st = .ok (.int x) st) (e4 : C (n + 20) 21 [T rw, .int mi] st = .ok (.int x) st) (e5 : decide (x = 0) = b) : evS (C (n + 20)) fuelL f_law_1_p1 (En ns s2 rw (.val (.lst fw)) s5 (.val (.int mi)) s7 s8 s9 s10 s11 s12 s13 s14 s15 s16 s17 s18 s19 s20) st = .ok (.nx, En ns s2 rw (.val (.lst fw)) s5 (.val (.int mi)) s7 s8 s9 s10 s11 s12 s13 s14 s15 s16 s17 s18 s19 s20) st := by
  have b1 : (true == true) = true := rfl
  have b2 : (false == false) = true := rfl
  cases b <;> simp only [f_law_1_p1, evSs, evS, evE, evEs, evBs, evO, evT, evI, rd_k, rd_g, rd_bin, rd_neg, rd_not, rd_and, rd_or, rd_cmp, rd_chain, rd_ite, rd_tup, rd_lst, rd_ix, rd_sl, rd_rev, rd_call, rd_sumL, rd_join, rd_cnt, rd_stp, rd_bf, rd_isI, rd_v, R.bind, lift_ok, lift_ex, of_some, asB_ok, asB_ex, asI_ok, asI_ex, asD_ok, asD_ex, fold2_t, fold2_f, fold2_ex, keepIf_t, keepIf_f, ntup_some, calm_o, items_t, items_l, slotR, sl_v, b_add, b_sub, c_eq, c_ne, c_lt, c_le, c_gt, c_ge, f_lenL, f_lenT, f_tupL, f_tupT, f_lstL, f_lstT, f_int, f_abs, i_int, i_intB, i_intN, i_intT, i_intL, i_intS, i_bool, i_boolB, i_tup, i_tupN, i_tupL, i_tupI, x_tup, x_lst, l_tup, l_lst, r_lst, r_tup, q_lst, q_tup, z_lst, z_tup, t_one, w_nil, w_cons, sget_0, sget_S, List.set_cons_zero, List.set_cons_succ, Option.map_some, Option.bind_some, eqD_int, Bool.not_true, Bool.not_false, sz_0, szT_0, sz_1, szT_1, sz_2, szT_2, sz_3, szT_3, sz_4, szT_4, sz_5, szT_5, sz_6, szT_6, t_many2, t_many3, t_many4, t_lst2, t_lst3, e1, e2, e3, e4, e5, eqD_bl, b1, b2, eq_self, decide_true]
theorem p_1 {m : Nat} (h : Row rw) (h1 : 1 ≤ m) (hm : m ≤ rw.length) : evS (C (n + 20)) fuelL f_law_1_p1 (En ns s2 rw (.val (.lst ((fitL rw).map natD))) s5 (.val (natD m)) s7 s8 s9 s10 s11 s12 s13 s14 s15 s16 s17 s18 s19 s20) st = .ok (.nx, En ns s2 rw (.val (.lst ((fitL rw).map natD))) s5 (.val (natD m)) s7 s8 s9 s10 s11 s12 s13 s14 s15 s16 s17 s18 s19 s20) st := by
  have hl := h.l
  have e2 := c_memN m (fitL rw)
  have hf : decide (m ∈ fitL rw) = perP rw m := by
    cases g : perP rw m with
    | true => exact decide_eq_true (List.mem_filter.mpr ⟨List.mem_map.mpr ⟨m - 1, List.mem_range.mpr (by omega), by show m - 1 + 1 = m; omega⟩, g⟩)
    | false => exact decide_eq_false fun z => by have := (List.mem_filter.mp z).2; rw [g] at this; cases this
  rw [hf] at e2
  have hz : decide (pm rw m = 0) = perP rw m := by
    cases g : perP rw m with
    | true => exact decide_eq_true ((pm_zero (by omega) hm).mpr g)
    | false => exact decide_eq_false fun z => by have := (pm_zero (by omega) hm).mp z; rw [g] at this; cases this
  exact p1_ev (is_period_ok h1 (by omega) (by omega) h.nm) e2 (misses_ok h h1 hm) (law_misses_ok h h1 hm) hz
theorem el_ne {env : Eng.Env} {xs : List Int} {k : Int} {call : Nat → List D → Sto → R D} {s : Sto} (h12 : sget env 12 = .val (.lst (xs.map .int))) (h18 : sget env 18 = .val (.int k)) : evE call (.tup (.cons (.neg (.cnt (.v 12) (.v 18))) (.cons (.v 18) .nil))) env s = .ok (Eng.pairD (-(xs.count k : Int), k)) s := by
  have e := cnt_xs xs k
  generalize ((xs.count k : Nat) : Int) = c at *
  simp only [evSs, evS, evE, evEs, evBs, evO, evT, evI, rd_k, rd_g, rd_bin, rd_neg, rd_not, rd_and, rd_or, rd_cmp, rd_chain, rd_ite, rd_tup, rd_lst, rd_ix, rd_sl, rd_rev, rd_call, rd_sumL, rd_join, rd_cnt, rd_stp, rd_bf, rd_isI, rd_v, R.bind, lift_ok, lift_ex, of_some, asB_ok, asB_ex, asI_ok, asI_ex, asD_ok, asD_ex, fold2_t, fold2_f, fold2_ex, keepIf_t, keepIf_f, ntup_some, calm_o, items_t, items_l, slotR, sl_v, b_add, b_sub, c_eq, c_ne, c_lt, c_le, c_gt, c_ge, f_lenL, f_lenT, f_tupL, f_tupT, f_lstL, f_lstT, f_int, f_abs, i_int, i_intB, i_intN, i_intT, i_intL, i_intS, i_bool, i_boolB, i_tup, i_tupN, i_tupL, i_tupI, x_tup, x_lst, l_tup, l_lst, r_lst, r_tup, q_lst, q_tup, z_lst, z_tup, t_one, w_nil, w_cons, sget_0, sget_S, List.set_cons_zero, List.set_cons_succ, Option.map_some, Option.bind_some, eqD_int, Bool.not_true, Bool.not_false, sz_0, szT_0, sz_1, szT_1, sz_2, szT_2, sz_3, szT_3, sz_4, szT_4, sz_5, szT_5, sz_6, szT_6, t_many2, t_many3, t_many4, t_lst2, t_lst3, h12, h18, e]
  rfl
theorem seq_ok {call : Nat → List D → Sto → R D} {i : Nat} {d : D} {ds : List D} {env : Eng.Env} {s : Sto} (h : sget env i = .val d) (hs : seqD d = some ds) : evI call (.seq (.v i)) env s = .ok ds s := by
  show R.bind (evE call (.v i) env s) _ = _
  rw [v_ok h]
  show R.of (seqD d) s = _
  rw [hs] <;> rfl
theorem ne_7 {xs : List Int} (hl : xs.length ≤ 1000) : evE (C n) x_law_7 (En ns s2 rw s4 s5 s6 s7 s8 s9 s10 s11 (.val (.lst (xs.map .int))) s13 s14 s15 s16 s17 s18 s19 s20) st = .ok (.lst ((neP xs).map Eng.pairD)) st := by
  have em : (neP xs).map Eng.pairD = xs.map fun x => Eng.pairD (-(xs.count x : Int), x) := by
    unfold neP
    rw [List.map_map] <;> rfl
  rw [em]
  refine lc_bind' (seq_ok rfl rfl) ?_ (by rw [List.length_map]; omega)
  exact turns_map D.int (fun x => Eng.pairD (-(xs.count x : Int), x)) fun k hk => el_1 (el_ne rfl rfl)
theorem ix_1 {call : Nat → List D → Sto → R D} {a : E} {p : Pt} {env : Eng.Env} {s : Sto} (h : rdB a env s (evE call a env s) = .ok (Eng.pairD p) s) : evE call (.ix a (.k (.int 1))) env s = .ok (.int p.2) s := by
  show (rdB a env s (evE call a env s)).bind _ = _
  rw [h]
  rfl
theorem ne_8 {m : Nat} (h1 : 1 ≤ m) (hm : m ≤ rw.length) (hl : rw.length ≤ 1000) : evE (C n) x_law_8 (En ns s2 rw s4 s5 s6 (.val (.lst ((List.range m).map (phD rw m)))) s8 s9 s10 s11 s12 s13 s14 s15 s16 s17 s18 s19 s20) st = .ok (.lst (((List.range m).map fun p => nrst (phs rw m p)).map .int)) st := by
  rw [List.map_map]
  refine lc_bind' (seq_ok rfl rfl) ?_ (by rw [List.length_map, List.length_range]; omega)
  exact turns_map (phD rw m) (fun p => .int (nrst (phs rw m p))) fun p hp => by
    have hp := List.mem_range.mp hp
    obtain ⟨q, q1, q2⟩ := nrst_some (phs_ne (rw := rw) (m := m) (p := p) (by omega) (by omega))
    rw [q2]
    have b := ne_7 (n := n) (ns := ns) (rw := rw) (st := st) (s2 := s2) (s4 := s4) (s5 := s5) (s6 := s6) (s7 := .val (.lst ((List.range m).map (phD rw m)))) (s8 := s8) (s9 := s9) (s10 := s10) (s11 := s11) (s13 := s13) (s14 := s14) (s15 := s15) (s16 := s16) (s17 := s17) (s18 := s18) (s19 := s19) (s20 := s20) (xs := phs rw m p) (by have := phs_le rw m p; omega)
    exact el_1 (ix_1 (bf_1 (call := C n) (a := x_law_7) (b := .min) ((x_law_7_rd _ _ _).trans b) (f_minP q1)))
theorem p2_ev {mi : Int} {L : List Int} (e : C (n + 20) 9 [T rw, .int mi] st = .ok (T L) st) (b : evE (C (n + 20)) x_law_8 (En ns s2 rw s4 s5 (.val (.int mi)) s7 s8 s9 s10 s11 s12 s13 s14 s15 s16 s17 s18 s19 s20) st = .ok (.lst (L.map .int)) st) : evS (C (n + 20)) fuelL f_law_1_p2 (En ns s2 rw s4 s5 (.val (.int mi)) s7 s8 s9 s10 s11 s12 s13 s14 s15 s16 s17 s18 s19 s20) st = .ok (.nx, En ns s2 rw s4 s5 (.val (.int mi)) s7 s8 s9 s10 s11 s12 s13 s14 s15 s16 s17 s18 s19 s20) st := by
  have q := eqD_ints L L
  rw [decide_eq_true rfl] at q
  simp only [f_law_1_p2, evSs, evS, evE, evEs, evBs, evO, evT, evI, rd_k, rd_g, rd_bin, rd_neg, rd_not, rd_and, rd_or, rd_cmp, rd_chain, rd_ite, rd_tup, rd_lst, rd_ix, rd_sl, rd_rev, rd_call, rd_sumL, rd_join, rd_cnt, rd_stp, rd_bf, rd_isI, rd_v, R.bind, lift_ok, lift_ex, of_some, asB_ok, asB_ex, asI_ok, asI_ex, asD_ok, asD_ex, fold2_t, fold2_f, fold2_ex, keepIf_t, keepIf_f, ntup_some, calm_o, items_t, items_l, slotR, sl_v, b_add, b_sub, c_eq, c_ne, c_lt, c_le, c_gt, c_ge, f_lenL, f_lenT, f_tupL, f_tupT, f_lstL, f_lstT, f_int, f_abs, i_int, i_intB, i_intN, i_intT, i_intL, i_intS, i_bool, i_boolB, i_tup, i_tupN, i_tupL, i_tupI, x_tup, x_lst, l_tup, l_lst, r_lst, r_tup, q_lst, q_tup, z_lst, z_tup, t_one, w_nil, w_cons, sget_0, sget_S, List.set_cons_zero, List.set_cons_succ, Option.map_some, Option.bind_some, eqD_int, Bool.not_true, Bool.not_false, sz_0, szT_0, sz_1, szT_1, sz_2, szT_2, sz_3, szT_3, sz_4, szT_4, sz_5, szT_5, sz_6, szT_6, t_many2, t_many3, t_many4, t_lst2, t_lst3, e, b, x_law_8_rd, q]
theorem el_me {env : Eng.Env} {xs : List Int} {r : D} (h12 : sget env 12 = .val (.lst (xs.map .int))) (e : C n 3 [.int xs.sum, .int (xs.length : Int)] st = .ok r st) : evE (C n) (.call 3 (.cons (.bf .sum (.cons (.v 12) .nil)) (.cons (.bf .len (.cons (.v 12) .nil)) .nil))) env st = .ok r st := by
  have r12 : rdB (.v 12) env st (evE (C n) (.v 12) env st) = .ok (.lst (xs.map .int)) st := by
    rw [rd_v, h12]
  have f1 : bfop .sum [.lst (xs.map .int)] = some (.int xs.sum) := by
    have := f_sumL (fun x : Int => x) xs
    rw [List.map_id'] at this
    exact this
  exact call_2 (bf_1 r12 f1) (bf_1 r12 (by rw [f_lenL, List.length_map])) e
theorem p_3 {m : Nat} (h1 : 1 ≤ m) (hm : m ≤ rw.length) (hl : rw.length ≤ 1000) : evS (C (n + 20)) fuelL f_law_1_p3 (En ns s2 rw s4 s5 s6 (.val (.lst ((List.range m).map (phD rw m)))) s8 s9 s10 s11 s12 s13 s14 s15 s16 s17 s18 s19 s20) st = .ok (.nx, En ns s2 rw s4 s5 s6 (.val (.lst ((List.range m).map (phD rw m)))) (.val (.lst ((mnL rw m).map Eng.pairD))) s9 s10 s11 s12 s13 s14 s15 s16 s17 s18 s19 s20) st := by
  have em : (mnL rw m).map Eng.pairD = (List.range m).map fun p => Eng.pairD (meanP (phs rw m p)) := by
    unfold mnL
    rw [List.map_map] <;> rfl
  rw [em]
  refine asg_ok (lc_bind' (seq_ok rfl rfl) ?_ (by rw [List.length_map, List.length_range]; omega))
  exact turns_map (phD rw m) (fun p => Eng.pairD (meanP (phs rw m p))) fun p hp => by
    have hp := List.mem_range.mp hp
    have hne := List.length_pos_iff.mpr (phs_ne (rw := rw) (m := m) (p := p) (by omega) (by omega))
    have hle := phs_le rw m p
    exact el_1 (el_me (xs := phs rw m p) rfl (lean_ok (by omega) (by omega)))
theorem p_4 : evS (C (n + 20)) fuelL f_law_1_p4 (En ns s2 rw s4 s5 s6 s7 s8 s9 s10 s11 s12 s13 s14 s15 s16 s17 s18 s19 s20) st = .ok (.nx, En ns s2 rw s4 s5 s6 s7 s8 (.own (([] : List Pt).map Eng.pairD)) s10 s11 s12 s13 s14 s15 s16 s17 s18 s19 s20) st := by
  simp only [f_law_1_p4, evSs, evS, evE, evEs, evBs, evO, evT, evI, rd_k, rd_g, rd_bin, rd_neg, rd_not, rd_and, rd_or, rd_cmp, rd_chain, rd_ite, rd_tup, rd_lst, rd_ix, rd_sl, rd_rev, rd_call, rd_sumL, rd_join, rd_cnt, rd_stp, rd_bf, rd_isI, rd_v, R.bind, lift_ok, lift_ex, of_some, asB_ok, asB_ex, asI_ok, asI_ex, asD_ok, asD_ex, fold2_t, fold2_f, fold2_ex, keepIf_t, keepIf_f, ntup_some, calm_o, items_t, items_l, slotR, sl_v, b_add, b_sub, c_eq, c_ne, c_lt, c_le, c_gt, c_ge, f_lenL, f_lenT, f_tupL, f_tupT, f_lstL, f_lstT, f_int, f_abs, i_int, i_intB, i_intN, i_intT, i_intL, i_intS, i_bool, i_boolB, i_tup, i_tupN, i_tupL, i_tupI, x_tup, x_lst, l_tup, l_lst, r_lst, r_tup, q_lst, q_tup, z_lst, z_tup, t_one, w_nil, w_cons, sget_0, sget_S, List.set_cons_zero, List.set_cons_succ, Option.map_some, Option.bind_some, eqD_int, Bool.not_true, Bool.not_false, sz_0, szT_0, sz_1, szT_1, sz_2, szT_2, sz_3, szT_3, sz_4, szT_4, sz_5, szT_5, sz_6, szT_6, t_many2, t_many3, t_many4, t_lst2, t_lst3]
  rfl
theorem p5_turn {mi ai x k a l : Int} {w fl : List D} {xs : List Int} {r : D} (hd : binop .fdiv (.int ai) (.int mi) = some (.int k)) (hs : small64 mi = true) (hw : atI w (ai - mi * k) = some (.lst (xs.map .int))) (h1 : bfop .sum [.lst (xs.map .int)] = some (.int a)) (h2 : bfop .len [.lst (xs.map .int)] = some (.int l)) (hx : small64 x = true) (he : C (n + 20) 3 [.int (x * l - a), .int l] st = .ok r st) (hf : fl.length < 10000) :
    evSs (C (n + 20)) fuelL f_law_0 (En ns s2 rw s4 s5 (.val (.int mi)) (.val (.lst w)) s8 (.own fl) (.val (.int ai)) (.val (.int x)) s12 s13 s14 s15 s16 s17 s18 s19 s20) st = .ok (.nx, En ns s2 rw s4 s5 (.val (.int mi)) (.val (.lst w)) s8 (.own (fl ++ [r])) (.val (.int ai)) (.val (.int x)) (.val (.lst (xs.map .int))) s13 s14 s15 s16 s17 s18 s19 s20) st := by
  have d1 : decide (fl.length < sizeLine) = true := decide_eq_true (Nat.lt_of_lt_of_le (show fl.length < 16777216 by omega) (size_small (Nat.le_refl _)))
  generalize xs.map D.int = xd at *
  have rdl : ∀ (env : Eng.Env), sget env 12 = .val (.lst xd) → evE (C (n + 20)) (.bf .len (.cons (.v 12) .nil)) env st = .ok (.int l) st := fun env h => bf_1 (by rw [rd_v, h]) h2
  have rds : ∀ (env : Eng.Env), sget env 12 = .val (.lst xd) → evE (C (n + 20)) (.bf .sum (.cons (.v 12) .nil)) env st = .ok (.int a) st := fun env h => bf_1 (by rw [rd_v, h]) h1
  have e0 : evS (C (n + 20)) fuelL (.asg false 12 (.ix (.v 7) (.bin .sub (.v 10) (.bin .mul (.v 6) (.bin .fdiv (.v 10) (.v 6)))))) (En ns s2 rw s4 s5 (.val (.int mi)) (.val (.lst w)) s8 (.own fl) (.val (.int ai)) (.val (.int x)) s12 s13 s14 s15 s16 s17 s18 s19 s20) st = .ok (.nx, En ns s2 rw s4 s5 (.val (.int mi)) (.val (.lst w)) s8 (.own fl) (.val (.int ai)) (.val (.int x)) (.val (.lst xd)) s13 s14 s15 s16 s17 s18 s19 s20) st := by
    simp only [evSs, evS, evE, evEs, evBs, evO, evT, evI, rd_k, rd_g, rd_bin, rd_neg, rd_not, rd_and, rd_or, rd_cmp, rd_chain, rd_ite, rd_tup, rd_lst, rd_ix, rd_sl, rd_rev, rd_call, rd_sumL, rd_join, rd_cnt, rd_stp, rd_bf, rd_isI, rd_v, R.bind, lift_ok, lift_ex, of_some, asB_ok, asB_ex, asI_ok, asI_ex, asD_ok, asD_ex, fold2_t, fold2_f, fold2_ex, keepIf_t, keepIf_f, ntup_some, calm_o, items_t, items_l, slotR, sl_v, b_add, b_sub, c_eq, c_ne, c_lt, c_le, c_gt, c_ge, f_lenL, f_lenT, f_tupL, f_tupT, f_lstL, f_lstT, f_int, f_abs, i_int, i_intB, i_intN, i_intT, i_intL, i_intS, i_bool, i_boolB, i_tup, i_tupN, i_tupL, i_tupI, x_tup, x_lst, l_tup, l_lst, r_lst, r_tup, q_lst, q_tup, z_lst, z_tup, t_one, w_nil, w_cons, sget_0, sget_S, List.set_cons_zero, List.set_cons_succ, Option.map_some, Option.bind_some, eqD_int, Bool.not_true, Bool.not_false, sz_0, szT_0, sz_1, szT_1, sz_2, szT_2, sz_3, szT_3, sz_4, szT_4, sz_5, szT_5, sz_6, szT_6, t_many2, t_many3, t_many4, t_lst2, t_lst3, hd, b_mul _ _ (.inl hs), hw]
  have ea : evE (C (n + 20)) (.bin .sub (.bin .mul (.v 11) (.bf .len (.cons (.v 12) .nil))) (.bf .sum (.cons (.v 12) .nil))) (En ns s2 rw s4 s5 (.val (.int mi)) (.val (.lst w)) s8 (.own fl) (.val (.int ai)) (.val (.int x)) (.val (.lst xd)) s13 s14 s15 s16 s17 s18 s19 s20) st = .ok (.int (x * l - a)) st := by
    simp only [evSs, evS, evE, evEs, evBs, evO, evT, evI, rd_k, rd_g, rd_bin, rd_neg, rd_not, rd_and, rd_or, rd_cmp, rd_chain, rd_ite, rd_tup, rd_lst, rd_ix, rd_sl, rd_rev, rd_call, rd_sumL, rd_join, rd_cnt, rd_stp, rd_bf, rd_isI, rd_v, R.bind, lift_ok, lift_ex, of_some, asB_ok, asB_ex, asI_ok, asI_ex, asD_ok, asD_ex, fold2_t, fold2_f, fold2_ex, keepIf_t, keepIf_f, ntup_some, calm_o, items_t, items_l, slotR, sl_v, b_add, b_sub, c_eq, c_ne, c_lt, c_le, c_gt, c_ge, f_lenL, f_lenT, f_tupL, f_tupT, f_lstL, f_lstT, f_int, f_abs, i_int, i_intB, i_intN, i_intT, i_intL, i_intS, i_bool, i_boolB, i_tup, i_tupN, i_tupL, i_tupI, x_tup, x_lst, l_tup, l_lst, r_lst, r_tup, q_lst, q_tup, z_lst, z_tup, t_one, w_nil, w_cons, sget_0, sget_S, List.set_cons_zero, List.set_cons_succ, Option.map_some, Option.bind_some, eqD_int, Bool.not_true, Bool.not_false, sz_0, szT_0, sz_1, szT_1, sz_2, szT_2, sz_3, szT_3, sz_4, szT_4, sz_5, szT_5, sz_6, szT_6, t_many2, t_many3, t_many4, t_lst2, t_lst3, h1, h2, b_mul _ _ (.inl hx)]
  have ec : evE (C (n + 20)) (.call 3 (.cons (.bin .sub (.bin .mul (.v 11) (.bf .len (.cons (.v 12) .nil))) (.bf .sum (.cons (.v 12) .nil))) (.cons (.bf .len (.cons (.v 12) .nil)) .nil))) (En ns s2 rw s4 s5 (.val (.int mi)) (.val (.lst w)) s8 (.own fl) (.val (.int ai)) (.val (.int x)) (.val (.lst xd)) s13 s14 s15 s16 s17 s18 s19 s20) st = .ok r st := call_2 ea (rdl _ rfl) he
  refine (ss_nx e0).trans (ss_nx (ss := .nil) ?_)
  show lift (evE (C (n + 20)) _ _ _) _ _ = _
  rw [ec, lift_ok, d1]
  rfl
end
section
variable {n : Nat} {ns cs rw : List Int} {s2 s4 s5 s6 s7 s8 s9 s10 s11 s12 s13 s14 s15 s16 s17 s18 s19 s20 : Sl} {st : Sto} {j : Int}
theorem p_2 {m : Nat} (h : Row rw) (h1 : 1 ≤ m) (hm : m ≤ rw.length) : evS (C (n + 20)) fuelL f_law_1_p2 (En ns s2 rw s4 s5 (.val (natD m)) (.val (.lst ((List.range m).map (phD rw m)))) s8 s9 s10 s11 s12 s13 s14 s15 s16 s17 s18 s19 s20) st = .ok (.nx, En ns s2 rw s4 s5 (.val (natD m)) (.val (.lst ((List.range m).map (phD rw m)))) s8 s9 s10 s11 s12 s13 s14 s15 s16 s17 s18 s19 s20) st :=
  p2_ev (nearest_ok h h1 hm) (ne_8 h1 hm (by have := h.l; omega))
theorem p5_loop {m : Nat} (h : Row rw) (h1 : 1 ≤ m) (hm : m ≤ rw.length) : ∀ (xs : List Int) (i : Nat) (acc : List Pt) (s10 s11 s12 : Sl), (∀ j, j < xs.length → xs.getD j 0 = gg rw (i + j)) → i + xs.length = rw.length → acc.length + xs.length ≤ 5000 →
    ∃ z10 z11 z12, loopF (tgSet (.many [10, 11])) (fun env s => evSs (C (n + 20)) fuelL f_law_0 env s) (enumD i (xs.map .int)) (En ns s2 rw s4 s5 (.val (natD m)) (.val (.lst ((List.range m).map (phD rw m)))) s8 (.own (acc.map Eng.pairD)) s10 s11 s12 s13 s14 s15 s16 s17 s18 s19 s20) st =
    .ok (.nx, En ns s2 rw s4 s5 (.val (natD m)) (.val (.lst ((List.range m).map (phD rw m)))) s8 (.own ((acc ++ (List.range xs.length).map fun j => rsP rw m (i + j)).map Eng.pairD)) z10 z11 z12 s13 s14 s15 s16 s17 s18 s19 s20) st
  | [], i, acc, s10, s11, s12, _, _, _ => ⟨s10, s11, s12, by
    have : acc ++ (List.range ([] : List Int).length).map (fun j => rsP rw m (i + j)) = acc := List.append_nil _
    rw [this]
    rfl⟩
  | x :: xs, i, acc, s10, s11, s12, hx, hi, ha => by
    have hl := h.l
    rw [List.length_cons] at hi ha
    have x0 : x = gg rw i := hx 0 (by rw [List.length_cons]; omega)
    have hv := h.v _ (gg_mem (show i < rw.length by omega))
    rw [← x0] at hv
    have hp : i % m < m := Nat.mod_lt _ (by omega)
    have hne := List.length_pos_iff.mpr (phs_ne (rw := rw) (m := m) (p := i % m) (by omega) (by omega))
    have hle := phs_le rw m (i % m)
    have f1 : bfop .sum [.lst ((phs rw m (i % m)).map .int)] = some (.int (phs rw m (i % m)).sum) := by
      have := f_sumL (fun x : Int => x) (phs rw m (i % m))
      rw [List.map_id'] at this
      exact this
    have f2 : bfop .len [.lst ((phs rw m (i % m)).map .int)] = some (.int ((phs rw m (i % m)).length : Int)) := by rw [f_lenL, List.length_map]
    have he : C (n + 20) 3 [.int (x * ((phs rw m (i % m)).length : Int) - (phs rw m (i % m)).sum), .int ((phs rw m (i % m)).length : Int)] st = .ok (Eng.pairD (rsP rw m i)) st := by
      have e : C (n + 20) 3 [.int (x * ((phs rw m (i % m)).length : Int) - (phs rw m (i % m)).sum), .int ((phs rw m (i % m)).length : Int)] st = .ok (Eng.pairD (leanP (x * ((phs rw m (i % m)).length : Int) - (phs rw m (i % m)).sum) ((phs rw m (i % m)).length : Int))) st := lean_ok (by omega) (by omega)
      rw [x0] at e ⊢
      exact e
    have hw : atI ((List.range m).map (phD rw m)) ((i : Int) - (m : Int) * ((i : Int) / (m : Int))) = some (.lst ((phs rw m (i % m)).map .int)) := by
      have : (i : Int) - (m : Int) * ((i : Int) / (m : Int)) = ((i % m : Nat) : Int) := by
        rw [Int.natCast_emod, Int.emod_def]
      rw [this, atI_map, at_nat _ _ (by rw [List.length_range]; exact hp), List.getElem_range] <;> rfl
    have u := p5_turn (n := n) (ns := ns) (rw := rw) (st := st) (s2 := s2) (s4 := s4) (s5 := s5) (s8 := s8) (s12 := s12) (s13 := s13) (s14 := s14) (s15 := s15) (s16 := s16) (s17 := s17) (s18 := s18) (s19 := s19) (s20 := s20) (fl := acc.map Eng.pairD) (b_fdiv (i : Int) (m : Int) (by omega) (by
      have : (m : Int).natAbs < 2 ^ 9000 := Nat.lt_of_le_of_lt (show (m : Int).natAbs ≤ 4000 by omega) (by decide +kernel)
      exact (Nat.log2_lt (by omega)).mpr this)) (small_of (by omega) (by omega)) hw f1 f2 (small_of (by omega) (by omega)) he (by rw [List.length_map]; omega)
    have em : acc.map Eng.pairD ++ [Eng.pairD (rsP rw m i)] = (acc ++ [rsP rw m i]).map Eng.pairD := by rw [List.map_append] <;> rfl
    rw [em] at u
    obtain ⟨z10, z11, z12, w⟩ := p5_loop h h1 hm xs (i + 1) (acc ++ [rsP rw m i]) (.val (.int (i : Int))) (.val (.int x)) (.val (.lst ((phs rw m (i % m)).map .int))) (fun j hj => by
      have := hx (j + 1) (by rw [List.length_cons]; omega)
      rw [show i + 1 + j = i + (j + 1) by omega]
      exact this) (by omega) (by rw [List.length_append, List.length_cons, List.length_nil]; omega)
    refine ⟨z10, z11, z12, (loopF_step rfl u).trans (w.trans ?_)⟩
    rw [List.append_assoc, List.length_cons, List.range_succ_eq_map, List.map_cons, List.map_map, List.cons_append, List.nil_append]
    have ef : ((fun j => rsP rw m (i + j)) ∘ Nat.succ) = fun j => rsP rw m (i + 1 + j) := by
      funext j
      show rsP rw m (i + (j + 1)) = _
      rw [show i + (j + 1) = i + 1 + j by omega]
    rw [ef] <;> rfl
theorem enum_ok {call : Nat → List D → Sto → R D} {i : Nat} {d : D} {ds : List D} {env : Eng.Env} {s : Sto} (h : sget env i = .val d) (hs : enumA d = some ds) : evI call (.enum (.v i)) env s = .ok ds s := by
  show R.bind (evE call (.v i) env s) _ = _
  rw [v_ok h]
  show R.of (enumA d) s = _
  rw [hs] <;> rfl
theorem for_ok {call : Nat → List D → Sto → R D} {L : Nat} {tg : Tg} {it : IE} {b : Ss} {env env2 : Eng.Env} {s s1 s2 : Sto} {ds : List D} (hi : evI call it env s = .ok ds s1) (e : loopF (tgSet tg) (fun env s => evSs call L b env s) ds env s1 = .ok (.nx, env2) s2) : evS call L (.forr tg it b) env s = .ok (.nx, env2) s2 := by
  show lift (evI call it env s) _ _ = _
  rw [hi, lift_ok]
  exact e
theorem p_5 {m : Nat} (h : Row rw) (h1 : 1 ≤ m) (hm : m ≤ rw.length) : ∃ z10 z11 z12, evS (C (n + 20)) fuelL f_law_1_p5 (En ns s2 rw s4 s5 (.val (natD m)) (.val (.lst ((List.range m).map (phD rw m)))) s8 (.own (([] : List Pt).map Eng.pairD)) s10 s11 s12 s13 s14 s15 s16 s17 s18 s19 s20) st = .ok (.nx, En ns s2 rw s4 s5 (.val (natD m)) (.val (.lst ((List.range m).map (phD rw m)))) s8 (.own ((rsL rw m).map Eng.pairD)) z10 z11 z12 s13 s14 s15 s16 s17 s18 s19 s20) st := by
  have hl := h.l
  obtain ⟨z10, z11, z12, e⟩ := p5_loop (n := n) (ns := ns) (st := st) (s2 := s2) (s4 := s4) (s5 := s5) (s8 := s8) (s13 := s13) (s14 := s14) (s15 := s15) (s16 := s16) (s17 := s17) (s18 := s18) (s19 := s19) (s20 := s20) h h1 hm rw 0 [] s10 s11 s12 (fun j hj => by rw [Nat.zero_add] <;> rfl) (by omega) (by rw [List.length_nil]; omega)
  rw [List.nil_append] at e
  have er : ((List.range rw.length).map fun j => rsP rw m (0 + j)) = rsL rw m := by
    unfold rsL
    congr 1
    funext j
    rw [Nat.zero_add]
  rw [er] at e
  exact ⟨z10, z11, z12, for_ok (enum_ok rfl rfl) e⟩
theorem p6_ev {mi : Int} {A B : List Pt} (e1 : C (n + 20) 11 [T rw, .int mi] st = .ok (.tup (A.map Eng.pairD)) st) (e2 : C (n + 20) 12 [T rw, .int mi] st = .ok (.tup (B.map Eng.pairD)) st) : evS (C (n + 20)) fuelL f_law_1_p6 (En ns s2 rw s4 s5 (.val (.int mi)) s7 (.val (.lst (A.map Eng.pairD))) (.own (B.map Eng.pairD)) s10 s11 s12 s13 s14 s15 s16 s17 s18 s19 s20) st = .ok (.nx, En ns s2 rw s4 s5 (.val (.int mi)) s7 (.val (.lst (A.map Eng.pairD))) (.own (B.map Eng.pairD)) s10 s11 s12 s13 s14 s15 s16 s17 s18 s19 s20) st := by
  have q1 := eqD_PT A
  have q2 := eqD_PT B
  generalize A.map Eng.pairD = a at *
  generalize B.map Eng.pairD = b at *
  simp only [f_law_1_p6, evSs, evS, evE, evEs, evBs, evO, evT, evI, rd_k, rd_g, rd_bin, rd_neg, rd_not, rd_and, rd_or, rd_cmp, rd_chain, rd_ite, rd_tup, rd_lst, rd_ix, rd_sl, rd_rev, rd_call, rd_sumL, rd_join, rd_cnt, rd_stp, rd_bf, rd_isI, rd_v, R.bind, lift_ok, lift_ex, of_some, asB_ok, asB_ex, asI_ok, asI_ex, asD_ok, asD_ex, fold2_t, fold2_f, fold2_ex, keepIf_t, keepIf_f, ntup_some, calm_o, items_t, items_l, slotR, sl_v, b_add, b_sub, c_eq, c_ne, c_lt, c_le, c_gt, c_ge, f_lenL, f_lenT, f_tupL, f_tupT, f_lstL, f_lstT, f_int, f_abs, i_int, i_intB, i_intN, i_intT, i_intL, i_intS, i_bool, i_boolB, i_tup, i_tupN, i_tupL, i_tupI, x_tup, x_lst, l_tup, l_lst, r_lst, r_tup, q_lst, q_tup, z_lst, z_tup, t_one, w_nil, w_cons, sget_0, sget_S, List.set_cons_zero, List.set_cons_succ, Option.map_some, Option.bind_some, eqD_int, Bool.not_true, Bool.not_false, sz_0, szT_0, sz_1, szT_1, sz_2, szT_2, sz_3, szT_3, sz_4, szT_4, sz_5, szT_5, sz_6, szT_6, t_many2, t_many3, t_many4, t_lst2, t_lst3, e1, e2, q1, q2]
theorem p_all {m : Nat} (h : Row rw) (h1 : 1 ≤ m) (hm : m ≤ rw.length) : ∃ t7 t8 t9 t10 t11 t12, evSs (C (n + 20)) fuelL f_law_1 (En ns s2 rw (.val (.lst ((fitL rw).map natD))) s5 (.val (natD m)) s7 s8 s9 s10 s11 s12 s13 s14 s15 s16 s17 s18 s19 s20) st = .ok (.nx, En ns s2 rw (.val (.lst ((fitL rw).map natD))) s5 (.val (natD m)) t7 t8 t9 t10 t11 t12 s13 s14 s15 s16 s17 s18 s19 s20) st := by
  have hl := h.l
  have a0 := p_0 (n := n) (ns := ns) (s2 := s2) (s4 := .val (.lst ((fitL rw).map natD))) (s5 := s5) (s7 := s7) (s8 := s8) (s9 := s9) (s10 := s10) (s11 := s11) (s12 := s12) (s13 := s13) (s14 := s14) (s15 := s15) (s16 := s16) (s17 := s17) (s18 := s18) (s19 := s19) (s20 := s20) (st := st) (rw := rw) h1 (by omega) (by omega)
  obtain ⟨z10, z11, z12, a5⟩ := p_5 (n := n) (ns := ns) (s2 := s2) (s4 := .val (.lst ((fitL rw).map natD))) (s5 := s5) (s8 := .val (.lst ((mnL rw m).map Eng.pairD))) (s10 := s10) (s11 := s11) (s12 := s12) (s13 := s13) (s14 := s14) (s15 := s15) (s16 := s16) (s17 := s17) (s18 := s18) (s19 := s19) (s20 := s20) (st := st) h h1 hm
  have a6 := p6_ev (n := n) (ns := ns) (s2 := s2) (s4 := .val (.lst ((fitL rw).map natD))) (s5 := s5) (s7 := .val (.lst ((List.range m).map (phD rw m)))) (s10 := z10) (s11 := z11) (s12 := z12) (s13 := s13) (s14 := s14) (s15 := s15) (s16 := s16) (s17 := s17) (s18 := s18) (s19 := s19) (s20 := s20) (st := st) (means_ok (n := n + 15) h h1 hm) (rest_ok (n := n + 14) h h1 hm)
  refine ⟨.val (.lst ((List.range m).map (phD rw m))), .val (.lst ((mnL rw m).map Eng.pairD)), .own ((rsL rw m).map Eng.pairD), z10, z11, z12, ?_⟩
  show evSs (C (n + 20)) fuelL (.cons f_law_1_p0 (.cons f_law_1_p1 (.cons f_law_1_p2 (.cons f_law_1_p3 (.cons f_law_1_p4 (.cons f_law_1_p5 (.cons f_law_1_p6 .nil))))))) _ _ = _
  exact (ss_nx a0).trans ((ss_nx (p_1 h h1 hm)).trans ((ss_nx (p_2 h h1 hm)).trans ((ss_nx (p_3 h1 hm (by omega))).trans ((ss_nx p_4).trans ((ss_nx a5).trans (ss_nx a6))))))
theorem l8_it {k a : Int} {N : D} (h3 : sget (En ns s2 rw s4 (.val (.int k)) s6 s7 s8 s9 s10 s11 s12 s13 s14 s15 s16 s17 s18 s19 s20) 3 = .val (T rw)) {Ni : Int} (hN : (rw.length : Int) = Ni) (e : C (n + 20) 19 [.ref 0, .int Ni] (Dw cs j) = .ok (.int a) (Dw cs (j + 1))) : evI (C (n + 20)) (.seq (.tup (.cons (.bin .add (.k (.int (1))) (.call 19 (.cons (.v 1) (.cons (.bf .len (.cons (.v 3) .nil)) .nil)))) (.cons (.v 5) .nil)))) (En ns s2 rw s4 (.val (.int k)) s6 s7 s8 s9 s10 s11 s12 s13 s14 s15 s16 s17 s18 s19 s20) (Dw cs j) = .ok [.int (1 + a), .int k] (Dw cs (j + 1)) := by
  simp only [evSs, evS, evE, evEs, evBs, evO, evT, evI, rd_k, rd_g, rd_bin, rd_neg, rd_not, rd_and, rd_or, rd_cmp, rd_chain, rd_ite, rd_tup, rd_lst, rd_ix, rd_sl, rd_rev, rd_call, rd_sumL, rd_join, rd_cnt, rd_stp, rd_bf, rd_isI, rd_v, R.bind, lift_ok, lift_ex, of_some, asB_ok, asB_ex, asI_ok, asI_ex, asD_ok, asD_ex, fold2_t, fold2_f, fold2_ex, keepIf_t, keepIf_f, ntup_some, calm_o, items_t, items_l, slotR, sl_v, b_add, b_sub, c_eq, c_ne, c_lt, c_le, c_gt, c_ge, f_lenL, f_lenT, f_tupL, f_tupT, f_lstL, f_lstT, f_int, f_abs, i_int, i_intB, i_intN, i_intT, i_intL, i_intS, i_bool, i_boolB, i_tup, i_tupN, i_tupL, i_tupI, x_tup, x_lst, l_tup, l_lst, r_lst, r_tup, q_lst, q_tup, z_lst, z_tup, t_one, w_nil, w_cons, sget_0, sget_S, List.set_cons_zero, List.set_cons_succ, Option.map_some, Option.bind_some, eqD_int, Bool.not_true, Bool.not_false, sz_0, szT_0, sz_1, szT_1, sz_2, szT_2, sz_3, szT_3, sz_4, szT_4, sz_5, szT_5, sz_6, szT_6, t_many2, t_many3, t_many4, t_lst2, t_lst3, List.length_map, hN, e]
theorem law_8 {k : Nat} (h : Row rw) (hj : 0 ≤ j) (k1 : 1 ≤ k) (k2 : k ≤ rw.length) : ∃ t6 t7 t8 t9 t10 t11 t12, evS (C (n + 20)) fuelL s_law_8 (En ns s2 rw (.val (.lst ((fitL rw).map natD))) (.val (natD k)) s6 s7 s8 s9 s10 s11 s12 s13 s14 s15 s16 s17 s18 s19 s20) (Dw cs j) = .ok (.nx, En ns s2 rw (.val (.lst ((fitL rw).map natD))) (.val (natD k)) t6 t7 t8 t9 t10 t11 t12 s13 s14 s15 s16 s17 s18 s19 s20) (Dw cs (j + 1)) := by
  have hp := h.p
  obtain ⟨r, r1, r2, e⟩ := next_ok (n := n + 17) (cs := cs) (j := j) (b := (rw.length : Int)) hj (by omega)
  have ei := l8_it (n := n) (ns := ns) (cs := cs) (j := j) (rw := rw) (s2 := s2) (s4 := .val (.lst ((fitL rw).map natD))) (s6 := s6) (s7 := s7) (s8 := s8) (s9 := s9) (s10 := s10) (s11 := s11) (s12 := s12) (s13 := s13) (s14 := s14) (s15 := s15) (s16 := s16) (s17 := s17) (s18 := s18) (s19 := s19) (s20 := s20) (k := (k : Int)) (N := .non) rfl rfl e
  obtain ⟨m, hm⟩ : ∃ m : Nat, (m : Int) = 1 + r := ⟨(1 + r).toNat, by omega⟩
  rw [← hm] at ei
  obtain ⟨a7, a8, a9, a10, a11, a12, u1⟩ := p_all (n := n) (ns := ns) (st := Dw cs (j + 1)) (s2 := s2) (s5 := .val (natD k)) (s7 := s7) (s8 := s8) (s9 := s9) (s10 := s10) (s11 := s11) (s12 := s12) (s13 := s13) (s14 := s14) (s15 := s15) (s16 := s16) (s17 := s17) (s18 := s18) (s19 := s19) (s20 := s20) (m := m) h (by omega) (by omega)
  obtain ⟨b7, b8, b9, b10, b11, b12, u2⟩ := p_all (n := n) (ns := ns) (st := Dw cs (j + 1)) (s2 := s2) (s5 := .val (natD k)) (s7 := a7) (s8 := a8) (s9 := a9) (s10 := a10) (s11 := a11) (s12 := a12) (s13 := s13) (s14 := s14) (s15 := s15) (s16 := s16) (s17 := s17) (s18 := s18) (s19 := s19) (s20 := s20) (m := k) h k1 k2
  exact ⟨.val (natD k), b7, b8, b9, b10, b11, b12, for_ok ei ((loopF_step (by rw [t_one] <;> rfl) u1).trans ((loopF_step (by rw [t_one] <;> rfl) u2).trans rfl))⟩
end
section
variable {n : Nat} {ns cs rw : List Int} {s2 s4 s5 s6 s7 s8 s9 s10 s11 s12 s13 s14 s15 s16 s17 s18 s19 s20 : Sl} {st : Sto} {j : Int}
theorem l9_ev {a b i : Int} (e1 : C (n + 20) 19 [.ref 0, .int 4] (Dw cs j) = .ok (.int a) (Dw cs i)) (e2 : C (n + 20) 19 [.ref 0, .int 3] (Dw cs i) = .ok (.int b) (Dw cs (i + 1))) : evS (C (n + 20)) fuelL s_law_9 (En ns s2 rw s4 s5 s6 s7 s8 s9 s10 s11 s12 s13 s14 s15 s16 s17 s18 s19 s20) (Dw cs j) = .ok (.nx, En ns s2 rw s4 s5 s6 s7 s8 s9 s10 s11 s12 (.val (.int a)) (.val (.int b)) (.val (.lst [])) s16 s17 s18 s19 s20) (Dw cs (i + 1)) := by
  simp only [s_law_9, evSs, evS, evE, evEs, evBs, evO, evT, evI, rd_k, rd_g, rd_bin, rd_neg, rd_not, rd_and, rd_or, rd_cmp, rd_chain, rd_ite, rd_tup, rd_lst, rd_ix, rd_sl, rd_rev, rd_call, rd_sumL, rd_join, rd_cnt, rd_stp, rd_bf, rd_isI, rd_v, R.bind, lift_ok, lift_ex, of_some, asB_ok, asB_ex, asI_ok, asI_ex, asD_ok, asD_ex, fold2_t, fold2_f, fold2_ex, keepIf_t, keepIf_f, ntup_some, calm_o, items_t, items_l, slotR, sl_v, b_add, b_sub, c_eq, c_ne, c_lt, c_le, c_gt, c_ge, f_lenL, f_lenT, f_tupL, f_tupT, f_lstL, f_lstT, f_int, f_abs, i_int, i_intB, i_intN, i_intT, i_intL, i_intS, i_bool, i_boolB, i_tup, i_tupN, i_tupL, i_tupI, x_tup, x_lst, l_tup, l_lst, r_lst, r_tup, q_lst, q_tup, z_lst, z_tup, t_one, w_nil, w_cons, sget_0, sget_S, List.set_cons_zero, List.set_cons_succ, Option.map_some, Option.bind_some, eqD_int, Bool.not_true, Bool.not_false, sz_0, szT_0, sz_1, szT_1, sz_2, szT_2, sz_3, szT_3, sz_4, szT_4, sz_5, szT_5, sz_6, szT_6, t_many2, t_many3, t_many4, t_lst2, t_lst3, e1, e2]
theorem law_9 (hj : 0 ≤ j) : ∃ w b : Nat, w ≤ 3 ∧ b ≤ 2 ∧ evS (C (n + 20)) fuelL s_law_9 (En ns s2 rw s4 s5 s6 s7 s8 s9 s10 s11 s12 s13 s14 s15 s16 s17 s18 s19 s20) (Dw cs j) = .ok (.nx, En ns s2 rw s4 s5 s6 s7 s8 s9 s10 s11 s12 (.val (natD w)) (.val (natD b)) (.val (.lst (([] : List Nat).map natD))) s16 s17 s18 s19 s20) (Dw cs (j + 1 + 1)) := by
  obtain ⟨r, r1, r2, e1⟩ := next_ok (n := n + 17) (cs := cs) (j := j) (b := 4) hj (by decide)
  obtain ⟨q, q1, q2, e2⟩ := next_ok (n := n + 17) (cs := cs) (j := j + 1) (b := 3) (by omega) (by decide)
  obtain ⟨w, rfl⟩ := Int.eq_ofNat_of_zero_le r1
  obtain ⟨b, rfl⟩ := Int.eq_ofNat_of_zero_le q1
  exact ⟨w, b, by omega, by omega, l9_ev e1 e2⟩
theorem rng_len3 {env : Eng.Env} {ds : List D} (h3 : sget env 3 = .val (T rw)) (hr : rangeD 0 (rw.length : Int) = some ds) : evI (C n) (.rng1 (.bf .len (.cons (.v 3) .nil))) env st = .ok ds st := by
  generalize hk : (rw.length : Int) = k at hr
  simp only [evSs, evS, evE, evEs, evBs, evO, evT, evI, rd_k, rd_g, rd_bin, rd_neg, rd_not, rd_and, rd_or, rd_cmp, rd_chain, rd_ite, rd_tup, rd_lst, rd_ix, rd_sl, rd_rev, rd_call, rd_sumL, rd_join, rd_cnt, rd_stp, rd_bf, rd_isI, rd_v, R.bind, lift_ok, lift_ex, of_some, asB_ok, asB_ex, asI_ok, asI_ex, asD_ok, asD_ex, fold2_t, fold2_f, fold2_ex, keepIf_t, keepIf_f, ntup_some, calm_o, items_t, items_l, slotR, sl_v, b_add, b_sub, c_eq, c_ne, c_lt, c_le, c_gt, c_ge, f_lenL, f_lenT, f_tupL, f_tupT, f_lstL, f_lstT, f_int, f_abs, i_int, i_intB, i_intN, i_intT, i_intL, i_intS, i_bool, i_boolB, i_tup, i_tupN, i_tupL, i_tupI, x_tup, x_lst, l_tup, l_lst, r_lst, r_tup, q_lst, q_tup, z_lst, z_tup, t_one, w_nil, w_cons, sget_0, sget_S, List.set_cons_zero, List.set_cons_succ, Option.map_some, Option.bind_some, eqD_int, Bool.not_true, Bool.not_false, sz_0, szT_0, sz_1, szT_1, sz_2, szT_2, sz_3, szT_3, sz_4, szT_4, sz_5, szT_5, sz_6, szT_6, t_many2, t_many3, t_many4, t_lst2, t_lst3, h3, List.length_map, hk, hr]
theorem el_nb {env : Eng.Env} {pi ai wi : Int} {b : Bool} (h23 : sget env 23 = .val (.int pi)) (h10 : sget env 10 = .val (.int ai)) (h13 : sget env 13 = .val (.int wi)) (hb : decide (iabs (pi - ai) ≤ wi) = b) : evE (C n) (.cmp .le (.bf .abs (.cons (.bin .sub (.v 23) (.v 10)) .nil)) (.v 13)) env st = .ok (.bl b) st := by
  have hb : decide ((if pi - ai < 0 then -(pi - ai) else pi - ai) ≤ wi) = b := hb
  simp only [evSs, evS, evE, evEs, evBs, evO, evT, evI, rd_k, rd_g, rd_bin, rd_neg, rd_not, rd_and, rd_or, rd_cmp, rd_chain, rd_ite, rd_tup, rd_lst, rd_ix, rd_sl, rd_rev, rd_call, rd_sumL, rd_join, rd_cnt, rd_stp, rd_bf, rd_isI, rd_v, R.bind, lift_ok, lift_ex, of_some, asB_ok, asB_ex, asI_ok, asI_ex, asD_ok, asD_ex, fold2_t, fold2_f, fold2_ex, keepIf_t, keepIf_f, ntup_some, calm_o, items_t, items_l, slotR, sl_v, b_add, b_sub, c_eq, c_ne, c_lt, c_le, c_gt, c_ge, f_lenL, f_lenT, f_tupL, f_tupT, f_lstL, f_lstT, f_int, f_abs, i_int, i_intB, i_intN, i_intT, i_intL, i_intS, i_bool, i_boolB, i_tup, i_tupN, i_tupL, i_tupI, x_tup, x_lst, l_tup, l_lst, r_lst, r_tup, q_lst, q_tup, z_lst, z_tup, t_one, w_nil, w_cons, sget_0, sget_S, List.set_cons_zero, List.set_cons_succ, Option.map_some, Option.bind_some, eqD_int, Bool.not_true, Bool.not_false, sz_0, szT_0, sz_1, szT_1, sz_2, szT_2, sz_3, szT_3, sz_4, szT_4, sz_5, szT_5, sz_6, szT_6, t_many2, t_many3, t_many4, t_lst2, t_lst3, h23, h10, h13, hb]
theorem nb_x {w i : Nat} (hl : rw.length ≤ 1000) : evE (C n) x_law_10 (En ns s2 rw s4 s5 s6 s7 s8 s9 (.val (natD i)) s11 s12 (.val (natD w)) s14 s15 s16 s17 s18 s19 s20) st = .ok (.lst ((nb rw w i).map .int)) st := by
  rw [nb_law, List.map_map]
  refine lc_bind' (rng_len3 rfl (range_k rw.length (by omega))) ?_ (by rw [List.length_map]; exact Nat.le_trans (List.length_filter_le _ _) (by rw [List.length_range]; omega))
  exact turns_filter natD (fun (p : Nat) => decide (iabs ((p : Int) - (i : Int)) ≤ (w : Int))) (fun p => .int (gg rw p)) fun p hp => by
    have h1 := row_at (List.mem_range.mp hp)
    refine el_if (i := 23) (el_nb rfl rfl rfl rfl) (ix_ok rfl rfl ?_)
    show R.of (atI (rw.map D.int) _) st = _
    rw [h1] <;> rfl
theorem el_far {call : Nat → List D → Sto → R D} {env : Eng.Env} {ai x k y bi : Int} {L : List Int} {fl : List D} {b : Bool} {s : Sto} (h10 : sget env 10 = .val (.int ai)) (h11 : sget env 11 = .val (.int x)) (h12 : sget env 12 = .val (.lst (L.map .int))) (h14 : sget env 14 = .val (.int bi)) (h15 : sget env 15 = .val (.lst fl)) (hd : binop .fdiv (.int ((L.length : Int) - 1)) (.int 2) = some (.int k)) (hy : atI (L.map D.int) k = some (.int y)) (hb : decide (bi < (if x - y < 0 then -(x - y) else x - y)) = b) (hf : fl.length < 10000) :
    evE call (.bin .add (.v 15) (.ite (.cmp .gt (.bf .abs (.cons (.bin .sub (.v 11) (.ix (.v 12) (.bin .fdiv (.bin .sub (.bf .len (.cons (.v 12) .nil)) (.k (.int (1)))) (.k (.int (2)))))) .nil)) (.v 14)) (.lst (.cons (.v 10) .nil)) (.lst .nil))) env s = .ok (.lst (fl ++ if b = true then [.int ai] else [])) s := by
  have ap1 : ∀ d : D, binop .add (.lst fl) (.lst [d]) = some (.lst (fl ++ [d])) := fun d => b_catL _ _ (size_small (by rw [List.length_singleton]; omega))
  have ap0 : binop .add (.lst fl) (.lst []) = some (.lst (fl ++ [])) := b_catL _ _ (size_small (by rw [List.length_nil]; omega))
  cases b
  · simp only [evSs, evS, evE, evEs, evBs, evO, evT, evI, rd_k, rd_g, rd_bin, rd_neg, rd_not, rd_and, rd_or, rd_cmp, rd_chain, rd_ite, rd_tup, rd_lst, rd_ix, rd_sl, rd_rev, rd_call, rd_sumL, rd_join, rd_cnt, rd_stp, rd_bf, rd_isI, rd_v, R.bind, lift_ok, lift_ex, of_some, asB_ok, asB_ex, asI_ok, asI_ex, asD_ok, asD_ex, fold2_t, fold2_f, fold2_ex, keepIf_t, keepIf_f, ntup_some, calm_o, items_t, items_l, slotR, sl_v, b_add, b_sub, c_eq, c_ne, c_lt, c_le, c_gt, c_ge, f_lenL, f_lenT, f_tupL, f_tupT, f_lstL, f_lstT, f_int, f_abs, i_int, i_intB, i_intN, i_intT, i_intL, i_intS, i_bool, i_boolB, i_tup, i_tupN, i_tupL, i_tupI, x_tup, x_lst, l_tup, l_lst, r_lst, r_tup, q_lst, q_tup, z_lst, z_tup, t_one, w_nil, w_cons, sget_0, sget_S, List.set_cons_zero, List.set_cons_succ, Option.map_some, Option.bind_some, eqD_int, Bool.not_true, Bool.not_false, sz_0, szT_0, sz_1, szT_1, sz_2, szT_2, sz_3, szT_3, sz_4, szT_4, sz_5, szT_5, sz_6, szT_6, t_many2, t_many3, t_many4, t_lst2, t_lst3, h10, h11, h12, h14, h15, List.length_map, hd, hy, hb, ap0, if_neg Bool.false_ne_true]
  · simp only [evSs, evS, evE, evEs, evBs, evO, evT, evI, rd_k, rd_g, rd_bin, rd_neg, rd_not, rd_and, rd_or, rd_cmp, rd_chain, rd_ite, rd_tup, rd_lst, rd_ix, rd_sl, rd_rev, rd_call, rd_sumL, rd_join, rd_cnt, rd_stp, rd_bf, rd_isI, rd_v, R.bind, lift_ok, lift_ex, of_some, asB_ok, asB_ex, asI_ok, asI_ex, asD_ok, asD_ex, fold2_t, fold2_f, fold2_ex, keepIf_t, keepIf_f, ntup_some, calm_o, items_t, items_l, slotR, sl_v, b_add, b_sub, c_eq, c_ne, c_lt, c_le, c_gt, c_ge, f_lenL, f_lenT, f_tupL, f_tupT, f_lstL, f_lstT, f_int, f_abs, i_int, i_intB, i_intN, i_intT, i_intL, i_intS, i_bool, i_boolB, i_tup, i_tupN, i_tupL, i_tupI, x_tup, x_lst, l_tup, l_lst, r_lst, r_tup, q_lst, q_tup, z_lst, z_tup, t_one, w_nil, w_cons, sget_0, sget_S, List.set_cons_zero, List.set_cons_succ, Option.map_some, Option.bind_some, eqD_int, Bool.not_true, Bool.not_false, sz_0, szT_0, sz_1, szT_1, sz_2, szT_2, sz_3, szT_3, sz_4, szT_4, sz_5, szT_5, sz_6, szT_6, t_many2, t_many3, t_many4, t_lst2, t_lst3, h10, h11, h12, h14, h15, List.length_map, hd, hy, hb, ap1, if_true]
theorem l10_turn {ai x k y bi : Int} {S L : List Int} {fl : List D} {b : Bool} (bx : evE (C (n + 20)) x_law_10 (En ns s2 rw s4 s5 s6 s7 s8 s9 (.val (.int ai)) (.val (.int x)) s12 s13 (.val (.int bi)) (.val (.lst fl)) s16 s17 s18 s19 s20) st = .ok (.lst (S.map .int)) st) (hL : sortI S = L) (hd : binop .fdiv (.int ((L.length : Int) - 1)) (.int 2) = some (.int k)) (hy : atI (L.map D.int) k = some (.int y)) (hb : decide (bi < iabs (x - y)) = b) (hf : fl.length < 10000) :
    evSs (C (n + 20)) fuelL f_law_2 (En ns s2 rw s4 s5 s6 s7 s8 s9 (.val (.int ai)) (.val (.int x)) s12 s13 (.val (.int bi)) (.val (.lst fl)) s16 s17 s18 s19 s20) st = .ok (.nx, En ns s2 rw s4 s5 s6 s7 s8 s9 (.val (.int ai)) (.val (.int x)) (.val (.lst (L.map .int))) s13 (.val (.int bi)) (.val (.lst (fl ++ if b = true then [.int ai] else []))) s16 s17 s18 s19 s20) st := by
  have fs := f_sortL S
  rw [hL] at fs
  have hb : decide (bi < (if x - y < 0 then -(x - y) else x - y)) = b := hb
  have e0 : evS (C (n + 20)) fuelL (.asg false 12 (.bf .sorted (.cons x_law_10 .nil))) (En ns s2 rw s4 s5 s6 s7 s8 s9 (.val (.int ai)) (.val (.int x)) s12 s13 (.val (.int bi)) (.val (.lst fl)) s16 s17 s18 s19 s20) st = .ok (.nx, En ns s2 rw s4 s5 s6 s7 s8 s9 (.val (.int ai)) (.val (.int x)) (.val (.lst (L.map .int))) s13 (.val (.int bi)) (.val (.lst fl)) s16 s17 s18 s19 s20) st := asg_ok (bf_1 ((x_law_10_rd _ _ _).trans bx) fs)
  refine (ss_nx e0).trans (ss_nx (ss := .nil) (asg_ok (el_far rfl rfl rfl rfl rfl hd hy hb hf)))
theorem l10_loop {w : Nat} {b : Int} (hl : rw.length ≤ 1000) (hw : w ≤ 1000) : ∀ (xs : List Int) (i : Nat) (acc : List Nat) (s10 s11 s12 : Sl), (∀ j, j < xs.length → xs.getD j 0 = gg rw (i + j)) → i + xs.length = rw.length → acc.length + xs.length ≤ 5000 →
    ∃ z10 z11 z12, loopF (tgSet (.many [10, 11])) (fun env s => evSs (C (n + 20)) fuelL f_law_2 env s) (enumD i (xs.map .int)) (En ns s2 rw s4 s5 s6 s7 s8 s9 s10 s11 s12 (.val (natD w)) (.val (.int b)) (.val (.lst (acc.map natD))) s16 s17 s18 s19 s20) st =
    .ok (.nx, En ns s2 rw s4 s5 s6 s7 s8 s9 z10 z11 z12 (.val (natD w)) (.val (.int b)) (.val (.lst ((acc ++ soL rw w b xs.length i).map natD))) s16 s17 s18 s19 s20) st
  | [], i, acc, s10, s11, s12, _, _, _ => ⟨s10, s11, s12, by
    have : soL rw w b ([] : List Int).length i = [] := rfl
    rw [this, List.append_nil] <;> rfl⟩
  | x :: xs, i, acc, s10, s11, s12, hx, hi, ha => by
    rw [List.length_cons] at hi ha
    have x0 : x = gg rw i := hx 0 (by rw [List.length_cons]; omega)
    obtain ⟨f1, f2, f3, f4⟩ := so_facts (rw := rw) (w := w) (i := i) (by omega) hl hw
    have u := l10_turn (n := n) (ns := ns) (st := st) (rw := rw) (s2 := s2) (s4 := s4) (s5 := s5) (s6 := s6) (s7 := s7) (s8 := s8) (s9 := s9) (s12 := s12) (s13 := .val (natD w)) (s16 := s16) (s17 := s17) (s18 := s18) (s19 := s19) (s20 := s20) (x := x) (bi := b) (fl := acc.map natD) (b := so rw w b i) (nb_x hl) rfl f3 f4 (by rw [x0] <;> rfl) (by rw [List.length_map]; omega)
    have em : (acc.map natD ++ if so rw w b i = true then [natD i] else []) = (acc ++ if so rw w b i = true then [i] else []).map natD := by
      rw [List.map_append]
      split <;> rfl
    obtain ⟨z10, z11, z12, v⟩ := l10_loop (w := w) (b := b) hl hw xs (i + 1) (acc ++ if so rw w b i = true then [i] else []) (.val (natD i)) (.val (.int x)) (.val (.lst ((sortI (nb rw w i)).map .int))) (fun j hj => by
      have := hx (j + 1) (by rw [List.length_cons]; omega)
      rw [show i + 1 + j = i + (j + 1) by omega]
      exact this) (by omega) (by
      rw [List.length_append]
      split <;> simp <;> omega)
    rw [← em] at v
    refine ⟨z10, z11, z12, (loopF_step rfl u).trans (v.trans ?_)⟩
    have es : soL rw w b (x :: xs).length i = (if so rw w b i = true then [i] else []) ++ soL rw w b xs.length (i + 1) := by
      unfold soL
      rw [List.length_cons, List.range_succ_eq_map, List.map_cons, Nat.add_zero, List.map_map]
      have : ((fun x => i + x) ∘ Nat.succ) = fun x => i + 1 + x := by
        funext k
        show i + (k + 1) = _
        omega
      rw [this]
      cases g : so rw w b i with
      | true => rw [List.filter_cons_of_pos g, if_pos rfl] <;> rfl
      | false => rw [List.filter_cons_of_neg (by rw [g]; exact Bool.false_ne_true), if_neg Bool.false_ne_true] <;> rfl
    rw [es, List.append_assoc]
theorem law_10 {w b : Nat} (h : Row rw) (hw : w ≤ 1000) : ∃ z10 z11 z12, evS (C (n + 20)) fuelL s_law_10 (En ns s2 rw s4 s5 s6 s7 s8 s9 s10 s11 s12 (.val (natD w)) (.val (natD b)) (.val (.lst (([] : List Nat).map natD))) s16 s17 s18 s19 s20) st = .ok (.nx, En ns s2 rw s4 s5 s6 s7 s8 s9 z10 z11 z12 (.val (natD w)) (.val (natD b)) (.val (.lst ((soL rw w b rw.length 0).map natD))) s16 s17 s18 s19 s20) st := by
  have hl := h.l
  obtain ⟨z10, z11, z12, e⟩ := l10_loop (n := n) (ns := ns) (st := st) (s2 := s2) (s4 := s4) (s5 := s5) (s6 := s6) (s7 := s7) (s8 := s8) (s9 := s9) (s16 := s16) (s17 := s17) (s18 := s18) (s19 := s19) (s20 := s20) (rw := rw) (w := w) (b := (b : Int)) (by omega) hw rw 0 [] s10 s11 s12 (fun j hj => by rw [Nat.zero_add] <;> rfl) (by omega) (by rw [List.length_nil]; omega)
  rw [List.nil_append] at e
  exact ⟨z10, z11, z12, for_ok (enum_ok rfl rfl) e⟩
theorem eqD_nats (xs : List Nat) : eqD (.tup (xs.map natD)) (.tup (xs.map natD)) = some true := by
  have q := eqD_ints (xs.map fun i : Nat => (i : Int)) (xs.map fun i : Nat => (i : Int))
  rw [decide_eq_true rfl] at q
  have e : (xs.map fun i : Nat => (i : Int)).map D.int = xs.map natD := by rw [List.map_map] <;> rfl
  rw [e] at q
  exact q
theorem l11_ev {a b : Int} {ds : List D} (e : C (n + 20) 13 [T rw, .int a, .int b] st = .ok (.tup ds) st) (q : eqD (.tup ds) (.tup ds) = some true) : evS (C (n + 20)) fuelL s_law_11 (En ns s2 rw s4 s5 s6 s7 s8 s9 s10 s11 s12 (.val (.int a)) (.val (.int b)) (.val (.lst ds)) s16 s17 s18 s19 s20) st = .ok (.nx, En ns s2 rw s4 s5 s6 s7 s8 s9 s10 s11 s12 (.val (.int a)) (.val (.int b)) (.val (.lst ds)) s16 s17 s18 s19 s20) st := by
  simp only [s_law_11, evSs, evS, evE, evEs, evBs, evO, evT, evI, rd_k, rd_g, rd_bin, rd_neg, rd_not, rd_and, rd_or, rd_cmp, rd_chain, rd_ite, rd_tup, rd_lst, rd_ix, rd_sl, rd_rev, rd_call, rd_sumL, rd_join, rd_cnt, rd_stp, rd_bf, rd_isI, rd_v, R.bind, lift_ok, lift_ex, of_some, asB_ok, asB_ex, asI_ok, asI_ex, asD_ok, asD_ex, fold2_t, fold2_f, fold2_ex, keepIf_t, keepIf_f, ntup_some, calm_o, items_t, items_l, slotR, sl_v, b_add, b_sub, c_eq, c_ne, c_lt, c_le, c_gt, c_ge, f_lenL, f_lenT, f_tupL, f_tupT, f_lstL, f_lstT, f_int, f_abs, i_int, i_intB, i_intN, i_intT, i_intL, i_intS, i_bool, i_boolB, i_tup, i_tupN, i_tupL, i_tupI, x_tup, x_lst, l_tup, l_lst, r_lst, r_tup, q_lst, q_tup, z_lst, z_tup, t_one, w_nil, w_cons, sget_0, sget_S, List.set_cons_zero, List.set_cons_succ, Option.map_some, Option.bind_some, eqD_int, Bool.not_true, Bool.not_false, sz_0, szT_0, sz_1, szT_1, sz_2, szT_2, sz_3, szT_3, sz_4, szT_4, sz_5, szT_5, sz_6, szT_6, t_many2, t_many3, t_many4, t_lst2, t_lst3, e, q]
theorem law_11 {w b : Nat} (h : Row rw) (hw : w ≤ 3) (hb : b ≤ 2) : evS (C (n + 20)) fuelL s_law_11 (En ns s2 rw s4 s5 s6 s7 s8 s9 s10 s11 s12 (.val (natD w)) (.val (natD b)) (.val (.lst ((soL rw w b rw.length 0).map natD))) s16 s17 s18 s19 s20) st = .ok (.nx, En ns s2 rw s4 s5 s6 s7 s8 s9 s10 s11 s12 (.val (natD w)) (.val (natD b)) (.val (.lst ((soL rw w b rw.length 0).map natD))) s16 s17 s18 s19 s20) st :=
  l11_ev (so_ok h (by omega) (by omega) (by omega)) (eqD_nats _)
theorem l12_ev {a Ni : Int} (hN : (rw.length : Int) = Ni) (e : C (n + 20) 19 [.ref 0, .int Ni] (Dw cs j) = .ok (.int a) (Dw cs (j + 1))) : evS (C (n + 20)) fuelL s_law_12 (En ns s2 rw s4 s5 s6 s7 s8 s9 s10 s11 s12 s13 s14 s15 s16 s17 s18 s19 s20) (Dw cs j) = .ok (.nx, En ns s2 rw s4 s5 s6 s7 s8 s9 s10 s11 s12 s13 s14 s15 (.val (.int a)) s17 s18 s19 s20) (Dw cs (j + 1)) := by
  simp only [s_law_12, evSs, evS, evE, evEs, evBs, evO, evT, evI, rd_k, rd_g, rd_bin, rd_neg, rd_not, rd_and, rd_or, rd_cmp, rd_chain, rd_ite, rd_tup, rd_lst, rd_ix, rd_sl, rd_rev, rd_call, rd_sumL, rd_join, rd_cnt, rd_stp, rd_bf, rd_isI, rd_v, R.bind, lift_ok, lift_ex, of_some, asB_ok, asB_ex, asI_ok, asI_ex, asD_ok, asD_ex, fold2_t, fold2_f, fold2_ex, keepIf_t, keepIf_f, ntup_some, calm_o, items_t, items_l, slotR, sl_v, b_add, b_sub, c_eq, c_ne, c_lt, c_le, c_gt, c_ge, f_lenL, f_lenT, f_tupL, f_tupT, f_lstL, f_lstT, f_int, f_abs, i_int, i_intB, i_intN, i_intT, i_intL, i_intS, i_bool, i_boolB, i_tup, i_tupN, i_tupL, i_tupI, x_tup, x_lst, l_tup, l_lst, r_lst, r_tup, q_lst, q_tup, z_lst, z_tup, t_one, w_nil, w_cons, sget_0, sget_S, List.set_cons_zero, List.set_cons_succ, Option.map_some, Option.bind_some, eqD_int, Bool.not_true, Bool.not_false, sz_0, szT_0, sz_1, szT_1, sz_2, szT_2, sz_3, szT_3, sz_4, szT_4, sz_5, szT_5, sz_6, szT_6, t_many2, t_many3, t_many4, t_lst2, t_lst3, List.length_map, hN, e]
theorem law_12 (h : Row rw) (hj : 0 ≤ j) : ∃ a : Nat, a < rw.length ∧ evS (C (n + 20)) fuelL s_law_12 (En ns s2 rw s4 s5 s6 s7 s8 s9 s10 s11 s12 s13 s14 s15 s16 s17 s18 s19 s20) (Dw cs j) = .ok (.nx, En ns s2 rw s4 s5 s6 s7 s8 s9 s10 s11 s12 s13 s14 s15 (.val (natD a)) s17 s18 s19 s20) (Dw cs (j + 1)) := by
  have hp := h.p
  obtain ⟨r, r1, r2, e⟩ := next_ok (n := n + 17) (cs := cs) (j := j) (b := (rw.length : Int)) hj (by omega)
  obtain ⟨a, rfl⟩ := Int.eq_ofNat_of_zero_le r1
  exact ⟨a, by omega, l12_ev rfl e⟩
theorem l13_ev {a r : Int} {w : List D} (e : C (n + 20) 19 [.ref 0, .int 3] (Dw cs j) = .ok (.int r) (Dw cs (j + 1))) (hc : Eng.cutD (rw.map D.int) (some a) (some (a + 1 + r)) = w) : evS (C (n + 20)) fuelL s_law_13 (En ns s2 rw s4 s5 s6 s7 s8 s9 s10 s11 s12 s13 s14 s15 (.val (.int a)) s17 s18 s19 s20) (Dw cs j) = .ok (.nx, En ns s2 rw s4 s5 s6 s7 s8 s9 s10 s11 (.val (.tup w)) s13 s14 s15 (.val (.int a)) s17 s18 s19 s20) (Dw cs (j + 1)) := by
  simp only [s_law_13, evSs, evS, evE, evEs, evBs, evO, evT, evI, rd_k, rd_g, rd_bin, rd_neg, rd_not, rd_and, rd_or, rd_cmp, rd_chain, rd_ite, rd_tup, rd_lst, rd_ix, rd_sl, rd_rev, rd_call, rd_sumL, rd_join, rd_cnt, rd_stp, rd_bf, rd_isI, rd_v, R.bind, lift_ok, lift_ex, of_some, asB_ok, asB_ex, asI_ok, asI_ex, asD_ok, asD_ex, fold2_t, fold2_f, fold2_ex, keepIf_t, keepIf_f, ntup_some, calm_o, items_t, items_l, slotR, sl_v, b_add, b_sub, c_eq, c_ne, c_lt, c_le, c_gt, c_ge, f_lenL, f_lenT, f_tupL, f_tupT, f_lstL, f_lstT, f_int, f_abs, i_int, i_intB, i_intN, i_intT, i_intL, i_intS, i_bool, i_boolB, i_tup, i_tupN, i_tupL, i_tupI, x_tup, x_lst, l_tup, l_lst, r_lst, r_tup, q_lst, q_tup, z_lst, z_tup, t_one, w_nil, w_cons, sget_0, sget_S, List.set_cons_zero, List.set_cons_succ, Option.map_some, Option.bind_some, eqD_int, Bool.not_true, Bool.not_false, sz_0, szT_0, sz_1, szT_1, sz_2, szT_2, sz_3, szT_3, sz_4, szT_4, sz_5, szT_5, sz_6, szT_6, t_many2, t_many3, t_many4, t_lst2, t_lst3, e, hc]
theorem law_13 {a : Nat} (h : Row rw) (ha : a < rw.length) (hj : 0 ≤ j) : ∃ pt : List Int, pt ≠ [] ∧ pt.length ≤ 3 ∧ evS (C (n + 20)) fuelL s_law_13 (En ns s2 rw s4 s5 s6 s7 s8 s9 s10 s11 s12 s13 s14 s15 (.val (natD a)) s17 s18 s19 s20) (Dw cs j) = .ok (.nx, En ns s2 rw s4 s5 s6 s7 s8 s9 s10 s11 (.val (T pt)) s13 s14 s15 (.val (natD a)) s17 s18 s19 s20) (Dw cs (j + 1)) := by
  obtain ⟨r, r1, r2, e⟩ := next_ok (n := n + 17) (cs := cs) (j := j) (b := 3) hj (by decide)
  obtain ⟨b, rfl⟩ := Int.eq_ofNat_of_zero_le r1
  refine ⟨(rw.drop a).take (b + 1), fun z => ?_, ?_, l13_ev e ?_⟩
  · have := congrArg List.length z
    rw [List.length_take, List.length_drop, List.length_nil] at this
    omega
  · rw [List.length_take]
    omega
  · rw [show (a : Int) + 1 + (b : Int) = ((a + (b + 1) : Nat) : Int) by omega, cut_ij, Nat.add_sub_cancel_left, List.map_take, List.map_drop]
theorem el_fa {env : Eng.Env} {ai pl : Int} {pt : List Int} {w : List D} {b : Bool} (h3 : sget env 3 = .val (T rw)) (h10 : sget env 10 = .val (.int ai)) (h12 : sget env 12 = .val (T pt)) (hp : (pt.length : Int) = pl) (hc : Eng.cutD (rw.map D.int) (some ai) (some (ai + pl)) = w) (q : eqD (.tup w) (T pt) = some b) : evE (C n) (.cmp .eq (.sl (.v 3) (.cons (.v 10) .nil) (.cons (.bin .add (.v 10) (.bf .len (.cons (.v 12) .nil))) .nil)) (.v 12)) env st = .ok (.bl b) st := by
  simp only [evSs, evS, evE, evEs, evBs, evO, evT, evI, rd_k, rd_g, rd_bin, rd_neg, rd_not, rd_and, rd_or, rd_cmp, rd_chain, rd_ite, rd_tup, rd_lst, rd_ix, rd_sl, rd_rev, rd_call, rd_sumL, rd_join, rd_cnt, rd_stp, rd_bf, rd_isI, rd_v, R.bind, lift_ok, lift_ex, of_some, asB_ok, asB_ex, asI_ok, asI_ex, asD_ok, asD_ex, fold2_t, fold2_f, fold2_ex, keepIf_t, keepIf_f, ntup_some, calm_o, items_t, items_l, slotR, sl_v, b_add, b_sub, c_eq, c_ne, c_lt, c_le, c_gt, c_ge, f_lenL, f_lenT, f_tupL, f_tupT, f_lstL, f_lstT, f_int, f_abs, i_int, i_intB, i_intN, i_intT, i_intL, i_intS, i_bool, i_boolB, i_tup, i_tupN, i_tupL, i_tupI, x_tup, x_lst, l_tup, l_lst, r_lst, r_tup, q_lst, q_tup, z_lst, z_tup, t_one, w_nil, w_cons, sget_0, sget_S, List.set_cons_zero, List.set_cons_succ, Option.map_some, Option.bind_some, eqD_int, Bool.not_true, Bool.not_false, sz_0, szT_0, sz_1, szT_1, sz_2, szT_2, sz_3, szT_3, sz_4, szT_4, sz_5, szT_5, sz_6, szT_6, t_many2, t_many3, t_many4, t_lst2, t_lst3, h3, h10, h12, List.length_map, hp, hc, q]
theorem fa_x2 {pt : List Int} (hl : rw.length ≤ 1000) : evE (C n) x_law_11 (En ns s2 rw s4 s5 s6 s7 s8 s9 s10 s11 (.val (T pt)) s13 s14 s15 s16 s17 s18 s19 s20) st = .ok (.lst ((fa rw pt rw.length).map natD)) st := by
  refine lc_bind' (rng_len3 rfl (range_k rw.length (by omega))) ?_ (by rw [List.length_map]; exact Nat.le_trans (List.length_filter_le _ _) (by rw [List.length_range]; omega))
  exact turns_filter natD (fun i => decide ((rw.drop i).take pt.length = pt)) natD fun i hi => by
    have q := eqD_ints ((rw.drop i).take pt.length) pt
    exact el_if (i := 10) (el_fa rfl rfl rfl rfl (cut_part pt i) q) (v_ok rfl)
theorem ife_f {call : Nat → List D → Sto → R D} {L : Nat} {c : E} {a : Ss} {env : Eng.Env} {s s1 : Sto} (h : evE call c env s = .ok (.bl false) s1) : evS call L (.ife c a .nil) env s = .ok (.nx, env) s1 := by
  show lift (asB (evE call c env s)) _ _ = _
  rw [h] <;> rfl
theorem cmp_ok {call : Nat → List D → Sto → R D} {o : COp} {a b : E} {x y : D} {r : Bool} {env : Eng.Env} {s s1 s2 : Sto} (h1 : evE call a env s = .ok x s1) (h2 : evE call b env s1 = .ok y s2) (h : cmpop o x y = some r) (ha : ∀ s1 z, rdB a env s1 z = z := by intros; rfl) (hb : ∀ s1 z, rdB b env s1 z = z := by intros; rfl) : evE call (.cmp o a b) env s = .ok (.bl r) s2 := by
  simp only [evE, ha, hb, h1, h2, R.bind, h, of_some, asD_ok]
theorem call_vv {call : Nat → List D → Sto → R D} {f i k : Nat} {x y r : D} {env : Eng.Env} {s s1 : Sto} (h1 : sget env i = .val x) (h2 : sget env k = .val y) (e : call f [x, y] s = .ok r s1) : evE call (.call f (.cons (.v i) (.cons (.v k) .nil))) env s = .ok r s1 := by
  simp only [evSs, evS, evE, evEs, evBs, evO, evT, evI, rd_k, rd_g, rd_bin, rd_neg, rd_not, rd_and, rd_or, rd_cmp, rd_chain, rd_ite, rd_tup, rd_lst, rd_ix, rd_sl, rd_rev, rd_call, rd_sumL, rd_join, rd_cnt, rd_stp, rd_bf, rd_isI, rd_v, R.bind, lift_ok, lift_ex, of_some, asB_ok, asB_ex, asI_ok, asI_ex, asD_ok, asD_ex, fold2_t, fold2_f, fold2_ex, keepIf_t, keepIf_f, ntup_some, calm_o, items_t, items_l, slotR, sl_v, b_add, b_sub, c_eq, c_ne, c_lt, c_le, c_gt, c_ge, f_lenL, f_lenT, f_tupL, f_tupT, f_lstL, f_lstT, f_int, f_abs, i_int, i_intB, i_intN, i_intT, i_intL, i_intS, i_bool, i_boolB, i_tup, i_tupN, i_tupL, i_tupI, x_tup, x_lst, l_tup, l_lst, r_lst, r_tup, q_lst, q_tup, z_lst, z_tup, t_one, w_nil, w_cons, sget_0, sget_S, List.set_cons_zero, List.set_cons_succ, Option.map_some, Option.bind_some, eqD_int, Bool.not_true, Bool.not_false, sz_0, szT_0, sz_1, szT_1, sz_2, szT_2, sz_3, szT_3, sz_4, szT_4, sz_5, szT_5, sz_6, szT_6, t_many2, t_many3, t_many4, t_lst2, t_lst3, h1, h2, e]
theorem ne_of {x y : D} {b : Bool} (h : eqD x y = some b) : cmpop .ne x y = some (!b) := by
  show (eqD x y).map (!·) = _
  rw [h] <;> rfl
theorem l14_ev {pt : List Int} {ds : List D} (e : C (n + 20) 14 [T rw, T pt] st = .ok (.tup ds) st) (b : evE (C (n + 20)) x_law_11 (En ns s2 rw s4 s5 s6 s7 s8 s9 s10 s11 (.val (T pt)) s13 s14 s15 s16 s17 s18 s19 s20) st = .ok (.lst ds) st) (q : eqD (.tup ds) (.tup ds) = some true) : evS (C (n + 20)) fuelL s_law_14 (En ns s2 rw s4 s5 s6 s7 s8 s9 s10 s11 (.val (T pt)) s13 s14 s15 s16 s17 s18 s19 s20) st = .ok (.nx, En ns s2 rw s4 s5 s6 s7 s8 s9 s10 s11 (.val (T pt)) s13 s14 s15 s16 s17 s18 s19 s20) st := ife_f (cmp_ok (call_vv rfl rfl e) (bf_1 ((x_law_11_rd _ _ _).trans b) rfl) (ne_of q))
theorem law_14 {pt : List Int} (h : Row rw) (hp : pt ≠ []) (hl2 : pt.length ≤ 3) : evS (C (n + 20)) fuelL s_law_14 (En ns s2 rw s4 s5 s6 s7 s8 s9 s10 s11 (.val (T pt)) s13 s14 s15 s16 s17 s18 s19 s20) st = .ok (.nx, En ns s2 rw s4 s5 s6 s7 s8 s9 s10 s11 (.val (T pt)) s13 s14 s15 s16 s17 s18 s19 s20) st :=
  l14_ev (first_ok h hp (by omega)) (fa_x2 (by have := h.l; omega)) (eqD_nats _)
theorem law_15 : evS (C (n + 20)) fuelL s_law_15 (En ns s2 rw s4 s5 s6 s7 s8 s9 s10 s11 s12 s13 s14 s15 s16 s17 s18 s19 s20) st = .ok (.nx, En ns s2 rw s4 s5 s6 s7 s8 s9 s10 s11 s12 s13 s14 s15 s16 (.val (b3D (0, 0, 0))) s18 s19 s20) st := by
  simp only [s_law_15, evSs, evS, evE, evEs, evBs, evO, evT, evI, rd_k, rd_g, rd_bin, rd_neg, rd_not, rd_and, rd_or, rd_cmp, rd_chain, rd_ite, rd_tup, rd_lst, rd_ix, rd_sl, rd_rev, rd_call, rd_sumL, rd_join, rd_cnt, rd_stp, rd_bf, rd_isI, rd_v, R.bind, lift_ok, lift_ex, of_some, asB_ok, asB_ex, asI_ok, asI_ex, asD_ok, asD_ex, fold2_t, fold2_f, fold2_ex, keepIf_t, keepIf_f, ntup_some, calm_o, items_t, items_l, slotR, sl_v, b_add, b_sub, c_eq, c_ne, c_lt, c_le, c_gt, c_ge, f_lenL, f_lenT, f_tupL, f_tupT, f_lstL, f_lstT, f_int, f_abs, i_int, i_intB, i_intN, i_intT, i_intL, i_intS, i_bool, i_boolB, i_tup, i_tupN, i_tupL, i_tupI, x_tup, x_lst, l_tup, l_lst, r_lst, r_tup, q_lst, q_tup, z_lst, z_tup, t_one, w_nil, w_cons, sget_0, sget_S, List.set_cons_zero, List.set_cons_succ, Option.map_some, Option.bind_some, eqD_int, Bool.not_true, Bool.not_false, sz_0, szT_0, sz_1, szT_1, sz_2, szT_2, sz_3, szT_3, sz_4, szT_4, sz_5, szT_5, sz_6, szT_6, t_many2, t_many3, t_many4, t_lst2, t_lst3]
  rfl
theorem call_1 {call : Nat → List D → Sto → R D} {f i : Nat} {d r : D} {env : Eng.Env} {s s1 : Sto} (h : sget env i = .val d) (e : call f [d] s = .ok r s1) : evE call (.call f (.cons (.v i) .nil)) env s = .ok r s1 := by
  simp only [evSs, evS, evE, evEs, evBs, evO, evT, evI, rd_k, rd_g, rd_bin, rd_neg, rd_not, rd_and, rd_or, rd_cmp, rd_chain, rd_ite, rd_tup, rd_lst, rd_ix, rd_sl, rd_rev, rd_call, rd_sumL, rd_join, rd_cnt, rd_stp, rd_bf, rd_isI, rd_v, R.bind, lift_ok, lift_ex, of_some, asB_ok, asB_ex, asI_ok, asI_ex, asD_ok, asD_ex, fold2_t, fold2_f, fold2_ex, keepIf_t, keepIf_f, ntup_some, calm_o, items_t, items_l, slotR, sl_v, b_add, b_sub, c_eq, c_ne, c_lt, c_le, c_gt, c_ge, f_lenL, f_lenT, f_tupL, f_tupT, f_lstL, f_lstT, f_int, f_abs, i_int, i_intB, i_intN, i_intT, i_intL, i_intS, i_bool, i_boolB, i_tup, i_tupN, i_tupL, i_tupI, x_tup, x_lst, l_tup, l_lst, r_lst, r_tup, q_lst, q_tup, z_lst, z_tup, t_one, w_nil, w_cons, sget_0, sget_S, List.set_cons_zero, List.set_cons_succ, Option.map_some, Option.bind_some, eqD_int, Bool.not_true, Bool.not_false, sz_0, szT_0, sz_1, szT_1, sz_2, szT_2, sz_3, szT_3, sz_4, szT_4, sz_5, szT_5, sz_6, szT_6, t_many2, t_many3, t_many4, t_lst2, t_lst3, h, e]
theorem cmp_rd {call : Nat → List D → Sto → R D} {o : COp} {a b : E} {x y : D} {r : Bool} {env : Eng.Env} {s s1 s2 : Sto} (h1 : rdB a env s (evE call a env s) = .ok x s1) (h2 : rdB b env s1 (evE call b env s1) = .ok y s2) (h : cmpop o x y = some r) : evE call (.cmp o a b) env s = .ok (.bl r) s2 := by
  simp only [evE, h1, h2, R.bind, h, of_some, asD_ok]
theorem v_rd {call : Nat → List D → Sto → R D} {i : Nat} {d : D} {env : Eng.Env} {s : Sto} (h : sget env i = .val d) : rdB (.v i) env s (evE call (.v i) env s) = .ok d s := by
  rw [rd_v, h]
theorem rd_c {call : Nat → List D → Sto → R D} {f : Nat} {es : Es} {env : Eng.Env} {s : Sto} {r : R D} (h : evE call (.call f es) env s = r) : rdB (.call f es) env s (evE call (.call f es) env s) = r := h
theorem rng_12 {env : Eng.Env} {bi Ni : Int} {ds : List D} (h3 : sget env 3 = .val (T rw)) (h19 : sget env 19 = .val (.int bi)) (hN : (rw.length : Int) = Ni) (hr : rangeD 1 (Ni - bi + 1) = some ds) : evI (C n) (.rng2 (.k (.int (1))) (.bin .add (.bin .sub (.bf .len (.cons (.v 3) .nil)) (.v 19)) (.k (.int (1))))) env st = .ok ds st := by
  simp only [evSs, evS, evE, evEs, evBs, evO, evT, evI, rd_k, rd_g, rd_bin, rd_neg, rd_not, rd_and, rd_or, rd_cmp, rd_chain, rd_ite, rd_tup, rd_lst, rd_ix, rd_sl, rd_rev, rd_call, rd_sumL, rd_join, rd_cnt, rd_stp, rd_bf, rd_isI, rd_v, R.bind, lift_ok, lift_ex, of_some, asB_ok, asB_ex, asI_ok, asI_ex, asD_ok, asD_ex, fold2_t, fold2_f, fold2_ex, keepIf_t, keepIf_f, ntup_some, calm_o, items_t, items_l, slotR, sl_v, b_add, b_sub, c_eq, c_ne, c_lt, c_le, c_gt, c_ge, f_lenL, f_lenT, f_tupL, f_tupT, f_lstL, f_lstT, f_int, f_abs, i_int, i_intB, i_intN, i_intT, i_intL, i_intS, i_bool, i_boolB, i_tup, i_tupN, i_tupL, i_tupI, x_tup, x_lst, l_tup, l_lst, r_lst, r_tup, q_lst, q_tup, z_lst, z_tup, t_one, w_nil, w_cons, sget_0, sget_S, List.set_cons_zero, List.set_cons_succ, Option.map_some, Option.bind_some, eqD_int, Bool.not_true, Bool.not_false, sz_0, szT_0, sz_1, szT_1, sz_2, szT_2, sz_3, szT_3, sz_4, szT_4, sz_5, szT_5, sz_6, szT_6, t_many2, t_many3, t_many4, t_lst2, t_lst3, h3, h19, List.length_map, hN, hr]
theorem el_cp {env : Eng.Env} {ai bi k : Int} {w1 w2 : List D} {b : Bool} (h3 : sget env 3 = .val (T rw)) (h18 : sget env 18 = .val (.int ai)) (h19 : sget env 19 = .val (.int bi)) (h24 : sget env 24 = .val (.int k)) (hc : Eng.cutD (rw.map D.int) (some ai) (some (ai + k)) = w1) (hd : Eng.cutD (rw.map D.int) (some bi) (some (bi + k)) = w2) (q : eqD (.tup w1) (.tup w2) = some b) : evE (C n) (.cmp .eq (.sl (.v 3) (.cons (.v 18) .nil) (.cons (.bin .add (.v 18) (.v 24)) .nil)) (.sl (.v 3) (.cons (.v 19) .nil) (.cons (.bin .add (.v 19) (.v 24)) .nil))) env st = .ok (.bl b) st := by
  simp only [evSs, evS, evE, evEs, evBs, evO, evT, evI, rd_k, rd_g, rd_bin, rd_neg, rd_not, rd_and, rd_or, rd_cmp, rd_chain, rd_ite, rd_tup, rd_lst, rd_ix, rd_sl, rd_rev, rd_call, rd_sumL, rd_join, rd_cnt, rd_stp, rd_bf, rd_isI, rd_v, R.bind, lift_ok, lift_ex, of_some, asB_ok, asB_ex, asI_ok, asI_ex, asD_ok, asD_ex, fold2_t, fold2_f, fold2_ex, keepIf_t, keepIf_f, ntup_some, calm_o, items_t, items_l, slotR, sl_v, b_add, b_sub, c_eq, c_ne, c_lt, c_le, c_gt, c_ge, f_lenL, f_lenT, f_tupL, f_tupT, f_lstL, f_lstT, f_int, f_abs, i_int, i_intB, i_intN, i_intT, i_intL, i_intS, i_bool, i_boolB, i_tup, i_tupN, i_tupL, i_tupI, x_tup, x_lst, l_tup, l_lst, r_lst, r_tup, q_lst, q_tup, z_lst, z_tup, t_one, w_nil, w_cons, sget_0, sget_S, List.set_cons_zero, List.set_cons_succ, Option.map_some, Option.bind_some, eqD_int, Bool.not_true, Bool.not_false, sz_0, szT_0, sz_1, szT_1, sz_2, szT_2, sz_3, szT_3, sz_4, szT_4, sz_5, szT_5, sz_6, szT_6, t_many2, t_many3, t_many4, t_lst2, t_lst3, h3, h18, h19, h24, hc, hd, q]
theorem cut_k (a k : Nat) : Eng.cutD (rw.map D.int) (some (a : Int)) (some ((a : Int) + (k : Int))) = ((rw.drop a).take k).map .int := by
  rw [show (a : Int) + (k : Int) = ((a + k : Nat) : Int) by omega, cut_ij, Nat.add_sub_cancel_left, List.map_take, List.map_drop]
def cpL (rw : List Int) (a b : Nat) : List Nat := ((List.range (rw.length - b)).map (1 + ·)).filter fun k => decide ((rw.drop a).take k = (rw.drop b).take k)
theorem cpL_len {a b : Nat} (hab : a ≤ b) (hb : b ≤ rw.length) : (cpL rw a b).length = lcp rw a b (rw.length - b) := by
  have hle := lcp_le rw (rw.length - b) a b
  have hc := count_lt (lcp rw a b (rw.length - b)) (rw.length - b) hle
  refine Eq.trans ?_ hc
  unfold cpL
  rw [List.filter_map, List.length_map]
  congr 1
  refine List.filter_congr fun i hi => ?_
  have hi := List.mem_range.mp hi
  have t := take_lcp (rw := rw) (rw.length - b) a b (1 + i) rfl hab hb (by omega)
  show decide ((rw.drop a).take (1 + i) = (rw.drop b).take (1 + i)) = _
  rw [decide_eq_decide, t]
  omega
theorem cp_x {a b : Nat} (hl : rw.length ≤ 1000) (hb : b ≤ rw.length) : evE (C n) x_law_12 (En ns s2 rw s4 s5 s6 s7 s8 s9 s10 s11 s12 s13 s14 s15 s16 s17 (.val (natD a)) (.val (natD b)) s20) st = .ok (.lst ((cpL rw a b).map natD)) st := by
  have hr : rangeD 1 ((rw.length : Int) - (b : Int) + 1) = some (((List.range (rw.length - b)).map (1 + ·)).map natD) := by
    rw [show (rw.length : Int) - (b : Int) + 1 = ((rw.length - b : Nat) : Int) + 1 by omega, range_1p (by omega), List.map_map] <;> rfl
  refine lc_bind' (rng_12 rfl rfl rfl hr) ?_ (by rw [List.length_map]; exact Nat.le_trans (List.length_filter_le _ _) (by rw [List.length_map, List.length_range]; omega))
  exact turns_filter natD (fun k => decide ((rw.drop a).take k = (rw.drop b).take k)) natD fun k hk => by
    have q := eqD_ints ((rw.drop a).take k) ((rw.drop b).take k)
    exact el_if (i := 24) (el_cp rfl rfl rfl rfl (cut_k a k) (cut_k b k) q) (v_ok rfl)
theorem el_up {call : Nat → List D → Sto → R D} {env : Eng.Env} {bd : D} {b0 l a k : Int} {c : Bool} {s : Sto} (h17 : sget env 17 = .val bd) (h20 : sget env 20 = .val (.int l)) (h18 : sget env 18 = .val (.int a)) (h19 : sget env 19 = .val (.int k)) (h0 : ∀ s : Sto, ixS bd (.int 0) s = .ok (.int b0) s) (hc : decide (b0 < l) = c) : evE call (.ite (.cmp .gt (.v 20) (.ix (.v 17) (.k (.int (0))))) (.tup (.cons (.v 20) (.cons (.v 18) (.cons (.v 19) .nil)))) (.v 17)) env s = .ok (if c = true then .tup [.int l, .int a, .int k] else bd) s := by
  cases c
  · simp only [evSs, evS, evE, evEs, evBs, evO, evT, evI, rd_k, rd_g, rd_bin, rd_neg, rd_not, rd_and, rd_or, rd_cmp, rd_chain, rd_ite, rd_tup, rd_lst, rd_ix, rd_sl, rd_rev, rd_call, rd_sumL, rd_join, rd_cnt, rd_stp, rd_bf, rd_isI, rd_v, R.bind, lift_ok, lift_ex, of_some, asB_ok, asB_ex, asI_ok, asI_ex, asD_ok, asD_ex, fold2_t, fold2_f, fold2_ex, keepIf_t, keepIf_f, ntup_some, calm_o, items_t, items_l, slotR, sl_v, b_add, b_sub, c_eq, c_ne, c_lt, c_le, c_gt, c_ge, f_lenL, f_lenT, f_tupL, f_tupT, f_lstL, f_lstT, f_int, f_abs, i_int, i_intB, i_intN, i_intT, i_intL, i_intS, i_bool, i_boolB, i_tup, i_tupN, i_tupL, i_tupI, x_tup, x_lst, l_tup, l_lst, r_lst, r_tup, q_lst, q_tup, z_lst, z_tup, t_one, w_nil, w_cons, sget_0, sget_S, List.set_cons_zero, List.set_cons_succ, Option.map_some, Option.bind_some, eqD_int, Bool.not_true, Bool.not_false, sz_0, szT_0, sz_1, szT_1, sz_2, szT_2, sz_3, szT_3, sz_4, szT_4, sz_5, szT_5, sz_6, szT_6, t_many2, t_many3, t_many4, t_lst2, t_lst3, h17, h18, h19, h20, h0, hc, if_neg Bool.false_ne_true]
  · simp only [evSs, evS, evE, evEs, evBs, evO, evT, evI, rd_k, rd_g, rd_bin, rd_neg, rd_not, rd_and, rd_or, rd_cmp, rd_chain, rd_ite, rd_tup, rd_lst, rd_ix, rd_sl, rd_rev, rd_call, rd_sumL, rd_join, rd_cnt, rd_stp, rd_bf, rd_isI, rd_v, R.bind, lift_ok, lift_ex, of_some, asB_ok, asB_ex, asI_ok, asI_ex, asD_ok, asD_ex, fold2_t, fold2_f, fold2_ex, keepIf_t, keepIf_f, ntup_some, calm_o, items_t, items_l, slotR, sl_v, b_add, b_sub, c_eq, c_ne, c_lt, c_le, c_gt, c_ge, f_lenL, f_lenT, f_tupL, f_tupT, f_lstL, f_lstT, f_int, f_abs, i_int, i_intB, i_intN, i_intT, i_intL, i_intS, i_bool, i_boolB, i_tup, i_tupN, i_tupL, i_tupI, x_tup, x_lst, l_tup, l_lst, r_lst, r_tup, q_lst, q_tup, z_lst, z_tup, t_one, w_nil, w_cons, sget_0, sget_S, List.set_cons_zero, List.set_cons_succ, Option.map_some, Option.bind_some, eqD_int, Bool.not_true, Bool.not_false, sz_0, szT_0, sz_1, szT_1, sz_2, szT_2, sz_3, szT_3, sz_4, szT_4, sz_5, szT_5, sz_6, szT_6, t_many2, t_many3, t_many4, t_lst2, t_lst3, h17, h18, h19, h20, h0, hc, if_true]
theorem f3_turn {best : Tr} {a k : Nat} (h : Row rw) (hab : a < k) (hb : k < rw.length) : evSs (C (n + 20)) fuelL f_law_3 (En ns s2 rw s4 s5 s6 s7 s8 s9 s10 s11 s12 s13 s14 s15 s16 (.val (b3D best)) (.val (natD a)) (.val (natD k)) s20) st = .ok (.nx, En ns s2 rw s4 s5 s6 s7 s8 s9 s10 s11 s12 s13 s14 s15 s16 (.val (b3D (upd3 best (lcp rw a k (rw.length - k)) a k))) (.val (natD a)) (.val (natD k)) (.val (natD (lcp rw a k (rw.length - k))))) st := by
  have hl := h.l
  have b := cp_x (n := n + 20) (ns := ns) (st := st) (rw := rw) (s2 := s2) (s4 := s4) (s5 := s5) (s6 := s6) (s7 := s7) (s8 := s8) (s9 := s9) (s10 := s10) (s11 := s11) (s12 := s12) (s13 := s13) (s14 := s14) (s15 := s15) (s16 := s16) (s17 := .val (b3D best)) (s20 := s20) (a := a) (b := k) (by omega) (by omega)
  have hlen : bfop .len [.lst ((cpL rw a k).map natD)] = some (natD (lcp rw a k (rw.length - k))) := by
    rw [f_lenL, List.length_map, cpL_len (by omega) (by omega)]
  have e0 := asg_ok (L := fuelL) (i := 20) (bf_1 (b := .len) ((x_law_12_rd _ _ _).trans b) hlen)
  refine (ss_nx e0).trans (ss_nx (ss := .nil) ?_)
  have e1 := el_up (call := C (n + 20)) (s := st) (env := (En ns s2 rw s4 s5 s6 s7 s8 s9 s10 s11 s12 s13 s14 s15 s16 (.val (b3D best)) (.val (natD a)) (.val (natD k)) (.val (natD (lcp rw a k (rw.length - k)))))) (b0 := (best.1 : Int)) rfl rfl rfl rfl (fun _ => rfl) rfl
  have eu : (if decide ((best.1 : Int) < (lcp rw a k (rw.length - k) : Int)) = true then D.tup [.int (lcp rw a k (rw.length - k) : Int), .int (a : Int), .int (k : Int)] else b3D best) = b3D (upd3 best (lcp rw a k (rw.length - k)) a k) := by
    unfold upd3
    generalize lcp rw a k (rw.length - k) = l
    by_cases q : best.1 < l
    · rw [if_pos q, if_pos (decide_eq_true (by omega))] <;> rfl
    · rw [if_neg q, if_neg (by rw [decide_eq_false (by omega)]; exact Bool.false_ne_true)]
  rw [eu] at e1
  exact asg_ok e1
theorem f3_loop {a : Nat} (h : Row rw) : ∀ (js : List Nat) (best : Tr) (s19 s20 : Sl), (∀ j ∈ js, a < j ∧ j < rw.length) → ∃ z19 z20, loopF (tgSet (.one 19)) (fun env s => evSs (C (n + 20)) fuelL f_law_3 env s) (js.map natD) (En ns s2 rw s4 s5 s6 s7 s8 s9 s10 s11 s12 s13 s14 s15 s16 (.val (b3D best)) (.val (natD a)) s19 s20) st =
    .ok (.nx, En ns s2 rw s4 s5 s6 s7 s8 s9 s10 s11 s12 s13 s14 s15 s16 (.val (b3D (js.foldl (fun b j => upd3 b (lcp rw a j (rw.length - j)) a j) best))) (.val (natD a)) z19 z20) st
  | [], best, s19, s20, _ => ⟨s19, s20, rfl⟩
  | j :: js, best, s19, s20, hj => by
    obtain ⟨j1, j2⟩ := hj j List.mem_cons_self
    have u := f3_turn (n := n) (ns := ns) (st := st) (rw := rw) (s2 := s2) (s4 := s4) (s5 := s5) (s6 := s6) (s7 := s7) (s8 := s8) (s9 := s9) (s10 := s10) (s11 := s11) (s12 := s12) (s13 := s13) (s14 := s14) (s15 := s15) (s16 := s16) (s20 := s20) (best := best) h j1 j2
    obtain ⟨z19, z20, w⟩ := f3_loop (a := a) h js (upd3 best (lcp rw a j (rw.length - j)) a j) (.val (natD j)) (.val (natD (lcp rw a j (rw.length - j)))) fun q hq => hj q (List.mem_cons_of_mem _ hq)
    exact ⟨z19, z20, (loopF_step (by rw [t_one] <;> rfl) u).trans w⟩
theorem rng_18 {env : Eng.Env} {ai Ni : Int} {ds : List D} (h3 : sget env 3 = .val (T rw)) (h18 : sget env 18 = .val (.int ai)) (hN : (rw.length : Int) = Ni) (hr : rangeD (ai + 1) Ni = some ds) : evI (C n) (.rng2 (.bin .add (.v 18) (.k (.int (1)))) (.bf .len (.cons (.v 3) .nil))) env st = .ok ds st := by
  simp only [evSs, evS, evE, evEs, evBs, evO, evT, evI, rd_k, rd_g, rd_bin, rd_neg, rd_not, rd_and, rd_or, rd_cmp, rd_chain, rd_ite, rd_tup, rd_lst, rd_ix, rd_sl, rd_rev, rd_call, rd_sumL, rd_join, rd_cnt, rd_stp, rd_bf, rd_isI, rd_v, R.bind, lift_ok, lift_ex, of_some, asB_ok, asB_ex, asI_ok, asI_ex, asD_ok, asD_ex, fold2_t, fold2_f, fold2_ex, keepIf_t, keepIf_f, ntup_some, calm_o, items_t, items_l, slotR, sl_v, b_add, b_sub, c_eq, c_ne, c_lt, c_le, c_gt, c_ge, f_lenL, f_lenT, f_tupL, f_tupT, f_lstL, f_lstT, f_int, f_abs, i_int, i_intB, i_intN, i_intT, i_intL, i_intS, i_bool, i_boolB, i_tup, i_tupN, i_tupL, i_tupI, x_tup, x_lst, l_tup, l_lst, r_lst, r_tup, q_lst, q_tup, z_lst, z_tup, t_one, w_nil, w_cons, sget_0, sget_S, List.set_cons_zero, List.set_cons_succ, Option.map_some, Option.bind_some, eqD_int, Bool.not_true, Bool.not_false, sz_0, szT_0, sz_1, szT_1, sz_2, szT_2, sz_3, szT_3, sz_4, szT_4, sz_5, szT_5, sz_6, szT_6, t_many2, t_many3, t_many4, t_lst2, t_lst3, h3, h18, List.length_map, hN, hr]
theorem f4_loop (h : Row rw) : ∀ (as : List Nat) (best : Tr) (s18 s19 s20 : Sl), (∀ a ∈ as, a < rw.length) → ∃ z18 z19 z20, loopF (tgSet (.one 18)) (fun env s => evSs (C (n + 20)) fuelL f_law_4 env s) (as.map natD) (En ns s2 rw s4 s5 s6 s7 s8 s9 s10 s11 s12 s13 s14 s15 s16 (.val (b3D best)) s18 s19 s20) st =
    .ok (.nx, En ns s2 rw s4 s5 s6 s7 s8 s9 s10 s11 s12 s13 s14 s15 s16 (.val (b3D (as.foldl (fun b a => inF rw a b) best))) z18 z19 z20) st
  | [], best, s18, s19, s20, _ => ⟨s18, s19, s20, rfl⟩
  | a :: as, best, s18, s19, s20, ha => by
    have hl := h.l
    have a1 := ha a List.mem_cons_self
    obtain ⟨y19, y20, w⟩ := f3_loop (n := n) (ns := ns) (st := st) (rw := rw) (s2 := s2) (s4 := s4) (s5 := s5) (s6 := s6) (s7 := s7) (s8 := s8) (s9 := s9) (s10 := s10) (s11 := s11) (s12 := s12) (s13 := s13) (s14 := s14) (s15 := s15) (s16 := s16) (a := a) h (betw a rw.length) best s19 s20 fun j hj => betw_mem hj
    have u := for_ok (tg := .one 19) (b := f_law_3) (L := fuelL) (rng_18 (n := n + 20) (st := st) (rw := rw) (ai := (a : Int)) rfl rfl rfl (betw_range a rw.length (by omega) (by omega))) w
    obtain ⟨z18, z19, z20, v⟩ := f4_loop h as (inF rw a best) (.val (natD a)) y19 y20 fun q hq => ha q (List.mem_cons_of_mem _ hq)
    exact ⟨z18, z19, z20, (loopF_step (by rw [t_one] <;> rfl) (ss_nx (ss := .nil) u)).trans v⟩
theorem law_16 (h : Row rw) : ∃ z18 z19 z20, evS (C (n + 20)) fuelL s_law_16 (En ns s2 rw s4 s5 s6 s7 s8 s9 s10 s11 s12 s13 s14 s15 s16 (.val (b3D (0, 0, 0))) s18 s19 s20) st = .ok (.nx, En ns s2 rw s4 s5 s6 s7 s8 s9 s10 s11 s12 s13 s14 s15 s16 (.val (b3D (bestA rw))) z18 z19 z20) st := by
  have hl := h.l
  obtain ⟨z18, z19, z20, v⟩ := f4_loop (n := n) (ns := ns) (st := st) (rw := rw) (s2 := s2) (s4 := s4) (s5 := s5) (s6 := s6) (s7 := s7) (s8 := s8) (s9 := s9) (s10 := s10) (s11 := s11) (s12 := s12) (s13 := s13) (s14 := s14) (s15 := s15) (s16 := s16) h (List.range rw.length) (0, 0, 0) s18 s19 s20 fun a ha => List.mem_range.mp ha
  exact ⟨z18, z19, z20, for_ok (rng_len3 rfl (range_k rw.length (by omega))) v⟩
theorem eqD_b3 (b : Tr) : eqD (b3D b) (b3D b) = some true := (eqD_ints [(b.1 : Int), (b.2.1 : Int), (b.2.2 : Int)] [(b.1 : Int), (b.2.1 : Int), (b.2.2 : Int)]).trans (by rw [decide_eq_true rfl])
theorem law_17 (h : Row rw) : evS (C (n + 20)) fuelL s_law_17 (En ns s2 rw s4 s5 s6 s7 s8 s9 s10 s11 s12 s13 s14 s15 s16 (.val (b3D (bestA rw))) s18 s19 s20) st = .ok (.nx, En ns s2 rw s4 s5 s6 s7 s8 s9 s10 s11 s12 s13 s14 s15 s16 (.val (b3D (bestA rw))) s18 s19 s20) st :=
  ife_f (cmp_rd (rd_c (call_1 rfl (longest_ok h))) (v_rd rfl) (ne_of (eqD_b3 _)))
end
/-! ### refusals -/
section
variable {n : Nat} {cs rw : List Int} {st : Sto} {j : Int}
theorem per_bad {b : D} (h : C (n + 5) 4 [b] st = .exc ⟨0, b⟩ st) : C (n + 6) 5 [b, .non] st = .exc ⟨0, b⟩ st :=
  call_ex (fn := r_is_period.fn) rfl rfl rfl (env := [.val b, .val .non, .un]) (ss_ex (by
    show evS (C (n + 5)) fuelL s_is_period_0 [.val b, .val .non, .un] st = _
    simp only [s_is_period_0, evSs, evS, evE, evEs, evBs, evO, evT, evI, rd_k, rd_g, rd_bin, rd_neg, rd_not, rd_and, rd_or, rd_cmp, rd_chain, rd_ite, rd_tup, rd_lst, rd_ix, rd_sl, rd_rev, rd_call, rd_sumL, rd_join, rd_cnt, rd_stp, rd_bf, rd_isI, rd_v, R.bind, lift_ok, lift_ex, of_some, asB_ok, asB_ex, asI_ok, asI_ex, asD_ok, asD_ex, fold2_t, fold2_f, fold2_ex, keepIf_t, keepIf_f, ntup_some, calm_o, items_t, items_l, slotR, sl_v, b_add, b_sub, c_eq, c_ne, c_lt, c_le, c_gt, c_ge, f_lenL, f_lenT, f_tupL, f_tupT, f_lstL, f_lstT, f_int, f_abs, i_int, i_intB, i_intN, i_intT, i_intL, i_intS, i_bool, i_boolB, i_tup, i_tupN, i_tupL, i_tupI, x_tup, x_lst, l_tup, l_lst, r_lst, r_tup, q_lst, q_tup, z_lst, z_tup, t_one, w_nil, w_cons, sget_0, sget_S, List.set_cons_zero, List.set_cons_succ, Option.map_some, Option.bind_some, eqD_int, Bool.not_true, Bool.not_false, sz_0, szT_0, sz_1, szT_1, sz_2, szT_2, sz_3, szT_3, sz_4, szT_4, sz_5, szT_5, sz_6, szT_6, t_many2, t_many3, t_many4, t_lst2, t_lst3, h]))
theorem bp_bad {b : D} (h : C (n + 5) 4 [b] st = .exc ⟨0, b⟩ st) : C (n + 6) 10 [b, .non] st = .exc ⟨0, b⟩ st :=
  call_ex (fn := r_best_period.fn) rfl rfl rfl (env := [.val b, .val .non, .un]) (ss_ex (by
    show evS (C (n + 5)) fuelL s_best_period_0 [.val b, .val .non, .un] st = _
    simp only [s_best_period_0, evSs, evS, evE, evEs, evBs, evO, evT, evI, rd_k, rd_g, rd_bin, rd_neg, rd_not, rd_and, rd_or, rd_cmp, rd_chain, rd_ite, rd_tup, rd_lst, rd_ix, rd_sl, rd_rev, rd_call, rd_sumL, rd_join, rd_cnt, rd_stp, rd_bf, rd_isI, rd_v, R.bind, lift_ok, lift_ex, of_some, asB_ok, asB_ex, asI_ok, asI_ex, asD_ok, asD_ex, fold2_t, fold2_f, fold2_ex, keepIf_t, keepIf_f, ntup_some, calm_o, items_t, items_l, slotR, sl_v, b_add, b_sub, c_eq, c_ne, c_lt, c_le, c_gt, c_ge, f_lenL, f_lenT, f_tupL, f_tupT, f_lstL, f_lstT, f_int, f_abs, i_int, i_intB, i_intN, i_intT, i_intL, i_intS, i_bool, i_boolB, i_tup, i_tupN, i_tupL, i_tupI, x_tup, x_lst, l_tup, l_lst, r_lst, r_tup, q_lst, q_tup, z_lst, z_tup, t_one, w_nil, w_cons, sget_0, sget_S, List.set_cons_zero, List.set_cons_succ, Option.map_some, Option.bind_some, eqD_int, Bool.not_true, Bool.not_false, sz_0, szT_0, sz_1, szT_1, sz_2, szT_2, sz_3, szT_3, sz_4, szT_4, sz_5, szT_5, sz_6, szT_6, t_many2, t_many3, t_many4, t_lst2, t_lst3, h]))
theorem so_bad {b : D} (h : C (n + 5) 4 [b] st = .exc ⟨0, b⟩ st) : C (n + 6) 13 [b, .non, .non] st = .exc ⟨0, b⟩ st :=
  call_ex (fn := r_standing_out.fn) rfl rfl rfl (env := [.val b, .val .non, .val .non, .un, .un, .un, .un]) (ss_ex (by
    show evS (C (n + 5)) fuelL s_standing_out_0 [.val b, .val .non, .val .non, .un, .un, .un, .un] st = _
    simp only [s_standing_out_0, evSs, evS, evE, evEs, evBs, evO, evT, evI, rd_k, rd_g, rd_bin, rd_neg, rd_not, rd_and, rd_or, rd_cmp, rd_chain, rd_ite, rd_tup, rd_lst, rd_ix, rd_sl, rd_rev, rd_call, rd_sumL, rd_join, rd_cnt, rd_stp, rd_bf, rd_isI, rd_v, R.bind, lift_ok, lift_ex, of_some, asB_ok, asB_ex, asI_ok, asI_ex, asD_ok, asD_ex, fold2_t, fold2_f, fold2_ex, keepIf_t, keepIf_f, ntup_some, calm_o, items_t, items_l, slotR, sl_v, b_add, b_sub, c_eq, c_ne, c_lt, c_le, c_gt, c_ge, f_lenL, f_lenT, f_tupL, f_tupT, f_lstL, f_lstT, f_int, f_abs, i_int, i_intB, i_intN, i_intT, i_intL, i_intS, i_bool, i_boolB, i_tup, i_tupN, i_tupL, i_tupI, x_tup, x_lst, l_tup, l_lst, r_lst, r_tup, q_lst, q_tup, z_lst, z_tup, t_one, w_nil, w_cons, sget_0, sget_S, List.set_cons_zero, List.set_cons_succ, Option.map_some, Option.bind_some, eqD_int, Bool.not_true, Bool.not_false, sz_0, szT_0, sz_1, szT_1, sz_2, szT_2, sz_3, szT_3, sz_4, szT_4, sz_5, szT_5, sz_6, szT_6, t_many2, t_many3, t_many4, t_lst2, t_lst3, h]))
abbrev bads : List D := [.non, .lst [.int 1], .tup [.non], .tup [.bl true]]
theorem bads_no : ∀ d ∈ bads, C (n + 4) 4 [d] (Dw cs j) = .exc ⟨0, d⟩ (Dw cs j) :=
  AllQ.mem (p := fun d => C (n + 4) 4 [d] (Dw cs j) = .exc ⟨0, d⟩ (Dw cs j)) (l := bads) ⟨rfl, rfl, rfl, rfl, trivial⟩
theorem bads_repr : ∀ d ∈ bads, reprB d = true := List.all_eq_true.mp (by decide +kernel)
theorem rr_0 : ∃ z, evS (C (n + 19)) fuelL s__law_refused_right_0 [.val (T rw), .un, .un, .un, .un] (Dw cs j) = .ok (.nx, [.val (T rw), z, .un, .un, .un]) (Dw cs j) := by
  refine forr_same (ev := fun z => [.val (T rw), z, .un, .un, .un]) (ds := bads) ?_ (fun _ _ => rfl) fun d hd => ?_
  · show evI (C (n + 19)) _ _ _ = .ok [.non, .lst [.int 1], .tup [.non], .tup [.bl true]] _
    simp only [evSs, evS, evE, evEs, evBs, evO, evT, evI, rd_k, rd_g, rd_bin, rd_neg, rd_not, rd_and, rd_or, rd_cmp, rd_chain, rd_ite, rd_tup, rd_lst, rd_ix, rd_sl, rd_rev, rd_call, rd_sumL, rd_join, rd_cnt, rd_stp, rd_bf, rd_isI, rd_v, R.bind, lift_ok, lift_ex, of_some, asB_ok, asB_ex, asI_ok, asI_ex, asD_ok, asD_ex, fold2_t, fold2_f, fold2_ex, keepIf_t, keepIf_f, ntup_some, calm_o, items_t, items_l, slotR, sl_v, b_add, b_sub, c_eq, c_ne, c_lt, c_le, c_gt, c_ge, f_lenL, f_lenT, f_tupL, f_tupT, f_lstL, f_lstT, f_int, f_abs, i_int, i_intB, i_intN, i_intT, i_intL, i_intS, i_bool, i_boolB, i_tup, i_tupN, i_tupL, i_tupI, x_tup, x_lst, l_tup, l_lst, r_lst, r_tup, q_lst, q_tup, z_lst, z_tup, t_one, w_nil, w_cons, sget_0, sget_S, List.set_cons_zero, List.set_cons_succ, Option.map_some, Option.bind_some, eqD_int, Bool.not_true, Bool.not_false, sz_0, szT_0, sz_1, szT_1, sz_2, szT_2, sz_3, szT_3, sz_4, szT_4, sz_5, szT_5, sz_6, szT_6, t_many2, t_many3, t_many4, t_lst2, t_lst3]
  · have c0 := bads_no (n := n + 14) (cs := cs) (j := j) d hd
    have e1 := per_bad c0
    have e2 := bp_bad c0
    have e3 := so_bad c0
    have r := bads_repr d hd
    simp only [f__law_refused_right_0, evSs, evS, evE, evEs, evBs, evO, evT, evI, rd_k, rd_g, rd_bin, rd_neg, rd_not, rd_and, rd_or, rd_cmp, rd_chain, rd_ite, rd_tup, rd_lst, rd_ix, rd_sl, rd_rev, rd_call, rd_sumL, rd_join, rd_cnt, rd_stp, rd_bf, rd_isI, rd_v, R.bind, lift_ok, lift_ex, of_some, asB_ok, asB_ex, asI_ok, asI_ex, asD_ok, asD_ex, fold2_t, fold2_f, fold2_ex, keepIf_t, keepIf_f, ntup_some, calm_o, items_t, items_l, slotR, sl_v, b_add, b_sub, c_eq, c_ne, c_lt, c_le, c_gt, c_ge, f_lenL, f_lenT, f_tupL, f_tupT, f_lstL, f_lstT, f_int, f_abs, i_int, i_intB, i_intN, i_intT, i_intL, i_intS, i_bool, i_boolB, i_tup, i_tupN, i_tupL, i_tupI, x_tup, x_lst, l_tup, l_lst, r_lst, r_tup, q_lst, q_tup, z_lst, z_tup, t_one, w_nil, w_cons, sget_0, sget_S, List.set_cons_zero, List.set_cons_succ, Option.map_some, Option.bind_some, eqD_int, Bool.not_true, Bool.not_false, sz_0, szT_0, sz_1, szT_1, sz_2, szT_2, sz_3, szT_3, sz_4, szT_4, sz_5, szT_5, sz_6, szT_6, t_many2, t_many3, t_many4, t_lst2, t_lst3, e1, e2, e3, refR_yes r]
theorem nil_no : C (n + 19) 6 [.tup []] (Dw cs j) = .exc ⟨0, .tup []⟩ (Dw cs j) ∧ C (n + 19) 10 [.tup [], .non] (Dw cs j) = .exc ⟨0, .tup []⟩ (Dw cs j) := ⟨rfl, rfl⟩
theorem nil_repr : reprB (.tup []) = true := by decide +kernel
theorem non_repr : reprB .non = true := by decide +kernel
variable {z1 z2 z3 z4 : Sl}
theorem rr_1 : evS (C (n + 19)) fuelL s__law_refused_right_1 [.val (T rw), z1, z2, z3, z4] (Dw cs j) = .ok (.nx, [.val (T rw), z1, z2, z3, z4]) (Dw cs j) := by
  have e := (nil_no (n := n) (cs := cs) (j := j)).1
  simp only [s__law_refused_right_1, evSs, evS, evE, evEs, evBs, evO, evT, evI, rd_k, rd_g, rd_bin, rd_neg, rd_not, rd_and, rd_or, rd_cmp, rd_chain, rd_ite, rd_tup, rd_lst, rd_ix, rd_sl, rd_rev, rd_call, rd_sumL, rd_join, rd_cnt, rd_stp, rd_bf, rd_isI, rd_v, R.bind, lift_ok, lift_ex, of_some, asB_ok, asB_ex, asI_ok, asI_ex, asD_ok, asD_ex, fold2_t, fold2_f, fold2_ex, keepIf_t, keepIf_f, ntup_some, calm_o, items_t, items_l, slotR, sl_v, b_add, b_sub, c_eq, c_ne, c_lt, c_le, c_gt, c_ge, f_lenL, f_lenT, f_tupL, f_tupT, f_lstL, f_lstT, f_int, f_abs, i_int, i_intB, i_intN, i_intT, i_intL, i_intS, i_bool, i_boolB, i_tup, i_tupN, i_tupL, i_tupI, x_tup, x_lst, l_tup, l_lst, r_lst, r_tup, q_lst, q_tup, z_lst, z_tup, t_one, w_nil, w_cons, sget_0, sget_S, List.set_cons_zero, List.set_cons_succ, Option.map_some, Option.bind_some, eqD_int, Bool.not_true, Bool.not_false, sz_0, szT_0, sz_1, szT_1, sz_2, szT_2, sz_3, szT_3, sz_4, szT_4, sz_5, szT_5, sz_6, szT_6, t_many2, t_many3, t_many4, t_lst2, t_lst3, e, refR_yes nil_repr]
theorem rr_2 : evS (C (n + 19)) fuelL s__law_refused_right_2 [.val (T rw), z1, z2, z3, z4] (Dw cs j) = .ok (.nx, [.val (T rw), z1, z2, z3, z4]) (Dw cs j) := by
  have e := (nil_no (n := n) (cs := cs) (j := j)).2
  simp only [s__law_refused_right_2, evSs, evS, evE, evEs, evBs, evO, evT, evI, rd_k, rd_g, rd_bin, rd_neg, rd_not, rd_and, rd_or, rd_cmp, rd_chain, rd_ite, rd_tup, rd_lst, rd_ix, rd_sl, rd_rev, rd_call, rd_sumL, rd_join, rd_cnt, rd_stp, rd_bf, rd_isI, rd_v, R.bind, lift_ok, lift_ex, of_some, asB_ok, asB_ex, asI_ok, asI_ex, asD_ok, asD_ex, fold2_t, fold2_f, fold2_ex, keepIf_t, keepIf_f, ntup_some, calm_o, items_t, items_l, slotR, sl_v, b_add, b_sub, c_eq, c_ne, c_lt, c_le, c_gt, c_ge, f_lenL, f_lenT, f_tupL, f_tupT, f_lstL, f_lstT, f_int, f_abs, i_int, i_intB, i_intN, i_intT, i_intL, i_intS, i_bool, i_boolB, i_tup, i_tupN, i_tupL, i_tupI, x_tup, x_lst, l_tup, l_lst, r_lst, r_tup, q_lst, q_tup, z_lst, z_tup, t_one, w_nil, w_cons, sget_0, sget_S, List.set_cons_zero, List.set_cons_succ, Option.map_some, Option.bind_some, eqD_int, Bool.not_true, Bool.not_false, sz_0, szT_0, sz_1, szT_1, sz_2, szT_2, sz_3, szT_3, sz_4, szT_4, sz_5, szT_5, sz_6, szT_6, t_many2, t_many3, t_many4, t_lst2, t_lst3, e, refR_yes nil_repr]
theorem per_no {d : D} (h : Row rw) (e1 : evS (C (n + 4)) fuelL s_is_period_1 [.val (T rw), .val d, .un] st = .ok (.ex ⟨0, d⟩, [.val (T rw), .val d, .un]) st) : C (n + 5) 5 [T rw, d] st = .exc ⟨0, d⟩ st := by
  have k0 : C (n + 4) 4 [T rw] st = .ok .non st := chk_s (f := h)
  have e0 : evS (C (n + 4)) fuelL s_is_period_0 [.val (T rw), .val d, .un] st = .ok (.nx, [.val (T rw), .val d, .un]) st := by
    simp only [s_is_period_0, evSs, evS, evE, evEs, evBs, evO, evT, evI, rd_k, rd_g, rd_bin, rd_neg, rd_not, rd_and, rd_or, rd_cmp, rd_chain, rd_ite, rd_tup, rd_lst, rd_ix, rd_sl, rd_rev, rd_call, rd_sumL, rd_join, rd_cnt, rd_stp, rd_bf, rd_isI, rd_v, R.bind, lift_ok, lift_ex, of_some, asB_ok, asB_ex, asI_ok, asI_ex, asD_ok, asD_ex, fold2_t, fold2_f, fold2_ex, keepIf_t, keepIf_f, ntup_some, calm_o, items_t, items_l, slotR, sl_v, b_add, b_sub, c_eq, c_ne, c_lt, c_le, c_gt, c_ge, f_lenL, f_lenT, f_tupL, f_tupT, f_lstL, f_lstT, f_int, f_abs, i_int, i_intB, i_intN, i_intT, i_intL, i_intS, i_bool, i_boolB, i_tup, i_tupN, i_tupL, i_tupI, x_tup, x_lst, l_tup, l_lst, r_lst, r_tup, q_lst, q_tup, z_lst, z_tup, t_one, w_nil, w_cons, sget_0, sget_S, List.set_cons_zero, List.set_cons_succ, Option.map_some, Option.bind_some, eqD_int, Bool.not_true, Bool.not_false, sz_0, szT_0, sz_1, szT_1, sz_2, szT_2, sz_3, szT_3, sz_4, szT_4, sz_5, szT_5, sz_6, szT_6, t_many2, t_many3, t_many4, t_lst2, t_lst3, k0]
  exact call_ex (fn := r_is_period.fn) rfl rfl rfl ((ss_nx e0).trans (ss_ex e1))
abbrev bads2 : List D := [.int 0, .int (-1), .non, .bl true]
theorem bads2_no (h : Row rw) : ∀ d ∈ bads2, C (n + 5) 5 [T rw, d] st = .exc ⟨0, d⟩ st :=
  AllQ.mem (p := fun d => C (n + 5) 5 [T rw, d] st = .exc ⟨0, d⟩ st) (l := bads2) ⟨
    per_no h (by
      have k : C (n + 4) 0 [.int 0] st = .ok (.bl true) st := whole_int
      simp only [s_is_period_1, evSs, evS, evE, evEs, evBs, evO, evT, evI, rd_k, rd_g, rd_bin, rd_neg, rd_not, rd_and, rd_or, rd_cmp, rd_chain, rd_ite, rd_tup, rd_lst, rd_ix, rd_sl, rd_rev, rd_call, rd_sumL, rd_join, rd_cnt, rd_stp, rd_bf, rd_isI, rd_v, R.bind, lift_ok, lift_ex, of_some, asB_ok, asB_ex, asI_ok, asI_ex, asD_ok, asD_ex, fold2_t, fold2_f, fold2_ex, keepIf_t, keepIf_f, ntup_some, calm_o, items_t, items_l, slotR, sl_v, b_add, b_sub, c_eq, c_ne, c_lt, c_le, c_gt, c_ge, f_lenL, f_lenT, f_tupL, f_tupT, f_lstL, f_lstT, f_int, f_abs, i_int, i_intB, i_intN, i_intT, i_intL, i_intS, i_bool, i_boolB, i_tup, i_tupN, i_tupL, i_tupI, x_tup, x_lst, l_tup, l_lst, r_lst, r_tup, q_lst, q_tup, z_lst, z_tup, t_one, w_nil, w_cons, sget_0, sget_S, List.set_cons_zero, List.set_cons_succ, Option.map_some, Option.bind_some, eqD_int, Bool.not_true, Bool.not_false, sz_0, szT_0, sz_1, szT_1, sz_2, szT_2, sz_3, szT_3, sz_4, szT_4, sz_5, szT_5, sz_6, szT_6, t_many2, t_many3, t_many4, t_lst2, t_lst3, k, show decide ((0 : Int) < 1) = true from rfl]),
    per_no h (by
      have k : C (n + 4) 0 [.int (-1)] st = .ok (.bl true) st := whole_int
      simp only [s_is_period_1, evSs, evS, evE, evEs, evBs, evO, evT, evI, rd_k, rd_g, rd_bin, rd_neg, rd_not, rd_and, rd_or, rd_cmp, rd_chain, rd_ite, rd_tup, rd_lst, rd_ix, rd_sl, rd_rev, rd_call, rd_sumL, rd_join, rd_cnt, rd_stp, rd_bf, rd_isI, rd_v, R.bind, lift_ok, lift_ex, of_some, asB_ok, asB_ex, asI_ok, asI_ex, asD_ok, asD_ex, fold2_t, fold2_f, fold2_ex, keepIf_t, keepIf_f, ntup_some, calm_o, items_t, items_l, slotR, sl_v, b_add, b_sub, c_eq, c_ne, c_lt, c_le, c_gt, c_ge, f_lenL, f_lenT, f_tupL, f_tupT, f_lstL, f_lstT, f_int, f_abs, i_int, i_intB, i_intN, i_intT, i_intL, i_intS, i_bool, i_boolB, i_tup, i_tupN, i_tupL, i_tupI, x_tup, x_lst, l_tup, l_lst, r_lst, r_tup, q_lst, q_tup, z_lst, z_tup, t_one, w_nil, w_cons, sget_0, sget_S, List.set_cons_zero, List.set_cons_succ, Option.map_some, Option.bind_some, eqD_int, Bool.not_true, Bool.not_false, sz_0, szT_0, sz_1, szT_1, sz_2, szT_2, sz_3, szT_3, sz_4, szT_4, sz_5, szT_5, sz_6, szT_6, t_many2, t_many3, t_many4, t_lst2, t_lst3, k, show decide ((-1 : Int) < 1) = true from rfl]),
    per_no h (by
      have k : C (n + 4) 0 [.non] st = .ok (.bl false) st := whole_non
      simp only [s_is_period_1, evSs, evS, evE, evEs, evBs, evO, evT, evI, rd_k, rd_g, rd_bin, rd_neg, rd_not, rd_and, rd_or, rd_cmp, rd_chain, rd_ite, rd_tup, rd_lst, rd_ix, rd_sl, rd_rev, rd_call, rd_sumL, rd_join, rd_cnt, rd_stp, rd_bf, rd_isI, rd_v, R.bind, lift_ok, lift_ex, of_some, asB_ok, asB_ex, asI_ok, asI_ex, asD_ok, asD_ex, fold2_t, fold2_f, fold2_ex, keepIf_t, keepIf_f, ntup_some, calm_o, items_t, items_l, slotR, sl_v, b_add, b_sub, c_eq, c_ne, c_lt, c_le, c_gt, c_ge, f_lenL, f_lenT, f_tupL, f_tupT, f_lstL, f_lstT, f_int, f_abs, i_int, i_intB, i_intN, i_intT, i_intL, i_intS, i_bool, i_boolB, i_tup, i_tupN, i_tupL, i_tupI, x_tup, x_lst, l_tup, l_lst, r_lst, r_tup, q_lst, q_tup, z_lst, z_tup, t_one, w_nil, w_cons, sget_0, sget_S, List.set_cons_zero, List.set_cons_succ, Option.map_some, Option.bind_some, eqD_int, Bool.not_true, Bool.not_false, sz_0, szT_0, sz_1, szT_1, sz_2, szT_2, sz_3, szT_3, sz_4, szT_4, sz_5, szT_5, sz_6, szT_6, t_many2, t_many3, t_many4, t_lst2, t_lst3, k]),
    per_no h (by
      have k : C (n + 4) 0 [.bl true] st = .ok (.bl false) st := whole_tt
      simp only [s_is_period_1, evSs, evS, evE, evEs, evBs, evO, evT, evI, rd_k, rd_g, rd_bin, rd_neg, rd_not, rd_and, rd_or, rd_cmp, rd_chain, rd_ite, rd_tup, rd_lst, rd_ix, rd_sl, rd_rev, rd_call, rd_sumL, rd_join, rd_cnt, rd_stp, rd_bf, rd_isI, rd_v, R.bind, lift_ok, lift_ex, of_some, asB_ok, asB_ex, asI_ok, asI_ex, asD_ok, asD_ex, fold2_t, fold2_f, fold2_ex, keepIf_t, keepIf_f, ntup_some, calm_o, items_t, items_l, slotR, sl_v, b_add, b_sub, c_eq, c_ne, c_lt, c_le, c_gt, c_ge, f_lenL, f_lenT, f_tupL, f_tupT, f_lstL, f_lstT, f_int, f_abs, i_int, i_intB, i_intN, i_intT, i_intL, i_intS, i_bool, i_boolB, i_tup, i_tupN, i_tupL, i_tupI, x_tup, x_lst, l_tup, l_lst, r_lst, r_tup, q_lst, q_tup, z_lst, z_tup, t_one, w_nil, w_cons, sget_0, sget_S, List.set_cons_zero, List.set_cons_succ, Option.map_some, Option.bind_some, eqD_int, Bool.not_true, Bool.not_false, sz_0, szT_0, sz_1, szT_1, sz_2, szT_2, sz_3, szT_3, sz_4, szT_4, sz_5, szT_5, sz_6, szT_6, t_many2, t_many3, t_many4, t_lst2, t_lst3, k]), trivial⟩
theorem bads2_repr : ∀ d ∈ bads2, reprB d = true := List.all_eq_true.mp (by decide +kernel)
theorem rr_3 (h : Row rw) : ∃ z, evS (C (n + 19)) fuelL s__law_refused_right_3 [.val (T rw), z1, z2, z3, z4] (Dw cs j) = .ok (.nx, [.val (T rw), z, z2, z3, z4]) (Dw cs j) := by
  refine forr_same (ev := fun z => [.val (T rw), z, z2, z3, z4]) (ds := bads2) ?_ (fun _ _ => rfl) fun d hd => ?_
  · show evI (C (n + 19)) _ _ _ = .ok [.int 0, .int (-1), .non, .bl true] _
    simp only [evSs, evS, evE, evEs, evBs, evO, evT, evI, rd_k, rd_g, rd_bin, rd_neg, rd_not, rd_and, rd_or, rd_cmp, rd_chain, rd_ite, rd_tup, rd_lst, rd_ix, rd_sl, rd_rev, rd_call, rd_sumL, rd_join, rd_cnt, rd_stp, rd_bf, rd_isI, rd_v, R.bind, lift_ok, lift_ex, of_some, asB_ok, asB_ex, asI_ok, asI_ex, asD_ok, asD_ex, fold2_t, fold2_f, fold2_ex, keepIf_t, keepIf_f, ntup_some, calm_o, items_t, items_l, slotR, sl_v, b_add, b_sub, c_eq, c_ne, c_lt, c_le, c_gt, c_ge, f_lenL, f_lenT, f_tupL, f_tupT, f_lstL, f_lstT, f_int, f_abs, i_int, i_intB, i_intN, i_intT, i_intL, i_intS, i_bool, i_boolB, i_tup, i_tupN, i_tupL, i_tupI, x_tup, x_lst, l_tup, l_lst, r_lst, r_tup, q_lst, q_tup, z_lst, z_tup, t_one, w_nil, w_cons, sget_0, sget_S, List.set_cons_zero, List.set_cons_succ, Option.map_some, Option.bind_some, eqD_int, Bool.not_true, Bool.not_false, sz_0, szT_0, sz_1, szT_1, sz_2, szT_2, sz_3, szT_3, sz_4, szT_4, sz_5, szT_5, sz_6, szT_6, t_many2, t_many3, t_many4, t_lst2, t_lst3]
  · have e1 := bads2_no (n := n + 14) (st := Dw cs j) h d hd
    have r := bads2_repr d hd
    simp only [f__law_refused_right_1, evSs, evS, evE, evEs, evBs, evO, evT, evI, rd_k, rd_g, rd_bin, rd_neg, rd_not, rd_and, rd_or, rd_cmp, rd_chain, rd_ite, rd_tup, rd_lst, rd_ix, rd_sl, rd_rev, rd_call, rd_sumL, rd_join, rd_cnt, rd_stp, rd_bf, rd_isI, rd_v, R.bind, lift_ok, lift_ex, of_some, asB_ok, asB_ex, asI_ok, asI_ex, asD_ok, asD_ex, fold2_t, fold2_f, fold2_ex, keepIf_t, keepIf_f, ntup_some, calm_o, items_t, items_l, slotR, sl_v, b_add, b_sub, c_eq, c_ne, c_lt, c_le, c_gt, c_ge, f_lenL, f_lenT, f_tupL, f_tupT, f_lstL, f_lstT, f_int, f_abs, i_int, i_intB, i_intN, i_intT, i_intL, i_intS, i_bool, i_boolB, i_tup, i_tupN, i_tupL, i_tupI, x_tup, x_lst, l_tup, l_lst, r_lst, r_tup, q_lst, q_tup, z_lst, z_tup, t_one, w_nil, w_cons, sget_0, sget_S, List.set_cons_zero, List.set_cons_succ, Option.map_some, Option.bind_some, eqD_int, Bool.not_true, Bool.not_false, sz_0, szT_0, sz_1, szT_1, sz_2, szT_2, sz_3, szT_3, sz_4, szT_4, sz_5, szT_5, sz_6, szT_6, t_many2, t_many3, t_many4, t_lst2, t_lst3, e1, refR_yes r]
/-! a period that is out of bounds -/
theorem mi_no {d : D} {Ni : Int} (h : Row rw) (hN : (rw.length : Int) = Ni) (hf : C (n + 4) 1 [d, .int 1, .int Ni] st = .ok (.bl false) st) : C (n + 5) 8 [T rw, d] st = .exc ⟨0, d⟩ st := by
  have hp := h.p
  have k0 : C (n + 4) 4 [T rw] st = .ok .non st := chk_s (f := h)
  have mx := max2 1 Ni
  rw [show (if (1 : Int) < Ni then Ni else 1) = Ni by split <;> omega] at mx
  have e0 : evS (C (n + 4)) fuelL s_misses_of_0 [.val (T rw), .val d, .un, .un, .un, .un] st = .ok (.nx, [.val (T rw), .val d, .un, .un, .un, .un]) st := by
    simp only [s_misses_of_0, evSs, evS, evE, evEs, evBs, evO, evT, evI, rd_k, rd_g, rd_bin, rd_neg, rd_not, rd_and, rd_or, rd_cmp, rd_chain, rd_ite, rd_tup, rd_lst, rd_ix, rd_sl, rd_rev, rd_call, rd_sumL, rd_join, rd_cnt, rd_stp, rd_bf, rd_isI, rd_v, R.bind, lift_ok, lift_ex, of_some, asB_ok, asB_ex, asI_ok, asI_ex, asD_ok, asD_ex, fold2_t, fold2_f, fold2_ex, keepIf_t, keepIf_f, ntup_some, calm_o, items_t, items_l, slotR, sl_v, b_add, b_sub, c_eq, c_ne, c_lt, c_le, c_gt, c_ge, f_lenL, f_lenT, f_tupL, f_tupT, f_lstL, f_lstT, f_int, f_abs, i_int, i_intB, i_intN, i_intT, i_intL, i_intS, i_bool, i_boolB, i_tup, i_tupN, i_tupL, i_tupI, x_tup, x_lst, l_tup, l_lst, r_lst, r_tup, q_lst, q_tup, z_lst, z_tup, t_one, w_nil, w_cons, sget_0, sget_S, List.set_cons_zero, List.set_cons_succ, Option.map_some, Option.bind_some, eqD_int, Bool.not_true, Bool.not_false, sz_0, szT_0, sz_1, szT_1, sz_2, szT_2, sz_3, szT_3, sz_4, szT_4, sz_5, szT_5, sz_6, szT_6, t_many2, t_many3, t_many4, t_lst2, t_lst3, k0]
  have e1 : evS (C (n + 4)) fuelL s_misses_of_1 [.val (T rw), .val d, .un, .un, .un, .un] st = .ok (.ex ⟨0, d⟩, [.val (T rw), .val d, .un, .un, .un, .un]) st := by
    simp only [s_misses_of_1, evSs, evS, evE, evEs, evBs, evO, evT, evI, rd_k, rd_g, rd_bin, rd_neg, rd_not, rd_and, rd_or, rd_cmp, rd_chain, rd_ite, rd_tup, rd_lst, rd_ix, rd_sl, rd_rev, rd_call, rd_sumL, rd_join, rd_cnt, rd_stp, rd_bf, rd_isI, rd_v, R.bind, lift_ok, lift_ex, of_some, asB_ok, asB_ex, asI_ok, asI_ex, asD_ok, asD_ex, fold2_t, fold2_f, fold2_ex, keepIf_t, keepIf_f, ntup_some, calm_o, items_t, items_l, slotR, sl_v, b_add, b_sub, c_eq, c_ne, c_lt, c_le, c_gt, c_ge, f_lenL, f_lenT, f_tupL, f_tupT, f_lstL, f_lstT, f_int, f_abs, i_int, i_intB, i_intN, i_intT, i_intL, i_intS, i_bool, i_boolB, i_tup, i_tupN, i_tupL, i_tupI, x_tup, x_lst, l_tup, l_lst, r_lst, r_tup, q_lst, q_tup, z_lst, z_tup, t_one, w_nil, w_cons, sget_0, sget_S, List.set_cons_zero, List.set_cons_succ, Option.map_some, Option.bind_some, eqD_int, Bool.not_true, Bool.not_false, sz_0, szT_0, sz_1, szT_1, sz_2, szT_2, sz_3, szT_3, sz_4, szT_4, sz_5, szT_5, sz_6, szT_6, t_many2, t_many3, t_many4, t_lst2, t_lst3, List.length_map, hN, mx, hf]
  exact call_ex (fn := r_misses_of.fn) rfl rfl rfl ((ss_nx e0).trans (ss_ex e1))
theorem ne_no {d : D} {Ni : Int} (h : Row rw) (hN : (rw.length : Int) = Ni) (hf : C (n + 4) 1 [d, .int 1, .int Ni] st = .ok (.bl false) st) : C (n + 5) 9 [T rw, d] st = .exc ⟨0, d⟩ st := by
  have k0 : C (n + 4) 4 [T rw] st = .ok .non st := chk_s (f := h)
  have q := row_ne h
  have e0 : evS (C (n + 4)) fuelL s_nearest_season_0 [.val (T rw), .val d, .un, .un, .un, .un] st = .ok (.nx, [.val (T rw), .val d, .un, .un, .un, .un]) st := by
    simp only [s_nearest_season_0, evSs, evS, evE, evEs, evBs, evO, evT, evI, rd_k, rd_g, rd_bin, rd_neg, rd_not, rd_and, rd_or, rd_cmp, rd_chain, rd_ite, rd_tup, rd_lst, rd_ix, rd_sl, rd_rev, rd_call, rd_sumL, rd_join, rd_cnt, rd_stp, rd_bf, rd_isI, rd_v, R.bind, lift_ok, lift_ex, of_some, asB_ok, asB_ex, asI_ok, asI_ex, asD_ok, asD_ex, fold2_t, fold2_f, fold2_ex, keepIf_t, keepIf_f, ntup_some, calm_o, items_t, items_l, slotR, sl_v, b_add, b_sub, c_eq, c_ne, c_lt, c_le, c_gt, c_ge, f_lenL, f_lenT, f_tupL, f_tupT, f_lstL, f_lstT, f_int, f_abs, i_int, i_intB, i_intN, i_intT, i_intL, i_intS, i_bool, i_boolB, i_tup, i_tupN, i_tupL, i_tupI, x_tup, x_lst, l_tup, l_lst, r_lst, r_tup, q_lst, q_tup, z_lst, z_tup, t_one, w_nil, w_cons, sget_0, sget_S, List.set_cons_zero, List.set_cons_succ, Option.map_some, Option.bind_some, eqD_int, Bool.not_true, Bool.not_false, sz_0, szT_0, sz_1, szT_1, sz_2, szT_2, sz_3, szT_3, sz_4, szT_4, sz_5, szT_5, sz_6, szT_6, t_many2, t_many3, t_many4, t_lst2, t_lst3, k0]
  have e1 : evS (C (n + 4)) fuelL s_nearest_season_1 [.val (T rw), .val d, .un, .un, .un, .un] st = .ok (.ex ⟨0, d⟩, [.val (T rw), .val d, .un, .un, .un, .un]) st := by
    simp only [s_nearest_season_1, evSs, evS, evE, evEs, evBs, evO, evT, evI, rd_k, rd_g, rd_bin, rd_neg, rd_not, rd_and, rd_or, rd_cmp, rd_chain, rd_ite, rd_tup, rd_lst, rd_ix, rd_sl, rd_rev, rd_call, rd_sumL, rd_join, rd_cnt, rd_stp, rd_bf, rd_isI, rd_v, R.bind, lift_ok, lift_ex, of_some, asB_ok, asB_ex, asI_ok, asI_ex, asD_ok, asD_ex, fold2_t, fold2_f, fold2_ex, keepIf_t, keepIf_f, ntup_some, calm_o, items_t, items_l, slotR, sl_v, b_add, b_sub, c_eq, c_ne, c_lt, c_le, c_gt, c_ge, f_lenL, f_lenT, f_tupL, f_tupT, f_lstL, f_lstT, f_int, f_abs, i_int, i_intB, i_intN, i_intT, i_intL, i_intS, i_bool, i_boolB, i_tup, i_tupN, i_tupL, i_tupI, x_tup, x_lst, l_tup, l_lst, r_lst, r_tup, q_lst, q_tup, z_lst, z_tup, t_one, w_nil, w_cons, sget_0, sget_S, List.set_cons_zero, List.set_cons_succ, Option.map_some, Option.bind_some, eqD_int, Bool.not_true, Bool.not_false, sz_0, szT_0, sz_1, szT_1, sz_2, szT_2, sz_3, szT_3, sz_4, szT_4, sz_5, szT_5, sz_6, szT_6, t_many2, t_many3, t_many4, t_lst2, t_lst3, List.length_map, hN, q, hf]
  exact call_ex (fn := r_nearest_season.fn) rfl rfl rfl ((ss_nx e0).trans (ss_ex e1))
theorem me_no {d : D} {Ni : Int} (h : Row rw) (hN : (rw.length : Int) = Ni) (hf : C (n + 4) 1 [d, .int 1, .int Ni] st = .ok (.bl false) st) : C (n + 5) 11 [T rw, d] st = .exc ⟨0, d⟩ st := by
  have k0 : C (n + 4) 4 [T rw] st = .ok .non st := chk_s (f := h)
  have q := row_ne h
  have e0 : evS (C (n + 4)) fuelL s_means_of_0 [.val (T rw), .val d, .un] st = .ok (.nx, [.val (T rw), .val d, .un]) st := by
    simp only [s_means_of_0, evSs, evS, evE, evEs, evBs, evO, evT, evI, rd_k, rd_g, rd_bin, rd_neg, rd_not, rd_and, rd_or, rd_cmp, rd_chain, rd_ite, rd_tup, rd_lst, rd_ix, rd_sl, rd_rev, rd_call, rd_sumL, rd_join, rd_cnt, rd_stp, rd_bf, rd_isI, rd_v, R.bind, lift_ok, lift_ex, of_some, asB_ok, asB_ex, asI_ok, asI_ex, asD_ok, asD_ex, fold2_t, fold2_f, fold2_ex, keepIf_t, keepIf_f, ntup_some, calm_o, items_t, items_l, slotR, sl_v, b_add, b_sub, c_eq, c_ne, c_lt, c_le, c_gt, c_ge, f_lenL, f_lenT, f_tupL, f_tupT, f_lstL, f_lstT, f_int, f_abs, i_int, i_intB, i_intN, i_intT, i_intL, i_intS, i_bool, i_boolB, i_tup, i_tupN, i_tupL, i_tupI, x_tup, x_lst, l_tup, l_lst, r_lst, r_tup, q_lst, q_tup, z_lst, z_tup, t_one, w_nil, w_cons, sget_0, sget_S, List.set_cons_zero, List.set_cons_succ, Option.map_some, Option.bind_some, eqD_int, Bool.not_true, Bool.not_false, sz_0, szT_0, sz_1, szT_1, sz_2, szT_2, sz_3, szT_3, sz_4, szT_4, sz_5, szT_5, sz_6, szT_6, t_many2, t_many3, t_many4, t_lst2, t_lst3, k0]
  have e1 : evS (C (n + 4)) fuelL s_means_of_1 [.val (T rw), .val d, .un] st = .ok (.ex ⟨0, d⟩, [.val (T rw), .val d, .un]) st := by
    simp only [s_means_of_1, evSs, evS, evE, evEs, evBs, evO, evT, evI, rd_k, rd_g, rd_bin, rd_neg, rd_not, rd_and, rd_or, rd_cmp, rd_chain, rd_ite, rd_tup, rd_lst, rd_ix, rd_sl, rd_rev, rd_call, rd_sumL, rd_join, rd_cnt, rd_stp, rd_bf, rd_isI, rd_v, R.bind, lift_ok, lift_ex, of_some, asB_ok, asB_ex, asI_ok, asI_ex, asD_ok, asD_ex, fold2_t, fold2_f, fold2_ex, keepIf_t, keepIf_f, ntup_some, calm_o, items_t, items_l, slotR, sl_v, b_add, b_sub, c_eq, c_ne, c_lt, c_le, c_gt, c_ge, f_lenL, f_lenT, f_tupL, f_tupT, f_lstL, f_lstT, f_int, f_abs, i_int, i_intB, i_intN, i_intT, i_intL, i_intS, i_bool, i_boolB, i_tup, i_tupN, i_tupL, i_tupI, x_tup, x_lst, l_tup, l_lst, r_lst, r_tup, q_lst, q_tup, z_lst, z_tup, t_one, w_nil, w_cons, sget_0, sget_S, List.set_cons_zero, List.set_cons_succ, Option.map_some, Option.bind_some, eqD_int, Bool.not_true, Bool.not_false, sz_0, szT_0, sz_1, szT_1, sz_2, szT_2, sz_3, szT_3, sz_4, szT_4, sz_5, szT_5, sz_6, szT_6, t_many2, t_many3, t_many4, t_lst2, t_lst3, List.length_map, hN, q, hf]
  exact call_ex (fn := r_means_of.fn) rfl rfl rfl ((ss_nx e0).trans (ss_ex e1))
theorem rs_no {d : D} (e : C (n + 5) 11 [T rw, d] st = .exc ⟨0, d⟩ st) : C (n + 6) 12 [T rw, d] st = .exc ⟨0, d⟩ st :=
  call_ex (fn := r_rest_of.fn) rfl rfl rfl (env := [.val (T rw), .val d, .un, .un, .un, .un, .un, .un]) (ss_ex (by
    show evS (C (n + 5)) fuelL s_rest_of_0 [.val (T rw), .val d, .un, .un, .un, .un, .un, .un] st = _
    simp only [s_rest_of_0, evSs, evS, evE, evEs, evBs, evO, evT, evI, rd_k, rd_g, rd_bin, rd_neg, rd_not, rd_and, rd_or, rd_cmp, rd_chain, rd_ite, rd_tup, rd_lst, rd_ix, rd_sl, rd_rev, rd_call, rd_sumL, rd_join, rd_cnt, rd_stp, rd_bf, rd_isI, rd_v, R.bind, lift_ok, lift_ex, of_some, asB_ok, asB_ex, asI_ok, asI_ex, asD_ok, asD_ex, fold2_t, fold2_f, fold2_ex, keepIf_t, keepIf_f, ntup_some, calm_o, items_t, items_l, slotR, sl_v, b_add, b_sub, c_eq, c_ne, c_lt, c_le, c_gt, c_ge, f_lenL, f_lenT, f_tupL, f_tupT, f_lstL, f_lstT, f_int, f_abs, i_int, i_intB, i_intN, i_intT, i_intL, i_intS, i_bool, i_boolB, i_tup, i_tupN, i_tupL, i_tupI, x_tup, x_lst, l_tup, l_lst, r_lst, r_tup, q_lst, q_tup, z_lst, z_tup, t_one, w_nil, w_cons, sget_0, sget_S, List.set_cons_zero, List.set_cons_succ, Option.map_some, Option.bind_some, eqD_int, Bool.not_true, Bool.not_false, sz_0, szT_0, sz_1, szT_1, sz_2, szT_2, sz_3, szT_3, sz_4, szT_4, sz_5, szT_5, sz_6, szT_6, t_many2, t_many3, t_many4, t_lst2, t_lst3, e]))
theorem bp_no {d : D} {Ni : Int} (h : Row rw) (hN : (rw.length : Int) = Ni) (hf : C (n + 4) 1 [d, .int 1, .int Ni] st = .ok (.bl false) st) : C (n + 5) 10 [T rw, d] st = .exc ⟨0, d⟩ st := by
  have k0 : C (n + 4) 4 [T rw] st = .ok .non st := chk_s (f := h)
  have q := row_ne h
  have e0 : evS (C (n + 4)) fuelL s_best_period_0 [.val (T rw), .val d, .un] st = .ok (.nx, [.val (T rw), .val d, .un]) st := by
    simp only [s_best_period_0, evSs, evS, evE, evEs, evBs, evO, evT, evI, rd_k, rd_g, rd_bin, rd_neg, rd_not, rd_and, rd_or, rd_cmp, rd_chain, rd_ite, rd_tup, rd_lst, rd_ix, rd_sl, rd_rev, rd_call, rd_sumL, rd_join, rd_cnt, rd_stp, rd_bf, rd_isI, rd_v, R.bind, lift_ok, lift_ex, of_some, asB_ok, asB_ex, asI_ok, asI_ex, asD_ok, asD_ex, fold2_t, fold2_f, fold2_ex, keepIf_t, keepIf_f, ntup_some, calm_o, items_t, items_l, slotR, sl_v, b_add, b_sub, c_eq, c_ne, c_lt, c_le, c_gt, c_ge, f_lenL, f_lenT, f_tupL, f_tupT, f_lstL, f_lstT, f_int, f_abs, i_int, i_intB, i_intN, i_intT, i_intL, i_intS, i_bool, i_boolB, i_tup, i_tupN, i_tupL, i_tupI, x_tup, x_lst, l_tup, l_lst, r_lst, r_tup, q_lst, q_tup, z_lst, z_tup, t_one, w_nil, w_cons, sget_0, sget_S, List.set_cons_zero, List.set_cons_succ, Option.map_some, Option.bind_some, eqD_int, Bool.not_true, Bool.not_false, sz_0, szT_0, sz_1, szT_1, sz_2, szT_2, sz_3, szT_3, sz_4, szT_4, sz_5, szT_5, sz_6, szT_6, t_many2, t_many3, t_many4, t_lst2, t_lst3, k0]
  have e1 : evS (C (n + 4)) fuelL s_best_period_1 [.val (T rw), .val d, .un] st = .ok (.nx, [.val (T rw), .val d, .un]) st := by
    simp only [s_best_period_1, evSs, evS, evE, evEs, evBs, evO, evT, evI, rd_k, rd_g, rd_bin, rd_neg, rd_not, rd_and, rd_or, rd_cmp, rd_chain, rd_ite, rd_tup, rd_lst, rd_ix, rd_sl, rd_rev, rd_call, rd_sumL, rd_join, rd_cnt, rd_stp, rd_bf, rd_isI, rd_v, R.bind, lift_ok, lift_ex, of_some, asB_ok, asB_ex, asI_ok, asI_ex, asD_ok, asD_ex, fold2_t, fold2_f, fold2_ex, keepIf_t, keepIf_f, ntup_some, calm_o, items_t, items_l, slotR, sl_v, b_add, b_sub, c_eq, c_ne, c_lt, c_le, c_gt, c_ge, f_lenL, f_lenT, f_tupL, f_tupT, f_lstL, f_lstT, f_int, f_abs, i_int, i_intB, i_intN, i_intT, i_intL, i_intS, i_bool, i_boolB, i_tup, i_tupN, i_tupL, i_tupI, x_tup, x_lst, l_tup, l_lst, r_lst, r_tup, q_lst, q_tup, z_lst, z_tup, t_one, w_nil, w_cons, sget_0, sget_S, List.set_cons_zero, List.set_cons_succ, Option.map_some, Option.bind_some, eqD_int, Bool.not_true, Bool.not_false, sz_0, szT_0, sz_1, szT_1, sz_2, szT_2, sz_3, szT_3, sz_4, szT_4, sz_5, szT_5, sz_6, szT_6, t_many2, t_many3, t_many4, t_lst2, t_lst3, q]
  have e2 : evS (C (n + 4)) fuelL s_best_period_2 [.val (T rw), .val d, .un] st = .ok (.ex ⟨0, d⟩, [.val (T rw), .val d, .un]) st := by
    simp only [s_best_period_2, evSs, evS, evE, evEs, evBs, evO, evT, evI, rd_k, rd_g, rd_bin, rd_neg, rd_not, rd_and, rd_or, rd_cmp, rd_chain, rd_ite, rd_tup, rd_lst, rd_ix, rd_sl, rd_rev, rd_call, rd_sumL, rd_join, rd_cnt, rd_stp, rd_bf, rd_isI, rd_v, R.bind, lift_ok, lift_ex, of_some, asB_ok, asB_ex, asI_ok, asI_ex, asD_ok, asD_ex, fold2_t, fold2_f, fold2_ex, keepIf_t, keepIf_f, ntup_some, calm_o, items_t, items_l, slotR, sl_v, b_add, b_sub, c_eq, c_ne, c_lt, c_le, c_gt, c_ge, f_lenL, f_lenT, f_tupL, f_tupT, f_lstL, f_lstT, f_int, f_abs, i_int, i_intB, i_intN, i_intT, i_intL, i_intS, i_bool, i_boolB, i_tup, i_tupN, i_tupL, i_tupI, x_tup, x_lst, l_tup, l_lst, r_lst, r_tup, q_lst, q_tup, z_lst, z_tup, t_one, w_nil, w_cons, sget_0, sget_S, List.set_cons_zero, List.set_cons_succ, Option.map_some, Option.bind_some, eqD_int, Bool.not_true, Bool.not_false, sz_0, szT_0, sz_1, szT_1, sz_2, szT_2, sz_3, szT_3, sz_4, szT_4, sz_5, szT_5, sz_6, szT_6, t_many2, t_many3, t_many4, t_lst2, t_lst3, List.length_map, hN, hf]
  exact call_ex (fn := r_best_period.fn) rfl rfl rfl ((ss_nx e0).trans ((ss_nx e1).trans (ss_ex e2)))
theorem repr_20 : ∀ k : Nat, k < 20 → reprB (.int (k : Int)) = true := by decide +kernel
theorem rr_4 (h : Row rw) : ∃ z, evS (C (n + 19)) fuelL s__law_refused_right_4 [.val (T rw), z1, z2, z3, z4] st = .ok (.nx, [.val (T rw), z, z2, z3, z4]) st := by
  have hl := h.l
  obtain ⟨Ni, hN⟩ : ∃ Ni : Int, (rw.length : Int) = Ni := ⟨_, rfl⟩
  refine forr_same (ev := fun z => [.val (T rw), z, z2, z3, z4]) (ds := [.int 0, .int (Ni + 1), .non]) ?_ (fun _ _ => rfl) fun d hd => ?_
  · simp only [evSs, evS, evE, evEs, evBs, evO, evT, evI, rd_k, rd_g, rd_bin, rd_neg, rd_not, rd_and, rd_or, rd_cmp, rd_chain, rd_ite, rd_tup, rd_lst, rd_ix, rd_sl, rd_rev, rd_call, rd_sumL, rd_join, rd_cnt, rd_stp, rd_bf, rd_isI, rd_v, R.bind, lift_ok, lift_ex, of_some, asB_ok, asB_ex, asI_ok, asI_ex, asD_ok, asD_ex, fold2_t, fold2_f, fold2_ex, keepIf_t, keepIf_f, ntup_some, calm_o, items_t, items_l, slotR, sl_v, b_add, b_sub, c_eq, c_ne, c_lt, c_le, c_gt, c_ge, f_lenL, f_lenT, f_tupL, f_tupT, f_lstL, f_lstT, f_int, f_abs, i_int, i_intB, i_intN, i_intT, i_intL, i_intS, i_bool, i_boolB, i_tup, i_tupN, i_tupL, i_tupI, x_tup, x_lst, l_tup, l_lst, r_lst, r_tup, q_lst, q_tup, z_lst, z_tup, t_one, w_nil, w_cons, sget_0, sget_S, List.set_cons_zero, List.set_cons_succ, Option.map_some, Option.bind_some, eqD_int, Bool.not_true, Bool.not_false, sz_0, szT_0, sz_1, szT_1, sz_2, szT_2, sz_3, szT_3, sz_4, szT_4, sz_5, szT_5, sz_6, szT_6, t_many2, t_many3, t_many4, t_lst2, t_lst3, List.length_map, hN]
  · have r : reprB d = true := by
      rcases List.mem_cons.mp hd with rfl | hd
      · decide +kernel
      rcases List.mem_cons.mp hd with rfl | hd
      · obtain ⟨k, hk⟩ : ∃ k : Nat, Ni + 1 = (k : Int) := ⟨rw.length + 1, by omega⟩
        rw [hk]
        exact repr_20 k (by omega)
      rcases List.mem_cons.mp hd with rfl | hd
      · decide +kernel
      · exact absurd hd List.not_mem_nil
    have hf : ∀ k : Nat, C (k + 4) 1 [d, .int 1, .int Ni] st = .ok (.bl false) st := by
      intro k
      rcases List.mem_cons.mp hd with rfl | hd
      · exact from_no (by omega)
      rcases List.mem_cons.mp hd with rfl | hd
      · exact from_no (by omega)
      rcases List.mem_cons.mp hd with rfl | hd
      · exact from_non
      · exact absurd hd List.not_mem_nil
    have e1 : C (n + 19) 8 [T rw, d] st = .exc ⟨0, d⟩ st := mi_no (n := n + 14) h hN (hf _)
    have e2 : C (n + 19) 9 [T rw, d] st = .exc ⟨0, d⟩ st := ne_no (n := n + 14) h hN (hf _)
    have e3 : C (n + 19) 12 [T rw, d] st = .exc ⟨0, d⟩ st := rs_no (n := n + 13) (me_no h hN (hf _))
    have e4 : C (n + 19) 10 [T rw, d] st = .exc ⟨0, d⟩ st := bp_no (n := n + 14) h hN (hf _)
    simp only [f__law_refused_right_2, evSs, evS, evE, evEs, evBs, evO, evT, evI, rd_k, rd_g, rd_bin, rd_neg, rd_not, rd_and, rd_or, rd_cmp, rd_chain, rd_ite, rd_tup, rd_lst, rd_ix, rd_sl, rd_rev, rd_call, rd_sumL, rd_join, rd_cnt, rd_stp, rd_bf, rd_isI, rd_v, R.bind, lift_ok, lift_ex, of_some, asB_ok, asB_ex, asI_ok, asI_ex, asD_ok, asD_ex, fold2_t, fold2_f, fold2_ex, keepIf_t, keepIf_f, ntup_some, calm_o, items_t, items_l, slotR, sl_v, b_add, b_sub, c_eq, c_ne, c_lt, c_le, c_gt, c_ge, f_lenL, f_lenT, f_tupL, f_tupT, f_lstL, f_lstT, f_int, f_abs, i_int, i_intB, i_intN, i_intT, i_intL, i_intS, i_bool, i_boolB, i_tup, i_tupN, i_tupL, i_tupI, x_tup, x_lst, l_tup, l_lst, r_lst, r_tup, q_lst, q_tup, z_lst, z_tup, t_one, w_nil, w_cons, sget_0, sget_S, List.set_cons_zero, List.set_cons_succ, Option.map_some, Option.bind_some, eqD_int, Bool.not_true, Bool.not_false, sz_0, szT_0, sz_1, szT_1, sz_2, szT_2, sz_3, szT_3, sz_4, szT_4, sz_5, szT_5, sz_6, szT_6, t_many2, t_many3, t_many4, t_lst2, t_lst3, e1, e2, e3, e4, refR_yes r]
/-! bounds of what stands out -/
theorem so_n1 {a b : D} (h : Row rw) (hf : C (n + 4) 1 [a, .int 0, .int 1000] st = .ok (.bl false) st) : C (n + 5) 13 [T rw, a, b] st = .exc ⟨0, a⟩ st := by
  have e0 : evS (C (n + 4)) fuelL s_standing_out_0 [.val (T rw), .val a, .val b, .un, .un, .un, .un] st = .ok (.nx, [.val (T rw), .val a, .val b, .un, .un, .un, .un]) st := so_0 (chk_s (n := n) (f := h))
  have e1 : evS (C (n + 4)) fuelL s_standing_out_1 [.val (T rw), .val a, .val b, .un, .un, .un, .un] st = .ok (.ex ⟨0, a⟩, [.val (T rw), .val a, .val b, .un, .un, .un, .un]) st := by
    simp only [s_standing_out_1, evSs, evS, evE, evEs, evBs, evO, evT, evI, rd_k, rd_g, rd_bin, rd_neg, rd_not, rd_and, rd_or, rd_cmp, rd_chain, rd_ite, rd_tup, rd_lst, rd_ix, rd_sl, rd_rev, rd_call, rd_sumL, rd_join, rd_cnt, rd_stp, rd_bf, rd_isI, rd_v, R.bind, lift_ok, lift_ex, of_some, asB_ok, asB_ex, asI_ok, asI_ex, asD_ok, asD_ex, fold2_t, fold2_f, fold2_ex, keepIf_t, keepIf_f, ntup_some, calm_o, items_t, items_l, slotR, sl_v, b_add, b_sub, c_eq, c_ne, c_lt, c_le, c_gt, c_ge, f_lenL, f_lenT, f_tupL, f_tupT, f_lstL, f_lstT, f_int, f_abs, i_int, i_intB, i_intN, i_intT, i_intL, i_intS, i_bool, i_boolB, i_tup, i_tupN, i_tupL, i_tupI, x_tup, x_lst, l_tup, l_lst, r_lst, r_tup, q_lst, q_tup, z_lst, z_tup, t_one, w_nil, w_cons, sget_0, sget_S, List.set_cons_zero, List.set_cons_succ, Option.map_some, Option.bind_some, eqD_int, Bool.not_true, Bool.not_false, sz_0, szT_0, sz_1, szT_1, sz_2, szT_2, sz_3, szT_3, sz_4, szT_4, sz_5, szT_5, sz_6, szT_6, t_many2, t_many3, t_many4, t_lst2, t_lst3, hf]
  exact call_ex (fn := r_standing_out.fn) rfl rfl rfl ((ss_nx e0).trans (ss_ex e1))
theorem so_n2 {a b : D} (h : Row rw) (ha : C (n + 4) 1 [a, .int 0, .int 1000] st = .ok (.bl true) st) (hf : C (n + 4) 1 [b, .int 0, .int 1000000000000] st = .ok (.bl false) st) : C (n + 5) 13 [T rw, a, b] st = .exc ⟨0, b⟩ st := by
  have e0 : evS (C (n + 4)) fuelL s_standing_out_0 [.val (T rw), .val a, .val b, .un, .un, .un, .un] st = .ok (.nx, [.val (T rw), .val a, .val b, .un, .un, .un, .un]) st := so_0 (chk_s (n := n) (f := h))
  have e2 : evS (C (n + 4)) fuelL s_standing_out_2 [.val (T rw), .val a, .val b, .un, .un, .un, .un] st = .ok (.ex ⟨0, b⟩, [.val (T rw), .val a, .val b, .un, .un, .un, .un]) st := by
    simp only [s_standing_out_2, evSs, evS, evE, evEs, evBs, evO, evT, evI, rd_k, rd_g, rd_bin, rd_neg, rd_not, rd_and, rd_or, rd_cmp, rd_chain, rd_ite, rd_tup, rd_lst, rd_ix, rd_sl, rd_rev, rd_call, rd_sumL, rd_join, rd_cnt, rd_stp, rd_bf, rd_isI, rd_v, R.bind, lift_ok, lift_ex, of_some, asB_ok, asB_ex, asI_ok, asI_ex, asD_ok, asD_ex, fold2_t, fold2_f, fold2_ex, keepIf_t, keepIf_f, ntup_some, calm_o, items_t, items_l, slotR, sl_v, b_add, b_sub, c_eq, c_ne, c_lt, c_le, c_gt, c_ge, f_lenL, f_lenT, f_tupL, f_tupT, f_lstL, f_lstT, f_int, f_abs, i_int, i_intB, i_intN, i_intT, i_intL, i_intS, i_bool, i_boolB, i_tup, i_tupN, i_tupL, i_tupI, x_tup, x_lst, l_tup, l_lst, r_lst, r_tup, q_lst, q_tup, z_lst, z_tup, t_one, w_nil, w_cons, sget_0, sget_S, List.set_cons_zero, List.set_cons_succ, Option.map_some, Option.bind_some, eqD_int, Bool.not_true, Bool.not_false, sz_0, szT_0, sz_1, szT_1, sz_2, szT_2, sz_3, szT_3, sz_4, szT_4, sz_5, szT_5, sz_6, szT_6, t_many2, t_many3, t_many4, t_lst2, t_lst3, pow_12, hf]
  exact call_ex (fn := r_standing_out.fn) rfl rfl rfl ((ss_nx e0).trans ((ss_nx (so_1 ha)).trans (ss_ex e2)))
theorem l5_turn {a b d : D} (e : C (n + 19) 13 [T rw, a, b] st = .exc ⟨0, d⟩ st) (r : reprB d = true) : evSs (C (n + 19)) fuelL f__law_refused_right_3 [.val (T rw), z1, .val a, .val b, .val d] st = .ok (.nx, [.val (T rw), z1, .val a, .val b, .val d]) st := by
  simp only [f__law_refused_right_3, evSs, evS, evE, evEs, evBs, evO, evT, evI, rd_k, rd_g, rd_bin, rd_neg, rd_not, rd_and, rd_or, rd_cmp, rd_chain, rd_ite, rd_tup, rd_lst, rd_ix, rd_sl, rd_rev, rd_call, rd_sumL, rd_join, rd_cnt, rd_stp, rd_bf, rd_isI, rd_v, R.bind, lift_ok, lift_ex, of_some, asB_ok, asB_ex, asI_ok, asI_ex, asD_ok, asD_ex, fold2_t, fold2_f, fold2_ex, keepIf_t, keepIf_f, ntup_some, calm_o, items_t, items_l, slotR, sl_v, b_add, b_sub, c_eq, c_ne, c_lt, c_le, c_gt, c_ge, f_lenL, f_lenT, f_tupL, f_tupT, f_lstL, f_lstT, f_int, f_abs, i_int, i_intB, i_intN, i_intT, i_intL, i_intS, i_bool, i_boolB, i_tup, i_tupN, i_tupL, i_tupI, x_tup, x_lst, l_tup, l_lst, r_lst, r_tup, q_lst, q_tup, z_lst, z_tup, t_one, w_nil, w_cons, sget_0, sget_S, List.set_cons_zero, List.set_cons_succ, Option.map_some, Option.bind_some, eqD_int, Bool.not_true, Bool.not_false, sz_0, szT_0, sz_1, szT_1, sz_2, szT_2, sz_3, szT_3, sz_4, szT_4, sz_5, szT_5, sz_6, szT_6, t_many2, t_many3, t_many4, t_lst2, t_lst3, e, refR_yes r]
theorem st_3 {a b c : D} {env1 : Eng.Env} {body : Eng.Env → Sto → RS} {ds : List D} {f : RS} (u : body [.val (T rw), z1, .val a, .val b, .val c] st = .ok (.nx, env1) st) (w : loopF (tgSet (.many [2, 3, 4])) body ds env1 st = f) : loopF (tgSet (.many [2, 3, 4])) body (.tup [a, b, c] :: ds) [.val (T rw), z1, z2, z3, z4] st = f :=
  (loopF_step rfl u).trans w
theorem rr_5 (h : Row rw) : ∃ y2 y3 y4, evS (C (n + 19)) fuelL s__law_refused_right_5 [.val (T rw), z1, z2, z3, z4] st = .ok (.nx, [.val (T rw), z1, y2, y3, y4]) st := by
  have ei : evI (C (n + 19)) (.seq (.tup (.cons (.tup (.cons (.neg (.k (.int (1)))) (.cons (.k (.non)) (.cons (.neg (.k (.int (1)))) .nil)))) (.cons (.tup (.cons (.k (.int (1001))) (.cons (.k (.non)) (.cons (.k (.int (1001))) .nil)))) (.cons (.tup (.cons (.k (.non)) (.cons (.k (.int (0))) (.cons (.k (.non)) .nil)))) (.cons (.tup (.cons (.k (.int (0))) (.cons (.neg (.k (.int (1)))) (.cons (.neg (.k (.int (1)))) .nil)))) (.cons (.tup (.cons (.k (.int (0))) (.cons (.k (.non)) (.cons (.k (.non)) .nil)))) .nil))))))) [.val (T rw), z1, z2, z3, z4] st = .ok [.tup [.int (-1), .non, .int (-1)], .tup [.int 1001, .non, .int 1001], .tup [.non, .int 0, .non], .tup [.int 0, .int (-1), .int (-1)], .tup [.int 0, .non, .non]] st := by
    simp only [evSs, evS, evE, evEs, evBs, evO, evT, evI, rd_k, rd_g, rd_bin, rd_neg, rd_not, rd_and, rd_or, rd_cmp, rd_chain, rd_ite, rd_tup, rd_lst, rd_ix, rd_sl, rd_rev, rd_call, rd_sumL, rd_join, rd_cnt, rd_stp, rd_bf, rd_isI, rd_v, R.bind, lift_ok, lift_ex, of_some, asB_ok, asB_ex, asI_ok, asI_ex, asD_ok, asD_ex, fold2_t, fold2_f, fold2_ex, keepIf_t, keepIf_f, ntup_some, calm_o, items_t, items_l, slotR, sl_v, b_add, b_sub, c_eq, c_ne, c_lt, c_le, c_gt, c_ge, f_lenL, f_lenT, f_tupL, f_tupT, f_lstL, f_lstT, f_int, f_abs, i_int, i_intB, i_intN, i_intT, i_intL, i_intS, i_bool, i_boolB, i_tup, i_tupN, i_tupL, i_tupI, x_tup, x_lst, l_tup, l_lst, r_lst, r_tup, q_lst, q_tup, z_lst, z_tup, t_one, w_nil, w_cons, sget_0, sget_S, List.set_cons_zero, List.set_cons_succ, Option.map_some, Option.bind_some, eqD_int, Bool.not_true, Bool.not_false, sz_0, szT_0, sz_1, szT_1, sz_2, szT_2, sz_3, szT_3, sz_4, szT_4, sz_5, szT_5, sz_6, szT_6, t_many2, t_many3, t_many4, t_lst2, t_lst3]
  have r1 : reprB (.int (-1)) = true := by decide +kernel
  have r2 : reprB (.int 1001) = true := by decide +kernel
  have a0 : C (n + 18) 1 [.int 0, .int 0, .int 1000] st = .ok (.bl true) st := from_yes (by decide) (by decide)
  refine ⟨.val (.int 0), .val .non, .val .non, for_ok ei ?_⟩
  refine st_3 (l5_turn (so_n1 (n := n + 14) h (from_no (by decide))) r1) ?_
  refine st_3 (l5_turn (so_n1 (n := n + 14) h (from_no (by decide))) r2) ?_
  refine st_3 (l5_turn (so_n1 (n := n + 14) h from_non) non_repr) ?_
  refine st_3 (l5_turn (so_n2 (n := n + 14) h a0 (from_no (by decide))) r1) ?_
  exact st_3 (l5_turn (so_n2 (n := n + 14) h a0 from_non) non_repr) rfl
theorem fa_no {d : D} (h : Row rw) (e1 : evS (C (n + 4)) fuelL s_first_again_1 [.val (T rw), .val d, .un] st = .ok (.ex ⟨0, d⟩, [.val (T rw), .val d, .un]) st) : C (n + 5) 14 [T rw, d] st = .exc ⟨0, d⟩ st := by
  exact call_ex (fn := r_first_again.fn) rfl rfl rfl ((ss_nx (fa_0 (chk_s (n := n) (f := h)))).trans (ss_ex e1))
abbrev bads6 : List D := [.non, .tup [], .lst [.int 1]]
theorem bads6_no (h : Row rw) : ∀ d ∈ bads6, C (n + 5) 14 [T rw, d] st = .exc ⟨0, d⟩ st :=
  AllQ.mem (p := fun d => C (n + 5) 14 [T rw, d] st = .exc ⟨0, d⟩ st) (l := bads6) ⟨
    fa_no h (by simp only [s_first_again_1, evSs, evS, evE, evEs, evBs, evO, evT, evI, rd_k, rd_g, rd_bin, rd_neg, rd_not, rd_and, rd_or, rd_cmp, rd_chain, rd_ite, rd_tup, rd_lst, rd_ix, rd_sl, rd_rev, rd_call, rd_sumL, rd_join, rd_cnt, rd_stp, rd_bf, rd_isI, rd_v, R.bind, lift_ok, lift_ex, of_some, asB_ok, asB_ex, asI_ok, asI_ex, asD_ok, asD_ex, fold2_t, fold2_f, fold2_ex, keepIf_t, keepIf_f, ntup_some, calm_o, items_t, items_l, slotR, sl_v, b_add, b_sub, c_eq, c_ne, c_lt, c_le, c_gt, c_ge, f_lenL, f_lenT, f_tupL, f_tupT, f_lstL, f_lstT, f_int, f_abs, i_int, i_intB, i_intN, i_intT, i_intL, i_intS, i_bool, i_boolB, i_tup, i_tupN, i_tupL, i_tupI, x_tup, x_lst, l_tup, l_lst, r_lst, r_tup, q_lst, q_tup, z_lst, z_tup, t_one, w_nil, w_cons, sget_0, sget_S, List.set_cons_zero, List.set_cons_succ, Option.map_some, Option.bind_some, eqD_int, Bool.not_true, Bool.not_false, sz_0, szT_0, sz_1, szT_1, sz_2, szT_2, sz_3, szT_3, sz_4, szT_4, sz_5, szT_5, sz_6, szT_6, t_many2, t_many3, t_many4, t_lst2, t_lst3]),
    fa_no h (by
      have q : eqD (.tup []) (.tup []) = some true := rfl
      simp only [s_first_again_1, evSs, evS, evE, evEs, evBs, evO, evT, evI, rd_k, rd_g, rd_bin, rd_neg, rd_not, rd_and, rd_or, rd_cmp, rd_chain, rd_ite, rd_tup, rd_lst, rd_ix, rd_sl, rd_rev, rd_call, rd_sumL, rd_join, rd_cnt, rd_stp, rd_bf, rd_isI, rd_v, R.bind, lift_ok, lift_ex, of_some, asB_ok, asB_ex, asI_ok, asI_ex, asD_ok, asD_ex, fold2_t, fold2_f, fold2_ex, keepIf_t, keepIf_f, ntup_some, calm_o, items_t, items_l, slotR, sl_v, b_add, b_sub, c_eq, c_ne, c_lt, c_le, c_gt, c_ge, f_lenL, f_lenT, f_tupL, f_tupT, f_lstL, f_lstT, f_int, f_abs, i_int, i_intB, i_intN, i_intT, i_intL, i_intS, i_bool, i_boolB, i_tup, i_tupN, i_tupL, i_tupI, x_tup, x_lst, l_tup, l_lst, r_lst, r_tup, q_lst, q_tup, z_lst, z_tup, t_one, w_nil, w_cons, sget_0, sget_S, List.set_cons_zero, List.set_cons_succ, Option.map_some, Option.bind_some, eqD_int, Bool.not_true, Bool.not_false, sz_0, szT_0, sz_1, szT_1, sz_2, szT_2, sz_3, szT_3, sz_4, szT_4, sz_5, szT_5, sz_6, szT_6, t_many2, t_many3, t_many4, t_lst2, t_lst3, q]),
    fa_no h (by simp only [s_first_again_1, evSs, evS, evE, evEs, evBs, evO, evT, evI, rd_k, rd_g, rd_bin, rd_neg, rd_not, rd_and, rd_or, rd_cmp, rd_chain, rd_ite, rd_tup, rd_lst, rd_ix, rd_sl, rd_rev, rd_call, rd_sumL, rd_join, rd_cnt, rd_stp, rd_bf, rd_isI, rd_v, R.bind, lift_ok, lift_ex, of_some, asB_ok, asB_ex, asI_ok, asI_ex, asD_ok, asD_ex, fold2_t, fold2_f, fold2_ex, keepIf_t, keepIf_f, ntup_some, calm_o, items_t, items_l, slotR, sl_v, b_add, b_sub, c_eq, c_ne, c_lt, c_le, c_gt, c_ge, f_lenL, f_lenT, f_tupL, f_tupT, f_lstL, f_lstT, f_int, f_abs, i_int, i_intB, i_intN, i_intT, i_intL, i_intS, i_bool, i_boolB, i_tup, i_tupN, i_tupL, i_tupI, x_tup, x_lst, l_tup, l_lst, r_lst, r_tup, q_lst, q_tup, z_lst, z_tup, t_one, w_nil, w_cons, sget_0, sget_S, List.set_cons_zero, List.set_cons_succ, Option.map_some, Option.bind_some, eqD_int, Bool.not_true, Bool.not_false, sz_0, szT_0, sz_1, szT_1, sz_2, szT_2, sz_3, szT_3, sz_4, szT_4, sz_5, szT_5, sz_6, szT_6, t_many2, t_many3, t_many4, t_lst2, t_lst3]), trivial⟩
theorem bads6_repr : ∀ d ∈ bads6, reprB d = true := List.all_eq_true.mp (by decide +kernel)
theorem rr_6 (h : Row rw) : ∃ z, evS (C (n + 19)) fuelL s__law_refused_right_6 [.val (T rw), z1, z2, z3, z4] st = .ok (.nx, [.val (T rw), z, z2, z3, z4]) st := by
  refine forr_same (ev := fun z => [.val (T rw), z, z2, z3, z4]) (ds := bads6) ?_ (fun _ _ => rfl) fun d hd => ?_
  · show evI (C (n + 19)) _ _ _ = .ok [.non, .tup [], .lst [.int 1]] _
    simp only [evSs, evS, evE, evEs, evBs, evO, evT, evI, rd_k, rd_g, rd_bin, rd_neg, rd_not, rd_and, rd_or, rd_cmp, rd_chain, rd_ite, rd_tup, rd_lst, rd_ix, rd_sl, rd_rev, rd_call, rd_sumL, rd_join, rd_cnt, rd_stp, rd_bf, rd_isI, rd_v, R.bind, lift_ok, lift_ex, of_some, asB_ok, asB_ex, asI_ok, asI_ex, asD_ok, asD_ex, fold2_t, fold2_f, fold2_ex, keepIf_t, keepIf_f, ntup_some, calm_o, items_t, items_l, slotR, sl_v, b_add, b_sub, c_eq, c_ne, c_lt, c_le, c_gt, c_ge, f_lenL, f_lenT, f_tupL, f_tupT, f_lstL, f_lstT, f_int, f_abs, i_int, i_intB, i_intN, i_intT, i_intL, i_intS, i_bool, i_boolB, i_tup, i_tupN, i_tupL, i_tupI, x_tup, x_lst, l_tup, l_lst, r_lst, r_tup, q_lst, q_tup, z_lst, z_tup, t_one, w_nil, w_cons, sget_0, sget_S, List.set_cons_zero, List.set_cons_succ, Option.map_some, Option.bind_some, eqD_int, Bool.not_true, Bool.not_false, sz_0, szT_0, sz_1, szT_1, sz_2, szT_2, sz_3, szT_3, sz_4, szT_4, sz_5, szT_5, sz_6, szT_6, t_many2, t_many3, t_many4, t_lst2, t_lst3]
  · have e1 := bads6_no (n := n + 14) (st := st) h d hd
    have r := bads6_repr d hd
    simp only [f__law_refused_right_4, evSs, evS, evE, evEs, evBs, evO, evT, evI, rd_k, rd_g, rd_bin, rd_neg, rd_not, rd_and, rd_or, rd_cmp, rd_chain, rd_ite, rd_tup, rd_lst, rd_ix, rd_sl, rd_rev, rd_call, rd_sumL, rd_join, rd_cnt, rd_stp, rd_bf, rd_isI, rd_v, R.bind, lift_ok, lift_ex, of_some, asB_ok, asB_ex, asI_ok, asI_ex, asD_ok, asD_ex, fold2_t, fold2_f, fold2_ex, keepIf_t, keepIf_f, ntup_some, calm_o, items_t, items_l, slotR, sl_v, b_add, b_sub, c_eq, c_ne, c_lt, c_le, c_gt, c_ge, f_lenL, f_lenT, f_tupL, f_tupT, f_lstL, f_lstT, f_int, f_abs, i_int, i_intB, i_intN, i_intT, i_intL, i_intS, i_bool, i_boolB, i_tup, i_tupN, i_tupL, i_tupI, x_tup, x_lst, l_tup, l_lst, r_lst, r_tup, q_lst, q_tup, z_lst, z_tup, t_one, w_nil, w_cons, sget_0, sget_S, List.set_cons_zero, List.set_cons_succ, Option.map_some, Option.bind_some, eqD_int, Bool.not_true, Bool.not_false, sz_0, szT_0, sz_1, szT_1, sz_2, szT_2, sz_3, szT_3, sz_4, szT_4, sz_5, szT_5, sz_6, szT_6, t_many2, t_many3, t_many4, t_lst2, t_lst3, e1, refR_yes r]
/-! a row too long -/
def zz : List Int := List.replicate 201 0
theorem zz_repr : reprB (T zz) = true := repr_big _ (by decide +kernel) (by decide +kernel) (by decide +kernel) (by decide +kernel)
theorem zz_mul : binop .mul (.tup [.int 0]) (.int 201) = some (T zz) := by
  rw [b_repT _ _ (List.cons_ne_nil _ _) (by decide) (by decide), List.flatten_replicate_singleton]
  unfold T zz
  rw [List.map_replicate] <;> rfl
theorem zz_no {k : Nat} : C (k + 5) 15 [T zz] st = .exc ⟨0, T zz⟩ st := by
  have hz : ∀ x ∈ zz, Nm x := fun x hx => by
    have := List.eq_of_mem_replicate hx
    exact ⟨by omega, by omega⟩
  have hl : zz.length = 201 := List.length_replicate
  have e1 : ∀ w : List Int, decide ((200 : Int) < w.length) = true → evS (C (k + 4)) fuelL s_longest_again_1 [.val (T w), .un, .un, .un, .un] st = .ok (.ex ⟨0, T w⟩, [.val (T w), .un, .un, .un, .un]) st := fun w hw => by
    show lift (asB (evE (C (k + 4)) (.cmp .gt (.bf .len (.cons (.v 0) .nil)) (.k (.int (200)))) [.val (T w), .un, .un, .un, .un] st)) _ _ = _
    rw [len_gt (b := true) rfl hw]
    rfl
  exact call_ex (fn := r_longest_again.fn) rfl rfl rfl ((ss_nx (lg_0 (chk_ok (by omega) hz))).trans (ss_ex (e1 zz (decide_eq_true (by omega)))))
theorem l7_ev' {d : D} (m : binop .mul (.tup [.int 0]) (.int 201) = some d) (e : C (n + 19) 15 [d] st = .exc ⟨0, d⟩ st) (r : reprB d = true) : evS (C (n + 19)) fuelL s__law_refused_right_7 [.val (T rw), z1, z2, z3, z4] st = .ok (.rt (.bl true), [.val (T rw), z1, z2, z3, z4]) st := by
  simp only [s__law_refused_right_7, evSs, evS, evE, evEs, evBs, evO, evT, evI, rd_k, rd_g, rd_bin, rd_neg, rd_not, rd_and, rd_or, rd_cmp, rd_chain, rd_ite, rd_tup, rd_lst, rd_ix, rd_sl, rd_rev, rd_call, rd_sumL, rd_join, rd_cnt, rd_stp, rd_bf, rd_isI, rd_v, R.bind, lift_ok, lift_ex, of_some, asB_ok, asB_ex, asI_ok, asI_ex, asD_ok, asD_ex, fold2_t, fold2_f, fold2_ex, keepIf_t, keepIf_f, ntup_some, calm_o, items_t, items_l, slotR, sl_v, b_add, b_sub, c_eq, c_ne, c_lt, c_le, c_gt, c_ge, f_lenL, f_lenT, f_tupL, f_tupT, f_lstL, f_lstT, f_int, f_abs, i_int, i_intB, i_intN, i_intT, i_intL, i_intS, i_bool, i_boolB, i_tup, i_tupN, i_tupL, i_tupI, x_tup, x_lst, l_tup, l_lst, r_lst, r_tup, q_lst, q_tup, z_lst, z_tup, t_one, w_nil, w_cons, sget_0, sget_S, List.set_cons_zero, List.set_cons_succ, Option.map_some, Option.bind_some, eqD_int, Bool.not_true, Bool.not_false, sz_0, szT_0, sz_1, szT_1, sz_2, szT_2, sz_3, szT_3, sz_4, szT_4, sz_5, szT_5, sz_6, szT_6, t_many2, t_many3, t_many4, t_lst2, t_lst3, m, e, refR_yes r]
theorem rr_ok (h : Row rw) : C (n + 20) 22 [T rw] (Dw cs j) = .ok (.bl true) (Dw cs j) := by
  obtain ⟨y0, a0⟩ := rr_0 (n := n) (rw := rw) (cs := cs) (j := j)
  obtain ⟨y3, a3⟩ := rr_3 (n := n) (rw := rw) (cs := cs) (j := j) (z1 := y0) (z2 := .un) (z3 := .un) (z4 := .un) h
  obtain ⟨y4, a4⟩ := rr_4 (n := n) (rw := rw) (st := Dw cs j) (z1 := y3) (z2 := .un) (z3 := .un) (z4 := .un) h
  obtain ⟨x2, x3, x4, a5⟩ := rr_5 (n := n) (rw := rw) (st := Dw cs j) (z1 := y4) (z2 := .un) (z3 := .un) (z4 := .un) h
  obtain ⟨y6, a6⟩ := rr_6 (n := n) (rw := rw) (st := Dw cs j) (z1 := y4) (z2 := x2) (z3 := x3) (z4 := x4) h
  exact call_rt (fn := r__law_refused_right.fn) rfl rfl rfl ((ss_nx a0).trans ((ss_nx rr_1).trans ((ss_nx rr_2).trans ((ss_nx a3).trans ((ss_nx a4).trans ((ss_nx a5).trans ((ss_nx a6).trans (ss_rt (l7_ev' zz_mul zz_no zz_repr)))))))))
end
section
theorem law_18 {n : Nat} {ns cs rw : List Int} {s2 s4 s5 s6 s7 s8 s9 s10 s11 s12 s13 s14 s15 s16 s17 s18 s19 s20 : Sl} {j : Int} (h : Row rw) : evS (C (n + 20)) fuelL s_law_18 (En ns s2 rw s4 s5 s6 s7 s8 s9 s10 s11 s12 s13 s14 s15 s16 s17 s18 s19 s20) (Dw cs j) = .ok (.rt (.bl true), En ns s2 rw s4 s5 s6 s7 s8 s9 s10 s11 s12 s13 s14 s15 s16 s17 s18 s19 s20) (Dw cs j) := by
  show lift (evE (C (n + 20)) (.call 22 (.cons (.v 3) .nil)) _ _) _ _ = _
  rw [call_1 rfl (rr_ok h)]
  rfl
theorem law_body {n : Nat} (ns : List Int) (h : ns.length ≤ 63) : ∃ env st, evSs (C (n + 20)) fuelL b_law (.val (.scr ns) :: List.replicate 24 .un) [] = .ok (.rt (.bl true), env) st := by
  have a0 := law_0 (n := n) h
  obtain ⟨pt, j, hj, hp, a1⟩ := law_1 (n := n) (ns := ns) (cs := ns.take 63)
  obtain ⟨rw, i, hi, hr, a2⟩ := law_2 (n := n) (ns := ns) (cs := ns.take 63) hp hj
  by_cases q : rw = []
  · subst q
    exact ⟨_, _, (ss_nx a0).trans ((ss_nx a1).trans ((ss_nx a2).trans (ss_rt law_3_nil)))⟩
  have hR : Row rw := ⟨hr.l, List.length_pos_iff.mpr q, hr.v⟩
  have s2 : Sl := .val (.lst (pt.map .int))
  have a3 := law_3 (n := n) (ns := ns) (rw := rw) (s2 := .val (.lst (pt.map .int))) (st := Dw (ns.take 63) i) hR
  have a4 := law_4 (n := n) (ns := ns) (rw := rw) (s2 := .val (.lst (pt.map .int))) (s4 := .un) (s5 := .un) (s6 := .un) (s7 := .un) (s8 := .un) (s9 := .un) (s10 := .un) (s11 := .un) (s12 := .un) (s13 := .un) (s14 := .un) (s15 := .un) (s16 := .un) (s17 := .un) (s18 := .un) (s19 := .un) (s20 := .un) (st := Dw (ns.take 63) i) hR
  have a5 := law_5 (n := n) (ns := ns) (rw := rw) (s2 := .val (.lst (pt.map .int))) (s5 := .un) (s6 := .un) (s7 := .un) (s8 := .un) (s9 := .un) (s10 := .un) (s11 := .un) (s12 := .un) (s13 := .un) (s14 := .un) (s15 := .un) (s16 := .un) (s17 := .un) (s18 := .un) (s19 := .un) (s20 := .un) (st := Dw (ns.take 63) i) hR
  obtain ⟨k, k1, k2, a6⟩ := law_6 (n := n) (ns := ns) (cs := ns.take 63) (rw := rw) (s2 := .val (.lst (pt.map .int))) (s4 := .val (.lst ((fitL rw).map natD))) (s5 := .un) (s6 := .un) (s7 := .un) (s8 := .un) (s9 := .un) (s10 := .un) (s11 := .un) (s12 := .un) (s13 := .un) (s14 := .un) (s15 := .un) (s16 := .un) (s17 := .un) (s18 := .un) (s19 := .un) (s20 := .un) hR hi
  obtain ⟨t6, t7, t8, t9, t10, t11, t12, a8⟩ := law_8 (n := n) (ns := ns) (cs := ns.take 63) (j := i + 1) (rw := rw) (s2 := .val (.lst (pt.map .int))) (s6 := .un) (s7 := .un) (s8 := .un) (s9 := .un) (s10 := .un) (s11 := .un) (s12 := .un) (s13 := .un) (s14 := .un) (s15 := .un) (s16 := .un) (s17 := .un) (s18 := .un) (s19 := .un) (s20 := .un) hR (by omega) k1 k2
  obtain ⟨w, b, hw, hb, a9⟩ := law_9 (n := n) (ns := ns) (cs := ns.take 63) (j := i + 1 + 1) (rw := rw) (s2 := .val (.lst (pt.map .int))) (s4 := .val (.lst ((fitL rw).map natD))) (s5 := .val (natD k)) (s6 := t6) (s7 := t7) (s8 := t8) (s9 := t9) (s10 := t10) (s11 := t11) (s12 := t12) (s13 := .un) (s14 := .un) (s15 := .un) (s16 := .un) (s17 := .un) (s18 := .un) (s19 := .un) (s20 := .un) (by omega)
  obtain ⟨y10, y11, y12, a10⟩ := law_10 (n := n) (ns := ns) (st := Dw (ns.take 63) (i + 1 + 1 + 1 + 1)) (rw := rw) (s2 := .val (.lst (pt.map .int))) (s4 := .val (.lst ((fitL rw).map natD))) (s5 := .val (natD k)) (s6 := t6) (s7 := t7) (s8 := t8) (s9 := t9) (s10 := t10) (s11 := t11) (s12 := t12) (s16 := .un) (s17 := .un) (s18 := .un) (s19 := .un) (s20 := .un) (w := w) (b := b) hR (by omega)
  have a11 := law_11 (n := n) (ns := ns) (st := Dw (ns.take 63) (i + 1 + 1 + 1 + 1)) (rw := rw) (s2 := .val (.lst (pt.map .int))) (s4 := .val (.lst ((fitL rw).map natD))) (s5 := .val (natD k)) (s6 := t6) (s7 := t7) (s8 := t8) (s9 := t9) (s10 := y10) (s11 := y11) (s12 := y12) (s16 := .un) (s17 := .un) (s18 := .un) (s19 := .un) (s20 := .un) hR hw hb
  obtain ⟨a, ha, a12⟩ := law_12 (n := n) (ns := ns) (cs := ns.take 63) (j := i + 1 + 1 + 1 + 1) (rw := rw) (s2 := .val (.lst (pt.map .int))) (s4 := .val (.lst ((fitL rw).map natD))) (s5 := .val (natD k)) (s6 := t6) (s7 := t7) (s8 := t8) (s9 := t9) (s10 := y10) (s11 := y11) (s12 := y12) (s13 := .val (natD w)) (s14 := .val (natD b)) (s15 := .val (.lst ((soL rw w b rw.length 0).map natD))) (s16 := .un) (s17 := .un) (s18 := .un) (s19 := .un) (s20 := .un) hR (by omega)
  obtain ⟨part, p1, p2, a13⟩ := law_13 (n := n) (ns := ns) (cs := ns.take 63) (j := i + 1 + 1 + 1 + 1 + 1) (rw := rw) (s2 := .val (.lst (pt.map .int))) (s4 := .val (.lst ((fitL rw).map natD))) (s5 := .val (natD k)) (s6 := t6) (s7 := t7) (s8 := t8) (s9 := t9) (s10 := y10) (s11 := y11) (s12 := y12) (s13 := .val (natD w)) (s14 := .val (natD b)) (s15 := .val (.lst ((soL rw w b rw.length 0).map natD))) (s17 := .un) (s18 := .un) (s19 := .un) (s20 := .un) hR ha (by omega)
  obtain ⟨y18, y19, y20, a16⟩ := law_16 (n := n) (ns := ns) (st := Dw (ns.take 63) (i + 1 + 1 + 1 + 1 + 1 + 1)) (rw := rw) (s2 := .val (.lst (pt.map .int))) (s4 := .val (.lst ((fitL rw).map natD))) (s5 := .val (natD k)) (s6 := t6) (s7 := t7) (s8 := t8) (s9 := t9) (s10 := y10) (s11 := y11) (s12 := .val (T part)) (s13 := .val (natD w)) (s14 := .val (natD b)) (s15 := .val (.lst ((soL rw w b rw.length 0).map natD))) (s16 := .val (natD a)) (s18 := .un) (s19 := .un) (s20 := .un) hR
  exact ⟨_, _, (ss_nx a0).trans ((ss_nx a1).trans ((ss_nx a2).trans ((ss_nx a3).trans ((ss_nx a4).trans ((ss_nx a5).trans ((ss_nx a6).trans ((ss_nx (law_7 hR k1 k2)).trans ((ss_nx a8).trans ((ss_nx a9).trans ((ss_nx a10).trans ((ss_nx a11).trans ((ss_nx a12).trans ((ss_nx a13).trans ((ss_nx (law_14 hR p1 p2)).trans ((ss_nx law_15).trans ((ss_nx a16).trans ((ss_nx (law_17 hR)).trans (ss_rt (law_18 hR)))))))))))))))))))⟩
theorem lawOk (ns : List Int) (h : ns.length ≤ 63) : ∃ s, callN (rows.map Rw.fn) fuelL fuelN 23 [.scr ns] [] = .ok (.bl true) s := by
  obtain ⟨env, st, e⟩ := law_body (n := 9) ns h
  exact ⟨[], call_law (fn := r_law.fn) rfl rfl e⟩
end

theorem rows_ok : rows.all (Rw.okB top G) = true := by kernel_rfl
theorem ents_ok : entsB top rows cls G = true := by kernel_rfl
abbrev R : PySem.W.OpenRow := PySem.W.OpenLaw.row PySem.Challenge.rw_keptpoints_k26_whole_seasons
abbrev lw : PySem.W.OpenLaw := PySem.Challenge.rw_keptpoints_k26_whole_seasons
abbrev ex : PySem.W.Frag → Bool := exB (lw).prog cls tf G
abbrev hk : PySem.W.Hook := Eng.hookC 4 (rows.map (Rw.dd top)) tf ex
def ob (s : PySem.W.SharedT) : He.AlX := Eng.obsC 4 (rows.map (Rw.dd top)) tf ex (HandSHeadRun.getT s)
theorem ob_eq (s : PySem.W.SharedT) : ob s = hk.obs s.abs := Eng.obsC_eq (HandSHeadRun.getT_eq s)
theorem run (w : World) : HandSHeadRun.RunEq R (PySem.W.view R.prog [31]) hk ob 20000 loose w := by
  intro os
  kernel_rfl
theorem walk {w : World} {mg : Str → Option Value} {fa : Addr} {h : Heap} (Y : ∃ Kf : PySem.W.Frag, Kf.In h ∧ He.SaysX [] (rows.map (Rw.dd top)) [] tf ex w h Kf) (Gn : h.Ns mainGlobals mg) (hmg : mg ("law" : Str) = some (.ref fa)) :
    ∃ (Kf : PySem.W.Frag) (fd : FuncData) (sp : Sp) (cs : List (Addr × Addr)), Kf.In h ∧ (∀ p ∈ cs, h.get? p.2 = some { cls := .none, data := .fields #[] }) ∧ (∀ p ∈ cs, Kf.lookup p.2 = none) ∧ (∀ p ∈ cs, PySem.W.CodeHd h p.1 p.2) ∧ (∀ (s : Shared) (u : Value), BindsTo s fd ⟨[u], []⟩ [(("script" : Str), u)]) ∧
      (∀ (H : Hp) (a : Addr) (ns : List Int), ns.length ≤ 63 → (∀ p ∈ cs, H p.2 = some (.tbl #[])) → SqL Kf H a (ns.map V.int) → sp [.ref a] H (fun v _ => v = .bl true) fun _ _ _ => False) ∧
      ∀ base : Heap, Kf.In base → base.Ns mainGlobals mg → (∀ p ∈ cs, LamX.TabB base mg p.1 p.2) → FnG (lw).prog w Kf mg base fuelN fa fd [("script" : Str)] sp := by
  obtain ⟨Kf, KX, c⟩ := Y
  obtain ⟨g1, g⟩ := ba2 c.more
  obtain ⟨g2, g⟩ := ba2 g
  obtain ⟨g3, g4⟩ := ba2 g
  obtain ⟨fd, hb, hF⟩ := law_fn (P := (lw).prog) (w := w) (n := 29) (L := fuelL) g3 g4 KX Gn g1 g2 c.t.d (List.all_eq_true.mp rows_ok) binds ents_ok (i := 23) (r := r_law) rfl rfl (mem_of_lk (y := GV.fn 23) (by kernel_rfl)) hmg
  have tb : ∀ p ∈ tf.map (He.cT Kf), ∃ q ∈ tf, He.cT Kf q = p := fun p hp => List.mem_map.mp hp
  exact ⟨Kf, fd, _, tf.map (He.cT Kf), KX, fun p hp => (tb p hp).elim fun q ⟨hq, e⟩ => e ▸ c.empty q hq, fun p hp => (tb p hp).elim fun q ⟨hq, e⟩ => e ▸ c.out q hq, fun p hp => (tb p hp).elim fun q ⟨hq, e⟩ => e ▸ PySem.W.codeHd_of_K KX (c.hd q hq), hb,
    fun H a ns hl ht hS => law_sp (lawOk ns hl) (tabs_of g3 ht) hS, fun base X1 X2 X3 => hF base X1 X2 X3⟩
end K
open PySem PySem.W PySem.Calls PyProof.Rows
theorem PySem.Challenge.cw_keptpoints_k26_whole_seasons_holds : PySem.Challenge.rw_keptpoints_k26_whole_seasons.Holds := by
  w_on; o_law
  refine HandSHeadRun.head_any (r := K.R) (q := view K.R.prog [31]) (H := K.hk) (ob := K.ob) (M := 20000) (loose := K.loose) (d := HandSHeadRun.topDef K.R.prog 31) (kwd := []) K.ob_eq
    (by kernel_rfl) (fun s => by kernel_rfl) K.run (by kernel_rfl) (by kernel_rfl) (by kernel_rfl) (by rfl) (by first | assumption | decide +kernel) (by decide +kernel) ⟨rfl, rfl, rfl, rfl, rfl, by decide +kernel⟩ ?hw ?hc
  case hw => w_witness2
  case hc =>
    refine Eng.walk_law (l := PySem.Challenge.rw_keptpoints_k26_whole_seasons) (n := 63) (k := 30) (x := "script") rfl (by decide) (by kernel_rfl) ⟨rfl, by decide, by decide⟩ ?F
    intro w mg fa h Y Gn hmg0
    have hmg : mg ("law" : PySem.Str) = some (.ref fa) := by
      have e : (HandSHeadRun.topDef K.R.prog 31).name = ("law" : PySem.Str) := by kernel_rfl
      rw [← e]
      exact hmg0
    exact K.walk Y Gn hmg
end
