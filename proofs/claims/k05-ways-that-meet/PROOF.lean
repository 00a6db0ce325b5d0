import PyProof.Rows.All
import Wide.All
import OpenK.AllK
import Wide.FinOn
import HandS.ForMost
import HandS.ForExc
import HandS.IsInst
import HandS.Flow
import HandS.Style
import HandS.TupAny
import HandS.SetFor
import HandS.StrMore
import HandS.Zip
import HandS.SortInts
import PyProof.Rows.SortShellAny
import HandS.TryOnly
import HandS.ExcIs
import HandS.ExcOwn
import HandS.TupMul
import HandS.Strs
import HandS.Lambda
import HandS.EndTab
import KE.SortKeyHeap
import HandS.Nested
import PySem.Challenge.RW_makerword_k05_whole_ways_that_meet
set_option Elab.async false
set_option linter.all false
set_option maxRecDepth 100000
set_option maxRecDepth 100000
/-! Part 1: a small language of my own, its evaluator over data, and the look that compares it with the given text. -/
namespace MW
open PySem L2

abbrev D := PyData

inductive Res (α : Type) where
  | ok (a : α)
  | exn (c : Nat)
  | stuck

namespace Res
def bind {α β : Type} (x : Res α) (f : α → Res β) : Res β := match x with
  | .ok a => f a
  | .exn c => .exn c
  | .stuck => .stuck
/-- a guard -/
def need {α : Type} (b : Bool) (x : Res α) : Res α := match b with
  | true => x
  | false => .stuck
def map {α β : Type} (f : α → β) (x : Res α) : Res β := x.bind fun a => .ok (f a)
end Res
open Res

inductive Slot where
  | val (d : D)
  | own (d : D)

abbrev Env := List (Option Slot)

def rdV (env : Env) (i : Nat) : Res D := match env[i]? with
  | some (some (.val d)) => .ok d
  | _ => .stuck
def rdO (env : Env) (i : Nat) : Res D := match env[i]? with
  | some (some (.val d)) => .ok d
  | some (some (.own d)) => .ok d
  | _ => .stuck
def wipeE (env : Env) : List Nat → Env
  | [] => env
  | v :: vs => (wipeE env vs).set v none

/-! ### the language -/
inductive Ty where
  | int | bool | tuple | str | list
  deriving DecidableEq
inductive Blt where
  | len | min2 | max2 | all | tuple | list | int | sorted
  deriving DecidableEq
inductive Mth where
  | index | countL | countS | join
  deriving DecidableEq
inductive IK where
  | of | range | enum | rev
  deriving DecidableEq

mutual
inductive G where
  | name (i : Nat)
  | tup (gs : Gs)
inductive Gs where
  | nil
  | cons (g : G) (gs : Gs)
end

mutual
inductive E where
  | var (i : Nat)
  | own (i : Nat)
  | cst (c : Const)
  | glob (k : Nat)
  | tup (es : Es)
  | lst (es : Es)
  | dic0
  | bin (op : Operator) (a b : E)
  | mulL (c : Int) (b : E)
  | neg (a : E)
  | cmp (op : CmpOp) (a b : E)
  | chain (op op2 : CmpOp) (a b c : E)
  | chain3 (op op2 op3 : CmpOp) (a b c d : E)
  | and (a b : E)
  | or (a b : E)
  | not (a : E)
  | ife (t a b : E)
  | ix (a b : E)
  | slc (a lo hi : E)
  | abs
  | slc3 (a : E) (k : Int)
  | call (f : Nat) (es : Es)
  | blt (b : Blt) (es : Es)
  | isi (a : E) (tys : List Ty)
  | lenset (a : E)
  | rep (a b : E)
  | sortk (a key : E) (p : Str)
  | comp (elt : E) (g : G) (ik : IK) (ia : Es) (cond : Es) (own : List (Str × Nat))
  | meth (m : Mth) (o : E) (a : E)
inductive Es where
  | nil
  | cons (e : E) (es : Es)
end

/-- what an except clause does -/
inductive Hd where
  | setT
  | retT
  | isT (c2 c3 j : Nat)
  | nonI (c2 c3 j : Nat)
mutual
inductive S where
  | asg (i : Nat) (e : E)
  | asgO (i : Nat) (e : E)
  | asgT (g : G) (e : E)
  | par (i j : Nat) (a b : E)
  | app (i : Nat) (e : E)
  | ext (i : Nat) (e : E)
  | put (i : Nat) (k v : E)
  | frz (i : Nat)
  | ret (e : E)
  | ite (t : E) (a b : Ss)
  | whl (t : E) (b : Ss)
  | for (g : G) (ik : IK) (ia : Es) (b : Ss)
  | brk
  | cnt
  | pass
  | expr (e : E)
  | raise (c : Nat)
  | halt
  | try_ (b : Ss) (c i : Nat) (h : Hd)
inductive Ss where
  | nil
  | cons (s : S) (r : Ss)
end

/-! ### operations on data -/
def small64 (i : Int) : Bool := decide (-(2 ^ 64) < i) && decide (i < 2 ^ 64)
def fitsZ (n : Nat) : Bool := decide (n ≤ sizeLine)
def optR (o : Option D) : Res D := match o with
  | some d => .ok d
  | none => .stuck
def ixD (xs : List D) (i : Int) : Res D := match atI xs i with
  | some d => .ok d
  | none => .stuck
def chD (c : Nat) : D := .str ⟨#[c]⟩
/-- a key of a dict -/
def keyD : Key → D
  | .inl i => .int i
  | .inr x => .str x
def toKey : D → Option Key
  | .int i => some (.inl i)
  | .str x => some (.inr x)
  | _ => none
def dkD (kds : List (Key × D)) : List (D × D) := kds.map fun p => (keyD p.1, p.2)
def dictGet : List (D × D) → Key → Option D
  | [], _ => none
  | (k, v) :: r, q => match toKey k with
    | some k' => if k' = q then some v else dictGet r q
    | none => dictGet r q
def dictPut (kvs : List (D × D)) (q : Key) (d : D) : List (D × D) := match dictGet kvs q with
  | some _ => kvs.map fun p => if toKey p.1 = some q then (p.1, d) else p
  | none => kvs ++ [(keyD q, d)]

def repS (a : Str) (n : Nat) : Str := ⟨(List.replicate n a.cps).foldl (· ++ ·) #[]⟩
def opD (op : Operator) (x y : D) : Res D := match op, x, y with
  | .Add, .int i, .int j => .ok (.int (i + j))
  | .Add, .str a, .str b => need (fitsZ (a.length + b.length)) (.ok (.str (a ++ b)))
  | .Add, .list a, .list b => need (fitsZ (a.length + b.length)) (.ok (.list (a ++ b)))
  | .Add, .tuple a, .tuple b => need (fitsZ (a.length + b.length)) (.ok (.tuple (a ++ b)))
  | .Sub, .int i, .int j => .ok (.int (i - j))
  | .Mult, .int i, .int j => need (small64 j || small64 i) (.ok (.int (i * j)))
  | .Mult, .str a, .int j => need (decide (0 ≤ j) && decide (j ≤ 1000000) && fitsZ (a.length * j.toNat)) (.ok (.str (repS a j.toNat)))
  | .Mult, .tuple a, .int j => need (!a.isEmpty && decide (2 ≤ j) && decide (j ≤ 1000) && decide (a.length ≤ 1000)) (.ok (.tuple (List.replicate j.toNat a).flatten))
  | .Mod, .int i, .int j => need (decide (0 < j)) (.ok (.int (i % j)))
  | .FloorDiv, .int i, .int j => need (decide (0 < j) && decide (j < 1073741824)) (.ok (.int (i / j)))
  | .LShift, .int i, .int j => need (decide (0 ≤ j) && decide (j ≤ 1000000) && decide (i.natAbs < 2 ^ 64)) (.ok (.int (i * 2 ^ j.toNat)))
  | .RShift, .int i, .int j => need (decide (0 ≤ j)) (.ok (.int (i / 2 ^ j.toNat)))
  | .BitAnd, .int i, .int j => .ok (.int (Builtin.bitAnd i j))
  | _, _, _ => .stuck

def lim : Nat := 150
def eqOk (x y : D) : Bool := x.canLay0 && y.canLay0 && (decide (x.depth ≤ lim) || decide (y.depth ≤ lim))
def eqD (x y : D) : Res D := need (eqOk x y) (.ok (.bool (PyData.eqv x y)))
def neD (x y : D) : Res D := need (eqOk x y) (.ok (.bool (!PyData.eqv x y)))
def oneSign (s : Str) : Option Nat := match s.cps.toList with
  | [c] => some c
  | _ => none
def inStr (s t : Str) : Bool := !(Builtin.Str.occurrences t s 0 t.length 1).isEmpty
def inOk (x : D) (ds : List D) : Bool := x.canLay0 && PyData.canLayAll0 ds && (decide (x.depth ≤ lim) || decide (PyData.depthAll ds ≤ lim))
def inD (x y : D) : Res Bool := match y with
  | .list ds => need (inOk x ds) (.ok (ds.any fun z => PyData.eqv z x))
  | .tuple ds => need (inOk x ds) (.ok (ds.any fun z => PyData.eqv z x))
  | .str t => match x with
    | .str s => .ok (inStr s t)
    | _ => .stuck
  | .dict kvs => match toKey x with
    | some k => .ok (dictGet kvs k).isSome
    | none => .stuck
  | _ => .stuck
def isNone : D → Bool
  | .none => true
  | _ => false
/-- x is y, where y is None, True, False -/
def isD (x y : D) : Res Bool := match y with
  | .none => .ok (isNone x)
  | .bool b => match x with
    | .bool c => .ok (decide (c = b))
    | _ => .stuck
  | _ => .stuck
def cmpD (op : CmpOp) (x y : D) : Res D := match op with
  | .Eq => eqD x y
  | .NotEq => neD x y
  | .Lt => match x, y with
    | .int i, .int j => .ok (.bool (decide (i < j)))
    | _, _ => .stuck
  | .LtE => match x, y with
    | .int i, .int j => .ok (.bool (decide (i ≤ j)))
    | _, _ => .stuck
  | .Gt => match x, y with
    | .int i, .int j => .ok (.bool (decide (j < i)))
    | _, _ => .stuck
  | .GtE => match x, y with
    | .int i, .int j => .ok (.bool (decide (j ≤ i)))
    | _, _ => .stuck
  | .Is => (isD x y).map .bool
  | .IsNot => (isD x y).map fun b => .bool (!b)
  | .In => (inD x y).map .bool
  | .NotIn => (inD x y).map fun b => .bool (!b)
def truD : D → Res Bool
  | .none => .ok false
  | .bool b => .ok b
  | .int i => .ok (i != 0)
  | .str s => need (fitsZ s.length) (.ok (s.length != 0))
  | .list ds => .ok (!ds.isEmpty)
  | .tuple ds => .ok (!ds.isEmpty)
  | .dict kvs => .ok (!kvs.isEmpty)
def boolD : D → Res Bool
  | .bool b => .ok b
  | _ => .stuck
def itemD (x i : D) : Res D := match x with
  | .list ds => match i with
    | .int j => ixD ds j
    | _ => .stuck
  | .tuple ds => match i with
    | .int j => ixD ds j
    | _ => .stuck
  | .str s => match i with
    | .int j => need (fitsZ s.length) (match atI s.cps.toList j with | some c => .ok (chD c) | none => .stuck)
    | _ => .stuck
  | .dict kvs => match toKey i with
    | some k => optR (dictGet kvs k)
    | none => .stuck
  | _ => .stuck
def cutD {α : Type} (xs : List α) (lo hi : Option Int) : List α := (xs.drop (HT.sIx xs.length 0 lo)).take (HT.sIx xs.length xs.length hi - HT.sIx xs.length 0 lo)
def cutStr (s : Str) (lo hi : Option Int) : Str := ⟨(cutD s.cps.toList lo hi).toArray⟩
def sliceD (x : D) (lo hi : Option Int) : Res D := match x with
  | .list ds => .ok (.list (cutD ds lo hi))
  | .tuple ds => .ok (.tuple (cutD ds lo hi))
  | .str s => need (fitsZ s.length) (.ok (.str (cutStr s lo hi)))
  | _ => .stuck
def tyB (d : D) (t : Ty) : Bool := match d, t with
  | .bool _, .bool => true
  | .bool _, .int => true
  | .int _, .int => true
  | .str _, .str => true
  | .list _, .list => true
  | .tuple _, .tuple => true
  | _, _ => false
def notDict : D → Bool
  | .dict _ => false
  | _ => true
def allB : List D → Res Bool
  | [] => .ok true
  | .bool b :: r => (allB r).bind fun c => .ok (b && c)
  | _ :: _ => .stuck
def lenD : D → Res D
  | .list ds => .ok (.int ds.length)
  | .tuple ds => .ok (.int ds.length)
  | .str s => need (fitsZ s.length) (.ok (.int s.length))
  | .dict kvs => .ok (.int kvs.length)
  | _ => .stuck
def insS (x : Str) : List Str → List Str
  | [] => [x]
  | y :: r => if Spec.ltCps y.cps.toList x.cps.toList then y :: insS x r else x :: y :: r
def sortS (xs : List Str) : List Str := xs.foldr insS []
def insI (x : Int) : List Int → List Int
  | [] => [x]
  | y :: r => if y < x then y :: insI x r else x :: y :: r
def sortI (xs : List Int) : List Int := xs.foldr insI []
def strsOf : List D → Option (List Str)
  | [] => some []
  | .str s :: r => (strsOf r).map (s :: ·)
  | _ :: _ => none
def intsOf : List D → Option (List Int)
  | [] => some []
  | .int s :: r => (intsOf r).map (s :: ·)
  | _ :: _ => none
def sortedD (ds : List D) : Res D := match strsOf ds with
  | some ss => .ok (.list ((sortS ss).map .str))
  | none => match intsOf ds with
    | some is => .ok (.list ((sortI is).map .int))
    | none => .stuck
def keysS : List (D × D) → Option (List Str)
  | [] => some []
  | (.str s, _) :: r => (keysS r).map (s :: ·)
  | _ :: _ => none
/-- the least of some texts -/
def minK (ss : List Str) : Option Str := ss[argBest (fun i j => decide ((ss.getD i Str.empty).cps.toList < (ss.getD j Str.empty).cps.toList)) (ss.length - 1)]?
def minD (kvs : List (D × D)) : Res D := match keysS kvs with
  | some ss => match minK ss with
    | some s => .ok (.str s)
    | none => .stuck
  | none => .stuck
def bltD (b : Blt) (ds : List D) : Res D := match b, ds with
  | .min2, [.dict kvs] => minD kvs
  | .len, [x] => lenD x
  | .min2, [.int i, .int j] => .ok (.int (if j < i then j else i))
  | .max2, [.int i, .int j] => .ok (.int (if j > i then j else i))
  | .all, [.list ds] => (allB ds).bind fun b => .ok (.bool b)
  | .tuple, [.list ds] => .ok (.tuple ds)
  | .tuple, [.tuple ds] => .ok (.tuple ds)
  | .list, [.list ds] => .ok (.list ds)
  | .list, [.tuple ds] => .ok (.list ds)
  | .list, [.str s] => need (fitsZ s.length) (.ok (.list (s.cps.toList.map chD)))
  | .int, [.bool b] => .ok (.int (if b then 1 else 0))
  | .int, [.int i] => .ok (.int i)
  | .sorted, [.list ds] => sortedD ds
  | _, _ => .stuck
/-- [x] * n -/
def repD (x y : D) : Res D := match y with
  | .int j => need (decide (0 ≤ j) && decide (j ≤ 1000000)) (.ok (.list (List.replicate j.toNat x)))
  | _ => .stuck
/-- each number once, as they come first -/
def dedup (is : List Int) : List Int := is.foldl (fun acc x => if acc.any (· == x) then acc else acc ++ [x]) []
/-- each text once, as they come first -/
def dedupS (xs : List Str) : List Str := xs.foldl (fun acc x => if acc.any (· == x) then acc else acc ++ [x]) []
def lensetD (x : D) : Res D := match x with
  | .list ds => match intsOf ds with
    | some is => need (decide (is.length ≤ 4000)) (.ok (.int (dedup is).length))
    | none => match strsOf ds with
      | some ss => need (decide (ss.length ≤ 4000)) (.ok (.int (dedupS ss).length))
      | none => .stuck
  | _ => .stuck
def countD (ds : List D) (a : D) : Res D := match a with
  | .int k => match intsOf ds with
    | some is => .ok (.int (is.count k : Nat))
    | none => .stuck
  | .str k => match strsOf ds with
    | some ss => .ok (.int (ss.countP fun x => x.cps.toList == k.cps.toList : Nat))
    | none => .stuck
  | _ => .stuck
def indexD (a b : Str) : Res D := match PySem.Txt.index0 a b with
  | some k => .ok (.int (k : Nat))
  | none => .stuck
def joinD (a : Str) (ds : List D) : Res D := match strsOf ds with
  | some ys => need (decide ((ys.map (·.length)).sum + ys.length * a.length ≤ 16777216)) (.ok (.str (PySem.Txt.join a ys)))
  | none => .stuck
def methD (m : Mth) (o a : D) : Res D := match m, o with
  | .countL, .list ds => countD ds a
  | .countS, .str x => match a with
    | .str y => .ok (.int (PySem.Txt.count x y))
    | _ => .stuck
  | .index, .str x => match a with
    | .str y => indexD x y
    | _ => .stuck
  | .join, .str x => match a with
    | .list ds => joinD x ds
    | _ => .stuck
  | _, _ => .stuck
def mthOk (m : Mth) (o : D) : Bool := match m, o with
  | .countL, .list _ => true
  | .countS, .str _ => true
  | .index, .str _ => true
  | .join, .str _ => true
  | _, _ => false
/-- each second one -/
def evens {α : Type} : List α → List α
  | [] => []
  | [x] => [x]
  | x :: _ :: r => x :: evens r
def stepD (x : D) (k : Int) : Res D := match x with
  | .tuple ds => if k = -1 then .ok (.tuple ds.reverse) else if k = 2 then .ok (.tuple (evens ds)) else .stuck
  | _ => .stuck

/-- what a loop walks -/
def itemsOf (x : D) : Res (List D) := match x with
  | .list ds => .ok ds
  | .tuple ds => .ok ds
  | .str s => .ok (s.cps.toList.map chD)
  | _ => .stuck
def rangeD (lo hi : Int) : Res (List D) :=
  need (decide (-(2 ^ 62) ≤ lo) && decide (lo < 2 ^ 62) && decide (-(2 ^ 62) ≤ hi) && decide (hi < 2 ^ 62) && fitsZ (hi - lo).toNat) (.ok ((List.range (hi - lo).toNat).map fun i => .int (lo + (i : Nat))))
def enumFrom (n : Nat) : List D → List D
  | [] => []
  | d :: r => .tuple [.int n, d] :: enumFrom (n + 1) r
def iterD (ik : IK) (ds : List D) : Res (List D) := match ik, ds with
  | .of, [x] => itemsOf x
  | .range, [.int j] => rangeD 0 j
  | .range, [.int i, .int j] => rangeD i j
  | .enum, [.list ds] => .ok (enumFrom 0 ds)
  | .enum, [.tuple ds] => .ok (enumFrom 0 ds)
  | .rev, [.list ds] => .ok ds.reverse
  | _, _ => .stuck

mutual
def bindG : G → D → Env → Res Env
  | .name i, d, env => need (decide (i < env.length)) (.ok (env.set i (some (.val d))))
  | .tup gs, d, env => match d with
    | .tuple ds => bindGs gs ds env
    | _ => .stuck
def bindGs : Gs → List D → Env → Res Env
  | .nil, [], env => .ok env
  | .cons g gs, d :: ds, env => (bindG g d env).bind fun env' => bindGs gs ds env'
  | _, _, _ => .stuck
end

/-! ### the evaluator -/
abbrev Phi := Nat → List D → Res D

def addO (o : Option D) (r : List D) : List D := match o with
  | some x => x :: r
  | none => r
/-- one turn of a comprehension after another -/
def compL (turn : D → Res (Option D)) : List D → Res (List D)
  | [] => .ok []
  | d :: ds => (turn d).bind fun o => (compL turn ds).bind fun r => .ok (addO o r)
/-- within a comprehension nothing may be raised -/
def noExn {α : Type} : Res α → Res α
  | .ok a => .ok a
  | _ => .stuck
def optI : D → Res (Option Int)
  | .int i => .ok (some i)
  | _ => .stuck
def mapR (f : D → Res D) : List D → Res (List D)
  | [] => .ok []
  | d :: r => (f d).bind fun x => (mapR f r).bind fun xs => .ok (x :: xs)
/-- the kind of a key -/
def kindK : D → Nat
  | .int _ => 1
  | .str _ => 2
  | .tuple [.int _, .str _] => 3
  | _ => 0
def keyOk (ks : List D) : Bool := ((ks.all fun k => decide (kindK k = 1)) || (ks.all fun k => decide (kindK k = 2)) || ks.all fun k => decide (kindK k = 3)) && ks.all fun k => k.canLay0
/-- sorted by keys -/
def sortP (ps : List (D × D)) : List (D × D) := ps.mergeSort (PySem.W.dataLe false Prod.snd)
def seqD : D → Res (List D)
  | .list ds => .ok ds
  | .tuple ds => .ok ds
  | _ => .stuck
def sortkD (f : D → Res D) (x : D) : Res D := (seqD x).bind fun ds => (mapR f ds).bind fun ks => need (keyOk ks && fitsZ ds.length) (.ok (.list ((sortP (ds.zip ks)).map Prod.fst)))
/-- an optional bound of a slice -/
def optE (none : Bool) (r : Res D) : Res (Option Int) := match none with
  | true => .ok Option.none
  | false => r.bind optI
def E.isAbs : E → Bool
  | .abs => true
  | _ => false

section
variable (Φ : Phi) (cs : Nat → Res D)
mutual
def ev : E → Env → Res D
  | .var i, env => rdV env i
  | .own i, env => rdO env i
  | .cst c, _ => match c with
    | .int i => .ok (.int i)
    | .str s => .ok (.str s)
    | .bool b => .ok (.bool b)
    | .none => .ok .none
    | _ => .stuck
  | .glob k, _ => cs k
  | .tup es, env => (evs es env).bind fun ds => need (fitsZ ds.length) (.ok (.tuple ds))
  | .lst es, env => (evs es env).bind fun ds => need (fitsZ ds.length) (.ok (.list ds))
  | .dic0, _ => .ok (.dict [])
  | .bin op a b, env => (ev a env).bind fun x => (ev b env).bind fun y => opD op x y
  | .mulL c b, env => (ev b env).bind fun y => match y with
    | .int j => need (small64 c) (.ok (.int (c * j)))
    | _ => .stuck
  | .neg a, env => (ev a env).bind fun x => match x with
    | .int i => .ok (.int (-i))
    | _ => .stuck
  | .cmp op a b, env => (ev a env).bind fun x => (ev b env).bind fun y => cmpD op x y
  | .chain op op2 a b c, env => (ev a env).bind fun x => (ev b env).bind fun y => (cmpD op x y).bind fun r => (boolD r).bind fun k => match k with
    | true => (ev c env).bind fun z => cmpD op2 y z
    | false => .ok (.bool false)
  | .and a b, env => (ev a env).bind fun x => (truD x).bind fun k => match k with
    | true => ev b env
    | false => .ok x
  | .or a b, env => (ev a env).bind fun x => (truD x).bind fun k => match k with
    | true => .ok x
    | false => ev b env
  | .not a, env => (ev a env).bind fun x => (truD x).bind fun k => .ok (.bool (!k))
  | .ife t a b, env => (tst t env).bind fun k => match k with
    | true => ev a env
    | false => ev b env
  | .ix a b, env => (ev a env).bind fun x => (ev b env).bind fun y => itemD x y
  | .slc a lo hi, env => (ev a env).bind fun x => (optE lo.isAbs (ev lo env)).bind fun l => (optE hi.isAbs (ev hi env)).bind fun h => sliceD x l h
  | .abs, _ => .stuck
  | .slc3 a k, env => (ev a env).bind fun x => stepD x k
  | .chain3 _ _ _ _ _ _ _, _ => .stuck
  | .call f es, env => (evs es env).bind fun ds => Φ f ds
  | .blt b es, env => (evs es env).bind fun ds => bltD b ds
  | .isi a tys, env => (ev a env).bind fun x => .ok (.bool (tys.any fun t => tyB x t))
  | .lenset a, env => (ev a env).bind fun x => lensetD x
  | .rep a b, env => (ev a env).bind fun x => (ev b env).bind fun y => repD x y
  | .sortk a key _, env => (ev a env).bind fun x => sortkD (fun d => noExn (ev key [some (.val d)])) x
  | .comp elt g ik ia cond own, env => (evs ia env).bind fun ds => (iterD ik ds).bind fun xs =>
      (compL (fun d => noExn ((bindG g d (wipeE env (own.map (·.2)))).bind fun env' => (tsts cond env').bind fun k => match k with
        | true => (ev elt env').bind fun v => .ok (some v)
        | false => .ok none)) xs).bind fun r => need (fitsZ r.length) (.ok (.list r))
  | .meth m o a, env => (ev o env).bind fun x => need (mthOk m x) ((ev a env).bind fun y => methD m x y)
def evs : Es → Env → Res (List D)
  | .nil, _ => .ok []
  | .cons e es, env => (ev e env).bind fun d => (evs es env).bind fun ds => .ok (d :: ds)
/-- as a test -/
def tst : E → Env → Res Bool
  | .and a b, env => (tst a env).bind fun k => match k with
    | true => tst b env
    | false => .ok false
  | .or a b, env => (tst a env).bind fun k => match k with
    | true => .ok true
    | false => tst b env
  | .not a, env => (tst a env).bind fun k => .ok (!k)
  | .ife t a b, env => (tst t env).bind fun k => match k with
    | true => tst a env
    | false => tst b env
  | .cmp op a b, env => (ev a env).bind fun x => (ev b env).bind fun y => (cmpD op x y).bind boolD
  | .chain op op2 a b c, env => (ev a env).bind fun x => (ev b env).bind fun y => (cmpD op x y).bind fun r => (boolD r).bind fun k => match k with
    | true => (ev c env).bind fun z => (cmpD op2 y z).bind boolD
    | false => .ok false
  | .chain3 op op2 op3 a b c d, env => (ev a env).bind fun x => (ev b env).bind fun y => (cmpD op x y).bind fun r => (boolD r).bind fun k => match k with
    | true => (ev c env).bind fun z => (cmpD op2 y z).bind fun r2 => (boolD r2).bind fun k2 => match k2 with
      | true => (ev d env).bind fun u => (cmpD op3 z u).bind boolD
      | false => .ok false
    | false => .ok false
  | .var i, env => (rdV env i).bind truD
  | .own i, env => (rdO env i).bind truD
  | .call f es, env => (evs es env).bind fun ds => (Φ f ds).bind truD
  | .blt b es, env => (evs es env).bind fun ds => (bltD b ds).bind truD
  | .isi a tys, env => (ev a env).bind fun x => .ok (tys.any fun t => tyB x t)
  | .ix a b, env => (ev a env).bind fun x => (ev b env).bind fun y => (itemD x y).bind truD
  | .comp elt g ik ia cond own, env => (evs ia env).bind fun ds => (iterD ik ds).bind fun xs =>
      (compL (fun d => noExn ((bindG g d (wipeE env (own.map (·.2)))).bind fun env' => (tsts cond env').bind fun k => match k with
        | true => (ev elt env').bind fun v => .ok (some v)
        | false => .ok none)) xs).bind fun r => need (fitsZ r.length) (.ok (!r.isEmpty))
  | _, _ => .stuck
def tsts : Es → Env → Res Bool
  | .nil, _ => .ok true
  | .cons e _, env => tst e env
end

/-! ### statements -/
inductive Fl where
  | next (env : Env)
  | ret (d : D)
  | brk (env : Env)
  | cnt (env : Env)

def whileL (t : Env → Res Bool) (b : Env → Res Fl) : Nat → Env → Res Fl
  | 0, _ => .stuck
  | n + 1, env => (t env).bind fun k => match k with
    | false => .ok (.next env)
    | true => (b env).bind fun f => match f with
      | .next env' => whileL t b n env'
      | .cnt env' => whileL t b n env'
      | .brk env' => .ok (.next env')
      | .ret d => .ok (.ret d)
def forL (g : D → Env → Res Env) (b : Env → Res Fl) : List D → Env → Res Fl
  | [], env => .ok (.next env)
  | d :: ds, env => (g d env).bind fun env' => (b env').bind fun f => match f with
    | .next env' => forL g b ds env'
    | .cnt env' => forL g b ds env'
    | .brk env' => .ok (.next env')
    | .ret d => .ok (.ret d)
def setV (env : Env) (i : Nat) (d : D) : Res Env := need (decide (i < env.length)) (.ok (env.set i (some (.val d))))
def isOwnable : D → Bool
  | .list _ => true
  | .dict _ => true
  | _ => false
/-- an exception of the class c is caught; all slots but one are forgotten -/
def handD (c i : Nat) (h : Hd) (n : Nat) (r : Res Fl) : Res Fl := match r with
  | .exn c' => need (decide (c' = c)) (match h with
    | .retT => .ok (.ret (.bool true))
    | .nonI _ _ _ => need (decide (i < n)) (.ok (.next ((List.replicate n none).set i (some (.val .none)))))
    | _ => need (decide (i < n)) (.ok (.next ((List.replicate n none).set i (some (.val (.bool true)))))))
  | r => r
/-- the most turns of a while -/
def wmax : Nat := 1000

mutual
def ex : S → Env → Res Fl
  | .asg i e, env => (ev Φ cs e env).bind fun d => (setV env i d).bind fun env' => .ok (.next env')
  | .asgO i e, env => (ev Φ cs e env).bind fun d => need (isOwnable d && decide (i < env.length)) (.ok (.next (env.set i (some (.own d)))))
  | .asgT g e, env => (ev Φ cs e env).bind fun d => (bindG g d env).bind fun env' => .ok (.next env')
  | .par i j a b, env => (ev Φ cs a env).bind fun x => (ev Φ cs b env).bind fun y => (setV env i x).bind fun e1 => (setV e1 j y).bind fun e2 => .ok (.next e2)
  | .app i e, env => match env[i]? with
    | some (some (.own (.list ds))) => (ev Φ cs e env).bind fun d => need (decide (ds.length < sizeLine)) (.ok (.next (env.set i (some (.own (.list (ds ++ [d])))))))
    | _ => .stuck
  | .ext i e, env => match env[i]? with
    | some (some (.own (.list ds))) => (ev Φ cs e env).bind fun d => match d with
      | .list xs => need (fitsZ (ds.length + xs.length)) (.ok (.next (env.set i (some (.own (.list (ds ++ xs)))))))
      | _ => .stuck
    | _ => .stuck
  | .put i k v, env => match env[i]? with
    | some (some (.own (.dict kvs))) => (ev Φ cs v env).bind fun d => (ev Φ cs k env).bind fun kd => match toKey kd with
      | some q => need (decide (kvs.length < sizeLine)) (.ok (.next (env.set i (some (.own (.dict (dictPut kvs q d)))))))
      | none => .stuck
    | _ => .stuck
  | .frz i, env => match env[i]? with
    | some (some (.own d)) => .ok (.next (env.set i (some (.val d))))
    | _ => .ok (.next env)
  | .ret e, env => (ev Φ cs e env).bind fun d => .ok (.ret d)
  | .ite t a b, env => (tst Φ cs t env).bind fun k => match k with
    | true => exs a env
    | false => exs b env
  | .whl t b, env => whileL (tst Φ cs t) (exs b) wmax env
  | .for g ik ia b, env => (evs Φ cs ia env).bind fun ds => (iterD ik ds).bind fun xs => forL (bindG g) (exs b) xs env
  | .brk, env => .ok (.brk env)
  | .cnt, env => .ok (.cnt env)
  | .pass, env => .ok (.next env)
  | .expr e, env => (ev Φ cs e env).bind fun _ => .ok (.next env)
  | .raise c, _ => .exn c
  | .halt, _ => .stuck
  | .try_ b c i h, env => handD c i h env.length (exs b env)
def exs : Ss → Env → Res Fl
  | .nil, env => .ok (.next env)
  | .cons s r, env => (ex s env).bind fun f => match f with
    | .next env' => exs r env'
    | f => .ok f
end
end

def startE (n : Nat) (ds : List D) : Env := ds.map (fun d => some (.val d)) ++ List.replicate (n - ds.length) none
/-- a def's body, run at its arguments -/
def runF (Φ : Phi) (cs : Nat → Res D) (n np : Nat) (b : Ss) (ds : List D) : Res D :=
  need (decide (ds.length = np)) ((exs Φ cs b (startE n ds)).bind fun f => match f with
    | .next _ => .ok .none
    | .ret d => .ok d
    | _ => .stuck)
/-- calls, at most k of them one in another -/
def callN (T : Nat → Phi → List D → Res D) : Nat → Phi
  | 0 => fun _ _ => .stuck
  | k + 1 => fun i ds => T i (callN T k) ds
end MW

set_option maxRecDepth 100000
/-! Part 1b: enumerate over a tuple. -/
namespace MW
open PySem PySem.Spec PyProof.Rows L2
section
variable {pg : Program} {wl : World} {Ar : Around} {Ex : Value → Shared → Prop} {sh : Shared}
theorem nextT_item {I t : Addr} {n : Nat} {vs : Array Value} {v : Value} {Q : Value → Shared → Prop} (hI : sh.heap.IsTupleIter I t n) (hT : sh.heap.IsTuple t vs) (hv : vs[n]? = some v)
    (q : ∀ h', h'.IsTupleIter I t (n + 1) → Heap.SameBut I sh.heap h' → Q v { sh with heap := h' }) : wpAny (model pg wl) Ar (Builtin.SmallTypes.nextOf (.ref I)) Q Ex sh := by
  obtain ⟨o1, g1, g2, g3⟩ := id hI
  obtain ⟨o2, g4, _, n2, g5⟩ := hT
  unfold Builtin.SmallTypes.nextOf
  refine wpAny_bind (wpAny_callSpecial?_slot (name := Str.ofString "__next__") hI.typeIs F.slot_tuple_iterator_next (wpAny_call_entry F.slot_tuple_iterator_next hI.typeIs F.entry_tuple_iterator_next ?_ (F.args_tuple_iterator_next_1 _)))
  show wpAny _ _ (field (.ref I) 0 >>= _) _ _ sh
  refine wpAny_bind (wpAny_field g1 g3 (x := .ref t) rfl ?_)
  show wpAny _ _ (if (Value.ref t == Value.none) = true then _ else _) _ _ sh
  rw [if_neg (show ¬ ((Value.ref t == Value.none) = true) by exact Bool.false_ne_true)]
  show wpAny _ _ (field (.ref I) 1 >>= _) _ _ sh
  refine wpAny_bind (wpAny_field g1 g3 (x := .int n 0) rfl ?_)
  show wpAny _ _ (seqItems? (.ref t) >>= _) _ _ sh
  refine wpAny_bind (wpAny_seqItems g4 g5 ?_)
  simp only [Int.toNat_natCast, hv]
  refine wpAny_bind (wpAny_setField g1 g3 (by simp) (wpAny_pure ⟨v, rfl, wpAny_pure (q _ ?_ (Heap.SameBut.update ..))⟩))
  exact ⟨_, Heap.get?_update_self _ g1 (Obj.isFreed_of_fields (Obj.data_mapFields g3 _)), (Obj.cls_mapFields ..).trans g2, by rw [Obj.data_mapFields g3]; simp [rawInt]⟩
theorem nextT_end {I t : Addr} {n : Nat} {vs : Array Value} {Q : Value → Shared → Prop} (hh : Ar.handled = none) (hI : sh.heap.IsTupleIter I t n) (hT : sh.heap.IsTuple t vs) (hv : vs[n]? = none)
    (q : ∀ h' e, Heap.ExtBut I sh.heap h' → (∃ o, h'.get? e = some o ∧ o.cls = .type "StopIteration") → Ex (.ref e) { sh with heap := h' }) : wpAny (model pg wl) Ar (Builtin.SmallTypes.nextOf (.ref I)) Q Ex sh := by
  obtain ⟨o1, g1, g2, g3⟩ := id hI
  obtain ⟨o2, g4, _, n2, g5⟩ := hT
  unfold Builtin.SmallTypes.nextOf
  refine wpAny_bind (wpAny_callSpecial?_slot (name := Str.ofString "__next__") hI.typeIs F.slot_tuple_iterator_next (wpAny_call_entry F.slot_tuple_iterator_next hI.typeIs F.entry_tuple_iterator_next ?_ (F.args_tuple_iterator_next_1 _)))
  show wpAny _ _ (field (.ref I) 0 >>= _) _ _ sh
  refine wpAny_bind (wpAny_field g1 g3 (x := .ref t) rfl ?_)
  show wpAny _ _ (if (Value.ref t == Value.none) = true then _ else _) _ _ sh
  rw [if_neg (show ¬ ((Value.ref t == Value.none) = true) by exact Bool.false_ne_true)]
  show wpAny _ _ (field (.ref I) 1 >>= _) _ _ sh
  refine wpAny_bind (wpAny_field g1 g3 (x := .int n 0) rfl ?_)
  show wpAny _ _ (seqItems? (.ref t) >>= _) _ _ sh
  refine wpAny_bind (wpAny_seqItems g4 g5 ?_)
  simp only [Int.toNat_natCast, hv]
  refine wpAny_bind (wpAny_rule (wpAny_bind (wpAny_setField g1 g3 (by simp) ?_)))
  show wpAny _ _ (newExc (.type "StopIteration") [] >>= _) _ _ (_ : Shared)
  refine wpAny_bind ?_
  (simp only [newExc, newTuple]; refine wpAny_bind (wpAny_newObj_type ?_ (by size_fits)))
  (refine wpAny_bind (m := firstArgMember _ _) (wpAny_of_eq (a := Value.none) (by first | rfl | (simp only [firstArgMember]; rfl)) ?_); refine wpAny_newObj_type ?_ (by size_fits))
  (simp only [raiseNew]; refine wpAny_bind (wpAny_handled ?_))
  first | rw [hh] | rw [show Ar.in1.handled = none from hh]
  (refine wpAny_bind (wpAny_pure (wpAny_throw ?_)); skip)
  exact q _ _ (((Heap.SameBut.update ..).extBut.push _).push _) ⟨_, Heap.get?_push_size _ rfl, rfl⟩
theorem drawsT (hh : Ar.handled = none) (I t : Addr) (hne : t ≠ I) (vs : Array Value) : Draws pg wl Ar I [I, t] vs.size (fun i v => vs[i]? = some v) (fun i h => h.IsTupleIter I t i ∧ h.IsTuple t vs) where
  live := fun _ _ st => let ⟨o, ho, _⟩ := st.1; ⟨o, ho⟩
  frame := fun _ _ _ st hk => ⟨st.1.at fun o e => hk I (by simp) o e, let ⟨o, ho, r⟩ := st.2; ⟨o, hk t (by simp) o ho, r⟩⟩
  item := fun i s Q E hi st hQ => by
    refine nextT_item st.1 st.2 (v := vs[i]) (by simp [hi]) fun h' a b => ?_
    exact hQ _ h' s.toks (by simp [hi]) ⟨a, let ⟨o, ho, r⟩ := st.2; ⟨o, b.extBut t o hne ho, r⟩⟩ b
  done := fun s Q E st hE => nextT_end hh st.1 st.2 (by simp) hE
theorem drawsTend (hh : Ar.handled = none) (I t : Addr) (vs : Array Value) (n : Nat) (hn : vs.size ≤ n) : Draws pg wl Ar I [I, t] n (fun _ _ => True) (fun i h => h.IsTupleIter I t i ∧ h.IsTuple t vs ∧ n ≤ i) where
  live := fun _ _ st => let ⟨o, ho, _⟩ := st.1; ⟨o, ho⟩
  frame := fun _ _ _ st hk => ⟨st.1.at fun o e => hk I (by simp) o e, (let ⟨o, ho, r⟩ := st.2.1; ⟨o, hk t (by simp) o ho, r⟩), st.2.2⟩
  item := fun i s Q E hi st hQ => absurd st.2.2 (by omega)
  done := fun s Q E st hE => nextT_end hh st.1 st.2.1 (by simp [hn]) hE
end
theorem meets_enumT (t : Addr) (vs : Array Value) (n : Nat) (dct : Option Addr) (sl : Array (Option Value)) : Meets (Builtin.«enumerate.__new__» ⟨[.type "enumerate", .ref t], []⟩) (fun _ R s => s.heap.get? t = some { cls := .type "tuple", dict := dct, data := .seq vs n, slots := sl } ∧
      R (.ok (.ret (.ref (s.heap.push { cls := .type "tuple_iterator", data := .fields #[.ref t, .int 0 0] }).objs.size))) { s with heap := (s.heap.push { cls := .type "tuple_iterator", data := .fields #[.ref t, .int 0 0] }).push { cls := .type "enumerate", data := .fields #[.none, .bool false, .ref s.heap.objs.size, rawInt 0, .none, .none] } }) :=
  .of_wp fun prog w A R s h => by
    obtain ⟨hp, g, d, tk, os⟩ := s; obtain ⟨hl, h⟩ := id h
    have hsub := sub_enumerate
    have hL : Heap.IsTuple (Shared.heap ⟨hp, g, d, tk, os⟩) t vs := ⟨_, hl, rfl, n, rfl⟩
    wp_walk using AutoSeq1.wpAny_loadPart' hl
    refine wpAny_stack_any fun st => (wpAny_pure ?_)
    split
    · rename_i c _ _ _ _ _
      cases (c == Value.type "enumerate")
      · wp_walk using AutoSeq1.wpAny_loadPart' hl, wpAny_pyIter_tuple hL
        exact ⟨_, rfl, h⟩
      · wp_walk using AutoSeq1.wpAny_loadPart' hl, wpAny_pyIter_tuple hL
        exact ⟨_, rfl, h⟩
    · wp_walk using AutoSeq1.wpAny_loadPart' hl, wpAny_pyIter_tuple hL
      exact ⟨_, rfl, h⟩

theorem call_enumT {pg : Program} {wl : World} {Ar : Around} {Ex : Value → Shared → Prop} {sh : Shared} {t : Addr} {vs : Array Value} {Q : Value → Shared → Prop} (hT : sh.heap.IsTuple t vs)
    (q : ∀ h', IsEnum h' (sh.heap.objs.size + 1) sh.heap.objs.size 0 .none → h'.IsTupleIter sh.heap.objs.size t 0 → h'.objs.size = sh.heap.objs.size + 2 → (∀ b o, sh.heap.get? b = some o → h'.get? b = some o) → Q (.ref (sh.heap.objs.size + 1)) { sh with heap := h' }) :
    wpAny (model pg wl) Ar (call (.type "enumerate") [.ref t]) Q Ex sh := by
  obtain ⟨⟨c, dct, dt, sl⟩, hl, hc, n, hd⟩ := id hT
  have e1 : c = .type "tuple" := hc
  have e2 : dt = .seq vs n := hd
  subst e1 e2
  refine callType_new F.called_enumerate (by decide) (F.typeCall_enumerate_1 _) (F.newCall_enumerate_1 _) (fun ob => F.args_object_init_2 ob _) F.entry_enumerate_new (meets_enumT t vs n dct sl) ⟨hl, ?_⟩
  have hz : (sh.heap.push { cls := .type "tuple_iterator", data := .fields #[.ref t, .int 0 0] }).objs.size = sh.heap.objs.size + 1 := Heap.size_push ..
  show _ ∧ _
  rw [hz]
  have he : IsEnum ((sh.heap.push { cls := .type "tuple_iterator", data := .fields #[.ref t, .int 0 0] }).push { cls := .type "enumerate", data := .fields #[.none, .bool false, .ref sh.heap.objs.size, rawInt 0, .none, .none] }) (sh.heap.objs.size + 1) sh.heap.objs.size 0 .none := by
    have w := Heap.get?_push_size (sh.heap.push { cls := .type "tuple_iterator", data := .fields #[.ref t, .int 0 0] }) (o := { cls := .type "enumerate", data := .fields #[.none, .bool false, .ref sh.heap.objs.size, rawInt 0, .none, .none] }) rfl
    rw [hz] at w; exact w
  exact ⟨⟨_, he, rfl⟩, q _ he ⟨_, Heap.get?_push_of_some _ (Heap.get?_push_size _ rfl), rfl, rfl⟩ (by rw [Heap.size_push, hz]) fun b o x => Heap.get?_push_of_some _ (Heap.get?_push_of_some _ x)⟩
/-- the tuple at a, each item in a new pair -/
def IteT (K : PySem.W.Frag) (a : Addr) : It :=
  ⟨fun i H => ∃ (xs : List V) (x : V), SqT K H a xs ∧ xs[i]? = some x, fun i H v H' => ∃ T x, v = .ref T ∧ H T = none ∧ H' = upd H T (.tup [.int (i : Nat), x]) ∧ ∀ xs, SqT K H a xs → xs[i]? = some x, fun i H => ∃ xs : List V, SqT K H a xs ∧ xs.length ≤ i⟩
theorem turn_enumT {P : Program} {w : World} {K : PySem.W.Frag} {elts : List Expr} {kk : Nat} {tpos : Pos} (a e it : Addr) (hai : a ≠ it) (hae : e ≠ a) :
    Turn P w K (.Tuple elts kk tpos) (IteT K a) [e, it] e (fun i h => (∃ old, IsEnum h e it ((i : Nat) : Int) old) ∧ h.IsTupleIter it a i ∧ e ≠ it) where
  mem := by simp
  obj := fun i h st b hb => by
    obtain ⟨⟨old, he⟩, ⟨o, ho, hc, hd⟩, _⟩ := id st
    have e' : b = e ∨ b = it := (by simpa using hb)
    rcases e' with z | z
    · rw [z]; exact (⟨_, he, fun v q => nomatch q⟩)
    · rw [z]; exact (⟨o, ho, fun v q => by rw [hd] at q; cases q⟩)
  keep := fun i h h' st k => let ⟨⟨old, he⟩, hi, hne⟩ := id st; ⟨⟨old, k e (by simp) _ he⟩, hi.at fun o q => k it (by simp) o q, hne⟩
  item := by
    intro X hP hw hK hc i pins s σ H E I hf st hg; subst hP hw hK
    obtain ⟨⟨old, he⟩, hit, hne⟩ := id st
    obtain ⟨xs, x, hq, hx⟩ := hg
    obtain ⟨its, rv, p, hz⟩ := I.tuple hq
    obtain ⟨u, hu, ru⟩ := rv.get hx
    have hel : e < s.heap.objs.size := Heap.lt_size (id he)
    have hil : it < s.heap.objs.size := by obtain ⟨_, q, _⟩ := id hit; exact Heap.lt_size q
    have hT : s.heap.IsTuple a its.toArray := p
    have hh := I.ok.hd hc
    have hin : i < its.toArray.size := by
      have := (List.getElem?_eq_some_iff.mp hu).1
      simpa using this
    refine wpAny_pyNext_enum_itemD (drawsT (show X.A.in1.handled = none from hh) it a hai its.toArray) he ⟨hit, hT⟩ hin hne (by simp [hne, hae]) fun x' h' tk hx' ho hit' hT' hsz hk => ?_
    have ex : x' = u := by
      have h1 : its.toArray[i]? = some u := by simpa using hu
      rw [h1] at hx'
      exact (Option.some.inj hx').symm
    subst ex
    refine ⟨_, rfl, wpAny_letOwnedTupleGo_enum (s := { s with heap := h', toks := tk + 1 }) ho fun h'' he' sb => ?_⟩
    have hT2 : h''.get? s.heap.objs.size = some { cls := .type "tuple", data := .seq #[.int i tk, x'] } := (sb.2 _ (Nat.ne_of_gt hel)).trans hT'
    have new : ObjOk X.prog X.w (upd H s.heap.objs.size (.tup [.int (i : Nat), x])) h'' s.heap.objs.size (.tup [.int (i : Nat), x]) := ⟨by show 2 ≤ sizeLine; decide, [.int i tk, x'], .cons ⟨_, rfl⟩ (.cons ru .nil), ⟨_, hT2, rfl, _, rfl⟩⟩
    have I1 : Inv X pins σ (upd H s.heap.objs.size (.tup [.int (i : Nat), x])) { s with heap := h'', toks := tk + 1 } :=
      I.turnedNew (ch := [e, it]) (fun b ob hb q => (sb.2 b (fun z => hb (by simp [z]))).trans (hk b ob (fun z => hb (by simp [z])) (fun z => hb (by simp [z])) q)) hf (Nat.le_refl _) new
    refine ⟨.ref s.heap.objs.size, _, I1, rfl, ⟨_, x, rfl, I.hok.fresh (Nat.le_refl _), rfl, fun ys hy => by rw [I.tuple_inj hy hq]; exact hx⟩, ⟨⟨x', ?_⟩, hit'.1.at fun o q => (sb.2 it (Ne.symm hne)).trans q, hne⟩, fun b hb => ?_⟩
    · have e1 : ((i + 1 : Nat) : Int) = (i : Int) + 1 := (by omega)
      rw [e1]; exact he'
    · have hb' : b < s.heap.objs.size := by
        have e' : b = e ∨ b = it := (by simpa using hb)
        rcases e' with z | z
        · rw [z]; exact hel
        · rw [z]; exact hil
      rw [upd_ne (Nat.ne_of_lt hb')]
      exact (hf b hb).1
  done := by
    intro X hP hw hK hc i pins s σ H E I hf st hg; subst hP hw hK
    obtain ⟨⟨old, he⟩, hit, hne⟩ := id st
    obtain ⟨xs, hq, hx⟩ := id hg
    obtain ⟨its, rv, p, hz⟩ := I.tuple hq
    obtain ⟨f0, f1, f2, f3, f4, f5⟩ := hf it (by simp)
    have hl := rv.length
    have hT : s.heap.IsTuple a its.toArray := p
    have hh := I.ok.hd hc
    exact wpAny_pyNext_enum_endD (drawsTend (show X.A.in1.handled = none from hh) it a its.toArray i (by simp; omega)) he ⟨hit, hT, Nat.le_refl i⟩ fun h' eb => ⟨rfl, I.turned (t' := s.toks) (fun b o hb q => eb b o hb q) f0 f1 f3 f4 f5⟩
  self := fun A i s Q E st h => let ⟨⟨_, he⟩, _⟩ := id st; wpAny_pyIter_enum he h

def iEnumB (K : PySem.W.Frag) (ta : TA) : TI := fun σ H R => ta σ H fun vs H1 => (∃ a xs, vs = [.ref a] ∧ SqL K H1 a xs ∧ R (Ite K a) H1) ∨ ∃ a xs, vs = [.ref a] ∧ SqT K H1 a xs ∧ R (IteT K a) H1
theorem pi_enumB {X : Cx} {e : Expr} {ta : TA} {p pos tpos : Pos} {elts : List Expr} {kk : Nat} (hg : Gl X "enumerate") (hm : X.mg "enumerate" = none) (ha : PA X [e] ta) (hs : starEach [e] X.env = [(false, eval e X.env)]) :
    PI X (.Tuple elts kk tpos) (.Call (.Name "enumerate" p) [e] [] pos) (iEnumB X.K ta) := by
  refine ⟨fun pins s σ H R J h => ?_⟩
  refine Call_ (ld_blt J hg hm boot_enumerate (PyProof.Rows.callWith_type1 (thn (ha.run pos pins s σ H _ J h) fun us s1 ⟨vs, H1, J1, r1, q1⟩ => ?_) hs rfl))
  rcases q1 with q2 | q2
  · obtain ⟨a, xs, ex, hq, q⟩ := id q2
    subst ex
    cases r1 with
    | cons r rr =>
      cases rr
      cases r
      obtain ⟨its, rv, p', hz⟩ := J1.list hq
      refine call_enumerate_list p'.isList fun h' he hit hsz hk => wpAny_pyIter_enum he ?_
      have J2 : Inv X pins σ H1 { s1 with heap := h' } := J1.kept (t' := s1.toks) hk
      refine ⟨s1.heap.objs.size + 1, [s1.heap.objs.size + 1, s1.heap.objs.size], _, _, H1, rfl, J2, turn_enum a (s1.heap.objs.size + 1) s1.heap.objs.size, ⟨⟨.none, he⟩, hit, Nat.succ_ne_self _⟩, fun b hb => ?_, q⟩
      have e' : b = s1.heap.objs.size + 1 ∨ b = s1.heap.objs.size := (by simpa using hb)
      have hle : s1.heap.objs.size ≤ b := by
        rcases e' with z | z
        · rw [z]; exact Nat.le_add_right _ _
        · rw [z]; exact Nat.le_refl _
      exact J1.fpOk hle (J1.hok.fresh hle)

  · obtain ⟨a, xs, ex, hq, q⟩ := id q2
    subst ex
    cases r1 with
    | cons r rr =>
      cases rr
      cases r
      obtain ⟨its, rv, p', hz⟩ := J1.tuple hq
      have hT : s1.heap.IsTuple a its.toArray := p'
      have hlt : a < s1.heap.objs.size := IsTup.lt p'
      refine call_enumT hT fun h' he hit hsz hk => wpAny_pyIter_enum he ?_
      have J2 : Inv X pins σ H1 { s1 with heap := h' } := J1.kept (t' := s1.toks) hk
      refine ⟨s1.heap.objs.size + 1, [s1.heap.objs.size + 1, s1.heap.objs.size], _, _, H1, rfl, J2, turn_enumT a (s1.heap.objs.size + 1) s1.heap.objs.size (Nat.ne_of_lt hlt) (Nat.ne_of_gt (Nat.lt_succ_of_lt hlt)), ⟨⟨.none, he⟩, hit, Nat.succ_ne_self _⟩, fun b hb => ?_, q⟩
      have e' : b = s1.heap.objs.size + 1 ∨ b = s1.heap.objs.size := (by simpa using hb)
      have hle : s1.heap.objs.size ≤ b := by
        rcases e' with z | z
        · rw [z]; exact Nat.le_add_right _ _
        · rw [z]; exact Nat.le_refl _
      exact J1.fpOk hle (J1.hok.fresh hle)

end MW

set_option maxRecDepth 100000
set_option maxHeartbeats 3200000
/-! Part 1c: a set made of a list of texts. -/
namespace MW
open PySem PySem.Spec PyProof.Rows L2
theorem dedupS_snoc (xs : List Str) (x : Str) : dedupS (xs ++ [x]) = if (dedupS xs).any (· == x) then dedupS xs else dedupS xs ++ [x] := by
  unfold dedupS
  rw [List.foldl_append]
  rfl
theorem dedupS_le (xs : List Str) : (dedupS xs).length ≤ xs.length := by
  have key : ∀ (l acc : List Str), (l.foldl (fun acc x => if acc.any (· == x) then acc else acc ++ [x]) acc).length ≤ acc.length + l.length := by
    intro l
    induction l with
    | nil => intro acc; exact Nat.le_refl _
    | cons y r ih =>
      intro acc
      rw [List.foldl_cons]
      refine Nat.le_trans (ih _) ?_
      split
      · rw [List.length_cons]; omega
      · simp only [List.length_append, List.length_cons, List.length_nil]; omega
  have := key xs []
  rw [List.length_nil, Nat.zero_add] at this
  exact this
section
variable {pg : Program} {wl : World} {Ar : Around} {Rr : Result → Shared → Prop} {J : Addr} {fps wrs : List Addr} {Gg : Array GenState → Array GenState → Prop} {m : Nat} {Pp : Nat → Value → Prop} {Sst : Nat → Shared → Prop}
theorem setLoopT (Wk : WalksS pg wl Ar.in1 J fps wrs Gg m Pp Sst) (B : Addr) (hB : B ∉ fps) (ts : List Str) (hts : ts.length = m) (hm : m + 1 < scanBound)
    (hv : ∀ i v, Pp i v → ∃ t, v = .str (ts.getD i Str.empty) t) : ∀ (q i : Nat) (sh : Shared), m - i = q → i ≤ m → Sst i sh → sh.heap.SetOf (PySem.strKind pg wl) B (fun z => (dedupS (ts.take i)).any (· == z)) (dedupS (ts.take i)).length →
      (∀ sh', Moved (B :: wrs) Gg sh sh' → sh'.heap.SetOf (PySem.strKind pg wl) B (fun z => (dedupS (ts.take m)).any (· == z)) (dedupS (ts.take m)).length → Rr (.ok (.ret .none)) sh') → codeAny (model pg wl) Ar (.builtin "set.update.loop" ⟨[.ref B, .ref J], []⟩) Rr sh := by
  have hBw : B ∉ wrs := fun z => hB (Wk.sub _ z)
  have inc : ∀ b ∈ wrs, b ∈ B :: wrs := fun b z => List.mem_cons_of_mem _ z
  intro q
  induction q with
  | zero =>
    intro i sh hq hi st hS fin
    obtain rfl : i = m := (by omega)
    refine codeAny_builtin F.entry_set_update_loop (?_ : _)
    rw [Around.under_plainId F.plain_set_update_loop (_)]
    show wpAny _ Ar.in1 (pyNext (.ref J) >>= _) _ _ sh
    refine wpAny_bind (Wk.done sh _ _ st fun sh' mv => ?_)
    show wpAny _ Ar.in1 (ret Value.none) _ _ sh'
    refine wpAny_pure (fin sh' (mv.mono inc) ?_)
    obtain ⟨o, es, ep, t, ho, more⟩ := hS
    exact ⟨o, es, ep, t, mv.heap B _ hBw ho, more⟩
  | succ q ih =>
    intro i sh hq hi st hS fin
    have lt : i < m := (by omega)
    refine codeAny_builtin F.entry_set_update_loop (?_ : _)
    rw [Around.under_plainId F.plain_set_update_loop (_)]
    show wpAny _ Ar.in1 (pyNext (.ref J) >>= _) _ _ sh
    refine wpAny_bind (Wk.item i sh _ _ lt st fun v sh' hP st' mv => ?_)
    obtain ⟨t, rfl⟩ := hv i v hP
    have hS1 : sh'.heap.SetOf (PySem.strKind pg wl) B (fun z => (dedupS (ts.take i)).any (· == z)) (dedupS (ts.take i)).length := by
      obtain ⟨o, es, ep, tb, ho, more⟩ := hS
      exact ⟨o, es, ep, tb, mv.heap B _ hBw ho, more⟩
    show wpAny _ Ar.in1 (holding [Value.str (ts.getD i Str.empty) t] (setAdd B (.str (ts.getD i Str.empty) t)) >>= _) _ _ sh'
    refine wpAny_bind (wpAny_holding ?_)
    unfold setAdd
    refine wpAny_holding ?_
    refine wpAny_bind ((PySem.strKind pg wl).pyHash (k := ts.getD i Str.empty) (strKind_is _ _ _ _) ?_)
    have room : (dedupS (ts.take i)).length + 1 < scanBound := by
      have h1 := dedupS_le (ts.take i)
      rw [List.length_take] at h1
      omega
    refine wpAny_setAddHashed_of (knd := PySem.strKind pg wl) (s := { sh' with toks := sh'.toks + 1 }) (strKind_is _ _ _ _) rfl hS1 room fun hp sb hS2 => ?_
    have tk : ts.take (i + 1) = ts.take i ++ [ts.getD i Str.empty] := by
      have hi' : i < ts.length := by omega
      rw [List.take_add_one, List.getD_eq_getElem?_getD, List.getElem?_eq_getElem hi']
      rfl
    have hS3 : hp.SetOf (PySem.strKind pg wl) B (fun z => (dedupS (ts.take (i + 1))).any (· == z)) (dedupS (ts.take (i + 1))).length := by
      refine SetOf_congr hS2 (fun z => ?_) ?_
      · rw [tk, dedupS_snoc]
        cases c : (dedupS (ts.take i)).any (· == ts.getD i Str.empty) with
        | true =>
          rw [if_pos rfl]
          by_cases e : z = ts.getD i Str.empty
          · rw [e, c]; rfl
          · rw [decide_eq_false e, Bool.or_false]
        | false =>
          rw [if_neg (by decide), List.any_append]
          congr 1
          by_cases e : z = ts.getD i Str.empty
          · rw [e, decide_eq_true rfl]; simp
          · have e2 : (ts.getD i Str.empty == z) = false := beq_eq_false_iff_ne.mpr fun h => e h.symm
            rw [decide_eq_false e, List.any_cons, e2]; rfl
      · rw [tk, dedupS_snoc]
        cases c : (dedupS (ts.take i)).any (· == ts.getD i Str.empty) with
        | true => rfl
        | false => rw [if_neg (by decide), if_neg (by decide), List.length_append]; rfl
    refine wpAny_pure ⟨plainId_quiet F.plain_set_update_loop (_), ih (i + 1) _ (by omega) lt (Wk.frame _ sh' _ _ st' (Nat.le_succ _) fun b hb o e => ?_) hS3 fun sh2 mv2 hS4 => ?_⟩
    · have nb : b ≠ B := fun z => hB (z ▸ hb)
      rw [sb.2 b nb]
      exact e
    · refine fin sh2 (Moved.trans Wk.gtrans ((mv.mono inc).then_heap (Nat.le_succ _) fun b o hb e => ?_) mv2) hS4
      have nb : b ≠ B := fun z => hb (z ▸ List.mem_cons_self)
      rw [sb.2 b nb]
      exact e
end
section
variable {pg : Program} {wl : World} {Ar : Around} {Ex : Value → Shared → Prop} {sh : Shared}
abbrev setO0 (led : Bool) : Obj := { cls := .type "set", dict := none, data := .set #[] 0 (.fresh 0 0 led) }
theorem call_set_listT {l : Addr} {its : Array Value} {ts : List Str} {Q : Value → Shared → Prop} (hh : Ar.handled = none) (hl : sh.heap.IsList l its) (hi : StrsAre its.toList ts) (hn : ts.length + 1 < scanBound)
    (fin : ∀ (hp : Heap) (tk : Nat), hp.SetOf (PySem.strKind pg wl) sh.heap.objs.size (fun z => (dedupS ts).any (· == z)) (dedupS ts).length → (∀ b o, b < sh.heap.objs.size → sh.heap.get? b = some o → hp.get? b = some o) → Q (.ref sh.heap.objs.size) { sh with heap := hp, toks := tk }) :
    wpAny (model pg wl) Ar (call (.type "set") [.ref l]) Q Ex sh := by
  have hsz : ts.length = its.size := by rw [← StrsAre.len_eq hi, Array.length_toList]
  have et : ts.take its.size = ts := List.take_of_length_le (by omega)
  obtain ⟨c, tl, hmro⟩ := PySem.F.called_set.mro
  have hmade := PySem.F.called_set.made
  have hsub := PySem.F.called_set.sub
  refine wpAny_call (codeAny_of_tree ?_)
  show wpAny _ _ (callAny (.type "set") _) _ _ _
  refine wpAny_pure ⟨Code.quiet_builtin _ (by decide +kernel), codeAny_builtin (PySem.F.entry_type_call) ?_⟩
  rw [Around.under_plain (weight_type_call_type "set" [.ref l] []) (rfl)]
  have h1 := PySem.F.called_set.notType
  have h2 := PySem.F.called_set.canCreate
  have hct := PySem.F.typeCall_set_1 (.ref l)
  repeat (any_goals (first | assumption | wp_step))
  refine codeAny_mono (code_set_new_1 (.ref l) (E := Ex) (Q₁ := fun obj s₁ => ∃ led : Bool, obj = .ref sh.heap.objs.size ∧ s₁ = { sh with heap := sh.heap.push (setO0 led) }) fun led => ⟨led, rfl, rfl⟩) fun r s₁ hr => ?_
  cases r with
  | error e => exact hr
  | ok fl =>
    cases fl with
    | ret obj =>
      obtain ⟨led, rfl, rfl⟩ := hr
      have hS : (sh.heap.push (setO0 led)).get? sh.heap.objs.size = some (setO0 led) := Heap.get?_push_size _ rfl
      have hT : Shared.TypeIs { sh with heap := sh.heap.push (setO0 led) } (.ref sh.heap.objs.size) "set" := ⟨_, hS, rfl⟩
      have hli := PySem.F.called_set.init.lookup
      have hbi := PySem.F.called_set.init.bind (.ref sh.heap.objs.size)
      repeat (any_goals (first | assumption | wp_step))
      refine codeAny_mono (codeAny_call_builtin (R := wants (fun r s₂ => r = .none ∧ ∃ hp tk, s₂ = { sh with heap := hp, toks := tk } ∧ hp.SetOf (PySem.strKind pg wl) sh.heap.objs.size (fun z => (dedupS ts).any (· == z)) (dedupS ts).length ∧
          (∀ b o, b < sh.heap.objs.size → sh.heap.get? b = some o → hp.get? b = some o)) Ex) PySem.F.called_set.init.plain PySem.F.entry_set_init (check_set_init_1 hT ?_)) fun r₂ s₂ hr₂ => ?_
      · obtain ⟨⟨ocls, odict, odata, oslots⟩, hol, hcl, nl, hdl⟩ := hl
        simp only at hcl hdl
        subst hcl hdl
        have hol' : (sh.heap.push (setO0 led)).get? l = some { cls := .type "list", dict := odict, data := .seq its nl, slots := oslots } := Heap.get?_push_of_some _ hol
        have hsls := PySem.F.sub_list_set
        have hslf := PySem.F.sub_list_frozenset
        have hne : (Value.type "list" == Value.type "dict") = false := (by decide)
        have hl1 : (sh.heap.push (setO0 led)).IsList l its := ⟨_, hol', rfl, nl, rfl⟩
        unfold Builtin.«set.__init__» noKeywords Builtin.Frozenset.updateFrom
        generalize hPI : pyIter = PI
        wp_walk
        subst hPI
        refine wpAny_pyIter_list hl1 (wpAny_bind (wpAny_runValue ?_))
        have hlS : l < sh.heap.objs.size := Heap.lt_size hol
        have hh3 : Ar.in1.in1.in1.handled = none := (by simp [hh])
        have z1 : (sh.heap.push (setO0 led)).objs.size = sh.heap.objs.size + 1 := Heap.size_push ..
        have hneI : l ≠ (sh.heap.push (setO0 led)).objs.size := by rw [z1]; exact Nat.ne_of_lt (Nat.lt_succ_of_lt hlS)
        have hSf : sh.heap.objs.size ∉ [(sh.heap.push (setO0 led)).objs.size, l] := by
          rw [z1]
          simp only [List.mem_cons, List.not_mem_nil, or_false, not_or]
          exact ⟨Nat.ne_of_lt (Nat.lt_succ_self _), Nat.ne_of_gt hlS⟩
        have hval : ∀ (i : Nat) (v : Value), its[i]? = some v → ∃ t, v = .str (ts.getD i Str.empty) t := fun i v hv => SS.strs_at hi i v (by rw [Array.getElem?_toList]; exact hv)
        refine setLoopT ((Walks.list hh3 _ l hneI its).toS) sh.heap.objs.size hSf ts hsz (by rw [← hsz]; exact hn) hval (its.size - 0) 0 _ (by omega) (Nat.zero_le _) ⟨⟨_, Heap.get?_push_size _ rfl, rfl, rfl⟩, (hl1.push _)⟩ ?hS0 ?hR
        case hS0 =>
          have hget : ((sh.heap.push (setO0 led)).push { cls := .type "list_iterator", data := .fields #[.ref l, .int 0 0] }).get? sh.heap.objs.size = some (setO0 led) := Heap.get?_push_of_some _ hS
          exact SetOf_congr ((setObjOf_fresh (knd := PySem.strKind pg wl) led).setOf hget (by unfold scanBound; omega)) (fun _ => rfl) rfl
        case hR =>
          intro s' hm hS'
          rw [et] at hS'
          obtain ⟨h', g', d', tk', os'⟩ := s'
          have eg : g' = sh.gens := hm.gens
          have ed : d' = sh.drawn := hm.drawn
          have eo : os' = sh.os := hm.os
          subst eg ed eo
          show wpAny _ _ _ _ _ _
          refine wpAny_pure ?_
          show wpAny _ _ (ret Value.none) _ _ _
          refine wpAny_pure ⟨rfl, h', tk', rfl, hS', fun b o hb e => hm.heap b o ?_ (Heap.get?_push_of_some _ (Heap.get?_push_of_some _ e))⟩
          rw [z1]
          simp only [List.mem_cons, List.not_mem_nil, or_false, not_or]
          exact ⟨Nat.ne_of_lt hb, Nat.ne_of_lt (Nat.lt_succ_of_lt hb)⟩
      · cases r₂ with
        | error e => exact hr₂
        | ok fl₂ =>
          cases fl₂ with
          | ret r =>
            obtain ⟨rfl, h', tk, rfl, hS', hk'⟩ := hr₂
            repeat (any_goals (first | assumption | wp_step))
            exact fin _ _ hS' hk'
          | _ => exact hr₂.elim
    | _ => exact hr.elim
end
/-- len(set(xs)), xs a list of texts -/
def tLenT (K : PySem.W.Frag) (ta : TE) : TE := fun σ H Q => ta σ H fun x H1 => ∃ (l : Addr) (ts : List Str), x = .ref l ∧ SqL K H1 l (ts.map V.str) ∧ ts.length ≤ 4000 ∧ Q (.int ((dedupS ts).length : Nat)) H1
theorem len_setT {X : Cx} {pins : List (Addr × Obj)} {σ : L2.St} {H1 : Hp} {s1 : Shared} {l : Addr} {ts : List Str} {Q : VK} {pos : Pos} (I1 : Inv X pins σ H1 s1) (hc : X.calm = true) (hq : SqL X.K H1 l (ts.map V.str)) (hl : ts.length ≤ 4000) (q1 : Q (.int ((dedupS ts).length : Nat)) H1) :
    wpAny (model X.prog X.w) X.A (call (.type "set") [.ref l]) (fun v s₁ => wpAny (model X.prog X.w) X.A (spliced (backTo pos (starEach [] X.env))) (fun vs s₂ => wpAny (model X.prog X.w) X.A (call (.builtin "len") (v :: vs)) (EP X pins σ Q) X.xe s₂) X.xe s₁) X.xe s1 := by
  obtain ⟨its, r, pl, hz⟩ := I1.list hq
  refine call_set_listT (I1.ok.hd hc) pl.isList (by simpa using strsAre_of r) (by unfold scanBound; omega) fun h' tk hS hk => ?_
  refine PyProof.Rows.args_nil ?_
  obtain ⟨o, es, ep, t, ho, hex, hd, _, _, _, hf, hn⟩ := hS
  have I2 : Inv X pins σ H1 { s1 with heap := h', toks := tk } := I1.kept fun b o e => hk b o (Heap.lt_size e) e
  have hle := dedupS_le ts
  exact call_len_set ho hex hd hf (by rw [hn] <;> omega) ⟨.int (dedupS ts).length, H1, I2.tok _, ⟨_, by rw [hn]⟩, q1⟩
end MW

set_option maxRecDepth 100000
set_option maxHeartbeats 1000000
/-! Part 2a: data in the abstract heap; two heaps, F (what stays as it is) within H. -/
namespace MW
open PySem PySem.Spec PyProof.Rows L2
open Res

mutual
inductive Rp (K : PySem.W.Frag) (F : Hp) : V → D → Prop
  | non : Rp K F .non .none
  | bl (b : Bool) : Rp K F (.bl b) (.bool b)
  | int (i : Int) : Rp K F (.int i) (.int i)
  | str (x : Str) : Rp K F (.str x) (.str x)
  | lst {a : Addr} {xs : List V} {ds : List D} : SqL K F a xs → RpAll K F xs ds → Rp K F (.ref a) (.list ds)
  | tup {a : Addr} {xs : List V} {ds : List D} : SqT K F a xs → RpAll K F xs ds → Rp K F (.ref a) (.tuple ds)
  | dic {a : Addr} {kvs : List (Key × V)} {kds : List (D × D)} : F a = some (.dK kvs) → RpKV K F kvs kds → Rp K F (.ref a) (.dict kds)
inductive RpAll (K : PySem.W.Frag) (F : Hp) : List V → List D → Prop
  | nil : RpAll K F [] []
  | cons {v : V} {vs : List V} {d : D} {ds : List D} : Rp K F v d → RpAll K F vs ds → RpAll K F (v :: vs) (d :: ds)
inductive RpKV (K : PySem.W.Frag) (F : Hp) : List (Key × V) → List (D × D) → Prop
  | nil : RpKV K F [] []
  | cons {k : Key} {v : V} {vs : List (Key × V)} {d : D} {ds : List (D × D)} : Rp K F v d → RpKV K F vs ds → RpKV K F ((k, v) :: vs) ((keyD k, d) :: ds)
end

theorem Same.rd {F F' : Hp} {a : Addr} {u : HO} (e : Same F F') (h : Rd F a u) : Rd F' a u := by
  rcases h with h | ⟨o, h⟩
  · exact .inl (e _ _ h)
  · exact .inr ⟨o, e _ _ h⟩
theorem Same.sqt {K : PySem.W.Frag} {F F' : Hp} {a : Addr} {xs : List V} (e : Same F F') (h : SqT K F a xs) : SqT K F' a xs := by
  rcases h with h | h
  · exact .inl (Same.rd e h)
  · exact .inr h
section
variable {K : PySem.W.Frag} {F F' : Hp}
mutual
theorem Rp.mono (e : Same F F') : ∀ {v : V} {d : D}, Rp K F v d → Rp K F' v d
  | _, _, .non => .non
  | _, _, .bl b => .bl b
  | _, _, .int i => .int i
  | _, _, .str x => .str x
  | _, _, .lst h a => .lst (e.seq h) (RpAll.mono e a)
  | _, _, .tup h a => .tup (Same.sqt e h) (RpAll.mono e a)
  | _, _, .dic h a => .dic (e _ _ h) (RpKV.mono e a)
theorem RpAll.mono (e : Same F F') : ∀ {v : List V} {d : List D}, RpAll K F v d → RpAll K F' v d
  | _, _, .nil => .nil
  | _, _, .cons h a => .cons (Rp.mono e h) (RpAll.mono e a)
theorem RpKV.mono (e : Same F F') : ∀ {v : List (Key × V)} {d : List (D × D)}, RpKV K F v d → RpKV K F' v d
  | _, _, .nil => .nil
  | _, _, .cons h a => .cons (Rp.mono e h) (RpKV.mono e a)
end
theorem RpAll.length : ∀ {v : List V} {d : List D}, RpAll K F v d → v.length = d.length
  | _, _, .nil => rfl
  | _, _, .cons _ a => by rw [List.length_cons, List.length_cons, RpAll.length a]
theorem RpKV.length : ∀ {v : List (Key × V)} {d : List (D × D)}, RpKV K F v d → v.length = d.length
  | _, _, .nil => rfl
  | _, _, .cons _ a => by rw [List.length_cons, List.length_cons, RpKV.length a]
theorem RpAll.append : ∀ {v v' : List V} {d d' : List D}, RpAll K F v d → RpAll K F v' d' → RpAll K F (v ++ v') (d ++ d')
  | _, _, _, _, .nil, h => h
  | _, _, _, _, .cons r a, h => .cons r (RpAll.append a h)
theorem RpAll.take : ∀ (n : Nat) {v : List V} {d : List D}, RpAll K F v d → RpAll K F (v.take n) (d.take n)
  | 0, _, _, _ => by rw [List.take_zero, List.take_zero]; exact .nil
  | _ + 1, _, _, .nil => .nil
  | n + 1, _, _, .cons r a => .cons r (RpAll.take n a)
theorem RpAll.drop : ∀ (n : Nat) {v : List V} {d : List D}, RpAll K F v d → RpAll K F (v.drop n) (d.drop n)
  | 0, _, _, h => h
  | _ + 1, _, _, .nil => .nil
  | n + 1, _, _, .cons _ a => RpAll.drop n a
theorem RpAll.reverse {v : List V} {d : List D} (h : RpAll K F v d) : RpAll K F v.reverse d.reverse := by
  have : ∀ {v : List V} {d : List D}, RpAll K F v d → RpAll K F v.reverse d.reverse := by
    intro v
    induction v with
    | nil => intro d h; cases h; exact .nil
    | cons x r ih =>
      intro d h
      cases h with
      | cons p q => rw [List.reverse_cons, List.reverse_cons]; exact RpAll.append (ih q) (.cons p .nil)
  exact this h
theorem RpAll.get : ∀ {v : List V} {d : List D} {i : Nat} {x : D}, RpAll K F v d → d[i]? = some x → ∃ y, v[i]? = some y ∧ Rp K F y x
  | _, _, _, _, .nil, e => by simp at e
  | _, _, 0, _, .cons r _, e => by simp at e; subst e; exact ⟨_, rfl, r⟩
  | _, _, i + 1, x, .cons _ t, e => by
    obtain ⟨u, h1, h2⟩ := RpAll.get (i := i) (x := x) t (by simpa using e)
    exact ⟨u, by simpa using h1, h2⟩
theorem RpAll.getV : ∀ {v : List V} {d : List D} {i : Nat} {y : V}, RpAll K F v d → v[i]? = some y → ∃ x, d[i]? = some x ∧ Rp K F y x
  | _, _, _, _, .nil, e => by simp at e
  | _, _, 0, _, .cons r _, e => by simp at e; subst e; exact ⟨_, rfl, r⟩
  | _, _, i + 1, x, .cons _ t, e => by
    obtain ⟨u, h1, h2⟩ := RpAll.getV (i := i) (y := x) t (by simpa using e)
    exact ⟨u, by simpa using h1, h2⟩
theorem RpAll.atI {v : List V} {d : List D} {i : Int} {x : D} (h : RpAll K F v d) (e : L2.atI d i = some x) : ∃ y, L2.atI v i = some y ∧ Rp K F y x := by
  unfold L2.atI at e ⊢
  rw [h.length]
  cases q : ixN d.length i with
  | none => rw [q] at e; cases e
  | some j =>
    rw [q] at e
    exact RpAll.get h e
theorem RpAll.cut {v : List V} {d : List D} (h : RpAll K F v d) (lo hi : Option Int) : RpAll K F (cutV v lo hi) (cutD d lo hi) := by
  unfold cutV cutD
  rw [h.length]
  exact RpAll.take _ (RpAll.drop _ h)

mutual
theorem Rp.dp : ∀ {v : V} {d : D}, d.canLay0 = true → Rp K F v d → Dp K F v d
  | _, _, _, .non => .non
  | _, _, _, .bl b => .bl b
  | _, _, _, .int i => .int i
  | _, _, _, .str x => .str x
  | _, _, c, .lst h a => .lst h (RpAll.dp (by simpa [PyData.canLay0] using c) a)
  | _, _, c, .tup h a => .tup h (RpAll.dp (by simpa [PyData.canLay0] using c) a)
  | _, _, c, .dic h a => by simp [PyData.canLay0] at c
theorem RpAll.dp : ∀ {v : List V} {d : List D}, PyData.canLayAll0 d = true → RpAll K F v d → DpAll K F v d
  | _, _, _, .nil => .nil
  | _, _, c, .cons h a => by
    simp only [PyData.canLayAll0, Bool.and_eq_true] at c
    exact .cons (Rp.dp c.1 h) (RpAll.dp c.2 a)
end
end

/-- the code that a def makes within (a lambda): its name, the table in which it is told, whether there is any -/
class Lam where
  nm : Str
  P : Addr
  on : Bool
variable [Lam]
/-- the table is there and tells code objects of that name alone -/
def TabG (H : Hp) : Prop := Lam.on = true → ∃ ps : Array Value, H Lam.P = some (.tbl ps) ∧ TriplesOk ps.toList ∧ ∀ (pos : Pos) (cv : Value), codeAmong pos ps.toList = some cv → ∃ c, cv = .ref c ∧ H c = some (LamX.CodeO c Lam.nm)
/-- nothing was written but tables that have grown -/
structure SameG (H H' : Hp) : Prop where
  keep : ∀ b o, H b = some o → (∀ ps, o ≠ .tbl ps) → H' b = some o
  tb : ∀ b ps, H b = some (.tbl ps) → ∃ more, H' b = some (.tbl (ps ++ more))
  ok : TabG H → TabG H'
theorem SameG.refl (H : Hp) : SameG H H := ⟨fun _ _ h _ => h, fun _ ps h => ⟨#[], by rw [h]; simp⟩, fun h => h⟩
theorem SameG.trans {H H1 H2 : Hp} (a : SameG H H1) (b : SameG H1 H2) : SameG H H2 := ⟨fun c o h n => b.keep c o (a.keep c o h n) n, fun c ps h => by
  obtain ⟨m1, e1⟩ := a.tb c ps h
  obtain ⟨m2, e2⟩ := b.tb c _ e1
  exact ⟨m1 ++ m2, by rw [e2, Array.append_assoc]⟩, fun h => b.ok (a.ok h)⟩
theorem SameG.free {H H' : Hp} (a : SameG H H') {p : Addr} (h : H' p = none) : H p = none := by
  cases q : H p with
  | none => rfl
  | some o =>
    by_cases t : ∃ ps, o = .tbl ps
    · obtain ⟨ps, rfl⟩ := t
      obtain ⟨m, e⟩ := a.tb p ps q
      rw [h] at e; cases e
    · rw [a.keep p o q fun ps e => t ⟨ps, e⟩] at h; cases h
theorem SameG.lst {H H' : Hp} (a : SameG H H') {p : Addr} {xs : List V} (h : H p = some (.lst xs)) : H' p = some (.lst xs) := a.keep _ _ h fun _ z => by cases z
theorem SameG.dK {H H' : Hp} (a : SameG H H') {p : Addr} {xs : List (Key × V)} (h : H p = some (.dK xs)) : H' p = some (.dK xs) := a.keep _ _ h fun _ z => by cases z
theorem SameG.seq {K : PySem.W.Frag} {H H' : Hp} (a : SameG H H') {p : Addr} {xs : List V} (h : SqL K H p xs) : SqL K H' p xs := by
  rcases h with h | h
  · rcases h with h | ⟨o, h⟩
    · exact .inl (.inl (a.lst h))
    · exact .inl (.inr ⟨o, a.keep _ _ h fun _ z => by cases z⟩)
  · exact .inr h
/-- all but tables stays -/
def SameN (H H' : Hp) : Prop := ∀ b o, H b = some o → (∀ ps, o ≠ .tbl ps) → H' b = some o
theorem SameN.rd {H H' : Hp} (a : SameN H H') {p : Addr} {u : HO} (h : Rd H p u) (n : ∀ ps, u ≠ .tbl ps) : Rd H' p u := by
  rcases h with h | ⟨o, h⟩
  · exact .inl (a _ _ h n)
  · exact .inr ⟨o, a _ _ h fun _ z => by cases z⟩
theorem SameN.seq {K : PySem.W.Frag} {H H' : Hp} (a : SameN H H') {p : Addr} {xs : List V} (h : SqL K H p xs) : SqL K H' p xs := by
  rcases h with h | h
  · exact .inl (a.rd h fun _ z => by cases z)
  · exact .inr h
theorem SameN.sqt {K : PySem.W.Frag} {H H' : Hp} (a : SameN H H') {p : Addr} {xs : List V} (h : SqT K H p xs) : SqT K H' p xs := by
  rcases h with h | h
  · exact .inl (a.rd h fun _ z => by cases z)
  · exact .inr h
theorem sameN_of {H H' : Hp} (a : Same H H') : SameN H H' := fun b o h _ => a b o h
theorem SameG.of {H H' : Hp} (a : ∀ b o, H b = some o → H' b = some o) : SameG H H' := ⟨fun b o h _ => a b o h, fun b ps h => ⟨#[], by rw [a b _ h]; simp⟩, fun t on => by
  obtain ⟨ps, e, t1, t2⟩ := t on
  exact ⟨ps, a _ _ e, t1, fun pos cv q => by
    obtain ⟨c, e1, e2⟩ := t2 pos cv q
    exact ⟨c, e1, a _ _ e2⟩⟩⟩
/-- a list or dict that may be written is written -/
theorem TabG.put {H : Hp} {a : Addr} {o u : HO} (t : TabG H) (h : H a = some u) (hu : ∀ p, u ≠ .ext p) (hu2 : ∀ ps, u ≠ .tbl ps) (ho : ∀ ps, o ≠ .tbl ps) : TabG (upd H a o) := fun on => by
  obtain ⟨ps, e, t1, t2⟩ := t on
  have nP : Lam.P ≠ a := fun z => by
    rw [z, h] at e; exact hu2 ps (Option.some.inj e)
  refine ⟨ps, by rw [upd_ne nP]; exact e, t1, fun pos cv z => ?_⟩
  obtain ⟨c, e1, e2⟩ := t2 pos cv z
  refine ⟨c, e1, ?_⟩
  have nc : c ≠ a := fun e => by
    subst e; rw [h] at e2; exact hu _ (Option.some.inj e2)
  rw [upd_ne nc]; exact e2
/-- from F, H on nothing was written; what is new in F was not in H -/
structure Ext (F H F' H' : Hp) : Prop where
  f : Same F F'
  h : SameG H H'
  sub : Same F' H'
  new : ∀ a o, F' a = some o → F a = some o ∨ H a = none
theorem Ext.refl {F H : Hp} (s : Same F H) : Ext F H F H := ⟨Same.refl F, SameG.refl H, s, fun _ _ h => .inl h⟩
theorem Ext.trans {F H F1 H1 F2 H2 : Hp} (a : Ext F H F1 H1) (b : Ext F1 H1 F2 H2) : Ext F H F2 H2 where
  f := a.f.trans b.f
  h := a.h.trans b.h
  sub := b.sub
  new := fun p o e => by
    rcases b.new p o e with q | q
    · exact a.new p o q
    · exact .inr (a.h.free q)
theorem same_upd {H : Hp} {p : Addr} {o : HO} (h : H p = none) : Same H (upd H p o) := fun b x e => by
  rw [upd_ne (ne_of_none e h)]
  exact e
/-- .. and it is no part of what stays -/
def TabF (F H : Hp) : Prop := TabG H ∧ (Lam.on = true → F Lam.P = none)
theorem TabF.more {F H F' H' : Hp} (t : TabF F H) (e : Ext F H F' H') : TabF F' H' := ⟨e.h.ok t.1, fun on => by
  cases q : F' Lam.P with
  | none => rfl
  | some o =>
    obtain ⟨ps, h, _⟩ := t.1 on
    rcases e.new _ o q with z | z
    · rw [t.2 on] at z; cases z
    · rw [h] at z; cases z⟩
theorem sameG_upd {H : Hp} {p : Addr} {o : HO} (h : H p = none) (nt : ∀ ps, o ≠ .tbl ps) : SameG H (upd H p o) := SameG.of (same_upd h)
/-- a new object that stays -/
theorem Ext.add {F H : Hp} {p : Addr} {o : HO} (s : Same F H) (n : H p = none) (nt : ∀ ps, o ≠ .tbl ps := by intro _ z; cases z) : Ext F H (upd F p o) (upd H p o) where
  f := same_upd (s.free n)
  h := sameG_upd n nt
  sub := fun b x e => by
    by_cases hb : b = p
    · subst hb; rw [upd_same] at e ⊢; exact e
    · rw [upd_ne hb] at e ⊢; exact s b x e
  new := fun a x e => by
    by_cases hb : a = p
    · subst hb; exact .inr n
    · rw [upd_ne hb] at e; exact .inl e
/-- a new object that may be written yet -/
theorem Ext.fresh {F H : Hp} {p : Addr} {o : HO} (s : Same F H) (n : H p = none) (nt : ∀ ps, o ≠ .tbl ps := by intro _ z; cases z) : Ext F H F (upd H p o) where
  f := Same.refl F
  h := sameG_upd n nt
  sub := s.trans (same_upd n)
  new := fun a x e => .inl e
/-- what may still be written -/
def OwnAt (K : PySem.W.Frag) (F H : Hp) (a : Addr) (d : D) : Prop :=
  (∃ xs ds, d = .list ds ∧ H a = some (.lst xs) ∧ RpAll K F xs ds) ∨ ∃ kvs kds, d = .dict kds ∧ H a = some (.dK kvs) ∧ RpKV K F kvs kds
theorem OwnAt.mono {K : PySem.W.Frag} {F H F' H' : Hp} {a : Addr} {d : D} (e : Ext F H F' H') (h : OwnAt K F H a d) : OwnAt K F' H' a d := by
  rcases h with ⟨xs, ds, h1, h2, h3⟩ | ⟨xs, ds, h1, h2, h3⟩
  · exact .inl ⟨xs, ds, h1, e.h.lst h2, h3.mono e.f⟩
  · exact .inr ⟨xs, ds, h1, e.h.dK h2, h3.mono e.f⟩
/-- an operand: data that stays, or what may still be written -/
def RpO (K : PySem.W.Frag) (F H : Hp) (v : V) (d : D) : Prop := Rp K F v d ∨ ∃ a, v = .ref a ∧ OwnAt K F H a d
theorem RpO.mono {K : PySem.W.Frag} {F H F' H' : Hp} {v : V} {d : D} (e : Ext F H F' H') (h : RpO K F H v d) : RpO K F' H' v d := by
  rcases h with h | ⟨a, rfl, h⟩
  · exact .inl (h.mono e.f)
  · exact .inr ⟨a, rfl, h.mono e⟩
inductive RpOs (K : PySem.W.Frag) (F H : Hp) : List V → List D → Prop
  | nil : RpOs K F H [] []
  | cons {v : V} {vs : List V} {d : D} {ds : List D} : RpO K F H v d → RpOs K F H vs ds → RpOs K F H (v :: vs) (d :: ds)
theorem RpOs.mono {K : PySem.W.Frag} {F H F' H' : Hp} (e : Ext F H F' H') : ∀ {v : List V} {d : List D}, RpOs K F H v d → RpOs K F' H' v d
  | _, _, .nil => .nil
  | _, _, .cons h t => .cons (h.mono e) (RpOs.mono e t)
/-- a list, read -/
theorem RpO.lst {K : PySem.W.Frag} {F H : Hp} {v : V} {ds : List D} (s : Same F H) (h : RpO K F H v (.list ds)) : ∃ a xs, v = .ref a ∧ SqL K H a xs ∧ RpAll K F xs ds := by
  rcases h with h | ⟨a, rfl, h⟩
  · cases h with
    | lst h1 h2 => exact ⟨_, _, rfl, s.seq h1, h2⟩
  · rcases h with ⟨xs, ds', h1, h2, h3⟩ | ⟨_, _, h1, _⟩
    · cases h1; exact ⟨a, xs, rfl, SqL.of h2, h3⟩
    · cases h1
theorem RpO.tup {K : PySem.W.Frag} {F H : Hp} {v : V} {ds : List D} (s : Same F H) (h : RpO K F H v (.tuple ds)) : ∃ a xs, v = .ref a ∧ SqT K H a xs ∧ RpAll K F xs ds ∧ SqT K F a xs := by
  rcases h with h | ⟨a, rfl, h⟩
  · cases h with
    | tup h1 h2 => exact ⟨_, _, rfl, Same.sqt s h1, h2, h1⟩
  · rcases h with ⟨xs, ds', h1, h2, h3⟩ | ⟨_, _, h1, _⟩
    · cases h1
    · cases h1
theorem RpO.dic {K : PySem.W.Frag} {F H : Hp} {v : V} {kds : List (D × D)} (s : Same F H) (h : RpO K F H v (.dict kds)) : ∃ a kvs, v = .ref a ∧ H a = some (.dK kvs) ∧ RpKV K F kvs kds := by
  rcases h with h | ⟨a, rfl, h⟩
  · cases h with
    | dic h1 h2 => exact ⟨_, _, rfl, s _ _ h1, h2⟩
  · rcases h with ⟨xs, ds', h1, h2, h3⟩ | ⟨kvs, kds', h1, h2, h3⟩
    · cases h1
    · cases h1; exact ⟨a, kvs, rfl, h2, h3⟩
theorem RpO.int {K : PySem.W.Frag} {F H : Hp} {v : V} {i : Int} (h : RpO K F H v (.int i)) : v = .int i := by
  rcases h with h | ⟨a, rfl, h⟩
  · cases h; rfl
  · rcases h with ⟨_, _, h1, _⟩ | ⟨_, _, h1, _⟩ <;> cases h1
theorem RpO.bl {K : PySem.W.Frag} {F H : Hp} {v : V} {i : Bool} (h : RpO K F H v (.bool i)) : v = .bl i := by
  rcases h with h | ⟨a, rfl, h⟩
  · cases h; rfl
  · rcases h with ⟨_, _, h1, _⟩ | ⟨_, _, h1, _⟩ <;> cases h1
theorem RpO.str {K : PySem.W.Frag} {F H : Hp} {v : V} {i : Str} (h : RpO K F H v (.str i)) : v = .str i := by
  rcases h with h | ⟨a, rfl, h⟩
  · cases h; rfl
  · rcases h with ⟨_, _, h1, _⟩ | ⟨_, _, h1, _⟩ <;> cases h1
theorem RpO.non {K : PySem.W.Frag} {F H : Hp} {v : V} (h : RpO K F H v .none) : v = .non := by
  rcases h with h | ⟨a, rfl, h⟩
  · cases h; rfl
  · rcases h with ⟨_, _, h1, _⟩ | ⟨_, _, h1, _⟩ <;> cases h1
theorem RpO.dp {K : PySem.W.Frag} {F H : Hp} {v : V} {d : D} (s : Same F H) (h : RpO K F H v d) (c : d.canLay0 = true) : Dp K H v d := by
  rcases h with h | ⟨a, rfl, h⟩
  · exact (h.mono s).dp c
  · rcases h with ⟨xs, ds, rfl, h2, h3⟩ | ⟨_, _, rfl, _⟩
    · exact .lst (SqL.of h2) ((h3.mono s).dp (by simpa [PyData.canLay0] using c))
    · simp [PyData.canLay0] at c

/-! ### what follows an expression -/
/-- whatever comes, comes with more heap: R of the heaps and the answer -/
def KR {α : Type} (R : Hp → Hp → α → Prop) (W : Nat → Hp → Prop) (F H : Hp) (r : Res α) : Prop := match r with
  | .ok a => ∀ F' H', Ext F H F' H' → R F' H' a
  | .exn c => ∀ F' H', Ext F H F' H' → W c H'
  | .stuck => False
section
variable {α β : Type} {R R' : Hp → Hp → α → Prop} {W : Nat → Hp → Prop} {F H F' H' : Hp} {r : Res α}
theorem KR.ext (k : KR R W F H r) (e : Ext F H F' H') : KR R W F' H' r := by
  cases r with
  | ok a => exact fun F2 H2 e2 => k F2 H2 (e.trans e2)
  | exn c => exact fun F2 H2 e2 => k F2 H2 (e.trans e2)
  | stuck => exact k
theorem KR.imp (k : KR R W F H r) (h : ∀ F' H' a, Ext F H F' H' → R F' H' a → R' F' H' a) : KR R' W F H r := by
  cases r with
  | ok a => exact fun F2 H2 e2 => h F2 H2 a e2 (k F2 H2 e2)
  | exn c => exact fun F2 H2 e2 => k F2 H2 e2
  | stuck => exact k
theorem KR.impX {W' : Nat → Hp → Prop} (k : KR R W F H r) (h : ∀ c H', W c H' → W' c H') : KR R W' F H r := by
  cases r with
  | ok a => exact k
  | exn c => exact fun F2 H2 e2 => h _ _ (k F2 H2 e2)
  | stuck => exact k
theorem KR.bind {R : Hp → Hp → β → Prop} {f : α → Res β} (k : KR R W F H (r.bind f)) : KR (fun F1 H1 a => KR R W F1 H1 (f a)) W F H r := by
  cases r with
  | ok a => exact fun F2 H2 e2 => KR.ext (r := f a) k e2
  | exn c => exact fun F2 H2 e2 => k F2 H2 e2
  | stuck => exact k
theorem KR.need {b : Bool} (k : KR R W F H (need b r)) : b = true ∧ KR R W F H r := by
  cases b with
  | true => exact ⟨rfl, k⟩
  | false => exact k.elim
end
section
variable (K : PySem.W.Frag) (W : Nat → Hp → Prop)
/-- strong: the value stays -/
abbrev KE (F H : Hp) (r : Res D) (Q : VK) : Prop := KR (fun F' H' d => ∀ v, Rp K F' v d → Q v H') W F H r
/-- weak: an operand -/
abbrev KO (F H : Hp) (r : Res D) (Q : VK) : Prop := KR (fun F' H' d => ∀ v, RpO K F' H' v d → Q v H') W F H r
/-- a test -/
abbrev KT (F H : Hp) (r : Res Bool) (Q : Bool → Hp → Prop) : Prop := KR (fun _ H' b => Q b H') W F H r
/-- several operands -/
abbrev KA (F H : Hp) (r : Res (List D)) (Q : List V → Hp → Prop) : Prop := KR (fun F' H' ds => ∀ vs, RpOs K F' H' vs ds → Q vs H') W F H r
/-- several values that stay -/
abbrev KAs (F H : Hp) (r : Res (List D)) (Q : List V → Hp → Prop) : Prop := KR (fun F' H' ds => ∀ vs, RpAll K F' vs ds → Q vs H') W F H r
end
end MW

set_option maxRecDepth 100000
set_option maxHeartbeats 1000000
/-! Part 2b: each operation on data is the machine's. -/
namespace MW
open PySem PySem.Spec PyProof.Rows L2
open Res
variable [Lam]

theorem need_true {α : Type} {b : Bool} {x : Res α} (h : b = true) : need b x = x := by rw [h]; rfl
theorem need_false {α : Type} {b : Bool} {x : Res α} (h : b = false) : need b x = .stuck := by rw [h]; rfl
section
variable {K : PySem.W.Frag} {W : Nat → Hp → Prop} {F H : Hp} {Q : VK}
theorem KE.need {b : Bool} {r : Res D} (k : KE K W F H (need b r) Q) : b = true ∧ KE K W F H r Q := KR.need k
theorem KR.elim {α : Type} {R : Hp → Hp → α → Prop} {C : Prop} (k : KR R W F H (.stuck : Res α)) : C := False.elim k
theorem KE.same {d : D} {v : V} (s : Same F H) (k : KE K W F H (.ok d) Q) (r : Rp K F v d) : Q v H := k F H (Ext.refl s) v r
theorem KE.new {d : D} {p : Addr} {o : HO} (s : Same F H) (k : KE K W F H (.ok d) Q) (n : H p = none) (r : Rp K (upd F p o) (.ref p) d) (nt : ∀ ps, o ≠ .tbl ps := by intro _ z; cases z) : Q (.ref p) (upd H p o) := k _ _ (Ext.add s n nt) _ r
theorem fits_le {n : Nat} (h : fitsZ n = true) : n ≤ sizeLine := of_decide_eq_true h
end

def rO2 (K : PySem.W.Frag) (W : Nat → Hp → Prop) (g : D → D → Res D) : R2 := fun x y H Q => ∃ F d e, Same F H ∧ RpO K F H x d ∧ RpO K F H y e ∧ KE K W F H (g d e) Q
def rO1 (K : PySem.W.Frag) (W : Nat → Hp → Prop) (g : List D → Res D) : List V → Hp → VK → Prop := fun xs H Q => ∃ F ds, Same F H ∧ RpOs K F H xs ds ∧ KE K W F H (g ds) Q

section
variable {X : Cx} {W : Nat → Hp → Prop}

/-! ### lists: + of any two -/
theorem op_catR : OpR X (binaryOp .Add) (fun x y H Q => ∃ l b xs zs, x = .ref l ∧ y = .ref b ∧ SqL X.K H l xs ∧ SqL X.K H b zs ∧ xs.length + zs.length ≤ sizeLine ∧ ∀ p, H p = none → Q (.ref p) (upd H p (.lst (xs ++ zs)))) := by
  intro pins s σ H x y v u Q I rx ry h
  obtain ⟨l, b, xs, zs, rfl, rfl, hH, hB, hz, q⟩ := h
  cases rx
  cases ry
  obtain ⟨its, r, p1, _⟩ := I.list hH
  obtain ⟨its2, r2, p2, _⟩ := I.list hB
  obtain ⟨⟨cls, dd, data, sl⟩, ho, hc, n, hd⟩ := p1.isList
  obtain ⟨⟨cls2, dd2, data2, sl2⟩, ho2, hc2, n2, hd2⟩ := p2.isList
  simp only at hc hd hc2 hd2
  subst hc hd hc2 hd2
  have l1 := r.length
  have l2 := r2.length
  have e : its.toArray ++ its2.toArray = (its ++ its2).toArray := by simp
  refine concat_meets ⟨_, ho, rfl⟩ ⟨_, ho2, rfl⟩ noFill_list_add seq_list_add PySem.F.slot_list_add PySem.F.entry_list_add (PySem.F.args_list_add_2 _ _) (PyProof.Rows.list_addW l b its.toArray its2.toArray n n2 dd dd2 sl sl2 (by rw [List.size_toArray, List.size_toArray]; omega)) ⟨ho, ho2, ?_⟩
  rw [e]
  exact ⟨.ref _, _, I.lnew (t' := s.toks) (r.append r2) (by rw [List.length_append]; omega), rfl, q _ I.fresh⟩

theorem upd_rd {F : Hp} {p : Addr} {u : HO} : Rd (upd F p u) p u := .inl upd_same
theorem rp_lst {K : PySem.W.Frag} {F H : Hp} {p : Addr} {xs : List V} {ds : List D} (s : Same F H) (n : H p = none) (h : RpAll K F xs ds) : Rp K (upd F p (.lst xs)) (.ref p) (.list ds) := .lst (.inl upd_rd) (h.mono (same_upd (s.free n)))
theorem rp_tup {K : PySem.W.Frag} {F H : Hp} {p : Addr} {xs : List V} {ds : List D} (s : Same F H) (n : H p = none) (h : RpAll K F xs ds) : Rp K (upd F p (.tup xs)) (.ref p) (.tuple ds) := .tup (.inl upd_rd) (h.mono (same_upd (s.free n)))

theorem rp_rep {K : PySem.W.Frag} {F : Hp} {xs : List V} {ds : List D} (h : RpAll K F xs ds) : ∀ n : Nat, RpAll K F (List.replicate n xs).flatten (List.replicate n ds).flatten
  | 0 => .nil
  | n + 1 => by
    rw [List.replicate_succ, List.replicate_succ, List.flatten_cons, List.flatten_cons]
    exact RpAll.append h (rp_rep h n)
theorem op_addD : OpR X (binaryOp .Add) (rO2 X.K W (opD .Add)) := by
  intro pins s σ H x y v u Q I rx ry h
  obtain ⟨F, d, e, sub, hd, he, k⟩ := h
  cases d with
  | int i =>
    cases e with
    | int j =>
      obtain rfl := hd.int
      obtain rfl := he.int
      exact op_add pins s σ H _ _ v u Q I rx ry ⟨i, j, rfl, rfl, KE.same sub k (.int _)⟩
    | _ => exact k.elim
  | str a =>
    cases e with
    | str b =>
      obtain rfl := hd.str
      obtain rfl := he.str
      obtain ⟨z, k⟩ := KE.need k
      exact op_add_str pins s σ H _ _ v u Q I rx ry ⟨a, b, rfl, rfl, fits_le z, KE.same sub k (.str _)⟩
    | _ => exact k.elim
  | list as =>
    cases e with
    | list bs =>
      obtain ⟨a, xs, rfl, h1, h2⟩ := hd.lst sub
      obtain ⟨b, ys, rfl, h3, h4⟩ := he.lst sub
      obtain ⟨z, k⟩ := KE.need k
      exact op_catR pins s σ H _ _ v u Q I rx ry ⟨a, b, xs, ys, rfl, rfl, h1, h3, by rw [h2.length, h4.length]; exact fits_le z, fun p n => KE.new sub k n (rp_lst sub n (h2.append h4))⟩
    | _ => exact k.elim
  | tuple as =>
    cases e with
    | tuple bs =>
      obtain ⟨a, xs, rfl, h1, h2, h1'⟩ := hd.tup sub
      obtain ⟨b, ys, rfl, h3, h4, h3'⟩ := he.tup sub
      obtain ⟨z, k⟩ := KE.need k
      refine op_catA pins s σ H _ _ v u Q I rx ry ⟨a, b, xs, ys, rfl, rfl, h1, h3, by rw [h2.length, h4.length]; exact fits_le z, fun e => ?_, fun _ e => ?_, fun _ _ p n => KE.new sub k n (rp_tup sub n (h2.append h4))⟩
      · subst e
        cases h2
        exact KE.same sub k (.tup h3' h4)
      · subst e
        cases h4
        rw [List.append_nil] at k
        exact KE.same sub k (.tup h1' h2)
    | _ => exact k.elim
  | _ => exact k.elim
theorem op_subD : OpR X (binaryOp .Sub) (rO2 X.K W (opD .Sub)) := by
  intro pins s σ H x y v u Q I rx ry h
  obtain ⟨F, d, e, sub, hd, he, k⟩ := h
  cases d with
  | int i =>
    cases e with
    | int j =>
      obtain rfl := hd.int
      obtain rfl := he.int
      exact op_sub pins s σ H _ _ v u Q I rx ry ⟨i, j, rfl, rfl, KE.same sub k (.int _)⟩
    | _ => exact k.elim
  | _ => exact k.elim
theorem small_of {i : Int} (h : small64 i = true) : -(2 ^ 64) < i ∧ i < 2 ^ 64 := by
  unfold small64 at h
  rw [Bool.and_eq_true] at h
  exact ⟨of_decide_eq_true h.1, of_decide_eq_true h.2⟩
theorem rep_size (c : Array Nat) : ∀ (n : Nat) (acc : Array Nat), ((List.replicate n c).foldl (· ++ ·) acc).size = acc.size + n * c.size
  | 0, acc => by simp
  | n + 1, acc => by
    rw [List.replicate_succ, List.foldl_cons, rep_size c n, Array.size_append, Nat.succ_mul]
    (omega)
theorem rep_nil (n : Nat) : ∀ acc : Array Nat, (List.replicate n (#[] : Array Nat)).foldl (· ++ ·) acc = acc := by
  induction n with
  | zero => intro acc; rfl
  | succ n ih =>
    intro acc
    rw [List.replicate_succ, List.foldl_cons, Array.append_empty]
    exact ih acc
theorem rep_same {x : Str} {n : Int} (h : (n == 1 || x.length == 0) = true) : repS x n.toNat = x := by
  rw [Bool.or_eq_true] at h
  rcases h with h | h
  · have e : n = 1 := by simpa using h
    subst e
    show Str.mk (#[] ++ x.cps) = x
    rw [Array.empty_append]
  · have e : x.cps.size = 0 := by
      have z : x.length = 0 := by simpa using h
      exact z
    have e2 : x.cps = #[] := Array.eq_empty_of_size_eq_zero e
    unfold repS
    rw [e2, rep_nil]
    cases x
    dsimp only at e2
    rw [e2]
theorem mul_strD {pg : Program} {wl : World} {Ar : Around} {Ex : Value → Shared → Prop} {s : Shared} {x : Str} {n : Int} {t u : Tok} {Q : Value → Shared → Prop} (h0 : 0 ≤ n) (h1 : n ≤ 1000000) (hz : x.length * n.toNat ≤ sizeLine) (q1 : Q (.str (repS x n.toNat) s.toks) { s with toks := s.toks + 1 }) (q2 : Q (.str (repS x n.toNat) t) s) :
    wpAny (model pg wl) Ar (binaryOp .Mult (.str x t) (.int n u)) Q Ex s := by
  have e63 : (2 : Int) ^ 63 = 9223372036854775808 := by decide
  have eS : sizeLine = 16777216 := rfl
  refine P.mul_str ?_ (fun h2 h3 => ?_) (fun h2 h3 => ?_) ?_
  · rw [decide_eq_false (by omega), decide_eq_false (by omega)]; rfl
  · intro h4
    have h5 : n * (x.length : Int) ≤ 16777216 := by
      have : ((x.length * n.toNat : Nat) : Int) ≤ 16777216 := by omega
      rw [Int.natCast_mul, Int.toNat_of_nonneg h0, Int.mul_comm] at this
      exact this
    have h6 : (9223372036854775807 : Int) / n < x.length := by
      have e : (2 : Int) ^ 63 - 1 = 9223372036854775807 := by decide
      rw [e] at h4
      exact h4
    have h7 := Int.lt_mul_of_ediv_lt (by omega : 0 < n) h6
    rw [Int.mul_comm] at h7
    omega
  · unfold Builtin.Str.tooLong
    exact decide_eq_false (by omega)
  · by_cases a : n < 1
    · rw [if_pos a]
      have e : n = 0 := by omega
      subst e
      exact ⟨by decide, q1⟩
    · rw [if_neg a]
      by_cases b : (n == 1 || x.length == 0) = true
      · rw [if_pos b]
        rw [rep_same b] at q2
        exact q2
      · rw [if_neg b]
        refine ⟨?_, q1⟩
        show ((List.replicate n.toNat x.cps).foldl (· ++ ·) #[]).size ≤ sizeLine
        rw [rep_size]
        have e : n.toNat * x.cps.size = x.length * n.toNat := Nat.mul_comm _ _
        simp only [Array.size_empty, Nat.zero_add, e]
        exact hz
theorem op_mulD : OpR X (binaryOp .Mult) (rO2 X.K W (opD .Mult)) := by
  intro pins s σ H x y v u Q I rx ry h
  obtain ⟨F, d, e, sub, hd, he, k⟩ := h
  cases d with
  | int i =>
    cases e with
    | int j =>
      obtain rfl := hd.int
      obtain rfl := he.int
      obtain ⟨z, k⟩ := KE.need k
      rw [Bool.or_eq_true] at z
      refine op_mul pins s σ H _ _ v u Q I rx ry ⟨i, j, rfl, rfl, ?_, KE.same sub k (.int _)⟩
      rcases z with z | z
      · exact .inr (small_of z)
      · exact .inl (small_of z)
    | _ => exact k.elim
  | str a =>
    cases e with
    | int j =>
      obtain rfl := hd.str
      obtain rfl := he.int
      obtain ⟨z, k⟩ := KE.need k
      rw [Bool.and_eq_true, Bool.and_eq_true] at z
      obtain ⟨t, rfl⟩ := id rx
      obtain ⟨t', rfl⟩ := id ry
      exact mul_strD (of_decide_eq_true z.1.1) (of_decide_eq_true z.1.2) (fits_le z.2) ⟨.str (repS a j.toNat), H, I.tok _, ⟨_, rfl⟩, KE.same sub k (.str _)⟩ ⟨.str (repS a j.toNat), H, I, ⟨_, rfl⟩, KE.same sub k (.str _)⟩
    | _ => exact k.elim
  | tuple as =>
    cases e with
    | int j =>
      obtain ⟨a, xs, rfl, h1, h2, h1'⟩ := hd.tup sub
      obtain rfl := he.int
      obtain ⟨z, k⟩ := KE.need k
      rw [Bool.and_eq_true, Bool.and_eq_true, Bool.and_eq_true] at z
      refine op_repT pins s σ H _ _ v u Q I rx ry ⟨a, j, xs, rfl, rfl, h1, fun e => ?_, of_decide_eq_true z.1.1.2, of_decide_eq_true z.1.2, by rw [h2.length]; exact of_decide_eq_true z.2, fun p n => KE.new sub k n (rp_tup sub n (rp_rep h2 _))⟩
      subst e
      cases h2
      exact Bool.noConfusion z.1.1.1
    | _ => exact k.elim
  | _ => exact k.elim
theorem op_shlD : OpR X (binaryOp .LShift) (rO2 X.K W (opD .LShift)) := by
  intro pins s σ H x y v u Q I rx ry h
  obtain ⟨F, d, e, sub, hd, he, k⟩ := h
  cases d with
  | int i =>
    cases e with
    | int j =>
      obtain rfl := hd.int
      obtain rfl := he.int
      obtain ⟨z, k⟩ := KE.need k
      rw [Bool.and_eq_true, Bool.and_eq_true] at z
      exact L2.op_shl pins s σ H _ _ v u Q I rx ry ⟨i, j, rfl, rfl, ⟨of_decide_eq_true z.1.1, of_decide_eq_true z.1.2, of_decide_eq_true z.2⟩, KE.same sub k (.int _)⟩
    | _ => exact k.elim
  | _ => exact k.elim
theorem op_shrD : OpR X (binaryOp .RShift) (rO2 X.K W (opD .RShift)) := by
  intro pins s σ H x y v u Q I rx ry h
  obtain ⟨F, d, e, sub, hd, he, k⟩ := h
  cases d with
  | int i =>
    cases e with
    | int j =>
      obtain rfl := hd.int
      obtain rfl := he.int
      obtain ⟨z, k⟩ := KE.need k
      exact L2.op_shr pins s σ H _ _ v u Q I rx ry ⟨i, j, rfl, rfl, of_decide_eq_true z, KE.same sub k (.int _)⟩
    | _ => exact k.elim
  | _ => exact k.elim
theorem op_bandD : OpR X (binaryOp .BitAnd) (rO2 X.K W (opD .BitAnd)) := by
  intro pins s σ H x y v u Q I rx ry h
  obtain ⟨F, d, e, sub, hd, he, k⟩ := h
  cases d with
  | int i =>
    cases e with
    | int j =>
      obtain rfl := hd.int
      obtain rfl := he.int
      exact L2.op_and pins s σ H _ _ v u Q I rx ry ⟨i, j, rfl, rfl, KE.same sub k (.int _)⟩
    | _ => exact k.elim
  | _ => exact k.elim
theorem op_modD : OpR X (binaryOp .Mod) (rO2 X.K W (opD .Mod)) := by
  intro pins s σ H x y v u Q I rx ry h
  obtain ⟨F, d, e, sub, hd, he, k⟩ := h
  cases d with
  | int i =>
    cases e with
    | int j =>
      obtain rfl := hd.int
      obtain rfl := he.int
      obtain ⟨z, k⟩ := KE.need k
      exact L2.op_mod pins s σ H _ _ v u Q I rx ry ⟨i, j, rfl, rfl, of_decide_eq_true z, KE.same sub k (.int _)⟩
    | _ => exact k.elim
  | _ => exact k.elim
theorem op_fdivD : OpR X (binaryOp .FloorDiv) (rO2 X.K W (opD .FloorDiv)) := by
  intro pins s σ H x y v u Q I rx ry h
  obtain ⟨F, d, e, sub, hd, he, k⟩ := h
  cases d with
  | int i =>
    cases e with
    | int j =>
      obtain rfl := hd.int
      obtain rfl := he.int
      obtain ⟨z, k⟩ := KE.need k
      rw [Bool.and_eq_true] at z
      exact L2.op_fdiv pins s σ H _ _ v u Q I rx ry ⟨i, j, rfl, rfl, ⟨of_decide_eq_true z.1, of_decide_eq_true z.2⟩, KE.same sub k (.int _)⟩
    | _ => exact k.elim
  | _ => exact k.elim
theorem op_none {f : Value → Value → Sem Value} {g : D → D → Res D} (h : ∀ d e, g d e = .stuck) : OpR X f (rO2 X.K W g) := by
  intro pins s σ H x y v u Q I rx ry q
  obtain ⟨F, d, e, sub, hd, he, k⟩ := q
  rw [h] at k
  exact k.elim
theorem op_any (op : Operator) : OpR X (binaryOp op) (rO2 X.K W (opD op)) := by
  cases op with
  | Add => exact op_addD
  | Sub => exact op_subD
  | Mult => exact op_mulD
  | Mod => exact op_modD
  | FloorDiv => exact op_fdivD
  | LShift => exact op_shlD
  | RShift => exact op_shrD
  | BitAnd => exact op_bandD
  | _ => exact op_none fun d e => by cases d <;> cases e <;> rfl

/-! ### comparisons -/
theorem eq_room {A : Around} {k : Nat} (hr : Room k A) {x y : D} (h : (decide (x.depth ≤ lim) || decide (y.depth ≤ lim)) = true) : A.units + min x.depth y.depth < cLine := by
  have h1 := hr.un
  have h2 : min x.depth y.depth ≤ lim := by
    rw [Bool.or_eq_true] at h
    rcases h with h | h
    · exact Nat.le_trans (Nat.min_le_left _ _) (of_decide_eq_true h)
    · exact Nat.le_trans (Nat.min_le_right _ _) (of_decide_eq_true h)
  have h3 : lim = 150 := rfl
  omega
theorem op_eqW {k : Nat} (hr : Room k X.A) : OpR X (compareOp .Eq) (rO2 X.K W eqD) := by
  intro pins s σ H x y v u Q I rx ry h
  obtain ⟨F, d, e, sub, hd, he, k⟩ := h
  obtain ⟨z, k⟩ := KE.need k
  unfold eqOk at z
  rw [Bool.and_eq_true, Bool.and_eq_true] at z
  obtain ⟨as, r1⟩ := Dp.reads I d x v (hd.dp sub z.1.1) rx
  obtain ⟨bs, r2⟩ := Dp.reads I e y u (he.dp sub z.1.2) ry
  exact SeqAt.compareEq_reads r1 r2 z.1.1 z.1.2 (eq_room hr z.2) ⟨.bl _, H, I, rfl, KE.same sub k (.bl _)⟩
theorem op_neW {k : Nat} (hr : Room k X.A) : OpR X (compareOp .NotEq) (rO2 X.K W neD) := by
  intro pins s σ H x y v u Q I rx ry h
  obtain ⟨F, d, e, sub, hd, he, k⟩ := h
  obtain ⟨z, k⟩ := KE.need k
  unfold eqOk at z
  rw [Bool.and_eq_true, Bool.and_eq_true] at z
  obtain ⟨as, r1⟩ := Dp.reads I d x v (hd.dp sub z.1.1) rx
  obtain ⟨bs, r2⟩ := Dp.reads I e y u (he.dp sub z.1.2) ry
  exact SeqAt.compareNe_reads r1 r2 z.1.1 z.1.2 (eq_room hr z.2) ⟨.bl _, H, I, rfl, KE.same sub k (.bl _)⟩
/-- two ints -/
theorem op_ints {op : CmpOp} {p : Int → Int → Bool} (g : OpR X (compareOp op) (rI0 fun i j => .bl (p i j))) : OpR X (compareOp op) (rO2 X.K W fun x y => match x, y with
    | .int i, .int j => .ok (.bool (p i j))
    | _, _ => .stuck) := by
  intro pins s σ H x y v u Q I rx ry h
  obtain ⟨F, d, e, sub, hd, he, k⟩ := h
  cases d with
  | int i =>
    cases e with
    | int j =>
      obtain rfl := hd.int
      obtain rfl := he.int
      exact g pins s σ H _ _ v u Q I rx ry ⟨i, j, rfl, rfl, KE.same sub k (.bl _)⟩
    | _ => exact k.elim
  | _ => exact k.elim
theorem rpO_none {K : PySem.W.Frag} {F H : Hp} {v : V} {d : D} (h : RpO K F H v d) : decide (v = V.non) = isNone d := by
  rcases h with h | ⟨a, rfl, h⟩
  · cases h <;> rfl
  · rcases h with ⟨_, _, rfl, _⟩ | ⟨_, _, rfl, _⟩ <;> rfl
theorem op_isW : OpR X (compareOp .Is) (rO2 X.K W fun x y => (isD x y).map .bool) := by
  intro pins s σ H x y v u Q I rx ry h
  obtain ⟨F, d, e, sub, hd, he, k⟩ := h
  cases e with
  | none =>
    obtain rfl := he.non
    refine op_isN pins s σ H _ _ v u Q I rx ry ⟨rfl, ?_⟩
    rw [rpO_none hd]
    exact KE.same sub k (.bl _)
  | bool b =>
    cases d with
    | bool c =>
      obtain rfl := hd.bl
      obtain rfl := he.bl
      exact op_isBl pins s σ H _ _ v u Q I rx ry ⟨c, b, rfl, rfl, KE.same sub k (.bl _)⟩
    | _ => exact k.elim
  | _ => exact k.elim
theorem op_isNotW : OpR X (compareOp .IsNot) (rO2 X.K W fun x y => (isD x y).map fun b => .bool (!b)) := by
  intro pins s σ H x y v u Q I rx ry h
  obtain ⟨F, d, e, sub, hd, he, k⟩ := h
  cases e with
  | none =>
    obtain rfl := he.non
    refine op_notN pins s σ H _ _ v u Q I rx ry ⟨rfl, ?_⟩
    rw [rpO_none hd]
    exact KE.same sub k (.bl _)
  | bool b =>
    cases d with
    | bool c =>
      obtain rfl := hd.bl
      obtain rfl := he.bl
      exact op_notBl pins s σ H _ _ v u Q I rx ry ⟨c, b, rfl, rfl, KE.same sub k (.bl _)⟩
    | _ => exact k.elim
  | _ => exact k.elim
end
end MW

set_option maxRecDepth 100000
set_option maxHeartbeats 1000000
/-! Part 2c: in, truth, places, slices, built-ins. -/
namespace MW
open PySem PySem.Spec PyProof.Rows L2
open Res
variable [Lam]
section
variable {X : Cx} {W : Nat → Hp → Prop}

/-! ### keys of dicts -/
theorem toKey_keyD (k : Key) : toKey (keyD k) = some k := by cases k <;> rfl
theorem toKey_kV {K : PySem.W.Frag} {F H : Hp} {v : V} {d : D} {k : Key} (h : RpO K F H v d) (e : toKey d = some k) : v = kV k := by
  cases d with
  | int i => cases e; exact h.int
  | str x => cases e; exact h.str
  | _ => cases e
theorem kv_get {K : PySem.W.Frag} {F : Hp} (q : Key) : ∀ {kvs : List (Key × V)} {kds : List (D × D)}, RpKV K F kvs kds →
    (valV kvs q = none ∧ dictGet kds q = none) ∨ ∃ v d, valV kvs q = some v ∧ dictGet kds q = some d ∧ Rp K F v d
  | _, _, .nil => .inl ⟨rfl, rfl⟩
  | _, _, .cons (k := k) (v := v) (d := d) h t => by
    have e2 : ∀ r, dictGet ((keyD k, d) :: r) q = if k = q then some d else dictGet r q := fun r => by
      show (match toKey (keyD k) with | some k' => if k' = q then some d else dictGet r q | none => dictGet r q) = _
      rw [toKey_keyD]
    by_cases hk : k = q
    · refine .inr ⟨v, d, valV_pos hk, ?_, h⟩
      rw [e2, if_pos hk]
    · rw [valV_neg (p := (k, v)) hk, e2, if_neg hk]
      exact kv_get q t
theorem kv_has {K : PySem.W.Frag} {F : Hp} {q : Key} {kvs : List (Key × V)} {kds : List (D × D)} (h : RpKV K F kvs kds) : (valV kvs q).isSome = (dictGet kds q).isSome := by
  rcases kv_get q h with ⟨a, b⟩ | ⟨v, d, a, b, _⟩ <;> (rw [a, b]; rfl)
theorem kv_repl {K : PySem.W.Frag} {F : Hp} {q : Key} {v : V} {d : D} (r : Rp K F v d) : ∀ {kvs : List (Key × V)} {kds : List (D × D)}, RpKV K F kvs kds →
    RpKV K F (kvs.map fun kv => if kv.1 = q then (kv.1, v) else kv) (kds.map fun p => if toKey p.1 = some q then (p.1, d) else p)
  | _, _, .nil => .nil
  | _, _, .cons (k := k) (v := v') (d := d') h t => by
    rw [List.map_cons, List.map_cons]
    have ih := kv_repl (q := q) r t
    by_cases hk : k = q
    · have e : toKey ((keyD k, d') : D × D).1 = some q := by rw [toKey_keyD, hk]
      rw [if_pos (show ((k, v') : Key × V).1 = q from hk), if_pos e]
      exact .cons r ih
    · have e : ¬ toKey ((keyD k, d') : D × D).1 = some q := by
        rw [toKey_keyD]
        intro z
        exact hk (Option.some.inj z)
      rw [if_neg (show ¬ ((k, v') : Key × V).1 = q from hk), if_neg e]
      exact .cons h ih
theorem kv_app {K : PySem.W.Frag} {F : Hp} {q : Key} {v : V} {d : D} (r : Rp K F v d) : ∀ {kvs : List (Key × V)} {kds : List (D × D)}, RpKV K F kvs kds → RpKV K F (kvs ++ [(q, v)]) (kds ++ [(keyD q, d)])
  | _, _, .nil => .cons r .nil
  | _, _, .cons h t => .cons h (kv_app r t)
theorem kv_put {K : PySem.W.Frag} {F : Hp} {q : Key} {v : V} {d : D} (r : Rp K F v d) {kvs : List (Key × V)} {kds : List (D × D)} (h : RpKV K F kvs kds) : RpKV K F (putK kvs q v) (dictPut kds q d) := by
  unfold putK dictPut
  rw [valV_any]
  rcases kv_get q h with ⟨a, b⟩ | ⟨v', d', a, b, _⟩
  · rw [a, b]
    exact kv_app r h
  · rw [a, b]
    exact kv_repl r h

/-! ### in -/
theorem in_room {A : Around} {k : Nat} (hr : Room k A) {x : D} {ds : List D} (h : (decide (x.depth ≤ lim) || decide (PyData.depthAll ds ≤ lim)) = true) : A.units + 1 + min (PyData.depthAll ds) x.depth < cLine := by
  have h1 := hr.un
  have h2 : min (PyData.depthAll ds) x.depth ≤ lim := by
    rw [Bool.or_eq_true] at h
    rcases h with h | h
    · exact Nat.le_trans (Nat.min_le_right _ _) (of_decide_eq_true h)
    · exact Nat.le_trans (Nat.min_le_left _ _) (of_decide_eq_true h)
  have h3 : lim = 150 := rfl
  omega
theorem op_inW {k : Nat} (hr : Room k X.A) : OpR X (compareOp .In) (rO2 X.K W fun x y => (inD x y).map .bool) := by
  intro pins s σ H x y v u Q I rx ry h
  obtain ⟨F, d, e, sub, hd, he, k⟩ := h
  replace k : KE X.K W F H ((inD d e).map PyData.bool) Q := k
  cases e with
  | list ds =>
    by_cases z : inOk d ds = true
    · have k' : KE X.K W F H (.ok (.bool (ds.any fun z => PyData.eqv z d))) Q := by
        have e0 : (inD d (.list ds)).map PyData.bool = .ok (.bool (ds.any fun z => PyData.eqv z d)) := by
          show (need (inOk d ds) (Res.ok (ds.any fun z => PyData.eqv z d))).map PyData.bool = _
          rw [z]; rfl
        rw [e0] at k
        exact k
      unfold inOk at z
      rw [Bool.and_eq_true, Bool.and_eq_true] at z
      obtain ⟨as, r1⟩ := Dp.reads I d x v (hd.dp sub z.1.1) rx
      obtain ⟨bs, r2⟩ := Dp.reads I (.list ds) y u (he.dp sub (by simpa [PyData.canLay0] using z.1.2)) ry
      exact SeqAt.in_list_reads r2 r1 z.1.2 z.1.1 (in_room hr z.2) ⟨.bl _, H, I, rfl, KE.same sub k' (.bl _)⟩
    · have e0 : (inD d (.list ds)).map PyData.bool = .stuck := by
        show (need (inOk d ds) (Res.ok (ds.any fun z => PyData.eqv z d))).map PyData.bool = _
        rw [Bool.eq_false_iff.mpr z]; rfl
      rw [e0] at k
      exact k.elim
  | tuple ds =>
    by_cases z : inOk d ds = true
    · have k' : KE X.K W F H (.ok (.bool (ds.any fun z => PyData.eqv z d))) Q := by
        have e0 : (inD d (.tuple ds)).map PyData.bool = .ok (.bool (ds.any fun z => PyData.eqv z d)) := by
          show (need (inOk d ds) (Res.ok (ds.any fun z => PyData.eqv z d))).map PyData.bool = _
          rw [z]; rfl
        rw [e0] at k
        exact k
      unfold inOk at z
      rw [Bool.and_eq_true, Bool.and_eq_true] at z
      obtain ⟨as, r1⟩ := Dp.reads I d x v (hd.dp sub z.1.1) rx
      obtain ⟨bs, r2⟩ := Dp.reads I (.tuple ds) y u (he.dp sub (by simpa [PyData.canLay0] using z.1.2)) ry
      exact SeqAt.in_tuple_reads r2 r1 z.1.2 z.1.1 (in_room hr z.2) ⟨.bl _, H, I, rfl, KE.same sub k' (.bl _)⟩
    · have e0 : (inD d (.tuple ds)).map PyData.bool = .stuck := by
        show (need (inOk d ds) (Res.ok (ds.any fun z => PyData.eqv z d))).map PyData.bool = _
        rw [Bool.eq_false_iff.mpr z]; rfl
      rw [e0] at k
      exact k.elim
  | str t =>
    cases d with
    | str z =>
      obtain rfl := hd.str
      obtain rfl := he.str
      exact op_in_str pins s σ H _ _ v u Q I rx ry ⟨z, t, rfl, rfl, KE.same sub k (.bl _)⟩
    | _ => exact k.elim
  | dict kds =>
    cases q : toKey d with
    | none =>
      have e0 : (inD d (.dict kds)).map PyData.bool = .stuck := by
        show (match toKey d with | some k => Res.ok (dictGet kds k).isSome | none => .stuck).map PyData.bool = _
        rw [q]; rfl
      rw [e0] at k
      exact k.elim
    | some key =>
      have e0 : (inD d (.dict kds)).map PyData.bool = .ok (.bool (dictGet kds key).isSome) := by
        show (match toKey d with | some k => Res.ok (dictGet kds k).isSome | none => .stuck).map PyData.bool = _
        rw [q]; rfl
      rw [e0] at k
      obtain ⟨a, kvs, rfl, h1, h2⟩ := he.dic sub
      obtain rfl := toKey_kV hd q
      cases ry
      refine d_in (hu_of hr) I (DGet.k h1) rx fun s' I' => ⟨.bl _, H, I', rfl, ?_⟩
      rw [kv_has h2]
      exact KE.same sub k (.bl _)
  | _ => exact k.elim
theorem op_notInW {k : Nat} (hr : Room k X.A) : OpR X (compareOp .NotIn) (rO2 X.K W fun x y => (inD x y).map fun b => .bool (!b)) := by
  intro pins s σ H x y v u Q I rx ry h
  obtain ⟨F, d, e, sub, hd, he, k⟩ := h
  replace k : KE X.K W F H ((inD d e).map fun b => PyData.bool (!b)) Q := k
  cases e with
  | list ds =>
    by_cases z : inOk d ds = true
    · have k' : KE X.K W F H (.ok (.bool (!ds.any fun z => PyData.eqv z d))) Q := by
        have e0 : (inD d (.list ds)).map (fun b => PyData.bool (!b)) = .ok (.bool (!ds.any fun z => PyData.eqv z d)) := by
          show (need (inOk d ds) (Res.ok (ds.any fun z => PyData.eqv z d))).map _ = _
          rw [z]; rfl
        rw [e0] at k
        exact k
      unfold inOk at z
      rw [Bool.and_eq_true, Bool.and_eq_true] at z
      obtain ⟨as, r1⟩ := Dp.reads I d x v (hd.dp sub z.1.1) rx
      obtain ⟨bs, r2⟩ := Dp.reads I (.list ds) y u (he.dp sub (by simpa [PyData.canLay0] using z.1.2)) ry
      exact SeqAt.notIn_list_reads r2 r1 z.1.2 z.1.1 (in_room hr z.2) ⟨.bl _, H, I, rfl, KE.same sub k' (.bl _)⟩
    · have e0 : (inD d (.list ds)).map (fun b => PyData.bool (!b)) = .stuck := by
        show (need (inOk d ds) (Res.ok (ds.any fun z => PyData.eqv z d))).map _ = _
        rw [Bool.eq_false_iff.mpr z]; rfl
      rw [e0] at k
      exact k.elim
  | tuple ds =>
    by_cases z : inOk d ds = true
    · have k' : KE X.K W F H (.ok (.bool (!ds.any fun z => PyData.eqv z d))) Q := by
        have e0 : (inD d (.tuple ds)).map (fun b => PyData.bool (!b)) = .ok (.bool (!ds.any fun z => PyData.eqv z d)) := by
          show (need (inOk d ds) (Res.ok (ds.any fun z => PyData.eqv z d))).map _ = _
          rw [z]; rfl
        rw [e0] at k
        exact k
      unfold inOk at z
      rw [Bool.and_eq_true, Bool.and_eq_true] at z
      obtain ⟨as, r1⟩ := Dp.reads I d x v (hd.dp sub z.1.1) rx
      obtain ⟨bs, r2⟩ := Dp.reads I (.tuple ds) y u (he.dp sub (by simpa [PyData.canLay0] using z.1.2)) ry
      exact SeqAt.notIn_tuple_reads r2 r1 z.1.2 z.1.1 (in_room hr z.2) ⟨.bl _, H, I, rfl, KE.same sub k' (.bl _)⟩
    · have e0 : (inD d (.tuple ds)).map (fun b => PyData.bool (!b)) = .stuck := by
        show (need (inOk d ds) (Res.ok (ds.any fun z => PyData.eqv z d))).map _ = _
        rw [Bool.eq_false_iff.mpr z]; rfl
      rw [e0] at k
      exact k.elim
  | str t =>
    cases d with
    | str z =>
      obtain rfl := hd.str
      obtain rfl := he.str
      exact op_notIn_str pins s σ H _ _ v u Q I rx ry ⟨z, t, rfl, rfl, KE.same sub k (.bl _)⟩
    | _ => exact k.elim
  | dict kds =>
    cases q : toKey d with
    | none =>
      have e0 : (inD d (.dict kds)).map (fun b => PyData.bool (!b)) = .stuck := by
        show (match toKey d with | some k => Res.ok (dictGet kds k).isSome | none => .stuck).map _ = _
        rw [q]; rfl
      rw [e0] at k
      exact k.elim
    | some key =>
      have e0 : (inD d (.dict kds)).map (fun b => PyData.bool (!b)) = .ok (.bool (!(dictGet kds key).isSome)) := by
        show (match toKey d with | some k => Res.ok (dictGet kds k).isSome | none => .stuck).map _ = _
        rw [q]; rfl
      rw [e0] at k
      obtain ⟨a, kvs, rfl, h1, h2⟩ := he.dic sub
      obtain rfl := toKey_kV hd q
      cases ry
      refine d_notIn (hu_of hr) I (DGet.k h1) rx fun s' I' => ⟨.bl _, H, I', rfl, ?_⟩
      rw [kv_has h2]
      exact KE.same sub k (.bl _)
  | _ => exact k.elim
theorem cmp_any {k : Nat} (hr : Room k X.A) (op : CmpOp) : OpR X (compareOp op) (rO2 X.K W (cmpD op)) := by
  cases op with
  | Eq => exact op_eqW hr
  | NotEq => exact op_neW hr
  | Lt => exact op_ints op_lt
  | LtE => exact op_ints op_le
  | Gt => exact op_ints op_gt
  | GtE => exact op_ints op_ge
  | Is => exact op_isW
  | IsNot => exact op_isNotW
  | In => exact op_inW hr
  | NotIn => exact op_notInW hr

/-! ### truth -/
theorem rpO_tru {K : PySem.W.Frag} {F H : Hp} {v : V} {d : D} {b : Bool} (sub : Same F H) (h : RpO K F H v d) (e : truD d = .ok b) : TruV K v H b := by
  cases d with
  | none => obtain rfl := h.non; cases e; rfl
  | bool c => obtain rfl := h.bl; cases e; rfl
  | int i => obtain rfl := h.int; cases e; rfl
  | str x =>
    obtain rfl := h.str
    cases z : fitsZ x.length with
    | true =>
      rw [show truD (.str x) = need (fitsZ x.length) (.ok (x.length != 0)) from rfl, z] at e
      cases e
      refine ⟨fits_le z, ?_⟩
      cases x.length with
      | zero => rfl
      | succ n => rfl
    | false =>
      rw [show truD (.str x) = need (fitsZ x.length) (.ok (x.length != 0)) from rfl, z] at e
      cases e
  | list ds =>
    obtain ⟨a, xs, rfl, h1, h2⟩ := h.lst sub
    cases e
    refine .inl ⟨xs, h1, ?_⟩
    cases h2 <;> rfl
  | tuple ds =>
    obtain ⟨a, xs, rfl, h1, h2, _⟩ := h.tup sub
    cases e
    refine .inr (.inl ⟨xs, h1, ?_⟩)
    cases h2 <;> rfl
  | dict kds =>
    obtain ⟨a, xs, rfl, h1, h2⟩ := h.dic sub
    cases e
    refine .inr (.inr ⟨xs, h1, ?_⟩)
    cases h2 <;> rfl
theorem tru_ok_d {K : PySem.W.Frag} {F H : Hp} {d : D} {x : Res Bool} (e : truD d = x) : x = .stuck ∨ ∃ b, x = .ok b := by
  subst e
  cases d with
  | str x =>
    show (need (fitsZ x.length) (Res.ok (x.length != 0))) = _ ∨ _
    cases z : fitsZ x.length with
    | true => exact .inr ⟨_, need_true z⟩
    | false => exact .inl rfl
  | _ => exact .inr ⟨_, rfl⟩

/-! ### places -/
theorem ix_dict {k : Nat} (hr : Room k X.A) : IxR X (fun x y H Q => ∃ a v, x = .ref a ∧ DGet H a y (some v) ∧ Q v H) := by
  intro value slice pins s σ H x y v u Q I rx ry h hs
  obtain ⟨a, z, rfl, g, q⟩ := h
  cases rx
  exact tail_any (dict_typeIs I g) PySem.F.slot_dict_getitem.lookup (d_getItem (hu_of hr) I g ry fun w' s3 I3 rw' => ⟨z, H, I3, rw', q⟩) hs
theorem ix_any {k : Nat} (hr : Room k X.A) : IxR X (rO2 X.K W itemD) := by
  intro value slice pins s σ H x y v u Q I rx ry h hs
  obtain ⟨F, d, e, sub, hd, he, k⟩ := h
  cases d with
  | list ds =>
    cases e with
    | int i =>
      obtain ⟨a, xs, rfl, h1, h2⟩ := hd.lst sub
      obtain rfl := he.int
      have k : KE X.K W F H (ixD ds i) Q := k
      unfold ixD at k
      cases q : L2.atI ds i with
      | none => rw [q] at k; exact k.elim
      | some d' =>
        rw [q] at k
        obtain ⟨y', hy, ry'⟩ := h2.atI q
        exact ix_list value slice pins s σ H _ _ v u Q I rx ry ⟨a, xs, i, y', rfl, rfl, h1, hy, KE.same sub k ry'⟩ hs
    | _ => exact k.elim
  | tuple ds =>
    cases e with
    | int i =>
      obtain ⟨a, xs, rfl, h1, h2, _⟩ := hd.tup sub
      obtain rfl := he.int
      have k : KE X.K W F H (ixD ds i) Q := k
      unfold ixD at k
      cases q : L2.atI ds i with
      | none => rw [q] at k; exact k.elim
      | some d' =>
        rw [q] at k
        obtain ⟨y', hy, ry'⟩ := h2.atI q
        exact ix_tup value slice pins s σ H _ _ v u Q I rx ry ⟨a, xs, i, y', rfl, rfl, h1, hy, KE.same sub k ry'⟩ hs
    | _ => exact k.elim
  | str z =>
    cases e with
    | int i =>
      obtain rfl := hd.str
      obtain rfl := he.int
      obtain ⟨hz, k⟩ := KE.need (show KE X.K W F H (need (fitsZ z.length) (match L2.atI z.cps.toList i with | some c => .ok (chD c) | none => .stuck)) Q from k)
      cases q : L2.atI z.cps.toList i with
      | none => rw [q] at k; exact k.elim
      | some c =>
        rw [q] at k
        exact ix_str value slice pins s σ H _ _ v u Q I rx ry ⟨z, i, c, rfl, rfl, fits_le hz, q, KE.same sub k (.str _)⟩ hs
    | _ => exact k.elim
  | dict kds =>
    have k : KE X.K W F H (match toKey e with | some k => optR (dictGet kds k) | none => .stuck) Q := k
    cases q : toKey e with
    | none => rw [q] at k; exact k.elim
    | some key =>
      rw [q] at k
      obtain ⟨a, kvs, rfl, h1, h2⟩ := hd.dic sub
      obtain rfl := toKey_kV he q
      have k : KE X.K W F H (optR (dictGet kds key)) Q := k
      rcases kv_get key h2 with ⟨_, b⟩ | ⟨v', d', a', b, r⟩
      · rw [b] at k; exact k.elim
      · rw [b] at k
        refine ix_dict hr value slice pins s σ H _ _ v u Q I rx ry ⟨a, v', rfl, ?_, KE.same sub k r⟩ hs
        rw [← a']
        exact DGet.k h1
  | _ => exact k.elim

/-! ### slices -/
def rSlO (K : PySem.W.Frag) (W : Nat → Hp → Prop) : V → Option Int → Option Int → Hp → VK → Prop := fun x lo hi H Q => ∃ F d, Same F H ∧ RpO K F H x d ∧ KE K W F H (sliceD d lo hi) Q
theorem cutStr_eq (z : Str) (lo hi : Option Int) : cutStr z lo hi = cutS z lo hi := by
  unfold cutStr cutS cutD
  rw [show z.cps.toList.length = z.length by simp [Str.length]]
theorem sl_any : SlR X (rSlO X.K W) := by
  intro pins s σ H x v vl vu lo hi sl Q I rx hs pl pu h
  obtain ⟨F, d, sub, hd, k⟩ := h
  cases d with
  | list ds =>
    obtain ⟨a, xs, rfl, h1, h2⟩ := hd.lst sub
    exact sl_list pins s σ H _ v vl vu lo hi sl Q I rx hs pl pu ⟨a, xs, rfl, h1, fun p n => KE.new sub k n (rp_lst sub n (h2.cut lo hi))⟩
  | tuple ds =>
    obtain ⟨a, xs, rfl, h1, h2, h3⟩ := hd.tup sub
    refine sl_tupA pins s σ H _ v vl vu lo hi sl Q I rx hs pl pu ⟨a, xs, rfl, h1, fun hw => ?_, fun _ p n => KE.new sub k n (rp_tup sub n (h2.cut lo hi))⟩
    refine KE.same sub k (.tup h3 ?_)
    have e : cutD ds lo hi = ds := by
      unfold cutD
      rw [← h2.length, hw.1, hw.2, List.drop_zero, Nat.sub_zero, h2.length]
      exact List.take_length
    rw [e]
    exact h2
  | str z =>
    obtain rfl := hd.str
    obtain ⟨hz, k⟩ := KE.need (show KE X.K W F H (need (fitsZ z.length) (.ok (.str (cutStr z lo hi)))) Q from k)
    refine sl_str pins s σ H _ v vl vu lo hi sl Q I rx hs pl pu ⟨z, rfl, fits_le hz, ?_⟩
    rw [← cutStr_eq]
    exact KE.same sub k (.str _)
  | _ => exact k.elim
end
end MW

set_option maxRecDepth 100000
set_option maxHeartbeats 1000000
/-! Part 2d: built-ins. -/
namespace MW
open PySem PySem.Spec PyProof.Rows L2
open Res
variable [Lam]

/-! ### the order of texts -/
def leC (a b : List Nat) : Prop := ltCps b a = false
theorem ltC_irrefl : ∀ a : List Nat, ltCps a a = false
  | [] => rfl
  | x :: r => by
    show (decide (x < x) || (x == x && ltCps r r)) = false
    rw [ltC_irrefl r]; simp
theorem leC_trans : ∀ {a b c : List Nat}, leC a b → leC b c → leC a c
  | [], b, c, h1, h2 => by
    cases c with
    | nil => rfl
    | cons z t => rfl
  | x :: r, [], c, h1, h2 => by cases h1
  | x :: r, y :: t, [], h1, h2 => by cases h2
  | x :: r, y :: t, z :: u, h1, h2 => by
    have h1' : (decide (y < x) || (y == x && ltCps t r)) = false := h1
    have h2' : (decide (z < y) || (z == y && ltCps u t)) = false := h2
    show (decide (z < x) || (z == x && ltCps u r)) = false
    rw [Bool.or_eq_false_iff] at h1' h2' ⊢
    have a1 := of_decide_eq_false h1'.1
    have a2 := of_decide_eq_false h2'.1
    refine ⟨decide_eq_false (by omega), ?_⟩
    by_cases e : z = x
    · have e1 : y = x := by omega
      have e2 : z = y := by omega
      have b1 : ltCps t r = false := by
        have := h1'.2
        rw [e1] at this
        simpa using this
      have b2 : ltCps u t = false := by
        have := h2'.2
        rw [e2] at this
        simpa using this
      rw [show ltCps u r = false from leC_trans (a := r) (b := t) (c := u) b1 b2, Bool.and_false]
    · rw [show (z == x) = false from beq_eq_false_iff_ne.mpr e, Bool.false_and]
theorem leC_anti : ∀ {a b : List Nat}, leC a b → leC b a → a = b
  | [], [], _, _ => rfl
  | [], _ :: _, _, h => by cases h
  | _ :: _, [], h, _ => by cases h
  | x :: r, y :: t, h1, h2 => by
    have h1' : (decide (y < x) || (y == x && ltCps t r)) = false := h1
    have h2' : (decide (x < y) || (x == y && ltCps r t)) = false := h2
    rw [Bool.or_eq_false_iff] at h1' h2'
    have a1 := of_decide_eq_false h1'.1
    have a2 := of_decide_eq_false h2'.1
    have e : x = y := by omega
    subst e
    have b1 : ltCps t r = false := by simpa using h1'.2
    have b2 : ltCps r t = false := by simpa using h2'.2
    rw [leC_anti (a := r) (b := t) b1 b2]
theorem leC_total (a b : List Nat) : ltCps a b = true → leC a b := by
  intro h
  induction a generalizing b with
  | nil => cases b <;> rfl
  | cons x r ih =>
    cases b with
    | nil => cases h
    | cons y t =>
      have h' : (decide (x < y) || (x == y && ltCps r t)) = true := h
      show (decide (y < x) || (y == x && ltCps t r)) = false
      rw [Bool.or_eq_true] at h'
      rcases h' with h' | h'
      · have a := of_decide_eq_true h'
        rw [show decide (y < x) = false from decide_eq_false (by omega), show (y == x) = false from beq_eq_false_iff_ne.mpr (by omega)]
        rfl
      · rw [Bool.and_eq_true] at h'
        have e : x = y := eq_of_beq h'.1
        subst e
        rw [show ltCps t r = false from ih t h'.2]
        simp
abbrev leS (a b : Str) : Prop := leC a.cps.toList b.cps.toList
theorem leS_anti {a b : Str} (h1 : leS a b) (h2 : leS b a) : a = b := by
  have e := leC_anti h1 h2
  cases a with | mk a => cases b with | mk b => rw [show a = b from Array.ext' e]
theorem insS_perm (x : Str) : ∀ l : List Str, (insS x l).Perm (x :: l)
  | [] => List.Perm.refl _
  | y :: r => by
    unfold insS
    split
    · exact ((insS_perm x r).cons y).trans (List.Perm.swap x y r)
    · exact List.Perm.refl _
theorem sortS_perm : ∀ l : List Str, (sortS l).Perm l
  | [] => List.Perm.refl _
  | x :: r => (insS_perm x (sortS r)).trans ((sortS_perm r).cons x)
theorem insS_sorted (x : Str) : ∀ l : List Str, l.Pairwise leS → (insS x l).Pairwise leS
  | [], _ => List.pairwise_singleton _ _
  | y :: r, h => by
    have h1 := List.pairwise_cons.mp h
    unfold insS
    split
    · rename_i c
      refine List.pairwise_cons.mpr ⟨fun z hz => ?_, insS_sorted x r h1.2⟩
      rcases List.mem_cons.mp ((insS_perm x r).mem_iff.mp hz) with e | e
      · subst e; exact leC_total _ _ c
      · exact h1.1 z e
    · rename_i c
      have c' : leS x y := Bool.eq_false_iff.mpr c
      refine List.pairwise_cons.mpr ⟨fun z hz => ?_, h⟩
      rcases List.mem_cons.mp hz with e | e
      · subst e; exact c'
      · exact leC_trans c' (h1.1 z e)
theorem sortS_sorted : ∀ l : List Str, (sortS l).Pairwise leS
  | [] => List.Pairwise.nil
  | x :: r => insS_sorted x _ (sortS_sorted r)
theorem sortS_unique {a b : List Str} (p : a.Perm b) (h : a.Pairwise leS) : a = sortS b :=
  List.Perm.eq_of_pairwise (fun _ _ _ _ h1 h2 => leS_anti h1 h2) h (sortS_sorted b) (p.trans (sortS_perm b).symm)
theorem sortS_congr {a b : List Str} (p : a.Perm b) : sortS a = sortS b := sortS_unique ((sortS_perm a).trans p) (sortS_sorted a)
theorem rising_pairwise : ∀ (p : Str) (l : List Str), risingS p l = true → (p :: l).Pairwise leS
  | p, [], _ => List.pairwise_singleton _ _
  | p, x :: r, h => by
    have h' : (!ltCps x.cps.toList p.cps.toList && risingS x r) = true := h
    rw [Bool.and_eq_true] at h'
    have c : leS p x := by
      have := h'.1
      rw [Bool.not_eq_true'] at this
      exact this
    have q := rising_pairwise x r h'.2
    refine List.pairwise_cons.mpr ⟨fun z hz => ?_, q⟩
    rcases List.mem_cons.mp hz with e | e
    · subst e; exact c
    · exact leC_trans c ((List.pairwise_cons.mp q).1 z e)
theorem sorted_pairwise : ∀ (l : List Str), sortedS l = true → l.Pairwise leS
  | [], _ => List.Pairwise.nil
  | x :: r, h => rising_pairwise x r h
theorem insI_perm (x : Int) : ∀ l : List Int, (insI x l).Perm (x :: l)
  | [] => List.Perm.refl _
  | y :: r => by
    unfold insI
    split
    · exact ((insI_perm x r).cons y).trans (List.Perm.swap x y r)
    · exact List.Perm.refl _
theorem sortI_perm : ∀ l : List Int, (sortI l).Perm l
  | [] => List.Perm.refl _
  | x :: r => (insI_perm x (sortI r)).trans ((sortI_perm r).cons x)
theorem insI_sorted (x : Int) : ∀ l : List Int, l.Pairwise (· ≤ ·) → (insI x l).Pairwise (· ≤ ·)
  | [], _ => List.pairwise_singleton _ _
  | y :: r, h => by
    have h1 := List.pairwise_cons.mp h
    unfold insI
    split
    · rename_i c
      refine List.pairwise_cons.mpr ⟨fun z hz => ?_, insI_sorted x r h1.2⟩
      rcases List.mem_cons.mp ((insI_perm x r).mem_iff.mp hz) with e | e
      · subst e; exact Int.le_of_lt c
      · exact h1.1 z e
    · rename_i c
      refine List.pairwise_cons.mpr ⟨fun z hz => ?_, h⟩
      rcases List.mem_cons.mp hz with e | e
      · subst e; omega
      · have := h1.1 z e; omega
theorem sortI_sorted : ∀ l : List Int, (sortI l).Pairwise (· ≤ ·)
  | [] => List.Pairwise.nil
  | x :: r => insI_sorted x _ (sortI_sorted r)
theorem sortI_unique {a b : List Int} (p : a.Perm b) (h : a.Pairwise (· ≤ ·)) : a = sortI b :=
  List.Perm.eq_of_pairwise (fun _ _ _ _ h1 h2 => Int.le_antisymm h1 h2) h (sortI_sorted b) (p.trans (sortI_perm b).symm)

section
variable {K : PySem.W.Frag} {F H : Hp}
theorem strs_rp : ∀ {ds : List D} {ss : List Str} {vs : List V}, strsOf ds = some ss → RpAll K F vs ds → vs = ss.map V.str ∧ ds = ss.map PyData.str
  | [], ss, vs, e, h => by
    cases e; cases h; exact ⟨rfl, rfl⟩
  | d :: ds, ss, vs, e, h => by
    cases h with
    | cons r t =>
      cases d with
      | str x =>
        have e' : (strsOf ds).map (x :: ·) = some ss := e
        cases q : strsOf ds with
        | none => rw [q] at e'; cases e'
        | some ss' =>
          rw [q] at e'
          cases e'
          obtain ⟨h1, h2⟩ := strs_rp q t
          cases r
          exact ⟨by rw [h1]; rfl, by rw [h2]; rfl⟩
      | _ => cases e
theorem ints_rp : ∀ {ds : List D} {ss : List Int} {vs : List V}, intsOf ds = some ss → RpAll K F vs ds → vs = ss.map V.int ∧ ds = ss.map PyData.int
  | [], ss, vs, e, h => by
    cases e; cases h; exact ⟨rfl, rfl⟩
  | d :: ds, ss, vs, e, h => by
    cases h with
    | cons r t =>
      cases d with
      | int x =>
        have e' : (intsOf ds).map (x :: ·) = some ss := e
        cases q : intsOf ds with
        | none => rw [q] at e'; cases e'
        | some ss' =>
          rw [q] at e'
          cases e'
          obtain ⟨h1, h2⟩ := ints_rp q t
          cases r
          exact ⟨by rw [h1]; rfl, by rw [h2]; rfl⟩
      | _ => cases e
theorem rp_strs : ∀ ss : List Str, RpAll K F (ss.map V.str) (ss.map PyData.str)
  | [] => .nil
  | s :: r => .cons (.str s) (rp_strs r)
theorem rp_ints : ∀ ss : List Int, RpAll K F (ss.map V.int) (ss.map PyData.int)
  | [] => .nil
  | s :: r => .cons (.int s) (rp_ints r)
theorem bools_rp : ∀ {ds : List D} {b : Bool} {vs : List V}, allB ds = .ok b → RpAll K F vs ds → ∃ bs : List Bool, vs = bs.map V.bl ∧ b = bs.all id
  | [], b, vs, e, h => by
    cases e; cases h; exact ⟨[], rfl, rfl⟩
  | d :: ds, b, vs, e, h => by
    cases h with
    | cons r t =>
      cases d with
      | bool x =>
        have e' : (allB ds).bind (fun c => .ok (x && c)) = .ok b := e
        cases q : allB ds with
        | ok c =>
          rw [q] at e'
          cases e'
          obtain ⟨bs, h1, h2⟩ := bools_rp q t
          cases r
          exact ⟨x :: bs, by rw [h1]; rfl, by rw [h2]; rfl⟩
        | exn c => rw [q] at e'; cases e'
        | stuck => rw [q] at e'; cases e'
      | _ => cases e
theorem allB_cases : ∀ (ds : List D), allB ds = .stuck ∨ ∃ b, allB ds = .ok b
  | [] => .inr ⟨_, rfl⟩
  | d :: ds => by
    cases d with
    | bool x =>
      show (allB ds).bind (fun c => .ok (x && c)) = .stuck ∨ ∃ b, (allB ds).bind (fun c => .ok (x && c)) = .ok b
      rcases allB_cases ds with h | ⟨b, h⟩
      · rw [h]; exact .inl rfl
      · rw [h]; exact .inr ⟨_, rfl⟩
    | _ => exact .inl rfl
end
section
variable {X : Cx} {W : Nat → Hp → Prop}
/-- one operand -/
theorem os1 {K : PySem.W.Frag} {F H : Hp} {xs : List V} {d : D} (h : RpOs K F H xs [d]) : ∃ v, xs = [v] ∧ RpO K F H v d := by
  cases h with
  | cons a b => cases b; exact ⟨_, rfl, a⟩
theorem os2 {K : PySem.W.Frag} {F H : Hp} {xs : List V} {d e : D} (h : RpOs K F H xs [d, e]) : ∃ v u, xs = [v, u] ∧ RpO K F H v d ∧ RpO K F H u e := by
  cases h with
  | cons a b =>
    obtain ⟨u, rfl, q⟩ := os1 b
    exact ⟨_, _, rfl, a, q⟩
theorem cb_len : CallR X (.builtin "len") (rO1 X.K W (bltD .len)) := by
  intro pins s σ H xs us Q I r h
  obtain ⟨F, ds, sub, hd, k⟩ := h
  match ds, hd, k with
  | [d], hd, k =>
    obtain ⟨v, rfl, hv⟩ := os1 hd
    replace k : KE X.K W F H (lenD d) Q := k
    cases d with
    | list ds =>
      obtain ⟨a, xs, rfl, h1, h2⟩ := hv.lst sub
      refine call_len pins s σ H _ us Q I r ⟨_, xs.length, rfl, .inl ⟨xs, h1, rfl⟩, ?_⟩
      rw [h2.length]
      exact KE.same sub k (.int _)
    | tuple ds =>
      obtain ⟨a, xs, rfl, h1, h2, _⟩ := hv.tup sub
      refine call_len pins s σ H _ us Q I r ⟨_, xs.length, rfl, .inr ⟨xs, h1, rfl⟩, ?_⟩
      rw [h2.length]
      exact KE.same sub k (.int _)
    | str z =>
      obtain rfl := hv.str
      obtain ⟨hz, k⟩ := KE.need k
      exact call_len pins s σ H _ us Q I r ⟨_, z.length, rfl, ⟨fits_le hz, rfl⟩, KE.same sub k (.int _)⟩
    | dict kds =>
      obtain ⟨a, kvs, rfl, h1, h2⟩ := hv.dic sub
      obtain ⟨u, rfl, ru⟩ := vals1 r
      cases ru
      refine d_len I (.inl h1) fun t s' I' => ⟨.int _, H, I', ⟨t, rfl⟩, ?_⟩
      rw [h2.length]
      exact KE.same sub k (.int _)
    | _ => exact k.elim
  | [], hd, k => exact k.elim
  | _ :: _ :: _, hd, k => exact k.elim
theorem keys_rp {K : PySem.W.Frag} {F : Hp} : ∀ {kvs : List (Key × V)} {kds : List (D × D)} {ss : List Str}, RpKV K F kvs kds → keysS kds = some ss → kvs.map (·.1) = ss.map Sum.inr
  | _, _, ss, .nil, h => by cases h; rfl
  | _, _, ss, .cons (k := k) (d := d) (ds := ds) r t, h => by
    cases k with
    | inl i =>
      have h' : (none : Option (List Str)) = some ss := h
      cases h'
    | inr x =>
      have h' : (keysS ds).map (x :: ·) = some ss := h
      cases q : keysS ds with
      | none => rw [q] at h'; cases h'
      | some ss' =>
        rw [q] at h'
        cases h'
        rw [List.map_cons, List.map_cons, keys_rp t q]
theorem call_minK (hc : X.calm = true) {pins : List (Addr × Obj)} {s : Shared} {σ : L2.St} {H : Hp} {a : Addr} {kvs : List (Key × V)} {ss : List Str} {m : Str} {Q : VK} (I : Inv X pins σ H s) (ha : H a = some (.dK kvs)) (hk : kvs.map (·.1) = ss.map Sum.inr) (hm : minK ss = some m) (q : Q (.str m) H) :
    wpAny (model X.prog X.w) X.A (call (.builtin "min") [.ref a]) (EP X pins σ Q) X.xe s := by
  obtain ⟨_, hsys, vs, rel, dof⟩ := dk_of I.hok ha
  obtain ⟨ep, dat⟩ := dof.dictAt
  have dat' := dat
  obtain ⟨ob, es, ho, ex, hdat, hko, hpr, hnd⟩ := dat'
  have hlv : vs.length = ss.length := by
    have e1 := congrArg List.length hk
    rw [List.length_map, List.length_map] at e1
    rw [← e1]
    exact (KV.length rel).symm
  have hlen : 0 < vs.length := by
    rw [hlv]
    cases ss with
    | nil => cases hm
    | cons _ _ => exact Nat.succ_pos _
  have hval : ∀ (i : Nat) (v : Value), (∃ k x, vs[i]? = some (k, x) ∧ (mixKind X.prog X.w).is k v = true) → ∃ t, v = Value.str (ss.getD i Str.empty) t := fun i v ⟨k, x, h1, h2⟩ => by
    obtain ⟨y, h3, _⟩ := KV.at' rel h1
    have e1 : (kvs.map (·.1))[i]? = some k := by rw [List.getElem?_map, h3]; rfl
    rw [hk, List.getElem?_map] at e1
    obtain ⟨z, hz, e2⟩ := Option.map_eq_some_iff.mp e1
    subst e2
    rcases keyIs_shape (k := Sum.inr z) (v := v) h2 with ⟨_, _, e, _⟩ | ⟨z', t, e, rfl⟩
    · cases e
    · cases e
      exact ⟨t, by rw [List.getD_eq_getElem?_getD, hz]; rfl⟩
  have hlt : a < s.heap.objs.size := Heap.lt_size ho
  refine call_min_walk (wpAny_pyIter_dict hsys dat ?_)
  refine ⟨_, _, _, _, _, _, fun i j => decide ((ss.getD i Str.empty).cps.toList < (ss.getD j Str.empty).cps.toList), rfl, Walks.dictKeys (knd := mixKind X.prog X.w) (A := X.A.in1) (I.ok.hd hc) s.heap.objs.size a (Nat.ne_of_lt hlt) vs ep, ⟨⟨_, Heap.get?_push_size _ rfl, rfl, rfl⟩, dat.keep fun b u e => Heap.get?_push_of_some _ e⟩, fun b hb => ?_, hlen, fun i j vi vj s' Q' E' hi hj hQ => ?_, fun v h' tk hP hk' => ?_⟩
  · show b < (s.heap.push _).objs.size
    rw [Heap.size_push]
    rcases List.mem_cons.mp hb with e | hb
    · rw [e]; exact Nat.lt_succ_self _
    · rw [List.mem_singleton.mp hb]; exact Nat.lt_succ_of_lt hlt
  · obtain ⟨t, rfl⟩ := hval i vi hi
    obtain ⟨u, rfl⟩ := hval j vj hj
    exact PyProof.Rows.lt_str hQ
  · obtain ⟨t, rfl⟩ := hval _ v hP
    refine ⟨.str m, H, I.kept (t' := tk) fun b u e => hk' b u (fun hmem => ?_) (Heap.get?_push_of_some _ e), ⟨t, ?_⟩, q⟩
    · rw [List.mem_singleton.mp hmem] at e
      exact absurd (Heap.lt_size e) (Nat.lt_irrefl _)
    · unfold minK at hm
      rw [hlv, List.getD_eq_getElem?_getD, hm]; rfl
theorem cb_min (hc : X.calm = true) : CallR X (.builtin "min") (rO1 X.K W (bltD .min2)) := by
  intro pins s σ H xs us Q I r h
  obtain ⟨F, ds, sub, hd, k⟩ := h
  match ds, hd, k with
  | [d, e], hd, k =>
    obtain ⟨v, u, rfl, hv, hu⟩ := os2 hd
    cases d with
    | int i =>
      cases e with
      | int j =>
        obtain rfl := hv.int
        obtain rfl := hu.int
        exact call_min2 hc pins s σ H _ us Q I r ⟨i, j, rfl, KE.same sub k (.int _)⟩
      | _ => exact k.elim
    | _ => exact k.elim
  | [], hd, k => exact k.elim
  | [d], hd, k =>
    cases hd with
    | cons hv ht =>
      cases ht
      cases d with
      | dict kds =>
        obtain ⟨a, kvs, rfl, ha, rkv⟩ := hv.dic sub
        obtain ⟨u, rfl, ru⟩ := r.one
        obtain rfl : u = Value.ref a := ru
        replace k : KE X.K W F H (minD kds) Q := k
        unfold minD at k
        cases z1 : keysS kds with
        | none => rw [z1] at k; exact k.elim
        | some ss =>
          rw [z1] at k
          dsimp only at k
          cases z2 : minK ss with
          | none => rw [z2] at k; exact k.elim
          | some m =>
            rw [z2] at k
            exact call_minK hc I ha (keys_rp rkv z1) z2 (KE.same sub k (.str _))
      | _ => exact k.elim
  | d :: e :: _ :: _, hd, k => cases d <;> cases e <;> exact k.elim
theorem cb_max (hc : X.calm = true) : CallR X (.builtin "max") (rO1 X.K W (bltD .max2)) := by
  intro pins s σ H xs us Q I r h
  obtain ⟨F, ds, sub, hd, k⟩ := h
  match ds, hd, k with
  | [d, e], hd, k =>
    obtain ⟨v, u, rfl, hv, hu⟩ := os2 hd
    cases d with
    | int i =>
      cases e with
      | int j =>
        obtain rfl := hv.int
        obtain rfl := hu.int
        exact call_max2 hc pins s σ H _ us Q I r ⟨i, j, rfl, KE.same sub k (.int _)⟩
      | _ => exact k.elim
    | _ => exact k.elim
  | [], hd, k => exact k.elim
  | [d], hd, k => cases d <;> exact k.elim
  | d :: e :: _ :: _, hd, k => cases d <;> cases e <;> exact k.elim
theorem cb_all (hc : X.calm = true) : CallR X (.builtin "all") (rO1 X.K W (bltD .all)) := by
  intro pins s σ H xs us Q I r h
  obtain ⟨F, ds, sub, hd, k⟩ := h
  match ds, hd, k with
  | [d], hd, k =>
    obtain ⟨v, rfl, hv⟩ := os1 hd
    cases d with
    | list ds =>
      obtain ⟨a, xs, rfl, h1, h2⟩ := hv.lst sub
      replace k : KE X.K W F H ((allB ds).bind fun b => .ok (.bool b)) Q := k
      rcases allB_cases ds with q | ⟨b, q⟩
      · rw [q] at k; exact k.elim
      · rw [q] at k
        obtain ⟨bs, rfl, rfl⟩ := bools_rp q h2
        exact cr_all hc pins s σ H _ us Q I r ⟨a, bs, rfl, h1, KE.same (d := .bool (bs.all id)) sub k (.bl _)⟩
    | _ => exact k.elim
  | [], hd, k => exact k.elim
  | d :: e :: _, hd, k => cases d <;> exact k.elim
theorem ct_tuple : CallR X (.type "tuple") (rO1 X.K W (bltD .tuple)) := by
  intro pins s σ H xs us Q I r h
  obtain ⟨F, ds, sub, hd, k⟩ := h
  match ds, hd, k with
  | [d], hd, k =>
    obtain ⟨v, rfl, hv⟩ := os1 hd
    cases d with
    | list ds =>
      obtain ⟨a, xs, rfl, h1, h2⟩ := hv.lst sub
      exact call_tuple_of pins s σ H _ us Q I r ⟨a, xs, rfl, .inl ⟨h1, fun p n => KE.new (d := .tuple ds) sub k n (rp_tup sub n h2)⟩⟩
    | tuple ds =>
      obtain ⟨a, xs, rfl, h1, h2, h3⟩ := hv.tup sub
      exact call_tuple_of pins s σ H _ us Q I r ⟨a, xs, rfl, .inr ⟨h1, KE.same (d := .tuple ds) sub k (.tup h3 h2)⟩⟩
    | _ => exact k.elim
  | [], hd, k => exact k.elim
  | d :: e :: _, hd, k => cases d <;> exact k.elim
theorem rp_signs {K : PySem.W.Frag} {F : Hp} : ∀ cs : List Nat, RpAll K F (cs.map fun c => V.str ⟨#[c]⟩) (cs.map chD)
  | [] => .nil
  | c :: cs => .cons (.str _) (rp_signs cs)
theorem call_list_text (hc : X.calm = true) : CallR X (.type "list") (fun xs H Q => ∃ z : Str, xs = [.str z] ∧ z.length ≤ sizeLine ∧ ∀ l, H l = none → Q (.ref l) (upd H l (.lst (z.cps.toList.map fun c => V.str ⟨#[c]⟩)))) := by
  intro pins s σ H xs us Q I r h
  obtain ⟨z, rfl, hz, q⟩ := h
  obtain ⟨u, rfl, t, rfl⟩ := vals1 r
  refine call_list_str (I.ok.hd hc) z t (hn := hz) fun h' tk acc' c' hk hS hacc => ?_
  have hv : Vals (z.cps.toList.map fun c => V.str ⟨#[c]⟩) acc'.toList := by
    have hlen : acc'.toList.length = z.cps.toList.length := by
      have := hacc.1
      simpa using this
    have all : ∀ (cs : List Nat) (us : List Value), us.length = cs.length → (∀ (j : Nat) (v : Value), us[j]? = some v → ∃ c u, cs[j]? = some c ∧ v = Value.str ⟨#[c]⟩ u) → Vals (cs.map fun c => V.str ⟨#[c]⟩) us := by
      intro cs
      induction cs with
      | nil =>
        intro us hl _
        cases us with
        | nil => exact .nil
        | cons _ _ => cases hl
      | cons c cs ih =>
        intro us hl hg
        cases us with
        | nil => cases hl
        | cons v us =>
          obtain ⟨c', u, h1, rfl⟩ := hg 0 v rfl
          cases h1
          exact .cons ⟨_, rfl⟩ (ih us (by simpa using hl) fun j v hv => hg (j + 1) v hv)
    refine all _ _ hlen fun j v hj => ?_
    obtain ⟨c, u, hc', e⟩ := hacc.2 j v (by simpa using hj)
    exact ⟨c, u, by simpa using hc', e⟩
  refine ⟨.ref _, _, I.laid (t' := tk) hk (Nat.le_refl _) (show ObjOk X.prog X.w _ h' _ (.lst _) from ⟨?_, acc'.toList, c', hv, by simpa using hS⟩), rfl, q _ (I.hok.fresh (Nat.le_refl _))⟩
  rw [List.length_map, Array.length_toList]
  exact hz
theorem ct_list (hc : X.calm = true) : CallR X (.type "list") (rO1 X.K W (bltD .list)) := by
  intro pins s σ H xs us Q I r h
  obtain ⟨F, ds, sub, hd, k⟩ := h
  match ds, hd, k with
  | [d], hd, k =>
    obtain ⟨v, rfl, hv⟩ := os1 hd
    cases d with
    | list ds =>
      obtain ⟨a, xs, rfl, h1, h2⟩ := hv.lst sub
      exact call_list_of pins s σ H _ us Q I r ⟨a, xs, rfl, .inl h1, fun p n => KE.new (d := .list ds) sub k n (rp_lst sub n h2)⟩
    | tuple ds =>
      obtain ⟨a, xs, rfl, h1, h2, h3⟩ := hv.tup sub
      exact call_list_of pins s σ H _ us Q I r ⟨a, xs, rfl, .inr h1, fun p n => KE.new (d := .list ds) sub k n (rp_lst sub n h2)⟩
    | str z =>
      obtain rfl := hv.str
      obtain ⟨hz, k⟩ := KE.need (show KE X.K W F H (need (fitsZ z.length) (.ok (.list (z.cps.toList.map chD)))) Q from k)
      exact call_list_text hc pins s σ H _ us Q I r ⟨z, rfl, fits_le hz, fun p n => KE.new sub k n (rp_lst sub n (rp_signs _))⟩
    | _ => exact k.elim
  | [], hd, k => exact k.elim
  | d :: e :: _, hd, k => cases d <;> exact k.elim
theorem ct_int : CallR X (.type "int") (rO1 X.K W (bltD .int)) := by
  intro pins s σ H xs us Q I r h
  obtain ⟨F, ds, sub, hd, k⟩ := h
  match ds, hd, k with
  | [d], hd, k =>
    obtain ⟨v, rfl, hv⟩ := os1 hd
    cases d with
    | int i =>
      obtain rfl := hv.int
      exact call_int1 pins s σ H _ us Q I r (.inl ⟨i, rfl, KE.same (d := .int i) sub k (.int _)⟩)
    | bool b =>
      obtain rfl := hv.bl
      exact call_int1 pins s σ H _ us Q I r (.inr ⟨b, rfl, KE.same (d := .int (if b then 1 else 0)) sub k (.int _)⟩)
    | _ => exact k.elim
  | [], hd, k => exact k.elim
  | d :: e :: _, hd, k => cases d <;> exact k.elim
theorem cr_sortedSA : CallR X (.builtin "sorted") (fun vs H Q => ∃ (a : Addr) (xs : List Str), vs = [V.ref a] ∧ SqL X.K H a (xs.map V.str) ∧
    ∀ (ys : List Str) (p : Addr), ys.Perm xs → sortedS ys = true → H p = none → Q (.ref p) (upd H p (.lst (ys.map V.str)))) := by
  intro pins s σ H vs us Q I r h
  obtain ⟨a, xs, rfl, hs, q⟩ := h
  obtain ⟨its, rv, hl, hz⟩ := I.list hs
  rw [Vals.ref1 r]
  have hlen0 := rv.length
  rw [List.length_map] at hlen0 hz
  refine PyProof.Rows.sorted_strsAny hl.isList rv.strs (by rw [← hlen0]; exact hz) fun out ys h1 h2 h3 => ?_
  obtain ⟨ep, he'⟩ := PyProof.Rows.sortedAll_at s.heap its out
  have hlen : (ys.map V.str).length ≤ sizeLine := by rw [List.length_map, h2.length_eq]; exact hz
  exact ⟨.ref _, upd H (s.heap.objs.size + 1) (.lst (ys.map V.str)), I.laid (t' := s.toks) (fun _ _ => PyProof.Rows.sortedAll_old) (Nat.le_succ _) ⟨hlen, out.toList, ep, vals_of_strs h1, he'⟩, rfl, q ys _ h2 h3 (I.hok.fresh (Nat.le_succ _))⟩
theorem cb_sorted : CallR X (.builtin "sorted") (rO1 X.K W (bltD .sorted)) := by
  intro pins s σ H xs us Q I r h
  obtain ⟨F, ds, sub, hd, k⟩ := h
  match ds, hd, k with
  | [d], hd, k =>
    obtain ⟨v, rfl, hv⟩ := os1 hd
    cases d with
    | list ds =>
      obtain ⟨a, xs, rfl, h1, h2⟩ := hv.lst sub
      replace k : KE X.K W F H (sortedD ds) Q := k
      unfold sortedD at k
      cases q : strsOf ds with
      | some ss =>
        rw [q] at k
        obtain ⟨rfl, rfl⟩ := strs_rp q h2
        refine cr_sortedSA pins s σ H _ us Q I r ⟨a, ss, rfl, h1, fun ys p hp hs n => ?_⟩
        have e := sortS_unique hp (sorted_pairwise ys hs)
        subst e
        exact KE.new (d := .list ((sortS ss).map .str)) sub k n (rp_lst sub n (rp_strs _))
      | none =>
        rw [q] at k
        replace k : KE X.K W F H (match intsOf ds with | some is => .ok (.list ((sortI is).map .int)) | none => .stuck) Q := k
        cases q2 : intsOf ds with
        | some ss =>
          rw [q2] at k
          obtain ⟨rfl, rfl⟩ := ints_rp q2 h2
          refine cr_sortedI pins s σ H _ us Q I r ⟨a, ss, rfl, h1, fun ys p hp hs n => ?_⟩
          have e := sortI_unique hp hs
          subst e
          exact KE.new (d := .list ((sortI ss).map .int)) sub k n (rp_lst sub n (rp_ints _))
        | none => rw [q2] at k; exact k.elim
    | _ => exact k.elim
  | [], hd, k => exact k.elim
  | d :: e :: _, hd, k => cases d <;> exact k.elim

/-! ### isinstance -/
def tyName : Ty → String
  | .int => "int"
  | .bool => "bool"
  | .tuple => "tuple"
  | .str => "str"
  | .list => "list"
def dName : D → String
  | .none => "NoneType"
  | .bool _ => "bool"
  | .int _ => "int"
  | .str _ => "str"
  | .list _ => "list"
  | .tuple _ => "tuple"
  | .dict _ => "dict"
theorem kit_table : ∀ t : Ty, kitB "NoneType" (tyName t) = some false ∧ kitB "dict" (tyName t) = some false ∧ kitB "bool" (tyName t) = some (tyB (.bool true) t) ∧ kitB "int" (tyName t) = some (tyB (.int 0) t) ∧
    kitB "str" (tyName t) = some (tyB (.str ⟨#[]⟩) t) ∧ kitB "list" (tyName t) = some (tyB (.list []) t) ∧ kitB "tuple" (tyName t) = some (tyB (.tuple []) t)
  | .int => by decide +kernel
  | .bool => by decide +kernel
  | .tuple => by decide +kernel
  | .str => by decide +kernel
  | .list => by decide +kernel
theorem tyx_of {K : PySem.W.Frag} {F H : Hp} {v : V} {d : D} (sub : Same F H) (h : RpO K F H v d) : TyX K H v (.type (dName d)) := by
  cases d with
  | none => obtain rfl := h.non; exact .base .non
  | bool b => obtain rfl := h.bl; exact .base (.bl b)
  | int b => obtain rfl := h.int; exact .base (.int b)
  | str b => obtain rfl := h.str; exact .base (.str b)
  | list ds =>
    obtain ⟨a, xs, rfl, h1, _⟩ := h.lst sub
    rcases h1 with (h1 | ⟨o, h1⟩) | ⟨o, its, n, h1, h2, _⟩
    · exact .base (.lst h1)
    · exact .base (.frz h1)
    · exact .kList h1 h2
  | tuple ds =>
    obtain ⟨a, xs, rfl, h1, _⟩ := h.tup sub
    rcases h1 with (h1 | ⟨o, h1⟩) | ⟨o, its, n, h1, h2, _⟩
    · exact .base (.tup h1)
    · exact .fTuple h1
    · exact .kTuple h1 h2
  | dict kds =>
    obtain ⟨a, xs, rfl, h1, _⟩ := h.dic sub
    exact .base (.dK h1)
theorem kit_d (d : D) (t : Ty) : kitB (dName d) (tyName t) = some (tyB d t) := by
  obtain ⟨h1, h2, h3, h4, h5, h6, h7⟩ := kit_table t
  cases d with
  | none => rw [show dName .none = "NoneType" from rfl, h1]; cases t <;> rfl
  | dict _ => rw [show dName (.dict _) = "dict" from rfl, h2]; cases t <;> rfl
  | bool _ => exact h3.trans (by cases t <;> rfl)
  | int _ => exact h4.trans (by cases t <;> rfl)
  | str _ => exact h5.trans (by cases t <;> rfl)
  | list _ => exact h6.trans (by cases t <;> rfl)
  | tuple _ => exact h7.trans (by cases t <;> rfl)
end
end MW

set_option maxRecDepth 100000
set_option maxHeartbeats 1000000
/-! Part 2e: the look that compares a text of mine with the given one. -/
namespace MW
open PySem PySem.Spec PyProof.Rows L2
open Res
variable [Lam]

structure Cfg where
  N : List Str
  sc : Scope
  asn : Str → Bool
  fns : List Str
  csts : List Str
  lam : Bool := false

def locB (sc : Scope) (x : Str) : Bool := match sc.names.lookup x with
  | some .local => true
  | some .cell => true
  | _ => false
def visB (sc : Scope) (x : Str) : Bool := match sc.names.lookup x with
  | some .local => true
  | some .cell => true
  | some .free => true
  | _ => false
def glB (sc : Scope) (x : Str) : Bool := match sc.names.lookup x with
  | some .globalImplicit => true
  | _ => false
def plainN (x : Str) : Bool := !(x == ("__debug__" : Str)) && !(x == ("__classdict__" : Str))
def Cfg.inner (C : Cfg) (scope : Scope) : Cfg := { C with sc := relS scope C.sc, asn := locB scope, lam := false }
/-- a lambda's body: one name of its own -/
def Cfg.body (C : Cfg) (p : Str) (scope : Scope) : Cfg := ⟨[p], scope, fun _ => false, C.fns, C.csts, false⟩
def varB (C : Cfg) (i : Nat) (x : Str) : Bool := decide (C.N[i]? = some x) && visB C.sc x && plainN x
def bltName : Blt → Str
  | .len => "len"
  | .min2 => "min"
  | .max2 => "max"
  | .all => "all"
  | .tuple => "tuple"
  | .list => "list"
  | .int => "int"
  | .sorted => "sorted"
def ikName : IK → Str
  | .of => ""
  | .range => "range"
  | .enum => "enumerate"
  | .rev => "reversed"
def notStar : Expr → Bool
  | .Starred _ _ => false
  | _ => true
def okConst : Const → Bool
  | .int _ => true
  | .str _ => true
  | .bool _ => true
  | .none => true
  | _ => false
def isTup : Expr → Bool
  | .Tuple _ _ _ => true
  | _ => false

mutual
def chkG (C : Cfg) : G → Expr → Bool
  | .name i, .Name x _ => decide (C.N[i]? = some x) && C.asn x
  | .tup gs, .Tuple es _ _ => chkGs C gs es
  | _, _ => false
def chkGs (C : Cfg) : Gs → List Expr → Bool
  | .nil, [] => true
  | .cons g gs, e :: es => chkG C g e && chkGs C gs es
  | _, _ => false
end
mutual
/-- all places that a target fills -/
def slotsG : G → List Nat
  | .name i => [i]
  | .tup gs => slotsGs gs
def slotsGs : Gs → List Nat
  | .nil => []
  | .cons g gs => slotsG g ++ slotsGs gs
end

inductive Md where
  | val | opd | tst
def Md.isVal : Md → Bool
  | .val => true
  | _ => false
def Md.isTst : Md → Bool
  | .tst => true
  | _ => false
/-- the mode of the parts of and, or, not -/
def Md.sub : Md → Md
  | .tst => .tst
  | _ => .val
/-- forms that can stand as a test by their truth -/
def tstOk : E → Bool
  | .var _ => true
  | .own _ => true
  | .call _ _ => true
  | .blt _ _ => true
  | .isi _ _ => true
  | .ix _ _ => true
  | .comp _ _ _ _ _ _ => true
  | .and _ _ => true
  | .or _ _ => true
  | .not _ => true
  | .cmp _ _ _ => true
  | .chain _ _ _ _ _ => true
  | _ => false

/-- what a loop walks: the expressions that are asked -/
def itArgs (C : Cfg) (ik : IK) (tg iter : Expr) : Option (List Expr) := match ik with
  | .of => some [iter]
  | .range => match iter with
    | .Call (.Name x _) [a] [] _ => if x = "range" ∧ glB C.sc x = true then some [a] else none
    | .Call (.Name x _) [a, b] [] _ => if x = "range" ∧ glB C.sc x = true then some [a, b] else none
    | _ => none
  | .enum => match tg, iter with
    | .Tuple _ _ _, .Call (.Name x _) [a] [] _ => if x = "enumerate" ∧ glB C.sc x = true then some [a] else none
    | _, _ => none
  | .rev => match iter with
    | .Call (.Name x _) [a] [] _ => if x = "reversed" ∧ glB C.sc x = true then some [a] else none
    | _ => none

def mthName : Mth → Str
  | .index => "index"
  | .countL => "count"
  | .countS => "count"
  | .join => "join"
/-- no call stands ahead of the point -/
def plainO : Expr → Bool
  | .Name _ _ => true
  | .Constant _ _ _ => true
  | _ => false
/-- the step of a slice: -1 or 2 -/
def stepB (k : Int) : Expr → Bool
  | .UnaryOp .USub (.Constant (.int c) _ _) _ => decide (c = 1) && decide (k = -1)
  | .Constant (.int c) _ _ => decide (c = 2) && decide (k = 2)
  | _ => false
/-- key=lambda q: body -/
def keyOf (kws : List Keyword) : Option (Str × Str × Pos × Expr × Scope × Pos) := match kws with
  | [⟨some kn, .Lambda ⟨[], [⟨q, none, qp⟩], none, [], [], none, []⟩ body scope lp, _⟩] => some (kn, q, qp, body, scope, lp)
  | _ => none
theorem keyOf_some {kws : List Keyword} {kn q : Str} {qp lp : Pos} {body : Expr} {scope : Scope} (h : keyOf kws = some (kn, q, qp, body, scope, lp)) : ∃ kp, kws = [⟨some kn, .Lambda ⟨[], [⟨q, none, qp⟩], none, [], [], none, []⟩ body scope lp, kp⟩] := by
  unfold keyOf at h
  split at h
  · cases h; exact ⟨_, rfl⟩
  · cases h
mutual
def chk (C : Cfg) (m : Md) : E → Expr → Bool
  | .var i, .Name x _ => varB C i x
  | .own i, .Name x _ => !m.isVal && varB C i x
  | .cst c, .Constant c' _ _ => !m.isTst && decide (c = c') && okConst c
  | .glob k, .Name x _ => !m.isTst && decide (C.csts[k]? = some x) && glB C.sc x && plainN x
  | .tup es, .Tuple xs _ _ => !m.isTst && chks C .val es xs
  | .lst es, .List xs _ => !m.isTst && chks C .val es xs
  | .dic0, .Dict [] [] _ => !m.isTst
  | .bin op a b, .BinOp x op' y _ => !m.isTst && decide (op = op') && chk C .opd a x && chk C .opd b y
  | .mulL c b, .BinOp (.Constant (.int c') _ _) .Mult y _ => !m.isTst && decide (c = c') && chk C .opd b y
  | .neg a, .UnaryOp .USub x _ => !m.isTst && chk C .opd a x
  | .sortk a key p, .Call (.Name x _) [y] kws _ => !m.isTst && decide (x = "sorted") && glB C.sc x && chk C .opd a y && notStar y && C.lam && (match keyOf kws with
      | some (kn, q, _, body, scope, _) => decide (kn = "key") && decide (q = p) && (decide (p = "place") || decide (p = "word")) && NdefX.nscB [p] [p] [] scope && chk (C.body p scope) .val key body
      | none => false)
  | .rep a b, .BinOp (.List [x] _) .Mult y _ => !m.isTst && chk C .val a x && notStar x && chk C .opd b y
  | .cmp op a b, .Compare x [op'] [y] _ => decide (op = op') && chk C .opd a x && chk C .opd b y
  | .chain op op2 a b c, .Compare x [o1, o2] [y, z] _ => decide (op = o1) && decide (op2 = o2) && chk C .opd a x && chk C .opd b y && chk C .opd c z
  | .and a b, .BoolOp .And (x :: y :: rest) pos => chk C m.sub a x && (match rest with
    | [] => chk C m.sub b y
    | _ :: _ => chk C m.sub b (.BoolOp .And (y :: rest) pos))
  | .or a b, .BoolOp .Or (x :: y :: rest) pos => chk C m.sub a x && (match rest with
    | [] => chk C m.sub b y
    | _ :: _ => chk C m.sub b (.BoolOp .Or (y :: rest) pos))
  | .not a, .UnaryOp .Not x _ => chk C m.sub a x
  | .ife t a b, .IfExp t' x y _ => !m.isTst && chk C .tst t t' && chk C .val a x && chk C .val b y
  | .ix a b, .Subscript x y _ => chk C .opd a x && chk C .val b y
  | .slc a lo hi, .Subscript x (.Slice lo' hi' none _) _ => !m.isTst && chk C .opd a x && (match lo' with
      | none => lo.isAbs
      | some l => !lo.isAbs && chk C .val lo l) && (match hi' with
      | none => hi.isAbs
      | some l => !hi.isAbs && chk C .val hi l)
  | .call f es, .Call (.Name x _) (e :: xs) [] _ => decide (C.fns[f]? = some x) && glB C.sc x && plainN x && chks C .val es (e :: xs)
  | .blt b es, .Call (.Name x _) (e :: xs) [] _ => decide (x = bltName b) && glB C.sc x && chks C .opd es (e :: xs)
  | .chain3 op op2 op3 a b c d, .Compare x [o1, o2, o3] [y, z, u] _ => m.isTst && decide (op = o1) && decide (op2 = o2) && decide (op3 = o3) && chk C .opd a x && chk C .opd b y && chk C .opd c z && chk C .opd d u
  | .slc3 a k, .Subscript x (.Slice none none (some st) _) _ => !m.isTst && chk C .opd a x && stepB k st
  | .lenset a, .Call (.Name x _) [.Call (.Name y _) [z] [] _] [] _ => !m.isTst && decide (x = "len") && decide (y = "set") && glB C.sc x && glB C.sc y && chk C .opd a z
  | .meth mt o a, .Call (.Attribute o' x apos) [v] [] cpos => !m.isTst && decide (x = mthName mt) && plainO o' && decide (apos.endLine = cpos.line) && chk C .opd o o' && chk C .opd a v
  | .isi a [t], .Call (.Name x _) [y, .Name T _] [] _ => decide (x = "isinstance") && glB C.sc x && chk C .opd a y && decide (T = Str.ofString (tyName t)) && glB C.sc T
  | .comp elt g ik ia cond own, .ListComp elt' [⟨tg, iter, ifs, 0⟩] scope _ => blkC C.N C.sc scope own && chkG (C.inner scope) g tg && (slotsG g).all (fun i => decide (i ∈ own.map (·.2))) &&
      (match itArgs C ik tg iter with
        | some xs => chks C .opd ia xs
        | none => false) && (match ifs with
        | [] => chks (C.inner scope) .tst cond []
        | [c] => chks (C.inner scope) .tst cond [c]
        | _ => false) && chk (C.inner scope) .val elt elt'
  | _, _ => false
def chks (C : Cfg) (m : Md) : Es → List Expr → Bool
  | .nil, [] => true
  | .cons e es, x :: xs => chk C m e x && notStar x && chks C m es xs
  | _, _ => false
end

/-- two names of which one is a cell -/
def oneCell (sc : Scope) : Expr → Bool
  | .Tuple [.Name x _, .Name y _] _ _ => decide (sc.names.lookup x ≠ some .local) || decide (sc.names.lookup y ≠ some .local)
  | _ => false
/-- isinstance(n, A) and not isinstance(n, (B, C)) and isinstance(n, ValueError) -/
def exIs (sc : Scope) (cls : List Str) (c c2 c3 : Nat) (n : Str) : Expr → Bool
  | .BoolOp .And [.Call (.Name i1 _) [.Name n1 _, .Name A _] [] _, .UnaryOp .Not (.Call (.Name i2 _) [.Name n2 _, .Tuple [.Name B _, .Name C _] _ _] [] _) _, .Call (.Name i3 _) [.Name n3 _, .Name V _] [] _] _ =>
    (decide (i1 = "isinstance") && decide (i2 = "isinstance") && decide (i3 = "isinstance")) && (decide (n1 = n) && decide (n2 = n) && decide (n3 = n)) && (decide (cls[c]? = some A) && decide (cls[c2]? = some B) && decide (cls[c3]? = some C)) &&
      (decide (V = "ValueError") && glB sc "isinstance" && glB sc "ValueError") && (glB sc A && glB sc B && glB sc C) && (plainN n && plainN A && plainN B && plainN C)
  | _ => false
def chkH (C : Cfg) (cls : List Str) (c i : Nat) : Hd → Option Str → List Stmt → Bool
  | .setT, none, [.Assign [.Name x _] (.Constant (.bool true) _ _) _] => decide (C.N[i]? = some x) && C.asn x
  | .retT, none, [.Return (some (.Constant (.bool true) _ _)) _] => true
  | .isT c2 c3 j, some n, [.Assign [.Name x _] v _] => (decide (C.N[i]? = some x) && C.asn x) && (decide (C.N[j]? = some n) && decide (C.sc.names.lookup n = some .local) && decide (i ≠ j)) && (decide (c2 ≠ c) && decide (c3 ≠ c) && exIs C.sc cls c c2 c3 n v)
  | .nonI c2 c3 j, some n, [.If v [.Assign [.Name x _] (.Constant .none _ _) _] [] _] => (decide (C.N[i]? = some x) && C.asn x) && (decide (C.N[j]? = some n) && decide (C.sc.names.lookup n = some .local) && decide (i ≠ j)) && (decide (c2 ≠ c) && decide (c3 ≠ c) && exIs C.sc cls c c2 c3 n v)
  | _, _, _ => false
mutual
def chkS (C : Cfg) (cls : List Str) : S → Stmt → Bool
  | .asg i e, .Assign [.Name x _] v _ => decide (C.N[i]? = some x) && C.asn x && chk C .val e v
  | .asgO i e, .Assign [.Name x _] v _ => decide (C.N[i]? = some x) && C.asn x && chk C .val e v && (match e with
    | .lst _ => true
    | .bin .Add _ _ => true
    | .dic0 => true
    | _ => false)
  | .asgT g e, .Assign [tg] v _ => isTup tg && (!isTup v || oneCell C.sc tg) && chkG C g tg && chk C .val e v
  | .par i j a b, .Assign [.Tuple [.Name x px, .Name y py] _ _] (.Tuple [v, u] _ _) _ => decide (C.N[i]? = some x) && decide (C.N[j]? = some y) && decide (i ≠ j) && decide (C.sc.names.lookup x = some .local) && decide (C.sc.names.lookup y = some .local) &&
      decide (x ≠ y) && decide (px.line = py.line) && notStar v && notStar u && !(foldedForSure 8 v && foldedForSure 8 u) && !(constantsAlone 8 v && constantsAlone 8 u) && chk C .val a v && chk C .val b u
  | .app i e, .Expr (.Call (.Attribute (.Name x _) m apos) [v] [] cpos) _ => varB C i x && decide (m = "append") && decide (apos.endLine = cpos.line) && chk C .val e v && notStar v
  | .ext i e, .Expr (.Call (.Attribute (.Name x _) m apos) [v] [] cpos) _ => varB C i x && decide (m = "extend") && decide (apos.endLine = cpos.line) && chk C .val e v && notStar v && (match e with
    | .lst _ => true
    | .comp _ _ _ _ _ _ => true
    | _ => false)
  | .put i k v, .Assign [.Subscript (.Name x _) k' _] v' _ => varB C i x && chk C .val k k' && chk C .val v v'
  | .ret e, .Return (some x) _ => chk C .val e x
  | .ite t a b, .If t' a' b' _ => chk C .tst t t' && chkSs C cls a a' && chkSs C cls b b'
  | .whl t b, .While t' b' [] _ => chk C .tst t t' && chkSs C cls b b'
  | .for g ik ia b, .For tg iter b' [] _ => chkG C g tg && (match itArgs C ik tg iter with
        | some xs => chks C .val ia xs
        | none => false) && chkSs C cls b b'
  | .brk, .Break _ => true
  | .cnt, .Continue _ => true
  | .pass, .Pass _ => true
  | .expr e, .Expr (.Call f xs ks p) _ => chk C .val e (.Call f xs ks p)
  | .raise c, .Raise (some (.Call (.Name x _) [.Constant (.str _) _ _] [] _)) none _ => decide (cls[c]? = some x) && glB C.sc x
  | .halt, _ => true
  | .try_ b c i h, .Try body [.ExceptHandler (some (.Name x _)) nm suite _] [] [] _ => chkSs C cls b body && (decide (cls[c]? = some x) || decide (x = "WordError")) && (glB C.sc x && plainN x) && decide (c < cls.length) && chkH C cls c i h nm suite
  | _, _ => false
def chkSs (C : Cfg) (cls : List Str) : Ss → List Stmt → Bool
  | .nil, [] => true
  | .cons (.frz _) r, sts => chkSs C cls r sts
  | .cons s r, st :: sts => chkS C cls s st && chkSs C cls r sts
  | _, _ => false
end
end MW

set_option maxRecDepth 100000
set_option maxHeartbeats 1000000
/-! Part 2f: expressions. -/
namespace MW
open PySem PySem.Spec PyProof.Rows L2
open Res
variable [Lam]

/-! ### the state of a body: slots -/
structure RS (K : PySem.W.Frag) (F0 H0 F H : Hp) (σ : L2.St) (env : Env) : Prop where
  ext : Ext F0 H0 F H
  tab0 : TabF F0 H0
  len : env.length = σ.length
  val : ∀ (i : Nat) (d : D), env[i]? = some (some (Slot.val d)) → ∃ v, σ[i]? = some (some v) ∧ Rp K F v d
  own : ∀ (i : Nat) (d : D), env[i]? = some (some (Slot.own d)) → ∃ a, σ[i]? = some (some (.ref a)) ∧ F a = none ∧ H0 a = none ∧ OwnAt K F H a d
  inj : ∀ (i j : Nat) (d e : D) (a : Addr), env[i]? = some (some (Slot.own d)) → env[j]? = some (some (Slot.own e)) → σ[i]? = some (some (.ref a)) → σ[j]? = some (some (.ref a)) → i = j
theorem RS.tab {K : PySem.W.Frag} {F0 H0 F H : Hp} {σ : L2.St} {env : Env} (r : RS K F0 H0 F H σ env) : TabF F H := r.tab0.more r.ext
theorem OwnAt.tracked {K : PySem.W.Frag} {F H : Hp} {a : Addr} {d : D} (h : OwnAt K F H a d) : ∃ o, H a = some o := by
  rcases h with ⟨_, _, _, h, _⟩ | ⟨_, _, _, h, _⟩ <;> exact ⟨_, h⟩
theorem RS.more {K : PySem.W.Frag} {F0 H0 F H F' H' : Hp} {σ : L2.St} {env : Env} (r : RS K F0 H0 F H σ env) (e : Ext F H F' H') : RS K F0 H0 F' H' σ env where
  ext := r.ext.trans e
  tab0 := r.tab0
  len := r.len
  val := fun i d h => by
    obtain ⟨v, h1, h2⟩ := r.val i d h
    exact ⟨v, h1, h2.mono e.f⟩
  own := fun i d h => by
    obtain ⟨a, h1, h2, h3, h4⟩ := r.own i d h
    refine ⟨a, h1, ?_, h3, h4.mono e⟩
    cases q : F' a with
    | none => rfl
    | some o =>
      obtain ⟨o', h5⟩ := h4.tracked
      rcases e.new a o q with z | z
      · rw [h2] at z; cases z
      · rw [h5] at z; cases z
  inj := r.inj

section
variable (K : PySem.W.Frag) (W : Nat → Hp → Prop) (F0 H0 : Hp)
def tE (g : Env → Res D) : TE := fun σ H Q => ∃ env F, RS K F0 H0 F H σ env ∧ KE K W F H (g env) Q
def tO (g : Env → Res D) : TE := fun σ H Q => ∃ env F, RS K F0 H0 F H σ env ∧ KO K W F H (g env) Q
def tT (g : Env → Res Bool) : TT := fun σ H Q => ∃ env F, RS K F0 H0 F H σ env ∧ KT W F H (g env) Q
def tA (g : Env → Res (List D)) : TA := fun σ H Q => ∃ env F, RS K F0 H0 F H σ env ∧ KA K W F H (g env) Q
def tAs (g : Env → Res (List D)) : TA := fun σ H Q => ∃ env F, RS K F0 H0 F H σ env ∧ KAs K W F H (g env) Q
end

/-! ### what stands around -/
structure FI where
  f : Addr
  fd : FuncData
  ps : List Str
def WXof (clsA : Nat → Addr) (W : Nat → Hp → Prop) : WX := fun cls d _ H => ∃ c, cls = .ref (clsA c) ∧ d = none ∧ W c H
def EXof (clsA : Nat → Addr) (W : Nat → Hp → Prop) : XK := fun cls d H => ∃ c, cls = .ref (clsA c) ∧ d = none ∧ W c H
/-- a def's promise: it answers as g says -/
def spD (K : PySem.W.Frag) (clsA : Nat → Addr) (n : Nat) (g : List D → Res D) : Sp := fun vs H Q E => vs.length = n ∧ ∃ F ds, Same F H ∧ RpAll K F vs ds ∧ TabF F H ∧ KE K (fun c H' => E (.ref (clsA c)) none H') F H (g ds) Q
def bltNames : List Str := ["len", "min", "max", "all", "tuple", "list", "int", "sorted", "isinstance", "bool", "str", "range", "enumerate", "reversed", "set"]
structure XOk (X : Cx) (C : Cfg) (k : Nat) (Φ : Phi) (cs : Nat → Res D) (clsA : Nat → Addr) (W : Nat → Hp → Prop) : Prop where
  N : X.N = C.N
  nd : C.N.Nodup
  sc : X.env.scope = C.sc
  asn : ∀ x, C.asn x = true → Loc X.env.scope x ∧ (X.fn x = true ∨ X.env.scope.names.lookup x = some .local)
  calm : X.calm = true
  fns : ∀ i x, C.fns[i]? = some x → ∃ fi : FI, X.mg x = some (.ref fi.f) ∧ PySem.W.keepIn X.K (.ref fi.f) = true ∧ Binds X.K fi.fd fi.ps [] ∧
    FnOk X.prog X.w X.K X.mg X.base (L2.CX X.prog X.w) k fi.f fi.fd fi.ps (spD X.K clsA fi.ps.length (Φ i)) ∧ ∀ ds : List D, ds.length ≠ fi.ps.length → Φ i ds = .stuck
  csts : ∀ i x, C.csts[i]? = some x → ∃ d v u, cs i = .ok d ∧ X.mg x = some u ∧ RelV v u ∧ ∀ F, Rp X.K F v d
  blt : ∀ x ∈ bltNames, X.mg x = none
  room : Room k X.A
  lam : C.lam = true → Lam.on = true ∧ (∃ c, X.env.code = .ref c ∧ LamX.TabB X.base X.mg c Lam.P) ∧ X.env.qual ++ "<lambda>" = Lam.nm ∧ X.A.depth + 3 * k + 7 < recursionLimit ∧ X.A.units + 16 * k + 213 < cLine
  takes : Takes X (WXof clsA W)

theorem visB_of {sc : Scope} {x : Str} (h : visB sc x = true) : Vis sc x := by
  unfold visB at h
  split at h
  · exact .inl (by assumption)
  · exact .inr (.inl (by assumption))
  · exact .inr (.inr (by assumption))
  · cases h
theorem glB_of {sc : Scope} {x : Str} (h : glB sc x = true) : sc.names.lookup x = some .globalImplicit := by
  unfold glB at h
  split at h
  · assumption
  · cases h
theorem locB_of {sc : Scope} {x : Str} (h : locB sc x = true) : Loc sc x := by
  unfold locB at h
  split at h
  · exact .inl (by assumption)
  · exact .inr (by assumption)
  · cases h
theorem plainN_of {x : Str} (h : plainN x = true) : (x == ("__debug__" : Str)) = false ∧ (x == ("__classdict__" : Str)) = false := by
  unfold plainN at h
  rw [Bool.and_eq_true] at h
  exact ⟨by simpa using h.1, by simpa using h.2⟩

section
variable {X : Cx} {C : Cfg} {k : Nat} {Φ : Phi} {cs : Nat → Res D} {clsA : Nat → Addr} {W : Nat → Hp → Prop} {F0 H0 : Hp}
theorem XOk.passes (h : XOk X C k Φ cs clsA W) : Passes (L2.CX X.prog X.w) X (EXof clsA W) := passes_call h.takes fun cls d σ H q => q
theorem XOk.gl (h : XOk X C k Φ cs clsA W) {x : Str} (q : glB C.sc x = true) : Gl X x := by
  show X.env.scope.names.lookup x = _
  rw [h.sc]
  exact glB_of q
theorem XOk.var (h : XOk X C k Φ cs clsA W) {i : Nat} {x : Str} {pos : Pos} (q : varB C i x = true) : PE X (.Name x pos) (tVar i) := by
  unfold varB at q
  rw [Bool.and_eq_true, Bool.and_eq_true] at q
  obtain ⟨a, b⟩ := plainN_of q.2
  exact pe_var (by rw [h.N]; exact of_decide_eq_true q.1.1) (by rw [h.sc]; exact visB_of q.1.2) a b
/-- a comprehension's block -/
theorem XOk.inner (h : XOk X C k Φ cs clsA W) (scope : Scope) (s : Shared) (H : Hp) (A : Addr) (cl : List (Str × Addr)) (fp : List Addr) :
    XOk (X.blk s H scope (compEnvC scope cl A X.env) fp) (C.inner scope) k Φ cs clsA (fun _ _ => False) where
  N := h.N
  nd := h.nd
  sc := by
    show relS scope X.env.scope = relS scope C.sc
    rw [h.sc]
  asn := fun x q => by
    have q' : locB scope x = true := q
    have key : ∀ kd, kd ≠ NameKind.free → scope.names.lookup x = some kd → (relS scope X.env.scope).names.lookup x = some kd := fun kd hk e => lookup_relS_keep hk e
    rcases locB_of q' with e | e
    · exact ⟨.inl (key _ (by decide) e), .inr (key _ (by decide) e)⟩
    · refine ⟨.inr (key _ (by decide) e), .inl ?_⟩
      show (scope.names.lookup x == some .cell) = true
      rw [e]; rfl
  calm := h.calm
  fns := h.fns
  csts := h.csts
  blt := h.blt
  room := h.room
  lam := fun z => Bool.noConfusion z
  takes := takes0.imp fun c d σ H q => by
    obtain ⟨_, _, _, q⟩ := q
    exact q

theorem _root_.L2.PE.impW {e : Expr} {t t' : TE} (h : PE X e t) (q : ∀ σ H Q, t' σ H Q → t σ H Q) : PE X e t' := ⟨fun pins s σ H Q I w => h.run pins s σ H Q I (q σ H Q w)⟩
theorem _root_.L2.PT.impW {e : Expr} {t t' : TT} (h : PT X e t) (q : ∀ σ H Q, t' σ H Q → t σ H Q) : PT X e t' := ⟨fun pins s σ H Q I w => h.run pins s σ H Q I (q σ H Q w)⟩
theorem _root_.L2.PA.impW {e : List Expr} {t t' : TA} (h : PA X e t) (q : ∀ σ H Q, t' σ H Q → t σ H Q) : PA X e t' := ⟨fun pos pins s σ H Q I w => h.run pos pins s σ H Q I (q σ H Q w)⟩
theorem weak {e : Expr} {g : Env → Res D} (h : PE X e (tE X.K W F0 H0 g)) : PE X e (tO X.K W F0 H0 g) := h.impW fun σ H Q ⟨env, F, rs, k⟩ => ⟨env, F, rs, k.imp fun F' H' d _ q v r => q v (.inl r)⟩
/-- a constant -/
theorem pe_const {e : Expr} {v : V} {d : D} {g : Env → Res D} (h : PE X e (tC v)) (hg : ∀ env, g env = .ok d) (r : ∀ F, Rp X.K F v d) : PE X e (tE X.K W F0 H0 g) :=
  h.impW fun σ H Q ⟨env, F, rs, k⟩ => by
    rw [hg] at k
    exact k F H (Ext.refl rs.ext.sub) v (r F)
theorem bind_assoc {α β γ : Type} (x : Res α) (f : α → Res β) (g : β → Res γ) : (x.bind f).bind g = x.bind fun a => (f a).bind g := by cases x <;> rfl
/-- by its truth -/
theorem truth_of {e : Expr} {g : Env → Res D} {t : Env → Res Bool} (h : PE X e (tO X.K W F0 H0 g)) (he : ∀ whole, isTrue e X.env whole = (do let v ← whole; standAt e.pos; holding [v] (truthy v))) (ht : ∀ env, t env = (g env).bind truD) : PT X e (tT X.K W F0 H0 t) :=
  (pt_truth h he).impW fun σ H Q ⟨env, F, rs, k⟩ => by
    refine ⟨env, F, rs, ?_⟩
    rw [ht] at k
    refine (KR.bind k).imp fun F1 H1 d e1 k1 v r1 => ?_
    rcases tru_ok_d (K := X.K) (F := F1) (H := H1) (d := d) rfl with q | ⟨b, q⟩
    · rw [q] at k1; exact k1.elim
    · rw [q] at k1
      exact ⟨b, rpO_tru e1.sub r1 q, k1 F1 H1 (Ext.refl e1.sub)⟩
end

/-- what is to be shown of an expression -/
def SE (e : E) : Prop := ∀ {X : Cx} {C : Cfg} {k : Nat} {Φ : Phi} {cs : Nat → Res D} {clsA : Nat → Addr} {W : Nat → Hp → Prop} {F0 H0 : Hp}, XOk X C k Φ cs clsA W → ∀ x : Expr,
  (chk C .val e x = true → PE X x (tE X.K W F0 H0 (ev Φ cs e))) ∧ (chk C .opd e x = true → PE X x (tO X.K W F0 H0 (ev Φ cs e))) ∧ (chk C .tst e x = true → PT X x (tT X.K W F0 H0 (tst Φ cs e)))
def SEs (es : Es) : Prop := ∀ {X : Cx} {C : Cfg} {k : Nat} {Φ : Phi} {cs : Nat → Res D} {clsA : Nat → Addr} {W : Nat → Hp → Prop} {F0 H0 : Hp}, XOk X C k Φ cs clsA W → ∀ xs : List Expr,
  (chks C .val es xs = true → PA X xs (tAs X.K W F0 H0 (evs Φ cs es))) ∧ (chks C .opd es xs = true → PA X xs (tA X.K W F0 H0 (evs Φ cs es))) ∧ (chks C .tst es xs = true → xs = [] ∧ es = .nil ∨ ∃ x r e r', xs = x :: r ∧ es = .cons e r' ∧ PT X x (tT X.K W F0 H0 (tst Φ cs e)))

theorem se_var (i : Nat) : SE (.var i) := by
  intro X C k Φ cs clsA W F0 H0 hX x
  have key : ∀ m, chk C m (.var i) x = true → PE X x (tE X.K W F0 H0 (ev Φ cs (.var i))) := fun m h => by
    cases x with
    | Name x pos =>
      refine (hX.var (pos := pos) h).impW fun σ H Q ⟨env, F, rs, k⟩ => ?_
      replace k : KE X.K W F H (rdV env i) Q := k
      unfold rdV at k
      split at k
      · rename_i d e
        obtain ⟨v, h1, h2⟩ := rs.val i d e
        exact ⟨v, h1, k F H (Ext.refl rs.ext.sub) v h2⟩
      · exact k.elim
    | _ => exact Bool.noConfusion h
  refine ⟨key _, fun h => weak (key _ h), fun h => ?_⟩
  cases x with
  | Name x pos => exact truth_of (weak (key _ h)) (fun _ => rfl) fun env => rfl
  | _ => exact Bool.noConfusion h
theorem se_own (i : Nat) : SE (.own i) := by
  intro X C k Φ cs clsA W F0 H0 hX x
  have key : ∀ m, chk C m (.own i) x = true → PE X x (tO X.K W F0 H0 (ev Φ cs (.own i))) := fun m h => by
    cases x with
    | Name x pos =>
      have h' : (!m.isVal && varB C i x) = true := h
      rw [Bool.and_eq_true] at h'
      refine (hX.var (pos := pos) h'.2).impW fun σ H Q ⟨env, F, rs, k⟩ => ?_
      replace k : KO X.K W F H (rdO env i) Q := k
      unfold rdO at k
      split at k
      · rename_i d e
        obtain ⟨v, h1, h2⟩ := rs.val i d e
        exact ⟨v, h1, k F H (Ext.refl rs.ext.sub) v (.inl h2)⟩
      · rename_i d e
        obtain ⟨a, h1, h2, h3, h4⟩ := rs.own i d e
        exact ⟨_, h1, k F H (Ext.refl rs.ext.sub) _ (.inr ⟨a, rfl, h4⟩)⟩
      · exact k.elim
    | _ => exact Bool.noConfusion h
  refine ⟨fun h => ?_, key _, fun h => ?_⟩
  · cases x with
    | _ => exact Bool.noConfusion h
  · cases x with
    | Name x pos => exact truth_of (key _ h) (fun _ => rfl) fun env => rfl
    | _ => exact Bool.noConfusion h
/-- forms that are no tests -/
theorem se_plain {e : E} (hv : ∀ {X : Cx} {C : Cfg} {k : Nat} {Φ : Phi} {cs : Nat → Res D} {clsA : Nat → Addr} {W : Nat → Hp → Prop} {F0 H0 : Hp}, XOk X C k Φ cs clsA W → ∀ (m : Md) (x : Expr), chk C m e x = true → m.isTst = false ∧ PE X x (tE X.K W F0 H0 (ev Φ cs e))) : SE e := by
  intro X C k Φ cs clsA W F0 H0 hX x
  exact ⟨fun h => (hv hX _ x h).2, fun h => weak (hv hX _ x h).2, fun h => Bool.noConfusion (hv (F0 := F0) (H0 := H0) hX _ x h).1⟩
/-- forms that are tests by their truth -/
theorem se_truth {e : E} (hv : ∀ {X : Cx} {C : Cfg} {k : Nat} {Φ : Phi} {cs : Nat → Res D} {clsA : Nat → Addr} {W : Nat → Hp → Prop} {F0 H0 : Hp}, XOk X C k Φ cs clsA W → ∀ (m : Md) (x : Expr), chk C m e x = true →
    PE X x (tE X.K W F0 H0 (ev Φ cs e)) ∧ (∀ whole, isTrue x X.env whole = (do let v ← whole; standAt x.pos; holding [v] (truthy v))))
    (ht : ∀ (Φ : Phi) (cs : Nat → Res D) env, tst Φ cs e env = (ev Φ cs e env).bind truD) : SE e := by
  intro X C k Φ cs clsA W F0 H0 hX x
  exact ⟨fun h => (hv hX _ x h).1, fun h => weak (hv hX _ x h).1, fun h => truth_of (weak (hv hX _ x h).1) (hv (F0 := F0) (H0 := H0) hX _ x h).2 (ht Φ cs)⟩
theorem not_tst {m : Md} {b : Bool} (h : (!m.isTst && b) = true) : m.isTst = false ∧ b = true := by
  rw [Bool.and_eq_true] at h
  exact ⟨by simpa using h.1, h.2⟩
theorem se_cst (c : Const) : SE (.cst c) := by
  refine se_plain fun {X C k Φ cs clsA W F0 H0} hX m x h => ?_
  cases x with
  | Constant c' j pos =>
    have h' : (!m.isTst && decide (c = c') && okConst c) = true := h
    rw [Bool.and_eq_true] at h'
    obtain ⟨h1, h2⟩ := not_tst h'.1
    refine ⟨h1, ?_⟩
    have e := of_decide_eq_true h2
    subst e
    cases c with
    | int i => exact pe_const pe_int (fun _ => rfl) fun F => .int i
    | str i => exact pe_const pe_str (fun _ => rfl) fun F => .str i
    | bool i => exact pe_const pe_bl (fun _ => rfl) fun F => .bl i
    | none => exact pe_const pe_non (fun _ => rfl) fun F => .non
    | _ => exact Bool.noConfusion h'.2
  | _ => exact Bool.noConfusion h
theorem se_glob (j : Nat) : SE (.glob j) := by
  refine se_plain fun {X C k Φ cs clsA W F0 H0} hX m x h => ?_
  cases x with
  | Name x pos =>
    have h' : (!m.isTst && decide (C.csts[j]? = some x) && glB C.sc x && plainN x) = true := h
    rw [Bool.and_eq_true, Bool.and_eq_true] at h'
    obtain ⟨h1, h2⟩ := not_tst h'.1.1
    obtain ⟨d, v, u, e1, e2, e3, e4⟩ := hX.csts j x (of_decide_eq_true h2)
    exact ⟨h1, pe_const (pe_glob (hX.gl h'.1.2) e2 e3 (plainN_of h'.2).1) (fun _ => e1) e4⟩
  | _ => exact Bool.noConfusion h
theorem se_tup {es : Es} (hs : SEs es) : SE (.tup es) := by
  refine se_plain fun {X C k Φ cs clsA W F0 H0} hX m x h => ?_
  cases x with
  | Tuple xs j pos =>
    obtain ⟨h1, h2⟩ := not_tst (show (!m.isTst && chks C .val es xs) = true from h)
    refine ⟨h1, (pe_tup ((hs (F0 := F0) (H0 := H0) hX xs).1 h2)).impW fun σ H Q ⟨env, F, rs, k⟩ => ⟨env, F, rs, (KR.bind k).imp fun F1 H1 ds e1 k1 vs r1 => ?_⟩⟩
    obtain ⟨z, k2⟩ := KR.need k1
    exact ⟨by rw [r1.length]; exact fits_le z, fun p n => KE.new e1.sub k2 n (rp_tup e1.sub n r1)⟩
  | _ => exact Bool.noConfusion h
theorem se_lst {es : Es} (hs : SEs es) : SE (.lst es) := by
  refine se_plain fun {X C k Φ cs clsA W F0 H0} hX m x h => ?_
  cases x with
  | List xs pos =>
    obtain ⟨h1, h2⟩ := not_tst (show (!m.isTst && chks C .val es xs) = true from h)
    refine ⟨h1, (pe_lst ((hs (F0 := F0) (H0 := H0) hX xs).1 h2)).impW fun σ H Q ⟨env, F, rs, k⟩ => ⟨env, F, rs, (KR.bind k).imp fun F1 H1 ds e1 k1 vs r1 => ?_⟩⟩
    obtain ⟨z, k2⟩ := KR.need k1
    exact ⟨by rw [r1.length]; exact fits_le z, fun p n => KE.new e1.sub k2 n (rp_lst e1.sub n r1)⟩
  | _ => exact Bool.noConfusion h
theorem se_dic0 : SE .dic0 := by
  refine se_plain fun {X C k Φ cs clsA W F0 H0} hX m x h => ?_
  cases x with
  | Dict ks vs pos =>
    cases ks with
    | nil =>
      cases vs with
      | nil =>
        have h' : (!m.isTst) = true := h
        exact ⟨by simpa using h', pe_dnewK.impW fun σ H Q ⟨env, F, rs, k⟩ p n => KE.new (d := .dict []) rs.ext.sub k n (.dic upd_same .nil)⟩
      | cons _ _ => exact Bool.noConfusion h
    | cons _ _ => exact Bool.noConfusion h
  | _ => exact Bool.noConfusion h
theorem se_bin {op : Operator} {a b : E} (ha : SE a) (hb : SE b) : SE (.bin op a b) := by
  refine se_plain fun {X C k Φ cs clsA W F0 H0} hX m x h => ?_
  cases x with
  | BinOp l op' r pos =>
    have h' : (!m.isTst && decide (op = op') && chk C .opd a l && chk C .opd b r) = true := h
    rw [Bool.and_eq_true, Bool.and_eq_true] at h'
    obtain ⟨h1, h2⟩ := not_tst h'.1.1
    have e := of_decide_eq_true h2
    subst e
    refine ⟨h1, (pe_op (op_any (W := W) op) ((ha (F0 := F0) (H0 := H0) hX l).2.1 h'.1.2) ((hb (F0 := F0) (H0 := H0) hX r).2.1 h'.2)).impW fun σ H Q ⟨env, F, rs, k⟩ => ?_⟩
    exact ⟨env, F, rs, (KR.bind k).imp fun F1 H1 d e1 k1 v r1 => ⟨env, F1, rs.more e1, (KR.bind k1).imp fun F2 H2 d2 e2 k2 v2 r2 => ⟨F2, d, d2, e2.sub, r1.mono e2, r2, k2⟩⟩⟩
  | _ => exact Bool.noConfusion h
theorem rp_same {K : PySem.W.Frag} {F : Hp} {v : V} {d : D} (h : Rp K F v d) : ∀ n : Nat, RpAll K F (List.replicate n v) (List.replicate n d)
  | 0 => .nil
  | n + 1 => .cons h (rp_same h n)
theorem flat_one {α : Type} (x : α) : ∀ n : Nat, (List.replicate n [x]).flatten = List.replicate n x
  | 0 => rfl
  | n + 1 => by rw [List.replicate_succ, List.flatten_cons, flat_one x n, List.replicate_succ]; rfl
theorem se_mulL {c : Int} {b : E} (hb : SE b) : SE (.mulL c b) := by
  refine se_plain fun {X C k Φ cs clsA W F0 H0} hX m x h => ?_
  cases x with
  | BinOp l op' r pos =>
    cases l with
    | Constant c0 j p0 =>
      cases c0 with
      | int c' =>
        cases op' with
        | Mult =>
          have h' : (!m.isTst && decide (c = c') && chk C .opd b r) = true := h
          rw [Bool.and_eq_true] at h'
          obtain ⟨h1, h2⟩ := not_tst h'.1
          have e := of_decide_eq_true h2
          subst e
          refine ⟨h1, (pe_op op_mul pe_int ((hb (F0 := F0) (H0 := H0) hX r).2.1 h'.2)).impW fun σ H Q ⟨env, F, rs, k⟩ => ?_⟩
          refine ⟨env, F, rs, (KR.bind k).imp fun F1 H1 d e1 k1 v r1 => ?_⟩
          cases d with
          | int i =>
            obtain rfl := r1.int
            obtain ⟨z, k2⟩ := KR.need k1
            exact ⟨c, i, rfl, rfl, .inl (small_of z), KE.same e1.sub k2 (.int _)⟩
          | _ => exact k1.elim
        | _ => exact Bool.noConfusion h
      | _ => exact Bool.noConfusion h
    | _ => exact Bool.noConfusion h
  | _ => exact Bool.noConfusion h
theorem se_neg {a : E} (ha : SE a) : SE (.neg a) := by
  refine se_plain fun {X C k Φ cs clsA W F0 H0} hX m x h => ?_
  cases x with
  | UnaryOp op y pos =>
    cases op with
    | USub =>
      obtain ⟨h1, h2⟩ := not_tst (show (!m.isTst && chk C .opd a y) = true from h)
      refine ⟨h1, (pe_un un_neg ((ha (F0 := F0) (H0 := H0) hX y).2.1 h2)).impW fun σ H Q ⟨env, F, rs, k⟩ => ⟨env, F, rs, (KR.bind k).imp fun F1 H1 d e1 k1 v r1 => ?_⟩⟩
      cases d with
      | int i =>
        obtain rfl := r1.int
        exact ⟨i, rfl, KE.same e1.sub k1 (.int _)⟩
      | _ => exact k1.elim
    | _ => exact Bool.noConfusion h
  | _ => exact Bool.noConfusion h
/-- nothing of mine is a set -/
theorem not_set {C : Cfg} {m : Md} {e : E} {x : Expr} (h : chk C m e x = true) : (∀ op, behindInMarks op x = false) ∧ ∀ env v, foldedSetIterable x env v = pure v := by
  cases x with
  | Set es k pos =>
    cases e with
    | isi a tys =>
      cases tys with
      | nil => exact Bool.noConfusion h
      | cons t r => cases r <;> exact Bool.noConfusion h
    | _ => exact Bool.noConfusion h
  | _ => exact ⟨fun _ => rfl, fun _ _ => rfl⟩
theorem cmp_bool (op : CmpOp) (x y : D) : (∃ b, cmpD op x y = .ok (.bool b)) ∨ cmpD op x y = .stuck := by
  have hm : ∀ (r : Res Bool) (f : Bool → Bool), (∀ c, r ≠ .exn c) → (∃ b, r.map (fun b => PyData.bool (f b)) = .ok (.bool b)) ∨ r.map (fun b => PyData.bool (f b)) = .stuck := fun r f hr => by
    cases r with
    | ok b => exact .inl ⟨f b, rfl⟩
    | exn c => exact absurd rfl (hr c)
    | stuck => exact .inr rfl
  have hin : ∀ c, inD x y ≠ .exn c := fun c e => by
    cases y with
    | list ds =>
      have e' : need (inOk x ds) (Res.ok (ds.any fun z => PyData.eqv z x)) = .exn c := e
      cases q : inOk x ds <;> rw [q] at e' <;> cases e'
    | tuple ds =>
      have e' : need (inOk x ds) (Res.ok (ds.any fun z => PyData.eqv z x)) = .exn c := e
      cases q : inOk x ds <;> rw [q] at e' <;> cases e'
    | str t => cases x <;> cases e
    | dict kvs =>
      have e' : (match toKey x with | some k => Res.ok (dictGet kvs k).isSome | none => .stuck) = .exn c := e
      cases q : toKey x <;> rw [q] at e' <;> cases e'
    | _ => cases e
  have his : ∀ c, isD x y ≠ .exn c := fun c e => by
    cases y with
    | bool b => cases x <;> cases e
    | _ => cases e
  cases op with
  | Eq =>
    show (∃ b, need (eqOk x y) (Res.ok (PyData.bool (PyData.eqv x y))) = .ok (.bool b)) ∨ _ = Res.stuck
    cases q : eqOk x y with
    | true => exact .inl ⟨_, rfl⟩
    | false => exact .inr (need_false q)
  | NotEq =>
    show (∃ b, need (eqOk x y) (Res.ok (PyData.bool (!PyData.eqv x y))) = .ok (.bool b)) ∨ _ = Res.stuck
    cases q : eqOk x y with
    | true => exact .inl ⟨_, rfl⟩
    | false => exact .inr (need_false q)
  | Lt => cases x <;> cases y <;> first | exact .inr rfl | exact .inl ⟨_, rfl⟩
  | LtE => cases x <;> cases y <;> first | exact .inr rfl | exact .inl ⟨_, rfl⟩
  | Gt => cases x <;> cases y <;> first | exact .inr rfl | exact .inl ⟨_, rfl⟩
  | GtE => cases x <;> cases y <;> first | exact .inr rfl | exact .inl ⟨_, rfl⟩
  | Is => exact hm _ id his
  | IsNot => exact hm _ (fun b => !b) his
  | In => exact hm _ id hin
  | NotIn => exact hm _ (fun b => !b) hin
theorem se_cmp {op : CmpOp} {a b : E} (ha : SE a) (hb : SE b) : SE (.cmp op a b) := by
  intro X C k Φ cs clsA W F0 H0 hX x
  have key : ∀ m, chk C m (.cmp op a b) x = true → PE X x (tE X.K W F0 H0 (ev Φ cs (.cmp op a b))) ∧ PT X x (tT X.K W F0 H0 (tst Φ cs (.cmp op a b))) := fun m h => by
    cases x with
    | Compare l ops rs' pos =>
      match ops, rs', h with
      | [op'], [r], h =>
        have h' : (decide (op = op') && chk C .opd a l && chk C .opd b r) = true := h
        rw [Bool.and_eq_true, Bool.and_eq_true] at h'
        have e := of_decide_eq_true h'.1.1
        subst e
        refine ⟨(pe_cmpR (cmp_any (W := W) hX.room op) ((ha (F0 := F0) (H0 := H0) hX l).2.1 h'.1.2) ((hb (F0 := F0) (H0 := H0) hX r).2.1 h'.2) ((not_set h'.2).1 op)).impW fun σ H Q ⟨env, F, rs, k⟩ => ?_,
          (pt_cmpR (cmp_any (W := W) hX.room op) ((ha (F0 := F0) (H0 := H0) hX l).2.1 h'.1.2) ((hb (F0 := F0) (H0 := H0) hX r).2.1 h'.2) ((not_set h'.2).1 op)).impW fun σ H Q ⟨env, F, rs, k⟩ => ?_⟩
        · exact ⟨env, F, rs, (KR.bind k).imp fun F1 H1 d e1 k1 v r1 => ⟨env, F1, rs.more e1, (KR.bind k1).imp fun F2 H2 d2 e2 k2 v2 r2 => ⟨F2, d, d2, e2.sub, r1.mono e2, r2, k2⟩⟩⟩
        · refine ⟨env, F, rs, (KR.bind k).imp fun F1 H1 d e1 k1 v r1 => ⟨env, F1, rs.more e1, (KR.bind k1).imp fun F2 H2 d2 e2 k2 v2 r2 => ⟨F2, d, d2, e2.sub, r1.mono e2, r2, ?_⟩⟩⟩
          refine (KR.bind k2).imp fun F3 H3 d3 e3 k3 v3 r3 => ?_
          rcases cmp_bool op d d2 with ⟨bb, q⟩ | q
          · cases d3 with
            | bool b3 =>
              cases r3
              exact ⟨b3, rfl, k3 F3 H3 (Ext.refl e3.sub)⟩
            | _ => exact k3.elim
          · cases d3 with
            | bool b3 =>
              cases r3
              exact ⟨b3, rfl, k3 F3 H3 (Ext.refl e3.sub)⟩
            | _ => exact k3.elim
      | [], _, h => exact Bool.noConfusion h
      | [_], [], h => exact Bool.noConfusion h
      | [_], _ :: _ :: _, h => exact Bool.noConfusion h
      | _ :: _ :: _, _, h => exact Bool.noConfusion h
    | _ => exact Bool.noConfusion h
  exact ⟨fun h => (key _ h).1, fun h => weak (key _ h).1, fun h => (key _ h).2⟩
end MW

set_option maxRecDepth 100000
set_option maxHeartbeats 1000000
/-! Part 2g: more expressions. -/
namespace MW
open PySem PySem.Spec PyProof.Rows L2
open Res
variable [Lam]

theorem se_chain {op op2 : CmpOp} {a b c : E} (ha : SE a) (hb : SE b) (hc : SE c) : SE (.chain op op2 a b c) := by
  intro X C k Φ cs clsA W F0 H0 hX x
  have key : ∀ m, chk C m (.chain op op2 a b c) x = true → PE X x (tE X.K W F0 H0 (ev Φ cs (.chain op op2 a b c))) ∧ PT X x (tT X.K W F0 H0 (tst Φ cs (.chain op op2 a b c))) := fun m h => by
    cases x with
    | Compare l ops rs' pos =>
      match ops, rs', h with
      | [o1, o2], [r, t], h =>
        have h' : (decide (op = o1) && decide (op2 = o2) && chk C .opd a l && chk C .opd b r && chk C .opd c t) = true := h
        rw [Bool.and_eq_true, Bool.and_eq_true, Bool.and_eq_true, Bool.and_eq_true] at h'
        obtain ⟨⟨⟨⟨h1, h2⟩, h3⟩, h4⟩, h5⟩ := h'
        have e := of_decide_eq_true h1
        subst e
        have e := of_decide_eq_true h2
        subst e
        refine ⟨(pe_chain (cmp_any (W := W) hX.room op) (cmp_any (W := W) hX.room op2) ((ha (F0 := F0) (H0 := H0) hX l).2.1 h3) ((hb (F0 := F0) (H0 := H0) hX r).2.1 h4) ((hc (F0 := F0) (H0 := H0) hX t).2.1 h5) ((not_set h5).1 op2)).impW fun σ H Q ⟨env, F, rs, k⟩ => ?_,
          (pt_chain (cmp_any (W := W) hX.room op) (cmp_any (W := W) hX.room op2) ((ha (F0 := F0) (H0 := H0) hX l).2.1 h3) ((hb (F0 := F0) (H0 := H0) hX r).2.1 h4) ((hc (F0 := F0) (H0 := H0) hX t).2.1 h5) ((not_set h5).1 op2)).impW fun σ H Q ⟨env, F, rs, k⟩ => ?_⟩
        · refine ⟨env, F, rs, (KR.bind k).imp fun F1 H1 d e1 k1 v r1 => ⟨env, F1, rs.more e1, (KR.bind k1).imp fun F2 H2 d2 e2 k2 v2 r2 => ⟨F2, d, d2, e2.sub, r1.mono e2, r2, (KR.bind k2).imp fun F3 H3 d3 e3 k3 v3 r3 => ?_⟩⟩⟩
          cases d3 with
          | bool b3 =>
            cases r3
            refine ⟨b3, rfl, ?_⟩
            cases b3 with
            | true =>
              refine iteT ⟨env, F3, ((rs.more e1).more e2).more e3, (KR.bind (f := fun z => cmpD op2 d2 z) k3).imp fun F4 H4 d4 e4 k4 v4 r4 => ⟨F4, d2, d4, e4.sub, (r2.mono e3).mono e4, r4, k4⟩⟩
            | false => exact iteF (KE.same (d := .bool false) e3.sub k3 (.bl _))
          | _ => exact k3.elim
        · refine ⟨env, F, rs, (KR.bind k).imp fun F1 H1 d e1 k1 v r1 => ⟨env, F1, rs.more e1, (KR.bind k1).imp fun F2 H2 d2 e2 k2 v2 r2 => ⟨F2, d, d2, e2.sub, r1.mono e2, r2, (KR.bind k2).imp fun F3 H3 d3 e3 k3 v3 r3 => ?_⟩⟩⟩
          cases d3 with
          | bool b3 =>
            cases r3
            refine ⟨b3, rfl, ?_⟩
            cases b3 with
            | true =>
              refine iteT ⟨env, F3, ((rs.more e1).more e2).more e3, (KR.bind (f := fun z => (cmpD op2 d2 z).bind boolD) k3).imp fun F4 H4 d4 e4 k4 v4 r4 => ⟨F4, d2, d4, e4.sub, (r2.mono e3).mono e4, r4, (KR.bind k4).imp fun F5 H5 d5 e5 k5 v5 r5 => ?_⟩⟩
              cases d5 with
              | bool b5 =>
                cases r5
                exact ⟨b5, rfl, k5 F5 H5 (Ext.refl e5.sub)⟩
              | _ => exact k5.elim
            | false => exact iteF ⟨false, rfl, k3 F3 H3 (Ext.refl e3.sub)⟩
          | _ => exact k3.elim
      | [], _, h => exact Bool.noConfusion h
      | [_], _, h => exact Bool.noConfusion h
      | [_, _], [], h => exact Bool.noConfusion h
      | [_, _], [_], h => exact Bool.noConfusion h
      | [_, _], _ :: _ :: _ :: _, h => exact Bool.noConfusion h
      | _ :: _ :: _ :: _, _, h => exact Bool.noConfusion h
    | _ => exact Bool.noConfusion h
  exact ⟨fun h => (key _ h).1, fun h => weak (key _ h).1, fun h => (key _ h).2⟩

/-! ### and, or, not -/
theorem pw_of {X : Cx} {op : BoolOp} {vs : List Expr} {pos : Pos} {t : TT} (h : PT X (.BoolOp op vs pos) t) : PW X (.BoolOp op vs pos) t := ⟨fun _ pins s σ H Q I w => h.run pins s σ H Q I w⟩
theorem se_and {a b : E} (ha : SE a) (hb : SE b) : SE (.and a b) := by
  intro X C k Φ cs clsA W F0 H0 hX x
  have kv : ∀ m, m.sub = .val → chk C m (.and a b) x = true → PE X x (tE X.K W F0 H0 (ev Φ cs (.and a b))) := fun m hm h => by
    cases x with
    | BoolOp op vs pos =>
      cases op with
      | And =>
        match vs, h with
        | x :: y :: rest, h =>
          have h' : (chk C m.sub a x && (match (generalizing := false) rest with | [] => chk C m.sub b y | _ :: _ => chk C m.sub b (.BoolOp .And (y :: rest) pos))) = true := h
          rw [hm, Bool.and_eq_true] at h'
          have pb : PE X (.BoolOp .And (y :: rest) pos) (tE X.K W F0 H0 (ev Φ cs b)) := by
            cases rest with
            | nil => exact pe_one ((hb (F0 := F0) (H0 := H0) hX y).1 h'.2)
            | cons z r => exact (hb (F0 := F0) (H0 := H0) hX _).1 h'.2
          refine (pe_andT ((ha (F0 := F0) (H0 := H0) hX x).1 h'.1) pb).impW fun σ H Q ⟨env, F, rs, k⟩ => ⟨env, F, rs, (KR.bind k).imp fun F1 H1 d e1 k1 v r1 => ?_⟩
          rcases tru_ok_d (K := X.K) (F := F1) (H := H1) (d := d) rfl with q | ⟨c, q⟩
          · rw [q] at k1; exact k1.elim
          · rw [q] at k1
            refine ⟨c, rpO_tru e1.sub (.inl r1) q, ?_⟩
            cases c with
            | true => exact iteT ⟨env, F1, rs.more e1, k1⟩
            | false => exact iteF (KE.same e1.sub k1 r1)
        | [], h => exact Bool.noConfusion h
        | [_], h => exact Bool.noConfusion h
      | Or => exact Bool.noConfusion h
    | _ => exact Bool.noConfusion h
  refine ⟨kv _ rfl, fun h => weak (kv _ rfl h), fun h => ?_⟩
  cases x with
  | BoolOp op vs pos =>
    cases op with
    | And =>
      match vs, h with
      | x :: y :: rest, h =>
        have h' : (chk C .tst a x && (match (generalizing := false) rest with | [] => chk C .tst b y | _ :: _ => chk C .tst b (.BoolOp .And (y :: rest) pos))) = true := h
        rw [Bool.and_eq_true] at h'
        have pb : PW X (.BoolOp .And (y :: rest) pos) (tT X.K W F0 H0 (tst Φ cs b)) := by
          cases rest with
          | nil => exact pw_and1 ((hb (F0 := F0) (H0 := H0) hX y).2.2 h'.2)
          | cons z r => exact pw_of ((hb (F0 := F0) (H0 := H0) hX _).2.2 h'.2)
        refine (PW.pt (pw_and ((ha (F0 := F0) (H0 := H0) hX x).2.2 h'.1) pb)).impW fun σ H Q ⟨env, F, rs, k⟩ => ⟨env, F, rs, (KR.bind k).imp fun F1 H1 c e1 k1 => ?_⟩
        cases c with
        | true => exact iteT ⟨env, F1, rs.more e1, k1⟩
        | false => exact iteF (k1 F1 H1 (Ext.refl e1.sub))
      | [], h => exact Bool.noConfusion h
      | [_], h => exact Bool.noConfusion h
    | Or => exact Bool.noConfusion h
  | _ => exact Bool.noConfusion h
theorem se_or {a b : E} (ha : SE a) (hb : SE b) : SE (.or a b) := by
  intro X C k Φ cs clsA W F0 H0 hX x
  have kv : ∀ m, m.sub = .val → chk C m (.or a b) x = true → PE X x (tE X.K W F0 H0 (ev Φ cs (.or a b))) := fun m hm h => by
    cases x with
    | BoolOp op vs pos =>
      cases op with
      | Or =>
        match vs, h with
        | x :: y :: rest, h =>
          have h' : (chk C m.sub a x && (match (generalizing := false) rest with | [] => chk C m.sub b y | _ :: _ => chk C m.sub b (.BoolOp .Or (y :: rest) pos))) = true := h
          rw [hm, Bool.and_eq_true] at h'
          have pb : PE X (.BoolOp .Or (y :: rest) pos) (tE X.K W F0 H0 (ev Φ cs b)) := by
            cases rest with
            | nil => exact pe_one ((hb (F0 := F0) (H0 := H0) hX y).1 h'.2)
            | cons z r => exact (hb (F0 := F0) (H0 := H0) hX _).1 h'.2
          refine (pe_orT ((ha (F0 := F0) (H0 := H0) hX x).1 h'.1) pb).impW fun σ H Q ⟨env, F, rs, k⟩ => ⟨env, F, rs, (KR.bind k).imp fun F1 H1 d e1 k1 v r1 => ?_⟩
          rcases tru_ok_d (K := X.K) (F := F1) (H := H1) (d := d) rfl with q | ⟨c, q⟩
          · rw [q] at k1; exact k1.elim
          · rw [q] at k1
            refine ⟨c, rpO_tru e1.sub (.inl r1) q, ?_⟩
            cases c with
            | true => exact iteT (KE.same e1.sub k1 r1)
            | false => exact iteF ⟨env, F1, rs.more e1, k1⟩
        | [], h => exact Bool.noConfusion h
        | [_], h => exact Bool.noConfusion h
      | And => exact Bool.noConfusion h
    | _ => exact Bool.noConfusion h
  refine ⟨kv _ rfl, fun h => weak (kv _ rfl h), fun h => ?_⟩
  cases x with
  | BoolOp op vs pos =>
    cases op with
    | Or =>
      match vs, h with
      | x :: y :: rest, h =>
        have h' : (chk C .tst a x && (match (generalizing := false) rest with | [] => chk C .tst b y | _ :: _ => chk C .tst b (.BoolOp .Or (y :: rest) pos))) = true := h
        rw [Bool.and_eq_true] at h'
        have pb : PW X (.BoolOp .Or (y :: rest) pos) (tT X.K W F0 H0 (tst Φ cs b)) := by
          cases rest with
          | nil => exact pw_or1 ((hb (F0 := F0) (H0 := H0) hX y).2.2 h'.2)
          | cons z r => exact pw_of ((hb (F0 := F0) (H0 := H0) hX _).2.2 h'.2)
        refine (PW.pt (pw_or ((ha (F0 := F0) (H0 := H0) hX x).2.2 h'.1) pb)).impW fun σ H Q ⟨env, F, rs, k⟩ => ⟨env, F, rs, (KR.bind k).imp fun F1 H1 c e1 k1 => ?_⟩
        cases c with
        | true => exact iteT (k1 F1 H1 (Ext.refl e1.sub))
        | false => exact iteF ⟨env, F1, rs.more e1, k1⟩
      | [], h => exact Bool.noConfusion h
      | [_], h => exact Bool.noConfusion h
    | And => exact Bool.noConfusion h
  | _ => exact Bool.noConfusion h
theorem se_not {a : E} (ha : SE a) : SE (.not a) := by
  intro X C k Φ cs clsA W F0 H0 hX x
  have kv : ∀ m, m.sub = .val → chk C m (.not a) x = true → PE X x (tE X.K W F0 H0 (ev Φ cs (.not a))) := fun m hm h => by
    cases x with
    | UnaryOp op y pos =>
      cases op with
      | Not =>
        have h' : chk C m.sub a y = true := h
        rw [hm] at h'
        refine (pe_notT ((ha (F0 := F0) (H0 := H0) hX y).1 h')).impW fun σ H Q ⟨env, F, rs, k⟩ => ⟨env, F, rs, (KR.bind k).imp fun F1 H1 d e1 k1 v r1 => ?_⟩
        rcases tru_ok_d (K := X.K) (F := F1) (H := H1) (d := d) rfl with q | ⟨c, q⟩
        · rw [q] at k1; exact k1.elim
        · rw [q] at k1
          exact ⟨c, rpO_tru e1.sub (.inl r1) q, KE.same (d := .bool (!c)) e1.sub k1 (.bl _)⟩
      | _ => exact Bool.noConfusion h
    | _ => exact Bool.noConfusion h
  refine ⟨kv _ rfl, fun h => weak (kv _ rfl h), fun h => ?_⟩
  cases x with
  | UnaryOp op y pos =>
    cases op with
    | Not =>
      have h' : chk C .tst a y = true := h
      exact (pt_not ((ha (F0 := F0) (H0 := H0) hX y).2.2 h')).impW fun σ H Q ⟨env, F, rs, k⟩ => ⟨env, F, rs, (KR.bind k).imp fun F1 H1 c e1 k1 => k1 F1 H1 (Ext.refl e1.sub)⟩
    | _ => exact Bool.noConfusion h
  | _ => exact Bool.noConfusion h
theorem se_ife {t a b : E} (ht : SE t) (ha : SE a) (hb : SE b) : SE (.ife t a b) := by
  refine se_plain fun {X C k Φ cs clsA W F0 H0} hX m x h => ?_
  cases x with
  | IfExp t' y z pos =>
    have h' : (!m.isTst && chk C .tst t t' && chk C .val a y && chk C .val b z) = true := h
    rw [Bool.and_eq_true, Bool.and_eq_true] at h'
    obtain ⟨h1, h2⟩ := not_tst h'.1.1
    refine ⟨h1, (pe_ifExp ((ht (F0 := F0) (H0 := H0) hX t').2.2 h2) ((ha (F0 := F0) (H0 := H0) hX y).1 h'.1.2) ((hb (F0 := F0) (H0 := H0) hX z).1 h'.2)).impW fun σ H Q ⟨env, F, rs, k⟩ => ⟨env, F, rs, (KR.bind k).imp fun F1 H1 c e1 k1 => ?_⟩⟩
    cases c with
    | true => exact iteT ⟨env, F1, rs.more e1, k1⟩
    | false => exact iteF ⟨env, F1, rs.more e1, k1⟩
  | _ => exact Bool.noConfusion h

/-! ### places, slices -/
theorem plain_ix {C : Cfg} {m : Md} {e : E} {x : Expr} (h : chk C m e x = true) : PlainIx x := by
  intro o i
  cases x with
  | Slice a b c p =>
    cases e with
    | isi a tys =>
      cases tys with
      | nil => exact Bool.noConfusion h
      | cons t r => cases r <;> exact Bool.noConfusion h
    | _ => exact Bool.noConfusion h
  | _ => rfl
theorem ix_not_slice {C : Cfg} {m : Md} {a b : E} {x y : Expr} {pos : Pos} (h : chk C m (.ix a b) (.Subscript x y pos) = true) : chk C .opd a x = true ∧ chk C .val b y = true := by
  have h' : (chk C .opd a x && chk C .val b y) = true := h
  rw [Bool.and_eq_true] at h'
  exact h'
theorem se_ix {a b : E} (ha : SE a) (hb : SE b) : SE (.ix a b) := by
  refine se_truth (fun {X C k Φ cs clsA W F0 H0} hX m x h => ?_) fun Φ cs env => ?_
  · cases x with
    | Subscript x y pos =>
      obtain ⟨h1, h2⟩ := ix_not_slice h
      refine ⟨(pe_ix (ix_any (W := W) hX.room) ((ha (F0 := F0) (H0 := H0) hX x).2.1 h1) ((hb (F0 := F0) (H0 := H0) hX y).1 h2) (plain_ix h2)).impW fun σ H Q ⟨env, F, rs, k⟩ => ?_, fun _ => rfl⟩
      exact ⟨env, F, rs, (KR.bind k).imp fun F1 H1 d e1 k1 v r1 => ⟨env, F1, rs.more e1, (KR.bind k1).imp fun F2 H2 d2 e2 k2 v2 r2 => ⟨F2, d, d2, e2.sub, r1.mono e2, .inl r2, k2⟩⟩⟩
    | _ => exact Bool.noConfusion h
  · show (ev Φ cs a env).bind (fun x => (ev Φ cs b env).bind fun y => (itemD x y).bind truD) = _
    cases h1 : ev Φ cs a env with
    | ok d =>
      cases h2 : ev Φ cs b env with
      | ok d2 => show _ = ((ev Φ cs a env).bind (fun x => (ev Φ cs b env).bind fun y => itemD x y)).bind truD; rw [h1, h2]; rfl
      | exn c => show _ = ((ev Φ cs a env).bind (fun x => (ev Φ cs b env).bind fun y => itemD x y)).bind truD; rw [h1, h2]; rfl
      | stuck => show _ = ((ev Φ cs a env).bind (fun x => (ev Φ cs b env).bind fun y => itemD x y)).bind truD; rw [h1, h2]; rfl
    | exn c => show _ = ((ev Φ cs a env).bind (fun x => (ev Φ cs b env).bind fun y => itemD x y)).bind truD; rw [h1]; rfl
    | stuck => show _ = ((ev Φ cs a env).bind (fun x => (ev Φ cs b env).bind fun y => itemD x y)).bind truD; rw [h1]; rfl
/-- a slice's bound -/
def tP (K : PySem.W.Frag) (W : Nat → Hp → Prop) (F0 H0 : Hp) (g : Env → Res (Option Int)) : TO := fun σ H Q => ∃ env F, RS K F0 H0 F H σ env ∧ KR (fun _ H' o => Q o H') W F H (g env)
theorem po_of {X : Cx} {C : Cfg} {k : Nat} {Φ : Phi} {cs : Nat → Res D} {clsA : Nat → Addr} {W : Nat → Hp → Prop} {F0 H0 : Hp} (hX : XOk X C k Φ cs clsA W) {e : E} (he : SE e) {o : Option Expr}
    (h : (match (generalizing := false) o with | none => e.isAbs | some l => !e.isAbs && chk C .val e l) = true) : PO X o (tP X.K W F0 H0 fun env => optE e.isAbs (ev Φ cs e env)) := by
  cases o with
  | none =>
    refine ⟨fun pins s σ H Q I ⟨env, F, rs, k⟩ => po_none.run pins s σ H Q I ?_⟩
    rw [show e.isAbs = true from h] at k
    exact k F H (Ext.refl rs.ext.sub)
  | some l =>
    have h' : (!e.isAbs && chk C .val e l) = true := h
    rw [Bool.and_eq_true] at h'
    have ha : e.isAbs = false := by simpa using h'.1
    refine ⟨fun pins s σ H Q I ⟨env, F, rs, k⟩ => (po_some ((he (F0 := F0) (H0 := H0) hX l).1 h'.2)).run pins s σ H Q I ?_⟩
    rw [ha] at k
    refine ⟨env, F, rs, (KR.bind (f := optI) k).imp fun F1 H1 d e1 k1 v r1 => ?_⟩
    cases d with
    | int i =>
      cases r1
      exact ⟨i, rfl, k1 F1 H1 (Ext.refl e1.sub)⟩
    | _ => exact k1.elim
theorem se_slc {a lo hi : E} (ha : SE a) (hl : SE lo) (hh : SE hi) : SE (.slc a lo hi) := by
  refine se_plain fun {X C k Φ cs clsA W F0 H0} hX m x h => ?_
  cases x with
  | Subscript x y pos =>
    cases y with
    | Slice lo' hi' st p =>
      cases st with
      | none =>
        have h' : (!m.isTst && chk C .opd a x && (match (generalizing := false) lo' with | none => lo.isAbs | some l => !lo.isAbs && chk C .val lo l) && (match (generalizing := false) hi' with | none => hi.isAbs | some l => !hi.isAbs && chk C .val hi l)) = true := h
        rw [Bool.and_eq_true, Bool.and_eq_true] at h'
        obtain ⟨h1, h2⟩ := not_tst h'.1.1
        refine ⟨h1, (pe_slice (sl_any (W := W)) ((ha (F0 := F0) (H0 := H0) hX x).2.1 h2) (po_of (F0 := F0) (H0 := H0) hX hl h'.1.2) (po_of (F0 := F0) (H0 := H0) hX hh h'.2)).impW fun σ H Q ⟨env, F, rs, k⟩ => ?_⟩
        exact ⟨env, F, rs, (KR.bind k).imp fun F1 H1 d e1 k1 v r1 => ⟨env, F1, rs.more e1, (KR.bind k1).imp fun F2 H2 l e2 k2 => ⟨env, F2, (rs.more e1).more e2, (KR.bind k2).imp fun F3 H3 u e3 k3 => ⟨F3, d, e3.sub, (r1.mono e2).mono e3, k3⟩⟩⟩⟩
      | some _ => exact Bool.noConfusion h
    | _ => exact Bool.noConfusion h
  | _ => exact Bool.noConfusion h

/-! ### arguments -/
theorem star_of {x : Expr} {xs : List Expr} {env : PySem.Env} (h : notStar x = true) : starEach (x :: xs) env = (false, eval x env) :: starEach xs env := by
  cases x with
  | Starred _ _ => exact Bool.noConfusion h
  | _ => rfl
theorem se_rep {a b : E} (ha : SE a) (hb : SE b) : SE (.rep a b) := by
  refine se_plain fun {X C k Φ cs clsA W F0 H0} hX m x h => ?_
  cases x with
  | BinOp l op' r pos =>
    cases l with
    | List xs p0 =>
      match xs, op', h with
      | [x], .Mult, h =>
        have h' : (!m.isTst && chk C .val a x && notStar x && chk C .opd b r) = true := h
        simp only [Bool.and_eq_true] at h'
        obtain ⟨⟨⟨h1, h2⟩, h3⟩, h4⟩ := h'
        have PAx := pa_cons ((ha (F0 := F0) (H0 := H0) hX x).1 h2) (pa_nil (X := X)) (star_of h3)
        refine ⟨by simpa using h1, (pe_op op_rep (pe_lst PAx) ((hb (F0 := F0) (H0 := H0) hX r).2.1 h4)).impW fun σ H Q ⟨env, F, rs, k⟩ => ?_⟩
        refine ⟨env, F, rs, (KR.bind k).imp fun F1 H1 d e1 k1 v r1 => ⟨by show 1 ≤ sizeLine; decide, fun l n => ?_⟩⟩
        have ex : Ext F1 H1 F1 (upd H1 l (.lst [v])) := Ext.fresh e1.sub n
        refine ⟨env, F1, (rs.more e1).more ex, ((KR.bind k1).ext ex).imp fun F2 H2 d2 e2 k2 v2 r2 => ?_⟩
        cases d2 with
        | int j =>
          obtain rfl := r2.int
          obtain ⟨z, k3⟩ := KR.need k2
          rw [Bool.and_eq_true] at z
          have z1 := of_decide_eq_true z.1
          have z2 := of_decide_eq_true z.2
          refine ⟨l, j, [v], rfl, rfl, e2.h.lst upd_same, by omega, by omega, by show 1 * j.toNat ≤ 16777216; omega, fun p np => ?_⟩
          rw [flat_one]
          exact KE.new (d := .list (List.replicate j.toNat d)) e2.sub k3 np (rp_lst e2.sub np (rp_same (r1.mono e2.f) _))
        | _ => exact k2.elim
      | [], _, h => exact Bool.noConfusion h
      | _ :: _ :: _, _, h => exact Bool.noConfusion h
    | _ => exact Bool.noConfusion h
  | _ => exact Bool.noConfusion h
theorem no_star {C : Cfg} {m : Md} {env : PySem.Env} {pos : Pos} : ∀ {es : Es} {xs : List Expr}, chks C m es xs = true → (backTo pos (starEach xs env)).any (·.1) = false
  | .nil, [], _ => rfl
  | .cons e es, x :: xs, h => by
    have h' : (chk C m e x && notStar x && chks C m es xs) = true := h
    rw [Bool.and_eq_true, Bool.and_eq_true] at h'
    rw [star_of h'.1.2]
    exact no_star h'.2
  | .nil, _ :: _, h => Bool.noConfusion h
  | .cons _ _, [], h => Bool.noConfusion h
theorem ses_nil : SEs .nil := by
  intro X C k Φ cs clsA W F0 H0 hX xs
  cases xs with
  | nil =>
    refine ⟨fun _ => pa_nil.impW fun σ H Q ⟨env, F, rs, k⟩ => k F H (Ext.refl rs.ext.sub) [] .nil, fun _ => pa_nil.impW fun σ H Q ⟨env, F, rs, k⟩ => k F H (Ext.refl rs.ext.sub) [] .nil, fun _ => .inl ⟨rfl, rfl⟩⟩
  | cons x r => exact ⟨fun h => Bool.noConfusion h, fun h => Bool.noConfusion h, fun h => Bool.noConfusion h⟩
theorem ses_cons {e : E} {es : Es} (he : SE e) (hs : SEs es) : SEs (.cons e es) := by
  intro X C k Φ cs clsA W F0 H0 hX xs
  cases xs with
  | nil => exact ⟨fun h => Bool.noConfusion h, fun h => Bool.noConfusion h, fun h => Bool.noConfusion h⟩
  | cons x r =>
    have split : ∀ m, chks C m (.cons e es) (x :: r) = true → (chk C m e x = true ∧ notStar x = true) ∧ chks C m es r = true := fun m h => by
      have h' : (chk C m e x && notStar x && chks C m es r) = true := h
      rw [Bool.and_eq_true, Bool.and_eq_true] at h'
      exact h'
    refine ⟨fun h => ?_, fun h => ?_, fun h => ?_⟩
    · obtain ⟨⟨h1, h2⟩, h3⟩ := split _ h
      refine (pa_cons ((he (F0 := F0) (H0 := H0) hX x).1 h1) ((hs (F0 := F0) (H0 := H0) hX r).1 h3) (star_of h2)).impW fun σ H Q ⟨env, F, rs, k⟩ => ?_
      refine ⟨env, F, rs, (KR.bind k).imp fun F1 H1 d e1 k1 v r1 => ⟨env, F1, rs.more e1, (KR.bind k1).imp fun F2 H2 ds e2 k2 vs r2 => ?_⟩⟩
      exact k2 F2 H2 (Ext.refl e2.sub) _ (.cons (r1.mono e2.f) r2)
    · obtain ⟨⟨h1, h2⟩, h3⟩ := split _ h
      refine (pa_cons ((he (F0 := F0) (H0 := H0) hX x).2.1 h1) ((hs (F0 := F0) (H0 := H0) hX r).2.1 h3) (star_of h2)).impW fun σ H Q ⟨env, F, rs, k⟩ => ?_
      refine ⟨env, F, rs, (KR.bind k).imp fun F1 H1 d e1 k1 v r1 => ⟨env, F1, rs.more e1, (KR.bind k1).imp fun F2 H2 ds e2 k2 vs r2 => ?_⟩⟩
      exact k2 F2 H2 (Ext.refl e2.sub) _ (.cons (r1.mono e2) r2)
    · obtain ⟨⟨h1, h2⟩, h3⟩ := split _ h
      exact .inr ⟨x, r, e, es, rfl, rfl, (he (F0 := F0) (H0 := H0) hX x).2.2 h1⟩

/-! ### calls -/
theorem tst_call (Φ : Phi) (cs : Nat → Res D) (f : Nat) (es : Es) (env : Env) : tst Φ cs (.call f es) env = (ev Φ cs (.call f es) env).bind truD := by
  show (evs Φ cs es env).bind (fun ds => (Φ f ds).bind truD) = ((evs Φ cs es env).bind fun ds => Φ f ds).bind truD
  rw [bind_assoc]
theorem tst_blt (Φ : Phi) (cs : Nat → Res D) (b : Blt) (es : Es) (env : Env) : tst Φ cs (.blt b es) env = (ev Φ cs (.blt b es) env).bind truD := by
  show (evs Φ cs es env).bind (fun ds => (bltD b ds).bind truD) = ((evs Φ cs es env).bind fun ds => bltD b ds).bind truD
  rw [bind_assoc]
theorem se_call {f : Nat} {es : Es} (hs : SEs es) : SE (.call f es) := by
  refine se_truth (fun {X C k Φ cs clsA W F0 H0} hX m x h => ?_) fun Φ cs env => tst_call Φ cs f es env
  cases x with
  | Call fn args kws pos =>
    cases fn with
    | Name x p =>
      match args, kws, h with
      | e :: xs, [], h =>
        have h' : (decide (C.fns[f]? = some x) && glB C.sc x && plainN x && chks C .val es (e :: xs)) = true := h
        rw [Bool.and_eq_true, Bool.and_eq_true, Bool.and_eq_true] at h'
        obtain ⟨⟨⟨h1, h2⟩, h3⟩, h4⟩ := h'
        obtain ⟨fi, m1, m2, m3, m4, m5⟩ := hX.fns f x (of_decide_eq_true h1)
        have hst : notStar e = true ∧ (backTo pos (starEach xs X.env)).any (·.1) = false := by
          cases es with
          | nil => exact Bool.noConfusion h4
          | cons e' es' =>
            have h5 : (chk C .val e' e && notStar e && chks C .val es' xs) = true := h4
            rw [Bool.and_eq_true, Bool.and_eq_true] at h5
            exact ⟨h5.1.2, no_star h5.2⟩
        refine ⟨(pe_call m4 hX.room (hX.gl h2) m1 m2 m3 .nil hX.passes ((hs (F0 := F0) (H0 := H0) hX (e :: xs)).1 h4) (plainN_of h3).1 (star_of hst.1) hst.2).impW fun σ H Q ⟨env, F, rs, k⟩ => ?_, fun _ => rfl⟩
        refine ⟨env, F, rs, (KR.bind k).imp fun F1 H1 ds e1 k1 vs r1 => ?_⟩
        show spD X.K clsA fi.ps.length (Φ f) (vs ++ []) H1 Q (EXof clsA W)
        rw [List.append_nil]
        by_cases hl : ds.length = fi.ps.length
        · exact ⟨r1.length.trans hl, F1, ds, e1.sub, r1, (rs.more e1).tab, k1.impX fun c H' q => ⟨c, rfl, rfl, q⟩⟩
        · rw [m5 ds hl] at k1
          exact k1.elim
      | [], _, h => exact Bool.noConfusion h
      | _ :: _, _ :: _, h => exact Bool.noConfusion h
    | _ => exact Bool.noConfusion h
  | _ => exact Bool.noConfusion h
end MW

set_option maxRecDepth 100000
set_option maxHeartbeats 1000000
/-! Part 2h: built-ins as calls, loops' items, comprehensions. -/
namespace MW
open PySem PySem.Spec PyProof.Rows L2
open Res
variable [Lam]

theorem chk_notStar {C : Cfg} {m : Md} {e : E} {x : Expr} (h : chk C m e x = true) : notStar x = true := by
  cases x with
  | Starred a p =>
    cases e with
    | isi a tys =>
      cases tys with
      | nil => exact Bool.noConfusion h
      | cons t r => cases r <;> exact Bool.noConfusion h
    | _ => exact Bool.noConfusion h
  | _ => rfl
theorem chks_first {C : Cfg} {m : Md} {es : Es} {e : Expr} {xs : List Expr} {env : PySem.Env} {pos : Pos} (h : chks C m es (e :: xs) = true) : starEach (e :: xs) env = (false, eval e env) :: starEach xs env ∧ (backTo pos (starEach xs env)).any (·.1) = false := by
  cases es with
  | nil => exact Bool.noConfusion h
  | cons e' es' =>
    have h5 : (chk C m e' e && notStar e && chks C m es' xs) = true := h
    rw [Bool.and_eq_true, Bool.and_eq_true] at h5
    exact ⟨star_of h5.1.2, no_star h5.2⟩
section
variable {X : Cx} {C : Cfg} {k : Nat} {Φ : Phi} {cs : Nat → Res D} {clsA : Nat → Addr} {W : Nat → Hp → Prop} {F0 H0 : Hp}
theorem XOk.no (hX : XOk X C k Φ cs clsA W) {x : Str} (h : bltNames.contains x = true) : X.mg x = none := hX.blt x (by simpa using h)
theorem pe_blt (hX : XOk X C k Φ cs clsA W) {b : Blt} {e : Expr} {xs : List Expr} {p pos : Pos} {t : TA} (hg : glB C.sc (bltName b) = true) (ha : PA X (e :: xs) t) (h1 : starEach (e :: xs) X.env = (false, eval e X.env) :: starEach xs X.env)
    (h2 : (backTo pos (starEach xs X.env)).any (·.1) = false) : PE X (.Call (.Name (bltName b) p) (e :: xs) [] pos) (tCB (rO1 X.K W (bltD b)) t) := by
  cases b with
  | len => exact pe_callB cb_len (hX.gl hg) (hX.no (by decide +kernel)) (by decide +kernel) ha (by decide +kernel) (by decide +kernel) h1 h2
  | min2 => exact pe_callB (cb_min hX.calm) (hX.gl hg) (hX.no (by decide +kernel)) (by decide +kernel) ha (by decide +kernel) (by decide +kernel) h1 h2
  | max2 => exact pe_callB (cb_max hX.calm) (hX.gl hg) (hX.no (by decide +kernel)) (by decide +kernel) ha (by decide +kernel) (by decide +kernel) h1 h2
  | all => exact pe_callB (cb_all hX.calm) (hX.gl hg) (hX.no (by decide +kernel)) (by decide +kernel) ha (by decide +kernel) (by decide +kernel) h1 h2
  | tuple => exact pe_callTy ct_tuple (hX.gl hg) (hX.no (by decide +kernel)) (by decide +kernel) ha (by decide +kernel) (by decide +kernel) h1 h2
  | list => exact pe_callTy (ct_list hX.calm) (hX.gl hg) (hX.no (by decide +kernel)) (by decide +kernel) ha (by decide +kernel) (by decide +kernel) h1 h2
  | int => exact pe_callTy ct_int (hX.gl hg) (hX.no (by decide +kernel)) (by decide +kernel) ha (by decide +kernel) (by decide +kernel) h1 h2
  | sorted => exact pe_callB cb_sorted (hX.gl hg) (hX.no (by decide +kernel)) (by decide +kernel) ha (by decide +kernel) (by decide +kernel) h1 h2
end
theorem se_blt {b : Blt} {es : Es} (hs : SEs es) : SE (.blt b es) := by
  refine se_truth (fun {X C k Φ cs clsA W F0 H0} hX m x h => ?_) fun Φ cs env => tst_blt Φ cs b es env
  cases x with
  | Call fn args kws pos =>
    cases fn with
    | Name x p =>
      match args, kws, h with
      | e :: xs, [], h =>
        have h' : (decide (x = bltName b) && glB C.sc x && chks C .opd es (e :: xs)) = true := h
        rw [Bool.and_eq_true, Bool.and_eq_true] at h'
        obtain ⟨⟨h1, h2⟩, h3⟩ := h'
        have e0 := of_decide_eq_true h1
        subst e0
        obtain ⟨s1, s2⟩ := chks_first (env := X.env) (pos := pos) h3
        refine ⟨(pe_blt (W := W) hX h2 ((hs (F0 := F0) (H0 := H0) hX (e :: xs)).2.1 h3) s1 s2).impW fun σ H Q ⟨env, F, rs, k⟩ => ?_, fun _ => rfl⟩
        exact ⟨env, F, rs, (KR.bind k).imp fun F1 H1 ds e1 k1 vs r1 => ⟨F1, ds, e1.sub, r1, k1⟩⟩
      | [], _, h => exact Bool.noConfusion h
      | _ :: _, _ :: _, h => exact Bool.noConfusion h
    | _ => exact Bool.noConfusion h
  | _ => exact Bool.noConfusion h
theorem se_isi {a : E} {tys : List Ty} (ha : SE a) : SE (.isi a tys) := by
  refine se_truth (fun {X C k Φ cs clsA W F0 H0} hX m x h => ?_) fun Φ cs env => ?_
  · match tys, h with
    | [t], h =>
      cases x with
      | Call fn args kws pos =>
        cases fn with
        | Name x p =>
          cases args with
          | nil => exact Bool.noConfusion h
          | cons y r1 =>
            cases r1 with
            | nil => exact Bool.noConfusion h
            | cons z r2 =>
              cases z with
              | Name T p2 =>
                cases r2 with
                | nil =>
                  cases kws with
                  | nil =>
                      have h' : (decide (x = "isinstance") && glB C.sc x && chk C .opd a y && decide (T = Str.ofString (tyName t)) && glB C.sc T) = true := h
                      rw [Bool.and_eq_true, Bool.and_eq_true, Bool.and_eq_true, Bool.and_eq_true] at h'
                      obtain ⟨⟨⟨⟨h1, h2⟩, h3⟩, h4⟩, h5⟩ := h'
                      have e0 := of_decide_eq_true h1
                      subst e0
                      have e0 := of_decide_eq_true h4
                      subst e0
                      have hT : PE X (.Name (Str.ofString (tyName t)) p2) (tC (.ty (tyName t))) := by
                        cases t with
                        | int => exact pe_bltn (hX.gl h5) (hX.no (by decide +kernel)) (by decide +kernel) rfl (by decide +kernel) (by decide +kernel)
                        | bool => exact pe_bltn (hX.gl h5) (hX.no (by decide +kernel)) (by decide +kernel) rfl (by decide +kernel) (by decide +kernel)
                        | tuple => exact pe_bltn (hX.gl h5) (hX.no (by decide +kernel)) (by decide +kernel) rfl (by decide +kernel) (by decide +kernel)
                        | str => exact pe_bltn (hX.gl h5) (hX.no (by decide +kernel)) (by decide +kernel) rfl (by decide +kernel) (by decide +kernel)
                        | list => exact pe_bltn (hX.gl h5) (hX.no (by decide +kernel)) (by decide +kernel) rfl (by decide +kernel) (by decide +kernel)
                      refine ⟨(pe_callB call_isi (hX.gl h2) (hX.no (by decide +kernel)) (by decide +kernel) (pa_cons ((ha (F0 := F0) (H0 := H0) hX y).2.1 h3) (pa_cons hT pa_nil) (star_of (chk_notStar h3))) (by decide +kernel) (by decide +kernel) (star_of (chk_notStar h3)) rfl).impW fun σ H Q ⟨env, F, rs, k⟩ => ?_, fun _ => rfl⟩
                      refine ⟨env, F, rs, (KR.bind k).imp fun F1 H1 d e1 k1 v r1 => ?_⟩
                      refine ⟨v, .ty (tyName t), _, _, tyB d t, rfl, .ty _, tyx_of e1.sub r1, kit_ty (kit_d d t), ?_⟩
                      have e2 : ([t].any fun t => tyB d t) = tyB d t := by rw [List.any_cons, List.any_nil, Bool.or_false]
                      rw [e2] at k1
                      exact KE.same (d := .bool (tyB d t)) e1.sub k1 (.bl _)
                  | cons _ _ => exact Bool.noConfusion h
                | cons _ _ => exact Bool.noConfusion h
              | _ => exact Bool.noConfusion h
        | _ => exact Bool.noConfusion h
      | _ => exact Bool.noConfusion h
    | [], h => cases x <;> exact Bool.noConfusion h
    | _ :: _ :: _, h => cases x <;> exact Bool.noConfusion h
  · show (ev Φ cs a env).bind (fun x => .ok (tys.any fun t => tyB x t)) = ((ev Φ cs a env).bind (fun x => .ok (.bool (tys.any fun t => tyB x t)))).bind truD
    rw [bind_assoc]; rfl

/-! ### what a loop walks -/
def Walks (K : PySem.W.Frag) (J : It) (F1 B : Hp) (ds : List D) : Prop := ∀ F' H', Same F1 F' → Same F' H' → SameN B H' →
  (∀ i, i < ds.length → J.go i H') ∧ J.stop ds.length H' ∧ ∀ i d x H2, ds[i]? = some d → J.yld i H' x H2 → ∃ F2, Ext F' H' F2 H2 ∧ Rp K F2 x d
section
variable {K : PySem.W.Frag} {F1 B : Hp}
theorem walks_lst {a : Addr} {xs : List V} {ds : List D} (h : SqL K B a xs) (r : RpAll K F1 xs ds) : Walks K (Itl K a) F1 B ds := by
  intro F' H' s1 s2 s3
  have hq : SqL K H' a xs := s3.seq h
  refine ⟨fun i hi => ?_, ⟨xs, hq, Nat.le_of_eq r.length⟩, fun i d x H2 hd y => ?_⟩
  · rw [← r.length] at hi
    exact ⟨xs, xs[i], hq, by simp [hi]⟩
  · obtain ⟨e, y⟩ := y
    subst e
    obtain ⟨v, h1, h2⟩ := r.get hd
    have e2 := y xs hq
    rw [h1] at e2
    cases e2
    exact ⟨F', Ext.refl s2, h2.mono s1⟩
theorem walks_tup {a : Addr} {xs : List V} {ds : List D} (h : SqT K B a xs) (r : RpAll K F1 xs ds) : Walks K (Itt K a) F1 B ds := by
  intro F' H' s1 s2 s3
  have hq : SqT K H' a xs := s3.sqt h
  refine ⟨fun i hi => ?_, ⟨xs, hq, Nat.le_of_eq r.length⟩, fun i d x H2 hd y => ?_⟩
  · rw [← r.length] at hi
    exact ⟨xs, xs[i], hq, by simp [hi]⟩
  · obtain ⟨e, y⟩ := y
    subst e
    obtain ⟨v, h1, h2⟩ := r.get hd
    have e2 := y xs hq
    rw [h1] at e2
    cases e2
    exact ⟨F', Ext.refl s2, h2.mono s1⟩
theorem walks_str (z : Str) : Walks K (Its z) F1 B (z.cps.toList.map chD) := by
  intro F' H' s1 s2 s3
  refine ⟨fun i hi => ?_, ?_, fun i d x H2 hd y => ?_⟩
  · rw [List.length_map, Array.length_toList] at hi
    exact hi
  · show z.cps.size ≤ _
    rw [List.length_map, Array.length_toList]
    exact Nat.le_refl _
  · obtain ⟨e, c, hc, rfl⟩ := y
    subst e
    rw [List.getElem?_map, Array.getElem?_toList, hc] at hd
    cases hd
    exact ⟨F', Ext.refl s2, .str _⟩
theorem walks_range (lo : Int) (n : Nat) : Walks K (Itr lo n) F1 B ((List.range n).map fun i => .int (lo + (i : Nat))) := by
  intro F' H' s1 s2 s3
  refine ⟨fun i hi => ?_, ?_, fun i d x H2 hd y => ?_⟩
  · rw [List.length_map, List.length_range] at hi
    exact hi
  · show n ≤ _
    rw [List.length_map, List.length_range]
    exact Nat.le_refl _
  · obtain ⟨e, y⟩ := y
    subst e
    subst y
    have hi : i < n := by
      have := (List.getElem?_eq_some_iff.mp hd).1
      rwa [List.length_map, List.length_range] at this
    rw [List.getElem?_map, List.getElem?_range hi] at hd
    cases hd
    exact ⟨F', Ext.refl s2, .int _⟩
theorem walks_rev {a : Addr} {xs : List V} {ds : List D} (h : SqL K B a xs) (r : RpAll K F1 xs ds) : Walks K (Itv K a xs.length) F1 B ds.reverse := by
  intro F' H' s1 s2 s3
  have hq : SqL K H' a xs := s3.seq h
  have hl := r.length
  refine ⟨fun i hi => ?_, ?_, fun i d x H2 hd y => ?_⟩
  · rw [List.length_reverse, ← hl] at hi
    exact ⟨hi, xs, xs[xs.length - 1 - i], hq, by simp⟩
  · show xs.length ≤ _
    rw [List.length_reverse]; omega
  · obtain ⟨e, y⟩ := y
    subst e
    have hi : i < ds.length := by
      have := (List.getElem?_eq_some_iff.mp hd).1
      rwa [List.length_reverse] at this
    rw [List.getElem?_reverse hi] at hd
    obtain ⟨v, h1, h2⟩ := r.get hd
    have e2 := y xs hq
    rw [hl, h1] at e2
    cases e2
    exact ⟨F', Ext.refl s2, h2.mono s1⟩
theorem enum_get : ∀ (ds : List D) (n i : Nat) (d : D), (enumFrom n ds)[i]? = some d → ∃ x, ds[i]? = some x ∧ d = .tuple [.int ((n + i : Nat) : Int), x]
  | [], _, _, _, h => by simp [enumFrom] at h
  | x :: r, n, 0, d, h => by
    have h' : some (PyData.tuple [.int n, x]) = some d := h
    cases h'
    exact ⟨x, rfl, rfl⟩
  | x :: r, n, i + 1, d, h => by
    have h' : (enumFrom (n + 1) r)[i]? = some d := h
    obtain ⟨y, h1, h2⟩ := enum_get r (n + 1) i d h'
    refine ⟨y, h1, ?_⟩
    rw [h2]
    have e : n + 1 + i = n + (i + 1) := by omega
    rw [e]
theorem enum_len : ∀ (ds : List D) (n : Nat), (enumFrom n ds).length = ds.length
  | [], _ => rfl
  | x :: r, n => by
    show (enumFrom (n + 1) r).length + 1 = r.length + 1
    rw [enum_len r]
theorem walks_enum {a : Addr} {xs : List V} {ds : List D} (h : SqL K B a xs) (r : RpAll K F1 xs ds) : Walks K (Ite K a) F1 B (enumFrom 0 ds) := by
  intro F' H' s1 s2 s3
  have hq : SqL K H' a xs := s3.seq h
  have hl := r.length
  refine ⟨fun i hi => ?_, ⟨xs, hq, ?_⟩, fun i d x H2 hd y => ?_⟩
  · rw [enum_len, ← hl] at hi
    exact ⟨xs, xs[i], hq, by simp [hi]⟩
  · rw [enum_len, hl]
    exact Nat.le_refl _
  · obtain ⟨T, x', rfl, n, rfl, y⟩ := y
    obtain ⟨z, h1, rfl⟩ := enum_get ds 0 i d hd
    obtain ⟨v, h2, h3⟩ := r.get h1
    have e2 := y xs hq
    rw [h2] at e2
    cases e2
    refine ⟨upd F' T (.tup [.int ((i : Nat) : Int), x']), Ext.add s2 n, ?_⟩
    have e : ((0 + i : Nat) : Int) = ((i : Nat) : Int) := by omega
    rw [e]
    exact rp_tup s2 n (.cons (.int _) (.cons (h3.mono s1) .nil))
theorem walks_enumT {a : Addr} {xs : List V} {ds : List D} (h : SqT K B a xs) (r : RpAll K F1 xs ds) : Walks K (IteT K a) F1 B (enumFrom 0 ds) := by
  intro F' H' s1 s2 s3
  have hq : SqT K H' a xs := s3.sqt h
  have hl := r.length
  refine ⟨fun i hi => ?_, ⟨xs, hq, ?_⟩, fun i d x H2 hd y => ?_⟩
  · rw [enum_len, ← hl] at hi
    exact ⟨xs, xs[i], hq, by simp [hi]⟩
  · rw [enum_len, hl]
    exact Nat.le_refl _
  · obtain ⟨T, x', rfl, n, rfl, y⟩ := y
    obtain ⟨z, h1, rfl⟩ := enum_get ds 0 i d hd
    obtain ⟨v, h2, h3⟩ := r.get h1
    have e2 := y xs hq
    rw [h2] at e2
    cases e2
    refine ⟨upd F' T (.tup [.int ((i : Nat) : Int), x']), Ext.add s2 n, ?_⟩
    have e : ((0 + i : Nat) : Int) = ((i : Nat) : Int) := by omega
    rw [e]
    exact rp_tup s2 n (.cons (.int _) (.cons (h3.mono s1) .nil))
end

/-- strong: the walk stands as long as F stands; weak: as long as H stands -/
def tI (K : PySem.W.Frag) (W : Nat → Hp → Prop) (F0 H0 : Hp) (strong : Bool) (g : Env → Res (List D)) : TI := fun σ H R => ∃ env F, RS K F0 H0 F H σ env ∧
  KR (fun F1 H1 ds => ∀ J, Walks K J F1 (if strong then F1 else H1) ds → R J H1) W F H (g env)
theorem _root_.L2.PI.impW {X : Cx} {tg it : Expr} {w w' : TI} (h : PI X tg it w) (q : ∀ σ H R, w' σ H R → w σ H R) : PI X tg it w' := ⟨fun pins s σ H R I x => h.run pins s σ H R I (q σ H R x)⟩
theorem pi_or {X : Cx} {tg it : Expr} {w w' : TI} (h : PI X tg it w) (h' : PI X tg it w') : PI X tg it (fun σ H R => w σ H R ∨ w' σ H R) := ⟨fun pins s σ H R I x => x.elim (h.run pins s σ H R I) (h'.run pins s σ H R I)⟩
theorem rd_base {F H : Hp} {a : Addr} {u : HO} (b : Bool) (h : Rd F a u) (s : Same F H) : Rd (if b then F else H) a u := by
  cases b with
  | true => exact h
  | false => exact Same.rd s h
theorem sq_base {K : PySem.W.Frag} {F H : Hp} {a : Addr} {u : List V} (b : Bool) (h : SqT K F a u) (s : Same F H) : SqT K (if b then F else H) a u := by
  cases b with
  | true => exact h
  | false => exact Same.sqt s h
/-- an operand of the kind asked -/
def RpM (strong : Bool) (K : PySem.W.Frag) (F H : Hp) (v : V) (d : D) : Prop := if strong then Rp K F v d else RpO K F H v d
theorem RpM.o {strong : Bool} {K : PySem.W.Frag} {F H : Hp} {v : V} {d : D} (h : RpM strong K F H v d) : RpO K F H v d := by
  cases strong with
  | true => exact .inl h
  | false => exact h
theorem RpM.lst {strong : Bool} {K : PySem.W.Frag} {F H : Hp} {v : V} {ds : List D} (s : Same F H) (h : RpM strong K F H v (.list ds)) : ∃ a xs, v = .ref a ∧ SqL K (if strong then F else H) a xs ∧ RpAll K F xs ds := by
  cases strong with
  | true =>
    cases (show Rp K F v (.list ds) from h) with
    | lst h1 h2 => exact ⟨_, _, rfl, h1, h2⟩
  | false => exact RpO.lst s h
theorem RpM.tup {strong : Bool} {K : PySem.W.Frag} {F H : Hp} {v : V} {ds : List D} (s : Same F H) (h : RpM strong K F H v (.tuple ds)) : ∃ a xs, v = .ref a ∧ SqT K (if strong then F else H) a xs ∧ RpAll K F xs ds := by
  obtain ⟨a, xs, h1, h2, h3, h4⟩ := h.o.tup s
  exact ⟨a, xs, h1, sq_base strong h4 s, h3⟩
def tM (strong : Bool) (K : PySem.W.Frag) (W : Nat → Hp → Prop) (F0 H0 : Hp) (g : Env → Res D) : TE := fun σ H Q => ∃ env F, RS K F0 H0 F H σ env ∧ KR (fun F' H' d => ∀ v, RpM strong K F' H' v d → Q v H') W F H (g env)
def mdOf (strong : Bool) : Md := if strong then .val else .opd
theorem pe_m {X : Cx} {C : Cfg} {k : Nat} {Φ : Phi} {cs : Nat → Res D} {clsA : Nat → Addr} {W : Nat → Hp → Prop} {F0 H0 : Hp} (hX : XOk X C k Φ cs clsA W) {e : E} (he : SE e) {x : Expr} (strong : Bool) (h : chk C (mdOf strong) e x = true) : PE X x (tM strong X.K W F0 H0 (ev Φ cs e)) := by
  cases strong with
  | true => exact (he (F0 := F0) (H0 := H0) hX x).1 h
  | false => exact (he (F0 := F0) (H0 := H0) hX x).2.1 h
end MW

set_option maxRecDepth 100000
set_option maxHeartbeats 1000000
/-! Part 2x: three comparisons in a row, slices with a step, len(set(..)), methods. -/
namespace MW
open PySem PySem.Spec PyProof.Rows L2
open Res
variable [Lam]

/-! ### a op1 b op2 c op3 d, as a test -/
section
variable {X : Cx} {a b c d : Expr} {ta tb tc td : TE} {pos : Pos}
def tChain3 (r r' r'' : R2) (ta tb tc td : TE) : TT := fun σ H Q => ta σ H fun x H1 => tb σ H1 fun y H2 => r x y H2 fun z H3 => ∃ k, z = .bl k ∧
  (if k = true then tc σ H3 fun w H4 => r' y w H4 fun z2 H5 => ∃ k2, z2 = .bl k2 ∧ (if k2 = true then td σ H5 fun u H6 => r'' w u H6 fun z3 H7 => ∃ k3, z3 = .bl k3 ∧ Q k3 H7 else Q false H5) else Q false H3)
theorem pt_chain3 {op op' op'' : CmpOp} {r r' r'' : R2} (ho : OpR X (compareOp op) r) (ho' : OpR X (compareOp op') r') (ho'' : OpR X (compareOp op'') r'') (ha : PE X a ta) (hb : PE X b tb) (hc : PE X c tc) (hd : PE X d td)
    (hm : lastMarks [op, op', op''] [b, c, d] = false) : PT X (.Compare a [op, op', op''] [b, c, d] pos) (tChain3 r r' r'' ta tb tc td) := by
  refine ⟨fun pins s σ H Q I h => ?_⟩
  refine isTrue_chain (thn (ha.run pins s σ H _ I h) fun v s1 ⟨x, H1, I1, r1, q1⟩ => test_link (thn (hb.run pins s1 σ H1 _ I1 q1) fun u s2 ⟨y, H2, I2, r2, q2⟩ =>
    thn (ho pins s2 σ H2 x y v u _ I2 r1 r2 q2) fun dd s3 ⟨z, H3, I3, r3, k, e, q3⟩ => ?_)) hm
  subst e
  cases r3
  refine wpAny_truthy_bool ?_
  cases k with
  | false => exact ite_ff ⟨H3, I3, q3⟩
  | true =>
    refine ite_tt (test_link (thn (hc.run pins s3 σ H3 _ I3 q3) fun w' s4 ⟨z', H4, I4, r4, q4⟩ => thn (ho' pins s4 σ H4 y z' u w' _ I4 r2 r4 q4) fun d' s5 ⟨z2, H5, I5, r5, k2, e2, q5⟩ => ?_))
    subst e2
    cases r5
    refine wpAny_truthy_bool ?_
    cases k2 with
    | false => exact ite_ff ⟨H5, I5, q5⟩
    | true =>
      refine ite_tt (test_last (thn (hd.run pins s5 σ H5 _ I5 q5) fun w2 s6 ⟨z6, H6, I6, r6, q6⟩ => thn (ho'' pins s6 σ H6 z' z6 w' w2 _ I6 r4 r6 q6) fun d7 s7 ⟨z7, H7, I7, r7, k7, e7, q7⟩ => ?_))
      subst e7
      cases r7
      exact wpAny_truthy_bool ⟨H7, I7, q7⟩
end
theorem se_chain3 {op op2 op3 : CmpOp} {a b c d : E} (ha : SE a) (hb : SE b) (hc : SE c) (hd : SE d) : SE (.chain3 op op2 op3 a b c d) := by
  intro X C k Φ cs clsA W F0 H0 hX x
  have key : ∀ m, chk C m (.chain3 op op2 op3 a b c d) x = true → m.isTst = true ∧ PT X x (tT X.K W F0 H0 (tst Φ cs (.chain3 op op2 op3 a b c d))) := fun m h => by
    cases x with
    | Compare l ops rs' pos =>
      match ops, rs', h with
      | [o1, o2, o3], [r, t, w], h =>
        have h' : (m.isTst && decide (op = o1) && decide (op2 = o2) && decide (op3 = o3) && chk C .opd a l && chk C .opd b r && chk C .opd c t && chk C .opd d w) = true := h
        simp only [Bool.and_eq_true] at h'
        obtain ⟨⟨⟨⟨⟨⟨⟨h0, h1⟩, h2⟩, h3⟩, h4⟩, h5⟩, h6⟩, h7⟩ := h'
        have e := of_decide_eq_true h1
        subst e
        have e := of_decide_eq_true h2
        subst e
        have e := of_decide_eq_true h3
        subst e
        refine ⟨h0, (pt_chain3 (cmp_any (W := W) hX.room op) (cmp_any (W := W) hX.room op2) (cmp_any (W := W) hX.room op3) ((ha (F0 := F0) (H0 := H0) hX l).2.1 h4) ((hb (F0 := F0) (H0 := H0) hX r).2.1 h5) ((hc (F0 := F0) (H0 := H0) hX t).2.1 h6) ((hd (F0 := F0) (H0 := H0) hX w).2.1 h7) ((not_set h7).1 op3)).impW fun σ H Q ⟨env, F, rs, k⟩ => ?_⟩
        refine ⟨env, F, rs, (KR.bind k).imp fun F1 H1 d1 e1 k1 v r1 => ⟨env, F1, rs.more e1, (KR.bind k1).imp fun F2 H2 d2 e2 k2 v2 r2 => ⟨F2, d1, d2, e2.sub, r1.mono e2, r2, (KR.bind k2).imp fun F3 H3 d3 e3 k3 v3 r3 => ?_⟩⟩⟩
        cases d3 with
        | bool b3 =>
          cases r3
          refine ⟨b3, rfl, ?_⟩
          cases b3 with
          | true =>
            have rs3 := ((rs.more e1).more e2).more e3
            replace k3 : KT W F3 H3 ((ev Φ cs c env).bind fun z => (cmpD op2 d2 z).bind fun r2 => (boolD r2).bind fun k2 => match k2 with
              | true => (ev Φ cs d env).bind fun u => (cmpD op3 z u).bind boolD
              | false => .ok false) Q := k3
            refine iteT ⟨env, F3, rs3, (KR.bind k3).imp fun F4 H4 d4 e4 k4 v4 r4 => ⟨F4, d2, d4, e4.sub, (r2.mono e3).mono e4, r4, (KR.bind k4).imp fun F5 H5 d5 e5 k5 v5 r5 => ?_⟩⟩
            cases d5 with
            | bool b5 =>
              cases r5
              refine ⟨b5, rfl, ?_⟩
              cases b5 with
              | true =>
                replace k5 : KT W F5 H5 ((ev Φ cs d env).bind fun u => (cmpD op3 d4 u).bind boolD) Q := k5
                refine iteT ⟨env, F5, (rs3.more e4).more e5, (KR.bind k5).imp fun F6 H6 d6 e6 k6 v6 r6 => ⟨F6, d4, d6, e6.sub, (r4.mono e5).mono e6, r6, (KR.bind k6).imp fun F7 H7 d7 e7 k7 v7 r7 => ?_⟩⟩
                cases d7 with
                | bool b7 =>
                  cases r7
                  exact ⟨b7, rfl, k7 F7 H7 (Ext.refl e7.sub)⟩
                | _ => exact k7.elim
              | false => exact iteF (k5 F5 H5 (Ext.refl e5.sub))
            | _ => exact k5.elim
          | false => exact iteF (k3 F3 H3 (Ext.refl e3.sub))
        | _ => exact k3.elim
      | [], _, h => exact Bool.noConfusion h
      | [_], _, h => exact Bool.noConfusion h
      | [_, _], _, h => exact Bool.noConfusion h
      | [_, _, _], [], h => exact Bool.noConfusion h
      | [_, _, _], [_], h => exact Bool.noConfusion h
      | [_, _, _], [_, _], h => exact Bool.noConfusion h
      | [_, _, _], _ :: _ :: _ :: _ :: _, h => exact Bool.noConfusion h
      | _ :: _ :: _ :: _ :: _, _, h => exact Bool.noConfusion h
    | _ => exact Bool.noConfusion h
  exact ⟨fun h => Bool.noConfusion (key _ h).1, fun h => Bool.noConfusion (key _ h).1, fun h => (key _ h).2⟩

/-! ### slices with a step, of a tuple -/
def pickV {α : Type} (xs : List α) (c : Int) : List α := (List.range (Builtin.Slice.slicePlaces (Builtin.Slice.sliceAdjust none none c xs.length).1 (Builtin.Slice.sliceAdjust none none c xs.length).2 c)).filterMap fun (k : Nat) => xs[((Builtin.Slice.sliceAdjust none none c xs.length).1 + (k : Int) * c).toNat]?
theorem adj_neg (n : Nat) : Builtin.Slice.sliceAdjust none none (-1) (n : Int) = ((n : Int) - 1, -1) := by
  unfold Builtin.Slice.sliceAdjust; rfl
theorem adj_two (n : Nat) : Builtin.Slice.sliceAdjust none none 2 (n : Int) = (0, (n : Int)) := by
  unfold Builtin.Slice.sliceAdjust; rfl
theorem plc_neg (n : Nat) : Builtin.Slice.slicePlaces ((n : Int) - 1) (-1) (-1) = n := by
  unfold Builtin.Slice.slicePlaces
  rw [if_neg (by decide)]
  by_cases h : 0 < n
  · rw [if_pos (by omega)]
    have e : ((n : Int) - 1 - -1 - 1) / (- -1) = (n : Int) - 1 := by
      rw [show (- -1 : Int) = 1 by decide, Int.ediv_one]; omega
    rw [e]; omega
  · rw [if_neg (by omega)]; omega
theorem plc_two (n : Nat) : Builtin.Slice.slicePlaces 0 (n : Int) 2 = (n + 1) / 2 := by
  unfold Builtin.Slice.slicePlaces
  rw [if_pos (by decide)]
  by_cases h : 0 < n
  · rw [if_pos (by omega)]; omega
  · rw [if_neg (by omega)]; omega
theorem fm_self {α : Type} : ∀ ys : List α, (List.range ys.length).filterMap (fun k => ys[k]?) = ys
  | [] => rfl
  | y :: r => by
    rw [List.length_cons, List.range_succ_eq_map, List.filterMap_cons, List.getElem?_cons_zero]
    simp only [List.filterMap_map]
    have e : ((fun k => (y :: r)[k]?) ∘ Nat.succ) = fun k => r[k]? := by
      funext k
      exact List.getElem?_cons_succ
    rw [e, fm_self r]
theorem fm_congr {α β : Type} {f g : α → Option β} : ∀ {l : List α}, (∀ x ∈ l, f x = g x) → l.filterMap f = l.filterMap g
  | [], _ => rfl
  | x :: r, h => by
    rw [List.filterMap_cons, List.filterMap_cons, h x List.mem_cons_self, fm_congr fun y hy => h y (List.mem_cons_of_mem _ hy)]
theorem pick_neg {α : Type} (xs : List α) : pickV xs (-1) = xs.reverse := by
  unfold pickV
  rw [adj_neg]
  show (List.range (Builtin.Slice.slicePlaces ((xs.length : Int) - 1) (-1) (-1))).filterMap (fun (k : Nat) => xs[((xs.length : Int) - 1 + (k : Int) * -1).toNat]?) = _
  rw [plc_neg]
  have e := fm_self xs.reverse
  rw [List.length_reverse] at e
  refine Eq.trans (fm_congr fun k hk => ?_) e
  have hk' : k < xs.length := List.mem_range.mp hk
  rw [List.getElem?_reverse hk']
  congr 1
  omega
theorem evens_len {α : Type} : ∀ xs : List α, (evens xs).length = (xs.length + 1) / 2
  | [] => by show 0 = (0 + 1) / 2; decide
  | [x] => by show 1 = (1 + 1) / 2; decide
  | x :: y :: r => by
    show (evens r).length + 1 = (r.length + 1 + 1 + 1) / 2
    rw [evens_len r]; omega
theorem evens_get {α : Type} : ∀ (xs : List α) (k : Nat), (evens xs)[k]? = xs[2 * k]?
  | [], k => by simp [evens]
  | [x], 0 => rfl
  | [x], k + 1 => by
    show [x][k + 1]? = [x][2 * (k + 1)]?
    rw [List.getElem?_eq_none (by simp), List.getElem?_eq_none (by simp; omega)]
  | x :: y :: r, 0 => rfl
  | x :: y :: r, k + 1 => by
    show (x :: evens r)[k + 1]? = (x :: y :: r)[2 * k + 2]?
    rw [List.getElem?_cons_succ, List.getElem?_cons_succ, List.getElem?_cons_succ, evens_get r k]
theorem pick_two {α : Type} (xs : List α) : pickV xs 2 = evens xs := by
  unfold pickV
  rw [adj_two]
  show (List.range (Builtin.Slice.slicePlaces 0 (xs.length : Int) 2)).filterMap (fun (k : Nat) => xs[((0 : Int) + (k : Int) * 2).toNat]?) = _
  rw [plc_two]
  have e := fm_self (evens xs)
  rw [evens_len] at e
  refine Eq.trans (fm_congr fun k hk => ?_) e
  rw [evens_get]
  congr 1
  omega
theorem pick_len {α : Type} (xs : List α) (c : Int) (h : c = -1 ∨ c = 2) : (pickV xs c).length ≤ xs.length := by
  rcases h with rfl | rfl
  · rw [pick_neg, List.length_reverse]; exact Nat.le_refl _
  · rw [pick_two, evens_len]; omega
theorem vals_evens : ∀ {xs : List V} {us : List Value}, Vals xs us → Vals (evens xs) (evens us)
  | [], _, .nil => .nil
  | [x], _, .cons r .nil => .cons r .nil
  | x :: y :: _, _, .cons r (.cons _ t) => .cons r (vals_evens t)
theorem rp_evens {K : PySem.W.Frag} {F : Hp} : ∀ {xs : List V} {ds : List D}, RpAll K F xs ds → RpAll K F (evens xs) (evens ds)
  | [], _, .nil => .nil
  | [x], _, .cons r .nil => .cons r .nil
  | x :: y :: _, _, .cons r (.cons _ t) => .cons r (rp_evens t)
section
variable {prog : Program} {w : World} {A : Around} {E : Value → Shared → Prop} {s : Shared}
theorem getItem_tuple_step {t sl : Addr} {items : Array Value} {c : Int} {u : Tok} {Q : Value → Shared → Prop} (ht : IsTup s.heap t items) (hs : s.heap.IsSliceOf sl .none .none (.int c u)) (hc : c = -1 ∨ c = 2)
    (h : Q (.ref s.heap.objs.size) { s with heap := s.heap.push { cls := .type "tuple", data := .seq (pickV items.toList c).toArray } })
    (hsz : items.size ≤ sizeLine) : wpAny (model prog w) A (getItem (.ref t) (.ref sl)) Q E s := by
  have htake : sizeOk (.seq (pickV items.toList c).toArray) := by
    show (pickV items.toList c).toArray.size ≤ sizeLine
    rw [List.size_toArray]
    have h1 := pick_len items.toList c hc
    have h2 : items.toList.length = items.size := Array.length_toList
    exact Nat.le_trans (h2 ▸ h1) hsz
  obtain ⟨os, hos, hcs, hds⟩ := id hs
  have hTs : s.TypeIs (.ref sl) "slice" := ⟨os, hos, hcs⟩
  unfold getItem
  try with_reducible refine wpAny_holding ?_
  first | refine wpAny_bind (wpAny_pure ?_) | skip
  refine wpAny_bind (wpAny_sequenceKey ht.typeIs (by decide) ?_)
  refine wpAny_bind (wpAny_callSpecial?_slot (name := Str.ofString "__getitem__") ht.typeIs PyProof.Rows.slot_tuple_getitem
    (wpAny_call_entry PyProof.Rows.slot_tuple_getitem ht.typeIs entry_tuple_getitem ?_ (args_tuple_getitem _ _)))
  show wpAny _ _ (Builtin.Tuple.tupleItemsOf (.ref t) >>= _) _ _ s
  refine wpAny_bind (tupleItemsOf_ ht ?_)
  refine wpAny_bind (wpAny_typeOf hTs ?_)
  rw [if_pos (by decide)]
  have key : ∀ {Q2 : Int × Int × Nat → Shared → Prop}, Q2 ((Builtin.Slice.sliceAdjust none none c (items.size : Int)).1, c, Builtin.Slice.slicePlaces (Builtin.Slice.sliceAdjust none none c (items.size : Int)).1 (Builtin.Slice.sliceAdjust none none c (items.size : Int)).2 c) s → ∀ {A2 : Around} {E2 : Value → Shared → Prop}, wpAny (model prog w) A2 (Builtin.Slice.sliceApplied (.ref sl) (pure (items.size : Int))) Q2 E2 s := by
    intro Q2 q A2 E2
    unfold Builtin.Slice.sliceApplied Builtin.Slice.sliceFields
    refine wpAny_bind (wpAny_bind (wpAny_field hos hds (x := .none) rfl (wpAny_bind (wpAny_field hos hds (x := .none) rfl (wpAny_bind (wpAny_field hos hds (x := .int c u) rfl (wpAny_pure ?_)))))))
    refine wpAny_bind (slicePart_int ?_)
    show wpAny _ _ (if (c == 0) = true then _ else _) _ _ s
    rw [if_neg (by rcases hc with rfl | rfl <;> decide)]
    refine wpAny_bind (slicePart_none (wpAny_bind (slicePart_none (wpAny_bind (wpAny_pure ?_)))))
    exact wpAny_pure q
  refine wpAny_bind (key ?_)
  have hno : ¬ (((Builtin.Slice.sliceAdjust none none c (items.size : Int)).1 == 0 && c == 1 && Builtin.Slice.slicePlaces (Builtin.Slice.sliceAdjust none none c (items.size : Int)).1 (Builtin.Slice.sliceAdjust none none c (items.size : Int)).2 c == items.size) = true) := by
    intro q
    rw [Bool.and_eq_true, Bool.and_eq_true] at q
    have q1 : c = 1 := eq_of_beq q.1.2
    omega
  show wpAny _ _ (if (((Builtin.Slice.sliceAdjust none none c (items.size : Int)).1 == 0 && c == 1 && Builtin.Slice.slicePlaces (Builtin.Slice.sliceAdjust none none c (items.size : Int)).1 (Builtin.Slice.sliceAdjust none none c (items.size : Int)).2 c == items.size) = true) then _ else _) _ _ s
  rw [if_neg hno]
  have ep : ((List.range (Builtin.Slice.slicePlaces (Builtin.Slice.sliceAdjust none none c (items.size : Int)).1 (Builtin.Slice.sliceAdjust none none c (items.size : Int)).2 c)).filterMap fun (k : Nat) => items[((Builtin.Slice.sliceAdjust none none c (items.size : Int)).1 + (k : Int) * c).toNat]?).toArray = (pickV items.toList c).toArray := by
    unfold pickV
    rw [Array.length_toList]
    congr 1
    refine fm_congr fun k _ => ?_
    rw [Array.getElem?_toList]
  rw [ep]
  first
    | exact wpAny_bind (m := Builtin.Tuple.tupleExact _) (wpAny_newObj_type (wpAny_pure ⟨_, rfl, wpAny_pure h⟩) htake)
    | exact wpAny_bind (m := Builtin.Tuple.tupleExact _) (wpAny_newObj_type (wpAny_bind (wpAny_pure (wpAny_pure ⟨_, rfl, wpAny_pure h⟩))) htake)
    | exact wpAny_bind (wpAny_bind (m := Builtin.Tuple.tupleExact _) (wpAny_newObj_type (wpAny_pure (wpAny_pure ⟨_, rfl, wpAny_pure h⟩)) htake))
    | exact wpAny_bind (wpAny_bind (m := Builtin.Tuple.tupleExact _) (wpAny_newObj_type (wpAny_pure ⟨_, rfl, wpAny_pure h⟩) htake))
end
section
variable {X : Cx}
def tStep (K : PySem.W.Frag) (c : Int) (te : TE) : TE := fun σ H Q => te σ H fun x H1 => ∃ a xs, x = .ref a ∧ SqT K H1 a xs ∧ ∀ p, H1 p = none → Q (.ref p) (upd H1 p (.tup (pickV xs c)))
theorem pe_stepT {e st : Expr} {te : TE} {p3 pos : Pos} {c : Int} (hc : c = -1 ∨ c = 2) {ts : TE} (hst : PE X st ts) (hts : ∀ σ H (Q : VK), (∀ H', H' = H → Q (.int c) H') → ts σ H Q) (he : PE X e te) (hpl : ∀ v w, subscriptTail e (.Slice none none (some st) p3) v w = subscriptTail e (.Slice none none (some st) p3) v w) :
    PE X (.Subscript e (.Slice none none (some st) p3) pos) (tStep X.K c te) := by
  refine ⟨fun pins s σ H Q I h => ?_⟩
  refine Subscript_ (thn (he.run pins s σ H _ I h) fun v s1 ⟨x, H1, I1, r1, q1⟩ => ?_)
  obtain ⟨a, xs, ex, hx, q⟩ := q1
  subst ex
  cases r1
  have hso : PO X (some st) (tPart ts) := po_some hst
  refine wpAny_Slice (thn (po_none.run pins s1 σ H1 (fun o H2 => o = none ∧ H2 = H1) I1 ⟨rfl, rfl⟩) fun vl s2 ⟨l, H2, I2, pl, el, e2⟩ => ?_)
  subst el e2
  refine thn (po_none.run pins s2 σ H2 (fun o H3 => o = none ∧ H3 = H2) I2 ⟨rfl, rfl⟩) fun vu s3 ⟨u, H3, I3, pu, eu, e3⟩ => ?_
  subst eu e3
  refine thn (hso.run pins s3 σ H3 (fun o H4 => o = some c ∧ H4 = H3) I3 (hts _ _ _ fun H' e => ⟨c, rfl, rfl, e⟩)) fun vs s4 ⟨o, H4, I4, ps, eo, e4⟩ => ?_
  subst eo e4
  cases pl
  cases pu
  cases ps with
  | int _ tk =>
    have I5 : Inv X pins σ H4 { s4 with heap := s4.heap.push { cls := .type "slice", data := .fields #[.none, .none, .int c tk] } } := I4.kept (t' := s4.toks) fun b ob q => Heap.get?_push_of_some _ q
    obtain ⟨its, r, ht, hz⟩ := I5.tuple hx
    have hlen := r.length
    show wpAny (model X.prog X.w) X.A (subscriptTail e (.Slice none none (some st) p3) (.ref a) (.ref s4.heap.objs.size)) (EP X pins σ Q) X.xe { s4 with heap := s4.heap.push { cls := .type "slice", data := .fields #[.none, .none, .int c tk] } }
    refine tail_any (ops := [.ref a, .ref s4.heap.objs.size]) (IsTup.typeIs ht) (PyProof.Rows.slot_tuple_getitem.lookup) ?_ (by with_unfolding_all rfl)
    refine getItem_tuple_step ht (Heap.IsSliceOf.new _ .none .none (.int c tk)) hc ?_ (by rw [List.size_toArray]; omega)
    refine ⟨.ref _, _, I5.laid (t' := s4.toks) (o := .tup (pickV xs c)) (fun b ob q => Heap.get?_push_of_some _ q) (Nat.le_refl _) ?_, rfl, q _ (I5.hok.fresh (Nat.le_refl _))⟩
    have hv : Vals (pickV xs c) (pickV its c) := by
      rcases hc with rfl | rfl
      · rw [pick_neg, pick_neg]; exact r.reverse
      · rw [pick_two, pick_two]; exact vals_evens r
    exact ⟨Nat.le_trans (pick_len xs c hc) hz, _, hv, ⟨_, Heap.get?_push_size _ rfl, rfl, _, rfl⟩⟩
end
theorem stepB_of {k : Int} {st : Expr} (h : stepB k st = true) : (k = -1 ∨ k = 2) ∧ ∀ {X : Cx}, ∃ ts : TE, PE X st ts ∧ ∀ σ H (Q : VK), (∀ H', H' = H → Q (.int k) H') → ts σ H Q := by
  unfold stepB at h
  split at h
  · rename_i c j p1 p2
    rw [Bool.and_eq_true] at h
    have e1 := of_decide_eq_true h.1
    have e2 := of_decide_eq_true h.2
    subst e1 e2
    exact ⟨.inl rfl, fun {X} => ⟨_, pe_un un_neg pe_int, fun σ H Q q => ⟨1, rfl, q H rfl⟩⟩⟩
  · rename_i c j p1
    rw [Bool.and_eq_true] at h
    have e1 := of_decide_eq_true h.1
    have e2 := of_decide_eq_true h.2
    subst e1 e2
    exact ⟨.inr rfl, fun {X} => ⟨_, pe_int, fun σ H Q q => q H rfl⟩⟩
  · cases h
theorem se_slc3 {a : E} {j : Int} (ha : SE a) : SE (.slc3 a j) := by
  refine se_plain fun {X C k Φ cs clsA W F0 H0} hX m x h => ?_
  cases x with
  | Subscript x y pos =>
    cases y with
    | Slice lo' hi' st p =>
      cases lo' with
      | none =>
        cases hi' with
        | none =>
          cases st with
          | none => exact Bool.noConfusion h
          | some st =>
            have h' : (!m.isTst && chk C .opd a x && stepB j st) = true := h
            rw [Bool.and_eq_true] at h'
            obtain ⟨h1, h2⟩ := not_tst h'.1
            obtain ⟨hc, hst⟩ := stepB_of h'.2
            obtain ⟨ts, p1, p2⟩ := hst (X := X)
            refine ⟨h1, (pe_stepT hc p1 p2 ((ha (F0 := F0) (H0 := H0) hX x).2.1 h2) fun _ _ => rfl).impW fun σ H Q ⟨env, F, rs, k⟩ => ⟨env, F, rs, (KR.bind k).imp fun F1 H1 d e1 k1 v r1 => ?_⟩⟩
            cases d with
            | tuple ds =>
              obtain ⟨b, xs, rfl, q1, q2, q3⟩ := r1.tup e1.sub
              refine ⟨b, xs, rfl, q1, fun p n => ?_⟩
              rcases hc with rfl | rfl
              · rw [pick_neg]
                exact KE.new (d := .tuple ds.reverse) e1.sub k1 n (rp_tup e1.sub n q2.reverse)
              · rw [pick_two]
                exact KE.new (d := .tuple (evens ds)) e1.sub k1 n (rp_tup e1.sub n (rp_evens q2))
            | _ => exact k1.elim
        | some _ => cases st <;> exact Bool.noConfusion h
      | some _ => cases hi' <;> cases st <;> exact Bool.noConfusion h
    | _ => exact Bool.noConfusion h
  | _ => exact Bool.noConfusion h

/-! ### len(set(xs)) of ints -/
theorem first_met (ns : List Int) : PyProof.Rows.firstMet (fun i => ns.getD i 0) ns.length = dedup ns := by
  unfold PyProof.Rows.firstMet dedup
  have e : (List.range ns.length).map (fun i => ns.getD i 0) = ns := by
    refine List.ext_getElem (by simp) fun i h1 h2 => ?_
    simp [List.getD_eq_getElem?_getD, List.getElem?_eq_getElem h2]
  rw [e]
  rfl
def tLenS (K : PySem.W.Frag) (ta : TE) : TE := fun σ H Q => ta σ H fun x H1 => (∃ (l : Addr) (ns : List Int), x = .ref l ∧ SqL K H1 l (ns.map V.int) ∧ ns.length ≤ 4000 ∧ Q (.int ((dedup ns).length : Nat)) H1) ∨ ∃ (l : Addr) (ts : List Str), x = .ref l ∧ SqL K H1 l (ts.map V.str) ∧ ts.length ≤ 4000 ∧ Q (.int ((dedupS ts).length : Nat)) H1
theorem dedup_le (ns : List Int) : (dedup ns).length ≤ ns.length := by
  rw [← first_met]
  exact PyProof.Rows.firstMet_length_le _ _
theorem pe_lenS {X : Cx} {a : Expr} {ta : TE} {p p2 q pos : Pos} (hg : Gl X "len") (hm : X.mg "len" = none) (hg2 : Gl X "set") (hm2 : X.mg "set" = none) (ha : PE X a ta) (hc : X.calm = true)
    (na : starEach [a] X.env = (false, eval a X.env) :: starEach [] X.env) : PE X (.Call (.Name "len" p) [.Call (.Name "set" p2) [a] [] q] [] pos) (tLenS X.K ta) := by
  refine ⟨fun pins s σ H Q I h => ?_⟩
  refine Call_ (ld_blt I hg hm boot_len ?_)
  refine PyProof.Rows.callWith_builtin1 (PyProof.Rows.args_cons ?_ rfl) rfl rfl
  refine Call_ (ld_blt I hg2 hm2 boot_set ?_)
  refine PyProof.Rows.callWith_type1 (PyProof.Rows.args_cons (thn (ha.run pins s σ H _ I h) fun v s1 ⟨x, H1, I1, r1, q1⟩ => PyProof.Rows.args_nil ?_) na) na rfl
  rcases q1 with ⟨l, ns, rfl, hq, hl, q1⟩ | ⟨l, ts, rfl, hq, hl, q1⟩
  rotate_left
  · cases r1
    exact len_setT I1 hc hq hl q1
  cases r1
  obtain ⟨its, r, pl, hz⟩ := I1.list hq
  have hlen : its.toArray.size = ns.length := by rw [List.size_toArray, ← r.length, List.length_map]
  refine call_set_list (I1.ok.hd hc) pl.isList (by simpa using RZ.intsAre_vals r) (by rw [hlen]; unfold scanBound; omega) fun h' tk hS hk => ?_
  refine PyProof.Rows.args_nil ?_
  rw [hlen, first_met] at hS
  obtain ⟨o, es, ep, t, ho, hex, hd, _, _, _, hf, hn⟩ := hS
  have I2 : Inv X pins σ H1 { s1 with heap := h', toks := tk } := I1.kept fun b o e => hk b o (Heap.lt_size e) e
  have hle := dedup_le ns
  exact call_len_set ho hex hd hf (by rw [hn] <;> omega) ⟨.int (dedup ns).length, H1, I2.tok _, ⟨_, by rw [hn]⟩, q1⟩
theorem se_lenset {a : E} (ha : SE a) : SE (.lenset a) := by
  refine se_plain fun {X C k Φ cs clsA W F0 H0} hX m x h => ?_
  cases x with
  | Call fn args kws pos =>
    cases fn with
    | Name x p =>
      cases args with
      | nil => exact Bool.noConfusion h
      | cons y r1 =>
        cases y with
        | Call fn2 args2 kws2 pos2 =>
          cases fn2 with
          | Name y p2 =>
            match args2, kws2, r1, kws, h with
            | [z], [], [], [], h =>
              have h' : (!m.isTst && decide (x = "len") && decide (y = "set") && glB C.sc x && glB C.sc y && chk C .opd a z) = true := h
              simp only [Bool.and_eq_true] at h'
              obtain ⟨⟨⟨⟨⟨h1, h2⟩, h3⟩, h4⟩, h5⟩, h6⟩ := h'
              have e := of_decide_eq_true h2
              subst e
              have e := of_decide_eq_true h3
              subst e
              refine ⟨by simpa using h1, (pe_lenS (hX.gl h4) (hX.no (by decide +kernel)) (hX.gl h5) (hX.no (by decide +kernel)) ((ha (F0 := F0) (H0 := H0) hX z).2.1 h6) hX.calm (star_of (chk_notStar h6))).impW fun σ H Q ⟨env, F, rs, k⟩ => ⟨env, F, rs, (KR.bind k).imp fun F1 H1 d e1 k1 v r1 => ?_⟩⟩
              cases d with
              | list ds =>
                obtain ⟨b, xs, rfl, q1, q2⟩ := r1.lst e1.sub
                replace k1 : KE X.K W F1 H1 (match intsOf ds with
                  | some is => need (decide (is.length ≤ 4000)) (.ok (.int (dedup is).length))
                  | none => match strsOf ds with
                    | some ss => need (decide (ss.length ≤ 4000)) (.ok (.int (dedupS ss).length))
                    | none => .stuck) Q := k1
                cases z : intsOf ds with
                | none =>
                  rw [z] at k1
                  replace k1 : KE X.K W F1 H1 (match strsOf ds with
                    | some ss => need (decide (ss.length ≤ 4000)) (.ok (.int (dedupS ss).length))
                    | none => .stuck) Q := k1
                  cases z2 : strsOf ds with
                  | none => rw [z2] at k1; exact k1.elim
                  | some ss =>
                    rw [z2] at k1
                    obtain ⟨z1, k2⟩ := KR.need k1
                    obtain ⟨rfl, rfl⟩ := strs_rp z2 q2
                    exact .inr ⟨b, ss, rfl, q1, of_decide_eq_true z1, KE.same (d := .int (dedupS ss).length) e1.sub k2 (.int _)⟩
                | some is =>
                  rw [z] at k1
                  obtain ⟨z1, k2⟩ := KR.need k1
                  obtain ⟨rfl, rfl⟩ := ints_rp z q2
                  exact .inl ⟨b, is, rfl, q1, of_decide_eq_true z1, KE.same (d := .int (dedup is).length) e1.sub k2 (.int _)⟩
              | _ => exact k1.elim
            | [], _, _, _, h => exact Bool.noConfusion h
            | _ :: _ :: _, _, _, _, h => exact Bool.noConfusion h
            | [_], _ :: _, _, _, h => exact Bool.noConfusion h
            | [_], [], _ :: _, _, h => exact Bool.noConfusion h
            | [_], [], [], _ :: _, h => exact Bool.noConfusion h
          | _ => exact Bool.noConfusion h
        | _ => exact Bool.noConfusion h
    | _ => exact Bool.noConfusion h
  | _ => exact Bool.noConfusion h

/-! ### methods: count, index, join -/
section
variable {X : Cx} {W : Nat → Hp → Prop}
def eqS (k : Str) (v : Value) : Bool := match v with
  | .str n _ => n.cps.toList == k.cps.toList
  | _ => false
theorem eqS_gives {k : Str} {t : Tok} : ∀ {us : List Value} {ns : List Str}, Vals (ns.map V.str) us → ∀ y ∈ us, MeetsSeq.EqGives y (.str k t) (eqS k y)
  | _, [], .nil => fun y hy => by cases hy
  | _, n :: ns, .cons r h => fun y hy => by
    obtain ⟨t', rfl⟩ := r
    rcases List.mem_cons.mp hy with e | e
    · rw [e]
      exact SeqRoads2.EqGives.str n k t' t
    · exact eqS_gives h y e
theorem eqS_count {k : Str} : ∀ {us : List Value} {ns : List Str}, Vals (ns.map V.str) us → us.countP (eqS k) = ns.countP fun x => x.cps.toList == k.cps.toList
  | _, [], .nil => rfl
  | _, n :: ns, .cons r h => by
    obtain ⟨t', rfl⟩ := r
    have ih := eqS_count (k := k) h
    rw [List.countP_cons, List.countP_cons, ih] <;> rfl
def rCntS (K : PySem.W.Frag) : V → List V → Hp → VK → Prop := fun x xs H Q => ∃ (p : Addr) (ns : List Str) (k : Str), x = .ref p ∧ xs = [.str k] ∧ SqL K H p (ns.map V.str) ∧ Q (.int (ns.countP (fun x => x.cps.toList == k.cps.toList) : Nat)) H
theorem mt_lcountS : MtR X "list.count" (rCntS X.K) := by
  intro pins s σ H x xs v us Q I rx rxs h
  obtain ⟨p, ns, k, rfl, rfl, hs, q⟩ := h
  cases rx
  obtain ⟨u, rfl, ru⟩ := rxs.one
  obtain ⟨t, rfl⟩ := ru
  obtain ⟨its, rv, ⟨⟨cls, dd, data, sl⟩, n, ho, hc, hdn, hd⟩, hlen⟩ := I.list hs
  simp only at hc hd
  subst hc hd
  refine call_meets PySem.F.slot_list_count ⟨_, ho, rfl⟩ PySem.F.entry_list_count (PySem.F.args_list_count_2 _ _)
    (SeqAt.list_countAt p its.toArray n dd sl (.str k t) (eqS k)) ⟨ho, fun y hy => (eqS_gives rv y (by simpa using hy)).at _ _, ?_⟩
  have ec : its.toArray.toList.countP (eqS k) = ns.countP fun x => x.cps.toList == k.cps.toList := eqS_count rv
  refine ⟨.int (ns.countP (fun x => x.cps.toList == k.cps.toList) : Nat), H, I.tok _, ⟨s.toks, ?_⟩, q⟩
  show Value.int ((its.toArray.toList.countP (eqS k) : Nat) : Int) s.toks = _
  rw [ec]
def rIdx : V → List V → Hp → VK → Prop := fun x xs H Q => ∃ (a b : Str) (k : Nat), x = .str a ∧ xs = [.str b] ∧ Txt.index0 a b = some k ∧ Q (.int (k : Nat)) H
theorem mt_idx : MtR X "str.index" rIdx := by
  intro pins s σ H x xs v us Q I rx rs h
  obtain ⟨a, b, k, rfl, rfl, hk, w⟩ := h
  obtain ⟨t, rfl⟩ := rx
  cases rs with
  | cons r1 rs =>
    cases rs
    obtain ⟨u, rfl⟩ := r1
    cases q : Builtin.Str.occurrences a b 0 a.length 1 with
    | nil =>
      unfold Txt.index0 at hk
      rw [q] at hk
      cases hk
    | cons k' rest =>
      unfold Txt.index0 at hk
      rw [q] at hk
      cases hk
      exact PySem.SC.index q ⟨.int (k : Nat), H, I.tok _, ⟨_, rfl⟩, w⟩
end
theorem tyStr {K : PySem.W.Frag} {x : Str} {H : Hp} : tyV K "str" (.str x) H := rfl
theorem plain_base {o : Expr} {name : Str} {env : PySem.Env} (h : plainO o = true) : attributeBase o name env (eval o env) = eval o env := by
  cases o with
  | Name _ _ => rfl
  | Constant _ _ _ => rfl
  | _ => exact Bool.noConfusion h
theorem se_meth {mt : Mth} {o a : E} (ho : SE o) (ha : SE a) : SE (.meth mt o a) := by
  refine se_plain fun {X C k Φ cs clsA W F0 H0} hX m x h => ?_
  cases x with
  | Call fn args kws pos =>
    cases fn with
    | Attribute o' x apos =>
      match args, kws, h with
      | [v], [], h =>
        have h' : (!m.isTst && decide (x = mthName mt) && plainO o' && decide (apos.endLine = pos.line) && chk C .opd o o' && chk C .opd a v) = true := h
        simp only [Bool.and_eq_true] at h'
        obtain ⟨⟨⟨⟨⟨h1, h2⟩, h3⟩, h4⟩, h5⟩, h6⟩ := h'
        have e := of_decide_eq_true h2
        subst e
        have hl : (apos.endLine == pos.line) = true := by rw [of_decide_eq_true h4]; exact beq_self_eq_true _
        have hst := star_of (xs := []) (env := X.env) (chk_notStar h6)
        have po := (ho (F0 := F0) (H0 := H0) hX o').2.1 h5
        have pa : PA X [v] _ := pa_cons ((ha (F0 := F0) (H0 := H0) hX v).2.1 h6) pa_nil hst
        have hf : ((backTo pos (starEach [v] X.env)).all (fun x => !x.1) && (backToKw pos (keywordEach [] X.env)).all (fun x => x.1.isSome) && decide ([v].length + ([] : List Keyword).length + (if ([] : List Keyword).isEmpty then 0 else 1) < 30)) = true := by rw [hst]; rfl
        refine ⟨by simpa using h1, ?_⟩
        have fin : ∀ {T : String} {r : V → List V → Hp → VK → Prop}, (∀ {F1 H1 F2 H2 : Hp} {d : D} {v1 : V} {Q : VK}, mthOk mt d = true → Same F1 H1 → RpO X.K F1 H1 v1 d → tyV X.K T v1 H1 ∧ (∀ {d2 : D} {v2 : V}, Ext F1 H1 F2 H2 → RpO X.K F2 H2 v2 d2 → KE X.K W F2 H2 (methD mt d d2) Q → r v1 [v2] H2 Q)) →
            ∀ σ H Q, tE X.K W F0 H0 (ev Φ cs (.meth mt o a)) σ H Q → tBM X.K T r (tO X.K W F0 H0 (ev Φ cs o)) (tCons (tO X.K W F0 H0 (ev Φ cs a)) tNil) σ H Q := fun {T r} hr σ H Q ⟨env, F, rs, k⟩ => by
          refine ⟨env, F, rs, (KR.bind k).imp fun F1 H1 d e1 k1 v r1 => ?_⟩
          obtain ⟨z, k2⟩ := KR.need k1
          refine ⟨(hr (F2 := F1) (H2 := H1) (Q := Q) z e1.sub r1).1, env, F1, rs.more e1, (KR.bind k2).imp fun F2 H2 d2 e2 k3 v2 r2 => ?_⟩
          exact (hr (F2 := F2) (H2 := H2) (Q := Q) z e1.sub r1).2 e2 r2 k3
        cases mt with
        | countL =>
          refine (pe_bm (r := fun x xs H Q => rCntI X.K x xs H Q ∨ rCntS X.K x xs H Q) PySem.F.plainAttrs_list PySem.F.slot_list_count PySem.F.type_list_count (fun pins s σ H x xs v us Q I r1 r2 w => w.elim (mt_lcount pins s σ H x xs v us Q I r1 r2) (mt_lcountS pins s σ H x xs v us Q I r1 r2)) po pa (plain_base h3) hf hl hst rfl).impW (fin fun {F1 H1 F2 H2 d v1 Q} z sub r1 => ?_)
          cases d with
          | list ds =>
            obtain ⟨b, xs, rfl, q1, q2⟩ := r1.lst sub
            refine ⟨.inl ⟨rfl, xs, q1⟩, fun {d2 v2} e2 r2 k3 => ?_⟩
            cases d2 with
            | int i =>
              obtain rfl := r2.int
              replace k3 : KE X.K W F2 H2 (match intsOf ds with
                | some is => .ok (.int (is.count i : Nat))
                | none => .stuck) Q := k3
              cases z : intsOf ds with
              | none => rw [z] at k3; exact k3.elim
              | some is =>
                rw [z] at k3
                obtain ⟨rfl, rfl⟩ := ints_rp z q2
                exact .inl ⟨b, is, i, rfl, rfl, e2.h.seq q1, KE.same (d := .int (is.count i : Nat)) e2.sub k3 (.int _)⟩
            | str i =>
              obtain rfl := r2.str
              replace k3 : KE X.K W F2 H2 (match strsOf ds with
                | some ss => .ok (.int (ss.countP fun x => x.cps.toList == i.cps.toList : Nat))
                | none => .stuck) Q := k3
              cases z : strsOf ds with
              | none => rw [z] at k3; exact k3.elim
              | some is =>
                rw [z] at k3
                obtain ⟨rfl, rfl⟩ := strs_rp z q2
                exact .inr ⟨b, is, i, rfl, rfl, e2.h.seq q1, KE.same (d := .int (is.countP (fun x => x.cps.toList == i.cps.toList) : Nat)) e2.sub k3 (.int _)⟩
            | _ => exact k3.elim
          | _ => exact Bool.noConfusion z
        | countS =>
          refine (pe_bm PySem.F.plainAttrs_str PySem.F.slot_str_count PySem.F.type_str_count mt_count po pa (plain_base h3) hf hl hst rfl).impW (fin fun {F1 H1 F2 H2 d v1 Q} z sub r1 => ?_)
          cases d with
          | str x =>
            obtain rfl := r1.str
            refine ⟨tyStr, fun {d2 v2} e2 r2 k3 => ?_⟩
            cases d2 with
            | str y =>
              obtain rfl := r2.str
              exact ⟨x, y, rfl, rfl, KE.same (d := .int (PySem.Txt.count x y)) e2.sub k3 (.int _)⟩
            | _ => exact k3.elim
          | _ => exact Bool.noConfusion z
        | index =>
          refine (pe_bm PySem.F.plainAttrs_str PySem.F.slot_str_index PySem.F.type_str_index mt_idx po pa (plain_base h3) hf hl hst rfl).impW (fin fun {F1 H1 F2 H2 d v1 Q} z sub r1 => ?_)
          cases d with
          | str x =>
            obtain rfl := r1.str
            refine ⟨tyStr, fun {d2 v2} e2 r2 k3 => ?_⟩
            cases d2 with
            | str y =>
              obtain rfl := r2.str
              replace k3 : KE X.K W F2 H2 (match PySem.Txt.index0 x y with
                | some k => .ok (.int (k : Nat))
                | none => .stuck) Q := k3
              cases z : PySem.Txt.index0 x y with
              | none => rw [z] at k3; exact k3.elim
              | some j =>
                rw [z] at k3
                exact ⟨x, y, j, rfl, rfl, z, KE.same (d := .int (j : Nat)) e2.sub k3 (.int _)⟩
            | _ => exact k3.elim
          | _ => exact Bool.noConfusion z
        | join =>
          refine (pe_bm PySem.F.plainAttrs_str PySem.F.slot_str_join PySem.F.type_str_join mt_join po pa (plain_base h3) hf hl hst rfl).impW (fin fun {F1 H1 F2 H2 d v1 Q} z sub r1 => ?_)
          cases d with
          | str x =>
            obtain rfl := r1.str
            refine ⟨tyStr, fun {d2 v2} e2 r2 k3 => ?_⟩
            cases d2 with
            | list ds =>
              obtain ⟨b, xs, rfl, q1, q2⟩ := r2.lst e2.sub
              replace k3 : KE X.K W F2 H2 (match strsOf ds with
                | some ys => need (decide ((ys.map (·.length)).sum + ys.length * x.length ≤ 16777216)) (.ok (.str (PySem.Txt.join x ys)))
                | none => .stuck) Q := k3
              cases z : strsOf ds with
              | none => rw [z] at k3; exact k3.elim
              | some ys =>
                rw [z] at k3
                obtain ⟨z1, k4⟩ := KR.need k3
                obtain ⟨rfl, rfl⟩ := strs_rp z q2
                exact ⟨x, b, ys, rfl, rfl, .inl q1, of_decide_eq_true z1, KE.same (d := .str (PySem.Txt.join x ys)) e2.sub k4 (.str _)⟩
            | _ => exact k3.elim
          | _ => exact Bool.noConfusion z
      | [], _, h => exact Bool.noConfusion h
      | [_], _ :: _, h => exact Bool.noConfusion h
      | _ :: _ :: _, _, h => exact Bool.noConfusion h
    | _ => exact Bool.noConfusion h
  | _ => exact Bool.noConfusion h
end MW

set_option maxRecDepth 100000
set_option maxHeartbeats 2000000
/-! Part 2s: sorted(xs, key=lambda x: ..). -/
namespace MW
open PySem PySem.Spec PyProof.Rows L2
open Res
variable [Lam]
section
variable {X : Cx} {pins : List (Addr × Obj)} {σ : L2.St} {H : Hp} {s : Shared}
abbrev lamF (X : Cx) (params : Arguments) (scope : Scope) (c' : Addr) : NdefX.NF := ⟨"<lambda>", X.env.qual ++ "<lambda>", params, [], scope, [], c'⟩
abbrev lamO (X : Cx) (params : Arguments) (body : Expr) (scope : Scope) (pm : Value) (c' : Addr) (ctv : Value) : Obj := PySem.W.kla_obj "<lambda>" (X.env.qual ++ "<lambda>") params body scope [] pm c' ctv
abbrev arg1 (p : Str) (q : Pos) : Arguments := ⟨[], [⟨p, none, q⟩], none, [], [], none, []⟩
/-- no name is captured -/
theorem clo_nil {cells : List (Str × Addr)} : ∀ {names : List (Str × NameKind)}, (∀ y ∈ names, y.2 ≠ .free) → cloFrom cells names [] = [] := by
  intro names
  induction names with
  | nil => intro _; rfl
  | cons y r ih =>
    intro h
    obtain ⟨n, k⟩ := y
    have h1 : k ≠ .free := h (n, k) List.mem_cons_self
    have h2 := ih fun y hy => h y (List.mem_cons_of_mem _ hy)
    cases k <;> first | exact h2 | exact absurd rfl h1
theorem lam_env0 (I : Inv X pins σ H s) : Env0 X.prog X.w X.K X.mg X.base X.A.in1.in1 X.stack s H := ⟨I.env0.frames, I.env0.mod, I.env0.bs, I.env0.bsz, I.env0.funs, I.env0.frf, I.env0.hok, I.env0.bare⟩
/-- the lambda made: its code object is new, or told by the table -/
theorem lam_make3 {c : Addr} {params : Arguments} {body : Expr} {scope : Scope} {pos : Pos} {E : Value → Shared → Prop} {Q : Value → Shared → Prop} (I : Inv X pins σ H s) (TB : LamX.TabB X.base X.mg c Lam.P) (hcode : X.env.code = .ref c) (hnm : X.env.qual ++ "<lambda>" = Lam.nm) (tab : TabG H) (on : Lam.on = true)
    (hdef : defaultsOf params X.env = ([], [])) (nf : ∀ y ∈ scope.names, y.2 ≠ .free)
    (fin : ∀ (f c' : Addr) (pm ctv : Value) (H1 : Hp) (s' : Shared), Inv X pins σ H1 s' → SameG H H1 → (∀ b o, b ≠ Lam.P → H b = some o → H1 b = some o) → s'.heap.get? f = some (lamO X params body scope pm c' ctv) → H1 f = none → f ∉ frs X.stack → H1 c' = some (LamX.CodeO c' (X.env.qual ++ "<lambda>")) → Q (.ref f) s') :
    wpAny (model X.prog X.w) X.A (eval (.Lambda params body scope pos) X.env) Q E s := by
  obtain ⟨ps, hP, ht, ha⟩ := tab on
  have hcl := clo_nil (cells := X.env.cells) nf
  have hcl2 : closureFor scope X.env = pure (cloFrom X.env.cells scope.names []) := closure_ok fun y hy e => absurd e (nf y hy)
  rw [hcl] at hcl2
  refine PySem.W.kla_eval hdef ?_
  have bP : s.heap.BuiltinsAt X.mg Lam.P := TB.bm.keeps I.bk
  have hP' : s.heap.get? Lam.P = some { cls := .none, data := .fields ps } := I.hok Lam.P _ hP
  have nofr : ∀ f, s.heap.objs.size ≤ f → f ∉ frs X.stack := fun f hf z => by
    rcases List.mem_cons.mp (I.stkSub _ z) with e | e
    · have h1 := I.lt
      rw [← e] at h1
      exact Nat.lt_irrefl _ (Nat.lt_of_lt_of_le h1 hf)
    · exact I.nofs hf e
  cases hc : codeAmong pos ps.toList with
  | none =>
    refine PySem.W.kla_makeFunction (mg := X.mg) (c := c) (P := Lam.P) (ps := ps) hcl2 I.ok.glob (I.mod.glob.keeps I.bk) hcode (TB.code.keeps I.bk) hP' ht hc TB.gP bP fun c' ctv h' tk hx hge hlt hrec htb => ?_
    obtain ⟨c2, oc, vs, t, e2, hoc, hd, hv⟩ := hrec
    cases e2
    have hsz : s.heap.objs.size ≤ h'.objs.size := Nat.le_trans hge (Nat.le_of_lt hlt)
    have nC : H c' = none := I.hok.fresh hge
    have I1 := LamX.inv_table (t' := tk) (more := #[rawInt pos.line, rawInt pos.col, .ref c']) (h' := h'.push (lamO X params body scope ((X.mg "__name__").getD .none) c' ctv)) I hP (fun b o hb e => Heap.get?_push_of_some _ (hx b o hb e)) (Heap.get?_push_of_some _ htb) hge ⟨oc, vs, t, Heap.get?_push_of_some _ hoc, hd, hv⟩
    have nP : Lam.P ≠ c' := ne_of_none hP nC
    have at1 : ∀ b o, b ≠ Lam.P → H b = some o → upd (upd H Lam.P (.tbl (ps ++ #[rawInt pos.line, rawInt pos.col, .ref c']))) c' (LamX.CodeO c' (X.env.qual ++ "<lambda>")) b = some o := fun b o hb e => by
      rw [upd_ne (ne_of_none e nC), upd_ne hb]; exact e
    have atP : upd (upd H Lam.P (.tbl (ps ++ #[rawInt pos.line, rawInt pos.col, .ref c']))) c' (LamX.CodeO c' (X.env.qual ++ "<lambda>")) Lam.P = some (.tbl (ps ++ #[rawInt pos.line, rawInt pos.col, .ref c'])) := by rw [upd_ne nP, upd_same]
    have eL : (ps ++ #[rawInt pos.line, rawInt pos.col, .ref c']).toList = ps.toList ++ [rawInt pos.line, rawInt pos.col, .ref c'] := (by simp)
    refine fin h'.objs.size c' ((X.mg "__name__").getD .none) ctv _ _ I1 ⟨fun b o e n => ?_, fun b qs e => ?_, fun _ _ => ?_⟩ at1 (Heap.get?_push_size _ rfl) ?_ (nofr _ hsz) upd_same
    · refine at1 b o (fun z => ?_) e
      rw [z, hP] at e
      exact n ps (Option.some.inj e).symm
    · by_cases hb : b = Lam.P
      · subst hb
        rw [hP] at e
        cases e
        exact ⟨_, atP⟩
      · exact ⟨#[], by rw [at1 b _ hb e]; simp⟩
    · refine ⟨_, atP, by rw [eL]; exact PySem.TriplesOk_snoc _ _ _ _ ht, fun p' cv hcv => ?_⟩
      rw [eL] at hcv
      rcases LamX.among_app _ ht hcv with z | z
      · obtain ⟨c0, e1, e2⟩ := ha p' cv z
        refine ⟨c0, e1, at1 _ _ (fun z => ?_) e2⟩
        rw [z, hP] at e2
        cases e2
      · exact ⟨c', z, by rw [← hnm]; exact upd_same⟩
    · have n1 : h'.objs.size ≠ c' := Nat.ne_of_gt hlt
      have n2 : h'.objs.size ≠ Lam.P := Nat.ne_of_gt (Nat.lt_of_lt_of_le (Heap.lt_size hP') hsz)
      rw [upd_ne n1, upd_ne n2]
      exact I.hok.fresh hsz
  | some cv =>
    obtain ⟨c', e, hco⟩ := ha pos cv hc
    subst e
    refine PySem.W.kla_makeFunctionHit (mg := X.mg) (c := c) (P := Lam.P) (ps := ps) hcl2 I.ok.glob (I.mod.glob.keeps I.bk) hcode (TB.code.keeps I.bk) hP' ht hc bP fun ctv h' tk hx hsz => ?_
    have I1 : Inv X pins σ H { s with heap := h'.push (lamO X params body scope ((X.mg "__name__").getD .none) c' ctv), toks := tk } := I.kept fun b o e => Heap.get?_push_of_some _ (hx b o e)
    exact fin h'.objs.size c' ((X.mg "__name__").getD .none) ctv H _ I1 (SameG.refl H) (fun b o _ e => e) (Heap.get?_push_size _ rfl) (I.hok.fresh hsz) (nofr _ hsz) (by rw [hnm]; exact hco)
/-- the lambda called, from a built-in -/
theorem lam_call {p : Str} {q : Pos} {body : Expr} {scope : Scope} {pm ctv : Value} {f c' : Addr} {k : Nat} {tb : TE} {Q : VK} {R : Value → Shared → Prop} {E' : Value → Shared → Prop} {x : V} {v : Value} (I : Inv X pins σ H s) (S : NdefX.NScope [p] [p] [] scope) (hp : p = "place" ∨ p = "word")
    (hf : s.heap.get? f = some (lamO X (arg1 p q) body scope pm c' ctv)) (hc : H c' = some (LamX.CodeO c' (X.env.qual ++ "<lambda>"))) (hr : Room k X.A) (hd : X.A.depth + 3 * k + 7 < recursionLimit) (hu : X.A.units + 16 * k + 213 < cLine) (rv : RelV x v)
    (hb : Room k (X.A.in1.in1.deeper (NdefX.envF (lamF X (arg1 p q) scope c') f s.heap.objs.size)) → PE (NdefX.ncx (L2.CX X.prog X.w) X.prog X.w X.K X.mg X.base [p] (lamF X (arg1 p q) scope c') f X.A.in1.in1 X.stack s H fun _ _ _ => False) body tb)
    (ht : tb [some x] H Q) (fin : ∀ u s' y H', Inv X pins σ H' s' → Un (frs X.stack) [] H H' s.heap s'.heap → RelV y u → Q y H' → R u s') : wpAny (model X.prog X.w) X.A.in1.in1 (call (.ref f) [v]) R E' s := by
  have e0 := lam_env0 I
  have hr2 : ∀ env, Room k (X.A.in1.in1.deeper env) := fun env => ⟨hr.hd, by show X.A.depth + 1 + 3 * k + 5 < recursionLimit; omega, by show X.A.units + 1 + 1 + 3 + 16 * k + 200 < cLine; omega⟩
  have rc : codeAny (model X.prog X.w) X.A.in1.in1 (.call (.ref f) ⟨[v], []⟩) (CR (L2.CX X.prog X.w) X.stack X.prog X.w H s Q fun _ _ _ => False) s := by
    refine PySem.W.kla_callFunE (show X.A.depth < recursionLimit by omega) hf rfl S.co S.gen rfl (NdefX.codeO_at I.hok hc) ?_
    have hbind : bindArgs (PySem.W.kla_fn "<lambda>" (X.env.qual ++ "<lambda>") (arg1 p q) body scope [] pm (.ref c') ctv) ⟨[v], []⟩ = pure [(p, v)] := by
      rcases hp with rfl | rfl <;> rfl
    rw [hbind]
    have lim : s.heap.NoLimit := e0.mod.nolimit.keeps fun b o e => (e0.bs b o e).1
    refine wpAny_pure (wpAny_newFunctionEnv S.nocell (fun y hy => S.par y.1 (by rw [List.mem_singleton.mp hy]; exact List.mem_singleton.mpr rfl)) (fun h₁ hns hsb => ⟨lim.fresh _ hsb, ?_⟩) S.kind)
    show codeAny _ _ (.expr body (NdefX.envF (lamF X (arg1 p q) scope c') f s.heap.objs.size)) _ _
    have kp : ∀ b o, s.heap.get? b = some o → h₁.get? b = some o := fun b o e => hsb.extBut b o (Nat.ne_of_lt (Heap.lt_size e)) (Heap.get?_push_of_some _ e)
    have C : NdefX.CellsAt ([] : List (Str × Addr)) [] [] s.heap H := ⟨rfl, fun y c e => (by cases e), fun x y c e => (by cases e), fun i y e => (by simp at e)⟩
    have J : Inv (NdefX.ncx (L2.CX X.prog X.w) X.prog X.w X.K X.mg X.base [p] (lamF X (arg1 p q) scope c') f X.A.in1.in1 X.stack s H fun _ _ _ => False) [] (NdefX.startF [p] [x] []) H { s with heap := h₁, toks := s.toks + [(p, v)].length } :=
      NdefX.inv_startN S hr.hd e0 rfl (.cons rv .nil) C hns kp
    refine PySem.W.kla_codeExpr (wpAny_mono ((hb (hr2 _)).run [] _ _ H Q J ht) (fun u s' hq => ?_) fun e s' hq => hq)
    obtain ⟨w', H', J', rv', q'⟩ := hq
    exact ⟨w', H', J'.os, J'.bare, J'.base, J'.hok, rv', q'⟩
  refine wpAny_call (codeAny_mono rc fun r s' hq => ?_)
  cases r with
  | error e =>
    obtain ⟨_, _, _, _, _, _, _, _, _, _, _, _, z⟩ := (show L2.CX X.prog X.w X.stack H s (fun _ _ _ => False) e s' from hq)
    exact z.elim
  | ok fl =>
    cases fl with
    | ret u =>
      obtain ⟨y, H', os, bare, un, hok, r', q'⟩ := (show CE X.stack X.prog X.w H s Q u s' from hq)
      obtain ⟨y2, H2, I2, r2, q2, e2⟩ := (show EP X pins σ (fun v H'' => Q v H'' ∧ H'' = H') u s' from I.after ⟨y, H', os, bare, un, hok, r', q', rfl⟩)
      subst e2
      exact fin u s' y2 H2 I2 un r2 q2
    | next => exact False.elim hq
    | brk => exact False.elim hq
    | cont => exact False.elim hq
/-- objects of ours are written, one of them is tracked from now on -/
theorem turnedAt {h' : Heap} {t' : Nat} {ch : List Addr} {T : Addr} {ob : HO} (I : Inv X pins σ H s) (k : ∀ b o, b ∉ ch → s.heap.get? b = some o → h'.get? b = some o) (hf : ∀ b ∈ ch, FpOk X pins H b) (hT : T ∈ ch) (new : ObjOk X.prog X.w (upd H T ob) h' T ob) (hTn : ∀ b, ob ≠ .own b) :
    Inv X pins σ (upd H T ob) { s with heap := h', toks := t' } := by
  have hn : H T = none := (hf T hT).1
  have nit : ∀ b u, H b = some u → b ∉ ch := fun b u e z => by
    have q := (hf b z).1
    rw [q] at e; cases e
  refine I.step (g' := s.gens) (d' := s.drawn) (ch := ch) (fun b hb => ⟨(hf b hb).2.2.2.1, (hf b hb).2.1, (hf b hb).2.2.2.2.1, (hf b hb).2.2.2.2.2⟩) (fun b o _ _ hc e _ => k b o hc e) (fun b o _ _ hc e _ => ⟨o.slots, k b o hc e⟩)
    (fun b o hc e n => ?_) (fun b o hc e => ⟨o, k b o hc e⟩) (fun b xs e => ?_) (fun b o u e => ?_) (fun b ps e => ⟨#[], ?_⟩) (fun m hm => ?_) (fun b u e => ?_) I.bare
  · have nb : b ≠ T := fun z => hc (by rw [z]; exact hT)
    rw [upd_ne nb]; exact n
  · rw [upd_ne (ne_of_none e hn)]; exact e
  · rw [upd_ne (ne_of_none e hn)]; exact e
  · rw [upd_ne (ne_of_none e hn), e]; simp
  · obtain ⟨o, es, ep, ho, r⟩ := hm
    exact ⟨o, es, ep, k _ o (fun z => (hf _ z).2.1 rfl) ho, r⟩
  · by_cases hb : b = T
    · subst hb
      rw [upd_same] at e
      cases e
      exact new
    · rw [upd_ne hb] at e
      refine (I.hok b u e).stay (fun c v hc q => k c v ?_ q) (fun d q => by rw [upd_ne (ne_of_none q hn)]; exact q) fun d xs q => by rw [upd_ne (ne_of_none q hn)]; exact q
      rcases hc with z | z
      · rw [z]; exact nit b u e
      · exact nit c _ z
end
section
variable {X : Cx} {pins : List (Addr × Obj)} {σ : L2.St}
abbrev lsO (a : Array Value) (n : Nat) : Obj := PyProof.Rows.seqObj "list" a n
/-- in the midst of the keys' making -/
def KeysAt (X : Cx) (pins : List (Addr × Obj)) (σ : L2.St) (F H : Hp) (f a kS : Addr) (fo : Obj) (e1 : Nat) (kz : List D) (s' : Shared) : Prop :=
  ∃ (H' F' : Hp) (ks : List V) (kA : Array Value) (e : Nat), Inv X pins σ H' s' ∧ Ext F H F' H' ∧ RpAll X.K F' ks kz ∧ Vals ks kA.toList ∧ s'.heap.get? kS = some (lsO kA e) ∧ s'.heap.get? a = some (lsO #[] e1) ∧ s'.heap.get? f = some fo ∧ H' kS = none ∧ H' a = none ∧ H' f = none
theorem fpOk_at {H H' : Hp} {b : Addr} (h : FpOk X pins H b) (n : H' b = none) : FpOk X pins H' b := ⟨n, h.2⟩
theorem mapR_get {g : D → Res D} : ∀ {ds ks : List D}, mapR g ds = .ok ks → ks.length = ds.length ∧ ∀ (i : Nat) (d k : D), ds[i]? = some d → ks[i]? = some k → g d = .ok k
  | [], ks, h => by cases h; exact ⟨rfl, fun i d k q => by simp at q⟩
  | x :: r, ks, h => by
    have h' : (g x).bind (fun y => (mapR g r).bind fun ys => .ok (y :: ys)) = .ok ks := h
    cases q : g x with
    | exn c => rw [q] at h'; cases h'
    | stuck => rw [q] at h'; cases h'
    | ok y =>
      rw [q] at h'
      cases q2 : mapR g r with
      | exn c => rw [q2] at h'; cases h'
      | stuck => rw [q2] at h'; cases h'
      | ok ys =>
        rw [q2] at h'
        cases h'
        obtain ⟨i1, i2⟩ := mapR_get q2
        refine ⟨by rw [List.length_cons, List.length_cons, i1], fun i d k h1 h2 => ?_⟩
        cases i with
        | zero =>
          simp at h1 h2
          subst h1 h2
          exact q
        | succ i =>
          simp at h1 h2
          exact i2 i d k h1 h2
theorem vals_snoc : ∀ {xs : List V} {us : List Value} {x : V} {u : Value}, Vals xs us → RelV x u → Vals (xs ++ [x]) (us ++ [u])
  | [], _, x, u, .nil, r => .cons r .nil
  | _ :: _, _, x, u, .cons a b, r => .cons a (vals_snoc b r)
theorem each_reads {K : PySem.W.Frag} {F H : Hp} {s : Shared} (I : Inv X pins σ H s) (hK : X.K = K) (sub : Same F H) : ∀ {ks : List V} {us : List Value} {kz : List D}, RpAll K F ks kz → Vals ks us → (∀ k ∈ kz, k.canLay0 = true) → PySem.W.EachIs (fun v k => ∃ as, Reads s.heap v k as) us kz
  | _, _, _, .nil, .nil, _ => .nil
  | _, _, _, .cons r t, .cons rv tv, h => by
    subst hK
    obtain ⟨as, q⟩ := Dp.reads I _ _ _ ((r.mono sub).dp (h _ List.mem_cons_self)) rv
    exact .cons ⟨as, q⟩ (each_reads I rfl sub t tv fun k hk => h k (List.mem_cons_of_mem _ hk))
theorem each_back {K : PySem.W.Frag} {F : Hp} : ∀ {us : List Value} {bs : List (D × D)}, PySem.W.EachIs (fun v (b : D × D) => ∃ x : V, RelV x v ∧ Rp K F x b.1) us bs → ∃ xs : List V, Vals xs us ∧ RpAll K F xs (bs.map Prod.fst)
  | _, _, .nil => ⟨[], .nil, .nil⟩
  | _, _, .cons ⟨x, h1, h2⟩ t => by
    obtain ⟨xs, h3, h4⟩ := each_back t
    exact ⟨x :: xs, .cons h1 h3, .cons h2 h4⟩
theorem each_to {K : PySem.W.Frag} {F : Hp} : ∀ {xs : List V} {us : List Value} {ds kz : List D}, Vals xs us → RpAll K F xs ds → kz.length = ds.length → PySem.W.EachIs (fun v (b : D × D) => ∃ x : V, RelV x v ∧ Rp K F x b.1) us (ds.zip kz)
  | [], _, _, _, .nil, .nil, _ => .nil
  | _ :: _, _, _ :: _, [], .cons _ _, .cons _ _, h => by cases h
  | x :: xs, _, _ :: _, k :: kz, .cons r tr, .cons p tp, h => .cons ⟨x, r, p⟩ (each_to tr tp (by simpa using h))
theorem kinds_alike {ks : List D} (h : keyOk ks = true) : PySem.W.AllAlike ks ∧ PySem.W.Sortable ks ∧ ∀ k ∈ ks, k.depth ≤ 1 := by
  unfold keyOk at h
  rw [Bool.and_eq_true, Bool.or_eq_true, Bool.or_eq_true] at h
  have k1 : ∀ k : D, kindK k = 1 → ∃ i, k = .int i := fun k e => by
    unfold kindK at e
    split at e <;> first | exact ⟨_, rfl⟩ | cases e
  have k2 : ∀ k : D, kindK k = 2 → ∃ i, k = .str i := fun k e => by
    unfold kindK at e
    split at e <;> first | exact ⟨_, rfl⟩ | cases e
  have k3 : ∀ k : D, kindK k = 3 → ∃ i t, k = .tuple [.int i, .str t] := fun k e => by
    unfold kindK at e
    split at e <;> first | exact ⟨_, _, rfl⟩ | cases e
  rcases h.1 with (h | h) | h
  · have al : ∀ k ∈ ks, ∃ i, k = PyData.int i := fun k hk => k1 k (of_decide_eq_true (List.all_eq_true.mp h k hk))
    refine ⟨fun d hd d' hd' => ?_, .inr fun d hd => ?_, fun d hd => ?_⟩
    · obtain ⟨i, rfl⟩ := al d hd
      obtain ⟨j, rfl⟩ := al d' hd'
      rfl
    · obtain ⟨i, rfl⟩ := al d hd
      exact ⟨fun z => (by cases z), fun xs z => (by cases z)⟩
    · obtain ⟨i, rfl⟩ := al d hd
      exact Nat.zero_le 1
  · have al : ∀ k ∈ ks, ∃ i, k = PyData.str i := fun k hk => k2 k (of_decide_eq_true (List.all_eq_true.mp h k hk))
    refine ⟨fun d hd d' hd' => ?_, .inr fun d hd => ?_, fun d hd => ?_⟩
    · obtain ⟨i, rfl⟩ := al d hd
      obtain ⟨j, rfl⟩ := al d' hd'
      rfl
    · obtain ⟨i, rfl⟩ := al d hd
      exact ⟨fun z => (by cases z), fun xs z => (by cases z)⟩
    · obtain ⟨i, rfl⟩ := al d hd
      exact Nat.zero_le 1
  · have al : ∀ k ∈ ks, ∃ i t, k = PyData.tuple [.int i, .str t] := fun k hk => k3 k (of_decide_eq_true (List.all_eq_true.mp h k hk))
    refine ⟨fun d hd d' hd' => ?_, .inl fun d hd => ?_, fun d hd => ?_⟩
    · obtain ⟨i, t, rfl⟩ := al d hd
      obtain ⟨j, u, rfl⟩ := al d' hd'
      rfl
    · obtain ⟨i, t, rfl⟩ := al d hd
      exact ⟨_, _, rfl⟩
    · obtain ⟨i, t, rfl⟩ := al d hd
      exact Nat.le_refl 1

theorem rs_one {K : PySem.W.Frag} {F H : Hp} {x : V} {d : D} (sub : Same F H) (r : Rp K F x d) (t : TabF F H) : RS K F H F H [some x] [some (.val d)] where
  ext := Ext.refl sub
  tab0 := t
  len := rfl
  val := fun i e h => by
    match i, h with
    | 0, h => cases h; exact ⟨x, rfl, r⟩
    | i + 1, h => simp at h
  own := fun i e h => by
    match i, h with
    | 0, h => cases h
    | i + 1, h => simp at h
  inj := fun i j d e a h _ _ _ => by
    match i, h with
    | 0, h => cases h
    | i + 1, h => simp at h
theorem noExn_eq {α : Type} {r : Res α} {a : α} (h : noExn r = .ok a) : r = .ok a := by
  cases r with
  | ok b => exact h
  | exn c => cases h
  | stuck => cases h
theorem keys_made {gk : Env → Res D} {F H : Hp} {s : Shared} {p : Str} {q : Pos} {body : Expr} {scope : Scope} {pm ctv : Value} {f c' a kS : Addr} {k e1 : Nat} {xs : List V} {us : List Value} {ds kz : List D} {P : PySem.Fin → Shared → Prop} {E' : Value → Shared → Prop}
    (K0 : KeysAt X pins σ F H f a kS (lamO X (arg1 p q) body scope pm c' ctv) e1 [] s) (fa : FpOk X pins H a) (fk : FpOk X pins H kS) (hka : kS ≠ a) (hkf : kS ≠ f) (haf : a ≠ f) (nfa : a ∉ frs X.stack) (nfk : kS ∉ frs X.stack) (nff : f ∉ frs X.stack) (S : NdefX.NScope [p] [p] [] scope) (hp : p = "place" ∨ p = "word")
    (hc : H c' = some (LamX.CodeO c' (X.env.qual ++ "<lambda>"))) (hr : Room k X.A) (hd : X.A.depth + 3 * k + 7 < recursionLimit) (hu : X.A.units + 16 * k + 213 < cLine) (rv : Vals xs us) (rp : RpAll X.K F xs ds) (hm : mapR (fun d => noExn (gk [some (.val d)])) ds = .ok kz) (hok : keyOk kz = true) (hz : ds.length ≤ sizeLine)
    (hb : ∀ (s1 : Shared) (F1 H1 : Hp), Room k (X.A.in1.in1.deeper (NdefX.envF (lamF X (arg1 p q) scope c') f s1.heap.objs.size)) → PE (NdefX.ncx (L2.CX X.prog X.w) X.prog X.w X.K X.mg X.base [p] (lamF X (arg1 p q) scope c') f X.A.in1.in1 X.stack s1 H1 fun _ _ _ => False) body (tE X.K (fun _ _ => False) F1 H1 gk))
    (tb0 : TabF F H) (fin : ∀ s' H' F' out, Inv X pins σ (upd H' a (.lst out)) s' → Ext F H F' H' → H' a = none → RpAll X.K F' out ((sortP (ds.zip kz)).map Prod.fst) → P (.done (.ret .none)) s') :
    wpAny (model X.prog X.w) X.A.in1.in1 (ksk_rest a (.ref f) false us.toArray e1 (.ref kS)) P E' s := by
  obtain ⟨hkl, hkg⟩ := mapR_get hm
  have hul : us.length = ds.length := by rw [← rv.length, rp.length]
  obtain ⟨al, so, dp⟩ := kinds_alike hok
  have lay : ∀ k ∈ kz, k.canLay0 = true := fun k hk => by
    unfold keyOk at hok
    rw [Bool.and_eq_true] at hok
    exact List.all_eq_true.mp hok.2 k hk
  unfold ksk_rest
  refine wpAny_bind (wpAny_rule ?_)
  rw [List.forIn_toArray]
  refine wpAny_bind (ksk_fold (fun i s' => KeysAt X pins σ F H f a kS (lamO X (arg1 p q) body scope pm c' ctv) e1 (kz.take i) s') us 0 s (by rw [List.take_zero]; exact K0) ?step ?done)
  case step =>
    rintro j u s' hx ⟨H', F', ks, kA, e, I, ex, rk, vk, nk, na, nf, n1, n2, n3⟩
    simp only [Nat.zero_add] at rk ⊢
    have hj : j < us.length := (List.getElem?_eq_some_iff.mp hx).1
    obtain ⟨kd, hkj⟩ : ∃ kd, kz[j]? = some kd := ⟨_, List.getElem?_eq_getElem (by omega)⟩
    obtain ⟨d, hdj⟩ : ∃ d, ds[j]? = some d := ⟨_, List.getElem?_eq_getElem (by omega)⟩
    obtain ⟨x, hxj, rx⟩ := rp.get hdj
    obtain ⟨u', hu', ru⟩ := rv.get hxj
    rw [hx] at hu'
    cases hu'
    have hgd := noExn_eq (hkg j d kd hdj hkj)
    have hlen : kA.size ≤ ds.length := by
      have h1 := rk.length
      have h2 : ks.length = kA.size := by rw [vk.length, Array.length_toList]
      rw [List.length_take] at h1
      omega
    have tb1 : TabF F' H' := tb0.more ex
    refine wpAny_bind (wpAny_attempt (lam_call (Q := fun y H2 => ∃ F2, Ext F' H' F2 H2 ∧ Rp X.K F2 y kd) I S hp nf (ex.h.keep _ _ hc LamX.codeO_ne) hr hd hu ru (hb s' F' H') ⟨[some (.val d)], F', rs_one ex.sub (rx.mono ex.f) tb1, ?_⟩ fun w s2 y H2 I2 un ry ⟨F2, ex2, ry2⟩ => ?_))
    · rw [hgd]
      exact fun F2 H2 e2 v r2 => ⟨F2, e2, r2⟩
    · have keep : ∀ b o, H' b = none → b ∉ frs X.stack → s'.heap.get? b = some o → s2.heap.get? b = some o := fun b o n nf e => un.keep b o e n nf (by simp)
      have free : ∀ b o, s'.heap.get? b = some o → H' b = none → H2 b = none := fun b o e n => un.free b o e n (by simp)
      have nk2 := keep kS _ n1 nfk nk
      have na2 := keep a _ n2 nfa na
      have nf2 := keep f _ n3 nff nf
      have m1 := free kS _ nk n1
      have m2 := free a _ na n2
      have m3 := free f _ nf n3
      have s1 := Heap.SameBut.update s2.heap kS (Obj.mapSeq (·.push w))
      obtain ⟨c2, hc2⟩ : ∃ c2, (s2.heap.update kS (Obj.mapSeq (·.push w))).get? kS = some (lsO (kA.push w) c2) := ⟨_, get?_update_seq nk2 (·.push w)⟩
      have ek : kz.take (j + 1) = kz.take j ++ [kd] := by rw [List.take_add_one, hkj]; simp
      have ea : (kA.push w).toList = kA.toList ++ [w] := by simp
      refine wpAny_bind (listUpdate_at nk2 rfl ?_ (Nat.le_trans hlen hz) (Nat.le_trans (Nat.le_of_eq (Array.size_push ..)) (Nat.succ_le_succ (Nat.le_trans hlen hz))))
      refine wpAny_pure ⟨rfl, H2, F2, ks ++ [y], kA.push w, c2, ?_, ex.trans ex2, ?_, ?_, hc2, (s1.2 a hka.symm).trans na2, (s1.2 f hkf.symm).trans nf2, m1, m2, m3⟩
      · exact I2.turnedL (ch := [kS]) (t' := s2.toks) (fun b o hb e => (s1.2 b (fun z => hb (by simp [z]))).trans e) fun b hb => by
          rw [List.mem_singleton.mp hb]
          exact fpOk_at fk m1
      · rw [ek]
        exact RpAll.append (rk.mono ex2.f) (.cons ry2 .nil)
      · rw [ea]
        exact vals_snoc vk ry
  case done =>
    rintro s' ⟨H', F', ks, kA, e, I, ex, rk, vk, nk, na, nf, n1, n2, n3⟩
    have et : kz.take (0 + us.length) = kz := List.take_of_length_le (by omega)
    rw [et] at rk
    have hk' := each_reads I rfl ex.sub rk vk lay
    have hsz : kA.size = us.length := by
      have h1 := rk.length
      have h2 : ks.length = kA.size := by rw [vk.length, Array.length_toList]
      omega
    refine wpAny_bind (listItems_at nk rfl ?_)
    obtain ⟨G, g1, g2⟩ := restrict s'.heap fun b => decide (b ≠ kS)
    have gk' : ∀ b o, b ≠ kS → s'.heap.get? b = some o → G.get? b = some o := fun b o hb e => by rw [g1 b (decide_eq_true hb)]; exact e
    have gs : ∀ b o, G.get? b = some o → s'.heap.get? b = some o := fun b o e => by
      by_cases hb : b = kS
      · rw [hb, g2 kS (decide_eq_false fun z => z rfl)] at e; cases e
      · rw [g1 b (decide_eq_true hb)] at e; exact e
    refine PySem.W.keyH_end (κ := PySem.W.dataKind s'.heap kz) (h₁ := G) (b := false) (fun b o _ e => gs b o e) (g2 kS (decide_eq_false fun z => z rfl)) nk na hka (PySem.W.SortsAt.data (s := s') hk' al so fun d hd => ?_) hsz (by rw [hul]; exact hz) fun h3 tk3 c k3 n4 => ?_
    · have := dp d hd
      show X.A.units + 1 + 1 + d.depth < cLine
      omega
    · have ko : PySem.W.KeyedOut false kz us (PySem.W.sortVals (PySem.W.dataKind s'.heap kz) false kA.toList us) := ⟨s'.heap, kA.toList, al, rfl, hk'⟩
      have em : (ds.zip kz).map Prod.snd = kz := by rw [List.map_snd_zip]; omega
      have ee := each_to rv (rp.mono ex.f) hkl
      have ko2 : PySem.W.KeyedOut false ((ds.zip kz).map Prod.snd) us (PySem.W.sortVals (PySem.W.dataKind s'.heap kz) false kA.toList us) := by rw [em]; exact ko
      obtain ⟨out, o1, o2⟩ := each_back (PySem.W.keyedOut_each (rev := false) Prod.snd ko2 ee)
      have ol : out.length = us.length := by
        rw [o1.length]
        exact ko.length (by omega)
      refine fin _ H' F' out (turnedAt (ch := [a, kS]) (t' := tk3) (ob := .lst out) I (fun b o hb e => ?_) (fun b hb => ?_) List.mem_cons_self ?_ fun b z => by cases z) ex n2 o2
      · simp only [List.mem_cons, List.not_mem_nil, or_false, not_or] at hb
        exact k3 b o hb.1 (gk' b o hb.2 e)
      · simp only [List.mem_cons, List.not_mem_nil, or_false] at hb
        rcases hb with rfl | rfl
        · exact fpOk_at fa n2
        · exact fpOk_at fk n1
      · exact ⟨by rw [ol, hul]; exact hz, _, c, o1, n4⟩
theorem sorted_made {gk : Env → Res D} {F H : Hp} {s : Shared} {p : Str} {q : Pos} {body : Expr} {scope : Scope} {pm ctv : Value} {f c' l : Addr} {k : Nat} {xs : List V} {ds kz : List D} {Q : VK} (I : Inv X pins σ H s) (hf : s.heap.get? f = some (lamO X (arg1 p q) body scope pm c' ctv)) (nf : H f = none) (nff : f ∉ frs X.stack)
    (S : NdefX.NScope [p] [p] [] scope) (hp : p = "place" ∨ p = "word") (hc : H c' = some (LamX.CodeO c' (X.env.qual ++ "<lambda>"))) (hr : Room k X.A) (hd : X.A.depth + 3 * k + 7 < recursionLimit) (hu : X.A.units + 16 * k + 213 < cLine) (sub : Same F H) (sq : SqL X.K H l xs ∨ SqT X.K H l xs) (rp : RpAll X.K F xs ds)
    (hm : mapR (fun d => noExn (gk [some (.val d)])) ds = .ok kz) (hok : keyOk kz = true) (hz : ds.length ≤ sizeLine)
    (hb : ∀ (s1 : Shared) (F1 H1 : Hp), Room k (X.A.in1.in1.deeper (NdefX.envF (lamF X (arg1 p q) scope c') f s1.heap.objs.size)) → PE (NdefX.ncx (L2.CX X.prog X.w) X.prog X.w X.K X.mg X.base [p] (lamF X (arg1 p q) scope c') f X.A.in1.in1 X.stack s1 H1 fun _ _ _ => False) body (tE X.K (fun _ _ => False) F1 H1 gk))
    (tb0 : TabF F H) (fin : ∀ F' H' v, Ext F H F' H' → Rp X.K F' v (.list ((sortP (ds.zip kz)).map Prod.fst)) → Q v H') : wpAny (model X.prog X.w) X.A (call (.builtin "sorted") [.ref l] [("key", .ref f)]) (EP X pins σ Q) X.xe s := by
  obtain ⟨its, r, T, o, hT, ho, ho1, n, ho2⟩ : ∃ its, Vals xs its ∧ ∃ (T : String) (o : Obj), (T = "list" ∨ T = "tuple") ∧ s.heap.get? l = some o ∧ o.cls = .type T ∧ ∃ n, o.data = .seq its.toArray n := by
    rcases sq with sq | sq
    · obtain ⟨its, r, p, _⟩ := I.list sq
      obtain ⟨o, a1, a2, n, a3⟩ := p.isList
      exact ⟨its, r, "list", o, .inl rfl, a1, a2, n, a3⟩
    · obtain ⟨its, r, p, _⟩ := I.tuple sq
      obtain ⟨o, a1, a2, n, a3⟩ := p
      exact ⟨its, r, "tuple", o, .inr rfl, a1, a2, n, a3⟩
  have hil : its.length = ds.length := by rw [← r.length, rp.length]
  refine call_function_entry_kw kind_sorted plain_sorted entry_sorted (ksk_s1 _ _) ?_
  unfold Builtin.«sorted»
  refine wpAny_bind (m := checkCount "sorted" 1 1 _) (wpAny_pure ?_)
  refine wpAny_bind (wpAny_collect_seq l hT ho ho1 ho2 (fun h' kp => ?_) (by rw [List.size_toArray, hil]; exact hz))
  rw [List.toList_toArray]
  refine wpAny_bind (wpAny_newList ?_ (by rw [hil]; exact hz))
  have I1 : Inv X pins σ H { s with heap := h' } := I.kept (t' := s.toks) kp
  have nofr : ∀ b, h'.objs.size ≤ b → b ∉ frs X.stack := fun b hb z => by
    rcases List.mem_cons.mp (I1.stkSub _ z) with e | e
    · have h1 := I1.lt
      rw [← e] at h1
      exact Nat.lt_irrefl _ (Nat.lt_of_lt_of_le h1 hb)
    · exact I1.nofs hb e
  have ga : (h'.push (lsO its.toArray 0)).get? h'.objs.size = some (lsO its.toArray 0) := Heap.get?_push_size _ rfl
  refine wpAny_bind (wpAny_holding (wpAny_call_entry_kw slot_list_sort ⟨_, ga, rfl⟩ entry_list_sort ?body (ksk_l1 _ _)))
  case body =>
    show wpAny (model X.prog X.w) X.A.in1.in1 (Builtin.«list.sort» ⟨[.ref h'.objs.size], [(Str.ofString "key", .ref f)]⟩) _ _ _
    rw [ksk_t1]
    unfold ksk_tree
    have hz' : its.toArray.size ≤ sizeLine := by rw [List.size_toArray, hil]; exact hz
    obtain ⟨e1, ho1'⟩ : ∃ e1, ((h'.push (lsO its.toArray 0)).update h'.objs.size (Obj.mapSeq fun _ => (#[] : Array Value))).get? h'.objs.size = some (lsO #[] e1) := ⟨_, get?_update_seq ga fun _ => #[]⟩
    refine wpAny_bind (listItems_at ga rfl ?_)
    refine wpAny_bind (listUpdate_at ga rfl ?_ hz' (Nat.zero_le _))
    refine wpAny_bind (seqEpoch_at ho1' rfl ?_)
    refine wpAny_bind (wpAny_newTuple ?_ (by show its.length ≤ _; rw [hil]; exact hz))
    refine wpAny_bind (wpAny_newList ?_ (Nat.zero_le _))
    refine wpAny_holding ?_
    have z1 : ((h'.push (lsO its.toArray 0)).update h'.objs.size (Obj.mapSeq fun _ => (#[] : Array Value))).objs.size = h'.objs.size + 1 := by rw [Heap.size_update, Heap.size_push]
    have z2 : (((h'.push (lsO its.toArray 0)).update h'.objs.size (Obj.mapSeq fun _ => (#[] : Array Value))).push (seqObj "tuple" its.toArray 0)).objs.size = h'.objs.size + 2 := by rw [Heap.size_push, z1]
    have sb := Heap.SameBut.update (h'.push (lsO its.toArray 0)) h'.objs.size (Obj.mapSeq fun _ => (#[] : Array Value))
    have up : ∀ b o, h'.get? b = some o → ((((h'.push (lsO its.toArray 0)).update h'.objs.size (Obj.mapSeq fun _ => (#[] : Array Value))).push (seqObj "tuple" its.toArray 0)).push (seqObj "list" #[] 0)).get? b = some o := fun b o e => Heap.get?_push_of_some _ (Heap.get?_push_of_some _ ((sb.2 b (Nat.ne_of_lt (Heap.lt_size e))).trans (Heap.get?_push_of_some _ e)))
    have I2 : Inv X pins σ H { s with heap := (((h'.push (lsO its.toArray 0)).update h'.objs.size (Obj.mapSeq fun _ => (#[] : Array Value))).push (seqObj "tuple" its.toArray 0)).push (seqObj "list" #[] 0) } := I1.kept (t' := s.toks) up
    have le2 : h'.objs.size ≤ h'.objs.size + 2 := Nat.le_add_right _ _
    have hfl : f < h'.objs.size := Heap.lt_size (kp _ _ hf)
    have fA : FpOk X pins H h'.objs.size := I1.fpOk (Nat.le_refl _) (I1.hok.fresh (Nat.le_refl _))
    have fK : FpOk X pins H (h'.objs.size + 2) := I1.fpOk le2 (I1.hok.fresh le2)
    have gK : ((((h'.push (lsO its.toArray 0)).update h'.objs.size (Obj.mapSeq fun _ => (#[] : Array Value))).push (seqObj "tuple" its.toArray 0)).push (seqObj "list" #[] 0)).get? (h'.objs.size + 2) = some (lsO #[] 0) := by
      have := Heap.get?_push_size (((h'.push (lsO its.toArray 0)).update h'.objs.size (Obj.mapSeq fun _ => (#[] : Array Value))).push (seqObj "tuple" its.toArray 0)) (o := seqObj "list" #[] 0) rfl
      rw [z2] at this
      exact this
    rw [z2]
    refine keys_made (kS := h'.objs.size + 2) (F := F) (H := H) (e1 := e1) (xs := xs) (ds := ds) (kz := kz) ⟨H, F, [], #[], 0, I2, Ext.refl sub, .nil, .nil, gK, Heap.get?_push_of_some _ (Heap.get?_push_of_some _ ho1'), up _ _ (kp _ _ hf), fK.1, fA.1, nf⟩ fA fK (Nat.ne_of_gt (Nat.lt_add_of_pos_right (by decide))) (Nat.ne_of_gt (Nat.lt_of_lt_of_le hfl le2)) (Nat.ne_of_gt hfl) (nofr _ (Nat.le_refl _)) (nofr _ le2) nff S hp hc hr hd hu r rp hm hok hz hb tb0 fun s' H' F' out J ex n ra => ?_
    refine ⟨_, rfl, wpAny_pure ⟨_, rfl, .ref h'.objs.size, _, J, rfl, fin (upd F' h'.objs.size (.lst out)) _ _ (ex.trans (Ext.add ex.sub n)) (rp_lst ex.sub n ra)⟩⟩
end
theorem mapR_no {g : D → Res D} (h : ∀ d c, g d ≠ .exn c) : ∀ (ds : List D) (c : Nat), mapR g ds ≠ .exn c
  | [], c, z => by cases z
  | d :: r, c, z => by
    have z' : (g d).bind (fun x => (mapR g r).bind fun xs => .ok (x :: xs)) = .exn c := z
    cases q : g d with
    | exn e => exact h d e q
    | stuck => rw [q] at z'; cases z'
    | ok y =>
      rw [q] at z'
      cases q2 : mapR g r with
      | exn e => exact mapR_no h r e q2
      | stuck => rw [q2] at z'; cases z'
      | ok ys => rw [q2] at z'; cases z'
theorem noExn_no' {α : Type} (r : Res α) (c : Nat) : noExn r ≠ .exn c := by
  cases r <;> exact fun z => by cases z
theorem seqD_ok {x : D} {ds : List D} (h : seqD x = .ok ds) : x = .list ds ∨ x = .tuple ds := by
  cases x with
  | list e => cases h; exact .inl rfl
  | tuple e => cases h; exact .inr rfl
  | _ => cases h
theorem sortk_split {C : Cfg} {m : Md} {a key : E} {p : Str} {x : Expr} (h : chk C m (.sortk a key p) x = true) : ∃ p1 y qp body scope lp kp pos, x = .Call (.Name "sorted" p1) [y] [⟨some "key", .Lambda (arg1 p qp) body scope lp, kp⟩] pos ∧ m.isTst = false ∧ glB C.sc "sorted" = true ∧ chk C .opd a y = true ∧ notStar y = true ∧ C.lam = true ∧ (p = "place" ∨ p = "word") ∧ NdefX.nscB [p] [p] [] scope = true ∧ chk (C.body p scope) .val key body = true := by
  cases x with
  | Call fn args kws pos =>
    cases fn with
    | Name x p1 =>
      match args, h with
      | [y], h =>
        have h' : (!m.isTst && decide (x = "sorted") && glB C.sc x && chk C .opd a y && notStar y && C.lam && (match (generalizing := false) keyOf kws with
          | some (kn, q, _, body, scope, _) => decide (kn = "key") && decide (q = p) && (decide (p = "place") || decide (p = "word")) && NdefX.nscB [p] [p] [] scope && chk (C.body p scope) .val key body
          | none => false)) = true := h
        simp only [Bool.and_eq_true] at h'
        obtain ⟨⟨⟨⟨⟨⟨h1, h2⟩, h3⟩, h4⟩, h5⟩, h6⟩, h7⟩ := h'
        cases z : keyOf kws with
        | none => rw [z] at h7; exact Bool.noConfusion h7
        | some t =>
          obtain ⟨kn, q, qp, body, scope, lp⟩ := t
          rw [z] at h7
          obtain ⟨kp, rfl⟩ := keyOf_some z
          simp only [Bool.and_eq_true, Bool.or_eq_true, decide_eq_true_eq] at h7
          obtain ⟨⟨⟨⟨g1, g2⟩, g3⟩, g4⟩, g5⟩ := h7
          have e := of_decide_eq_true h2
          subst e g1 g2
          exact ⟨p1, y, qp, body, scope, lp, kp, pos, rfl, by simpa using h1, h3, h4, h5, h6, g3, g4, g5⟩
      | [], h => exact Bool.noConfusion h
      | _ :: _ :: _, h => exact Bool.noConfusion h
    | _ => exact Bool.noConfusion h
  | _ => exact Bool.noConfusion h
theorem se_sortk {a key : E} {p : Str} (ha : SE a) (hk : SE key) : SE (.sortk a key p) := by
  refine se_plain fun {X C k Φ cs clsA W F0 H0} hX m x h => ?_
  obtain ⟨p1, y, qp, body, scope, lp, kp, pos, rfl, h1, h2, h3, h4, h5, h6, h7, h8⟩ := sortk_split h
  refine ⟨h1, ?_⟩
  obtain ⟨on, ⟨c, hcode, TB⟩, hnm, sd, su⟩ := hX.lam h5
  have S := NdefX.nscope_by h7
  have nfree : ∀ y ∈ scope.names, y.2 ≠ .free := fun y hy e => by
    have := S.free y hy e
    cases this
  refine ⟨fun pins s σ H Q I ⟨env, F, rs, kk⟩ => ?_⟩
  refine wpAny_Call_Name_kw (ld_blt I (hX.gl h2) (hX.no (by decide +kernel)) boot_sorted ?_)
  have PAy := pa_cons ((ha (F0 := F0) (H0 := H0) hX y).2.1 h3) (pa_nil (X := X)) (star_of h4)
  refine callWith_kw (thn (PAy.run pos pins s σ H (fun vs H1 => ∃ F1 d v, vs = [v] ∧ Ext F H F1 H1 ∧ RpO X.K F1 H1 v d ∧ KE X.K W F1 H1 (sortkD (fun d => noExn (ev Φ cs key [some (.val d)])) d) Q) I ⟨env, F, rs, (KR.bind kk).imp fun F1 H1 d e1 k1 v r1 => ⟨F1, d, v, rfl, e1, r1, k1⟩⟩) fun us s1 ⟨vs, H1, I1, r1, F1, d, v, e1, ex1, ro, k1⟩ => ?_) (by rw [star_of h4]; rfl) (by rw [star_of h4]; rfl) rfl rfl
  subst e1
  obtain ⟨u, rfl, ru⟩ := r1.one
  have tabF := (rs.more ex1).tab
  show wpAny _ _ (evalAll [(do let v ← eval (.Lambda (arg1 p qp) body scope lp) X.env; standAt pos; pure v)]) _ _ s1
  refine wpAny_evalAll_cons (wpAny_bind (lam_make3 I1 TB hcode hnm tabF.1 on rfl nfree fun f c' pm ctv H2 s2 I2 sg st hf nf nff hco => wpAny_bind (wpAny_standAt (wpAny_pure ?_))))
  refine wpAny_evalAll_nil ?_
  show wpAny _ _ (call (.builtin "sorted") [u] [("key", .ref f)]) _ _ s2
  have ex2 : Ext F1 H1 F1 H2 := ⟨Same.refl F1, sg, fun b o e => st b o (fun z => by rw [z, tabF.2 on] at e; cases e) (ex1.sub b o e), fun b o e => .inl e⟩
  have k2 : KE X.K W F1 H2 (sortkD (fun d => noExn (ev Φ cs key [some (.val d)])) d) Q := KR.ext k1 ex2
  unfold sortkD at k2
  cases z1 : seqD d with
  | exn c => rw [z1] at k2; cases d <;> cases z1
  | stuck => rw [z1] at k2; exact k2.elim
  | ok ds =>
    rw [z1] at k2
    replace k2 : KE X.K W F1 H2 ((mapR (fun d => noExn (ev Φ cs key [some (.val d)])) ds).bind fun ks => need (keyOk ks && fitsZ ds.length) (.ok (.list ((sortP (ds.zip ks)).map Prod.fst)))) Q := k2
    cases z2 : mapR (fun d => noExn (ev Φ cs key [some (.val d)])) ds with
    | exn c => exact absurd z2 (mapR_no (fun d c => noExn_no' _ c) ds c)
    | stuck => rw [z2] at k2; exact k2.elim
    | ok kz =>
      rw [z2] at k2
      obtain ⟨z3, k3⟩ := KR.need (show KR _ W F1 H2 (need (keyOk kz && fitsZ ds.length) (.ok (PyData.list ((sortP (ds.zip kz)).map Prod.fst)))) from k2)
      rw [Bool.and_eq_true] at z3
      obtain ⟨l, xs, rfl, sq, rp⟩ : ∃ l xs, v = .ref l ∧ (SqL X.K H2 l xs ∨ SqT X.K H2 l xs) ∧ RpAll X.K F1 xs ds := by
        have ro2 := ro.mono ex2
        rcases seqD_ok z1 with rfl | rfl
        · obtain ⟨l, xs, e, q1, q2⟩ := ro2.lst ex2.sub
          exact ⟨l, xs, e, .inl q1, q2⟩
        · obtain ⟨l, xs, e, q1, q2, _⟩ := ro2.tup ex2.sub
          exact ⟨l, xs, e, .inr q1, q2⟩
      obtain rfl : u = Value.ref l := ru
      refine sorted_made (F := F1) I2 hf nf nff S h6 hco hX.room sd su ex2.sub sq rp z2 z3.1 (fits_le z3.2) (fun s3 F3 H3 hr3 => ?_) (tabF.more ex2) fun F' H' v' e' r' => k3 F' H' e' v' r'
      refine (hk (F0 := F3) (H0 := H3) (X := NdefX.ncx (L2.CX X.prog X.w) X.prog X.w X.K X.mg X.base [p] (lamF X (arg1 p qp) scope c') f X.A.in1.in1 X.stack s3 H3 fun _ _ _ => False) (C := C.body p scope) (k := k) (clsA := clsA) ⟨rfl, by simp [Cfg.body], rfl, fun x z => Bool.noConfusion z, rfl, hX.fns, hX.csts, hX.blt, hr3, fun z => Bool.noConfusion z, ?_⟩ body).1 h8
      exact Takes.imp (takes_of (E := fun _ _ _ => False) rfl rfl rfl rfl) fun cls d σ H ⟨c, e1, e2, q⟩ => q
end MW

set_option maxRecDepth 100000
set_option maxHeartbeats 1000000
/-! Part 2i: loops' items, comprehensions; all expressions. -/
namespace MW
open PySem PySem.Spec PyProof.Rows L2
open Res
variable [Lam]
section
variable {X : Cx} {C : Cfg} {k : Nat} {Φ : Phi} {cs : Nat → Res D} {clsA : Nat → Addr} {W : Nat → Hp → Prop} {F0 H0 : Hp}
def gI (Φ : Phi) (cs : Nat → Res D) (ik : IK) (ia : Es) (env : Env) : Res (List D) := (evs Φ cs ia env).bind fun ds => iterD ik ds
theorem one_arg {m : Md} {ia : Es} {x : Expr} (h : chks C m ia [x] = true) : ∃ e, ia = .cons e .nil ∧ chk C m e x = true := by
  cases ia with
  | nil => exact Bool.noConfusion h
  | cons e r =>
    have h' : (chk C m e x && notStar x && chks C m r []) = true := h
    rw [Bool.and_eq_true, Bool.and_eq_true] at h'
    cases r with
    | nil => exact ⟨e, rfl, h'.1.1⟩
    | cons _ _ => exact Bool.noConfusion h'.2
theorem two_args {m : Md} {ia : Es} {x y : Expr} (h : chks C m ia [x, y] = true) : ∃ e f, ia = .cons e (.cons f .nil) ∧ chk C m e x = true ∧ chk C m f y = true := by
  cases ia with
  | nil => exact Bool.noConfusion h
  | cons e r =>
    have h' : (chk C m e x && notStar x && chks C m r [y]) = true := h
    rw [Bool.and_eq_true, Bool.and_eq_true] at h'
    obtain ⟨f, rfl, h2⟩ := one_arg h'.2
    exact ⟨e, f, rfl, h'.1.1, h2⟩
/-- KR of one operand's walk -/
theorem gI_one {R : Hp → Hp → List D → Prop} {F H : Hp} {ik : IK} {e : E} {env : Env} (k : KR R W F H (gI Φ cs ik (.cons e .nil) env)) : KR (fun F1 H1 d => KR R W F1 H1 (iterD ik [d])) W F H (ev Φ cs e env) := by
  have e1 : gI Φ cs ik (.cons e .nil) env = (ev Φ cs e env).bind fun d => iterD ik [d] := by
    show (((ev Φ cs e env).bind fun d => (evs Φ cs .nil env).bind fun ds => .ok (d :: ds))).bind (fun ds => iterD ik ds) = _
    rw [bind_assoc]
    rfl
  rw [e1] at k
  exact KR.bind k
theorem RpM.int {strong : Bool} {K : PySem.W.Frag} {F H : Hp} {v : V} {i : Int} (h : RpM strong K F H v (.int i)) : v = .int i := h.o.int
/-- the slots' parts of a PA of operands of the kind asked -/
theorem pa1 {e : E} {x : Expr} {strong : Bool} (hX : XOk X C k Φ cs clsA W) (he : SE e) (h : chk C (mdOf strong) e x = true) : PA X [x] (tCons (tM strong X.K W F0 H0 (ev Φ cs e)) tNil) :=
  pa_cons (pe_m (F0 := F0) (H0 := H0) hX he strong h) pa_nil (star_of (chk_notStar h))
theorem star1 {x : Expr} {m : Md} {e : E} (h : chk C m e x = true) : starEach [x] X.env = [(false, eval x X.env)] := star_of (chk_notStar h)
theorem range_ok {lo hi : Int} {R : Hp → Hp → List D → Prop} {F H : Hp} (k : KR R W F H (rangeD lo hi)) : (-(2 ^ 62) ≤ lo ∧ lo < 2 ^ 62 ∧ -(2 ^ 62) ≤ hi ∧ hi < 2 ^ 62) ∧ KR R W F H (.ok ((List.range (hi - lo).toNat).map fun i => .int (lo + (i : Nat)))) := by
  obtain ⟨z, k⟩ := KR.need k
  simp only [Bool.and_eq_true, decide_eq_true_eq] at z
  exact ⟨⟨z.1.1.1.1, z.1.1.1.2, z.1.1.2, z.1.2⟩, k⟩
/-- all that is ahead of a loop -/
def SIt (ia : Es) : Prop := ∀ e, (ia = .cons e .nil → SE e) ∧ ∀ f, ia = .cons e (.cons f .nil) → SE e ∧ SE f
theorem pi_of {ik : IK} {ia : Es} {tg iter : Expr} {xs : List Expr} {strong : Bool} (hX : XOk X C k Φ cs clsA W) (hs : SIt ia) (ha : itArgs C ik tg iter = some xs) (h : chks C (mdOf strong) ia xs = true) :
    PI X tg iter (tI X.K W F0 H0 strong (gI Φ cs ik ia)) := by
  cases ik with
  | of =>
    cases ha
    obtain ⟨e, rfl, he⟩ := one_arg h
    have pe := pe_m (F0 := F0) (H0 := H0) hX ((hs e).1 rfl) strong he
    refine (pi_or (pi_list pe) (pi_or (pi_tup pe) (pi_str pe))).impW fun σ H R ⟨env, F, rs, k⟩ => ?_
    have k2 := gI_one k
    cases q : ev Φ cs e env with
    | exn c => rw [q] at k2; exact .inl ⟨env, F, rs, by rw [q]; exact k2⟩
    | stuck => rw [q] at k2; exact k2.elim
    | ok d =>
      rw [q] at k2
      cases d with
      | list ds =>
        refine .inl ⟨env, F, rs, ?_⟩
        rw [q]
        refine fun F1 H1 e1 v r1 => ?_
        obtain ⟨a, vs, rfl, h1, h2⟩ := r1.lst e1.sub
        have hH : SqL X.K H1 a vs := by
          cases strong with
          | true => exact e1.sub.seq h1
          | false => exact h1
        exact ⟨a, rfl, ⟨vs, hH⟩, k2 F1 H1 e1 F1 H1 (Ext.refl e1.sub) _ (walks_lst h1 h2)⟩
      | tuple ds =>
        refine .inr (.inl ⟨env, F, rs, ?_⟩)
        rw [q]
        refine fun F1 H1 e1 v r1 => ?_
        obtain ⟨a, vs, rfl, h1, h2⟩ := r1.tup e1.sub
        have hH : SqT X.K H1 a vs := by
          cases strong with
          | true => exact Same.sqt e1.sub h1
          | false => exact h1
        exact ⟨a, rfl, ⟨vs, hH⟩, k2 F1 H1 e1 F1 H1 (Ext.refl e1.sub) _ (walks_tup h1 h2)⟩
      | str z =>
        refine .inr (.inr ⟨env, F, rs, ?_⟩)
        rw [q]
        refine fun F1 H1 e1 v r1 => ?_
        obtain rfl := r1.o.str
        exact ⟨z, rfl, k2 F1 H1 e1 F1 H1 (Ext.refl e1.sub) _ (walks_str z)⟩
      | _ => exact (k2 F H (Ext.refl rs.ext.sub)).elim
  | range =>
    unfold itArgs at ha
    simp only at ha
    split at ha
    · rename_i x p a pos
      split at ha
      · rename_i c
        cases ha
        obtain ⟨rfl, c2⟩ := c
        obtain ⟨e, rfl, he⟩ := one_arg h
        refine (pi_range1 (hX.gl c2) (hX.no (by decide +kernel)) (pa1 (F0 := F0) (H0 := H0) hX ((hs e).1 rfl) he) (star1 he)).impW fun σ H R ⟨env, F, rs, k⟩ => ?_
        refine ⟨env, F, rs, (gI_one k).imp fun F1 H1 d e1 k1 v r1 => ?_⟩
        cases d with
        | int j =>
          obtain rfl := r1.int
          obtain ⟨⟨b1, b2, b3, b4⟩, k2⟩ := range_ok (show KR _ W F1 H1 (rangeD 0 j) from k1)
          have e0 : (j - 0).toNat = j.toNat := by rw [Int.sub_zero]
          rw [e0] at k2
          exact ⟨j, rfl, b3, b4, k2 F1 H1 (Ext.refl e1.sub) _ (walks_range 0 j.toNat)⟩
        | _ => exact k1.elim
      · cases ha
    · rename_i x p a b pos
      split at ha
      · rename_i c
        cases ha
        obtain ⟨rfl, c2⟩ := c
        obtain ⟨e, f, rfl, he, hf⟩ := two_args h
        obtain ⟨se, sf⟩ := (hs e).2 f rfl
        refine (pi_range2 (hX.gl c2) (hX.no (by decide +kernel)) (pa_cons (pe_m (F0 := F0) (H0 := H0) hX se strong he) (pa_cons (pe_m (F0 := F0) (H0 := H0) hX sf strong hf) pa_nil (star_of (chk_notStar hf))) (star_of (chk_notStar he)))
          (by rw [star_of (chk_notStar he), star_of (chk_notStar hf)]; rfl) (star1 hf)).impW fun σ H R ⟨env, F, rs, k⟩ => ?_
        have e1 : gI Φ cs .range (.cons e (.cons f .nil)) env = (ev Φ cs e env).bind fun d => (ev Φ cs f env).bind fun d2 => iterD .range [d, d2] := by
          show (((ev Φ cs e env).bind fun d => ((ev Φ cs f env).bind fun d2 => (evs Φ cs .nil env).bind fun ds => .ok (d2 :: ds)).bind fun ds => .ok (d :: ds))).bind (fun ds => iterD .range ds) = _
          rw [bind_assoc]
          congr 1
          funext d
          rw [bind_assoc, bind_assoc]
          congr 1
        rw [e1] at k
        refine ⟨env, F, rs, (KR.bind k).imp fun F1 H1 d e1 k1 v r1 => ⟨env, F1, rs.more e1, (KR.bind k1).imp fun F2 H2 d2 e2 k2 v2 r2 => ?_⟩⟩
        cases d with
        | int i =>
          cases d2 with
          | int j =>
            obtain rfl := r1.int
            obtain rfl := r2.int
            obtain ⟨⟨b1, b2, b3, b4⟩, k3⟩ := range_ok (show KR _ W F2 H2 (rangeD i j) from k2)
            exact ⟨i, j, rfl, ⟨b1, b2, b3, b4⟩, k3 F2 H2 (Ext.refl e2.sub) _ (walks_range i (j - i).toNat)⟩
          | _ => exact k2.elim
        | _ => exact k2.elim
      · cases ha
    · cases ha
  | enum =>
    unfold itArgs at ha
    simp only at ha
    split at ha
    · rename_i es kk tp x p a pos
      split at ha
      · rename_i c
        cases ha
        obtain ⟨rfl, c2⟩ := c
        obtain ⟨e, rfl, he⟩ := one_arg h
        refine (pi_enumB (hX.gl c2) (hX.no (by decide +kernel)) (pa1 (F0 := F0) (H0 := H0) hX ((hs e).1 rfl) he) (star1 he)).impW fun σ H R ⟨env, F, rs, k⟩ => ?_
        refine ⟨env, F, rs, (gI_one k).imp fun F1 H1 d e1 k1 v r1 => ?_⟩
        cases d with
        | list ds =>
          obtain ⟨a, vs, rfl, h1, h2⟩ := r1.lst e1.sub
          have hH : SqL X.K H1 a vs := by
            cases strong with
            | true => exact e1.sub.seq h1
            | false => exact h1
          exact .inl ⟨a, vs, rfl, hH, k1 F1 H1 (Ext.refl e1.sub) _ (walks_enum h1 h2)⟩
        | tuple ds =>
          obtain ⟨a, vs, rfl, h1, h2⟩ := r1.tup e1.sub
          have hH : SqT X.K H1 a vs := by
            cases strong with
            | true => exact Same.sqt e1.sub h1
            | false => exact h1
          exact .inr ⟨a, vs, rfl, hH, k1 F1 H1 (Ext.refl e1.sub) _ (walks_enumT h1 h2)⟩
        | _ => exact k1.elim
      · cases ha
    · cases ha
  | rev =>
    unfold itArgs at ha
    simp only at ha
    split at ha
    · rename_i x p a pos
      split at ha
      · rename_i c
        cases ha
        obtain ⟨rfl, c2⟩ := c
        obtain ⟨e, rfl, he⟩ := one_arg h
        refine (pi_reversed (hX.gl c2) (hX.no (by decide +kernel)) (pa1 (F0 := F0) (H0 := H0) hX ((hs e).1 rfl) he) (star1 he)).impW fun σ H R ⟨env, F, rs, k⟩ => ?_
        refine ⟨env, F, rs, (gI_one k).imp fun F1 H1 d e1 k1 v r1 => ?_⟩
        cases d with
        | list ds =>
          obtain ⟨a, vs, rfl, h1, h2⟩ := r1.lst e1.sub
          have hH : SqL X.K H1 a vs := by
            cases strong with
            | true => exact e1.sub.seq h1
            | false => exact h1
          exact ⟨a, vs, rfl, hH, k1 F1 H1 (Ext.refl e1.sub) _ (walks_rev h1 h2)⟩
        | _ => exact k1.elim
      · cases ha
    · cases ha
/-- what is walked is no set -/
theorem it_fold {ik : IK} {ia : Es} {tg iter : Expr} {xs : List Expr} {m : Md} (ha : itArgs C ik tg iter = some xs) (h : chks C m ia xs = true) (env : PySem.Env) (v : Value) : foldedSetIterable iter env v = pure v := by
  cases ik with
  | of =>
    cases ha
    obtain ⟨e, rfl, he⟩ := one_arg h
    exact (not_set he).2 env v
  | range =>
    unfold itArgs at ha
    simp only at ha
    split at ha <;> first | rfl | cases ha
  | enum =>
    unfold itArgs at ha
    simp only at ha
    split at ha <;> first | rfl | cases ha
  | rev =>
    unfold itArgs at ha
    simp only at ha
    split at ha <;> first | rfl | cases ha

/-! ### targets -/
/-- all but some slots stay -/
def But (sl : List Nat) (σ σ' : L2.St) : Prop := σ'.length = σ.length ∧ ∀ i : Nat, i ∉ sl → σ'[i]? = σ[i]?
theorem But.trans {a b : List Nat} {σ σ1 σ2 : L2.St} (x : But a σ σ1) (y : But b σ1 σ2) : But (a ++ b) σ σ2 := ⟨y.1.trans x.1, fun i h => by
  rw [List.mem_append, not_or] at h
  rw [y.2 i h.2, x.2 i h.1]⟩
def tG (K : PySem.W.Frag) (F0 H0 : Hp) (sl : List Nat) (g : D → Env → Res Env) : TG := fun v σ H Q => ∃ env F d, RS K F0 H0 F H σ env ∧ Rp K F v d ∧ ∃ env', g d env = .ok env' ∧ ∀ σ', RS K F0 H0 F H σ' env' → But sl σ σ' → Q σ' H
def tGs (K : PySem.W.Frag) (F0 H0 : Hp) (sl : List Nat) (g : List D → Env → Res Env) : TGs := fun vs σ H Q => ∃ env F ds, RS K F0 H0 F H σ env ∧ RpAll K F vs ds ∧ ∃ env', g ds env = .ok env' ∧ ∀ σ', RS K F0 H0 F H σ' env' → But sl σ σ' → Q σ' H
theorem RS.set {K : PySem.W.Frag} {F H : Hp} {σ : L2.St} {env : Env} (r : RS K F0 H0 F H σ env) {i : Nat} {v : V} {d : D} (hi : i < env.length) (h : Rp K F v d) : RS K F0 H0 F H (σ.set i (some v)) (env.set i (some (.val d))) where
  tab0 := r.tab0
  ext := r.ext
  len := by rw [List.length_set, List.length_set]; exact r.len
  val := fun j e q => by
    by_cases hj : i = j
    · subst hj
      rw [List.getElem?_set_self hi] at q
      cases q
      exact ⟨v, by rw [List.getElem?_set_self (by rw [← r.len]; exact hi)], h⟩
    · rw [List.getElem?_set_ne hj] at q ⊢
      exact r.val j e q
  own := fun j e q => by
    by_cases hj : i = j
    · subst hj
      rw [List.getElem?_set_self hi] at q
      cases q
    · rw [List.getElem?_set_ne hj] at q ⊢
      exact r.own j e q
  inj := fun j l e e' a q1 q2 q3 q4 => by
    by_cases hj : i = j
    · subst hj
      rw [List.getElem?_set_self hi] at q1
      cases q1
    · by_cases hl : i = l
      · subst hl
        rw [List.getElem?_set_self hi] at q2
        cases q2
      · rw [List.getElem?_set_ne hj] at q1 q3
        rw [List.getElem?_set_ne hl] at q2 q4
        exact r.inj j l e e' a q1 q2 q3 q4
theorem _root_.L2.PG.impW {tg : Expr} {t t' : TG} (h : PG X tg t) (q : ∀ v σ H Q, t' v σ H Q → t v σ H Q) : PG X tg t' := ⟨fun pins s σ H v u Q I r w => h.run pins s σ H v u Q I r (q v σ H Q w)⟩
theorem _root_.L2.PGs.impW {tg : List Expr} {t t' : TGs} (h : PGs X tg t) (q : ∀ v σ H Q, t' v σ H Q → t v σ H Q) : PGs X tg t' := ⟨fun pins s σ H v u Q I r w => h.run pins s σ H v u Q I r (q v σ H Q w)⟩
theorem asg_each {e : Expr} {es : List Expr} (h : notStar e = true) : (assignEach (e :: es) X.env).map (·.2) = assign e X.env :: (assignEach es X.env).map (·.2) := by
  cases e with
  | Starred _ _ => exact Bool.noConfusion h
  | _ => rfl
theorem asg_each1 {e : Expr} {es : List Expr} (h : notStar e = true) : assignEach (e :: es) X.env = (false, assign e X.env) :: assignEach es X.env := by
  cases e with
  | Starred _ _ => exact Bool.noConfusion h
  | _ => rfl
theorem chkG_notStar {g : G} {x : Expr} (h : chkG C g x = true) : notStar x = true := by
  cases x with
  | Starred a p => cases g <;> exact Bool.noConfusion h
  | _ => rfl
theorem chkGs_each : ∀ {gs : Gs} {es : List Expr}, chkGs C gs es = true → (assignEach es X.env).length = es.length ∧ (assignEach es X.env).findIdx? (·.1) = none
  | .nil, [], _ => ⟨rfl, rfl⟩
  | .cons g gs, e :: es, h => by
    have h' : (chkG C g e && chkGs C gs es) = true := h
    rw [Bool.and_eq_true] at h'
    obtain ⟨a, b⟩ := chkGs_each h'.2
    rw [asg_each1 (chkG_notStar h'.1)]
    refine ⟨by rw [List.length_cons, List.length_cons, a], ?_⟩
    rw [List.findIdx?_cons]
    simp [b]
  | .nil, _ :: _, h => Bool.noConfusion h
  | .cons _ _, [], h => Bool.noConfusion h
theorem gs_len : ∀ {gs : Gs} {ds : List D} {env env' : Env} {es : List Expr}, chkGs C gs es = true → bindGs gs ds env = .ok env' → ds.length = es.length
  | .nil, [], _, _, [], _, _ => rfl
  | .cons g gs, d :: ds, env, env', e :: es, h, q => by
    have h' : (chkG C g e && chkGs C gs es) = true := h
    rw [Bool.and_eq_true] at h'
    have q' : (bindG g d env).bind (fun env1 => bindGs gs ds env1) = .ok env' := q
    cases z : bindG g d env with
    | ok env1 =>
      rw [z] at q'
      rw [List.length_cons, List.length_cons, gs_len h'.2 q']
    | exn c => rw [z] at q'; cases q'
    | stuck => rw [z] at q'; cases q'
  | .nil, _ :: _, _, _, _, _, q => by cases q
  | .nil, [], _, _, _ :: _, h, _ => Bool.noConfusion h
  | .cons _ _, [], _, _, _, _, q => by cases q
  | .cons _ _, _ :: _, _, _, [], h, _ => Bool.noConfusion h
mutual
theorem pg_ok (hX : XOk X C k Φ cs clsA W) : ∀ (g : G) (x : Expr), chkG C g x = true → PG X x (tG X.K F0 H0 (slotsG g) (bindG g))
  | .name i, x, h => by
    cases x with
    | Name x pos =>
      have h' : (decide (C.N[i]? = some x) && C.asn x) = true := h
      rw [Bool.and_eq_true] at h'
      obtain ⟨a1, a2⟩ := hX.asn x h'.2
      refine (pg_name (i := i) (by rw [hX.N]; exact hX.nd) (by rw [hX.N]; exact of_decide_eq_true h'.1) a1 a2).impW fun v σ H Q ⟨env, F, d, rs, r, env', e, q⟩ => ?_
      have e' : need (decide (i < env.length)) (.ok (env.set i (some (.val d)))) = .ok env' := e
      by_cases hi : i < env.length
      · rw [decide_eq_true hi] at e'
        cases e'
        exact q _ (rs.set hi r) ⟨List.length_set, fun j hj => List.getElem?_set_ne (fun z => hj (by rw [z]; exact List.mem_singleton_self _))⟩
      · rw [decide_eq_false hi] at e'
        cases e'
    | _ => exact Bool.noConfusion h
  | .tup gs, x, h => by
    cases x with
    | Tuple es j pos =>
      have h' : chkGs C gs es = true := h
      refine (pg_tup (n := es.length) hX.calm (pgs_ok hX gs es h') (chkGs_each h').1 (chkGs_each h').2).impW fun v σ H Q ⟨env, F, d, rs, r, env', e, q⟩ => ?_
      cases d with
      | tuple ds =>
        cases r with
        | tup r1 r2 =>
          refine ⟨_, _, rfl, Same.sqt rs.ext.sub r1, ?_, env, F, ds, rs, r2, env', e, q⟩
          rw [r2.length]
          exact gs_len h' e
      | _ => cases e
    | _ => exact Bool.noConfusion h
theorem pgs_ok (hX : XOk X C k Φ cs clsA W) : ∀ (gs : Gs) (xs : List Expr), chkGs C gs xs = true → PGs X xs (tGs X.K F0 H0 (slotsGs gs) (bindGs gs))
  | .nil, xs, h => by
    cases xs with
    | nil =>
      refine pgs_nil.impW fun v σ H Q ⟨env, F, d, rs, r, env', e, q⟩ => ?_
      cases d with
      | nil =>
        cases r
        cases e
        exact ⟨rfl, q _ rs ⟨rfl, fun _ _ => rfl⟩⟩
      | cons _ _ => cases e
    | cons _ _ => exact Bool.noConfusion h
  | .cons g gs, xs, h => by
    cases xs with
    | nil => exact Bool.noConfusion h
    | cons x xs =>
      have h' : (chkG C g x && chkGs C gs xs) = true := h
      rw [Bool.and_eq_true] at h'
      refine (pgs_cons (pg_ok hX g x h'.1) (pgs_ok hX gs xs h'.2) (asg_each (chkG_notStar h'.1))).impW fun v σ H Q ⟨env, F, d, rs, r, env', e, q⟩ => ?_
      cases d with
      | nil => cases e
      | cons d ds =>
        cases r with
        | cons r1 r2 =>
          have e' : (bindG g d env).bind (fun env1 => bindGs gs ds env1) = .ok env' := e
          cases z : bindG g d env with
          | ok env1 =>
            rw [z] at e'
            exact ⟨_, _, rfl, env, F, d, rs, r1, env1, z, fun σ' rs' b' => ⟨env1, F, ds, rs', r2, env', e', fun σ2 rs2 b2 => q σ2 rs2 (b'.trans b2)⟩⟩
          | exn c => rw [z] at e'; cases e'
          | stuck => rw [z] at e'; cases e'
end
end
end MW

set_option maxRecDepth 100000
set_option maxHeartbeats 1000000
/-! Part 2j: comprehensions; all expressions. -/
namespace MW
open PySem PySem.Spec PyProof.Rows L2
open Res
variable [Lam]

theorem wipeE_length (env : Env) : ∀ vs : List Nat, (wipeE env vs).length = env.length
  | [] => rfl
  | v :: vs => by unfold wipeE; rw [List.length_set, wipeE_length env vs]
theorem wipeE_some {env : Env} {i : Nat} {x : Slot} : ∀ {vs : List Nat}, (wipeE env vs)[i]? = some (some x) → env[i]? = some (some x) ∧ i ∉ vs
  | [], h => ⟨h, by simp⟩
  | v :: vs, h => by
    unfold wipeE at h
    by_cases hi : v = i
    · subst hi
      by_cases hv : v < (wipeE env vs).length
      · rw [List.getElem?_set_self hv] at h; cases h
      · rw [List.getElem?_eq_none (by simpa using hv)] at h; cases h
    · rw [List.getElem?_set_ne hi] at h
      obtain ⟨h1, h2⟩ := wipeE_some h
      exact ⟨h1, by simp only [List.mem_cons, not_or]; exact ⟨fun e => hi e.symm, h2⟩⟩
theorem wipe_in {σ : L2.St} {i : Nat} : ∀ {vs : List Nat}, i ∈ vs → i < σ.length → (wipe σ vs)[i]? = some none
  | [], h, _ => by cases h
  | v :: vs, h, hl => by
    unfold wipe
    by_cases e : v = i
    · subst e
      rw [List.getElem?_set_self (by rw [wipe_length]; exact hl)]
    · rw [List.getElem?_set_ne e]
      rcases List.mem_cons.mp h with z | z
      · exact absurd z.symm e
      · exact wipe_in z hl
theorem wipe_eq {σ σ' : L2.St} {vs : List Nat} (hl : σ'.length = σ.length) (h : ∀ i : Nat, i ∉ vs → σ'[i]? = σ[i]?) : wipe σ' vs = wipe σ vs := by
  refine List.ext_getElem? fun i => ?_
  by_cases hi : i ∈ vs
  · by_cases hz : i < σ.length
    · rw [wipe_in hi hz, wipe_in hi (by rw [hl]; exact hz)]
    · rw [List.getElem?_eq_none (by rw [wipe_length, hl]; omega), List.getElem?_eq_none (by rw [wipe_length]; omega)]
  · rw [wipe_out hi, wipe_out hi, h i hi]
theorem RS.wipe {K : PySem.W.Frag} {F0 H0 F H : Hp} {σ : L2.St} {env : Env} (r : RS K F0 H0 F H σ env) (vs : List Nat) : RS K F0 H0 F H (L2.wipe σ vs) (wipeE env vs) where
  ext := r.ext
  tab0 := r.tab0
  len := by rw [wipeE_length, wipe_length]; exact r.len
  val := fun i d h => by
    obtain ⟨h1, h2⟩ := wipeE_some h
    obtain ⟨v, h3, h4⟩ := r.val i d h1
    exact ⟨v, by rw [wipe_out h2]; exact h3, h4⟩
  own := fun i d h => by
    obtain ⟨h1, h2⟩ := wipeE_some h
    obtain ⟨a, h3, h4⟩ := r.own i d h1
    exact ⟨a, by rw [wipe_out h2]; exact h3, h4⟩
  inj := fun i j d e a h1 h2 h3 h4 => by
    obtain ⟨q1, q2⟩ := wipeE_some h1
    obtain ⟨q3, q4⟩ := wipeE_some h2
    rw [wipe_out q2] at h3
    rw [wipe_out q4] at h4
    exact r.inj i j d e a q1 q3 h3 h4

/-! ### the turns of a comprehension -/
def oneMore (o : Option D) : List D := match o with
  | some x => [x]
  | none => []
theorem compL_snoc (turn : D → Res (Option D)) : ∀ (xs : List D) (d : D) (o : Option D) (r : List D), compL turn xs = .ok r → turn d = .ok o → compL turn (xs ++ [d]) = .ok (r ++ oneMore o)
  | [], d, o, r, h, q => by
    cases h
    show (turn d).bind (fun o => (compL turn []).bind fun r => .ok (addO o r)) = _
    rw [q]
    cases o <;> rfl
  | x :: xs, d, o, r, h, q => by
    have h' : (turn x).bind (fun o => (compL turn xs).bind fun r => .ok (addO o r)) = .ok r := h
    show (turn x).bind (fun o => (compL turn (xs ++ [d])).bind fun r => .ok (addO o r)) = _
    cases z : turn x with
    | ok o' =>
      rw [z] at h'
      cases z2 : compL turn xs with
      | ok r' =>
        have h2 : Res.ok (addO o' r') = .ok r := by
          have h3 : (compL turn xs).bind (fun r => .ok (addO o' r)) = .ok r := h'
          rw [z2] at h3
          exact h3
        cases h2
        show (compL turn (xs ++ [d])).bind (fun r => .ok (addO o' r)) = _
        rw [compL_snoc turn xs d o r' z2 q]
        cases o' <;> rfl
      | exn c =>
        have h3 : (compL turn xs).bind (fun r => .ok (addO o' r)) = .ok r := h'
        rw [z2] at h3; cases h3
      | stuck =>
        have h3 : (compL turn xs).bind (fun r => .ok (addO o' r)) = .ok r := h'
        rw [z2] at h3; cases h3
    | exn c => rw [z] at h'; cases h'
    | stuck => rw [z] at h'; cases h'
theorem compL_each (turn : D → Res (Option D)) : ∀ (xs : List D) (r : List D), compL turn xs = .ok r → ∀ (i : Nat) (d : D), xs[i]? = some d → ∃ o, turn d = .ok o
  | [], _, _, i, d, h => by simp at h
  | x :: xs, r, h, i, d, hd => by
    have h' : (turn x).bind (fun o => (compL turn xs).bind fun r => .ok (addO o r)) = .ok r := h
    cases z : turn x with
    | ok o' =>
      rw [z] at h'
      cases z2 : compL turn xs with
      | ok r' =>
        cases i with
        | zero => cases hd; exact ⟨o', z⟩
        | succ i => exact compL_each turn xs r' z2 i d hd
      | exn c =>
        have h3 : (compL turn xs).bind (fun r => .ok (addO o' r)) = .ok r := h'
        rw [z2] at h3; cases h3
      | stuck =>
        have h3 : (compL turn xs).bind (fun r => .ok (addO o' r)) = .ok r := h'
        rw [z2] at h3; cases h3
    | exn c => rw [z] at h'; cases h'
    | stuck => rw [z] at h'; cases h'
theorem compL_le (turn : D → Res (Option D)) (xs : List D) : ∀ (n : Nat) (r : List D), compL turn xs = .ok r → ∃ r', compL turn (xs.take n) = .ok r' ∧ r'.length ≤ r.length ∧ (n ≥ xs.length → r' = r)
  | 0, r, h => by
    refine ⟨[], by rw [List.take_zero]; rfl, Nat.zero_le _, fun hn => ?_⟩
    cases xs with
    | nil => cases h; rfl
    | cons _ _ => simp at hn
  | n + 1, r, h => by
    cases xs with
    | nil => cases h; exact ⟨[], rfl, Nat.le_refl _, fun _ => rfl⟩
    | cons x xs =>
      have h' : (turn x).bind (fun o => (compL turn xs).bind fun r => .ok (addO o r)) = .ok r := h
      cases z : turn x with
      | ok o' =>
        rw [z] at h'
        cases z2 : compL turn xs with
        | ok r' =>
          have h2 : Res.ok (addO o' r') = .ok r := by
            have h3 : (compL turn xs).bind (fun r => .ok (addO o' r)) = .ok r := h'
            rw [z2] at h3
            exact h3
          cases h2
          obtain ⟨q, q1, q2, q3⟩ := compL_le turn xs n r' z2
          refine ⟨addO o' q, ?_, ?_, fun hn => ?_⟩
          · show (turn x).bind (fun o => (compL turn (xs.take n)).bind fun r => .ok (addO o r)) = _
            rw [z, q1]; rfl
          · cases o' with
            | some _ => exact Nat.succ_le_succ q2
            | none => exact q2
          · rw [q3 (by simp at hn; omega)]
        | exn c =>
          have h3 : (compL turn xs).bind (fun r => .ok (addO o' r)) = .ok r := h'
          rw [z2] at h3; cases h3
        | stuck =>
          have h3 : (compL turn xs).bind (fun r => .ok (addO o' r)) = .ok r := h'
          rw [z2] at h3; cases h3
      | exn c => rw [z] at h'; cases h'
      | stuck => rw [z] at h'; cases h'
theorem noExn_ok {α : Type} {r : Res α} {a : α} (h : noExn r = .ok a) : r = .ok a := by
  cases r with
  | ok b => exact h
  | exn c => cases h
  | stuck => cases h
theorem noExn_no {α : Type} (r : Res α) (c : Nat) : noExn r ≠ .exn c := by
  cases r with
  | ok b => intro h; cases h
  | exn c => intro h; cases h
  | stuck => intro h; cases h
theorem compL_no {turn : D → Res (Option D)} (ht : ∀ d c, turn d ≠ .exn c) : ∀ (xs : List D) (c : Nat), compL turn xs ≠ .exn c
  | [], c, h => by cases h
  | x :: xs, c, h => by
    have h' : (turn x).bind (fun o => (compL turn xs).bind fun r => .ok (addO o r)) = .exn c := h
    cases z : turn x with
    | ok o' =>
      rw [z] at h'
      have h3 : (compL turn xs).bind (fun r => .ok (addO o' r)) = .exn c := h'
      cases z2 : compL turn xs with
      | ok r' => rw [z2] at h3; cases h3
      | exn c' => exact compL_no ht xs c' z2
      | stuck => rw [z2] at h3; cases h3
    | exn c' => exact ht x c' z
    | stuck => rw [z] at h'; cases h'

section
variable {X : Cx} {C : Cfg} {k : Nat} {Φ : Phi} {cs : Nat → Res D} {clsA : Nat → Addr} {W : Nat → Hp → Prop} {F0 H0 : Hp}
abbrev turnOf (Φ : Phi) (cs : Nat → Res D) (elt : E) (g : G) (cond : Es) (own : List (Str × Nat)) (env : Env) (d : D) : Res (Option D) :=
  noExn ((bindG g d (wipeE env (own.map (·.2)))).bind fun env' => (tsts Φ cs cond env').bind fun k => match k with
    | true => (ev Φ cs elt env').bind fun v => .ok (some v)
    | false => .ok none)
/-- the condition of a comprehension, in its block -/
theorem pts_ok {Y : Cx} {C' : Cfg} (hY : XOk Y C' k Φ cs clsA (fun _ _ => False)) {cond : Es} (hs : SEs cond) {ifs : List Expr}
    (h : (match (generalizing := false) ifs with | [] => chks C' .tst cond [] | [c] => chks C' .tst cond [c] | _ => false) = true) : PTs Y ifs (tT Y.K (fun _ _ => False) F0 H0 (tsts Φ cs cond)) := by
  match ifs, h with
  | [], h =>
    rcases (hs (F0 := F0) (H0 := H0) hY []).2.2 h with ⟨_, rfl⟩ | ⟨x, r, e, r', q, _⟩
    · exact ⟨fun pins s σ H Q I ⟨env, F, rs, k⟩ => pts_nil.run pins s σ H Q I (k F H (Ext.refl rs.ext.sub))⟩
    · cases q
  | [c], h =>
    rcases (hs (F0 := F0) (H0 := H0) hY [c]).2.2 h with ⟨q, _⟩ | ⟨x, r, e, r', q, rfl, pt⟩
    · cases q
    · cases q
      exact ⟨fun pins s σ H Q I w => (pts_one pt).run pins s σ H Q I w⟩
  | _ :: _ :: _, h => exact Bool.noConfusion h
/-- the reading of a comprehension -/
theorem lc_read {ik : IK} {ia : Es} {elt : E} {g : G} {cond : Es} {own : List (Str × Nat)} {σ : L2.St} {H : Hp} {Q : VK} {K : PySem.W.Frag} {env : Env} {F : Hp} (hsl : (slotsG g).all (fun i => decide (i ∈ own.map (·.2))) = true) (rs : RS K F0 H0 F H σ env)
    (kk : KR (fun F1 H1 ds => KR (fun F2 H2 r => r.length ≤ sizeLine ∧ ∀ p F3 H3, Ext F1 H1 F3 H3 → H1 p = none → F3 p = none → (∃ acc, H3 p = some (.lst acc) ∧ RpAll K F3 acc r) → Q (.ref p) H3) W F1 H1 (compL (turnOf Φ cs elt g cond own env) ds)) W F H (gI Φ cs ik ia env)) :
    tLc (tI K W F0 H0 false (gI Φ cs ik ia)) (tG K F0 H0 (slotsG g) (bindG g)) (tT K (fun _ _ => False) F0 H0 (tsts Φ cs cond)) (tE K (fun _ _ => False) F0 H0 (ev Φ cs elt)) (own.map (·.2)) σ H Q := by
  refine ⟨env, F, rs, kk.imp fun F1 H1 ds e1 k1 J wk D hD => ?_⟩
  -- the answer of all turns
  obtain ⟨outs, ho⟩ : ∃ outs, compL (turnOf Φ cs elt g cond own env) ds = .ok outs := by
    cases z : compL (turnOf Φ cs elt g cond own env) ds with
    | ok r => exact ⟨r, rfl⟩
    | exn c => exact absurd z (compL_no (fun d c => noExn_no _ c) ds c)
    | stuck => rw [z] at k1; exact k1.elim
  rw [ho] at k1
  refine ⟨fun i m H' => m = ds.length - i ∧ i ≤ ds.length ∧ ∃ F' acc out, Ext F1 H1 F' H' ∧ F' D = none ∧ H' D = some (.lst acc) ∧ compL (turnOf Φ cs elt g cond own env) (ds.take i) = .ok out ∧ RpAll K F' acc out,
    ⟨ds.length, by simp, Nat.zero_le _, F1, [], [], Ext.fresh e1.sub hD, e1.sub.free hD, upd_same, by rw [List.take_zero]; rfl, .nil⟩, ?_⟩
  rintro i m H' ⟨rfl, hi, F', acc, out, ex, fD, hD', hc, ra⟩
  obtain ⟨w1, w2, w3⟩ := wk F' H' ex.f ex.sub ex.h.keep
  by_cases hlt : i < ds.length
  · have hd : ds[i]? = some ds[i] := by simp [hlt]
    obtain ⟨o, ht⟩ := compL_each _ ds outs ho i _ hd
    have hnext := compL_snoc _ _ _ o out hc ht
    have htk : ds.take i ++ [ds[i]] = ds.take (i + 1) := by rw [List.take_add_one, hd]; rfl
    rw [htk] at hnext
    obtain ⟨r', hr1, hr2, _⟩ := compL_le _ ds (i + 1) outs ho
    rw [hnext] at hr1
    cases hr1
    refine .inr ⟨w1 i hlt, fun H2 => ∃ F2 acc2, Ext F1 H1 F2 H2 ∧ F2 D = none ∧ H2 D = some (.lst acc2) ∧ RpAll K F2 acc2 (out ++ oneMore o), fun H2 ⟨F2, acc2, q1, q2, q3, q4⟩ => ⟨ds.length - (i + 1), by omega, rfl, hlt, F2, acc2, _, q1, q2, q3, hnext, q4⟩, fun x H2 y => ?_⟩
    obtain ⟨F2, ex2, rx⟩ := w3 i _ x H2 hd y
    have rs2 : RS K F0 H0 F2 H2 σ env := (rs.more (e1.trans ex)).more ex2
    have ht' := noExn_ok ht
    -- the target
    cases z1 : bindG g ds[i] (wipeE env (own.map (·.2))) with
    | exn c => rw [z1] at ht'; cases ht'
    | stuck => rw [z1] at ht'; cases ht'
    | ok env' =>
      rw [z1] at ht'
      replace ht' : (tsts Φ cs cond env').bind (fun k => match k with | true => (ev Φ cs elt env').bind fun v => .ok (some v) | false => .ok none) = .ok o := ht'
      have stay : ∀ {F3 H3 : Hp}, Ext F2 H2 F3 H3 → F3 D = none ∧ H3 D = some (.lst acc) := fun {F3 H3} e3 => by
        have h2 : H2 D = some (.lst acc) := ex2.h.lst hD'
        have f2 : F2 D = none := by
          cases q : F2 D with
          | none => rfl
          | some o =>
            rcases ex2.new D o q with z | z
            · rw [fD] at z; cases z
            · rw [hD'] at z; cases z
        refine ⟨?_, e3.h.lst h2⟩
        cases q : F3 D with
        | none => rfl
        | some o =>
          rcases e3.new D o q with z | z
          · rw [f2] at z; cases z
          · rw [h2] at z; cases z
      refine ⟨_, F2, _, rs2.wipe (own.map (·.2)), rx, env', z1, fun σ2 rs3 but => ⟨?_, ?_⟩⟩
      · -- the slots outside stay
        have hsub : ∀ j, j ∈ slotsG g → j ∈ own.map (·.2) := fun j hj => by
          have := List.all_eq_true.mp hsl j hj
          exact of_decide_eq_true this
        have e0 : wipe σ2 (own.map (·.2)) = wipe (wipe σ (own.map (·.2))) (own.map (·.2)) := wipe_eq but.1 fun j hj => but.2 j fun z => hj (hsub j z)
        rw [e0]
        exact wipe_eq (wipe_length _ _) fun j hj => wipe_out hj
      · refine ⟨env', F2, rs3, ?_⟩
        cases z2 : tsts Φ cs cond env' with
        | exn c => rw [z2] at ht'; cases ht'
        | stuck => rw [z2] at ht'; cases ht'
        | ok b =>
          rw [z2] at ht'
          refine fun F3 H3 e3 => ?_
          cases b with
          | false =>
            replace ht' : Res.ok none = Res.ok o := ht'
            cases ht'
            obtain ⟨f3, h3⟩ := stay e3
            refine iteF ⟨F3, acc, (ex.trans ex2).trans e3, f3, h3, ?_⟩
            show RpAll K F3 acc (out ++ [])
            rw [List.append_nil]
            exact (ra.mono ex2.f).mono e3.f
          | true =>
            replace ht' : (ev Φ cs elt env').bind (fun v => .ok (some v)) = .ok o := ht'
            refine iteT ⟨env', F3, rs3.more e3, ?_⟩
            cases z3 : ev Φ cs elt env' with
            | exn c => rw [z3] at ht'; cases ht'
            | stuck => rw [z3] at ht'; cases ht'
            | ok dv =>
              rw [z3] at ht'
              cases ht'
              refine fun F4 H4 e4 v rv => ?_
              obtain ⟨f4, h4⟩ := stay (e3.trans e4)
              have hz : acc.length < sizeLine := by
                have h1 := ra.length
                have h2 : (out ++ oneMore (some dv)).length = out.length + 1 := by
                  rw [List.length_append]; rfl
                have h3 : outs.length ≤ sizeLine := (k1 F1 H1 (Ext.refl e1.sub)).1
                omega
              refine ⟨acc, h4, hz, F4, acc ++ [v], ?_, f4, upd_same, RpAll.append (((ra.mono ex2.f).mono e3.f).mono e4.f) (.cons rv .nil)⟩
              have ex4 := ((ex.trans ex2).trans e3).trans e4
              refine ⟨ex4.f, ⟨fun b u q nt => ?_, fun b ps q => ?_, fun t => (ex4.h.ok t).put h4 (fun _ z => by cases z) (fun _ z => by cases z) fun _ z => by cases z⟩, fun b u q => ?_, ex4.new⟩
              · rw [upd_ne (ne_of_none q hD)]
                exact ex4.h.keep b u q nt
              · rw [upd_ne (ne_of_none q hD)]
                exact ex4.h.tb b ps q
              · rw [upd_ne (ne_of_none q f4)]
                exact ex4.sub b u q
  · have e : i = ds.length := by omega
    subst e
    rw [List.take_length, ho] at hc
    cases hc
    exact .inl ⟨w2, (k1 F1 H1 (Ext.refl e1.sub)).2 D F' H' ex hD fD ⟨acc, hD', ra⟩⟩
/-- the list of a comprehension, laid for good -/
theorem lc_done {K : PySem.W.Frag} {F1 H1 F3 H3 : Hp} {p : Addr} {acc : List V} {r : List D} {Q : VK} (e1 : Same F1 H1) (ex : Ext F1 H1 F3 H3) (n : H1 p = none) (f3 : F3 p = none) (h3 : H3 p = some (.lst acc)) (ra : RpAll K F3 acc r)
    (q : KE K W F1 H1 (.ok (PyData.list r)) Q) : Q (.ref p) H3 := by
  refine q (upd F3 p (.lst acc)) H3 ⟨ex.f.trans (same_upd f3), ex.h, fun b u z => ?_, fun b u z => ?_⟩ _ (.lst (.inl upd_rd) (ra.mono (same_upd f3)))
  · by_cases hb : b = p
    · subst hb; rw [upd_same] at z; cases z; exact h3
    · rw [upd_ne hb] at z; exact ex.sub b u z
  · by_cases hb : b = p
    · subst hb; exact .inr n
    · rw [upd_ne hb] at z; exact ex.new b u z
theorem comp_split {elt elt' : E} {g : G} {ik : IK} {ia cond : Es} {own : List (Str × Nat)} {m : Md} {x : Expr} (h : chk C m (.comp elt g ik ia cond own) x = true) :
    ∃ el tg iter ifs scope pos xs, x = .ListComp el [⟨tg, iter, ifs, 0⟩] scope pos ∧ blkC C.N C.sc scope own = true ∧ chkG (C.inner scope) g tg = true ∧ (slotsG g).all (fun i => decide (i ∈ own.map (·.2))) = true ∧ itArgs C ik tg iter = some xs ∧ chks C .opd ia xs = true ∧
      (match (generalizing := false) ifs with | [] => chks (C.inner scope) .tst cond [] | [c] => chks (C.inner scope) .tst cond [c] | _ => false) = true ∧ chk (C.inner scope) .val elt el = true := by
  cases x with
  | ListComp el gs scope pos =>
    match gs, h with
    | [⟨tg, iter, ifs, n⟩], h =>
      by_cases hn : n = 0
      · subst hn
        have h' : (blkC C.N C.sc scope own && chkG (C.inner scope) g tg && (slotsG g).all (fun i => decide (i ∈ own.map (·.2))) && (match (generalizing := false) itArgs C ik tg iter with | some xs => chks C .opd ia xs | none => false) &&
          (match (generalizing := false) ifs with | [] => chks (C.inner scope) .tst cond [] | [c] => chks (C.inner scope) .tst cond [c] | _ => false) && chk (C.inner scope) .val elt el) = true := h
        rw [Bool.and_eq_true, Bool.and_eq_true, Bool.and_eq_true, Bool.and_eq_true, Bool.and_eq_true] at h'
        obtain ⟨⟨⟨⟨⟨h1, h2⟩, h3⟩, h4⟩, h5⟩, h6⟩ := h'
        cases q : itArgs C ik tg iter with
        | none => rw [q] at h4; exact Bool.noConfusion h4
        | some xs =>
          rw [q] at h4
          exact ⟨el, tg, iter, ifs, scope, pos, xs, rfl, h1, h2, h3, q, h4, h5, h6⟩
      · have h' : chk C m (.comp elt g ik ia cond own) (.ListComp el [⟨tg, iter, ifs, n⟩] scope pos) = false := by
          unfold chk
          split <;> first | rfl | (rename_i q; cases q; exact absurd rfl hn) | (simp_all)
        rw [h'] at h
        exact Bool.noConfusion h
    | [], h => exact Bool.noConfusion h
    | ⟨t1, i1, f1, n1⟩ :: g2 :: r, h =>
      have h' : chk C m (.comp elt g ik ia cond own) (.ListComp el (⟨t1, i1, f1, n1⟩ :: g2 :: r) scope pos) = false := by
        unfold chk
        split <;> first | rfl | (rename_i q; cases q) | (simp_all)
      rw [h'] at h
      exact Bool.noConfusion h
  | _ => exact Bool.noConfusion h
/-- what stands ahead of the reading of a comprehension -/
theorem comp_kk {elt : E} {g : G} {ik : IK} {ia cond : Es} {own : List (Str × Nat)} {K : PySem.W.Frag} {F H : Hp} {env : Env} {Q : VK} (k : KE K W F H (ev Φ cs (.comp elt g ik ia cond own) env) Q) :
    KR (fun F1 H1 ds => KR (fun F2 H2 r => r.length ≤ sizeLine ∧ ∀ p F3 H3, Ext F1 H1 F3 H3 → H1 p = none → F3 p = none → (∃ acc, H3 p = some (.lst acc) ∧ RpAll K F3 acc r) → Q (.ref p) H3) W F1 H1 (compL (turnOf Φ cs elt g cond own env) ds)) W F H (gI Φ cs ik ia env) := by
  have e0 : ev Φ cs (.comp elt g ik ia cond own) env = (gI Φ cs ik ia env).bind fun xs => (compL (turnOf Φ cs elt g cond own env) xs).bind fun r => need (fitsZ r.length) (.ok (PyData.list r)) := by
    show (evs Φ cs ia env).bind (fun ds => (iterD ik ds).bind fun xs => (compL (turnOf Φ cs elt g cond own env) xs).bind fun r => need (fitsZ r.length) (.ok (PyData.list r))) = _
    unfold gI
    rw [bind_assoc]
  rw [e0] at k
  refine (KR.bind k).imp fun F1 H1 ds e1 k1 => ?_
  cases z : compL (turnOf Φ cs elt g cond own env) ds with
  | exn c => rw [z] at k1; exact k1
  | stuck => rw [z] at k1; exact k1.elim
  | ok r =>
    rw [z] at k1
    obtain ⟨hz, k2⟩ := KR.need (show KR _ W F1 H1 (need (fitsZ r.length) (.ok (PyData.list r))) from k1)
    exact fun F2 H2 e2 => ⟨fits_le hz, fun p F3 H3 ex n f3 ⟨acc, h3, ra⟩ => lc_done e1.sub ex n f3 h3 ra k2⟩
theorem tst_comp (elt : E) (g : G) (ik : IK) (ia cond : Es) (own : List (Str × Nat)) (env : Env) : tst Φ cs (.comp elt g ik ia cond own) env = (ev Φ cs (.comp elt g ik ia cond own) env).bind truD := by
  show (evs Φ cs ia env).bind (fun ds => (iterD ik ds).bind fun xs => (compL (turnOf Φ cs elt g cond own env) xs).bind fun r => need (fitsZ r.length) (.ok (!r.isEmpty))) =
    ((evs Φ cs ia env).bind (fun ds => (iterD ik ds).bind fun xs => (compL (turnOf Φ cs elt g cond own env) xs).bind fun r => need (fitsZ r.length) (.ok (PyData.list r)))).bind truD
  rw [bind_assoc]
  congr 1
  funext ds
  rw [bind_assoc]
  congr 1
  funext xs
  rw [bind_assoc]
  congr 1
  funext r
  cases fitsZ r.length <;> rfl
end
theorem se_comp {elt : E} {g : G} {ik : IK} {ia cond : Es} {own : List (Str × Nat)} (he : SE elt) (hi : SIt ia) (hc : SEs cond) : SE (.comp elt g ik ia cond own) := by
  refine se_truth (fun {X C k Φ cs clsA W F0 H0} hX m x h => ?_) fun Φ cs env => tst_comp elt g ik ia cond own env
  obtain ⟨el, tg, iter, ifs, scope, pos, xs, rfl, h1, h2, h3, h4, h5, h6, h7⟩ := comp_split (elt' := elt) h
  refine ⟨(pe_lc hX.calm (by rw [hX.N]; exact hX.nd) (pi_of (F0 := F0) (H0 := H0) (strong := false) hX hi h4 h5) (blkOk_by (by rw [hX.N, hX.sc]; exact h1))
    (fun s H A cl fp => pg_ok (F0 := F0) (H0 := H0) (hX.inner scope s H A cl fp) g tg h2) (fun s H A cl fp => pts_ok (F0 := F0) (H0 := H0) (hX.inner scope s H A cl fp) hc h6)
    (fun s H A cl fp => (he (F0 := F0) (H0 := H0) (hX.inner scope s H A cl fp) el).1 h7) (fun v => it_fold h4 h5 X.env v)).impW fun σ H Q ⟨env, F, rs, k⟩ => lc_read h3 rs (comp_kk k), fun _ => rfl⟩
theorem se_none {e : E} (h : ∀ C m x, chk C m e x = false) : SE e := by
  intro X C k Φ cs clsA W F0 H0 hX x
  exact ⟨fun q => by rw [h] at q; exact Bool.noConfusion q, fun q => by rw [h] at q; exact Bool.noConfusion q, fun q => by rw [h] at q; exact Bool.noConfusion q⟩
mutual
theorem se_all : ∀ e : E, SE e
  | .var i => se_var i
  | .own i => se_own i
  | .cst c => se_cst c
  | .glob j => se_glob j
  | .tup es => se_tup (ses_all es)
  | .lst es => se_lst (ses_all es)
  | .dic0 => se_dic0
  | .bin _ a b => se_bin (se_all a) (se_all b)
  | .mulL _ b => se_mulL (se_all b)
  | .neg a => se_neg (se_all a)
  | .cmp _ a b => se_cmp (se_all a) (se_all b)
  | .chain _ _ a b c => se_chain (se_all a) (se_all b) (se_all c)
  | .and a b => se_and (se_all a) (se_all b)
  | .or a b => se_or (se_all a) (se_all b)
  | .not a => se_not (se_all a)
  | .ife t a b => se_ife (se_all t) (se_all a) (se_all b)
  | .ix a b => se_ix (se_all a) (se_all b)
  | .slc a lo hi => se_slc (se_all a) (se_all lo) (se_all hi)
  | .abs => se_none fun C m x => by cases x <;> rfl
  | .slc3 a _ => se_slc3 (se_all a)
  | .chain3 _ _ _ a b c d => se_chain3 (se_all a) (se_all b) (se_all c) (se_all d)
  | .call _ es => se_call (ses_all es)
  | .blt _ es => se_blt (ses_all es)
  | .isi a tys => se_isi (se_all a)
  | .lenset a => se_lenset (se_all a)
  | .rep a b => se_rep (se_all a) (se_all b)
  | .sortk a key p => se_sortk (se_all a) (se_all key)
  | .comp elt g ik ia cond own => se_comp (se_all elt) (sit_all ia) (ses_all cond)
  | .meth _ o a => se_meth (se_all o) (se_all a)
theorem ses_all : ∀ es : Es, SEs es
  | .nil => ses_nil
  | .cons e es => ses_cons (se_all e) (ses_all es)
theorem sit_all : ∀ es : Es, SIt es
  | .nil => fun e => ⟨fun h => (by cases h), fun f h => (by cases h)⟩
  | .cons e .nil => fun e' => ⟨fun h => (by cases h; exact se_all e), fun f h => (by cases h)⟩
  | .cons e (.cons f .nil) => fun e' => ⟨fun h => (by cases h), fun f' h => (by cases h; exact ⟨se_all e, se_all f⟩)⟩
  | .cons _ (.cons _ (.cons _ _)) => fun e => ⟨fun h => (by cases h), fun f h => (by cases h)⟩
end
end MW

set_option maxRecDepth 100000
set_option maxHeartbeats 1000000
/-! Part 2k: statements. -/
namespace MW
open PySem PySem.Spec PyProof.Rows L2
open Res
variable [Lam]

section
variable (K : PySem.W.Frag) (W : Nat → Hp → Prop) (F0 H0 : Hp)
def KS (D : Ends) (F : Hp) (r : Res Fl) : Prop := match r with
  | .ok (.next env') => ∀ σ' F' H', RS K F0 H0 F' H' σ' env' → Same F F' → D.nx σ' H'
  | .ok (.ret d) => ∀ v F' H', Ext F0 H0 F' H' → Same F F' → Rp K F' v d → D.rt v H'
  | .ok (.brk env') => ∀ σ' F' H', RS K F0 H0 F' H' σ' env' → Same F F' → D.bk σ' H'
  | .ok (.cnt env') => ∀ σ' F' H', RS K F0 H0 F' H' σ' env' → Same F F' → D.ct σ' H'
  | .exn c => ∀ F' H', Ext F0 H0 F' H' → Same F F' → W c H'
  | .stuck => False
def tS (g : Env → Res Fl) : TS := fun D σ H => ∃ env F, RS K F0 H0 F H σ env ∧ KS K W F0 H0 D F (g env)
end
section
variable {K : PySem.W.Frag} {W : Nat → Hp → Prop} {F0 H0 F H : Hp} {Dn : Ends} {σ : L2.St} {env : Env}
theorem KS.mono {F1 : Hp} {r : Res Fl} (k : KS K W F0 H0 Dn F r) (s : Same F F1) : KS K W F0 H0 Dn F1 r := by
  cases r with
  | ok f =>
    cases f with
    | next env' => exact fun σ' F' H' a b => k σ' F' H' a (s.trans b)
    | ret d => exact fun v F' H' a b c => k v F' H' a (s.trans b) c
    | brk env' => exact fun σ' F' H' a b => k σ' F' H' a (s.trans b)
    | cnt env' => exact fun σ' F' H' a b => k σ' F' H' a (s.trans b)
  | exn c => exact fun F' H' a b => k F' H' a (s.trans b)
  | stuck => exact k
theorem KS.bind {α : Type} {r : Res α} {f : α → Res Fl} (rs : RS K F0 H0 F H σ env) (k : KS K W F0 H0 Dn F (r.bind f)) : KR (fun F1 _ a => KS K W F0 H0 Dn F1 (f a)) W F H r := by
  cases r with
  | ok a => exact fun F1 H1 e1 => KS.mono k e1.f
  | exn c => exact fun F1 H1 e1 => k F1 H1 (rs.ext.trans e1) e1.f
  | stuck => exact k
theorem KS.need {b : Bool} {r : Res Fl} (k : KS K W F0 H0 Dn F (need b r)) : b = true ∧ KS K W F0 H0 Dn F r := by
  cases b with
  | true => exact ⟨rfl, k⟩
  | false => exact k.elim
theorem KS.no {C : Prop} (k : KS K W F0 H0 Dn F .stuck) : C := False.elim k
/-- a fresh object that may be written yet, in a slot -/
theorem RS.setOwn {i : Nat} {p : Addr} {o : HO} {d : D} (r : RS K F0 H0 F H σ env) (hi : i < env.length) (n : H p = none) (h : OwnAt K F (upd H p o) p d) (nt : ∀ ps, o ≠ .tbl ps := by intro _ z; cases z) : RS K F0 H0 F (upd H p o) (σ.set i (some (.ref p))) (env.set i (some (.own d))) := by
  have r2 := r.more (Ext.fresh (o := o) r.ext.sub n nt)
  have hl : i < σ.length := by rw [← r.len]; exact hi
  refine ⟨r2.ext, r2.tab0, by rw [List.length_set, List.length_set]; exact r.len, fun j e q => ?_, fun j e q => ?_, fun j l e e' a q1 q2 q3 q4 => ?_⟩
  · by_cases hj : i = j
    · subst hj
      rw [List.getElem?_set_self hi] at q
      cases q
    · rw [List.getElem?_set_ne hj] at q ⊢
      exact r2.val j e q
  · by_cases hj : i = j
    · subst hj
      rw [List.getElem?_set_self hi] at q
      cases q
      exact ⟨p, by rw [List.getElem?_set_self hl], r.ext.sub.free n, r.ext.h.free n, h⟩
    · rw [List.getElem?_set_ne hj] at q ⊢
      exact r2.own j e q
  · have old : ∀ (m : Nat) (x : D) (b : Addr), i ≠ m → (env.set i (some (.own d)))[m]? = some (some (Slot.own x)) → (σ.set i (some (.ref p)))[m]? = some (some (.ref b)) → b ≠ p := fun m x b hm z1 z2 => by
      rw [List.getElem?_set_ne hm] at z1 z2
      obtain ⟨b', y1, _, _, y2⟩ := r.own m x z1
      rw [y1] at z2
      cases z2
      obtain ⟨o', y3⟩ := y2.tracked
      exact ne_of_none y3 n
    by_cases hj : i = j
    · by_cases hl2 : i = l
      · rw [← hj, ← hl2]
      · subst hj
        rw [List.getElem?_set_self hl] at q3
        cases q3
        exact absurd rfl (old l e' p hl2 q2 q4)
    · by_cases hl2 : i = l
      · subst hl2
        rw [List.getElem?_set_self hl] at q4
        cases q4
        exact absurd rfl (old j e p hj q1 q3)
      · rw [List.getElem?_set_ne hj] at q1 q3
        rw [List.getElem?_set_ne hl2] at q2 q4
        exact r.inj j l e e' a q1 q2 q3 q4
/-- what may be written is written -/
theorem RS.write {i : Nat} {a : Addr} {o : HO} {d d' : D} (r : RS K F0 H0 F H σ env) (hi : env[i]? = some (some (Slot.own d))) (ha : σ[i]? = some (some (.ref a))) (h : OwnAt K F (upd H a o) a d') (nt : ∀ ps, o ≠ .tbl ps := by intro _ z; cases z) : RS K F0 H0 F (upd H a o) σ (env.set i (some (.own d'))) := by
  obtain ⟨a', y1, y2, y3, y4⟩ := r.own i d hi
  rw [ha] at y1
  cases y1
  have hlt : i < env.length := (List.getElem?_eq_some_iff.mp hi).1
  have put : TabG H → TabG (upd H a o) := fun t => by
    rcases y4 with ⟨xs, ds, p1, p2, p3⟩ | ⟨xs, ds, p1, p2, p3⟩
    · exact t.put p2 (fun _ z => by cases z) (fun _ z => by cases z) nt
    · exact t.put p2 (fun _ z => by cases z) (fun _ z => by cases z) nt
  refine ⟨⟨r.ext.f, ⟨fun b u q n => ?_, fun b ps q => ?_, fun t => put (r.ext.h.ok t)⟩, fun b u q => ?_, r.ext.new⟩, r.tab0, by rw [List.length_set]; exact r.len, fun j e q => ?_, fun j e q => ?_, fun j l e e' b q1 q2 q3 q4 => ?_⟩
  · rw [upd_ne (ne_of_none q y3)]; exact r.ext.h.keep b u q n
  · rw [upd_ne (ne_of_none q y3)]; exact r.ext.h.tb b ps q
  · rw [upd_ne (ne_of_none q y2)]; exact r.ext.sub b u q
  · by_cases hj : i = j
    · subst hj
      rw [List.getElem?_set_self hlt] at q
      cases q
    · rw [List.getElem?_set_ne hj] at q
      exact r.val j e q
  · by_cases hj : i = j
    · subst hj
      rw [List.getElem?_set_self hlt] at q
      cases q
      exact ⟨a, ha, y2, y3, h⟩
    · rw [List.getElem?_set_ne hj] at q
      obtain ⟨b, z1, z2, z3, z4⟩ := r.own j e q
      refine ⟨b, z1, z2, z3, ?_⟩
      have hb : b ≠ a := fun z => hj (r.inj i j d e a hi q ha (by rw [← z]; exact z1))
      rcases z4 with ⟨xs, ds, p1, p2, p3⟩ | ⟨xs, ds, p1, p2, p3⟩
      · exact .inl ⟨xs, ds, p1, by rw [upd_ne hb]; exact p2, p3⟩
      · exact .inr ⟨xs, ds, p1, by rw [upd_ne hb]; exact p2, p3⟩
  · have back : ∀ (m : Nat) (x : D), (env.set i (some (.own d')))[m]? = some (some (Slot.own x)) → ∃ x', env[m]? = some (some (Slot.own x')) := fun m x z => by
      by_cases hm : i = m
      · subst hm; exact ⟨d, hi⟩
      · rw [List.getElem?_set_ne hm] at z; exact ⟨x, z⟩
    obtain ⟨x1, w1⟩ := back j e q1
    obtain ⟨x2, w2⟩ := back l e' q2
    exact r.inj j l x1 x2 b w1 w2 q3 q4
/-- what may be written is let be -/
theorem RS.freeze {i : Nat} {d : D} (r : RS K F0 H0 F H σ env) (hi : env[i]? = some (some (Slot.own d))) : ∃ F', RS K F0 H0 F' H σ (env.set i (some (.val d))) ∧ Same F F' := by
  obtain ⟨a, y1, y2, y3, y4⟩ := r.own i d hi
  obtain ⟨o, ho⟩ := y4.tracked
  have hlt : i < env.length := (List.getElem?_eq_some_iff.mp hi).1
  have sF : Same F (upd F a o) := same_upd y2
  refine ⟨upd F a o, ⟨⟨r.ext.f.trans sF, r.ext.h, fun b u q => ?_, fun b u q => ?_⟩, r.tab0, by rw [List.length_set]; exact r.len, fun j e q => ?_, fun j e q => ?_, fun j l e e' b q1 q2 q3 q4 => ?_⟩, sF⟩
  · by_cases hb : b = a
    · subst hb; rw [upd_same] at q; cases q; exact ho
    · rw [upd_ne hb] at q; exact r.ext.sub b u q
  · by_cases hb : b = a
    · subst hb; exact .inr y3
    · rw [upd_ne hb] at q; exact r.ext.new b u q
  · by_cases hj : i = j
    · subst hj
      rw [List.getElem?_set_self hlt] at q
      cases q
      refine ⟨_, y1, ?_⟩
      rcases y4 with ⟨xs, ds, rfl, p2, p3⟩ | ⟨xs, ds, rfl, p2, p3⟩
      · rw [p2] at ho; cases ho
        exact .lst (.inl upd_rd) (p3.mono sF)
      · rw [p2] at ho; cases ho
        exact .dic upd_same (p3.mono sF)
    · rw [List.getElem?_set_ne hj] at q
      obtain ⟨v, z1, z2⟩ := r.val j e q
      exact ⟨v, z1, z2.mono sF⟩
  · by_cases hj : i = j
    · subst hj
      rw [List.getElem?_set_self hlt] at q
      cases q
    · rw [List.getElem?_set_ne hj] at q
      obtain ⟨b, z1, z2, z3, z4⟩ := r.own j e q
      have hb : b ≠ a := fun z => hj (r.inj i j d e a hi q y1 (by rw [← z]; exact z1))
      refine ⟨b, z1, by rw [upd_ne hb]; exact z2, z3, ?_⟩
      rcases z4 with ⟨xs, ds, p1, p2, p3⟩ | ⟨xs, ds, p1, p2, p3⟩
      · exact .inl ⟨xs, ds, p1, p2, p3.mono sF⟩
      · exact .inr ⟨xs, ds, p1, p2, p3.mono sF⟩
  · by_cases hj : i = j
    · subst hj
      rw [List.getElem?_set_self hlt] at q1
      cases q1
    · by_cases hl : i = l
      · subst hl
        rw [List.getElem?_set_self hlt] at q2
        cases q2
      · rw [List.getElem?_set_ne hj] at q1
        rw [List.getElem?_set_ne hl] at q2
        exact r.inj j l e e' b q1 q2 q3 q4
end

/-! ### what stands around statements -/
/-- the exception classes, as a try asks of them -/
structure TryOk (K : PySem.W.Frag) (mg : Str → Option Value) (clsN : List Str) (clsA : Nat → Addr) : Prop where
  nm : ∀ c x, clsN[c]? = some x → mg x = some (.ref (clsA c))
  exc : ∀ c, c < clsN.length → ExcC K (clsA c)
  self : ∀ c, c < clsN.length → PySem.W.exmOne K (.ref (clsA c)) (.ref (clsA c)) = some true
  top : ∀ c, c < clsN.length → ∃ wa, mg "WordError" = some (.ref wa) ∧ PySem.W.exmOne K (.ref (clsA c)) (.ref wa) = some true
  one : ∀ c, c < clsN.length → PySem.W.kitOne K (.ref (clsA c)) (.ref (clsA c)) = some true ∧ PySem.W.kitOne K (.ref (clsA c)) (.type "ValueError") = some true
  oth : ∀ c c2 c3, c < clsN.length → c2 < clsN.length → c3 < clsN.length → c2 ≠ c → c3 ≠ c → PySem.W.kitAny K (.ref (clsA c)) [.ref (clsA c2), .ref (clsA c3)] = some false
  ve : 0 < clsN.length → mg "ValueError" = none
theorem try_nil {K : PySem.W.Frag} {mg : Str → Option Value} {clsA : Nat → Addr} : TryOk K mg [] clsA := ⟨fun c x h => by simp at h, fun c h => absurd h (Nat.not_lt_zero c), fun c h => absurd h (Nat.not_lt_zero c), fun c h => absurd h (Nat.not_lt_zero c), fun c h => absurd h (Nat.not_lt_zero c), fun c _ _ h => absurd h (Nat.not_lt_zero c), fun h => absurd h (Nat.not_lt_zero 0)⟩
structure SOk (X : Cx) (C : Cfg) (k : Nat) (Φ : Phi) (cs : Nat → Res D) (clsN : List Str) (clsA : Nat → Addr) (W : Nat → Hp → Prop) : Prop where
  x : XOk X C k Φ cs clsA W
  own : PassesOwn (model X.prog X.w) X.A X.env X.xe
  cls : ∀ c x, clsN[c]? = some x → ∀ X' : Cx, X'.K = X.K → X'.mg = X.mg → Gl X' x → ∀ (m : Str) (j : Nat) (p p2 pos : Pos), PMk X' (.Call (.Name x p) [.Constant (.str m) j p2] [] pos) (fun _ H Q => Q (.ref (clsA c)) none H)
  stk : X.stack = X.env :: X.outer
  frm : X.env.frame = some X.env.locals
  tr : TryOk X.K X.mg clsN clsA

section
variable {X : Cx} {C : Cfg} {k : Nat} {Φ : Phi} {cs : Nat → Res D} {clsN : List Str} {clsA : Nat → Addr} {W : Nat → Hp → Prop} {F0 H0 : Hp}
theorem _root_.L2.PS.impW {st : Stmt} {t t' : TS} (h : PS X st t) (q : ∀ D σ H, t' D σ H → t D σ H) : PS X st t' := ⟨fun pins s σ H D I w => h.run pins s σ H D I (q D σ H w)⟩
theorem _root_.L2.PSs.impW {st : List Stmt} {t t' : TS} (h : PSs X st t) (q : ∀ D σ H, t' D σ H → t D σ H) : PSs X st t' := ⟨fun pins s σ H D I w => h.run pins s σ H D I (q D σ H w)⟩
def isComp : E → Bool
  | .comp _ _ _ _ _ _ => true
  | _ => false
theorem no_swap {m : Md} {e : E} {x : Expr} {t : Option Expr} {l : Nat} {env : PySem.Env} (h : chk C m e x = true) (hc : isComp e = false) : swapsWith x t l env = pure false := by
  cases x with
  | ListComp a b c d =>
    cases e with
    | isi a tys =>
      cases tys with
      | nil => exact Bool.noConfusion h
      | cons t r => cases r <;> exact Bool.noConfusion h
    | comp _ _ _ _ _ _ => exact Bool.noConfusion hc
    | _ => exact Bool.noConfusion h
  | SetComp a b c d =>
    cases e with
    | isi a tys =>
      cases tys with
      | nil => exact Bool.noConfusion h
      | cons t r => cases r <;> exact Bool.noConfusion h
    | _ => exact Bool.noConfusion h
  | DictComp a b c d f =>
    cases e with
    | isi a tys =>
      cases tys with
      | nil => exact Bool.noConfusion h
      | cons t r => cases r <;> exact Bool.noConfusion h
    | _ => exact Bool.noConfusion h
  | _ => rfl
theorem asg_read {i : Nat} {e : E} {D : Ends} {σ : L2.St} {H F : Hp} {env : Env} {K : PySem.W.Frag} (rs : RS K F0 H0 F H σ env) (k : KS K W F0 H0 D F (ex Φ cs (.asg i e) env)) : tAsg (tE K W F0 H0 (ev Φ cs e)) (gName i) D σ H := by
  refine ⟨env, F, rs, (KS.bind rs k).imp fun F1 H1 d e1 k1 v r1 => ?_⟩
  replace k1 : KS K W F0 H0 D F1 ((need (decide (i < env.length)) (.ok (env.set i (some (.val d))))).bind fun env' => .ok (.next env')) := k1
  by_cases hi : i < env.length
  · rw [decide_eq_true hi] at k1
    exact k1 _ F1 H1 ((rs.more e1).set hi r1) (Same.refl F1)
  · rw [decide_eq_false hi] at k1
    exact KS.no k1
theorem ps_asg_ok (h : SOk X C k Φ cs clsN clsA W) {i : Nat} {e : E} {st : Stmt} (q : chkS C clsN (.asg i e) st = true) : PS X st (tS X.K W F0 H0 (ex Φ cs (.asg i e))) := by
  cases st with
  | Assign ts v pos =>
    cases ts with
    | nil => exact Bool.noConfusion q
    | cons t r =>
      cases t with
      | Name x px =>
        cases r with
        | cons _ _ => exact Bool.noConfusion q
        | nil =>
            have q' : (decide (C.N[i]? = some x) && C.asn x && chk C .val e v) = true := q
            rw [Bool.and_eq_true, Bool.and_eq_true] at q'
            obtain ⟨⟨q1, q2⟩, q3⟩ := q'
            obtain ⟨a1, a2⟩ := h.x.asn x q2
            have hN : X.N.Nodup := by rw [h.x.N]; exact h.x.nd
            have hi : X.N[i]? = some x := by rw [h.x.N]; exact of_decide_eq_true q1
            have pe := (se_all e (F0 := F0) (H0 := H0) h.x v).1 q3
            by_cases hc : isComp e = true
            · cases e with
              | comp elt g ik ia cond own =>
                obtain ⟨el, tg, iter, ifs, scope, cpos, xs, rfl, h1, h2, h3, h4, h5, h6, h7⟩ := comp_split (elt' := elt) q3
                have sw : ∀ l, swapsWith (.ListComp el [⟨tg, iter, ifs, 0⟩] scope cpos) (some (.Name x px)) l X.env = pure (X.env.blockKind == .function && X.env.kindOf x == some .local && px.line == (Expr.ListComp el [⟨tg, iter, ifs, 0⟩] scope cpos).pos.line
                    && !(scope.names.any fun (n, k) => n == x && (k == .local || k == .cell))) := fun l => rfl
                cases z : (X.env.blockKind == .function && X.env.kindOf x == some .local && px.line == (Expr.ListComp el [⟨tg, iter, ifs, 0⟩] scope cpos).pos.line && !(scope.names.any fun (n, k) => n == x && (k == .local || k == .cell))) with
                | true =>
                  have hl : X.env.scope.names.lookup x = some .local := by
                    rw [Bool.and_eq_true, Bool.and_eq_true, Bool.and_eq_true] at z
                    have := z.1.1.2
                    exact eq_of_beq this
                  exact (ps_setLc (i := i) h.x.calm hN hi hl (by rw [sw, z]) (pi_of (F0 := F0) (H0 := H0) (strong := false) h.x (sit_all ia) h4 h5) (blkOk_by (by rw [h.x.N, h.x.sc]; exact h1))
                    (fun s H A cl fp => pg_ok (F0 := F0) (H0 := H0) (h.x.inner scope s H A cl fp) g tg h2) (fun s H A cl fp => pts_ok (F0 := F0) (H0 := H0) (h.x.inner scope s H A cl fp) (ses_all cond) h6)
                    (fun s H A cl fp => (se_all elt (F0 := F0) (H0 := H0) (h.x.inner scope s H A cl fp) el).1 h7) (fun v => it_fold h4 h5 X.env v)).impW fun D σ H ⟨env, F, rs, k⟩ => by
                      obtain ⟨env2, F2, rs2, k2⟩ := asg_read (e := .comp elt g ik ia cond own) rs k
                      exact lc_read h3 rs2 (comp_kk k2)
                | false => exact (ps_set hN hi a1 pe (by rw [sw, z]) a2).impW fun D σ H ⟨env, F, rs, k⟩ => asg_read rs k
              | _ => exact Bool.noConfusion hc
            · exact (ps_set hN hi a1 pe (no_swap q3 (by simpa using hc)) a2).impW fun D σ H ⟨env, F, rs, k⟩ => asg_read rs k
      | _ => cases r <;> exact Bool.noConfusion q
  | _ => exact Bool.noConfusion q
end
end MW

set_option maxRecDepth 100000
set_option maxHeartbeats 1000000
/-! Part 2l: more statements. -/
namespace MW
open PySem PySem.Spec PyProof.Rows L2
open Res
variable [Lam]
section
variable {X : Cx} {C : Cfg} {k : Nat} {Φ : Phi} {cs : Nat → Res D} {clsN : List Str} {clsA : Nat → Addr} {W : Nat → Hp → Prop} {F0 H0 : Hp}

theorem ps_asgO_ok (h : SOk X C k Φ cs clsN clsA W) {i : Nat} {e : E} {st : Stmt} (q : chkS C clsN (.asgO i e) st = true) : PS X st (tS X.K W F0 H0 (ex Φ cs (.asgO i e))) := by
  cases st with
  | Assign ts v pos =>
    cases ts with
    | nil => exact Bool.noConfusion q
    | cons t r =>
      cases t with
      | Name x px =>
        cases r with
        | cons _ _ => exact Bool.noConfusion q
        | nil =>
          have q' : (decide (C.N[i]? = some x) && C.asn x && chk C .val e v && (match (generalizing := false) e with | .lst _ => true | .bin .Add _ _ => true | .dic0 => true | _ => false)) = true := q
          rw [Bool.and_eq_true, Bool.and_eq_true, Bool.and_eq_true] at q'
          obtain ⟨⟨⟨q1, q2⟩, q3⟩, q4⟩ := q'
          obtain ⟨a1, a2⟩ := h.x.asn x q2
          have hN : X.N.Nodup := by rw [h.x.N]; exact h.x.nd
          have hi : X.N[i]? = some x := by rw [h.x.N]; exact of_decide_eq_true q1
          cases e with
          | lst es =>
            cases v with
            | List xs lp =>
              obtain ⟨_, h2⟩ := not_tst (show (!Md.val.isTst && chks C .val es xs) = true from q3)
              refine (ps_set hN hi a1 (pe_lst ((ses_all es (F0 := F0) (H0 := H0) h.x xs).1 h2)) rfl a2).impW fun Dn σ H ⟨env, F, rs, k⟩ => ?_
              have e0 : ex Φ cs (.asgO i (.lst es)) env = (evs Φ cs es env).bind fun ds => (need (fitsZ ds.length) (.ok (PyData.list ds))).bind fun d => need (isOwnable d && decide (i < env.length)) (.ok (Fl.next (env.set i (some (Slot.own d))))) := by
                show ((evs Φ cs es env).bind fun ds => need (fitsZ ds.length) (.ok (PyData.list ds))).bind (fun d => need (isOwnable d && decide (i < env.length)) (.ok (Fl.next (env.set i (some (Slot.own d)))))) = _
                rw [bind_assoc]
              rw [e0] at k
              refine ⟨env, F, rs, (KS.bind rs k).imp fun F1 H1 ds e1 k1 vs r1 => ?_⟩
              cases z : fitsZ ds.length with
              | false => rw [z] at k1; exact KS.no k1
              | true =>
                rw [z] at k1
                obtain ⟨hi2, k2⟩ := KS.need (show KS X.K W F0 H0 Dn F1 (need (isOwnable (.list ds) && decide (i < env.length)) (.ok (Fl.next (env.set i (some (.own (.list ds))))))) from k1)
                have hlt : i < env.length := by
                  rw [Bool.and_eq_true] at hi2
                  exact of_decide_eq_true hi2.2
                exact ⟨by rw [r1.length]; exact fits_le z, fun p n => k2 _ F1 _ ((rs.more e1).setOwn hlt n (.inl ⟨vs, ds, rfl, upd_same, r1⟩)) (Same.refl F1)⟩
            | _ => exact Bool.noConfusion q3
          | dic0 =>
            cases v with
            | Dict ks vs dp =>
              cases ks with
              | nil =>
                cases vs with
                | nil =>
                  refine (ps_set hN hi a1 pe_dnewK rfl a2).impW fun Dn σ H ⟨env, F, rs, k⟩ p n => ?_
                  obtain ⟨hi2, k2⟩ := KS.need (show KS X.K W F0 H0 Dn F (need (isOwnable (.dict []) && decide (i < env.length)) (.ok (Fl.next (env.set i (some (.own (.dict []))))))) from k)
                  have hlt : i < env.length := by
                    rw [Bool.and_eq_true] at hi2
                    exact of_decide_eq_true hi2.2
                  exact k2 _ F _ (rs.setOwn hlt n (.inr ⟨[], [], rfl, upd_same, .nil⟩)) (Same.refl F)
                | cons _ _ => exact Bool.noConfusion q3
              | cons _ _ => exact Bool.noConfusion q3
            | _ => exact Bool.noConfusion q3
          | bin op a b =>
            cases op with
            | Add =>
              cases v with
              | BinOp l op' rr bp =>
                have h' : (!Md.val.isTst && decide (Operator.Add = op') && chk C .opd a l && chk C .opd b rr) = true := q3
                rw [Bool.and_eq_true, Bool.and_eq_true] at h'
                obtain ⟨_, h2⟩ := not_tst h'.1.1
                have e := of_decide_eq_true h2
                subst e
                refine (ps_set hN hi a1 (pe_op op_catR ((se_all a (F0 := F0) (H0 := H0) h.x l).2.1 h'.1.2) ((se_all b (F0 := F0) (H0 := H0) h.x rr).2.1 h'.2)) rfl a2).impW fun Dn σ H ⟨env, F, rs, k⟩ => ?_
                have e0 : ex Φ cs (.asgO i (.bin .Add a b)) env = (ev Φ cs a env).bind fun x => (ev Φ cs b env).bind fun y => (opD .Add x y).bind fun d => need (isOwnable d && decide (i < env.length)) (.ok (Fl.next (env.set i (some (Slot.own d))))) := by
                  show ((ev Φ cs a env).bind fun x => (ev Φ cs b env).bind fun y => opD .Add x y).bind (fun d => need (isOwnable d && decide (i < env.length)) (.ok (Fl.next (env.set i (some (Slot.own d)))))) = _
                  rw [bind_assoc]
                  congr 1
                  funext d
                  rw [bind_assoc]
                rw [e0] at k
                refine ⟨env, F, rs, (KS.bind rs k).imp fun F1 H1 d e1 k1 v1 r1 => ⟨env, F1, rs.more e1, (KS.bind (rs.more e1) k1).imp fun F2 H2 d2 e2 k2 v2 r2 => ?_⟩⟩
                cases d with
                | list as =>
                  cases d2 with
                  | list bs =>
                    replace k2 : KS X.K W F0 H0 Dn F2 ((need (fitsZ (as.length + bs.length)) (.ok (PyData.list (as ++ bs)))).bind fun d => need (isOwnable d && decide (i < env.length)) (.ok (Fl.next (env.set i (some (Slot.own d)))))) := k2
                    obtain ⟨p1, xs1, rfl, g1, g2⟩ := (r1.mono e2).lst e2.sub
                    obtain ⟨p2, xs2, rfl, g3, g4⟩ := r2.lst e2.sub
                    cases z : fitsZ (as.length + bs.length) with
                    | false => rw [z] at k2; exact KS.no k2
                    | true =>
                      rw [z] at k2
                      obtain ⟨hi2, k3⟩ := KS.need (show KS X.K W F0 H0 Dn F2 (need (isOwnable (.list (as ++ bs)) && decide (i < env.length)) (.ok (Fl.next (env.set i (some (.own (.list (as ++ bs)))))))) from k2)
                      have hlt : i < env.length := by
                        rw [Bool.and_eq_true] at hi2
                        exact of_decide_eq_true hi2.2
                      exact ⟨p1, p2, xs1, xs2, rfl, rfl, g1, g3, by rw [g2.length, g4.length]; exact fits_le z, fun p n => k3 _ F2 _ (((rs.more e1).more e2).setOwn hlt n (.inl ⟨_, _, rfl, upd_same, g2.append g4⟩)) (Same.refl F2)⟩
                  | _ => exact KS.no k2
                | int _ =>
                  cases d2 with
                  | int _ => exact KS.no k2
                  | _ => exact KS.no k2
                | str a =>
                  cases d2 with
                  | str b =>
                    replace k2 : KS X.K W F0 H0 Dn F2 ((need (fitsZ (a.length + b.length)) (.ok (PyData.str (a ++ b)))).bind fun d => need (isOwnable d && decide (i < env.length)) (.ok (Fl.next (env.set i (some (Slot.own d)))))) := k2
                    cases z : fitsZ (a.length + b.length) <;> (rw [z] at k2; exact KS.no k2)
                  | _ => exact KS.no k2
                | tuple a =>
                  cases d2 with
                  | tuple b =>
                    replace k2 : KS X.K W F0 H0 Dn F2 ((need (fitsZ (a.length + b.length)) (.ok (PyData.tuple (a ++ b)))).bind fun d => need (isOwnable d && decide (i < env.length)) (.ok (Fl.next (env.set i (some (Slot.own d)))))) := k2
                    cases z : fitsZ (a.length + b.length) <;> (rw [z] at k2; exact KS.no k2)
                  | _ => exact KS.no k2
                | _ => exact KS.no k2
              | _ => exact Bool.noConfusion q3
            | _ => exact Bool.noConfusion q4
          | _ => exact Bool.noConfusion q4
      | _ => cases r <;> exact Bool.noConfusion q
  | _ => exact Bool.noConfusion q
mutual
theorem bindG_no : ∀ (g : G) (d : D) (env : Env) (c : Nat), bindG g d env ≠ .exn c
  | .name i, d, env, c, h => by
    have h' : need (decide (i < env.length)) (Res.ok (env.set i (some (.val d)))) = .exn c := h
    cases z : decide (i < env.length) <;> rw [z] at h' <;> cases h'
  | .tup gs, d, env, c, h => by
    cases d with
    | tuple ds => exact bindGs_no gs ds env c h
    | _ => cases h
theorem bindGs_no : ∀ (gs : Gs) (ds : List D) (env : Env) (c : Nat), bindGs gs ds env ≠ .exn c
  | .nil, [], env, c, h => by cases h
  | .nil, _ :: _, env, c, h => by cases h
  | .cons g gs, [], env, c, h => by cases h
  | .cons g gs, d :: ds, env, c, h => by
    have h' : (bindG g d env).bind (fun env' => bindGs gs ds env') = .exn c := h
    cases z : bindG g d env with
    | ok env' => rw [z] at h'; exact bindGs_no gs ds env' c h'
    | exn c' => exact bindG_no g d env c' z
    | stuck => rw [z] at h'; cases h'
end
theorem swapped_none {tg : Expr} {vs : List Expr} {k2 : Nat} {pt2 : Pos} {env : PySem.Env} (h : oneCell env.scope tg = true) : swappedStores [tg] (.Tuple vs k2 pt2) env = pure none := by
  unfold oneCell at h
  split at h
  · rename_i x px y py kt pt
    rw [Bool.or_eq_true] at h
    unfold swappedStores
    dsimp only
    split
    · rfl
    · split
      · rfl
      · rw [if_pos]
        rw [Bool.or_eq_true]
        left
        have hne : ∀ z : Str, env.scope.names.lookup z ≠ some .local → (env.kindOf z == some NameKind.local) = false := fun z hz => by
          refine beq_eq_false_iff_ne.mpr hz
        rcases h with h | h
        · have h1 := hne x (of_decide_eq_true h)
          simp only [List.filterMap_cons, List.filterMap_nil, h1, Bool.false_and, Bool.false_eq_true, if_false]
          split <;> simp_all
        · have h1 := hne y (of_decide_eq_true h)
          simp only [List.filterMap_cons, List.filterMap_nil, h1, Bool.false_and, Bool.false_eq_true, if_false]
          split <;> simp_all
  · cases h
theorem ps_asgT_ok (h : SOk X C k Φ cs clsN clsA W) {g : G} {e : E} {st : Stmt} (q : chkS C clsN (.asgT g e) st = true) : PS X st (tS X.K W F0 H0 (ex Φ cs (.asgT g e))) := by
  cases st with
  | Assign ts v pos =>
    match ts, q with
    | [tg], q =>
      have q' : (isTup tg && (!isTup v || oneCell C.sc tg) && chkG C g tg && chk C .val e v) = true := q
      rw [Bool.and_eq_true, Bool.and_eq_true, Bool.and_eq_true] at q'
      obtain ⟨⟨⟨q1, q2⟩, q3⟩, q4⟩ := q'
      cases tg with
      | Tuple es j tp =>
        have hw : swappedStores [.Tuple es j tp] v X.env = pure none := by
          cases v with
          | Tuple _ _ _ =>
            have q3 : oneCell X.env.scope (.Tuple es j tp) = true := by
              rw [h.x.sc]
              simpa [isTup] using q2
            exact swapped_none q3
          | _ => rfl
        have hs : swapsWithSole [.Tuple es j tp] v pos.line X.env = pure false := by
          cases v <;> rfl
        refine (ps_asg ((se_all e (F0 := F0) (H0 := H0) h.x v).1 q4) (pg_ok (F0 := F0) (H0 := H0) h.x g _ q3) hs hw rfl).impW fun Dn σ H ⟨env, F, rs, k⟩ => ?_
        refine ⟨env, F, rs, (KS.bind rs k).imp fun F1 H1 d e1 k1 v1 r1 => ?_⟩
        cases z : bindG g d env with
        | exn c => 
          exact absurd z (bindG_no g d env c)
        | stuck => rw [z] at k1; exact KS.no k1
        | ok env' =>
          rw [z] at k1
          exact ⟨env, F1, d, rs.more e1, r1, env', z, fun σ' rs' _ => k1 σ' F1 H1 rs' (Same.refl F1)⟩
      | _ => exact Bool.noConfusion q1
    | [], q => exact Bool.noConfusion q
    | _ :: _ :: _, q => exact Bool.noConfusion q
  | _ => exact Bool.noConfusion q
end
end MW

set_option maxRecDepth 100000
set_option maxHeartbeats 1000000
/-! Part 2m: the rest of the statements. -/
namespace MW
open PySem PySem.Spec PyProof.Rows L2
open Res
variable [Lam]
section
variable {X : Cx} {C : Cfg} {k : Nat} {Φ : Phi} {cs : Nat → Res D} {clsN : List Str} {clsA : Nat → Addr} {W : Nat → Hp → Prop} {F0 H0 : Hp}
theorem setV_ok {env : Env} {i : Nat} {d : D} {Dn : Ends} {F : Hp} {K : PySem.W.Frag} {f : Env → Res Fl} (k : KS K W F0 H0 Dn F ((setV env i d).bind f)) : i < env.length ∧ KS K W F0 H0 Dn F (f (env.set i (some (.val d)))) := by
  by_cases hi : i < env.length
  · have e : setV env i d = .ok (env.set i (some (.val d))) := need_true (decide_eq_true hi)
    rw [e] at k
    exact ⟨hi, k⟩
  · have e : setV env i d = .stuck := need_false (decide_eq_false hi)
    rw [e] at k
    exact KS.no k
theorem swapped_ok {x y : Str} {px py pt : Pos} {kt k2 : Nat} {a b : Expr} {pt2 : Pos} {env : PySem.Env} (hk : env.scope.kind = .function) (hx : env.scope.names.lookup x = some .local) (hy : env.scope.names.lookup y = some .local) (hxy : x ≠ y) (hl : px.line = py.line)
    (ha : notStar a = true) (hb : notStar b = true) (h1 : (foldedForSure 8 a && foldedForSure 8 b) = false) (h2 : (constantsAlone 8 a && constantsAlone 8 b) = false) :
    swappedStores [.Tuple [.Name x px, .Name y py] kt pt] (.Tuple [a, b] k2 pt2) env = pure (some [x, y]) := by
  have hbk : env.blockKind = .function := by unfold Env.blockKind; rw [hk]; rfl
  have kx : env.kindOf x = some .local := hx
  have ky : env.kindOf y = some .local := hy
  have c1 : (env.kindOf x == some NameKind.local && px.line == px.line) = true := by rw [kx]; simp
  have c2 : (env.kindOf y == some NameKind.local && py.line == px.line) = true := by rw [ky, hl]; simp
  have hdup : ([x, y] : List Str).eraseDups = [x, y] := by
    have : (y == x) = false := beq_eq_false_iff_ne.mpr (Ne.symm hxy)
    simp [List.eraseDups_cons, this]
  unfold swappedStores
  dsimp only [List.length_cons, List.length_nil]
  rw [if_neg (by rw [hbk]; decide)]
  rw [if_neg (by
    cases a with
    | Starred _ _ => exact Bool.noConfusion ha
    | _ => cases b with
      | Starred _ _ => exact Bool.noConfusion hb
      | _ => exact Bool.false_ne_true)]
  simp only [List.filterMap_cons, List.filterMap_nil, List.head?_cons, Option.map_some, Option.getD_some, Expr.pos, c1, c2, if_true, hdup]
  rw [if_neg (show ¬ ([x, y].length != 0 + 1 + 1 || [x, y].length != [x, y].length) = true from Bool.false_ne_true)]
  rw [if_neg (by rw [List.all_cons, List.all_cons, List.all_nil, Bool.and_true, h1]; exact Bool.false_ne_true)]
  rw [if_neg (by rw [List.all_cons, List.all_cons, List.all_nil, Bool.and_true, h2]; exact Bool.false_ne_true)]
theorem ps_par_ok (h : SOk X C k Φ cs clsN clsA W) (hkd : C.sc.kind = .function) {i j : Nat} {a b : E} {st : Stmt} (q : chkS C clsN (.par i j a b) st = true) : PS X st (tS X.K W F0 H0 (ex Φ cs (.par i j a b))) := by
  unfold chkS at q
  split at q <;> first | (exact Bool.noConfusion q) | skip
  all_goals try (rename_i e1; cases e1)
  rename_i x px y py kt pt v u k2 pt2 pos
  simp only [Bool.and_eq_true, decide_eq_true_eq, Bool.not_eq_true'] at q
  obtain ⟨⟨⟨⟨⟨⟨⟨⟨⟨⟨⟨⟨q1, q2⟩, q3⟩, q4⟩, q5⟩, q6⟩, q7⟩, q8⟩, q9⟩, q10⟩, q11⟩, q12⟩, q13⟩ := q
  have hx : X.env.scope.names.lookup x = some .local := by rw [h.x.sc]; exact q4
  have hy : X.env.scope.names.lookup y = some .local := by rw [h.x.sc]; exact q5
  have hkd' : X.env.scope.kind = .function := by rw [h.x.sc]; exact hkd
  refine (ps_par h.x.calm (by rw [h.x.N]; exact h.x.nd) (by rw [h.x.N]; exact q1) (by rw [h.x.N]; exact q2) q3 hx hy (pa_cons ((se_all a (F0 := F0) (H0 := H0) h.x v).1 q12) (pa_cons ((se_all b (F0 := F0) (H0 := H0) h.x u).1 q13) pa_nil (star_of q9)) (star_of q8))
    (swapped_ok hkd' hx hy q6 q7 q8 q9 q10 q11) rfl).impW fun Dn σ H ⟨env, F, rs, k⟩ => ?_
  refine ⟨env, F, rs, (KS.bind rs k).imp fun F1 H1 d e1 k1 v1 r1 => ⟨env, F1, rs.more e1, (KS.bind (rs.more e1) k1).imp fun F2 H2 d2 e2 k2 v2 r2 => ?_⟩⟩
  obtain ⟨z1, k3⟩ := setV_ok k2
  obtain ⟨z2, k4⟩ := setV_ok k3
  exact ⟨v1, v2, rfl, k4 _ F2 H2 ((((rs.more e1).more e2).set z1 (r1.mono e2.f)).set z2 r2) (Same.refl F2)⟩
theorem pe_slot (h : SOk X C k Φ cs clsN clsA W) {i : Nat} {x : Str} {pos : Pos} (q : varB C i x = true) : PE X (.Name x pos) (tVar i) := h.x.var q
theorem ps_app_ok (h : SOk X C k Φ cs clsN clsA W) {i : Nat} {e : E} {st : Stmt} (q : chkS C clsN (.app i e) st = true) : PS X st (tS X.K W F0 H0 (ex Φ cs (.app i e))) := by
  cases st with
  | Expr v pos =>
    cases v with
    | Call fn args kws cpos =>
      cases fn with
      | Attribute o m apos =>
        cases o with
        | Name x px =>
          match args, kws, q with
          | [v], [], q =>
            have q' : (varB C i x && decide (m = "append") && decide (apos.endLine = cpos.line) && chk C .val e v && notStar v) = true := q
            rw [Bool.and_eq_true, Bool.and_eq_true, Bool.and_eq_true, Bool.and_eq_true] at q'
            obtain ⟨⟨⟨⟨q1, q2⟩, q3⟩, q4⟩, q5⟩ := q'
            have e0 := of_decide_eq_true q2
            subst e0
            refine (ps_expr (pe_bm PySem.F.plainAttrs_list PySem.F.slot_list_append PySem.F.type_list_append mt_append (h.x.var (pos := px) q1) (pa_cons ((se_all e (F0 := F0) (H0 := H0) h.x v).1 q4) pa_nil (star_of q5)) rfl (by rw [star_of q5]; rfl) (by rw [of_decide_eq_true q3]; exact beq_self_eq_true _) (star_of q5) rfl) rfl).impW fun Dn σ H ⟨env, F, rs, k⟩ => ?_
            replace k : KS X.K W F0 H0 Dn F (match env[i]? with
              | some (some (.own (.list ds))) => (ev Φ cs e env).bind fun d => need (decide (ds.length < sizeLine)) (.ok (Fl.next (env.set i (some (.own (.list (ds ++ [d])))))))
              | _ => .stuck) := k
            split at k
            · rename_i ds hs
              obtain ⟨a, y1, y2, y3, y4⟩ := rs.own i _ hs
              have hl : ∃ xs, H a = some (.lst xs) ∧ RpAll X.K F xs ds := by
                rcases y4 with ⟨xs, ds', p1, p2, p3⟩ | ⟨_, _, p1, _⟩
                · cases p1; exact ⟨xs, p2, p3⟩
                · cases p1
              obtain ⟨xs, p2, p3⟩ := hl
              refine ⟨_, y1, .inl ⟨rfl, xs, SqL.of p2⟩, env, F, rs, (KS.bind rs k).imp fun F1 H1 d e1 k1 v1 r1 => ?_⟩
              obtain ⟨z, k2⟩ := KS.need k1
              have p4 : H1 a = some (.lst xs) := e1.h.lst p2
              refine ⟨a, xs, v1, rfl, rfl, p4, by rw [p3.length]; exact of_decide_eq_true z, ?_⟩
              exact k2 _ F1 _ ((rs.more e1).write hs y1 (.inl ⟨_, _, rfl, upd_same, (p3.mono e1.f).append (.cons r1 .nil)⟩)) (Same.refl F1)
            · exact KS.no k
          | [], _, q => exact Bool.noConfusion q
          | [_], _ :: _, q => exact Bool.noConfusion q
          | _ :: _ :: _, _, q => exact Bool.noConfusion q
        | _ => exact Bool.noConfusion q
      | _ => exact Bool.noConfusion q
    | _ => exact Bool.noConfusion q
  | _ => exact Bool.noConfusion q
/-- a list that is just laid -/
def tF (K : PySem.W.Frag) (W : Nat → Hp → Prop) (F0 H0 : Hp) (g : Env → Res D) : TE := fun σ H Q => ∃ env F, RS K F0 H0 F H σ env ∧ KR (fun F' H' d => ∀ p acc ds F2 H2, d = PyData.list ds → Ext F' H' F2 H2 → H2 p = some (.lst acc) → RpAll K F2 acc ds → Q (.ref p) H2) W F H (g env)
theorem pe_laid (hX : XOk X C k Φ cs clsA W) {e : E} {v : Expr} (q : chk C .val e v = true) (he : (match (generalizing := false) e with | .lst _ => true | .comp _ _ _ _ _ _ => true | _ => false) = true) : PE X v (tF X.K W F0 H0 (ev Φ cs e)) := by
  cases e with
  | lst es =>
    cases v with
    | List xs pos =>
      obtain ⟨_, h2⟩ := not_tst (show (!Md.val.isTst && chks C .val es xs) = true from q)
      refine (pe_lst ((ses_all es (F0 := F0) (H0 := H0) hX xs).1 h2)).impW fun σ H Q ⟨env, F, rs, k⟩ => ⟨env, F, rs, (KR.bind k).imp fun F1 H1 ds e1 k1 vs r1 => ?_⟩
      obtain ⟨z, k2⟩ := KR.need k1
      exact ⟨by rw [r1.length]; exact fits_le z, fun p n => k2 F1 H1 (Ext.refl e1.sub) p vs ds F1 _ rfl (Ext.fresh e1.sub n) upd_same r1⟩
    | _ => exact Bool.noConfusion q
  | comp elt g ik ia cond own =>
    obtain ⟨el, tg, iter, ifs, scope, cpos, xs, rfl, h1, h2, h3, h4, h5, h6, h7⟩ := comp_split (elt' := elt) q
    refine (pe_lc hX.calm (by rw [hX.N]; exact hX.nd) (pi_of (F0 := F0) (H0 := H0) (strong := false) hX (sit_all ia) h4 h5) (blkOk_by (by rw [hX.N, hX.sc]; exact h1))
      (fun s H A cl fp => pg_ok (F0 := F0) (H0 := H0) (hX.inner scope s H A cl fp) g tg h2) (fun s H A cl fp => pts_ok (F0 := F0) (H0 := H0) (hX.inner scope s H A cl fp) (ses_all cond) h6)
      (fun s H A cl fp => (se_all elt (F0 := F0) (H0 := H0) (hX.inner scope s H A cl fp) el).1 h7) (fun v => it_fold h4 h5 X.env v)).impW fun σ H Q ⟨env, F, rs, k⟩ => lc_read h3 rs ?_
    have e0 : ev Φ cs (.comp elt g ik ia cond own) env = (gI Φ cs ik ia env).bind fun xs => (compL (turnOf Φ cs elt g cond own env) xs).bind fun r => need (fitsZ r.length) (.ok (PyData.list r)) := by
      show (evs Φ cs ia env).bind (fun ds => (iterD ik ds).bind fun xs => (compL (turnOf Φ cs elt g cond own env) xs).bind fun r => need (fitsZ r.length) (.ok (PyData.list r))) = _
      unfold gI
      rw [bind_assoc]
    rw [e0] at k
    refine (KR.bind k).imp fun F1 H1 ds e1 k1 => ?_
    cases z : compL (turnOf Φ cs elt g cond own env) ds with
    | exn c => rw [z] at k1; exact k1
    | stuck => rw [z] at k1; exact k1.elim
    | ok r =>
      rw [z] at k1
      obtain ⟨hz, k2⟩ := KR.need (show KR _ W F1 H1 (need (fitsZ r.length) (.ok (PyData.list r))) from k1)
      exact fun F2 H2 e2 => ⟨fits_le hz, fun p F3 H3 ex n f3 ⟨acc, h3, ra⟩ => k2 F1 H1 (Ext.refl e1.sub) p acc r F3 H3 rfl ex h3 ra⟩
  | _ => exact Bool.noConfusion he
theorem ps_ext_ok (h : SOk X C k Φ cs clsN clsA W) {i : Nat} {e : E} {st : Stmt} (q : chkS C clsN (.ext i e) st = true) : PS X st (tS X.K W F0 H0 (ex Φ cs (.ext i e))) := by
  cases st with
  | Expr v pos =>
    cases v with
    | Call fn args kws cpos =>
      cases fn with
      | Attribute o m apos =>
        cases o with
        | Name x px =>
          match args, kws, q with
          | [v], [], q =>
            have q' : (varB C i x && decide (m = "extend") && decide (apos.endLine = cpos.line) && chk C .val e v && notStar v && (match (generalizing := false) e with | .lst _ => true | .comp _ _ _ _ _ _ => true | _ => false)) = true := q
            rw [Bool.and_eq_true, Bool.and_eq_true, Bool.and_eq_true, Bool.and_eq_true, Bool.and_eq_true] at q'
            obtain ⟨⟨⟨⟨⟨q1, q2⟩, q3⟩, q4⟩, q5⟩, q6⟩ := q'
            have e0 := of_decide_eq_true q2
            subst e0
            refine (ps_expr (pe_bm PySem.F.plainAttrs_list PySem.F.slot_list_extend PySem.F.type_list_extend mt_extend (h.x.var (pos := px) q1) (pa_cons (pe_laid (F0 := F0) (H0 := H0) h.x q4 q6) pa_nil (star_of q5)) rfl (by rw [star_of q5]; rfl) (by rw [of_decide_eq_true q3]; exact beq_self_eq_true _) (star_of q5) rfl) rfl).impW fun Dn σ H ⟨env, F, rs, k⟩ => ?_
            replace k : KS X.K W F0 H0 Dn F (match env[i]? with
              | some (some (.own (.list ds))) => (ev Φ cs e env).bind fun d => match d with
                | .list xs => need (fitsZ (ds.length + xs.length)) (.ok (Fl.next (env.set i (some (.own (.list (ds ++ xs)))))))
                | _ => .stuck
              | _ => .stuck) := k
            split at k
            · rename_i ds hs
              obtain ⟨a, y1, y2, y3, y4⟩ := rs.own i _ hs
              have hl : ∃ xs, H a = some (.lst xs) ∧ RpAll X.K F xs ds := by
                rcases y4 with ⟨xs, ds', p1, p2, p3⟩ | ⟨_, _, p1, _⟩
                · cases p1; exact ⟨xs, p2, p3⟩
                · cases p1
              obtain ⟨xs, p2, p3⟩ := hl
              refine ⟨_, y1, .inl ⟨rfl, xs, SqL.of p2⟩, env, F, rs, (KS.bind rs k).imp fun F1 H1 d e1 k1 p acc bs F2 H2 hd e2 hp ra => ?_⟩
              subst hd
              obtain ⟨z, k2⟩ := KS.need (show KS X.K W F0 H0 Dn F1 (need (fitsZ (ds.length + bs.length)) (.ok (Fl.next (env.set i (some (.own (.list (ds ++ bs)))))))) from k1)
              have p4 : H2 a = some (.lst xs) := e2.h.lst (e1.h.lst p2)
              refine ⟨a, p, xs, acc, rfl, rfl, p4, hp, by rw [p3.length, ra.length]; exact fits_le z, ?_⟩
              exact (KS.mono k2 e2.f) _ F2 _ (((rs.more e1).more e2).write hs y1 (.inl ⟨_, _, rfl, upd_same, ((p3.mono e1.f).mono e2.f).append ra⟩)) (Same.refl F2)
            · exact KS.no k
          | [], _, q => exact Bool.noConfusion q
          | [_], _ :: _, q => exact Bool.noConfusion q
          | _ :: _ :: _, _, q => exact Bool.noConfusion q
        | _ => exact Bool.noConfusion q
      | _ => exact Bool.noConfusion q
    | _ => exact Bool.noConfusion q
  | _ => exact Bool.noConfusion q
theorem ps_put_ok (h : SOk X C k Φ cs clsN clsA W) {i : Nat} {kx e : E} {st : Stmt} (q : chkS C clsN (.put i kx e) st = true) : PS X st (tS X.K W F0 H0 (ex Φ cs (.put i kx e))) := by
  cases st with
  | Assign ts v pos =>
    cases ts with
    | nil => exact Bool.noConfusion q
    | cons t r =>
      cases t with
      | Subscript o k' sp =>
        cases o with
        | Name x px =>
          cases r with
          | cons _ _ => exact Bool.noConfusion q
          | nil =>
            have q' : (varB C i x && chk C .val kx k' && chk C .val e v) = true := q
            rw [Bool.and_eq_true, Bool.and_eq_true] at q'
            obtain ⟨⟨q1, q2⟩, q3⟩ := q'
            have hsw : swapsWith v (some (.Subscript (.Name x px) k' sp)) pos.line X.env = pure false := by cases v <;> rfl
            refine (ps_dput (hu_of h.x.room) (h.x.var (pos := px) q1) ((se_all kx (F0 := F0) (H0 := H0) h.x k').1 q2) ((se_all e (F0 := F0) (H0 := H0) h.x v).1 q3) hsw).impW fun Dn σ H ⟨env, F, rs, k⟩ => ?_
            replace k : KS X.K W F0 H0 Dn F (match env[i]? with
              | some (some (.own (.dict kvs))) => (ev Φ cs e env).bind fun d => (ev Φ cs kx env).bind fun kd => match toKey kd with
                | some q => need (decide (kvs.length < sizeLine)) (.ok (Fl.next (env.set i (some (.own (.dict (dictPut kvs q d)))))))
                | none => .stuck
              | _ => .stuck) := k
            split at k
            · rename_i ds hs
              obtain ⟨a, y1, y2, y3, y4⟩ := rs.own i _ hs
              have hl : ∃ xs, H a = some (.dK xs) ∧ RpKV X.K F xs ds := by
                rcases y4 with ⟨_, _, p1, _⟩ | ⟨xs, ds', p1, p2, p3⟩
                · cases p1
                · cases p1; exact ⟨xs, p2, p3⟩
              obtain ⟨xs, p2, p3⟩ := hl
              refine ⟨env, F, rs, (KS.bind rs k).imp fun F1 H1 d e1 k1 v1 r1 => ⟨_, y1, env, F1, rs.more e1, (KS.bind (rs.more e1) k1).imp fun F2 H2 kd e2 k2 v2 r2 => ?_⟩⟩
              cases z : toKey kd with
              | none => rw [z] at k2; exact KS.no k2
              | some key =>
                rw [z] at k2
                obtain ⟨hz, k3⟩ := KS.need (show KS X.K W F0 H0 Dn F2 (need (decide (ds.length < sizeLine)) (.ok (Fl.next (env.set i (some (.own (.dict (dictPut ds key d)))))))) from k2)
                obtain rfl := toKey_kV (F := F2) (H := H2) (.inl r2) z
                have p4 : H2 a = some (.dK xs) := e2.h.dK (e1.h.dK p2)
                refine ⟨a, _, rfl, DPut.k (v := v1) p4 (by rw [p3.length]; exact of_decide_eq_true hz), ?_⟩
                exact k3 _ F2 _ (((rs.more e1).more e2).write hs y1 (.inr ⟨_, _, rfl, upd_same, kv_put (r1.mono e2.f) ((p3.mono e1.f).mono e2.f)⟩)) (Same.refl F2)
            · exact KS.no k
        | _ => cases r <;> exact Bool.noConfusion q
      | _ => cases r <;> exact Bool.noConfusion q
  | _ => exact Bool.noConfusion q
theorem ps_ret_ok (h : SOk X C k Φ cs clsN clsA W) {e : E} {st : Stmt} (q : chkS C clsN (.ret e) st = true) : PS X st (tS X.K W F0 H0 (ex Φ cs (.ret e))) := by
  cases st with
  | Return v pos =>
    cases v with
    | some x =>
      have q' : chk C .val e x = true := q
      refine (ps_ret ((se_all e (F0 := F0) (H0 := H0) h.x x).1 q')).impW fun Dn σ H ⟨env, F, rs, k⟩ => ⟨env, F, rs, (KS.bind rs k).imp fun F1 H1 d e1 k1 v r1 => ?_⟩
      exact k1 v F1 H1 (rs.ext.trans e1) (Same.refl F1) r1
    | none => exact Bool.noConfusion q
  | _ => exact Bool.noConfusion q
theorem ps_expr_ok (h : SOk X C k Φ cs clsN clsA W) {e : E} {st : Stmt} (q : chkS C clsN (.expr e) st = true) : PS X st (tS X.K W F0 H0 (ex Φ cs (.expr e))) := by
  cases st with
  | Expr v pos =>
    cases v with
    | Call f xs ks p =>
      have q' : chk C .val e (.Call f xs ks p) = true := q
      refine (ps_expr ((se_all e (F0 := F0) (H0 := H0) h.x _).1 q') rfl).impW fun Dn σ H ⟨env, F, rs, k⟩ => ⟨env, F, rs, (KS.bind rs k).imp fun F1 H1 d e1 k1 v r1 => ?_⟩
      exact k1 σ F1 H1 (rs.more e1) (Same.refl F1)
    | _ => exact Bool.noConfusion q
  | _ => exact Bool.noConfusion q
theorem ps_raise_ok (h : SOk X C k Φ cs clsN clsA W) {c : Nat} {st : Stmt} (q : chkS C clsN (.raise c) st = true) : PS X st (tS X.K W F0 H0 (ex Φ cs (.raise c))) := by
  unfold chkS at q
  split at q <;> first | (exact Bool.noConfusion q) | skip
  all_goals try (rename_i e1; cases e1)
  rename_i x px sm j p2 p3 p4
  rw [Bool.and_eq_true] at q
  exact (ps_raise h.x.calm h.x.takes (h.cls c x (of_decide_eq_true q.1) X rfl rfl (h.x.gl q.2) _ _ _ _ _)).impW fun Dn σ H ⟨env, F, rs, k⟩ => ⟨c, rfl, rfl, k F H rs.ext (Same.refl F)⟩
end
end MW

set_option maxRecDepth 100000
set_option maxHeartbeats 1000000
/-! Part 2y: try. -/
namespace MW
open PySem PySem.Spec PyProof.Rows L2
open Res
variable [Lam]
/-- isinstance(e, (c1, c2)), e the exception that the suite holds -/
def rIsET (K : PySem.W.Frag) (Dc a : Addr) : List V → Hp → VK → Prop := fun xs H Q => ∃ (tp : Addr) (cs : List V) (us : List Value) (b : Bool), xs = [.ref a, .ref tp] ∧ H tp = some (.tup cs) ∧ Paired ClsV cs us ∧ PySem.W.kitAny K (.ref Dc) us = some b ∧ Q (.bl b) H
theorem call_isET {X : Cx} {a Dc : Addr} {oe : Obj} {pn : List (Addr × Obj)} (C : ExcC X.K Dc) (hz : Zc (.ref Dc) none oe) (hf : ∃ vs, oe.data = .fields vs) : CallR (X.suite a ((a, oe) :: pn)) (.builtin "isinstance") (rIsET X.K Dc a) := by
  intro pins s σ H xs us Q I r h
  obtain ⟨tp, cs, ws, b, rfl, hT, k, e, q⟩ := h
  obtain ⟨u1, u2, rfl, r1, r2⟩ := vals2 r
  cases (show u2 = Value.ref tp from r2)
  cases (show u1 = Value.ref a from r1)
  obtain ⟨hget, _⟩ := I.pin (a, oe) (List.mem_append.mpr (.inl List.mem_cons_self))
  obtain ⟨vs, hv⟩ := hf
  have J : PySem.W.InstAt s.heap a oe Dc none := by
    obtain ⟨oc, od, oda, osl⟩ := oe
    obtain ⟨h1, h2⟩ := hz
    dsimp only at h1 h2 hv
    subst h1 h2 hv
    exact ⟨hget, rfl, rfl, trivial⟩
  obtain ⟨_, its, rv, o, h1, h2, n, h3⟩ := (show ObjOk X.prog X.w H s.heap tp (.tup cs) from I.hok tp _ hT)
  have e3 := ClsV.all k rv
  subst e3
  obtain ⟨oc, od, dt, sl⟩ := o
  simp only at h2 h3
  subst h2 h3
  exact PySem.W.kia_tup (PySem.W.handS_kitx_exc C.hg C.hk C.hs C.hd C.ha C.hn C.ht C.hm) I.kIn J h1 e (fun z => nomatch z) fun tk => ⟨.bl b, H, I.tok tk, rfl, q⟩
theorem RS.one {K : PySem.W.Frag} {F0 H0 F H : Hp} {σ : L2.St} {n i : Nat} {v : V} {d : D} (e : Ext F0 H0 F H) (t0 : TabF F0 H0) (hl : σ.length = n) (hi : i < n) (hv : σ[i]? = some (some v)) (r : Rp K F v d) : RS K F0 H0 F H σ ((List.replicate n none).set i (some (.val d))) where
  ext := e
  tab0 := t0
  len := by rw [List.length_set, List.length_replicate, hl]
  val := fun j x h => by
    by_cases hj : i = j
    · subst hj
      rw [List.getElem?_set_self (by rw [List.length_replicate]; exact hi)] at h
      cases h
      exact ⟨v, hv, r⟩
    · rw [List.getElem?_set_ne hj, List.getElem?_replicate] at h
      split at h <;> cases h
  own := fun j x h => by
    by_cases hj : i = j
    · subst hj
      rw [List.getElem?_set_self (by rw [List.length_replicate]; exact hi)] at h
      cases h
    · rw [List.getElem?_set_ne hj, List.getElem?_replicate] at h
      split at h <;> cases h
  inj := fun j l x y a h _ _ _ => by
    by_cases hj : i = j
    · subst hj
      rw [List.getElem?_set_self (by rw [List.length_replicate]; exact hi)] at h
      cases h
    · rw [List.getElem?_set_ne hj, List.getElem?_replicate] at h
      split at h <;> cases h
theorem _root_.L2.PS.impI {X : Cx} {st : Stmt} {t t' : TS} (h : PS X st t) (q : ∀ D σ H, σ.length = X.N.length → t' D σ H → t D σ H) : PS X st t' := ⟨fun pins s σ H D I w => h.run pins s σ H D I (q D σ H I.len w)⟩
section
variable {X : Cx} {C : Cfg} {k : Nat} {Φ : Phi} {cs : Nat → Res D} {clsN : List Str} {clsA : Nat → Addr} {W : Nat → Hp → Prop} {F0 H0 : Hp}
/-- what the body wishes of an exception -/
def wB (X : Cx) (clsA : Nat → Addr) (W0 : WX) : Nat → Hp → Prop := fun c H => ∀ σ : L2.St, σ.length = X.N.length → W0 (.ref (clsA c)) none σ H
theorem SOk.tr' (h : SOk X C k Φ cs clsN clsA W) {pn : List (Addr × Obj)} {xe : Value → Shared → Prop} {W0 : WX} (tk : Takes (X.tr pn xe) W0) (ow : PassesOwn (model X.prog X.w) X.A X.env xe) : SOk (X.tr pn xe) C k Φ cs clsN clsA (wB X clsA W0) where
  x := ⟨h.x.N, h.x.nd, h.x.sc, h.x.asn, h.x.calm, h.x.fns, h.x.csts, h.x.blt, h.x.room, h.x.lam, fun u s' ⟨a, B, sI, pins, σ, H, cls, d, e, I, nb, up, sky, na, os, ag, w⟩ => tk u s' ⟨a, B, sI, pins, σ, H, cls, d, e, I, nb, up, sky, na, os, ag, by
    obtain ⟨c, rfl, rfl, q⟩ := w
    exact q σ I.len⟩⟩
  own := ow
  cls := fun c x q X' e1 e2 => h.cls c x q X' e1 e2
  stk := h.stk
  frm := h.frm
  tr := h.tr
/-- the reading of the body -/
abbrev tBody (X : Cx) (clsA : Nat → Addr) (F0 H0 : Hp) (g : Env → Res Fl) : WX → TS := fun W0 => tS X.K (wB X clsA W0) F0 H0 g
theorem ps_try_setT (h : SOk X C k Φ cs clsN clsA W) {b : Ss} {c i : Nat} {body : List Stmt} {x y : Str} {np py pv pc pos pos' : Pos} {jc : Nat} {ca : Addr} (hi : C.N[i]? = some y) (ha : C.asn y = true) (hx : Names X x (.ref ca)) (hm : PySem.W.exmOne X.K (.ref (clsA c)) (.ref ca) = some true)
    (hb : ∀ (W0 : WX) (pn : List (Addr × Obj)) (xe : Value → Shared → Prop), Takes (X.tr pn xe) W0 → PassesOwn (model X.prog X.w) X.A X.env xe → PSs (X.tr pn xe) body (tBody X clsA F0 H0 (exs Φ cs b) W0)) :
    PS X (.Try body [.ExceptHandler (some (.Name x np)) none [.Assign [.Name y py] (.Constant (.bool true) jc pv) pc] pos'] [] [] pos) (tS X.K W F0 H0 (ex Φ cs (.try_ b c i .setT))) := by
  obtain ⟨a1, a2⟩ := h.x.asn y ha
  have hN : X.N.Nodup := by rw [h.x.N]; exact h.x.nd
  have hi' : X.N[i]? = some y := by rw [h.x.N]; exact hi
  refine (ps_try_only (c := .ref ca) (Wout := WXof clsA W) (tb := tBody X clsA F0 H0 (exs Φ cs b)) (ts := fun _ _ _ => tAsg (tC (.bl true)) (gName i)) h.stk h.frm hx h.x.takes hb fun a oe cls d pn _ _ => pss_one (ps_set (X := X.suite a ((a, oe) :: pn)) hN hi' a1 pe_bl rfl a2)).impI fun Dn σ H hl ⟨env, F, rs, k⟩ => ⟨env, F, rs, ?_⟩
  have k' : KS X.K W F0 H0 Dn F (handD c i .setT env.length (exs Φ cs b env)) := k
  cases z : exs Φ cs b env with
  | ok f =>
    rw [z] at k'
    cases f <;> exact k'
  | stuck => rw [z] at k'; exact k'
  | exn c' =>
    rw [z] at k'
    obtain ⟨hc, k2⟩ := KS.need k'
    obtain ⟨hn, k3⟩ := KS.need k2
    have e0 := of_decide_eq_true hc
    subst e0
    have hl2 := of_decide_eq_true hn
    intro F' H' e' s' σ' l'
    refine ⟨true, hm, fun _ a ha => ?_, fun q => nomatch q⟩
    refine k3 _ F' H' (RS.one e' rs.tab0 ?_ hl2 (v := .bl true) ?_ (.bl true)) s'
    · rw [List.length_set, l', ← hl, rs.len]
    · exact List.getElem?_set_self (by rw [l', ← hl, ← rs.len]; exact hl2)
theorem ps_try_retT (h : SOk X C k Φ cs clsN clsA W) {b : Ss} {c i : Nat} {body : List Stmt} {x : Str} {np pv pc pos pos' : Pos} {jc : Nat} {ca : Addr} (hx : Names X x (.ref ca)) (hm : PySem.W.exmOne X.K (.ref (clsA c)) (.ref ca) = some true)
    (hb : ∀ (W0 : WX) (pn : List (Addr × Obj)) (xe : Value → Shared → Prop), Takes (X.tr pn xe) W0 → PassesOwn (model X.prog X.w) X.A X.env xe → PSs (X.tr pn xe) body (tBody X clsA F0 H0 (exs Φ cs b) W0)) :
    PS X (.Try body [.ExceptHandler (some (.Name x np)) none [.Return (some (.Constant (.bool true) jc pv)) pc] pos'] [] [] pos) (tS X.K W F0 H0 (ex Φ cs (.try_ b c i .retT))) := by
  refine (ps_try_only (c := .ref ca) (Wout := WXof clsA W) (tb := tBody X clsA F0 H0 (exs Φ cs b)) (ts := fun _ _ _ => tRet (tC (.bl true))) h.stk h.frm hx h.x.takes hb fun a oe cls d pn _ _ => pss_one (ps_ret (X := X.suite a ((a, oe) :: pn)) pe_bl)).impI fun Dn σ H hl ⟨env, F, rs, k⟩ => ⟨env, F, rs, ?_⟩
  have k' : KS X.K W F0 H0 Dn F (handD c i .retT env.length (exs Φ cs b env)) := k
  cases z : exs Φ cs b env with
  | ok f =>
    rw [z] at k'
    cases f <;> exact k'
  | stuck => rw [z] at k'; exact k'
  | exn c' =>
    rw [z] at k'
    obtain ⟨hc, k2⟩ := KS.need k'
    have e0 := of_decide_eq_true hc
    subst e0
    intro F' H' e' s' σ' l'
    exact ⟨true, hm, fun _ a ha => k2 _ F' H' e' s' (.bl true), fun q => nomatch q⟩
/-- the clause's own test, as a value -/
theorem pe_exIs (h : SOk X C k Φ cs clsN clsA W) {c c2 c3 j : Nat} {n : Str} {v : Expr} (hc : c < clsN.length) (h2 : c2 ≠ c) (h3 : c3 ≠ c) (hj : X.N[j]? = some n) (hn : X.env.scope.names.lookup n = some .local) (q : exIs C.sc clsN c c2 c3 n v = true) {a : Addr} {oe : Obj} {pn : List (Addr × Obj)} (hz : Zc (.ref (clsA c)) none oe) (hf : ∃ vs, oe.data = .fields vs) :
    PE (X.suite a ((a, oe) :: pn)) v (fun σ H Q => σ[j]? = some (some (.ref a)) ∧ ∀ p, H p = none → Q (.bl true) (upd H p (.tup [.ref (clsA c2), .ref (clsA c3)]))) ∧ (∀ t l env, swapsWith v t l env = pure false) ∧ PT (X.suite a ((a, oe) :: pn)) v (fun σ H Q => σ[j]? = some (some (.ref a)) ∧ ∀ p, H p = none → Q true (upd H p (.tup [.ref (clsA c2), .ref (clsA c3)]))) := by
  unfold exIs at q
  split at q
  · rename_i i1 q1 n1 q2 A q3 q4 i2 q5 n2 q6 B q7 C' q8 q9 q10 q11 q12 i3 q13 n3 q14 V q15 q16 q17
    simp only [Bool.and_eq_true, decide_eq_true_eq] at q
    obtain ⟨⟨⟨⟨⟨⟨⟨rfl, rfl⟩, rfl⟩, ⟨⟨rfl, rfl⟩, rfl⟩⟩, ⟨⟨cA, cB⟩, cC⟩⟩, ⟨⟨rfl, gI⟩, gV⟩⟩, ⟨⟨gA, gB⟩, gC⟩⟩, ⟨⟨⟨pn', pA⟩, pB⟩, pC⟩⟩ := q
    have l2 : c2 < clsN.length := (List.getElem?_eq_some_iff.mp cB).1
    have l3 : c3 < clsN.length := (List.getElem?_eq_some_iff.mp cC).1
    have mA := h.tr.nm c A cA
    have mB := h.tr.nm c2 B cB
    have mC := h.tr.nm c3 C' cC
    have mV := h.tr.ve (Nat.lt_of_le_of_lt (Nat.zero_le _) hc)
    have mI : X.mg "isinstance" = none := h.x.no (by decide +kernel)
    have EC := h.tr.exc c hc
    have hv : Vis X.env.scope n3 := .inl hn
    have PV : ∀ pos, PE (X.suite a ((a, oe) :: pn)) (.Name n3 pos) (tVar j) := fun pos => pe_var (X := X.suite a ((a, oe) :: pn)) hj hv (plainN_of pn').1 (plainN_of pn').2
    have PA' : ∀ pos, PE (X.suite a ((a, oe) :: pn)) (.Name A pos) (tC (.ref (clsA c))) := fun pos => pe_glob (X := X.suite a ((a, oe) :: pn)) (h.x.gl gA) mA rfl (plainN_of pA).1
    have PB : ∀ pos, PE (X.suite a ((a, oe) :: pn)) (.Name B pos) (tC (.ref (clsA c2))) := fun pos => pe_glob (X := X.suite a ((a, oe) :: pn)) (h.x.gl gB) mB rfl (plainN_of pB).1
    have PC : ∀ pos, PE (X.suite a ((a, oe) :: pn)) (.Name C' pos) (tC (.ref (clsA c3))) := fun pos => pe_glob (X := X.suite a ((a, oe) :: pn)) (h.x.gl gC) mC rfl (plainN_of pC).1
    have PVE : ∀ pos, PE (X.suite a ((a, oe) :: pn)) (.Name "ValueError" pos) (tC (.ty "ValueError")) := fun pos => pe_bltn (X := X.suite a ((a, oe) :: pn)) (h.x.gl gV) mV (by decide +kernel) rfl (by decide +kernel) (by decide +kernel)
    have E1 := fun p p1 p2 pos => pe_callB (X := X.suite a ((a, oe) :: pn)) (p := p) (pos := pos) (call_isE EC hz hf) (h.x.gl gI) mI (by decide +kernel) (pa_cons (PV p1) (pa_cons (PA' p2) pa_nil)) (by decide +kernel) (by decide +kernel)
    have E2 := fun p p1 p2 p3 p4 kk pos => pe_callB (X := X.suite a ((a, oe) :: pn)) (p := p) (pos := pos) (call_isET EC hz hf) (h.x.gl gI) mI (by decide +kernel) (pa_cons (PV p1) (pa_cons (pe_tup (x1 := kk) (pos := p4) (pa_cons (PB p2) (pa_cons (PC p3) pa_nil))) pa_nil)) (by decide +kernel) (by decide +kernel)
    have E3 := fun p p1 p2 pos => pe_callB (X := X.suite a ((a, oe) :: pn)) (p := p) (pos := pos) (call_isE EC hz hf) (h.x.gl gI) mI (by decide +kernel) (pa_cons (PV p1) (pa_cons (PVE p2) pa_nil)) (by decide +kernel) (by decide +kernel)
    refine ⟨(pe_and (E1 _ _ _ _) (pe_and (pe_not (E2 _ _ _ _ _ _ _)) (pe_one (E3 _ _ _ _)))).impW fun σ H Q ⟨hs, hq⟩ => ?_, fun _ _ _ => rfl, ?_⟩
    · refine ⟨_, hs, _, _, true, rfl, fun u r => r, (h.tr.one c hc).1, true, rfl, iteT ?_⟩
      refine ⟨_, hs, show 2 ≤ sizeLine by decide, fun p np => ⟨p, _, _, false, rfl, upd_same, .cons (.own _) (.cons (.own _) .nil), h.tr.oth c c2 c3 hc l2 l3 h2 h3, false, rfl, true, rfl, iteT ?_⟩⟩
      exact ⟨_, hs, _, _, true, rfl, fun u r => r, (h.tr.one c hc).2, hq p np⟩
    · refine (PW.pt (pw_and (pt_truth (E1 _ _ _ _) fun _ => rfl) (pw_and (pt_not (pt_truth (E2 _ _ _ _ _ _ _) fun _ => rfl)) (pw_and1 (pt_truth (E3 _ _ _ _) fun _ => rfl))))).impW fun σ H Q ⟨hs, hq⟩ => ?_
      refine ⟨_, hs, _, _, true, rfl, fun u r => r, (h.tr.one c hc).1, true, rfl, iteT ?_⟩
      refine ⟨_, hs, show 2 ≤ sizeLine by decide, fun p np => ⟨p, _, _, false, rfl, upd_same, .cons (.own _) (.cons (.own _) .nil), h.tr.oth c c2 c3 hc l2 l3 h2 h3, false, rfl, iteT ?_⟩⟩
      exact ⟨_, hs, _, _, true, rfl, fun u r => r, (h.tr.one c hc).2, true, rfl, hq p np⟩
  · cases q
theorem ps_try_isT (h : SOk X C k Φ cs clsN clsA W) {b : Ss} {c c2 c3 i j : Nat} {body : List Stmt} {x y n : Str} {v : Expr} {np py pc pos pos' : Pos} {ca : Addr} (hi : C.N[i]? = some y) (ha : C.asn y = true) (hj : C.N[j]? = some n) (hn : C.sc.names.lookup n = some .local) (hij : i ≠ j) (hcl : c < clsN.length) (n2 : c2 ≠ c) (n3 : c3 ≠ c) (hv : exIs C.sc clsN c c2 c3 n v = true)
    (hx : Names X x (.ref ca)) (hm : PySem.W.exmOne X.K (.ref (clsA c)) (.ref ca) = some true)
    (hb : ∀ (W0 : WX) (pn : List (Addr × Obj)) (xe : Value → Shared → Prop), Takes (X.tr pn xe) W0 → PassesOwn (model X.prog X.w) X.A X.env xe → PSs (X.tr pn xe) body (tBody X clsA F0 H0 (exs Φ cs b) W0)) :
    PS X (.Try body [.ExceptHandler (some (.Name x np)) (some n) [.Assign [.Name y py] v pc] pos'] [] [] pos) (tS X.K W F0 H0 (ex Φ cs (.try_ b c i (.isT c2 c3 j)))) := by
  obtain ⟨a1, a2⟩ := h.x.asn y ha
  have hN : X.N.Nodup := by rw [h.x.N]; exact h.x.nd
  have hi' : X.N[i]? = some y := by rw [h.x.N]; exact hi
  have hj' : X.N[j]? = some n := by rw [h.x.N]; exact hj
  have hn' : X.env.scope.names.lookup n = some .local := by rw [h.x.sc]; exact hn
  let ts : Addr → Value → Option Addr → TS := fun a cls d Dn σ H => cls = .ref (clsA c) ∧ d = none ∧ σ[j]? = some (some (.ref a)) ∧ ∀ p, H p = none → Dn.nx (σ.set i (some (.bl true))) (upd H p (.tup [.ref (clsA c2), .ref (clsA c3)]))
  have su : ∀ (a : Addr) (oe : Obj) (cls : Value) (d : Option Addr) (pn : List (Addr × Obj)), Zc cls d oe → (∃ vs, oe.data = .fields vs) → PSs (X.suite a ((a, oe) :: pn)) [.Assign [.Name y py] v pc] (ts a cls d) := fun a oe cls d pn hz hf => ⟨fun pins s σ H Dn I w => by
    obtain ⟨rfl, rfl, w1, w2⟩ := w
    have P := pe_exIs h hcl n2 n3 hj' hn' hv (pn := pn) (a := a) hz hf
    exact (pss_one (ps_set (X := X.suite a ((a, oe) :: pn)) hN hi' a1 P.1 (P.2.1 _ _ _) a2)).run pins s σ H Dn I ⟨w1, w2⟩⟩
  refine (ps_try_as (c := .ref ca) (i := j) (Wout := WXof clsA W) (tb := tBody X clsA F0 H0 (exs Φ cs b)) (ts := ts) h.stk h.frm hN hj' hn' hx h.x.takes hb su).impI fun Dn σ H hl ⟨env, F, rs, k⟩ => ⟨env, F, rs, ?_⟩
  have k' : KS X.K W F0 H0 Dn F (handD c i (.isT c2 c3 j) env.length (exs Φ cs b env)) := k
  cases z : exs Φ cs b env with
  | ok f =>
    rw [z] at k'
    cases f <;> exact k'
  | stuck => rw [z] at k'; exact k'
  | exn c' =>
    rw [z] at k'
    obtain ⟨hc, k2⟩ := KS.need k'
    obtain ⟨hn, k3⟩ := KS.need k2
    have e0 := of_decide_eq_true hc
    subst e0
    have hl2 := of_decide_eq_true hn
    intro F' H' e' s' σ' l'
    have jl : j < σ'.length := by rw [l']; exact (List.getElem?_eq_some_iff.mp hj').1
    have il : i < σ'.length := by rw [l']; exact (List.getElem?_eq_some_iff.mp hi').1
    refine ⟨true, hm, fun _ a ha => ⟨rfl, rfl, List.getElem?_set_self jl, fun p np => ?_⟩, fun q => nomatch q⟩
    refine k3 _ F' _ (RS.one (e'.trans (Ext.fresh e'.sub np)) rs.tab0 ?_ hl2 (v := .bl true) ?_ (.bl true)) s'
    · rw [List.length_set, List.length_set, List.length_set, l', ← hl, rs.len]
    · rw [List.getElem?_set_ne (Ne.symm hij)]
      exact List.getElem?_set_self (by rw [List.length_set]; exact il)
theorem ps_try_nonI (h : SOk X C k Φ cs clsN clsA W) {b : Ss} {c c2 c3 i j : Nat} {body : List Stmt} {x y n : Str} {v : Expr} {np py pv pc pi pos pos' : Pos} {jc : Nat} {ca : Addr} (hi : C.N[i]? = some y) (ha : C.asn y = true) (hj : C.N[j]? = some n) (hn : C.sc.names.lookup n = some .local) (hij : i ≠ j) (hcl : c < clsN.length) (n2 : c2 ≠ c) (n3 : c3 ≠ c) (hv : exIs C.sc clsN c c2 c3 n v = true)
    (hx : Names X x (.ref ca)) (hm : PySem.W.exmOne X.K (.ref (clsA c)) (.ref ca) = some true)
    (hb : ∀ (W0 : WX) (pn : List (Addr × Obj)) (xe : Value → Shared → Prop), Takes (X.tr pn xe) W0 → PassesOwn (model X.prog X.w) X.A X.env xe → PSs (X.tr pn xe) body (tBody X clsA F0 H0 (exs Φ cs b) W0)) :
    PS X (.Try body [.ExceptHandler (some (.Name x np)) (some n) [.If v [.Assign [.Name y py] (.Constant .none jc pv) pc] [] pi] pos'] [] [] pos) (tS X.K W F0 H0 (ex Φ cs (.try_ b c i (.nonI c2 c3 j)))) := by
  obtain ⟨a1, a2⟩ := h.x.asn y ha
  have hN : X.N.Nodup := by rw [h.x.N]; exact h.x.nd
  have hi' : X.N[i]? = some y := by rw [h.x.N]; exact hi
  have hj' : X.N[j]? = some n := by rw [h.x.N]; exact hj
  have hn' : X.env.scope.names.lookup n = some .local := by rw [h.x.sc]; exact hn
  let ts : Addr → Value → Option Addr → TS := fun a cls d Dn σ H => cls = .ref (clsA c) ∧ d = none ∧ σ[j]? = some (some (.ref a)) ∧ ∀ p, H p = none → Dn.nx (σ.set i (some .non)) (upd H p (.tup [.ref (clsA c2), .ref (clsA c3)]))
  have su : ∀ (a : Addr) (oe : Obj) (cls : Value) (d : Option Addr) (pn : List (Addr × Obj)), Zc cls d oe → (∃ vs, oe.data = .fields vs) → PSs (X.suite a ((a, oe) :: pn)) [.If v [.Assign [.Name y py] (.Constant .none jc pv) pc] [] pi] (ts a cls d) := fun a oe cls d pn hz hf => ⟨fun pins s σ H Dn I w => by
    obtain ⟨rfl, rfl, w1, w2⟩ := w
    have P := pe_exIs h hcl n2 n3 hj' hn' hv (pn := pn) (a := a) hz hf
    exact (pss_one (ps_if (X := X.suite a ((a, oe) :: pn)) P.2.2 (pss_one (ps_set (X := X.suite a ((a, oe) :: pn)) hN hi' a1 pe_non rfl a2)) pss_nil)).run pins s σ H Dn I ⟨w1, fun p np => iteT (w2 p np)⟩⟩
  refine (ps_try_as (c := .ref ca) (i := j) (Wout := WXof clsA W) (tb := tBody X clsA F0 H0 (exs Φ cs b)) (ts := ts) h.stk h.frm hN hj' hn' hx h.x.takes hb su).impI fun Dn σ H hl ⟨env, F, rs, k⟩ => ⟨env, F, rs, ?_⟩
  have k' : KS X.K W F0 H0 Dn F (handD c i (.nonI c2 c3 j) env.length (exs Φ cs b env)) := k
  cases z : exs Φ cs b env with
  | ok f =>
    rw [z] at k'
    cases f <;> exact k'
  | stuck => rw [z] at k'; exact k'
  | exn c' =>
    rw [z] at k'
    obtain ⟨hc, k2⟩ := KS.need k'
    obtain ⟨hn, k3⟩ := KS.need k2
    have e0 := of_decide_eq_true hc
    subst e0
    have hl2 := of_decide_eq_true hn
    intro F' H' e' s' σ' l'
    have jl : j < σ'.length := by rw [l']; exact (List.getElem?_eq_some_iff.mp hj').1
    have il : i < σ'.length := by rw [l']; exact (List.getElem?_eq_some_iff.mp hi').1
    refine ⟨true, hm, fun _ a ha => ⟨rfl, rfl, List.getElem?_set_self jl, fun p np => ?_⟩, fun q => nomatch q⟩
    refine k3 _ F' _ (RS.one (e'.trans (Ext.fresh e'.sub np)) rs.tab0 ?_ hl2 (v := .non) ?_ .non) s'
    · rw [List.length_set, List.length_set, List.length_set, l', ← hl, rs.len]
    · rw [List.getElem?_set_ne (Ne.symm hij)]
      exact List.getElem?_set_self (by rw [List.length_set]; exact il)
theorem ps_try_ok (h : SOk X C k Φ cs clsN clsA W) {b : Ss} {c i : Nat} {hd : Hd} {st : Stmt} (q : chkS C clsN (.try_ b c i hd) st = true)
    (hb : ∀ (body : List Stmt), chkSs C clsN b body = true → ∀ (Y : Cx) (W' : Nat → Hp → Prop), SOk Y C k Φ cs clsN clsA W' → PSs Y body (tS Y.K W' F0 H0 (exs Φ cs b))) : PS X st (tS X.K W F0 H0 (ex Φ cs (.try_ b c i hd))) := by
  unfold chkS at q
  split at q <;> first | (exact Bool.noConfusion q) | skip
  all_goals try (rename_i e1; cases e1)
  rename_i body x px nm suite p2 p3
  rw [Bool.and_eq_true, Bool.and_eq_true, Bool.and_eq_true, Bool.and_eq_true] at q
  obtain ⟨⟨⟨⟨q1, q2⟩, q3⟩, q4⟩, q5⟩ := q
  rw [Bool.and_eq_true] at q3
  have hcl := of_decide_eq_true q4
  have HB : ∀ (W0 : WX) (pn : List (Addr × Obj)) (xe : Value → Shared → Prop), Takes (X.tr pn xe) W0 → PassesOwn (model X.prog X.w) X.A X.env xe → PSs (X.tr pn xe) body (tBody X clsA F0 H0 (exs Φ cs b) W0) := fun W0 pn xe tk ow => hb body q1 (X.tr pn xe) _ (h.tr' tk ow)
  have HC : ∃ ca, Names X x (.ref ca) ∧ PySem.W.exmOne X.K (.ref (clsA c)) (.ref ca) = some true := by
    rw [Bool.or_eq_true] at q2
    rcases q2 with q2 | q2
    · exact ⟨clsA c, ⟨h.x.gl q3.1, (plainN_of q3.2).1, .inl (h.tr.nm c x (of_decide_eq_true q2))⟩, h.tr.self c hcl⟩
    · obtain ⟨wa, m1, m2⟩ := h.tr.top c hcl
      have e0 := of_decide_eq_true q2
      subst e0
      exact ⟨wa, ⟨h.x.gl q3.1, (plainN_of q3.2).1, .inl m1⟩, m2⟩
  obtain ⟨ca, hN, hM⟩ := HC
  unfold chkH at q5
  split at q5
  · rw [Bool.and_eq_true] at q5
    exact ps_try_setT h (of_decide_eq_true q5.1) q5.2 hN hM HB
  · exact ps_try_retT h hN hM HB
  · simp only [Bool.and_eq_true, decide_eq_true_eq] at q5
    obtain ⟨⟨⟨g1, g2⟩, ⟨g3, g4⟩, g5⟩, ⟨g6, g7⟩, g8⟩ := q5
    exact ps_try_isT h g1 g2 g3 g4 g5 hcl g6 g7 g8 hN hM HB
  · simp only [Bool.and_eq_true, decide_eq_true_eq] at q5
    obtain ⟨⟨⟨g1, g2⟩, ⟨g3, g4⟩, g5⟩, ⟨g6, g7⟩, g8⟩ := q5
    exact ps_try_nonI h g1 g2 g3 g4 g5 hcl g6 g7 g8 hN hM HB
  · exact Bool.noConfusion q5
end
end MW

set_option maxRecDepth 100000
set_option maxHeartbeats 1000000
/-! Part 2n: loops, blocks, defs. -/
namespace MW
open PySem PySem.Spec PyProof.Rows L2
open Res
variable [Lam]
section
variable {X : Cx} {C : Cfg} {k : Nat} {Φ : Phi} {cs : Nat → Res D} {clsN : List Str} {clsA : Nat → Addr} {W : Nat → Hp → Prop} {F0 H0 : Hp}
theorem ps_ite_ok {t : E} {a b : Ss} {t' : Expr} {a' b' : List Stmt} {pos : Pos} (ht : PT X t' (tT X.K W F0 H0 (tst Φ cs t))) (ha : PSs X a' (tS X.K W F0 H0 (exs Φ cs a))) (hb : PSs X b' (tS X.K W F0 H0 (exs Φ cs b))) : PS X (.If t' a' b' pos) (tS X.K W F0 H0 (ex Φ cs (.ite t a b))) := by
  refine (ps_if ht ha hb).impW fun Dn σ H ⟨env, F, rs, k⟩ => ⟨env, F, rs, (KS.bind rs k).imp fun F1 H1 c e1 k1 => ?_⟩
  cases c with
  | true => exact iteT ⟨env, F1, rs.more e1, k1⟩
  | false => exact iteF ⟨env, F1, rs.more e1, k1⟩
theorem ps_whl_ok {t : E} {b : Ss} {t' : Expr} {b' : List Stmt} {pos : Pos} (hp : PassesOwn (model X.prog X.w) X.A X.env X.xe) (ht : PT X t' (tT X.K W F0 H0 (tst Φ cs t))) (hb : PSs X b' (tS X.K W F0 H0 (exs Φ cs b))) : PS X (.While t' b' [] pos) (tS X.K W F0 H0 (ex Φ cs (.whl t b))) := by
  refine (ps_while hp ht hb).impW fun Dn σ H ⟨env, F, rs, k⟩ => ?_
  refine ⟨fun m σ H => ∃ env F, RS X.K F0 H0 F H σ env ∧ KS X.K W F0 H0 Dn F (whileL (tst Φ cs t) (exs Φ cs b) m env), ⟨wmax, env, F, rs, k⟩, ?_⟩
  rintro m σ H ⟨env, F, rs, k⟩
  cases m with
  | zero => exact KS.no k
  | succ n =>
    refine ⟨env, F, rs, (KS.bind rs k).imp fun F1 H1 c e1 k1 => ?_⟩
    cases c with
    | false => exact iteF (k1 σ F1 H1 (rs.more e1) (Same.refl F1))
    | true =>
      refine iteT ⟨fun σ' H' => ∃ env F, RS X.K F0 H0 F H' σ' env ∧ KS X.K W F0 H0 Dn F (whileL (tst Φ cs t) (exs Φ cs b) n env), fun σ' H' q => ⟨n, Nat.lt_succ_self n, q⟩, env, F1, rs.more e1, ?_⟩
      replace k1 : KS X.K W F0 H0 Dn F1 ((exs Φ cs b env).bind fun f => match f with
        | .next env' => whileL (tst Φ cs t) (exs Φ cs b) n env'
        | .cnt env' => whileL (tst Φ cs t) (exs Φ cs b) n env'
        | .brk env' => .ok (.next env')
        | .ret d => .ok (.ret d)) := k1
      cases z : exs Φ cs b env with
      | ok f =>
        rw [z] at k1
        cases f with
        | next env' => exact fun σ' F' H' rs' s' => ⟨env', F', rs', KS.mono k1 s'⟩
        | cnt env' => exact fun σ' F' H' rs' s' => ⟨env', F', rs', KS.mono k1 s'⟩
        | brk env' => exact k1
        | ret d => exact k1
      | exn c => rw [z] at k1; exact k1
      | stuck => rw [z] at k1; exact k1
theorem ps_for_ok {g : G} {ik : IK} {ia : Es} {b : Ss} {tg iter : Expr} {b' : List Stmt} {pos : Pos} (hp : PassesOwn (model X.prog X.w) X.A X.env X.xe) (hc : X.calm = true) (hi : PI X tg iter (tI X.K W F0 H0 true (gI Φ cs ik ia))) (hg : PG X tg (tG X.K F0 H0 (slotsG g) (bindG g)))
    (hb : PSs X b' (tS X.K W F0 H0 (exs Φ cs b))) (hs : ∀ x, foldedSetIterable iter X.env x = pure x) : PS X (.For tg iter b' [] pos) (tS X.K W F0 H0 (ex Φ cs (.for g ik ia b))) := by
  refine (ps_for hp hc hi hg hb hs).impW fun Dn σ H ⟨env, F, rs, k⟩ => ?_
  have e0 : ex Φ cs (.for g ik ia b) env = (gI Φ cs ik ia env).bind fun xs => forL (bindG g) (exs Φ cs b) xs env := by
    show (evs Φ cs ia env).bind (fun ds => (iterD ik ds).bind fun xs => forL (bindG g) (exs Φ cs b) xs env) = _
    unfold gI
    rw [bind_assoc]
  rw [e0] at k
  refine ⟨env, F, rs, (KS.bind rs k).imp fun F1 H1 ds e1 k1 J wk => ?_⟩
  refine ⟨fun i m σ H => m = ds.length - i ∧ i ≤ ds.length ∧ ∃ env F, RS X.K F0 H0 F H σ env ∧ Same F1 F ∧ KS X.K W F0 H0 Dn F (forL (bindG g) (exs Φ cs b) (ds.drop i) env), ⟨ds.length, by simp, Nat.zero_le _, env, F1, rs.more e1, Same.refl F1, k1⟩, ?_⟩
  rintro i m σ H ⟨rfl, hle, env, F, rs, sF, k⟩
  obtain ⟨w1, w2, w3⟩ := wk F H sF rs.ext.sub (sameN_of (sF.trans rs.ext.sub))
  by_cases hlt : i < ds.length
  · have hd : ds[i]? = some ds[i] := by simp [hlt]
    rw [List.drop_eq_getElem_cons hlt] at k
    refine .inr ⟨w1 i hlt, fun σ' H' => ∃ env F, RS X.K F0 H0 F H' σ' env ∧ Same F1 F ∧ KS X.K W F0 H0 Dn F (forL (bindG g) (exs Φ cs b) (ds.drop (i + 1)) env), fun σ' H' q => ⟨ds.length - (i + 1), by omega, rfl, hlt, q⟩, fun x H' y => ?_⟩
    obtain ⟨F2, ex2, rx⟩ := w3 i _ x H' hd y
    replace k : KS X.K W F0 H0 Dn F ((bindG g ds[i] env).bind fun env' => (exs Φ cs b env').bind fun f => match f with
      | .next env' => forL (bindG g) (exs Φ cs b) (ds.drop (i + 1)) env'
      | .cnt env' => forL (bindG g) (exs Φ cs b) (ds.drop (i + 1)) env'
      | .brk env' => .ok (.next env')
      | .ret d => .ok (.ret d)) := k
    cases z1 : bindG g ds[i] env with
    | exn c => exact absurd z1 (bindG_no g _ env c)
    | stuck => rw [z1] at k; exact KS.no k
    | ok env' =>
      rw [z1] at k
      refine ⟨env, F2, _, rs.more ex2, rx, env', z1, fun σ' rs' _ => ⟨env', F2, rs', ?_⟩⟩
      have k2 := KS.mono k ex2.f
      replace k2 : KS X.K W F0 H0 Dn F2 ((exs Φ cs b env').bind fun f => match f with
        | .next env' => forL (bindG g) (exs Φ cs b) (ds.drop (i + 1)) env'
        | .cnt env' => forL (bindG g) (exs Φ cs b) (ds.drop (i + 1)) env'
        | .brk env' => .ok (.next env')
        | .ret d => .ok (.ret d)) := k2
      have sF2 : Same F1 F2 := sF.trans ex2.f
      cases z : exs Φ cs b env' with
      | ok f =>
        rw [z] at k2
        cases f with
        | next env2 => exact fun σ2 F3 H3 rs3 s3 => ⟨env2, F3, rs3, sF2.trans s3, KS.mono k2 s3⟩
        | cnt env2 => exact fun σ2 F3 H3 rs3 s3 => ⟨env2, F3, rs3, sF2.trans s3, KS.mono k2 s3⟩
        | brk env2 => exact k2
        | ret d => exact k2
      | exn c => rw [z] at k2; exact k2
      | stuck => rw [z] at k2; exact k2
  · have e : i = ds.length := by omega
    subst e
    rw [List.drop_length] at k
    exact .inl ⟨w2, k σ F H rs (Same.refl F)⟩
theorem for_split {g : G} {ik : IK} {ia : Es} {b : Ss} {st : Stmt} (q : chkS C clsN (.for g ik ia b) st = true) : ∃ tg iter b' pos xs, st = .For tg iter b' [] pos ∧ chkG C g tg = true ∧ itArgs C ik tg iter = some xs ∧ chks C .val ia xs = true ∧ chkSs C clsN b b' = true := by
  cases st with
  | For tg iter b' els pos =>
    cases els with
    | nil =>
      have q' : (chkG C g tg && (match (generalizing := false) itArgs C ik tg iter with | some xs => chks C .val ia xs | none => false) && chkSs C clsN b b') = true := q
      rw [Bool.and_eq_true, Bool.and_eq_true] at q'
      obtain ⟨⟨q1, q2⟩, q3⟩ := q'
      cases z : itArgs C ik tg iter with
      | none => rw [z] at q2; exact Bool.noConfusion q2
      | some xs => rw [z] at q2; exact ⟨tg, iter, b', pos, xs, rfl, q1, z, q2, q3⟩
    | cons _ _ => exact Bool.noConfusion q
  | _ => exact Bool.noConfusion q
theorem seq_read {s : S} {r : Ss} {Dn : Ends} {σ : L2.St} {H : Hp} {K : PySem.W.Frag} (h : tS K W F0 H0 (exs Φ cs (.cons s r)) Dn σ H) : tSeq (tS K W F0 H0 (ex Φ cs s)) (tS K W F0 H0 (exs Φ cs r)) Dn σ H := by
  obtain ⟨env, F, rs, k⟩ := h
  refine ⟨env, F, rs, ?_⟩
  replace k : KS K W F0 H0 Dn F ((ex Φ cs s env).bind fun f => match f with
    | .next env' => exs Φ cs r env'
    | f => .ok f) := k
  cases z : ex Φ cs s env with
  | ok f =>
    rw [z] at k
    cases f with
    | next env' => exact fun σ' F' H' rs' s' => ⟨env', F', rs', KS.mono k s'⟩
    | cnt env' => exact k
    | brk env' => exact k
    | ret d => exact k
  | exn c => rw [z] at k; exact k
  | stuck => rw [z] at k; exact k
theorem frz_read {i : Nat} {r : Ss} {Dn : Ends} {σ : L2.St} {H : Hp} {K : PySem.W.Frag} (h : tS K W F0 H0 (exs Φ cs (.cons (.frz i) r)) Dn σ H) : tS K W F0 H0 (exs Φ cs r) Dn σ H := by
  obtain ⟨env, F, rs, k⟩ := h
  replace k : KS K W F0 H0 Dn F ((match env[i]? with
    | some (some (.own d)) => Res.ok (Fl.next (env.set i (some (.val d))))
    | _ => .ok (.next env)).bind fun f => match f with
    | .next env' => exs Φ cs r env'
    | f => .ok f) := k
  split at k
  · rename_i d hd
    obtain ⟨F', rs', s'⟩ := rs.freeze hd
    exact ⟨_, F', rs', KS.mono k s'⟩
  · exact ⟨env, F, rs, k⟩
mutual
theorem st_ok (hkd : C.sc.kind = .function) : ∀ (s : S) (st : Stmt), chkS C clsN s st = true → ∀ (X : Cx) (W : Nat → Hp → Prop), SOk X C k Φ cs clsN clsA W → PS X st (tS X.K W F0 H0 (ex Φ cs s))
  | .asg i e, st, q, X, W, h => ps_asg_ok h q
  | .asgO i e, st, q, X, W, h => ps_asgO_ok h q
  | .asgT g e, st, q, X, W, h => ps_asgT_ok h q
  | .par i j a b, st, q, X, W, h => ps_par_ok h hkd q
  | .app i e, st, q, X, W, h => ps_app_ok h q
  | .ext i e, st, q, X, W, h => ps_ext_ok h q
  | .put i a b, st, q, X, W, h => ps_put_ok h q
  | .frz i, st, q, X, W, h => by cases st <;> exact Bool.noConfusion q
  | .ret e, st, q, X, W, h => ps_ret_ok h q
  | .ite t a b, st, q, X, W, h => by
    cases st with
    | If t' a' b' pos =>
      have q' : (chk C .tst t t' && chkSs C clsN a a' && chkSs C clsN b b') = true := q
      rw [Bool.and_eq_true, Bool.and_eq_true] at q'
      exact ps_ite_ok ((se_all t (F0 := F0) (H0 := H0) h.x t').2.2 q'.1.1) (ss_ok hkd a a' q'.1.2 X W h) (ss_ok hkd b b' q'.2 X W h)
    | _ => exact Bool.noConfusion q
  | .whl t b, st, q, X, W, h => by
    cases st with
    | While t' b' els pos =>
      cases els with
      | nil =>
        have q' : (chk C .tst t t' && chkSs C clsN b b') = true := q
        rw [Bool.and_eq_true] at q'
        exact ps_whl_ok h.own ((se_all t (F0 := F0) (H0 := H0) h.x t').2.2 q'.1) (ss_ok hkd b b' q'.2 X W h)
      | cons _ _ => exact Bool.noConfusion q
    | _ => exact Bool.noConfusion q
  | .for g ik ia b, st, q, X, W, h => by
    obtain ⟨tg, iter, b', pos, xs, rfl, q1, q2, q3, q4⟩ := for_split q
    exact ps_for_ok h.own h.x.calm (pi_of (F0 := F0) (H0 := H0) (strong := true) h.x (sit_all ia) q2 q3) (pg_ok (F0 := F0) (H0 := H0) h.x g tg q1) (ss_ok hkd b b' q4 X W h) (fun v => it_fold q2 q3 X.env v)
  | .brk, st, q, X, W, h => by
    cases st with
    | Break pos => exact ps_break.impW fun Dn σ H ⟨env, F, rs, k⟩ => k σ F H rs (Same.refl F)
    | _ => exact Bool.noConfusion q
  | .cnt, st, q, X, W, h => by
    cases st with
    | Continue pos => exact ps_continue.impW fun Dn σ H ⟨env, F, rs, k⟩ => k σ F H rs (Same.refl F)
    | _ => exact Bool.noConfusion q
  | .pass, st, q, X, W, h => by
    cases st with
    | Pass pos => exact ps_pass.impW fun Dn σ H ⟨env, F, rs, k⟩ => k σ F H rs (Same.refl F)
    | _ => exact Bool.noConfusion q
  | .expr e, st, q, X, W, h => ps_expr_ok h q
  | .raise c, st, q, X, W, h => ps_raise_ok h q
  | .halt, st, q, X, W, h => ⟨fun _ _ _ _ _ _ z => by obtain ⟨_, _, _, k⟩ := z; exact k.elim⟩
  | .try_ b c i hd, st, q, X, W, h => ps_try_ok h q fun body q1 Y W' hY => ss_ok hkd b body q1 Y W' hY
theorem ss_ok (hkd : C.sc.kind = .function) : ∀ (b : Ss) (sts : List Stmt), chkSs C clsN b sts = true → ∀ (X : Cx) (W : Nat → Hp → Prop), SOk X C k Φ cs clsN clsA W → PSs X sts (tS X.K W F0 H0 (exs Φ cs b))
  | .nil, sts, q, X, W, h => by
    cases sts with
    | nil => exact pss_nil.impW fun Dn σ H ⟨env, F, rs, k⟩ => k σ F H rs (Same.refl F)
    | cons _ _ => exact Bool.noConfusion q
  | .cons s r, sts, q, X, W, h => by
    by_cases hf : ∃ i, s = .frz i
    · obtain ⟨i, rfl⟩ := hf
      have q' : chkSs C clsN r sts = true := by
        cases sts <;> exact q
      exact (ss_ok hkd r sts q' X W h).impW fun Dn σ H w => frz_read w
    · cases sts with
      | nil =>
        cases s with
        | frz i => exact absurd ⟨i, rfl⟩ hf
        | _ => exact Bool.noConfusion q
      | cons st sts =>
        have q' : (chkS C clsN s st && chkSs C clsN r sts) = true := by
          cases s with
          | frz i => exact absurd ⟨i, rfl⟩ hf
          | _ => exact q
        rw [Bool.and_eq_true] at q'
        exact (pss_cons (st_ok hkd s st q'.1 X W h) (ss_ok hkd r sts q'.2 X W h)).impW fun Dn σ H w => seq_read w
end
end

/-! ### a def -/
theorem RS.start {K : PySem.W.Frag} {F H : Hp} {N : List Str} {vs : List V} {ds : List D} (s : Same F H) (r : RpAll K F vs ds) (t : TabF F H) : RS K F H F H (L2.start N vs) (startE N.length ds) where
  tab0 := t
  ext := Ext.refl s
  len := by
    unfold startE L2.start
    rw [List.length_append, List.length_append, List.length_map, List.length_map, List.length_replicate, List.length_replicate, r.length]
  val := fun i d h => by
    unfold startE at h
    unfold L2.start
    by_cases hi : i < ds.length
    · rw [List.getElem?_append_left (by rw [List.length_map]; exact hi), List.getElem?_map] at h
      rw [List.getElem?_append_left (by rw [List.length_map, r.length]; exact hi), List.getElem?_map]
      cases q : ds[i]? with
      | none => rw [q] at h; cases h
      | some d' =>
        rw [q] at h
        cases h
        obtain ⟨y, h1, h2⟩ := r.get q
        exact ⟨y, by rw [h1]; rfl, h2⟩
    · rw [List.getElem?_append_right (by rw [List.length_map]; omega), List.getElem?_replicate] at h
      split at h <;> cases h
  own := fun i d h => by
    unfold startE at h
    by_cases hi : i < ds.length
    · rw [List.getElem?_append_left (by rw [List.length_map]; exact hi), List.getElem?_map] at h
      cases q : ds[i]? with
      | none => rw [q] at h; cases h
      | some d' => rw [q] at h; cases h
    · rw [List.getElem?_append_right (by rw [List.length_map]; omega), List.getElem?_replicate] at h
      split at h <;> cases h
  inj := fun i j d e a h _ _ _ => by
    unfold startE at h
    by_cases hi : i < ds.length
    · rw [List.getElem?_append_left (by rw [List.length_map]; exact hi), List.getElem?_map] at h
      cases q : ds[i]? with
      | none => rw [q] at h; cases h
      | some d' => rw [q] at h; cases h
    · rw [List.getElem?_append_right (by rw [List.length_map]; omega), List.getElem?_replicate] at h
      split at h <;> cases h
/-- the module's facts that every body uses -/
structure GOk (P : Program) (w : World) (K : PySem.W.Frag) (mg : Str → Option Value) (base : Heap) (k : Nat) (Φ : Phi) (cs : Nat → Res D) (fns csts clsN : List Str) (clsA : Nat → Addr) : Prop where
  fns : ∀ i x, fns[i]? = some x → ∃ fi : FI, mg x = some (.ref fi.f) ∧ PySem.W.keepIn K (.ref fi.f) = true ∧ Binds K fi.fd fi.ps [] ∧
    FnOk P w K mg base (L2.CX P w) k fi.f fi.fd fi.ps (spD K clsA fi.ps.length (Φ i)) ∧ ∀ ds : List D, ds.length ≠ fi.ps.length → Φ i ds = .stuck
  csts : ∀ i x, csts[i]? = some x → ∃ d v u, cs i = .ok d ∧ mg x = some u ∧ RelV v u ∧ ∀ F, Rp K F v d
  blt : ∀ x ∈ bltNames, mg x = none
  cls : ∀ c x, clsN[c]? = some x → ∀ X : Cx, X.K = K → X.mg = mg → Gl X x → ∀ (m : Str) (j : Nat) (p p2 pos : Pos), PMk X (.Call (.Name x p) [.Constant (.str m) j p2] [] pos) (fun _ H Q => Q (.ref (clsA c)) none H)
  tr : TryOk K mg clsN clsA
theorem okY {P : Program} {w : World} {K : PySem.W.Frag} {mg : Str → Option Value} {base : Heap} {k : Nat} {x qual : Str} {st : Stmt} {f : Addr} {fd : FuncData} {N ps : List Str} {sp : Sp} (F : Fun K x qual st f fd) (S : FnScope N ps (defScope st)) (len : ∀ vs H Q E, sp vs H Q E → vs.length = ps.length)
    (hbody : ∀ (cdv : Value) (A : Around) (outer : List PySem.Env) (s : Shared) (H : Hp) (vs : List V) (Q : VK) (E : XK), fd.code = cdv → Room (k + 1) A → Room k (A.deeper (envOfC qual (defScope st) s.heap.objs.size f cdv)) → sp vs H Q E → ∃ t, PSs (cxOf (L2.CX P w) P w K mg base N qual (defScope st) f cdv A outer s H E) (defBody st) t ∧ t { nx := fun _ H' => Q .non H', rt := Q } (L2.start N vs) H) :
    FnOk P w K mg base (L2.CX P w) (k + 1) f fd ps sp := by
  obtain ⟨oc, od, kV, doc, pm, an, cdv, ct, osl, rfl, lk, hcd⟩ := F.ex
  exact ⟨len, fun A outer s H args us vs Q E hr e0 hb r hsp => LamX.run_ofS lk hcd S hr e0 hb r (len _ _ _ _ hsp) fun hr' => hbody cdv A outer s H vs Q E rfl hr hr' hsp⟩
theorem def_ok {P : Program} {w : World} {K : PySem.W.Frag} {mg : Str → Option Value} {base : Heap} {k : Nat} {Φ : Phi} {cs : Nat → Res D} {fns csts clsN : List Str} {clsA : Nat → Addr} (G : GOk P w K mg base k Φ cs fns csts clsN clsA)
    {x qual : Str} {st : Stmt} {f : Addr} {fd : FuncData} {N ps : List Str} {b : Ss} {lam : Bool} (F : Fun K x qual st f fd) (S : FnScope N ps (defScope st)) (hb : chkSs ⟨N, defScope st, locB (defScope st), fns, csts, lam⟩ clsN b (defBody st) = true)
    (hlam : lam = true → Lam.on = true ∧ (∃ c, fd.code = .ref c ∧ LamX.TabB base mg c Lam.P) ∧ qual ++ ".<locals>." ++ "<lambda>" = Lam.nm) :
    FnOk P w K mg base (L2.CX P w) (k + 1) f fd ps (spD K clsA ps.length (runF Φ cs N.length ps.length b)) := by
  refine okY F S (fun vs H Q E h => h.1) fun cdv A outer s H vs Q E hcd hrA hr h => ?_
  obtain ⟨hl, F1, ds, sub, ra, tb, k1⟩ := h
  obtain ⟨hz, k2⟩ := KR.need k1
  refine ⟨tS K (fun c H' => E (.ref (clsA c)) none H') F1 H (exs Φ cs b), ?_, startE N.length ds, F1, RS.start sub ra tb, ?_⟩
  · refine ss_ok (k := k) (C := ⟨N, defScope st, locB (defScope st), fns, csts, lam⟩) (clsN := clsN) (clsA := clsA) S.kind b _ hb _ _ ⟨⟨rfl, S.nd, rfl, fun x q => ⟨locB_of q, .inl rfl⟩, rfl, G.fns, G.csts, G.blt, hr, fun z => ?_, ?_⟩, ?_, fun c x q X' e1 e2 hg => G.cls c x q X' e1 e2 hg, rfl, rfl, G.tr⟩
    · obtain ⟨l1, ⟨c, l2, l3⟩, l4⟩ := hlam z
      refine ⟨l1, ⟨c, hcd.symm.trans l2, l3⟩, l4, ?_, ?_⟩
      · have := hrA.dp
        show A.depth + 1 + 3 * k + 7 < recursionLimit
        omega
      · have := hrA.un
        show A.units + 3 + 16 * k + 213 < cLine
        omega
    · exact Takes.imp (takes_of (E := E) rfl rfl rfl rfl) fun cls d σ H ⟨c, e1, e2, q⟩ => by subst e1 e2; exact q
    · exact passes_of rfl
  · have k3 : KE K (fun c H' => E (.ref (clsA c)) none H') F1 H ((exs Φ cs b (startE N.length ds)).bind fun f => match f with
      | .next _ => .ok .none
      | .ret d => .ok d
      | _ => .stuck) Q := k2
    cases z : exs Φ cs b (startE N.length ds) with
    | ok fl =>
      rw [z] at k3
      cases fl with
      | next env' => exact fun σ' F' H' rs' s' => k3 F' H' rs'.ext .non .non
      | ret d => exact fun v F' H' e' s' r' => k3 F' H' e' v r'
      | brk env' => exact k3.elim
      | cnt env' => exact k3.elim
    | exn c => rw [z] at k3; exact fun F' H' e _ => k3 F' H' e
    | stuck => rw [z] at k3; exact k3.elim
end MW

set_option maxRecDepth 100000
set_option maxHeartbeats 1000000
/-! Part 2o: a table of defs; the end. -/
namespace MW
open PySem PySem.Spec PyProof.Rows L2
open Res
variable [Lam]
theorem kit_two {K : PySem.W.Frag} {t a b : Value} (h1 : PySem.W.kitOne K t a = some false) (h2 : PySem.W.kitOne K t b = some false) : PySem.W.kitAny K t [a, b] = some false := by
  unfold PySem.W.kitAny
  rw [h1]
  unfold PySem.W.kitAny
  rw [h2]
  rfl
structure Def where
  name : Str
  ps : List Str
  N : List Str
  st : Stmt
  b : Ss
  lam : Bool
def semT (tbl : List Def) (cs : Nat → Res D) (i : Nat) (Φ : Phi) (ds : List D) : Res D := match tbl[i]? with
  | some d => runF Φ cs d.N.length d.ps.length d.b ds
  | none => .stuck
def nodupB : List Str → Bool
  | [] => true
  | x :: r => !(r.contains x) && nodupB r
theorem nodupB_of : ∀ {l : List Str}, nodupB l = true → l.Nodup
  | [], _ => List.nodup_nil
  | x :: r, h => by
    unfold nodupB at h
    rw [Bool.and_eq_true] at h
    exact List.nodup_cons.mpr ⟨fun z => by
      have := h.1
      rw [List.contains_iff_mem.mpr z] at this
      exact Bool.noConfusion this, nodupB_of h.2⟩
def scopeB (N ps : List Str) (sc : Scope) : Bool :=
  decide (sc.kind = .function) && !sc.isCoroutine && !sc.isGenerator && nodupB N && decide (N.take ps.length = ps) && (ps.all fun x => locB sc x) && (sc.names.all fun y => decide (y.2 ≠ .free))
theorem scopeB_of {N ps : List Str} {sc : Scope} (h : scopeB N ps sc = true) : FnScope N ps sc := by
  unfold scopeB at h
  simp only [Bool.and_eq_true, decide_eq_true_eq, List.all_eq_true, Bool.not_eq_true'] at h
  obtain ⟨⟨⟨⟨⟨⟨h1, h2⟩, h3⟩, h4⟩, h5⟩, h6⟩, h7⟩ := h
  exact ⟨h1, h2, h3, nodupB_of h4, h5, fun x hx => locB_of (h6 x hx), fun y hy => h7 y hy⟩
/-- all that is looked at in the text alone -/
def tblB (tbl : List Def) (csts clsN : List Str) : Bool := tbl.all fun d => scopeB d.N d.ps (defScope d.st) && chkSs ⟨d.N, defScope d.st, locB (defScope d.st), tbl.map (·.name), csts, d.lam⟩ clsN d.b (defBody d.st)
/-- a def as it stands behind the top -/
structure DefAt (K : PySem.W.Frag) (mg : Str → Option Value) (base : Heap) (d : Def) (f : Addr) (fd : FuncData) : Prop where
  lam : d.lam = true → Lam.on = true ∧ (∃ c, fd.code = .ref c ∧ LamX.TabB base mg c Lam.P) ∧ d.name ++ ".<locals>." ++ "<lambda>" = Lam.nm
  mg : mg d.name = some (.ref f)
  F : Fun K d.name d.name d.st f fd
  binds : Binds K fd d.ps []
theorem runF_len {Φ : Phi} {cs : Nat → Res D} {n np : Nat} {b : Ss} {ds : List D} (h : ds.length ≠ np) : runF Φ cs n np b ds = .stuck := need_false (decide_eq_false h)
theorem tbl_ok {P : Program} {w : World} {K : PySem.W.Frag} {mg : Str → Option Value} {base : Heap} {cs : Nat → Res D} {tbl : List Def} {csts clsN : List Str} {clsA : Nat → Addr} (hB : tblB tbl csts clsN = true)
    (hD : ∀ (i : Nat) (d : Def), tbl[i]? = some d → ∃ f fd, DefAt K mg base d f fd) (hc : ∀ (i : Nat) (x : Str), csts[i]? = some x → ∃ d v u, cs i = .ok d ∧ mg x = some u ∧ RelV v u ∧ ∀ F, Rp K F v d) (hb : ∀ x ∈ bltNames, mg x = none)
    (hx : ∀ (c : Nat) (x : Str), clsN[c]? = some x → ∀ X : Cx, X.K = K → X.mg = mg → Gl X x → ∀ (m : Str) (j : Nat) (p p2 pos : Pos), PMk X (.Call (.Name x p) [.Constant (.str m) j p2] [] pos) (fun _ H Q => Q (.ref (clsA c)) none H)) (ht : TryOk K mg clsN clsA) :
    ∀ k, GOk P w K mg base k (callN (semT tbl cs) k) cs (tbl.map (·.name)) csts clsN clsA := by
  have get : ∀ (i : Nat) (x : Str), (tbl.map (·.name))[i]? = some x → ∃ d, tbl[i]? = some d ∧ d.name = x := fun i x h => by
    rw [List.getElem?_map] at h
    cases q : tbl[i]? with
    | none => rw [q] at h; cases h
    | some d => rw [q] at h; cases h; exact ⟨d, rfl, rfl⟩
  intro k
  induction k with
  | zero =>
    refine ⟨fun i x h => ?_, hc, hb, hx, ht⟩
    obtain ⟨d, h1, rfl⟩ := get i x h
    obtain ⟨f, fd, A⟩ := hD i d h1
    refine ⟨⟨f, fd, d.ps⟩, A.mg, A.F.kp, A.binds, ⟨fun vs H Q E q => q.1, fun A outer s H args us vs Q E _ _ _ _ q => ?_⟩, fun ds _ => rfl⟩
    obtain ⟨_, F, ds, _, _, _, q⟩ := q
    exact q.elim
  | succ k ih =>
    refine ⟨fun i x h => ?_, hc, hb, hx, ht⟩
    obtain ⟨d, h1, rfl⟩ := get i x h
    obtain ⟨f, fd, A⟩ := hD i d h1
    have hB' : (scopeB d.N d.ps (defScope d.st) && chkSs ⟨d.N, defScope d.st, locB (defScope d.st), tbl.map (·.name), csts, d.lam⟩ clsN d.b (defBody d.st)) = true := List.all_eq_true.mp hB d (List.mem_of_getElem? h1)
    rw [Bool.and_eq_true] at hB'
    have e : callN (semT tbl cs) (k + 1) i = runF (callN (semT tbl cs) k) cs d.N.length d.ps.length d.b := by
      funext ds
      show semT tbl cs i (callN (semT tbl cs) k) ds = _
      unfold semT
      rw [h1]
    refine ⟨⟨f, fd, d.ps⟩, A.mg, A.F.kp, A.binds, ?_, fun ds q => ?_⟩
    · rw [e]
      exact def_ok ih A.F (scopeB_of hB'.1) hB'.2 A.lam
    · rw [e]
      exact runF_len q
/-- a def of the table as it is called from outside -/
theorem fn_ok {P : Program} {w : World} {K : PySem.W.Frag} {mg : Str → Option Value} {base : Heap} {cs : Nat → Res D} {tbl : List Def} {csts clsN : List Str} {clsA : Nat → Addr} {k i : Nat} {d : Def} {f : Addr} {fd : FuncData} (T : GOk P w K mg base k (callN (semT tbl cs) k) cs (tbl.map (·.name)) csts clsN clsA) (hB : tblB tbl csts clsN = true) (h1 : tbl[i]? = some d) (A : DefAt K mg base d f fd) : FnOk P w K mg base (L2.CX P w) (k + 1) f fd d.ps (spD K clsA d.ps.length (callN (semT tbl cs) (k + 1) i)) := by
  have hB' : (scopeB d.N d.ps (defScope d.st) && chkSs ⟨d.N, defScope d.st, locB (defScope d.st), tbl.map (·.name), csts, d.lam⟩ clsN d.b (defBody d.st)) = true := List.all_eq_true.mp hB d (List.mem_of_getElem? h1)
  rw [Bool.and_eq_true] at hB'
  have e : callN (semT tbl cs) (k + 1) i = runF (callN (semT tbl cs) k) cs d.N.length d.ps.length d.b := by
    funext ds
    show semT tbl cs i (callN (semT tbl cs) k) ds = _
    unfold semT
    rw [h1]
  rw [e]
  exact def_ok T A.F (scopeB_of hB'.1) hB'.2 A.lam
/-- all but the table -/
def cutT (H : Hp) : Hp := fun b => if Lam.on = true ∧ b = Lam.P then none else H b
theorem cutT_same (H : Hp) : Same (cutT H) H := fun b o e => by
  unfold cutT at e
  split at e
  · cases e
  · exact e
theorem cutT_no {H : Hp} (on : Lam.on = true) : cutT H Lam.P = none := if_pos ⟨on, rfl⟩
theorem cutT_at {H : Hp} {b : Addr} {o : HO} (t : TabG H) (h : H b = some o) (n : ∀ ps, o ≠ .tbl ps) : cutT H b = some o := by
  unfold cutT
  rw [if_neg]
  · exact h
  · rintro ⟨on, rfl⟩
    obtain ⟨ps, e, _⟩ := t on
    rw [h] at e
    exact n ps (Option.some.inj e)
theorem cutT_seq {K : PySem.W.Frag} {H : Hp} {a : Addr} {xs : List V} (t : TabG H) (h : SqL K H a xs) : SqL K (cutT H) a xs := by
  rcases h with h | h
  · rcases h with h | ⟨o, h⟩
    · exact .inl (.inl (cutT_at t h fun _ z => by cases z))
    · exact .inl (.inr ⟨o, cutT_at t h fun _ z => by cases z⟩)
  · exact .inr h
/-- the law's own promise -/
theorem law_sp {K : PySem.W.Frag} {clsA : Nat → Addr} {g : List D → Res D} {H : Hp} {a : Addr} {ns : List Int} (h : g [.list (ns.map .int)] = .ok (.bool true)) (hS : SqL K H a (ns.map V.int)) (tb : TabG H) : spD K clsA 1 g [.ref a] H (fun v _ => v = .bl true) fun _ _ _ => False :=
  ⟨rfl, cutT H, [.list (ns.map .int)], cutT_same H, .cons (.lst (cutT_seq tb hS) (rp_ints ns)) .nil, ⟨tb, cutT_no⟩, by
    rw [h]
    exact fun F' H' e v r => by cases r; rfl⟩
/-- a promise without exceptions, whatever the classes -/
def spL (K : PySem.W.Frag) (n : Nat) (g : List D → Res D) : Sp := fun vs H Q E => ∀ cA : Nat → Addr, spD K cA n g vs H Q E
theorem fn_imp {P : Program} {w : World} {K : PySem.W.Frag} {mg : Str → Option Value} {base : Heap} {CX : CXT} {k : Nat} {f : Addr} {fd : FuncData} {ps : List Str} {sp sp' : Sp} (h : FnOk P w K mg base CX k f fd ps sp) (i : ∀ vs H Q E, sp' vs H Q E → sp vs H Q E) : FnOk P w K mg base CX k f fd ps sp' :=
  ⟨fun vs H Q E q => h.1 vs H Q E (i _ _ _ _ q), fun A outer s H args us vs Q E a b c d q => h.2 A outer s H args us vs Q E a b c d (i _ _ _ _ q)⟩
theorem cx_no {P : Program} {w : World} {H : Hp} {s : Shared} {e : Value} {s' : Shared} (h : L2.CX P w [] H s (fun _ _ _ => False) e s') : False := by
  obtain ⟨_, _, _, _, _, _, _, _, _, _, _, _, z⟩ := h
  exact z
end MW

set_option maxRecDepth 100000
/-! Part 3a: the evaluator's equations, for rewriting. -/
namespace MW
open PySem PySem.Spec PyProof.Rows L2
open Res
/-- no code is made within -/
instance (priority := low) lam0 : Lam := ⟨"", 0, false⟩
theorem tab0 (H : Hp) : TabG H := fun z => Bool.noConfusion z
section
variable {α β : Type} {Φ : Phi} {cs : Nat → Res D} {env : Env}
theorem b_ok (a : α) (f : α → Res β) : (Res.ok a).bind f = f a := rfl
theorem b_stuck (f : α → Res β) : (Res.stuck : Res α).bind f = .stuck := rfl
theorem b_exn (c : Nat) (f : α → Res β) : (Res.exn c : Res α).bind f = .exn c := rfl
theorem n_t (x : Res α) : need true x = x := rfl
theorem n_f (x : Res α) : need false x = .stuck := rfl
theorem m_ok (f : α → β) (a : α) : (Res.ok a).map f = .ok (f a) := rfl
theorem rv0 (d : D) (r : Env) : rdV (some (.val d) :: r) 0 = .ok d := rfl
theorem rvs (x : Option Slot) (r : Env) (i : Nat) : rdV (x :: r) (i + 1) = rdV r i := rfl
theorem ro0 (d : D) (r : Env) : rdO (some (.val d) :: r) 0 = .ok d := rfl
theorem ro0' (d : D) (r : Env) : rdO (some (.own d) :: r) 0 = .ok d := rfl
theorem ros (x : Option Slot) (r : Env) (i : Nat) : rdO (x :: r) (i + 1) = rdO r i := rfl
theorem sv (env : Env) (i : Nat) (d : D) (h : i < env.length) : setV env i d = .ok (env.set i (some (.val d))) := need_true (decide_eq_true h)
theorem sv0 (x : Option Slot) (r : Env) (d : D) : setV (x :: r) 0 d = .ok (some (.val d) :: r) := rfl
theorem svs (x : Option Slot) (r : Env) (i : Nat) (d : D) : setV (x :: r) (i + 1) d = (setV r i d).bind fun r' => .ok (x :: r') := by
  unfold setV
  by_cases h : i < r.length
  · rw [decide_eq_true h, decide_eq_true (show i + 1 < (x :: r).length by rw [List.length_cons]; omega)]; rfl
  · rw [decide_eq_false h, decide_eq_false (show ¬ i + 1 < (x :: r).length by rw [List.length_cons]; omega)]; rfl
theorem e_var (i : Nat) : ev Φ cs (.var i) env = rdV env i := rfl
theorem e_own (i : Nat) : ev Φ cs (.own i) env = rdO env i := rfl
theorem e_int (i : Int) : ev Φ cs (.cst (.int i)) env = .ok (.int i) := rfl
theorem e_str (i : Str) : ev Φ cs (.cst (.str i)) env = .ok (.str i) := rfl
theorem e_bool (i : Bool) : ev Φ cs (.cst (.bool i)) env = .ok (.bool i) := rfl
theorem e_none : ev Φ cs (.cst .none) env = .ok .none := rfl
theorem e_glob (k : Nat) : ev Φ cs (.glob k) env = cs k := rfl
theorem e_tup (es : Es) : ev Φ cs (.tup es) env = (evs Φ cs es env).bind fun ds => need (fitsZ ds.length) (.ok (.tuple ds)) := rfl
theorem e_lst (es : Es) : ev Φ cs (.lst es) env = (evs Φ cs es env).bind fun ds => need (fitsZ ds.length) (.ok (.list ds)) := rfl
theorem e_dic0 : ev Φ cs .dic0 env = .ok (.dict []) := rfl
theorem e_bin (op : Operator) (a b : E) : ev Φ cs (.bin op a b) env = (ev Φ cs a env).bind fun x => (ev Φ cs b env).bind fun y => opD op x y := rfl
theorem e_neg (a : E) (i : Int) (h : ev Φ cs a env = .ok (.int i)) : ev Φ cs (.neg a) env = .ok (.int (-i)) := by
  show (ev Φ cs a env).bind _ = _
  rw [h]; rfl
theorem e_mulL (c : Int) (b : E) (j : Int) (h : ev Φ cs b env = .ok (.int j)) (hc : small64 c = true) : ev Φ cs (.mulL c b) env = .ok (.int (c * j)) := by
  show (ev Φ cs b env).bind _ = _
  rw [h]
  exact need_true hc
theorem e_cmp (op : CmpOp) (a b : E) : ev Φ cs (.cmp op a b) env = (ev Φ cs a env).bind fun x => (ev Φ cs b env).bind fun y => cmpD op x y := rfl
def andR (x : D) (r : Res D) (k : Bool) : Res D := match k with
  | true => r
  | false => .ok x
def orR (x : D) (r : Res D) (k : Bool) : Res D := match k with
  | true => .ok x
  | false => r
theorem andR_t (x : D) (r : Res D) : andR x r true = r := rfl
theorem andR_f (x : D) (r : Res D) : andR x r false = .ok x := rfl
theorem orR_t (x : D) (r : Res D) : orR x r true = .ok x := rfl
theorem orR_f (x : D) (r : Res D) : orR x r false = r := rfl
theorem e_and (a b : E) : ev Φ cs (.and a b) env = (ev Φ cs a env).bind fun x => (truD x).bind fun k => andR x (ev Φ cs b env) k := by
  show (ev Φ cs a env).bind _ = _
  congr 1
theorem e_or (a b : E) : ev Φ cs (.or a b) env = (ev Φ cs a env).bind fun x => (truD x).bind fun k => orR x (ev Φ cs b env) k := by
  show (ev Φ cs a env).bind _ = _
  congr 1
theorem e_not (a : E) : ev Φ cs (.not a) env = (ev Φ cs a env).bind fun x => (truD x).bind fun k => .ok (.bool (!k)) := rfl
def ifR {α : Type} (a b : Res α) (k : Bool) : Res α := match k with
  | true => a
  | false => b
theorem ifR_t {α : Type} (a b : Res α) : ifR a b true = a := rfl
theorem ifR_f {α : Type} (a b : Res α) : ifR a b false = b := rfl
theorem e_ife (t a b : E) : ev Φ cs (.ife t a b) env = (tst Φ cs t env).bind fun k => ifR (ev Φ cs a env) (ev Φ cs b env) k := by
  show (tst Φ cs t env).bind _ = _
  congr 1
theorem e_ix (a b : E) : ev Φ cs (.ix a b) env = (ev Φ cs a env).bind fun x => (ev Φ cs b env).bind fun y => itemD x y := rfl
theorem e_slc (a lo hi : E) : ev Φ cs (.slc a lo hi) env = (ev Φ cs a env).bind fun x => (optE lo.isAbs (ev Φ cs lo env)).bind fun l => (optE hi.isAbs (ev Φ cs hi env)).bind fun h => sliceD x l h := rfl
theorem o_t (r : Res D) : optE true r = .ok none := rfl
theorem o_f (r : Res D) : optE false r = r.bind optI := rfl
theorem oi (i : Int) : optI (.int i) = .ok (some i) := rfl
theorem e_call (f : Nat) (es : Es) : ev Φ cs (.call f es) env = (evs Φ cs es env).bind fun ds => Φ f ds := rfl
theorem e_blt (b : Blt) (es : Es) : ev Φ cs (.blt b es) env = (evs Φ cs es env).bind fun ds => bltD b ds := rfl
theorem e_isi (a : E) (t : Ty) : ev Φ cs (.isi a [t]) env = (ev Φ cs a env).bind fun x => .ok (.bool (tyB x t)) := by
  show (ev Φ cs a env).bind _ = _
  congr 1
  funext x
  rw [List.any_cons, List.any_nil, Bool.or_false]
theorem e_comp (elt : E) (g : G) (ik : IK) (ia cond : Es) (own : List (Str × Nat)) : ev Φ cs (.comp elt g ik ia cond own) env = (evs Φ cs ia env).bind fun ds => (iterD ik ds).bind fun xs => (compL (turnOf Φ cs elt g cond own env) xs).bind fun r => need (fitsZ r.length) (.ok (.list r)) := rfl
theorem s_nil : evs Φ cs .nil env = .ok [] := rfl
theorem s_cons (e : E) (es : Es) : evs Φ cs (.cons e es) env = (ev Φ cs e env).bind fun d => (evs Φ cs es env).bind fun ds => .ok (d :: ds) := rfl
def andT (r : Res Bool) (k : Bool) : Res Bool := match k with
  | true => r
  | false => .ok false
def orT (r : Res Bool) (k : Bool) : Res Bool := match k with
  | true => .ok true
  | false => r
theorem andT_t (r : Res Bool) : andT r true = r := rfl
theorem andT_f (r : Res Bool) : andT r false = .ok false := rfl
theorem orT_t (r : Res Bool) : orT r true = .ok true := rfl
theorem orT_f (r : Res Bool) : orT r false = r := rfl
theorem t_and (a b : E) : tst Φ cs (.and a b) env = (tst Φ cs a env).bind fun k => andT (tst Φ cs b env) k := by
  show (tst Φ cs a env).bind _ = _
  congr 1
theorem t_or (a b : E) : tst Φ cs (.or a b) env = (tst Φ cs a env).bind fun k => orT (tst Φ cs b env) k := by
  show (tst Φ cs a env).bind _ = _
  congr 1
theorem t_not (a : E) : tst Φ cs (.not a) env = (tst Φ cs a env).bind fun k => .ok (!k) := rfl
theorem t_cmp (op : CmpOp) (a b : E) : tst Φ cs (.cmp op a b) env = (ev Φ cs a env).bind fun x => (ev Φ cs b env).bind fun y => (cmpD op x y).bind boolD := rfl
theorem t_var (i : Nat) : tst Φ cs (.var i) env = (rdV env i).bind truD := rfl
theorem t_own (i : Nat) : tst Φ cs (.own i) env = (rdO env i).bind truD := rfl
theorem t_call (f : Nat) (es : Es) : tst Φ cs (.call f es) env = (evs Φ cs es env).bind fun ds => (Φ f ds).bind truD := rfl
theorem t_blt (b : Blt) (es : Es) : tst Φ cs (.blt b es) env = (evs Φ cs es env).bind fun ds => (bltD b ds).bind truD := rfl
theorem t_isi (a : E) (t : Ty) : tst Φ cs (.isi a [t]) env = (ev Φ cs a env).bind fun x => .ok (tyB x t) := by
  show (ev Φ cs a env).bind _ = _
  congr 1
  funext x
  rw [List.any_cons, List.any_nil, Bool.or_false]
theorem t_ix (a b : E) : tst Φ cs (.ix a b) env = (ev Φ cs a env).bind fun x => (ev Φ cs b env).bind fun y => (itemD x y).bind truD := rfl
theorem ts_nil : tsts Φ cs .nil env = .ok true := rfl
theorem ts_cons (e : E) (es : Es) : tsts Φ cs (.cons e es) env = tst Φ cs e env := rfl
theorem bd (b : Bool) : boolD (.bool b) = .ok b := rfl
theorem tr_b (b : Bool) : truD (.bool b) = .ok b := rfl
theorem tr_n : truD .none = .ok false := rfl
theorem tr_l (ds : List D) : truD (.list ds) = .ok (!ds.isEmpty) := rfl
theorem tr_t (ds : List D) : truD (.tuple ds) = .ok (!ds.isEmpty) := rfl
theorem a_ii (i j : Int) : opD .Add (.int i) (.int j) = .ok (.int (i + j)) := rfl
theorem a_ss (i j : Str) : opD .Add (.str i) (.str j) = need (fitsZ (i.length + j.length)) (.ok (.str (i ++ j))) := rfl
theorem a_ll (i j : List D) : opD .Add (.list i) (.list j) = need (fitsZ (i.length + j.length)) (.ok (.list (i ++ j))) := rfl
theorem a_tt (i j : List D) : opD .Add (.tuple i) (.tuple j) = need (fitsZ (i.length + j.length)) (.ok (.tuple (i ++ j))) := rfl
theorem s_ii (i j : Int) : opD .Sub (.int i) (.int j) = .ok (.int (i - j)) := rfl
theorem m_ii (i j : Int) : opD .Mult (.int i) (.int j) = need (small64 j || small64 i) (.ok (.int (i * j))) := rfl
theorem r_ii (i j : Int) : opD .Mod (.int i) (.int j) = need (decide (0 < j)) (.ok (.int (i % j))) := rfl
theorem d_ii (i j : Int) : opD .FloorDiv (.int i) (.int j) = need (decide (0 < j) && decide (j < 1073741824)) (.ok (.int (i / j))) := rfl
theorem c_eq (x y : D) : cmpD .Eq x y = eqD x y := rfl
theorem c_ne (x y : D) : cmpD .NotEq x y = neD x y := rfl
theorem c_lt (i j : Int) : cmpD .Lt (.int i) (.int j) = .ok (.bool (decide (i < j))) := rfl
theorem c_le (i j : Int) : cmpD .LtE (.int i) (.int j) = .ok (.bool (decide (i ≤ j))) := rfl
theorem c_gt (i j : Int) : cmpD .Gt (.int i) (.int j) = .ok (.bool (decide (j < i))) := rfl
theorem c_ge (i j : Int) : cmpD .GtE (.int i) (.int j) = .ok (.bool (decide (j ≤ i))) := rfl
theorem c_is (x y : D) : cmpD .Is x y = (isD x y).map .bool := rfl
theorem c_isn (x y : D) : cmpD .IsNot x y = (isD x y).map fun b => .bool (!b) := rfl
theorem c_in (x y : D) : cmpD .In x y = (inD x y).map .bool := rfl
theorem c_nin (x y : D) : cmpD .NotIn x y = (inD x y).map fun b => .bool (!b) := rfl
theorem is_n (x : D) : isD x .none = .ok (isNone x) := rfl
theorem is_b (a b : Bool) : isD (.bool a) (.bool b) = .ok (decide (a = b)) := rfl
theorem eq_ii (i j : Int) : eqD (.int i) (.int j) = .ok (.bool (decide (i = j))) := by
  show Res.ok (PyData.bool (i == j)) = _
  rw [Bool.beq_eq_decide_eq]
theorem ne_ii (i j : Int) : neD (.int i) (.int j) = .ok (.bool (!decide (i = j))) := by
  show Res.ok (PyData.bool (!(i == j))) = _
  rw [Bool.beq_eq_decide_eq]
theorem eq_bb (i j : Bool) : eqD (.bool i) (.bool j) = .ok (.bool (i == j)) := rfl
theorem ne_bb (i j : Bool) : neD (.bool i) (.bool j) = .ok (.bool (!(i == j))) := rfl
def nxt (f : Fl) (g : Env → Res Fl) : Res Fl := match f with
  | .next env => g env
  | f => .ok f
theorem nxt_n (env : Env) (g : Env → Res Fl) : nxt (.next env) g = g env := rfl
theorem nxt_r (d : D) (g : Env → Res Fl) : nxt (.ret d) g = .ok (.ret d) := rfl
theorem nxt_b (env : Env) (g : Env → Res Fl) : nxt (.brk env) g = .ok (.brk env) := rfl
theorem nxt_c (env : Env) (g : Env → Res Fl) : nxt (.cnt env) g = .ok (.cnt env) := rfl
theorem x_nil : exs Φ cs .nil env = .ok (.next env) := rfl
theorem x_cons (s : S) (r : Ss) : exs Φ cs (.cons s r) env = (ex Φ cs s env).bind fun f => nxt f (exs Φ cs r) := by
  show (ex Φ cs s env).bind _ = _
  congr 1
theorem x_asg (i : Nat) (e : E) : ex Φ cs (.asg i e) env = (ev Φ cs e env).bind fun d => (setV env i d).bind fun env' => .ok (.next env') := rfl
theorem x_asgO (i : Nat) (e : E) (h : i < env.length) : ex Φ cs (.asgO i e) env = (ev Φ cs e env).bind fun d => need (isOwnable d) (.ok (.next (env.set i (some (.own d))))) := by
  show (ev Φ cs e env).bind _ = _
  congr 1
  funext d
  rw [decide_eq_true h, Bool.and_true]
theorem x_asgT (g : G) (e : E) : ex Φ cs (.asgT g e) env = (ev Φ cs e env).bind fun d => (bindG g d env).bind fun env' => .ok (.next env') := rfl
theorem x_par (i j : Nat) (a b : E) : ex Φ cs (.par i j a b) env = (ev Φ cs a env).bind fun x => (ev Φ cs b env).bind fun y => (setV env i x).bind fun e1 => (setV e1 j y).bind fun e2 => .ok (.next e2) := rfl
theorem x_app (i : Nat) (e : E) (ds : List D) (h : env[i]? = some (some (.own (.list ds)))) : ex Φ cs (.app i e) env = (ev Φ cs e env).bind fun d => need (decide (ds.length < sizeLine)) (.ok (.next (env.set i (some (.own (.list (ds ++ [d]))))))) := by
  show (match env[i]? with | some (some (.own (.list ds))) => _ | _ => _) = _
  rw [h]
theorem x_ext (i : Nat) (e : E) (ds xs : List D) (h : env[i]? = some (some (.own (.list ds)))) (he : ev Φ cs e env = .ok (.list xs)) : ex Φ cs (.ext i e) env = need (fitsZ (ds.length + xs.length)) (.ok (.next (env.set i (some (.own (.list (ds ++ xs))))))) := by
  show (match env[i]? with | some (some (.own (.list ds))) => _ | _ => _) = _
  rw [h]
  show (ev Φ cs e env).bind _ = _
  rw [he]; rfl
theorem x_ret (e : E) : ex Φ cs (.ret e) env = (ev Φ cs e env).bind fun d => .ok (.ret d) := rfl
theorem x_ite (t : E) (a b : Ss) : ex Φ cs (.ite t a b) env = (tst Φ cs t env).bind fun k => ifR (exs Φ cs a env) (exs Φ cs b env) k := by
  show (tst Φ cs t env).bind _ = _
  congr 1
theorem x_whl (t : E) (b : Ss) : ex Φ cs (.whl t b) env = whileL (tst Φ cs t) (exs Φ cs b) wmax env := rfl
theorem x_for (g : G) (ik : IK) (ia : Es) (b : Ss) : ex Φ cs (.for g ik ia b) env = (evs Φ cs ia env).bind fun ds => (iterD ik ds).bind fun xs => forL (bindG g) (exs Φ cs b) xs env := rfl
theorem x_brk : ex Φ cs .brk env = .ok (.brk env) := rfl
theorem x_cnt : ex Φ cs .cnt env = .ok (.cnt env) := rfl
theorem x_raise (c : Nat) : ex Φ cs (.raise c) env = .exn c := rfl
theorem x_expr (e : E) : ex Φ cs (.expr e) env = (ev Φ cs e env).bind fun _ => .ok (.next env) := rfl
def turnK (k : Fl) (g : Env → Res Fl) : Res Fl := match k with
  | .next env' => g env'
  | .cnt env' => g env'
  | .brk env' => .ok (.next env')
  | .ret d => .ok (.ret d)
theorem tk_n (env : Env) (g : Env → Res Fl) : turnK (.next env) g = g env := rfl
theorem tk_c (env : Env) (g : Env → Res Fl) : turnK (.cnt env) g = g env := rfl
theorem tk_b (env : Env) (g : Env → Res Fl) : turnK (.brk env) g = .ok (.next env) := rfl
theorem tk_r (d : D) (g : Env → Res Fl) : turnK (.ret d) g = .ok (.ret d) := rfl
theorem for_nil (g : D → Env → Res Env) (b : Env → Res Fl) (env : Env) : forL g b [] env = .ok (.next env) := rfl
theorem for_cons (g : D → Env → Res Env) (b : Env → Res Fl) (d : D) (ds : List D) (env : Env) : forL g b (d :: ds) env = (g d env).bind fun env' => (b env').bind fun f => turnK f (forL g b ds) := by
  show (g d env).bind _ = _
  congr 1
theorem whl_s (t : Env → Res Bool) (b : Env → Res Fl) (n : Nat) (env : Env) : whileL t b (n + 1) env = (t env).bind fun k => ifR ((b env).bind fun f => turnK f (whileL t b n)) (.ok (.next env)) k := by
  show (t env).bind _ = _
  congr 1
  funext k
  cases k with
  | false => rfl
  | true =>
    show (b env).bind _ = _
    congr 1
theorem g_name (i : Nat) (d : D) : bindG (.name i) d env = setV env i d := rfl
theorem g_tup (gs : Gs) (ds : List D) : bindG (.tup gs) (.tuple ds) env = bindGs gs ds env := rfl
theorem gs_nil : bindGs .nil [] env = .ok env := rfl
theorem gs_cons (g : G) (gs : Gs) (d : D) (ds : List D) : bindGs (.cons g gs) (d :: ds) env = (bindG g d env).bind fun env' => bindGs gs ds env' := rfl
theorem rF (n np : Nat) (b : Ss) (ds : List D) (h : ds.length = np) : runF Φ cs n np b ds = (exs Φ cs b (startE n ds)).bind fun f => match f with
    | .next _ => .ok .none
    | .ret d => .ok d
    | _ => .stuck := need_true (decide_eq_true h)
/-- a body that returns -/
theorem rF_ret (n np : Nat) (b : Ss) (ds : List D) (d : D) (h : ds.length = np) (q : exs Φ cs b (startE n ds) = .ok (.ret d)) : runF Φ cs n np b ds = .ok d := by
  rw [rF n np b ds h, q]; rfl
theorem rF_exn (n np : Nat) (b : Ss) (ds : List D) (c : Nat) (h : ds.length = np) (q : exs Φ cs b (startE n ds) = .exn c) : runF Φ cs n np b ds = .exn c := by
  rw [rF n np b ds h, q]; rfl
end
end MW

set_option maxRecDepth 100000
/-! Part 3b: more equations; all of them as one row. -/
namespace MW
open PySem PySem.Spec PyProof.Rows L2
open Res
section
variable {α β : Type} {Φ : Phi} {cs : Nat → Res D} {env : Env}
theorem x_try (b : Ss) (c i : Nat) (h : Hd) : ex Φ cs (.try_ b c i h) env = handD c i h env.length (exs Φ cs b env) := rfl
theorem hn_ok (c i : Nat) (h : Hd) (n : Nat) (f : Fl) : handD c i h n (.ok f) = .ok f := rfl
def negK (x : D) : Res D := match x with
  | .int i => .ok (.int (-i))
  | _ => .stuck
def mulK (c : Int) (y : D) : Res D := match y with
  | .int j => need (small64 c) (.ok (.int (c * j)))
  | _ => .stuck
theorem negK_i (i : Int) : negK (.int i) = .ok (.int (-i)) := rfl
theorem mulK_i (c i : Int) : mulK c (.int i) = need (small64 c) (.ok (.int (c * i))) := rfl
theorem e_neg' (a : E) : ev Φ cs (.neg a) env = (ev Φ cs a env).bind negK := by
  show (ev Φ cs a env).bind _ = _
  congr 1
theorem e_mulL' (c : Int) (b : E) : ev Φ cs (.mulL c b) env = (ev Φ cs b env).bind (mulK c) := by
  show (ev Φ cs b env).bind _ = _
  congr 1
def appK (s : Option (Option Slot)) (r : Res D) (env : Env) (i : Nat) : Res Fl := match s with
  | some (some (.own (.list ds))) => r.bind fun d => need (decide (ds.length < sizeLine)) (.ok (.next (env.set i (some (.own (.list (ds ++ [d])))))))
  | _ => .stuck
theorem x_app' (i : Nat) (e : E) : ex Φ cs (.app i e) env = appK env[i]? (ev Φ cs e env) env i := rfl
theorem appK_o (ds : List D) (r : Res D) (env : Env) (i : Nat) : appK (some (some (.own (.list ds)))) r env i = r.bind fun d => need (decide (ds.length < sizeLine)) (.ok (.next (env.set i (some (.own (.list (ds ++ [d]))))))) := rfl
def extK2 (ds : List D) (env : Env) (i : Nat) (d : D) : Res Fl := match d with
  | .list xs => need (fitsZ (ds.length + xs.length)) (.ok (.next (env.set i (some (.own (.list (ds ++ xs)))))))
  | _ => .stuck
def extK (s : Option (Option Slot)) (r : Res D) (env : Env) (i : Nat) : Res Fl := match s with
  | some (some (.own (.list ds))) => r.bind (extK2 ds env i)
  | _ => .stuck
theorem x_ext' (i : Nat) (e : E) : ex Φ cs (.ext i e) env = extK env[i]? (ev Φ cs e env) env i := by
  show (match env[i]? with | some (some (.own (.list ds))) => _ | _ => _) = _
  unfold extK
  split <;> try rfl
theorem extK_o (ds : List D) (r : Res D) (env : Env) (i : Nat) : extK (some (some (.own (.list ds)))) r env i = r.bind (extK2 ds env i) := rfl
theorem extK2_l (ds xs : List D) (env : Env) (i : Nat) : extK2 ds env i (.list xs) = need (fitsZ (ds.length + xs.length)) (.ok (.next (env.set i (some (.own (.list (ds ++ xs))))))) := rfl
def putK2 (kvs : List (D × D)) (env : Env) (i : Nat) (d kd : D) : Res Fl := match toKey kd with
  | some q => need (decide (kvs.length < sizeLine)) (.ok (.next (env.set i (some (.own (.dict (dictPut kvs q d)))))))
  | none => .stuck
def putK (s : Option (Option Slot)) (v k : Res D) (env : Env) (i : Nat) : Res Fl := match s with
  | some (some (.own (.dict kvs))) => v.bind fun d => k.bind fun kd => putK2 kvs env i d kd
  | _ => .stuck
theorem x_put' (i : Nat) (k v : E) : ex Φ cs (.put i k v) env = putK env[i]? (ev Φ cs v env) (ev Φ cs k env) env i := rfl
theorem putK_o (kvs : List (D × D)) (v k : Res D) (env : Env) (i : Nat) : putK (some (some (.own (.dict kvs)))) v k env i = v.bind fun d => k.bind fun kd => putK2 kvs env i d kd := rfl
theorem putK2_s (kvs : List (D × D)) (env : Env) (i : Nat) (d : D) (s : Str) : putK2 kvs env i d (.str s) = need (decide (kvs.length < sizeLine)) (.ok (.next (env.set i (some (.own (.dict (dictPut kvs (.inr s) d))))))) := rfl
theorem putK2_i (kvs : List (D × D)) (env : Env) (i : Nat) (d : D) (s : Int) : putK2 kvs env i d (.int s) = need (decide (kvs.length < sizeLine)) (.ok (.next (env.set i (some (.own (.dict (dictPut kvs (.inl s) d))))))) := rfl
def frzK (s : Option (Option Slot)) (env : Env) (i : Nat) : Res Fl := match s with
  | some (some (.own d)) => .ok (.next (env.set i (some (.val d))))
  | _ => .ok (.next env)
theorem x_frz' (i : Nat) : ex Φ cs (.frz i) env = frzK env[i]? env i := rfl
theorem frzK_o (d : D) (env : Env) (i : Nat) : frzK (some (some (.own d))) env i = .ok (.next (env.set i (some (.val d)))) := rfl
theorem frzK_v (d : D) (env : Env) (i : Nat) : frzK (some (some (.val d))) env i = .ok (.next env) := rfl
theorem x_asgO' (i : Nat) (e : E) : ex Φ cs (.asgO i e) env = (ev Φ cs e env).bind fun d => need (isOwnable d && decide (i < env.length)) (.ok (.next (env.set i (some (.own d))))) := rfl
theorem x_pass : ex Φ cs .pass env = .ok (.next env) := rfl
theorem ow_l (ds : List D) : isOwnable (.list ds) = true := rfl
theorem ow_d (ds : List (D × D)) : isOwnable (.dict ds) = true := rfl
theorem e_chain (op op2 : CmpOp) (a b c : E) : ev Φ cs (.chain op op2 a b c) env = (ev Φ cs a env).bind fun x => (ev Φ cs b env).bind fun y => (cmpD op x y).bind fun r => (boolD r).bind fun k => ifR ((ev Φ cs c env).bind fun z => cmpD op2 y z) (.ok (.bool false)) k := by
  show (ev Φ cs a env).bind _ = _
  congr 1
theorem t_chain (op op2 : CmpOp) (a b c : E) : tst Φ cs (.chain op op2 a b c) env = (ev Φ cs a env).bind fun x => (ev Φ cs b env).bind fun y => (cmpD op x y).bind fun r => (boolD r).bind fun k => ifR ((ev Φ cs c env).bind fun z => (cmpD op2 y z).bind boolD) (.ok false) k := by
  show (ev Φ cs a env).bind _ = _
  congr 1
theorem t_ife (t a b : E) : tst Φ cs (.ife t a b) env = (tst Φ cs t env).bind fun k => ifR (tst Φ cs a env) (tst Φ cs b env) k := by
  show (tst Φ cs t env).bind _ = _
  congr 1
theorem t_comp (elt : E) (g : G) (ik : IK) (ia cond : Es) (own : List (Str × Nat)) : tst Φ cs (.comp elt g ik ia cond own) env = (evs Φ cs ia env).bind fun ds => (iterD ik ds).bind fun xs => (compL (turnOf Φ cs elt g cond own env) xs).bind fun r => need (fitsZ r.length) (.ok (!r.isEmpty)) := rfl
theorem t_chain3 (op op2 op3 : CmpOp) (a b c d : E) : tst Φ cs (.chain3 op op2 op3 a b c d) env = (ev Φ cs a env).bind fun x => (ev Φ cs b env).bind fun y => (cmpD op x y).bind fun r => (boolD r).bind fun k => ifR ((ev Φ cs c env).bind fun z => (cmpD op2 y z).bind fun r2 => (boolD r2).bind fun k2 => ifR ((ev Φ cs d env).bind fun u => (cmpD op3 z u).bind boolD) (.ok false) k2) (.ok false) k := by
  show (ev Φ cs a env).bind _ = _
  congr 1
theorem e_slc3 (a : E) (k : Int) : ev Φ cs (.slc3 a k) env = (ev Φ cs a env).bind fun x => stepD x k := rfl
theorem e_rep (a b : E) : ev Φ cs (.rep a b) env = (ev Φ cs a env).bind fun x => (ev Φ cs b env).bind fun y => repD x y := rfl
theorem e_sortk (a key : E) (p : Str) : ev Φ cs (.sortk a key p) env = (ev Φ cs a env).bind fun x => sortkD (fun d => noExn (ev Φ cs key [some (.val d)])) x := rfl
theorem e_lenset (a : E) : ev Φ cs (.lenset a) env = (ev Φ cs a env).bind fun x => lensetD x := rfl
theorem e_meth (m : Mth) (o a : E) : ev Φ cs (.meth m o a) env = (ev Φ cs o env).bind fun x => need (mthOk m x) ((ev Φ cs a env).bind fun y => methD m x y) := rfl
theorem st_rev (ds : List D) : stepD (.tuple ds) (-1) = .ok (.tuple ds.reverse) := rfl
theorem st_two (ds : List D) : stepD (.tuple ds) 2 = .ok (.tuple (evens ds)) := rfl
theorem mo_l (ds : List D) : mthOk .countL (.list ds) = true := rfl
theorem mo_s (x : Str) : mthOk .countS (.str x) = true := rfl
theorem mo_i (x : Str) : mthOk .index (.str x) = true := rfl
theorem mo_j (x : Str) : mthOk .join (.str x) = true := rfl
theorem md_l (ds : List D) (a : D) : methD .countL (.list ds) a = countD ds a := rfl
theorem md_s (x y : Str) : methD .countS (.str x) (.str y) = .ok (.int (PySem.Txt.count x y)) := rfl
theorem md_i (x y : Str) : methD .index (.str x) (.str y) = indexD x y := rfl
theorem md_j (x : Str) (ds : List D) : methD .join (.str x) (.list ds) = joinD x ds := rfl
theorem bl_ls (s : Str) : bltD .list [.str s] = need (fitsZ s.length) (.ok (.list (s.cps.toList.map chD))) := rfl
theorem tr_i (i : Int) : truD (.int i) = .ok (i != 0) := rfl
theorem tr_s (s : Str) : truD (.str s) = need (fitsZ s.length) (.ok (s.length != 0)) := rfl
theorem tr_d (kvs : List (D × D)) : truD (.dict kvs) = .ok (!kvs.isEmpty) := rfl
theorem i_l (ds : List D) (j : Int) : itemD (.list ds) (.int j) = ixD ds j := rfl
theorem i_t (ds : List D) (j : Int) : itemD (.tuple ds) (.int j) = ixD ds j := rfl
theorem i_d (kvs : List (D × D)) (s : Str) : itemD (.dict kvs) (.str s) = optR (dictGet kvs (.inr s)) := rfl
theorem i_di (kvs : List (D × D)) (s : Int) : itemD (.dict kvs) (.int s) = optR (dictGet kvs (.inl s)) := rfl
theorem opt_s (d : D) : optR (some d) = .ok d := rfl
theorem ixNat (ds : List D) (j : Nat) (d : D) (h : ds[j]? = some d) : ixD ds (j : Int) = .ok d := by
  have hj : j < ds.length := (List.getElem?_eq_some_iff.mp h).1
  unfold ixD atI
  have e : ixN ds.length (j : Int) = some j := by
    unfold ixN
    rw [if_pos (by omega), if_pos (by omega), Int.toNat_natCast]
  rw [e]
  show (match ds[j]? with | some d => Res.ok d | none => .stuck) = _
  rw [h]
theorem ix0 (d : D) (ds : List D) : ixD (d :: ds) 0 = .ok d := ixNat _ 0 d rfl
theorem ix1 (d e : D) (ds : List D) : ixD (d :: e :: ds) 1 = .ok e := ixNat _ 1 e rfl
theorem ix2 (d e f : D) (ds : List D) : ixD (d :: e :: f :: ds) 2 = .ok f := ixNat _ 2 f rfl
theorem sl_l (ds : List D) (lo hi : Option Int) : sliceD (.list ds) lo hi = .ok (.list (cutD ds lo hi)) := rfl
theorem sl_t (ds : List D) (lo hi : Option Int) : sliceD (.tuple ds) lo hi = .ok (.tuple (cutD ds lo hi)) := rfl
theorem sl_s (s : Str) (lo hi : Option Int) : sliceD (.str s) lo hi = need (fitsZ s.length) (.ok (.str (cutStr s lo hi))) := rfl
theorem l_l (ds : List D) : lenD (.list ds) = .ok (.int ds.length) := rfl
theorem l_t (ds : List D) : lenD (.tuple ds) = .ok (.int ds.length) := rfl
theorem l_s (s : Str) : lenD (.str s) = need (fitsZ s.length) (.ok (.int s.length)) := rfl
theorem l_d (kvs : List (D × D)) : lenD (.dict kvs) = .ok (.int kvs.length) := rfl
theorem bl_len (x : D) : bltD .len [x] = lenD x := rfl
theorem bl_min (i j : Int) : bltD .min2 [.int i, .int j] = .ok (.int (if j < i then j else i)) := rfl
theorem bl_max (i j : Int) : bltD .max2 [.int i, .int j] = .ok (.int (if j > i then j else i)) := rfl
theorem bl_tl (ds : List D) : bltD .tuple [.list ds] = .ok (.tuple ds) := rfl
theorem bl_tt (ds : List D) : bltD .tuple [.tuple ds] = .ok (.tuple ds) := rfl
theorem bl_ll (ds : List D) : bltD .list [.list ds] = .ok (.list ds) := rfl
theorem bl_lt (ds : List D) : bltD .list [.tuple ds] = .ok (.list ds) := rfl
theorem bl_so (ds : List D) : bltD .sorted [.list ds] = sortedD ds := rfl
theorem bl_ib (b : Bool) : bltD .int [.bool b] = .ok (.int (if b then 1 else 0)) := rfl
theorem bl_all (ds : List D) : bltD .all [.list ds] = (allB ds).bind fun b => .ok (.bool b) := rfl
theorem it_l (ds : List D) : iterD .of [.list ds] = .ok ds := rfl
theorem it_t (ds : List D) : iterD .of [.tuple ds] = .ok ds := rfl
theorem it_s (s : Str) : iterD .of [.str s] = .ok (s.cps.toList.map chD) := rfl
theorem it_r1 (j : Int) : iterD .range [.int j] = rangeD 0 j := id rfl
theorem it_r2 (i j : Int) : iterD .range [.int i, .int j] = rangeD i j := id rfl
theorem it_e (ds : List D) : iterD .enum [.list ds] = .ok (enumFrom 0 ds) := rfl
theorem it_rev (ds : List D) : iterD .rev [.list ds] = .ok ds.reverse := rfl
theorem ty_ss (s : Str) : tyB (.str s) .str = true := rfl
theorem ty_st (s : Str) : tyB (.str s) .tuple = false := rfl
theorem ty_tt (s : List D) : tyB (.tuple s) .tuple = true := rfl
theorem ty_ts (s : List D) : tyB (.tuple s) .str = false := rfl
theorem ty_it (s : Int) : tyB (.int s) .tuple = false := rfl
theorem ty_ii (s : Int) : tyB (.int s) .int = true := rfl
theorem ab_a : E.isAbs .abs = true := rfl
theorem ab_c (c : Const) : E.isAbs (.cst c) = false := rfl
theorem ab_v (i : Nat) : E.isAbs (.var i) = false := rfl
theorem ab_b (op : Operator) (a b : E) : E.isAbs (.bin op a b) = false := rfl
theorem ab_n (a : E) : E.isAbs (.neg a) = false := rfl
theorem ab_bl (b : Blt) (es : Es) : E.isAbs (.blt b es) = false := rfl
theorem ab_ca (b : Nat) (es : Es) : E.isAbs (.call b es) = false := rfl
theorem ab_ix (a b : E) : E.isAbs (.ix a b) = false := rfl
theorem ab_mu (c : Int) (a : E) : E.isAbs (.mulL c a) = false := rfl
theorem is_s (s : Str) : isNone (.str s) = false := rfl
theorem is_nn : isNone .none = true := rfl
theorem is_t (s : List D) : isNone (.tuple s) = false := rfl
theorem is_l (s : List D) : isNone (.list s) = false := rfl
theorem is_i (s : Int) : isNone (.int s) = false := rfl
theorem is_bl (s : Bool) : isNone (.bool s) = false := rfl
theorem in_d (s : Str) (kvs : List (D × D)) : inD (.str s) (.dict kvs) = .ok (dictGet kvs (.inr s)).isSome := rfl
/-- one turn of a comprehension -/
theorem turn_eq (elt : E) (g : G) (cond : Es) (own : List (Str × Nat)) (d : D) : turnOf Φ cs elt g cond own env d = noExn ((bindG g d (wipeE env (own.map (·.2)))).bind fun env' => (tsts Φ cs cond env').bind fun k => ifR ((ev Φ cs elt env').bind fun v => .ok (some v)) (.ok none) k) := by
  unfold turnOf
  congr 1
theorem wi_nil : wipeE env [] = env := rfl
theorem wi_cons (v : Nat) (vs : List Nat) : wipeE env (v :: vs) = (wipeE env vs).set v none := rfl
theorem nx_ok (a : α) : noExn (Res.ok a) = .ok a := rfl
theorem cl_nil (t : D → Res (Option D)) : compL t [] = .ok [] := rfl
theorem cl_cons (t : D → Res (Option D)) (d : D) (ds : List D) : compL t (d :: ds) = (t d).bind fun o => (compL t ds).bind fun r => .ok (addO o r) := rfl
/-- a comprehension whose turns tell something each -/
theorem cl_map {γ : Type} (t : D → Res (Option D)) (f : γ → D) (g : γ → D) (xs : List γ) (h : ∀ x ∈ xs, t (f x) = .ok (some (g x))) : compL t (xs.map f) = .ok (xs.map g) := by
  induction xs with
  | nil => rfl
  | cons x r ih =>
    show compL t (f x :: r.map f) = _
    rw [cl_cons, h x List.mem_cons_self, b_ok, ih fun y hy => h y (List.mem_cons_of_mem _ hy), b_ok]
    rfl
/-- with a condition -/
theorem cl_filt {γ : Type} (t : D → Res (Option D)) (f : γ → D) (p : γ → Bool) (g : γ → D) (xs : List γ) (h : ∀ x ∈ xs, t (f x) = .ok (if p x then some (g x) else none)) : compL t (xs.map f) = .ok ((xs.filter p).map g) := by
  induction xs with
  | nil => rfl
  | cons x r ih =>
    show compL t (f x :: r.map f) = _
    rw [cl_cons, h x List.mem_cons_self, b_ok, ih fun y hy => h y (List.mem_cons_of_mem _ hy), b_ok, List.filter_cons]
    cases p x <;> rfl
theorem stE0 (n : Nat) : startE n [] = List.replicate n none := rfl
theorem fl_ret (d : D) : (match Fl.ret d with | .next _ => Res.ok PyData.none | .ret d => .ok d | _ => .stuck) = .ok d := rfl
def finK (f : Fl) : Res D := match f with
  | .next _ => .ok .none
  | .ret d => .ok d
  | _ => .stuck
theorem rF' (n np : Nat) (b : Ss) (ds : List D) : runF Φ cs n np b ds = need (decide (ds.length = np)) ((exs Φ cs b (startE n ds)).bind finK) := by
  unfold runF
  congr 1
theorem fk_r (d : D) : finK (.ret d) = .ok d := rfl
theorem fk_n (env : Env) : finK (.next env) = .ok .none := rfl
theorem stE (n : Nat) (ds : List D) : startE n ds = ds.map (fun d => some (.val d)) ++ List.replicate (n - ds.length) none := rfl
theorem addO_s (x : D) (r : List D) : addO (some x) r = x :: r := rfl
theorem addO_n (r : List D) : addO none r = r := rfl
theorem fz (n : Nat) (h : n ≤ 16777216) : fitsZ n = true := decide_eq_true h
theorem sm (i : Int) (h1 : -(2 ^ 64) < i) (h2 : i < 2 ^ 64) : small64 i = true := by
  unfold small64
  rw [decide_eq_true h1, decide_eq_true h2]; rfl
/-- a range from 0 -/
theorem rg0 (n : Nat) (h : n ≤ 16777216) : rangeD 0 n = .ok ((List.range n).map fun i => .int (i : Nat)) := by
  unfold rangeD
  have e : ((n : Int) - 0).toNat = n := by omega
  rw [e, decide_eq_true (show (-(2 ^ 62) : Int) ≤ 0 by decide), decide_eq_true (show (0 : Int) < 2 ^ 62 by decide), decide_eq_true (show (-(2 ^ 62) : Int) ≤ (n : Int) by omega), decide_eq_true (show (n : Int) < 2 ^ 62 by omega), fz n h]
  show Res.ok _ = _
  congr 2
  funext i
  rw [Int.zero_add]
end
end MW

set_option maxRecDepth 100000
/-! Part 4a: words, makers, places, in plain Lean. -/
namespace MW
open PySem PySem.Spec PyProof.Rows L2
open Res
def ofL (l : List Nat) : Str := ⟨l.toArray⟩
theorem ofL_inj {a b : List Nat} (h : ofL a = ofL b) : a = b := by
  have e : a.toArray = b.toArray := congrArg Str.cps h
  simpa using e
theorem ofL_len (a : List Nat) : (ofL a).length = a.length := rfl
theorem ofL_app (a b : List Nat) : ofL a ++ ofL b = ofL (a ++ b) := by
  show Str.mk (a.toArray ++ b.toArray) = _
  rw [List.append_toArray]
  rfl
theorem ofL_cps (a : List Nat) : (ofL a).cps.toList = a := rfl
theorem ofL_of (s : Str) : ofL s.cps.toList = s := rfl
theorem cut_l (a : List Nat) (lo hi : Option Int) : cutStr (ofL a) lo hi = ofL (cutD a lo hi) := rfl
theorem cut_h {α : Type} (c : α) (r : List α) : cutD (c :: r) none (some 1) = [c] := by
  unfold cutD
  rw [show HT.sIx (c :: r).length 0 none = 0 from rfl, show HT.sIx (c :: r).length (c :: r).length (some 1) = min 1 (c :: r).length from HT.sIx_nat _ _ 1]
  rw [List.length_cons, show min 1 (r.length + 1) - 0 = 1 by omega]
  rfl
theorem cut_h0 {α : Type} : cutD ([] : List α) none (some 1) = [] := rfl
theorem cut_t {α : Type} (c : α) (r : List α) : cutD (c :: r) (some 1) none = r := by
  unfold cutD
  rw [show HT.sIx (c :: r).length (c :: r).length none = (c :: r).length from rfl, show HT.sIx (c :: r).length 0 (some 1) = min 1 (c :: r).length from HT.sIx_nat _ _ 1]
  rw [List.length_cons, show min 1 (r.length + 1) = 1 by omega]
  show List.take _ r = r
  rw [List.take_of_length_le (by omega)]
/-- a sign of a leaf -/
def Sg (s : Str) : Prop := ∃ c : Nat, s = ofL [c] ∧ 33 ≤ c ∧ c < 127
theorem Sg.ok {s : Str} (h : Sg s) : PyData.strOk s = true := by
  obtain ⟨c, rfl, h1, h2⟩ := h
  unfold PyData.strOk
  simp [ofL]
  omega
theorem Sg.cut {s : Str} (h : Sg s) : cutStr s none (some 1) = s := by
  obtain ⟨c, rfl, _, _⟩ := h
  rw [cut_l, cut_h]
theorem Sg.len {s : Str} (h : Sg s) : s.length = 1 := by
  obtain ⟨c, rfl, _, _⟩ := h
  rfl

inductive Wd where
  | lf (s : Str)
  | ap (f a : Wd)
  deriving DecidableEq
namespace Wd
def toD : Wd → D
  | .lf s => .str s
  | .ap f a => .tuple [f.toD, a.toD]
/-- how many leaves -/
def size : Wd → Nat
  | .lf _ => 1
  | .ap f a => f.size + a.size
def dep : Wd → Nat
  | .lf _ => 0
  | .ap f a => max f.dep a.dep + 1
def hd : Wd → Str
  | .lf s => s
  | .ap f _ => f.hd
def args : Wd → List Wd
  | .lf _ => []
  | .ap f a => f.args ++ [a]
def All (P : Str → Prop) : Wd → Prop
  | .lf s => P s
  | .ap f a => f.All P ∧ a.All P
def lvs : Wd → List Str
  | .lf s => [s]
  | .ap f a => f.lvs ++ a.lvs
theorem All.mono {P Q : Str → Prop} (h : ∀ s, P s → Q s) : ∀ {w : Wd}, w.All P → w.All Q
  | .lf s, q => h s q
  | .ap _ _, q => ⟨All.mono h q.1, All.mono h q.2⟩
theorem size_pos : ∀ w : Wd, 0 < w.size
  | .lf _ => Nat.one_pos
  | .ap f a => by have := f.size_pos; show 0 < f.size + a.size; omega
theorem dep_lt : ∀ w : Wd, w.dep < w.size
  | .lf _ => Nat.one_pos
  | .ap f a => by
    have h1 := f.dep_lt
    have h2 := a.dep_lt
    have h3 := f.size_pos
    have h4 := a.size_pos
    show max f.dep a.dep + 1 < f.size + a.size
    omega
theorem args_le : ∀ w : Wd, w.args.length ≤ w.dep
  | .lf _ => Nat.le_refl 0
  | .ap f a => by
    have h1 := f.args_le
    show (f.args ++ [a]).length ≤ max f.dep a.dep + 1
    rw [List.length_append, List.length_singleton]
    omega
theorem args_dep : ∀ (w : Wd) (x : Wd), x ∈ w.args → x.dep < w.dep
  | .lf _, x, h => by cases h
  | .ap f a, x, h => by
    show x.dep < max f.dep a.dep + 1
    rcases List.mem_append.mp h with h | h
    · have := f.args_dep x h; omega
    · rw [List.mem_singleton.mp h]; omega
theorem hd_all {P : Str → Prop} : ∀ {w : Wd}, w.All P → P w.hd
  | .lf _, h => h
  | .ap f _, h => hd_all (w := f) h.1
theorem args_all {P : Str → Prop} : ∀ {w : Wd}, w.All P → ∀ x ∈ w.args, x.All P
  | .lf _, _, _, h => by cases h
  | .ap _ _, h, x, hx => by
    rcases List.mem_append.mp hx with q | q
    · exact args_all h.1 x q
    · rw [List.mem_singleton.mp q]; exact h.2
theorem toD_dep : ∀ w : Wd, w.toD.depth = w.dep
  | .lf _ => rfl
  | .ap f a => by
    show max f.toD.depth (max a.toD.depth 0) + 1 = max f.dep a.dep + 1
    rw [toD_dep f, toD_dep a, Nat.max_zero]
theorem toD_ok : ∀ {w : Wd}, w.All Sg → w.toD.canLay0 = true
  | .lf _, h => h.ok
  | .ap f a, h => by
    show (f.toD.canLay0 && (a.toD.canLay0 && true)) = true
    rw [toD_ok h.1, toD_ok h.2]; rfl
theorem toD_eqv : ∀ w v : Wd, PyData.eqv w.toD v.toD = decide (w = v)
  | .lf s, .lf t => by
    show (s == t) = _
    by_cases h : s = t
    · rw [h, decide_eq_true rfl, beq_self_eq_true]
    · rw [decide_eq_false (fun e => h (Wd.lf.inj e))]
      exact beq_eq_false_iff_ne.mpr h
  | .lf s, .ap f a => by rw [decide_eq_false (fun e => by cases e)]; rfl
  | .ap f a, .lf s => by rw [decide_eq_false (fun e => by cases e)]; rfl
  | .ap f a, .ap g b => by
    show (PyData.eqv f.toD g.toD && (PyData.eqv a.toD b.toD && true)) = _
    rw [toD_eqv f g, toD_eqv a b, Bool.and_true]
    by_cases h1 : f = g
    · by_cases h2 : a = b
      · rw [h1, h2]; simp
      · rw [decide_eq_false h2, Bool.and_false, decide_eq_false (fun e => h2 (Wd.ap.inj e).2)]
    · rw [decide_eq_false h1, Bool.false_and, decide_eq_false (fun e => h1 (Wd.ap.inj e).1)]
theorem eqD_w {w v : Wd} (hw : w.All Sg) (hv : v.All Sg) (h : w.dep ≤ 150) : eqD w.toD v.toD = .ok (.bool (decide (w = v))) := by
  unfold eqD eqOk
  rw [toD_ok hw, toD_ok hv, toD_dep, decide_eq_true (show w.dep ≤ lim from h), toD_eqv]
  rfl
theorem neD_w {w v : Wd} (hw : w.All Sg) (hv : v.All Sg) (h : w.dep ≤ 150) : neD w.toD v.toD = .ok (.bool (!decide (w = v))) := by
  unfold neD eqOk
  rw [toD_ok hw, toD_ok hv, toD_dep, decide_eq_true (show w.dep ≤ lim from h), toD_eqv]
  rfl
theorem toD_inj {w v : Wd} (h : w.toD = v.toD) : w = v := by
  have e := toD_eqv w v
  have e2 := toD_eqv v v
  rw [h, e2, decide_eq_true rfl] at e
  exact of_decide_eq_true e.symm
theorem noneF (w : Wd) : isNone w.toD = false := by cases w <;> rfl
end Wd

/-- a deed -/
inductive Dd where
  | v (i : Nat)
  | p (a b : Dd)
namespace Dd
def toD : Dd → D
  | .v i => .int (i : Nat)
  | .p a b => .tuple [a.toD, b.toD]
def bd (n : Nat) : Dd → Prop
  | .v i => i < n
  | .p a b => a.bd n ∧ b.bd n
def size : Dd → Nat
  | .v _ => 1
  | .p a b => a.size + b.size
def dep : Dd → Nat
  | .v _ => 0
  | .p a b => max a.dep b.dep + 1
/-- done with things -/
def act (bs : List Wd) : Dd → Wd
  | .v i => bs.getD i (.lf (ofL []))
  | .p a b => .ap (a.act bs) (b.act bs)
theorem size_pos : ∀ w : Dd, 0 < w.size
  | .v _ => Nat.one_pos
  | .p f a => by have := f.size_pos; show 0 < f.size + a.size; omega
theorem dep_lt : ∀ w : Dd, w.dep < w.size
  | .v _ => Nat.one_pos
  | .p f a => by
    have h1 := f.dep_lt
    have h2 := a.dep_lt
    have h3 := f.size_pos
    have h4 := a.size_pos
    show max f.dep a.dep + 1 < f.size + a.size
    omega
theorem act_all {P : Str → Prop} {bs : List Wd} (hb : ∀ x ∈ bs, x.All P) : ∀ {d : Dd}, d.bd bs.length → (d.act bs).All P
  | .v i, h => by
    have e : bs.getD i (.lf (ofL [])) = bs[i] := by rw [List.getD_eq_getElem?_getD, List.getElem?_eq_getElem h]; rfl
    show (bs.getD i (.lf (ofL []))).All P
    rw [e]
    exact hb _ (List.getElem_mem h)
  | .p a b, h => ⟨act_all hb h.1, act_all hb h.2⟩
theorem act_dep {bs : List Wd} {n : Nat} (hb : ∀ x ∈ bs, x.dep ≤ n) : ∀ {d : Dd}, d.bd bs.length → (d.act bs).dep ≤ n + d.dep
  | .v i, h => by
    have e : bs.getD i (.lf (ofL [])) = bs[i] := by rw [List.getD_eq_getElem?_getD, List.getElem?_eq_getElem h]; rfl
    show (bs.getD i (.lf (ofL []))).dep ≤ _
    rw [e]
    have := hb _ (List.getElem_mem h)
    omega
  | .p a b, h => by
    have h1 := act_dep hb h.1
    have h2 := act_dep hb h.2
    show max (a.act bs).dep (b.act bs).dep + 1 ≤ n + (max a.dep b.dep + 1)
    omega
theorem act_size {bs : List Wd} {n : Nat} (hb : ∀ x ∈ bs, x.size ≤ n) : ∀ {d : Dd}, d.bd bs.length → (d.act bs).size ≤ n * d.size
  | .v i, h => by
    have e : bs.getD i (.lf (ofL [])) = bs[i] := by rw [List.getD_eq_getElem?_getD, List.getElem?_eq_getElem h]; rfl
    show (bs.getD i (.lf (ofL []))).size ≤ n * 1
    rw [e, Nat.mul_one]
    exact hb _ (List.getElem_mem h)
  | .p a b, h => by
    have h1 := act_size hb h.1
    have h2 := act_size hb h.2
    show (a.act bs).size + (b.act bs).size ≤ n * (a.size + b.size)
    rw [Nat.mul_add]
    omega
end Dd

structure Mk where
  nm : Str
  many : Nat
  deed : Dd
def Mk.toD (m : Mk) : D := .tuple [.str m.nm, .int (m.many : Nat), m.deed.toD]
def msD (ms : List Mk) : D := .tuple (ms.map Mk.toD)
/-- a maker's name: a great letter -/
def Gt (s : Str) : Prop := ∃ c : Nat, s = ofL [c] ∧ 65 ≤ c ∧ c ≤ 90
theorem Gt.sg {s : Str} (h : Gt s) : Sg s := by
  obtain ⟨c, e, h1, h2⟩ := h
  exact ⟨c, e, by omega, by omega⟩
structure MkOk (m : Mk) : Prop where
  nm : Gt m.nm
  lo : 1 ≤ m.many
  hi : m.many ≤ 4
  bd : m.deed.bd m.many
  sz : m.deed.size ≤ 4
structure MsOk (ms : List Mk) : Prop where
  ok : ∀ m ∈ ms, MkOk m
  nd : (ms.map Mk.nm).Nodup
  lo : 1 ≤ ms.length
  hi : ms.length ≤ 5
def fnd (ms : List Mk) (s : Str) : Option Mk := ms.find? fun m => m.nm == s
def bkD (ms : List Mk) : D := .dict (ms.map fun m => (.str m.nm, .tuple [.int (m.many : Nat), m.deed.toD]))
theorem fnd_mem {ms : List Mk} {s : Str} {m : Mk} (h : fnd ms s = some m) : m ∈ ms ∧ m.nm = s := ⟨List.mem_of_find?_eq_some h, by simpa using List.find?_some h⟩
theorem get_bk : ∀ (ms : List Mk) (s : Str), dictGet (ms.map fun m => (.str m.nm, .tuple [.int (m.many : Nat), m.deed.toD])) (.inr s) = (fnd ms s).map fun m => .tuple [.int (m.many : Nat), m.deed.toD]
  | [], s => rfl
  | m :: r, s => by
    show (if (Sum.inr m.nm : Key) = .inr s then some _ else dictGet _ _) = (List.find? _ (m :: r)).map _
    rw [List.find?_cons]
    by_cases h : m.nm = s
    · rw [if_pos (by rw [h]), h, beq_self_eq_true]; rfl
    · rw [if_neg (fun e => h (Sum.inr.inj e)), beq_eq_false_iff_ne.mpr h]
      exact get_bk r s
/-- the deed that is done here, if any -/
def can (ms : List Mk) (w : Wd) : Option Mk := match fnd ms w.hd with
  | some m => if m.many = w.args.length then some m else none
  | none => none
def canB (ms : List Mk) (w : Wd) : Bool := (can ms w).isSome
theorem can_spec {ms : List Mk} {w : Wd} {m : Mk} (h : can ms w = some m) : m ∈ ms ∧ m.nm = w.hd ∧ m.many = w.args.length := by
  unfold can at h
  cases q : fnd ms w.hd with
  | none => rw [q] at h; cases h
  | some m' =>
    rw [q] at h
    dsimp only at h
    by_cases e : m'.many = w.args.length
    · rw [if_pos e] at h
      cases h
      exact ⟨(fnd_mem q).1, (fnd_mem q).2, e⟩
    · rw [if_neg e] at h; cases h
theorem can_lf {ms : List Mk} (h : MsOk ms) (s : Str) : can ms (.lf s) = none := by
  cases q : can ms (.lf s) with
  | none => rfl
  | some m =>
    have ⟨a, _, c⟩ := can_spec q
    have d := (h.ok m a).lo
    rw [c] at d
    exact absurd d (show ¬ 1 ≤ 0 by decide)
/-- places: true leads into the first part -/
abbrev Pl := List Bool
def plL (p : Pl) : List Nat := p.map fun b => if b then 102 else 98
def plS (p : Pl) : Str := ofL (plL p)
theorem plS_inj {p q : Pl} (h : plS p = plS q) : p = q := by
  have e := ofL_inj h
  exact (List.map_inj_right (fun a b z => by cases a <;> cases b <;> first | rfl | cases z)).mp e
theorem plL_app (p q : Pl) : plL (p ++ q) = plL p ++ plL q := List.map_append
theorem plS_app (p q : Pl) : plS p ++ plS q = plS (p ++ q) := by
  unfold plS
  rw [ofL_app, plL_app]
theorem plS_len (p : Pl) : (plS p).length = p.length := by
  show (plL p).toArray.size = _
  rw [List.size_toArray, plL, List.length_map]
theorem plS_ok (p : Pl) (h : p.length ≤ 1000) : PyData.strOk (plS p) = true := by
  unfold PyData.strOk
  have e : (plS p).cps.toList = plL p := rfl
  simp only [plS, ofL, plL]
  simp
def own (ms : List Mk) (w : Wd) : List Pl := match can ms w with
  | some _ => [[]]
  | none => []
def plcs (ms : List Mk) : Wd → List Pl
  | .lf s => own ms (.lf s)
  | .ap f a => own ms (.ap f a) ++ (plcs ms f).map (true :: ·) ++ (plcs ms a).map (false :: ·)
def fst (ms : List Mk) : Wd → Option Pl
  | .lf s => match can ms (.lf s) with
    | some _ => some []
    | none => none
  | .ap f a => match can ms (.ap f a) with
    | some _ => some []
    | none => match fst ms f with
      | some p => some (true :: p)
      | none => match fst ms a with
        | some p => some (false :: p)
        | none => none
theorem fst_none (ms : List Mk) : ∀ w : Wd, fst ms w = none ↔ plcs ms w = []
  | .lf s => by
    unfold fst plcs own
    cases can ms (.lf s) <;> simp
  | .ap f a => by
    have h1 := fst_none ms f
    have h2 := fst_none ms a
    unfold fst plcs own
    cases can ms (.ap f a) with
    | some m => simp
    | none =>
      cases q1 : fst ms f with
      | some p =>
        have : plcs ms f ≠ [] := fun e => by rw [h1.mpr e] at q1; cases q1
        simp [this]
      | none =>
        cases q2 : fst ms a with
        | some p =>
          have : plcs ms a ≠ [] := fun e => by rw [h2.mpr e] at q2; cases q2
          simp [this]
        | none => simp [h1.mp q1, h2.mp q2]
theorem plcs_len (ms : List Mk) : ∀ w : Wd, (plcs ms w).length + 1 ≤ w.size + w.size
  | .lf s => by
    unfold plcs own
    cases can ms (.lf s) <;> simp [Wd.size]
  | .ap f a => by
    have h1 := plcs_len ms f
    have h2 := plcs_len ms a
    have h3 := f.size_pos
    unfold plcs own
    show _ + 1 ≤ (f.size + a.size) + (f.size + a.size)
    cases can ms (.ap f a) <;> simp
    · omega
    · omega
theorem plcs_dep (ms : List Mk) : ∀ (w : Wd) (p : Pl), p ∈ plcs ms w → p.length ≤ w.dep
  | .lf s, p, h => by
    unfold plcs own at h
    cases q : can ms (.lf s) <;> rw [q] at h
    · cases h
    · rw [List.mem_singleton.mp h]; exact Nat.le_refl 0
  | .ap f a, p, h => by
    unfold plcs own at h
    show p.length ≤ max f.dep a.dep + 1
    rw [List.append_assoc] at h
    rcases List.mem_append.mp h with h | h
    · cases q : can ms (.ap f a) <;> rw [q] at h
      · cases h
      · rw [List.mem_singleton.mp h]; exact Nat.zero_le _
    · rcases List.mem_append.mp h with h | h
      · obtain ⟨r, h1, rfl⟩ := List.mem_map.mp h
        have := plcs_dep ms f r h1
        rw [List.length_cons]; omega
      · obtain ⟨r, h1, rfl⟩ := List.mem_map.mp h
        have := plcs_dep ms a r h1
        rw [List.length_cons]; omega
theorem fst_dep (ms : List Mk) : ∀ (w : Wd) (p : Pl), fst ms w = some p → p.length ≤ w.dep
  | .lf s, p, h => by
    unfold fst at h
    cases q : can ms (.lf s) <;> rw [q] at h <;> cases h
    exact Nat.le_refl 0
  | .ap f a, p, h => by
    have h1 := fst_dep ms f
    have h2 := fst_dep ms a
    unfold fst at h
    show p.length ≤ max f.dep a.dep + 1
    cases q : can ms (.ap f a) <;> rw [q] at h
    · dsimp only at h
      cases q1 : fst ms f with
      | some r =>
        rw [q1] at h; cases h
        have := h1 r q1
        rw [List.length_cons]; omega
      | none =>
        rw [q1] at h
        dsimp only at h
        cases q2 : fst ms a with
        | some r =>
          rw [q2] at h; cases h
          have := h2 r q2
          rw [List.length_cons]; omega
        | none => rw [q2] at h; cases h
    · cases h; exact Nat.zero_le _
/-! sorting -/
theorem strsOf_map (xs : List Str) : strsOf (xs.map .str) = some xs := by
  induction xs with
  | nil => rfl
  | cons x r ih =>
    show (strsOf (r.map .str)).map (x :: ·) = _
    rw [ih]; rfl
theorem sorted_str (xs : List Str) : sortedD (xs.map .str) = .ok (.list ((sortS xs).map .str)) := by
  unfold sortedD
  rw [strsOf_map]
theorem lt_irr (a : List Nat) : ltCps a a = false := by
  induction a with
  | nil => rfl
  | cons x r ih => show (decide (x < x) || (x == x && ltCps r r)) = false; simp [ih]
theorem lt_tri : ∀ a b : List Nat, ltCps a b = false → ltCps b a = false → a = b
  | [], [], _, _ => rfl
  | [], _ :: _, h, _ => by cases h
  | _ :: _, [], _, h => by cases h
  | x :: r, y :: t, h1, h2 => by
    unfold ltCps at h1 h2
    simp at h1 h2
    have e : x = y := by omega
    subst e
    rw [lt_tri r t (by simpa using h1) (by simpa using h2)]
theorem lt_asym : ∀ a b : List Nat, ltCps a b = true → ltCps b a = false
  | [], [], h => by cases h
  | [], _ :: _, _ => rfl
  | _ :: _, [], h => by cases h
  | x :: r, y :: t, h => by
    unfold ltCps at h ⊢
    simp at h ⊢
    rcases h with h | ⟨h, q⟩
    · exact ⟨by omega, fun e => by omega⟩
    · exact ⟨by omega, fun _ => lt_asym r t q⟩
theorem lt_trans : ∀ a b c : List Nat, ltCps a b = true → ltCps b c = true → ltCps a c = true
  | [], [], _, h, _ => by cases h
  | [], _ :: _, [], _, h => by cases h
  | [], _ :: _, _ :: _, _, _ => rfl
  | _ :: _, [], _, h, _ => by cases h
  | _ :: _, _ :: _, [], _, h => by cases h
  | x :: r, y :: t, z :: u, h1, h2 => by
    unfold ltCps at h1 h2 ⊢
    simp at h1 h2 ⊢
    rcases h1 with h1 | ⟨h1, q1⟩ <;> rcases h2 with h2 | ⟨h2, q2⟩
    · left; omega
    · left; omega
    · left; omega
    · right; exact ⟨by omega, lt_trans r t u q1 q2⟩
abbrev ltS (x y : Str) : Bool := ltCps x.cps.toList y.cps.toList
theorem ltS_tri (x y : Str) (h1 : ltS x y = false) (h2 : ltS y x = false) : x = y := by
  have := lt_tri _ _ h1 h2
  rw [← ofL_of x, ← ofL_of y, this]
theorem ins_comm (x y : Str) : ∀ l : List Str, insS x (insS y l) = insS y (insS x l)
  | [] => by
    show (if ltS y x then _ else _) = (if ltS x y then _ else _)
    cases h1 : ltS y x with
    | true =>
      rw [show ltS x y = false from lt_asym _ _ h1]; rfl
    | false =>
      cases h2 : ltS x y with
      | true => rfl
      | false => rw [ltS_tri x y h2 h1]
  | z :: r => by
    have ih := ins_comm x y r
    show insS x (if ltS z y then _ else _) = insS y (if ltS z x then _ else _)
    cases hy : ltS z y with
    | true =>
      cases hx : ltS z x with
      | true =>
        show (if ltS z x then _ else _) = (if ltS z y then _ else _)
        rw [hx, hy]
        show z :: insS x (insS y r) = z :: insS y (insS x r)
        rw [ih]
      | false =>
        show (if ltS z x then _ else _) = (if ltS x y then _ else _)
        have hxy : ltS x y = true := by
          cases q : ltS x z with
          | true => exact lt_trans _ _ _ q hy
          | false => rw [ltS_tri x z q hx]; exact hy
        rw [hx, hxy]
        show x :: z :: insS y r = x :: (if ltS z y then _ else _)
        rw [hy]; rfl
    | false =>
      cases hx : ltS z x with
      | true =>
        show (if ltS y x then _ else _) = (if ltS z y then _ else _)
        have hyx : ltS y x = true := by
          cases q : ltS y z with
          | true => exact lt_trans _ _ _ q hx
          | false => rw [ltS_tri y z q hy]; exact hx
        rw [hy, hyx]
        show y :: (if ltS z x then _ else _) = y :: z :: insS x r
        rw [hx]; rfl
      | false =>
        show (if ltS y x then _ else _) = (if ltS x y then _ else _)
        cases h1 : ltS y x with
        | true =>
          rw [show ltS x y = false from lt_asym _ _ h1]
          show y :: (if ltS z x then _ else _) = y :: x :: z :: r
          rw [hx]; rfl
        | false =>
          cases h2 : ltS x y with
          | true =>
            show x :: y :: z :: r = x :: (if ltS z y then _ else _)
            rw [hy]; rfl
          | false => rw [ltS_tri x y h2 h1]
theorem sort_perm {a b : List Str} (h : a.Perm b) : sortS a = sortS b := by
  induction h with
  | nil => rfl
  | cons x _ ih => show insS x (sortS _) = insS x (sortS _); rw [ih]
  | swap x y l => exact ins_comm y x (sortS l)
  | trans _ _ i1 i2 => exact i1.trans i2
theorem ins_is (x : Str) : ∀ l : List Str, (insS x l).Perm (x :: l)
  | [] => List.Perm.refl _
  | y :: r => by
    show (if ltS y x then _ else _ : List Str).Perm _
    cases ltS y x with
    | true => exact ((ins_is x r).cons y).trans (List.Perm.swap x y r)
    | false => exact List.Perm.refl _
theorem sort_is : ∀ l : List Str, (sortS l).Perm l
  | [] => List.Perm.refl _
  | x :: r => (ins_is x (sortS r)).trans ((sort_is r).cons x)
theorem sort_len (l : List Str) : (sortS l).length = l.length := (sort_is l).length_eq
def plsS (ms : List Mk) (w : Wd) : List Str := sortS ((plcs ms w).map plS)
end MW

set_option maxRecDepth 100000
/-! Part 4b: steps, runs, in plain Lean. -/
namespace MW
open PySem PySem.Spec PyProof.Rows L2
open Res
def stp (ms : List Mk) : Wd → Pl → Option Wd
  | w, [] => (can ms w).map fun m => m.deed.act w.args
  | .ap f a, true :: p => (stp ms f p).map fun f' => .ap f' a
  | .ap f a, false :: p => (stp ms a p).map fun a' => .ap f a'
  | .lf _, _ :: _ => none
theorem stp_nil (ms : List Mk) (w : Wd) : stp ms w [] = (can ms w).map fun m => m.deed.act w.args := by
  cases w <;> rfl
theorem mem_plcs (ms : List Mk) : ∀ (w : Wd) (p : Pl), p ∈ plcs ms w ↔ (stp ms w p).isSome = true
  | .lf s, p => by
    unfold plcs own
    cases p with
    | nil => rw [stp_nil]; cases can ms (.lf s) <;> simp
    | cons b r => cases can ms (.lf s) <;> simp [stp]
  | .ap f a, p => by
    have h1 := mem_plcs ms f
    have h2 := mem_plcs ms a
    unfold plcs own
    cases p with
    | nil => rw [stp_nil]; cases can ms (.ap f a) <;> simp
    | cons b r =>
      cases b with
      | true =>
        show _ ↔ ((stp ms f r).map fun f' => Wd.ap f' a).isSome = true
        rw [Option.isSome_map, ← h1 r]
        cases can ms (.ap f a) <;> simp
      | false =>
        show _ ↔ ((stp ms a r).map fun f' => Wd.ap f f').isSome = true
        rw [Option.isSome_map, ← h2 r]
        cases can ms (.ap f a) <;> simp
theorem fst_mem (ms : List Mk) : ∀ (w : Wd) (p : Pl), fst ms w = some p → p ∈ plcs ms w
  | .lf s, p, h => by
    unfold fst at h
    unfold plcs own
    cases q : can ms (.lf s) <;> rw [q] at h <;> cases h
    exact List.mem_singleton.mpr rfl
  | .ap f a, p, h => by
    have h1 := fst_mem ms f
    have h2 := fst_mem ms a
    unfold fst at h
    unfold plcs own
    cases q : can ms (.ap f a) <;> rw [q] at h
    · dsimp only at h
      cases q1 : fst ms f with
      | some r =>
        rw [q1] at h; cases h
        simp [h1 r q1]
      | none =>
        rw [q1] at h
        dsimp only at h
        cases q2 : fst ms a with
        | some r =>
          rw [q2] at h; cases h
          simp [h2 r q2]
        | none => rw [q2] at h; cases h
    · cases h; simp
/-- what a step keeps -/
theorem stp_all {P : Str → Prop} {ms : List Mk} (hm : ∀ m ∈ ms, MkOk m) : ∀ {w : Wd} {p : Pl} {w' : Wd}, w.All P → stp ms w p = some w' → w'.All P
  | w, [], w', h, e => by
    rw [stp_nil] at e
    cases q : can ms w with
    | none => rw [q] at e; cases e
    | some m =>
      rw [q] at e; cases e
      have ⟨a, _, c⟩ := can_spec q
      exact Dd.act_all (Wd.args_all h) (c ▸ (hm m a).bd)
  | .lf s, _ :: _, _, _, e => by simp [stp] at e
  | .ap f a, true :: p, w', h, e => by
    have e' : (stp ms f p).map (fun f' => Wd.ap f' a) = some w' := e
    cases q : stp ms f p with
    | none => rw [q] at e'; cases e'
    | some f' => rw [q] at e'; cases e'; exact ⟨stp_all hm h.1 q, h.2⟩
  | .ap f a, false :: p, w', h, e => by
    have e' : (stp ms a p).map (fun f' => Wd.ap f f') = some w' := e
    cases q : stp ms a p with
    | none => rw [q] at e'; cases e'
    | some f' => rw [q] at e'; cases e'; exact ⟨h.1, stp_all hm h.2 q⟩
theorem stp_dep {ms : List Mk} (hm : ∀ m ∈ ms, MkOk m) : ∀ {w : Wd} {p : Pl} {w' : Wd}, stp ms w p = some w' → w'.dep ≤ w.dep + 2
  | w, [], w', e => by
    rw [stp_nil] at e
    cases q : can ms w with
    | none => rw [q] at e; cases e
    | some m =>
      rw [q] at e; cases e
      have ⟨a, _, c⟩ := can_spec q
      have o := hm m a
      have h1 := Dd.act_dep (bs := w.args) (n := w.dep - 1) (fun x hx => by have := w.args_dep x hx; omega) (c ▸ o.bd)
      have h2 := m.deed.dep_lt
      have h3 := o.sz
      have h4 := w.args_le
      have h5 := o.lo
      show (m.deed.act w.args).dep ≤ w.dep + 2
      omega
  | .lf s, _ :: _, _, e => by simp [stp] at e
  | .ap f a, true :: p, w', e => by
    have e' : (stp ms f p).map (fun f' => Wd.ap f' a) = some w' := e
    cases q : stp ms f p with
    | none => rw [q] at e'; cases e'
    | some f' =>
      rw [q] at e'; cases e'
      have := stp_dep hm q
      show max f'.dep a.dep + 1 ≤ max f.dep a.dep + 1 + 2
      omega
  | .ap f a, false :: p, w', e => by
    have e' : (stp ms a p).map (fun f' => Wd.ap f f') = some w' := e
    cases q : stp ms a p with
    | none => rw [q] at e'; cases e'
    | some f' =>
      rw [q] at e'; cases e'
      have := stp_dep hm q
      show max f.dep f'.dep + 1 ≤ max f.dep a.dep + 1 + 2
      omega
theorem args_size : ∀ (w : Wd) (x : Wd), x ∈ w.args → x.size ≤ w.size
  | .lf _, x, h => by cases h
  | .ap f a, x, h => by
    show x.size ≤ f.size + a.size
    rcases List.mem_append.mp h with h | h
    · have := args_size f x h; omega
    · rw [List.mem_singleton.mp h]; omega
theorem stp_size {ms : List Mk} (hm : ∀ m ∈ ms, MkOk m) : ∀ {w : Wd} {p : Pl} {w' : Wd}, stp ms w p = some w' → w'.size ≤ w.size * 4
  | w, [], w', e => by
    rw [stp_nil] at e
    cases q : can ms w with
    | none => rw [q] at e; cases e
    | some m =>
      rw [q] at e; cases e
      have ⟨a, _, c⟩ := can_spec q
      have o := hm m a
      have h1 := Dd.act_size (bs := w.args) (n := w.size) (fun x hx => args_size w x hx) (c ▸ o.bd)
      exact Nat.le_trans h1 (Nat.mul_le_mul (Nat.le_refl _) o.sz)
  | .lf s, _ :: _, _, e => by simp [stp] at e
  | .ap f a, true :: p, w', e => by
    have e' : (stp ms f p).map (fun f' => Wd.ap f' a) = some w' := e
    cases q : stp ms f p with
    | none => rw [q] at e'; cases e'
    | some f' =>
      rw [q] at e'; cases e'
      have := stp_size hm q
      show f'.size + a.size ≤ (f.size + a.size) * 4
      omega
  | .ap f a, false :: p, w', e => by
    have e' : (stp ms a p).map (fun f' => Wd.ap f f') = some w' := e
    cases q : stp ms a p with
    | none => rw [q] at e'; cases e'
    | some f' =>
      rw [q] at e'; cases e'
      have := stp_size hm q
      show f.size + f'.size ≤ (f.size + a.size) * 4
      omega
theorem stp_len {ms : List Mk} {w : Wd} {p : Pl} {w' : Wd} (h : stp ms w p = some w') : p.length ≤ w.dep := plcs_dep ms w p ((mem_plcs ms w p).mpr (by rw [h]; rfl))
/-- first steps -/
def nx (ms : List Mk) (w : Wd) : Option Wd := (fst ms w).bind (stp ms w)
theorem nx_none {ms : List Mk} {w : Wd} : nx ms w = none ↔ fst ms w = none := by
  unfold nx
  cases q : fst ms w with
  | none => simp
  | some p =>
    have h := (mem_plcs ms w p).mp (fst_mem ms w p q)
    show stp ms w p = none ↔ _
    cases z : stp ms w p with
    | none => rw [z] at h; cases h
    | some _ => simp
theorem nx_some {ms : List Mk} {w : Wd} {p : Pl} (h : fst ms w = some p) : ∃ w', stp ms w p = some w' ∧ nx ms w = some w' := by
  have q := (mem_plcs ms w p).mp (fst_mem ms w p h)
  cases z : stp ms w p with
  | none => rw [z] at q; cases q
  | some w' => exact ⟨w', rfl, by unfold nx; rw [h]; exact z⟩
def runL (ms : List Mk) : Nat → Wd → List Wd
  | 0, w => [w]
  | n + 1, w => match nx ms w with
    | none => [w]
    | some w' => w :: runL ms n w'
theorem runL_none {ms : List Mk} {w : Wd} (h : nx ms w = none) (n : Nat) : runL ms n w = [w] := by
  cases n with
  | zero => rfl
  | succ n => unfold runL; rw [h]
theorem runL_some {ms : List Mk} {w w' : Wd} (h : nx ms w = some w') (n : Nat) : runL ms (n + 1) w = w :: runL ms n w' := by
  show (match nx ms w with | none => [w] | some w' => w :: runL ms n w') = _
  rw [h]
theorem runL_ne (ms : List Mk) (n : Nat) (w : Wd) : ∃ r, runL ms n w = w :: r := by
  cases n with
  | zero => exact ⟨[], rfl⟩
  | succ n =>
    cases h : nx ms w with
    | none => exact ⟨[], runL_none h _⟩
    | some w' => exact ⟨_, runL_some h n⟩
theorem runL_len (ms : List Mk) : ∀ (n : Nat) (w : Wd), (runL ms n w).length ≤ n + 1
  | 0, w => Nat.le_refl _
  | n + 1, w => by
    cases h : nx ms w with
    | none => rw [runL_none h]; simp
    | some w' => rw [runL_some h]; have := runL_len ms n w'; rw [List.length_cons]; omega
theorem runL_ok {P : Str → Prop} {ms : List Mk} (hm : ∀ m ∈ ms, MkOk m) : ∀ (n : Nat) (w : Wd), w.All P → ∀ x ∈ runL ms n w, x.All P ∧ x.dep ≤ w.dep + 2 * n ∧ x.size ≤ w.size * 4 ^ n
  | 0, w, h, x, hx => by
    rw [List.mem_singleton.mp hx]
    exact ⟨h, by omega, by omega⟩
  | n + 1, w, h, x, hx => by
    cases q : nx ms w with
    | none =>
      rw [runL_none q, List.mem_singleton] at hx
      rw [hx]
      refine ⟨h, by omega, ?_⟩
      exact Nat.le_mul_of_pos_right _ (Nat.pow_pos (by decide))
    | some w' =>
      rw [runL_some q] at hx
      obtain ⟨p, _, s⟩ : ∃ p, fst ms w = some p ∧ stp ms w p = some w' := by
        unfold nx at q
        cases z : fst ms w with
        | none => rw [z] at q; cases q
        | some p => rw [z] at q; exact ⟨p, rfl, q⟩
      rcases List.mem_cons.mp hx with rfl | hx
      · refine ⟨h, by omega, ?_⟩
        exact Nat.le_mul_of_pos_right _ (Nat.pow_pos (by decide))
      · have ⟨a, b, c⟩ := runL_ok hm n w' (stp_all hm h s) x hx
        have d := stp_dep hm s
        have e := stp_size hm s
        refine ⟨a, by omega, Nat.le_trans c ?_⟩
        rw [Nat.pow_succ, Nat.mul_comm (4 ^ n) 4, ← Nat.mul_assoc]
        exact Nat.mul_le_mul_right _ e
theorem runL_take (ms : List Mk) : ∀ (n m : Nat) (w : Wd), n ≤ m → runL ms n w = (runL ms m w).take (n + 1)
  | 0, m, w, _ => by
    obtain ⟨r, e⟩ := runL_ne ms m w
    rw [e]; rfl
  | n + 1, m, w, h => by
    obtain ⟨m, rfl⟩ : ∃ i, m = i + 1 := ⟨m - 1, by omega⟩
    cases q : nx ms w with
    | none => rw [runL_none q, runL_none q]; rfl
    | some w' => rw [runL_some q, runL_some q, List.take_succ_cons, runL_take ms n m w' (by omega)]
theorem runL_drop (ms : List Mk) : ∀ (m n : Nat) (w x : Wd), (runL ms m w)[n]? = some x → (runL ms m w).drop n = runL ms (m - n) x
  | m, 0, w, x, h => by
    obtain ⟨r, e⟩ := runL_ne ms m w
    rw [e] at h
    cases h
    rfl
  | 0, n + 1, w, x, h => by cases h
  | m + 1, n + 1, w, x, h => by
    cases q : nx ms w with
    | none => rw [runL_none q] at h; cases h
    | some w' =>
      rw [runL_some q] at h ⊢
      rw [List.drop_succ_cons, show m + 1 - (n + 1) = m - n by omega]
      exact runL_drop ms m n w' x h
/-- the word behind -/
theorem runL_next (ms : List Mk) : ∀ (m n : Nat) (w x : Wd), (runL ms m w)[n]? = some x → (nx ms x = none ∧ n + 1 = (runL ms m w).length) ∨ (n = m ∧ n + 1 = (runL ms m w).length) ∨ ∃ y, nx ms x = some y ∧ (runL ms m w)[n + 1]? = some y := by
  intro m n w x h
  have d := runL_drop ms m n w x h
  have hn : n < (runL ms m w).length := (List.getElem?_eq_some_iff.mp h).1
  have hl := runL_len ms m w
  have dl : (runL ms m w).length - n = (runL ms (m - n) x).length := by rw [← d, List.length_drop]
  by_cases e : m - n = 0
  · rw [e] at dl
    have : (runL ms 0 x).length = 1 := rfl
    exact .inr (.inl ⟨by omega, by omega⟩)
  · obtain ⟨k, hk⟩ : ∃ i, m - n = i + 1 := ⟨m - n - 1, by omega⟩
    rw [hk] at d dl
    cases q : nx ms x with
    | none =>
      rw [runL_none q] at dl
      have : [x].length = 1 := rfl
      exact .inl ⟨rfl, by omega⟩
    | some y =>
      refine .inr (.inr ⟨y, rfl, ?_⟩)
      rw [runL_some q] at d
      have g : ((runL ms m w).drop n)[1]? = (runL ms m w)[n + 1]? := by rw [List.getElem?_drop]
      rw [← g, d]
      obtain ⟨r, e⟩ := runL_ne ms k y
      rw [e]; rfl
def lastW (l : List Wd) (w : Wd) : Wd := l.getLastD w
def restL (ms : List Mk) (n : Nat) (w : Wd) : Option Wd := match fst ms (lastW (runL ms n w) w) with
  | some _ => none
  | none => some (lastW (runL ms n w) w)
theorem last_eq {l : List Wd} {w : Wd} (h : l ≠ []) : ∃ r, l = r ++ [lastW l w] := by
  refine ⟨l.dropLast, ?_⟩
  unfold lastW
  rw [List.getLastD_eq_getLast?, List.getLast?_eq_some_getLast h, Option.getD_some, List.dropLast_concat_getLast]
theorem eqv_wds : ∀ (a b : List Wd), PyData.eqvAll (a.map Wd.toD) (b.map Wd.toD) = decide (a = b)
  | [], [] => rfl
  | [], _ :: _ => rfl
  | _ :: _, [] => rfl
  | x :: r, y :: t => by
    show (PyData.eqv x.toD y.toD && PyData.eqvAll (r.map Wd.toD) (t.map Wd.toD)) = _
    rw [Wd.toD_eqv, eqv_wds r t]
    by_cases h1 : x = y <;> by_cases h2 : r = t <;> simp [h1, h2]
theorem lay_wds : ∀ (a : List Wd), (∀ x ∈ a, x.All Sg) → PyData.canLayAll0 (a.map Wd.toD) = true
  | [], _ => rfl
  | x :: r, h => by
    show (x.toD.canLay0 && PyData.canLayAll0 (r.map Wd.toD)) = true
    rw [Wd.toD_ok (h x List.mem_cons_self), lay_wds r fun y hy => h y (List.mem_cons_of_mem _ hy)]; rfl
theorem dep_wds {n : Nat} : ∀ (a : List Wd), (∀ x ∈ a, x.dep ≤ n) → PyData.depthAll (a.map Wd.toD) ≤ n
  | [], _ => Nat.zero_le _
  | x :: r, h => by
    show max x.toD.depth (PyData.depthAll (r.map Wd.toD)) ≤ n
    rw [Wd.toD_dep]
    have := h x List.mem_cons_self
    have := dep_wds r fun y hy => h y (List.mem_cons_of_mem _ hy)
    omega
theorem ne_wds {a b : List Wd} (ha : ∀ x ∈ a, x.All Sg) (hb : ∀ x ∈ b, x.All Sg) (hd : ∀ x ∈ a, x.dep ≤ 149) : neD (.tuple (a.map Wd.toD)) (.tuple (b.map Wd.toD)) = .ok (.bool (!decide (a = b))) := by
  unfold neD eqOk
  have la : (PyData.tuple (a.map Wd.toD)).canLay0 = true := lay_wds a ha
  have lb : (PyData.tuple (b.map Wd.toD)).canLay0 = true := lay_wds b hb
  have d : (PyData.tuple (a.map Wd.toD)).depth ≤ lim := by
    show PyData.depthAll (a.map Wd.toD) + 1 ≤ 150
    have := dep_wds a hd
    omega
  rw [la, lb, decide_eq_true d]
  show Res.ok (PyData.bool (!PyData.eqvAll (a.map Wd.toD) (b.map Wd.toD))) = _
  rw [eqv_wds]
theorem ixLast (l : List D) (d : D) : ixD (l ++ [d]) (-1) = .ok d := by
  unfold ixD atI ixN
  rw [if_neg (by decide), if_pos (by rw [List.length_append, List.length_singleton]; omega)]
  have e : (-1 + ((l ++ [d]).length : Int)).toNat = l.length := by rw [List.length_append, List.length_singleton]; omega
  show (match (l ++ [d])[(-1 + ((l ++ [d]).length : Int)).toNat]? with | some d => Res.ok d | none => .stuck) = _
  rw [e, List.getElem?_append_right (Nat.le_refl _), Nat.sub_self]
  rfl
end MW

set_option maxRecDepth 100000
/-! Part 4c: several steps at once. -/
namespace MW
open PySem PySem.Spec PyProof.Rows L2
open Res
def undr (b : Bool) (S : List Pl) : List Pl := (S.filter fun p => p.head? == some b).map List.tail
def onc (ms : List Mk) : Wd → List Pl → Option Wd
  | .lf s, _ => some (.lf s)
  | .ap f a, S => match onc ms f (undr true S), onc ms a (undr false S) with
    | some f', some a' => if [] ∈ S then (can ms (.ap f' a')).map fun m => m.deed.act (Wd.ap f' a').args else some (.ap f' a')
    | _, _ => none
theorem onc_ap {ms : List Mk} {f a f' a' : Wd} {S : List Pl} (h1 : onc ms f (undr true S) = some f') (h2 : onc ms a (undr false S) = some a') : onc ms (.ap f a) S = if [] ∈ S then (can ms (.ap f' a')).map fun m => m.deed.act (Wd.ap f' a').args else some (.ap f' a') := by
  show (match onc ms f (undr true S), onc ms a (undr false S) with | some f', some a' => _ | _, _ => _) = _
  rw [h1, h2]
theorem onc_inv {ms : List Mk} {f a w' : Wd} {S : List Pl} (h : onc ms (.ap f a) S = some w') : ∃ f' a', onc ms f (undr true S) = some f' ∧ onc ms a (undr false S) = some a' ∧ (([] ∈ S ∧ ∃ m, can ms (.ap f' a') = some m ∧ w' = m.deed.act (Wd.ap f' a').args) ∨ ([] ∉ S ∧ w' = .ap f' a')) := by
  unfold onc at h
  cases h1 : onc ms f (undr true S) with
  | none => rw [h1] at h; cases h
  | some f' =>
    cases h2 : onc ms a (undr false S) with
    | none => rw [h1, h2] at h; cases h
    | some a' =>
      rw [h1, h2] at h
      dsimp only at h
      refine ⟨f', a', rfl, rfl, ?_⟩
      by_cases e : [] ∈ S
      · rw [if_pos e] at h
        cases q : can ms (.ap f' a') with
        | none => rw [q] at h; cases h
        | some m => rw [q] at h; cases h; exact .inl ⟨e, m, rfl, rfl⟩
      · rw [if_neg e] at h
        cases h
        exact .inr ⟨e, rfl⟩
theorem act_ok {P : Str → Prop} {ms : List Mk} (hm : ∀ m ∈ ms, MkOk m) {w : Wd} {m : Mk} (hw : w.All P) (h : can ms w = some m) : (m.deed.act w.args).All P ∧ (m.deed.act w.args).dep ≤ w.dep + 2 := by
  have e : stp ms w [] = some (m.deed.act w.args) := by rw [stp_nil, h]; rfl
  exact ⟨stp_all hm hw e, stp_dep hm e⟩
theorem onc_all {P : Str → Prop} {ms : List Mk} (hm : ∀ m ∈ ms, MkOk m) : ∀ {w : Wd} {S : List Pl} {w' : Wd}, w.All P → onc ms w S = some w' → w'.All P
  | .lf s, S, w', h, e => by cases e; exact h
  | .ap f a, S, w', h, e => by
    obtain ⟨f', a', h1, h2, h3⟩ := onc_inv e
    have i1 := onc_all hm h.1 h1
    have i2 := onc_all hm h.2 h2
    rcases h3 with ⟨_, m, q, rfl⟩ | ⟨_, rfl⟩
    · exact (act_ok (P := P) (w := .ap f' a') hm ⟨i1, i2⟩ q).1
    · exact ⟨i1, i2⟩
theorem onc_dep {ms : List Mk} (hm : ∀ m ∈ ms, MkOk m) : ∀ {w : Wd} {S : List Pl} {w' : Wd}, onc ms w S = some w' → w'.dep ≤ 3 * w.dep
  | .lf s, S, w', e => by cases e; exact Nat.zero_le _
  | .ap f a, S, w', e => by
    obtain ⟨f', a', h1, h2, h3⟩ := onc_inv e
    have i1 := onc_dep hm h1
    have i2 := onc_dep hm h2
    show w'.dep ≤ 3 * (max f.dep a.dep + 1)
    rcases h3 with ⟨_, m, q, rfl⟩ | ⟨_, rfl⟩
    · have e : stp ms (.ap f' a') [] = some (m.deed.act (Wd.ap f' a').args) := by rw [stp_nil, q]; rfl
      have z : (m.deed.act (Wd.ap f' a').args).dep ≤ max f'.dep a'.dep + 1 + 2 := stp_dep hm e
      omega
    · show max f'.dep a'.dep + 1 ≤ _
      omega
theorem undr_nil (b : Bool) : undr b [] = [] := rfl
theorem onc_nil (ms : List Mk) : ∀ w : Wd, onc ms w [] = some w
  | .lf s => rfl
  | .ap f a => by
    rw [onc_ap (f' := f) (a' := a) (by rw [undr_nil]; exact onc_nil ms f) (by rw [undr_nil]; exact onc_nil ms a), if_neg (by simp)]
theorem undr_one (b c : Bool) (p : Pl) : undr b [c :: p] = if b = c then [p] else [] := by
  cases b <;> cases c <;> rfl
theorem onc_one (ms : List Mk) (hm : MsOk ms) : ∀ (w : Wd) (p : Pl), p ∈ plcs ms w → onc ms w [p] = stp ms w p
  | .lf s, p, h => by
    unfold plcs own at h
    rw [can_lf hm] at h
    cases h
  | .ap f a, [], h => by
    rw [onc_ap (f' := f) (a' := a) (onc_nil ms f) (onc_nil ms a), if_pos (by simp), stp_nil]
  | .ap f a, true :: p, h => by
    have z := (mem_plcs ms _ _).mp h
    have e : stp ms (.ap f a) (true :: p) = (stp ms f p).map fun f' => .ap f' a := rfl
    rw [e] at z ⊢
    cases q : stp ms f p with
    | none => rw [q] at z; cases z
    | some f' =>
      have i := onc_one ms hm f p ((mem_plcs ms f p).mpr (by rw [q]; rfl))
      rw [onc_ap (f' := f') (a' := a) (by rw [← q]; exact i) (onc_nil ms a), if_neg (by simp)]
      rfl
  | .ap f a, false :: p, h => by
    have z := (mem_plcs ms _ _).mp h
    have e : stp ms (.ap f a) (false :: p) = (stp ms a p).map fun f' => .ap f f' := rfl
    rw [e] at z ⊢
    cases q : stp ms a p with
    | none => rw [q] at z; cases z
    | some f' =>
      have i := onc_one ms hm a p ((mem_plcs ms a p).mpr (by rw [q]; rfl))
      rw [onc_ap (f' := f) (a' := f') (onc_nil ms f) (by rw [← q]; exact i), if_neg (by simp)]
      rfl
/-- none leads into the other -/
def apart : Pl → Pl → Bool
  | b :: p, c :: q => b != c || apart p q
  | _, _ => false
theorem apart_comm : ∀ p q : Pl, apart p q = apart q p
  | [], [] => rfl
  | [], _ :: _ => rfl
  | _ :: _, [] => rfl
  | b :: p, c :: q => by
    show (b != c || apart p q) = (c != b || apart q p)
    rw [apart_comm p q]
    cases b <;> cases c <;> rfl
theorem apart_two (ms : List Mk) (hm : MsOk ms) : ∀ (w : Wd) (p q : Pl), p ∈ plcs ms w → q ∈ plcs ms w → apart p q = true → ∃ w1 w2 w', stp ms w p = some w1 ∧ stp ms w1 q = some w' ∧ stp ms w q = some w2 ∧ stp ms w2 p = some w' ∧ onc ms w [p, q] = some w'
  | .lf s, p, q, h, _, _ => by
    unfold plcs own at h
    rw [can_lf hm] at h
    cases h
  | .ap f a, [], q, _, _, z => by cases z
  | .ap f a, b :: p, [], _, _, z => by cases z
  | .ap f a, b :: p, c :: q, hp, hq, z => by
    have zp := (mem_plcs ms _ _).mp hp
    have zq := (mem_plcs ms _ _).mp hq
    cases b with
    | true =>
      have ep : stp ms (.ap f a) (true :: p) = (stp ms f p).map fun f' => .ap f' a := rfl
      rw [ep, Option.isSome_map] at zp
      have mp := (mem_plcs ms f p).mpr zp
      cases c with
      | true =>
        have eq : stp ms (.ap f a) (true :: q) = (stp ms f q).map fun f' => .ap f' a := rfl
        rw [eq, Option.isSome_map] at zq
        have mq := (mem_plcs ms f q).mpr zq
        obtain ⟨w1, w2, w', a1, a2, a3, a4, a5⟩ := apart_two ms hm f p q mp mq (by simpa [apart] using z)
        refine ⟨.ap w1 a, .ap w2 a, .ap w' a, by rw [ep, a1]; rfl, ?_, by rw [eq, a3]; rfl, ?_, ?_⟩
        · show (stp ms w1 q).map _ = _
          rw [a2]; rfl
        · show (stp ms w2 p).map _ = _
          rw [a4]; rfl
        · rw [onc_ap (f' := w') (a' := a) a5 (onc_nil ms a), if_neg (by simp)]
      | false =>
        have eq : stp ms (.ap f a) (false :: q) = (stp ms a q).map fun f' => .ap f f' := rfl
        rw [eq, Option.isSome_map] at zq
        have mq := (mem_plcs ms a q).mpr zq
        cases s1 : stp ms f p with
        | none => rw [s1] at zp; cases zp
        | some f' =>
          cases s2 : stp ms a q with
          | none => rw [s2] at zq; cases zq
          | some a' =>
            refine ⟨.ap f' a, .ap f a', .ap f' a', by rw [ep, s1]; rfl, ?_, by rw [eq, s2]; rfl, ?_, ?_⟩
            · show (stp ms a q).map _ = _
              rw [s2]; rfl
            · show (stp ms f p).map _ = _
              rw [s1]; rfl
            · rw [onc_ap (f' := f') (a' := a') ((onc_one ms hm f p mp).trans s1) ((onc_one ms hm a q mq).trans s2), if_neg (by simp)]
    | false =>
      have ep : stp ms (.ap f a) (false :: p) = (stp ms a p).map fun f' => .ap f f' := rfl
      rw [ep, Option.isSome_map] at zp
      have mp := (mem_plcs ms a p).mpr zp
      cases c with
      | false =>
        have eq : stp ms (.ap f a) (false :: q) = (stp ms a q).map fun f' => .ap f f' := rfl
        rw [eq, Option.isSome_map] at zq
        have mq := (mem_plcs ms a q).mpr zq
        obtain ⟨w1, w2, w', a1, a2, a3, a4, a5⟩ := apart_two ms hm a p q mp mq (by simpa [apart] using z)
        refine ⟨.ap f w1, .ap f w2, .ap f w', by rw [ep, a1]; rfl, ?_, by rw [eq, a3]; rfl, ?_, ?_⟩
        · show (stp ms w1 q).map _ = _
          rw [a2]; rfl
        · show (stp ms w2 p).map _ = _
          rw [a4]; rfl
        · rw [onc_ap (f' := f) (a' := w') (onc_nil ms f) a5, if_neg (by simp)]
      | true =>
        have eq : stp ms (.ap f a) (true :: q) = (stp ms f q).map fun f' => .ap f' a := rfl
        rw [eq, Option.isSome_map] at zq
        have mq := (mem_plcs ms f q).mpr zq
        cases s1 : stp ms a p with
        | none => rw [s1] at zp; cases zp
        | some a' =>
          cases s2 : stp ms f q with
          | none => rw [s2] at zq; cases zq
          | some f' =>
            refine ⟨.ap f a', .ap f' a, .ap f' a', by rw [ep, s1]; rfl, ?_, by rw [eq, s2]; rfl, ?_, ?_⟩
            · show (stp ms f q).map _ = _
              rw [s2]; rfl
            · show (stp ms a p).map _ = _
              rw [s1]; rfl
            · rw [onc_ap (f' := f') (a' := a') ((onc_one ms hm f q mq).trans s2) ((onc_one ms hm a p mp).trans s1), if_neg (by simp)]
/-- as the law asks it -/
theorem apart_take : ∀ p q : Pl, apart p q = !decide (p.take (min p.length q.length) = q.take (min p.length q.length))
  | [], q => by simp [apart]
  | b :: p, [] => by simp [apart]
  | b :: p, c :: q => by
    have ih := apart_take p q
    show (b != c || apart p q) = _
    rw [ih, List.length_cons, List.length_cons, Nat.succ_min_succ, List.take_succ_cons, List.take_succ_cons]
    cases b <;> cases c <;> simp
end MW

set_option maxRecDepth 100000
/-! Part 4d: steps side by side; one end. -/
namespace MW
open PySem PySem.Spec PyProof.Rows L2
open Res
inductive Par (ms : List Mk) : Wd → Wd → Prop
  | lf (s : Str) : Par ms (.lf s) (.lf s)
  | ap {f f' a a' : Wd} : Par ms f f' → Par ms a a' → Par ms (.ap f a) (.ap f' a')
  | act {f f' a a' : Wd} {m : Mk} : Par ms f f' → Par ms a a' → can ms (.ap f a) = some m → Par ms (.ap f a) (m.deed.act (f'.args ++ [a']))
theorem Par.refl (ms : List Mk) : ∀ w : Wd, Par ms w w
  | .lf s => .lf s
  | .ap f a => .ap (Par.refl ms f) (Par.refl ms a)
/-- two rows, word by word -/
inductive Par2 (ms : List Mk) : List Wd → List Wd → Prop
  | nil : Par2 ms [] []
  | cons {a b : Wd} {as bs : List Wd} : Par ms a b → Par2 ms as bs → Par2 ms (a :: as) (b :: bs)
theorem Par2.length {ms : List Mk} {as bs : List Wd} (h : Par2 ms as bs) : as.length = bs.length := by
  induction h with
  | nil => rfl
  | cons _ _ ih => rw [List.length_cons, List.length_cons, ih]
theorem Par2.append {ms : List Mk} {as bs cs ds : List Wd} (h : Par2 ms as bs) (q : Par2 ms cs ds) : Par2 ms (as ++ cs) (bs ++ ds) := by
  induction h with
  | nil => exact q
  | cons x _ ih => exact .cons x ih
theorem Par2.get {ms : List Mk} {as bs : List Wd} (h : Par2 ms as bs) (d : Wd) : ∀ i, i < as.length → Par ms (as.getD i d) (bs.getD i d) := by
  induction h with
  | nil => intro i hi; cases hi
  | cons x _ ih =>
    intro i hi
    cases i with
    | zero => exact x
    | succ i => exact ih i (by rw [List.length_cons] at hi; omega)
theorem act_par {ms : List Mk} {as bs : List Wd} (h : Par2 ms as bs) : ∀ {d : Dd}, d.bd as.length → Par ms (d.act as) (d.act bs)
  | .v i, hb => h.get _ i hb
  | .p a b, hb => .ap (act_par h hb.1) (act_par h hb.2)
/-- too few things behind a maker: it stays -/
def Few (ms : List Mk) (f : Wd) : Prop := ∀ m, fnd ms f.hd = some m → f.args.length < m.many
theorem can_fnd {ms : List Mk} {w : Wd} {m : Mk} (h : can ms w = some m) : fnd ms w.hd = some m ∧ m.many = w.args.length := by
  unfold can at h
  cases q : fnd ms w.hd with
  | none => rw [q] at h; cases h
  | some m' =>
    rw [q] at h
    dsimp only at h
    by_cases e : m'.many = w.args.length
    · rw [if_pos e] at h; cases h; exact ⟨rfl, e⟩
    · rw [if_neg e] at h; cases h
theorem can_of {ms : List Mk} {w : Wd} {m : Mk} (h : fnd ms w.hd = some m) (e : m.many = w.args.length) : can ms w = some m := by
  unfold can
  rw [h]
  dsimp only
  rw [if_pos e]
theorem can_few {ms : List Mk} {f a : Wd} {m : Mk} (h : can ms (.ap f a) = some m) : Few ms f := by
  have ⟨h1, h2⟩ := can_fnd h
  intro m' q
  have h1' : fnd ms f.hd = some m := h1
  have e : m' = m := Option.some.inj (q.symm.trans h1')
  rw [e]
  have : m.many = (f.args ++ [a]).length := h2
  rw [List.length_append, List.length_singleton] at this
  omega
theorem par_few {ms : List Mk} {f f' : Wd} (h : Par ms f f') : Few ms f → f'.hd = f.hd ∧ Par2 ms f.args f'.args := by
  induction h with
  | lf s => exact fun _ => ⟨rfl, .nil⟩
  | @ap g g' b b' h1 h2 i1 _ =>
    intro fw
    have fg : Few ms g := fun m q => by
      have : (g.args ++ [b]).length < m.many := fw m q
      rw [List.length_append, List.length_singleton] at this
      omega
    have ⟨e, r⟩ := i1 fg
    exact ⟨e, r.append (.cons h2 .nil)⟩
  | @act g g' b b' m h1 h2 hc _ _ =>
    intro fw
    have ⟨q1, q2⟩ := can_fnd hc
    have := fw m q1
    omega
theorem par_can {ms : List Mk} {f f' a a' : Wd} {m : Mk} (h : can ms (.ap f a) = some m) (hf : Par ms f f') (ha : Par ms a a') : can ms (.ap f' a') = some m ∧ Par2 ms (f.args ++ [a]) (f'.args ++ [a']) := by
  have ⟨e, r⟩ := par_few hf (can_few h)
  have ⟨q1, q2⟩ := can_fnd h
  refine ⟨can_of (show fnd ms f'.hd = some m by rw [e]; exact q1) ?_, r.append (.cons ha .nil)⟩
  have z : m.many = (f.args ++ [a]).length := q2
  show m.many = (f'.args ++ [a']).length
  rw [List.length_append, List.length_singleton] at z ⊢
  rw [z, r.length]
def dev (ms : List Mk) : Wd → Wd
  | .lf s => .lf s
  | .ap f a => match can ms (.ap f a) with
    | some m => m.deed.act ((dev ms f).args ++ [dev ms a])
    | none => .ap (dev ms f) (dev ms a)
theorem tri {ms : List Mk} (hm : ∀ m ∈ ms, MkOk m) {w v : Wd} (h : Par ms w v) : Par ms v (dev ms w) := by
  induction h with
  | lf s => exact .lf s
  | @ap f f' a a' h1 h2 i1 i2 =>
    unfold dev
    cases q : can ms (.ap f a) with
    | none => exact .ap i1 i2
    | some m =>
      have ⟨q', _⟩ := par_can q h1 h2
      exact .act i1 i2 q'
  | @act f f' a a' m h1 h2 hc i1 i2 =>
    unfold dev
    rw [hc]
    have ⟨q', _⟩ := par_can hc h1 h2
    have ⟨_, r⟩ := par_can q' i1 i2
    have ⟨ha, _, hl⟩ := can_spec q'
    exact act_par r (by
      have hl' : m.many = (f'.args ++ [a']).length := hl
      rw [← hl']
      exact (hm m ha).bd)
inductive Pars (ms : List Mk) : Wd → Wd → Prop
  | refl (w : Wd) : Pars ms w w
  | step {a b c : Wd} : Par ms a b → Pars ms b c → Pars ms a c
theorem Pars.trans {ms : List Mk} {a b c : Wd} (h : Pars ms a b) (q : Pars ms b c) : Pars ms a c := by
  induction h with
  | refl => exact q
  | step x _ ih => exact .step x (ih q)
theorem Pars.one {ms : List Mk} {a b : Wd} (h : Par ms a b) : Pars ms a b := .step h (.refl b)
theorem strip {ms : List Mk} (hm : ∀ m ∈ ms, MkOk m) {w b : Wd} (h : Pars ms w b) : ∀ {a : Wd}, Par ms w a → ∃ c, Pars ms a c ∧ Par ms b c := by
  induction h with
  | refl w => exact fun {a} q => ⟨a, .refl a, q⟩
  | @step w b1 b x _ ih =>
    intro a q
    obtain ⟨c, h1, h2⟩ := ih (tri hm x)
    exact ⟨c, .step (tri hm q) h1, h2⟩
theorem conf {ms : List Mk} (hm : ∀ m ∈ ms, MkOk m) {w a : Wd} (h : Pars ms w a) : ∀ {b : Wd}, Pars ms w b → ∃ c, Pars ms a c ∧ Pars ms b c := by
  induction h with
  | refl w => exact fun {b} q => ⟨b, q, .refl b⟩
  | @step w a1 a x _ ih =>
    intro b q
    obtain ⟨c, h1, h2⟩ := strip hm q x
    obtain ⟨d, h3, h4⟩ := ih h1
    exact ⟨d, h3, .step h2 h4⟩
theorem par_end {ms : List Mk} {w v : Wd} (h : Par ms w v) : plcs ms w = [] → v = w := by
  induction h with
  | lf s => exact fun _ => rfl
  | @ap f f' a a' _ _ i1 i2 =>
    intro e
    unfold plcs at e
    rw [List.append_eq_nil_iff, List.append_eq_nil_iff, List.map_eq_nil_iff, List.map_eq_nil_iff] at e
    rw [i1 e.1.2, i2 e.2]
  | @act f f' a a' m _ _ hc _ _ =>
    intro e
    unfold plcs own at e
    rw [hc] at e
    simp at e
theorem pars_end {ms : List Mk} {w v : Wd} (h : Pars ms w v) (e : plcs ms w = []) : v = w := by
  induction h with
  | refl => rfl
  | step x _ ih =>
    have q := par_end x e
    subst q
    exact ih e
theorem one_end {ms : List Mk} (hm : ∀ m ∈ ms, MkOk m) {w a b : Wd} (h1 : Pars ms w a) (h2 : Pars ms w b) (ha : plcs ms a = []) (hb : plcs ms b = []) : a = b := by
  obtain ⟨c, q1, q2⟩ := conf hm h1 h2
  rw [← pars_end q1 ha, ← pars_end q2 hb]
theorem stp_par {ms : List Mk} (hm : MsOk ms) : ∀ {w : Wd} {p : Pl} {w' : Wd}, stp ms w p = some w' → Par ms w w'
  | w, [], w', e => by
    rw [stp_nil] at e
    cases q : can ms w with
    | none => rw [q] at e; cases e
    | some m =>
      rw [q] at e
      cases w with
      | lf s => rw [can_lf hm] at q; cases q
      | ap f a =>
        have e' : m.deed.act (f.args ++ [a]) = w' := Option.some.inj e
        rw [← e']
        exact .act (.refl ms f) (.refl ms a) q
  | .lf s, _ :: _, _, e => by simp [stp] at e
  | .ap f a, true :: p, w', e => by
    have e' : (stp ms f p).map (fun f' => Wd.ap f' a) = some w' := e
    cases q : stp ms f p with
    | none => rw [q] at e'; cases e'
    | some f' => rw [q] at e'; cases e'; exact .ap (stp_par hm q) (.refl ms a)
  | .ap f a, false :: p, w', e => by
    have e' : (stp ms a p).map (fun f' => Wd.ap f f') = some w' := e
    cases q : stp ms a p with
    | none => rw [q] at e'; cases e'
    | some f' => rw [q] at e'; cases e'; exact .ap (.refl ms f) (stp_par hm q)
theorem onc_par {ms : List Mk} : ∀ {w : Wd} {S : List Pl} {w' : Wd}, (∀ p ∈ S, p ∈ plcs ms w) → onc ms w S = some w' → Par ms w w'
  | .lf s, S, w', _, e => by cases e; exact .lf s
  | .ap f a, S, w', hS, e => by
    obtain ⟨f', a', h1, h2, h3⟩ := onc_inv e
    have sub : ∀ (b : Bool) (p : Pl), p ∈ undr b S → (b :: p) ∈ S := fun b p h => by
      unfold undr at h
      obtain ⟨q, z1, rfl⟩ := List.mem_map.mp h
      obtain ⟨z2, z3⟩ := List.mem_filter.mp z1
      cases q with
      | nil => simp at z3
      | cons c r =>
        have : c = b := by simpa using z3
        rw [← this]
        exact z2
    have i1 := onc_par (ms := ms) (w := f) (S := undr true S) (fun p hp => by
      have := (mem_plcs ms _ _).mp (hS _ (sub true p hp))
      have e : stp ms (.ap f a) (true :: p) = (stp ms f p).map fun f' => .ap f' a := rfl
      rw [e, Option.isSome_map] at this
      exact (mem_plcs ms f p).mpr this) h1
    have i2 := onc_par (ms := ms) (w := a) (S := undr false S) (fun p hp => by
      have := (mem_plcs ms _ _).mp (hS _ (sub false p hp))
      have e : stp ms (.ap f a) (false :: p) = (stp ms a p).map fun f' => .ap f f' := rfl
      rw [e, Option.isSome_map] at this
      exact (mem_plcs ms a p).mpr this) h2
    rcases h3 with ⟨z, m, q, rfl⟩ | ⟨_, rfl⟩
    · have c0 := (mem_plcs ms _ _).mp (hS _ z)
      rw [stp_nil, Option.isSome_map] at c0
      obtain ⟨m0, hm0⟩ := Option.isSome_iff_exists.mp c0
      have ⟨q', _⟩ := par_can hm0 i1 i2
      rw [q'] at q
      cases q
      exact .act i1 i2 hm0
    · exact .ap i1 i2
theorem runL_par {ms : List Mk} (hm : MsOk ms) : ∀ (n : Nat) (w : Wd), ∀ x ∈ runL ms n w, Pars ms w x
  | 0, w, x, hx => by rw [List.mem_singleton.mp hx]; exact .refl w
  | n + 1, w, x, hx => by
    cases q : nx ms w with
    | none => rw [runL_none q, List.mem_singleton] at hx; rw [hx]; exact .refl w
    | some w' =>
      rw [runL_some q] at hx
      rcases List.mem_cons.mp hx with rfl | hx
      · exact .refl _
      · unfold nx at q
        cases z : fst ms w with
        | none => rw [z] at q; cases q
        | some p =>
          rw [z] at q
          exact .step (stp_par hm q) (runL_par hm n w' x hx)
end MW

set_option maxRecDepth 100000
/-! Part 4e: head steps. -/
namespace MW
open PySem PySem.Spec PyProof.Rows L2
open Res
def hpl (ms : List Mk) (w : Wd) : Option Pl := match fnd ms w.hd with
  | some m => if m.many ≤ w.args.length then some (List.replicate (w.args.length - m.many) true) else none
  | none => none
theorem hpl_lf {ms : List Mk} (hm : MsOk ms) (s : Str) : hpl ms (.lf s) = none := by
  unfold hpl
  cases q : fnd ms (Wd.lf s).hd with
  | none => rfl
  | some m =>
    have o := (hm.ok m (fnd_mem q).1).lo
    dsimp only
    rw [if_neg]
    show ¬ m.many ≤ 0
    omega
theorem hpl_can {ms : List Mk} {f a : Wd} {m : Mk} (h : can ms (.ap f a) = some m) : hpl ms (.ap f a) = some [] ∧ hpl ms f = none := by
  have ⟨h1, h2⟩ := can_fnd h
  constructor
  · unfold hpl
    rw [h1]
    dsimp only
    rw [if_pos (by omega), h2, Nat.sub_self]
    rfl
  · have fw := can_few h m h1
    unfold hpl
    rw [show fnd ms f.hd = some m from h1]
    dsimp only
    rw [if_neg (by omega)]
theorem hpl_ap {ms : List Mk} {f a : Wd} (h : can ms (.ap f a) = none) : hpl ms (.ap f a) = (hpl ms f).map (true :: ·) := by
  unfold can at h
  unfold hpl
  have e : (Wd.ap f a).hd = f.hd := rfl
  have l : (Wd.ap f a).args.length = f.args.length + 1 := by
    show (f.args ++ [a]).length = _
    rw [List.length_append, List.length_singleton]
  rw [e] at h ⊢
  rw [l] at h ⊢
  cases q : fnd ms f.hd with
  | none => rfl
  | some m =>
    rw [q] at h
    dsimp only at h ⊢
    by_cases z : m.many = f.args.length + 1
    · rw [if_pos z] at h; cases h
    · by_cases y : m.many ≤ f.args.length
      · rw [if_pos (by omega), if_pos y, show f.args.length + 1 - m.many = (f.args.length - m.many) + 1 by omega, List.replicate_succ]
        rfl
      · rw [if_neg (by omega), if_neg y]; rfl
theorem hpl_mem {ms : List Mk} (hm : MsOk ms) : ∀ {w : Wd} {p : Pl}, hpl ms w = some p → ∃ w', stp ms w p = some w'
  | .lf s, p, h => by rw [hpl_lf hm] at h; cases h
  | .ap f a, p, h => by
    cases q : can ms (.ap f a) with
    | some m =>
      rw [(hpl_can q).1] at h
      cases h
      exact ⟨_, by rw [stp_nil, q]; rfl⟩
    | none =>
      rw [hpl_ap q] at h
      cases z : hpl ms f with
      | none => rw [z] at h; cases h
      | some r =>
        rw [z] at h
        cases h
        obtain ⟨f', e⟩ := hpl_mem hm z
        exact ⟨.ap f' a, by show (stp ms f r).map _ = _; rw [e]; rfl⟩
/-- the only place that leads into first parts alone -/
theorem hpl_only {ms : List Mk} (hm : MsOk ms) : ∀ w : Wd, (plcs ms w).filter (fun p => p.all id) = (hpl ms w).toList
  | .lf s => by
    rw [hpl_lf hm]
    unfold plcs own
    rw [can_lf hm]; rfl
  | .ap f a => by
    have i := hpl_only hm f
    unfold plcs own
    have e2 : ((plcs ms a).map (false :: ·)).filter (fun p => p.all id) = [] := by
      rw [List.filter_eq_nil_iff]
      intro p hp
      obtain ⟨r, _, rfl⟩ := List.mem_map.mp hp
      simp
    have e1 : ((plcs ms f).map (true :: ·)).filter (fun p => p.all id) = (hpl ms f).toList.map (true :: ·) := by
      rw [← i, List.filter_map]
      congr 1
    cases q : can ms (.ap f a) with
    | some m =>
      have ⟨h1, h2⟩ := hpl_can q
      rw [h1]
      rw [h2] at e1
      dsimp only
      rw [List.filter_append, List.filter_append, e1, e2]
      rfl
    | none =>
      rw [hpl_ap q]
      dsimp only
      rw [List.nil_append, List.filter_append, e1, e2]
      cases hpl ms f <;> rfl
def hnx (ms : List Mk) (w : Wd) : Option Wd := (hpl ms w).bind (stp ms w)
theorem hnx_none {ms : List Mk} (hm : MsOk ms) {w : Wd} : hnx ms w = none ↔ hpl ms w = none := by
  unfold hnx
  cases q : hpl ms w with
  | none => simp
  | some p =>
    obtain ⟨w', h⟩ := hpl_mem hm q
    show stp ms w p = none ↔ _
    rw [h]; simp
theorem hnx_some {ms : List Mk} (hm : MsOk ms) {w : Wd} {p : Pl} (h : hpl ms w = some p) : ∃ w', stp ms w p = some w' ∧ hnx ms w = some w' := by
  obtain ⟨w', q⟩ := hpl_mem hm h
  exact ⟨w', q, by unfold hnx; rw [h]; exact q⟩
def hdL (ms : List Mk) : Nat → Wd → List Wd
  | 0, w => [w]
  | n + 1, w => match hnx ms w with
    | none => [w]
    | some w' => w :: hdL ms n w'
theorem hdL_none {ms : List Mk} {w : Wd} (h : hnx ms w = none) (n : Nat) : hdL ms n w = [w] := by
  cases n with
  | zero => rfl
  | succ n => unfold hdL; rw [h]
theorem hdL_some {ms : List Mk} {w w' : Wd} (h : hnx ms w = some w') (n : Nat) : hdL ms (n + 1) w = w :: hdL ms n w' := by
  show (match hnx ms w with | none => [w] | some w' => w :: hdL ms n w') = _
  rw [h]
theorem hdL_ne (ms : List Mk) (n : Nat) (w : Wd) : ∃ r, hdL ms n w = w :: r := by
  cases n with
  | zero => exact ⟨[], rfl⟩
  | succ n =>
    cases h : hnx ms w with
    | none => exact ⟨[], hdL_none h _⟩
    | some w' => exact ⟨_, hdL_some h n⟩
theorem hdL_len (ms : List Mk) : ∀ (n : Nat) (w : Wd), (hdL ms n w).length ≤ n + 1
  | 0, w => Nat.le_refl _
  | n + 1, w => by
    cases h : hnx ms w with
    | none => rw [hdL_none h]; simp
    | some w' => rw [hdL_some h]; have := hdL_len ms n w'; rw [List.length_cons]; omega
theorem hdL_ok {P : Str → Prop} {ms : List Mk} (hm : ∀ m ∈ ms, MkOk m) : ∀ (n : Nat) (w : Wd), w.All P → ∀ x ∈ hdL ms n w, x.All P ∧ x.dep ≤ w.dep + 2 * n ∧ x.size ≤ w.size * 4 ^ n
  | 0, w, h, x, hx => by
    rw [List.mem_singleton.mp hx]
    exact ⟨h, by omega, by omega⟩
  | n + 1, w, h, x, hx => by
    cases q : hnx ms w with
    | none =>
      rw [hdL_none q, List.mem_singleton] at hx
      rw [hx]
      refine ⟨h, by omega, ?_⟩
      exact Nat.le_mul_of_pos_right _ (Nat.pow_pos (by decide))
    | some w' =>
      rw [hdL_some q] at hx
      obtain ⟨p, _, s⟩ : ∃ p, hpl ms w = some p ∧ stp ms w p = some w' := by
        unfold hnx at q
        cases z : hpl ms w with
        | none => rw [z] at q; cases q
        | some p => rw [z] at q; exact ⟨p, rfl, q⟩
      rcases List.mem_cons.mp hx with rfl | hx
      · refine ⟨h, by omega, ?_⟩
        exact Nat.le_mul_of_pos_right _ (Nat.pow_pos (by decide))
      · have ⟨a, b, c⟩ := hdL_ok hm n w' (stp_all hm h s) x hx
        have d := stp_dep hm s
        have e := stp_size hm s
        refine ⟨a, by omega, Nat.le_trans c ?_⟩
        rw [Nat.pow_succ, Nat.mul_comm (4 ^ n) 4, ← Nat.mul_assoc]
        exact Nat.mul_le_mul_right _ e
theorem hdL_take (ms : List Mk) : ∀ (n m : Nat) (w : Wd), n ≤ m → hdL ms n w = (hdL ms m w).take (n + 1)
  | 0, m, w, _ => by
    obtain ⟨r, e⟩ := hdL_ne ms m w
    rw [e]; rfl
  | n + 1, m, w, h => by
    obtain ⟨m, rfl⟩ : ∃ i, m = i + 1 := ⟨m - 1, by omega⟩
    cases q : hnx ms w with
    | none => rw [hdL_none q, hdL_none q]; rfl
    | some w' => rw [hdL_some q, hdL_some q, List.take_succ_cons, hdL_take ms n m w' (by omega)]
theorem hdL_drop (ms : List Mk) : ∀ (m n : Nat) (w x : Wd), (hdL ms m w)[n]? = some x → (hdL ms m w).drop n = hdL ms (m - n) x
  | m, 0, w, x, h => by
    obtain ⟨r, e⟩ := hdL_ne ms m w
    rw [e] at h
    cases h
    rfl
  | 0, n + 1, w, x, h => by cases h
  | m + 1, n + 1, w, x, h => by
    cases q : hnx ms w with
    | none => rw [hdL_none q] at h; cases h
    | some w' =>
      rw [hdL_some q] at h ⊢
      rw [List.drop_succ_cons, show m + 1 - (n + 1) = m - n by omega]
      exact hdL_drop ms m n w' x h
/-- the word behind -/
theorem hdL_next (ms : List Mk) : ∀ (m n : Nat) (w x : Wd), (hdL ms m w)[n]? = some x → (hnx ms x = none ∧ n + 1 = (hdL ms m w).length) ∨ (n = m ∧ n + 1 = (hdL ms m w).length) ∨ ∃ y, hnx ms x = some y ∧ (hdL ms m w)[n + 1]? = some y := by
  intro m n w x h
  have d := hdL_drop ms m n w x h
  have hn : n < (hdL ms m w).length := (List.getElem?_eq_some_iff.mp h).1
  have hl := hdL_len ms m w
  have dl : (hdL ms m w).length - n = (hdL ms (m - n) x).length := by rw [← d, List.length_drop]
  by_cases e : m - n = 0
  · rw [e] at dl
    have : (hdL ms 0 x).length = 1 := rfl
    exact .inr (.inl ⟨by omega, by omega⟩)
  · obtain ⟨k, hk⟩ : ∃ i, m - n = i + 1 := ⟨m - n - 1, by omega⟩
    rw [hk] at d dl
    cases q : hnx ms x with
    | none =>
      rw [hdL_none q] at dl
      have : [x].length = 1 := rfl
      exact .inl ⟨rfl, by omega⟩
    | some y =>
      refine .inr (.inr ⟨y, rfl, ?_⟩)
      rw [hdL_some q] at d
      have g : ((hdL ms m w).drop n)[1]? = (hdL ms m w)[n + 1]? := by rw [List.getElem?_drop]
      rw [← g, d]
      obtain ⟨r, e⟩ := hdL_ne ms k y
      rw [e]; rfl

/-- a thing more behind -/
theorem hnx_ap {ms : List Mk} {w w' : Wd} (q : Wd) (h : hnx ms w = some w') : hnx ms (.ap w q) = some (.ap w' q) := by
  unfold hnx at h
  cases z : hpl ms w with
  | none => rw [z] at h; cases h
  | some p =>
    rw [z] at h
    have h' : stp ms w p = some w' := h
    have c : can ms (.ap w q) = none := by
      cases y : can ms (.ap w q) with
      | none => rfl
      | some m => rw [(hpl_can y).2] at z; cases z
    unfold hnx
    rw [hpl_ap c, z]
    show (stp ms w p).map _ = _
    rw [h']; rfl
theorem hdL_ap (ms : List Mk) (q : Wd) : ∀ (n : Nat) (w : Wd), (hdL ms n (.ap w q)).take (hdL ms n w).length = (hdL ms n w).map fun x => .ap x q
  | 0, w => rfl
  | n + 1, w => by
    cases h : hnx ms w with
    | none =>
      rw [hdL_none h]
      obtain ⟨r, e⟩ := hdL_ne ms (n + 1) (.ap w q)
      rw [e]; rfl
    | some w' =>
      rw [hdL_some h, hdL_some (hnx_ap q h), List.length_cons, List.take_succ_cons, hdL_ap ms q n w']
      rfl
end MW

set_option maxRecDepth 100000
/-! Part 4f: a word whose head steps go on for ever never rests. -/
namespace MW
open PySem PySem.Spec PyProof.Rows L2
open Res
def cost (ns : List Nat) : Dd → Nat
  | .v i => ns.getD i 0
  | .p a b => cost ns a + cost ns b
mutual
inductive ParN (ms : List Mk) : Nat → Wd → Wd → Prop
  | lf (s : Str) : ParN ms 0 (.lf s) (.lf s)
  | ap {n k : Nat} {f f' a a' : Wd} : ParN ms n f f' → ParN ms k a a' → ParN ms (n + k) (.ap f a) (.ap f' a')
  | act {f a : Wd} {m : Mk} {ns : List Nat} {xs : List Wd} : can ms (.ap f a) = some m → ParL ms ns (f.args ++ [a]) xs → ParN ms (1 + cost ns m.deed) (.ap f a) (m.deed.act xs)
inductive ParL (ms : List Mk) : List Nat → List Wd → List Wd → Prop
  | nil : ParL ms [] [] []
  | cons {n : Nat} {ns : List Nat} {x y : Wd} {xs ys : List Wd} : ParN ms n x y → ParL ms ns xs ys → ParL ms (n :: ns) (x :: xs) (y :: ys)
end
theorem ParN.refl (ms : List Mk) : ∀ w : Wd, ParN ms 0 w w
  | .lf s => .lf s
  | .ap f a => .ap (n := 0) (k := 0) (ParN.refl ms f) (ParN.refl ms a)
theorem ParL.refl (ms : List Mk) : ∀ xs : List Wd, ∃ ns, ParL ms ns xs xs
  | [] => ⟨[], .nil⟩
  | x :: r => let ⟨ns, h⟩ := ParL.refl ms r; ⟨0 :: ns, .cons (ParN.refl ms x) h⟩
theorem ParL.append {ms : List Mk} : ∀ {ns : List Nat} {xs ys : List Wd} {ks : List Nat} {us vs : List Wd}, ParL ms ns xs ys → ParL ms ks us vs → ParL ms (ns ++ ks) (xs ++ us) (ys ++ vs)
  | _, _, _, _, _, _, .nil, q => q
  | _, _, _, _, _, _, .cons h r, q => .cons h (ParL.append r q)
theorem ParL.len {ms : List Mk} : ∀ {ns : List Nat} {xs ys : List Wd}, ParL ms ns xs ys → xs.length = ys.length
  | _, _, _, .nil => rfl
  | _, _, _, .cons _ r => by rw [List.length_cons, List.length_cons, ParL.len r]
theorem ParL.get {ms : List Mk} (d : Wd) : ∀ {ns : List Nat} {xs ys : List Wd}, ParL ms ns xs ys → ∀ i, i < xs.length → ParN ms (ns.getD i 0) (xs.getD i d) (ys.getD i d)
  | _, _, _, .nil, i, hi => by cases hi
  | _, _, _, .cons h r, 0, _ => h
  | _, _, _, .cons h r, i + 1, hi => ParL.get d r i (by rw [List.length_cons] at hi; omega)
theorem act_parN {ms : List Mk} {ns : List Nat} {xs ys : List Wd} (h : ParL ms ns xs ys) : ∀ {d : Dd}, d.bd xs.length → ParN ms (cost ns d) (d.act xs) (d.act ys)
  | .v i, hb => h.get _ i hb
  | .p a b, hb => .ap (act_parN h hb.1) (act_parN h hb.2)
theorem parN_few {ms : List Mk} : ∀ {f f' : Wd} {n : Nat}, ParN ms n f f' → Few ms f → f'.hd = f.hd ∧ ∃ ns, ParL ms ns f.args f'.args
  | _, _, _, .lf s, _ => ⟨rfl, [], .nil⟩
  | _, _, _, .ap (f := g) (a := b) h1 h2, fw => by
    have fg : Few ms g := fun m q => by
      have : (g.args ++ [b]).length < m.many := fw m q
      rw [List.length_append, List.length_singleton] at this
      omega
    have ⟨e, ns, r⟩ := parN_few h1 fg
    exact ⟨e, _, r.append (.cons h2 .nil)⟩
  | _, _, _, .act hc _, fw => by
    have ⟨q1, q2⟩ := can_fnd hc
    have := fw _ q1
    omega
theorem stp_parN {ms : List Mk} (hm : MsOk ms) : ∀ {w : Wd} {p : Pl} {w' : Wd}, stp ms w p = some w' → ∃ n, ParN ms n w w'
  | w, [], w', e => by
    rw [stp_nil] at e
    cases q : can ms w with
    | none => rw [q] at e; cases e
    | some m =>
      rw [q] at e
      cases w with
      | lf s => rw [can_lf hm] at q; cases q
      | ap f a =>
        have e' : m.deed.act (f.args ++ [a]) = w' := Option.some.inj e
        rw [← e']
        obtain ⟨ns, h⟩ := ParL.refl ms (f.args ++ [a])
        exact ⟨_, .act q h⟩
  | .lf s, _ :: _, _, e => by simp [stp] at e
  | .ap f a, true :: p, w', e => by
    have e' : (stp ms f p).map (fun f' => Wd.ap f' a) = some w' := e
    cases q : stp ms f p with
    | none => rw [q] at e'; cases e'
    | some f' =>
      rw [q] at e'; cases e'
      obtain ⟨n, h⟩ := stp_parN hm q
      exact ⟨_, .ap h (ParN.refl ms a)⟩
  | .ap f a, false :: p, w', e => by
    have e' : (stp ms a p).map (fun f' => Wd.ap f f') = some w' := e
    cases q : stp ms a p with
    | none => rw [q] at e'; cases e'
    | some f' =>
      rw [q] at e'; cases e'
      obtain ⟨n, h⟩ := stp_parN hm q
      exact ⟨_, .ap (ParN.refl ms f) h⟩
theorem hnx_can {ms : List Mk} {f a : Wd} {m : Mk} (h : can ms (.ap f a) = some m) : hnx ms (.ap f a) = some (m.deed.act (f.args ++ [a])) := by
  unfold hnx
  rw [(hpl_can h).1]
  show stp ms (.ap f a) [] = _
  rw [stp_nil, h]
  rfl
theorem hnx_not {ms : List Mk} {f a : Wd} (h : can ms (.ap f a) = none) : hnx ms (.ap f a) = (hnx ms f).map fun f' => .ap f' a := by
  unfold hnx
  rw [hpl_ap h]
  cases q : hpl ms f with
  | none => rfl
  | some p => rfl
theorem hnx_lf {ms : List Mk} (hm : MsOk ms) (s : Str) : hnx ms (.lf s) = none := (hnx_none hm).mpr (hpl_lf hm s)
/-- a head step ahead of steps side by side -/
theorem head_par {ms : List Mk} (hm : MsOk ms) : ∀ {w v w1 : Wd} {n : Nat}, ParN ms n w v → hnx ms w = some w1 → (∃ n', n' < n ∧ ParN ms n' w1 v) ∨ ∃ v1 n', hnx ms v = some v1 ∧ ParN ms n' w1 v1
  | _, _, _, _, .lf s, h => by rw [hnx_lf hm] at h; cases h
  | _, _, w1, _, .ap (n := n) (k := k) (f := f) (f' := f') (a := a) (a' := a') h1 h2, h => by
    cases q : can ms (.ap f a) with
    | some m =>
      rw [hnx_can q] at h
      cases h
      have ⟨e, ns, r⟩ := parN_few h1 (can_few q)
      have ⟨c1, c2⟩ := can_fnd q
      have R := r.append (.cons h2 .nil)
      have q' : can ms (.ap f' a') = some m := by
        refine can_of (show fnd ms f'.hd = some m by rw [e]; exact c1) ?_
        have z : m.many = (f.args ++ [a]).length := c2
        show m.many = (f'.args ++ [a']).length
        rw [z, R.len]
      have ⟨ha, _, hl⟩ := can_spec q
      exact .inr ⟨_, _, hnx_can q', act_parN R (by
        have hl' : m.many = (f.args ++ [a]).length := hl
        rw [← hl']
        exact (hm.ok m ha).bd)⟩
    | none =>
      rw [hnx_not q] at h
      cases z : hnx ms f with
      | none => rw [z] at h; cases h
      | some f1 =>
        rw [z] at h
        cases h
        rcases head_par hm h1 z with ⟨n', l, g⟩ | ⟨f2, n', g1, g2⟩
        · exact .inl ⟨n' + k, by omega, .ap g h2⟩
        · exact .inr ⟨.ap f2 a', n' + k, hnx_ap a' g1, .ap g2 h2⟩
  | _, _, w1, _, .act (f := f) (a := a) (m := m) (ns := ns) (xs := xs) hc hp, h => by
    rw [hnx_can hc] at h
    cases h
    have ⟨ha, _, hl⟩ := can_spec hc
    exact .inl ⟨cost ns m.deed, by omega, act_parN hp (by
      have hl' : m.many = (f.args ++ [a]).length := hl
      rw [← hl']
      exact (hm.ok m ha).bd)⟩
/-- k head steps are there -/
def Has (ms : List Mk) : Nat → Wd → Prop
  | 0, _ => True
  | k + 1, w => ∃ w', hnx ms w = some w' ∧ Has ms k w'
def Inf (ms : List Mk) (w : Wd) : Prop := ∀ k, Has ms k w
theorem Has.le {ms : List Mk} : ∀ {k j : Nat} {w : Wd}, j ≤ k → Has ms k w → Has ms j w
  | _, 0, _, _, _ => trivial
  | 0, j + 1, _, h, _ => by omega
  | k + 1, j + 1, _, h, ⟨w', e, q⟩ => ⟨w', e, Has.le (by omega) q⟩
theorem Inf.next {ms : List Mk} {w w' : Wd} (h : Inf ms w) (e : hnx ms w = some w') : Inf ms w' := fun k => by
  obtain ⟨w2, e2, q⟩ := h (k + 1)
  rw [e] at e2
  cases e2
  exact q
theorem inf_has {ms : List Mk} (hm : MsOk ms) : ∀ (k n : Nat) (w v : Wd), Inf ms w → ParN ms n w v → Has ms k v := by
  intro k
  induction k with
  | zero => intro _ _ _ _ _; trivial
  | succ k ih =>
    intro n
    induction n using Nat.strongRecOn with
    | _ n jh =>
      intro w v hi hp
      obtain ⟨w1, e, _⟩ := hi 1
      rcases head_par hm hp e with ⟨n', l, g⟩ | ⟨v1, n', g1, g2⟩
      · exact jh n' l w1 v (hi.next e) g
      · exact ⟨v1, g1, ih n' w1 v1 (hi.next e) g2⟩
theorem inf_step {ms : List Mk} (hm : MsOk ms) {w v : Wd} {p : Pl} (h : Inf ms w) (e : stp ms w p = some v) : Inf ms v := by
  obtain ⟨n, q⟩ := stp_parN hm e
  exact fun k => inf_has hm k n w v h q
theorem inf_place {ms : List Mk} (hm : MsOk ms) {w : Wd} (h : Inf ms w) : plcs ms w ≠ [] := fun e => by
  obtain ⟨w', q, _⟩ := h 1
  cases z : hpl ms w with
  | none => rw [(hnx_none hm).mpr z] at q; cases q
  | some p =>
    have := hpl_only hm w
    rw [e, z] at this
    cases this
theorem has_ap {ms : List Mk} (a : Wd) : ∀ {k : Nat} {w : Wd}, Has ms k w → Has ms k (.ap w a)
  | 0, _, _ => trivial
  | k + 1, w, ⟨w', e, q⟩ => ⟨.ap w' a, hnx_ap a e, has_ap a q⟩
/-- so many head steps lead there -/
def Led (ms : List Mk) : Nat → Wd → Wd → Prop
  | 0, w, v => w = v
  | k + 1, w, v => ∃ w', hnx ms w = some w' ∧ Led ms k w' v
theorem Led.has {ms : List Mk} : ∀ {j k : Nat} {w v : Wd}, Led ms j w v → Has ms k v → Has ms (j + k) w
  | 0, k, w, v, e, h => by
    have e' : w = v := e
    rw [e', Nat.zero_add]; exact h
  | j + 1, k, w, v, ⟨w', e, q⟩, h => by
    rw [Nat.add_right_comm]
    exact ⟨w', e, Led.has q h⟩
theorem round_inf {ms : List Mk} {u u' : Wd} {j : Nat} (l : Led ms (j + 1) u u') (b : ∀ k, Has ms k u → Has ms k u') : Inf ms u := by
  intro k
  induction k with
  | zero => trivial
  | succ k ih =>
    have := l.has (b k ih)
    exact this.le (by omega)
theorem led_inf {ms : List Mk} {u v : Wd} {j : Nat} (l : Led ms j u v) (h : Inf ms v) : Inf ms u := fun k => (l.has (h k)).le (by omega)
theorem hdL_led (ms : List Mk) : ∀ (n i d : Nat) (w x y : Wd), (hdL ms n w)[i]? = some x → (hdL ms n w)[i + d]? = some y → Led ms d x y
  | n, i, 0, w, x, y, h1, h2 => by
    rw [Nat.add_zero, h1] at h2
    cases h2
    rfl
  | n, i, d + 1, w, x, y, h1, h2 => by
    have hl := (List.getElem?_eq_some_iff.mp h2).1
    rcases hdL_next ms n i w x h1 with ⟨_, q⟩ | ⟨_, q⟩ | ⟨z, q1, q2⟩
    · omega
    · omega
    · refine ⟨z, q1, hdL_led ms n (i + 1) d w z y q2 ?_⟩
      rw [show i + 1 + d = i + (d + 1) by omega]
      exact h2
end MW

set_option maxRecDepth 100000
/-! Part 4g: more of several steps at once. -/
namespace MW
open PySem PySem.Spec PyProof.Rows L2
open Res
theorem mem_undr {b : Bool} {S : List Pl} {p : Pl} : p ∈ undr b S ↔ (b :: p) ∈ S := by
  unfold undr
  rw [List.mem_map]
  constructor
  · rintro ⟨q, h1, rfl⟩
    obtain ⟨h2, h3⟩ := List.mem_filter.mp h1
    cases q with
    | nil => simp at h3
    | cons c r =>
      have : c = b := by simpa using h3
      rw [← this]
      exact h2
  · intro h
    exact ⟨b :: p, List.mem_filter.mpr ⟨h, by simp⟩, rfl⟩
theorem onc_congr (ms : List Mk) : ∀ (w : Wd) {S S' : List Pl}, (∀ p, p ∈ S ↔ p ∈ S') → onc ms w S = onc ms w S'
  | .lf s, S, S', h => rfl
  | .ap f a, S, S', h => by
    have e1 := onc_congr ms f (S := undr true S) (S' := undr true S') fun p => by rw [mem_undr, mem_undr]; exact h _
    have e2 := onc_congr ms a (S := undr false S) (S' := undr false S') fun p => by rw [mem_undr, mem_undr]; exact h _
    unfold onc
    rw [e1, e2]
    by_cases hn : [] ∈ S
    · have hn' := (h []).mp hn
      simp only [if_pos hn, if_pos hn']
    · have hn' : ¬ [] ∈ S' := fun z => hn ((h []).mpr z)
      simp only [if_neg hn, if_neg hn']
theorem plcs_ap {ms : List Mk} {f a : Wd} {b : Bool} {p : Pl} : (b :: p) ∈ plcs ms (.ap f a) ↔ p ∈ plcs ms (if b then f else a) := by
  rw [mem_plcs, mem_plcs]
  cases b with
  | true =>
    show ((stp ms f p).map fun f' => Wd.ap f' a).isSome = true ↔ (stp ms f p).isSome = true
    rw [Option.isSome_map]
  | false =>
    show ((stp ms a p).map fun f' => Wd.ap f f').isSome = true ↔ (stp ms a p).isSome = true
    rw [Option.isSome_map]
theorem plcs_nil {ms : List Mk} {w : Wd} : [] ∈ plcs ms w ↔ (can ms w).isSome = true := by
  rw [mem_plcs, stp_nil, Option.isSome_map]
theorem onc_some {ms : List Mk} : ∀ {w : Wd} {S : List Pl}, (∀ p ∈ S, p ∈ plcs ms w) → ∃ w', onc ms w S = some w'
  | .lf s, S, h => ⟨_, rfl⟩
  | .ap f a, S, h => by
    have h1 : ∀ p ∈ undr true S, p ∈ plcs ms f := fun p hp => (plcs_ap (b := true)).mp (h _ (mem_undr.mp hp))
    have h2 : ∀ p ∈ undr false S, p ∈ plcs ms a := fun p hp => (plcs_ap (b := false)).mp (h _ (mem_undr.mp hp))
    obtain ⟨f', e1⟩ := onc_some h1
    obtain ⟨a', e2⟩ := onc_some h2
    rw [onc_ap e1 e2]
    by_cases hn : [] ∈ S
    · rw [if_pos hn]
      have := plcs_nil.mp (h _ hn)
      obtain ⟨m, hm⟩ := Option.isSome_iff_exists.mp this
      rw [(par_can hm (onc_par h1 e1) (onc_par h2 e2)).1]
      exact ⟨_, rfl⟩
    · rw [if_neg hn]
      exact ⟨_, rfl⟩
/-- the sorted places, as places -/
theorem pls_ex (ms : List Mk) (w : Wd) : ∃ S : List Pl, plsS ms w = S.map plS ∧ ∀ p, p ∈ S ↔ p ∈ plcs ms w := by
  have all : ∀ l : List Str, (∀ s ∈ l, ∃ p ∈ plcs ms w, s = plS p) → ∃ S : List Pl, l = S.map plS ∧ ∀ p ∈ S, p ∈ plcs ms w := by
    intro l
    induction l with
    | nil => intro _; exact ⟨[], rfl, fun p h => by cases h⟩
    | cons s r ih =>
      intro h
      obtain ⟨S, e, q⟩ := ih fun x hx => h x (List.mem_cons_of_mem _ hx)
      obtain ⟨p, hp, rfl⟩ := h s List.mem_cons_self
      refine ⟨p :: S, by rw [e]; rfl, fun x hx => ?_⟩
      rcases List.mem_cons.mp hx with rfl | hx
      · exact hp
      · exact q x hx
  obtain ⟨S, e, q⟩ := all (plsS ms w) fun s hs => by
    have := (sort_is _).mem_iff.mp hs
    obtain ⟨p, h1, rfl⟩ := List.mem_map.mp this
    exact ⟨p, h1, rfl⟩
  refine ⟨S, e, fun p => ⟨q p, fun hp => ?_⟩⟩
  have : plS p ∈ plsS ms w := (sort_is _).mem_iff.mpr (List.mem_map_of_mem hp)
  rw [e] at this
  obtain ⟨p', h1, h2⟩ := List.mem_map.mp this
  rw [← plS_inj h2]
  exact h1
theorem onc_own {ms : List Mk} {f a : Wd} {m : Mk} (h : can ms (.ap f a) = some m) : onc ms (.ap f a) [[]] = some (m.deed.act (Wd.ap f a).args) := by
  have e1 : onc ms f (undr true [[]]) = some f := onc_nil ms f
  have e2 : onc ms a (undr false [[]]) = some a := onc_nil ms a
  rw [onc_ap e1 e2, if_pos (by simp), h]; rfl
theorem undr_map (b c : Bool) (S : List Pl) : undr b (S.map (c :: ·)) = if b = c then S else [] := by
  unfold undr
  induction S with
  | nil => by_cases h : b = c <;> simp [h]
  | cons p r ih =>
    rw [List.map_cons, List.filter_cons]
    by_cases h : b = c
    · subst h
      simp only [List.head?_cons, beq_self_eq_true, if_true, List.map_cons, List.tail_cons]
      rw [if_pos rfl] at ih
      rw [ih]
    · have : ((some c : Option Bool) == some b) = false := by
        rw [beq_eq_false_iff_ne]
        intro e
        exact h (Option.some.inj e).symm
      simp only [List.head?_cons, this, Bool.false_eq_true, if_false]
      rw [ih, if_neg h, if_neg h]
theorem onc_in {ms : List Mk} {w w' : Wd} {S : List Pl} (a : Wd) (h : onc ms w S = some w') : onc ms (.ap w a) (S.map (true :: ·)) = some (.ap w' a) := by
  have e1 : onc ms w (undr true (S.map (true :: ·))) = some w' := by rw [undr_map, if_pos rfl]; exact h
  have e2 : onc ms a (undr false (S.map (true :: ·))) = some a := by rw [undr_map, if_neg (by decide)]; exact onc_nil ms a
  rw [onc_ap e1 e2, if_neg fun z => by
    obtain ⟨_, _, q⟩ := List.mem_map.mp z
    cases q]
/-! ### how great a word becomes by steps at once -/
theorem pow_le {a b : Nat} (h : a ≤ b) : 4 ^ a ≤ 4 ^ b := Nat.pow_le_pow_right (by decide) h
theorem few_down {ms : List Mk} {f a : Wd} (h : Few ms (.ap f a)) : Few ms f := fun m hm => by
  have := h m hm
  have e : (Wd.ap f a).args.length = f.args.length + 1 := by
    show (f.args ++ [a]).length = _
    rw [List.length_append, List.length_singleton]
  omega
theorem few_not {ms : List Mk} {w : Wd} (h : Few ms w) : can ms w = none := by
  cases q : can ms w with
  | none => rfl
  | some m =>
    obtain ⟨h1, h2⟩ := can_fnd q
    have := h m h1
    omega
theorem onc_great {ms : List Mk} (hm : ∀ m ∈ ms, MkOk m) : ∀ {w : Wd} {S : List Pl} {w' : Wd}, (∀ p ∈ S, p ∈ plcs ms w) → onc ms w S = some w' → w'.size ≤ 4 ^ (w.size - 1) ∧ (Few ms w → ∀ x ∈ w'.args, x.size ≤ 4 ^ (w.size - 2))
  | .lf s, S, w', h, e => by
    cases e
    exact ⟨Nat.le_refl _, fun _ x hx => by cases hx⟩
  | .ap f a, S, w', h, e => by
    have h1 : ∀ p ∈ undr true S, p ∈ plcs ms f := fun p hp => (plcs_ap (b := true)).mp (h _ (mem_undr.mp hp))
    have h2 : ∀ p ∈ undr false S, p ∈ plcs ms a := fun p hp => (plcs_ap (b := false)).mp (h _ (mem_undr.mp hp))
    obtain ⟨f', a', e1, e2, e3⟩ := onc_inv e
    have ⟨i1, j1⟩ := onc_great hm h1 e1
    have ⟨i2, _⟩ := onc_great hm h2 e2
    have pf := f.size_pos
    have pa := a.size_pos
    have es : (Wd.ap f a).size = f.size + a.size := rfl
    have args : Few ms f → ∀ x ∈ (Wd.ap f' a').args, x.size ≤ 4 ^ (f.size + a.size - 2) := fun hf x hx => by
      have hx' : x ∈ f'.args ++ [a'] := hx
      rcases List.mem_append.mp hx' with q | q
      · exact Nat.le_trans (j1 hf x q) (pow_le (by omega))
      · rw [List.mem_singleton.mp q]
        exact Nat.le_trans i2 (pow_le (by omega))
    have e4 : 4 ^ (f.size + a.size - 1) = 4 ^ (f.size + a.size - 2) * 4 := by
      rw [← Nat.pow_succ]
      congr 1
      omega
    rw [es]
    rcases e3 with ⟨en, m, q, rfl⟩ | ⟨en, rfl⟩
    · obtain ⟨m0, q0⟩ := Option.isSome_iff_exists.mp (plcs_nil.mp (h _ en))
      have hf := can_few q0
      have ⟨hm1, _, hm3⟩ := can_spec q
      have o := hm m hm1
      have z := Dd.act_size (bs := (Wd.ap f' a').args) (args hf) (d := m.deed) (hm3 ▸ o.bd)
      refine ⟨?_, fun hF => ?_⟩
      · rw [e4]
        exact Nat.le_trans z (Nat.mul_le_mul_left _ o.sz)
      · rw [few_not hF] at q0
        cases q0
    · refine ⟨?_, fun hF => args (few_down hF)⟩
      show f'.size + a'.size ≤ _
      have z1 : f'.size ≤ 4 ^ (f.size + a.size - 2) := Nat.le_trans i1 (pow_le (by omega))
      have z2 : a'.size ≤ 4 ^ (f.size + a.size - 2) := Nat.le_trans i2 (pow_le (by omega))
      rw [e4]
      omega
/-! ### first steps to a rest -/
def Gos (ms : List Mk) : Nat → Wd → Wd → Prop
  | 0, w, e => w = e
  | n + 1, w, e => ∃ w', nx ms w = some w' ∧ Gos ms n w' e
theorem last_cons (w x : Wd) (r : List Wd) : lastW (w :: x :: r) w = lastW (x :: r) x := by
  unfold lastW
  rw [List.getLastD_eq_getLast?, List.getLastD_eq_getLast?, List.getLast?_cons_cons]
  cases q : (x :: r).getLast? with
  | none => rw [List.getLast?_eq_none_iff] at q; cases q
  | some z => rfl
theorem rest_succ {ms : List Mk} {w w' : Wd} (h : nx ms w = some w') (n : Nat) : restL ms (n + 1) w = restL ms n w' := by
  unfold restL
  rw [runL_some h]
  obtain ⟨r, e⟩ := runL_ne ms n w'
  rw [e, last_cons]
theorem rest_none {ms : List Mk} {w : Wd} (h : nx ms w = none) (n : Nat) : restL ms n w = some w := by
  unfold restL
  rw [runL_none h]
  show (match fst ms w with | some _ => none | none => some w) = some w
  rw [nx_none.mp h]
theorem rest_gos {ms : List Mk} : ∀ {n : Nat} {w e : Wd}, restL ms n w = some e → ∃ m, m ≤ n ∧ Gos ms m w e ∧ nx ms e = none
  | 0, w, e, h => by
    unfold restL at h
    have h' : (match fst ms w with | some _ => none | none => some w) = some e := h
    cases q : fst ms w with
    | none =>
      rw [q] at h'
      cases h'
      exact ⟨0, Nat.le_refl _, rfl, nx_none.mpr q⟩
    | some p => rw [q] at h'; cases h'
  | n + 1, w, e, h => by
    cases q : nx ms w with
    | none =>
      rw [rest_none q] at h
      cases h
      exact ⟨0, Nat.zero_le _, rfl, q⟩
    | some w' =>
      rw [rest_succ q] at h
      obtain ⟨m, h1, h2, h3⟩ := rest_gos h
      exact ⟨m + 1, by omega, ⟨w', q, h2⟩, h3⟩
theorem gos_rest {ms : List Mk} {e : Wd} (he : nx ms e = none) : ∀ {m n : Nat} {w : Wd}, m ≤ n → Gos ms m w e → restL ms n w = some e
  | 0, n, w, _, h => by
    cases (show w = e from h)
    exact rest_none he n
  | m + 1, 0, w, h, _ => by omega
  | m + 1, n + 1, w, h, ⟨w', q, g⟩ => by
    rw [rest_succ q]
    exact gos_rest he (by omega) g
theorem nx_ap {ms : List Mk} {f a : Wd} (h : can ms (.ap f a) = none) : nx ms (.ap f a) = match nx ms f with
    | some f' => some (.ap f' a)
    | none => (nx ms a).map (.ap f) := by
  unfold nx
  have e : fst ms (.ap f a) = match fst ms f with
    | some p => some (true :: p)
    | none => (fst ms a).map (false :: ·) := by
    rw [fst, h]
    cases fst ms f with
    | some p => rfl
    | none => cases fst ms a <;> rfl
  rw [e]
  cases q1 : fst ms f with
  | some p =>
    show stp ms (.ap f a) (true :: p) = match stp ms f p with | some f' => some (Wd.ap f' a) | none => (((fst ms a).bind (stp ms a)).map (Wd.ap f))
    show (stp ms f p).map (fun f' => Wd.ap f' a) = _
    have := (mem_plcs ms f p).mp (fst_mem ms f p q1)
    obtain ⟨f', e⟩ := Option.isSome_iff_exists.mp this
    rw [e]; rfl
  | none =>
    cases q2 : fst ms a with
    | some p =>
      show stp ms (.ap f a) (false :: p) = (stp ms a p).map (Wd.ap f)
      rfl
    | none => rfl
theorem rest_pars {ms : List Mk} (hm : MsOk ms) : ∀ {n : Nat} {w e : Wd}, Gos ms n w e → Pars ms w e
  | 0, w, e, h => by cases (show w = e from h); exact .refl _
  | n + 1, w, e, ⟨w', q, g⟩ => by
    unfold nx at q
    cases z : fst ms w with
    | none => rw [z] at q; cases q
    | some p =>
      rw [z] at q
      exact .step (stp_par hm q) (rest_pars hm g)
/-- a head that is no maker acts nowhere -/
theorem can_letter {ms : List Mk} {w : Wd} (h : fnd ms w.hd = none) : can ms w = none := by
  unfold can
  rw [h]
theorem gos_in {ms : List Mk} {s : Str} (hs : fnd ms s = none) : ∀ {n : Nat} {w e : Wd}, Gos ms n w e → Gos ms n (.ap (.lf s) w) (.ap (.lf s) e)
  | 0, w, e, h => by cases (show w = e from h); rfl
  | n + 1, w, e, ⟨w', q, g⟩ => by
    refine ⟨.ap (.lf s) w', ?_, gos_in hs g⟩
    rw [nx_ap (can_letter hs)]
    have e0 : nx ms (.lf s) = none := by
      rw [nx_none, fst, can_letter (w := .lf s) hs]
    rw [e0, q]; rfl
theorem nx_in {ms : List Mk} {s : Str} (hs : fnd ms s = none) {e : Wd} (he : nx ms e = none) : nx ms (.ap (.lf s) e) = none := by
  rw [nx_ap (can_letter hs)]
  have e0 : nx ms (.lf s) = none := by
    rw [nx_none, fst, can_letter (w := .lf s) hs]
  rw [e0, he]; rfl
theorem gos_trans {ms : List Mk} : ∀ {m n : Nat} {a b c : Wd}, Gos ms m a b → Gos ms n b c → Gos ms (m + n) a c
  | 0, n, a, b, c, h, g => by cases (show a = b from h); rw [Nat.zero_add]; exact g
  | m + 1, n, a, b, c, ⟨w', q, h⟩, g => by
    rw [Nat.add_right_comm]
    exact ⟨w', q, gos_trans h g⟩
theorem gos_left {ms : List Mk} {s : Str} (hs : fnd ms s = none) (v : Wd) : ∀ {n : Nat} {w e : Wd}, Gos ms n w e → Gos ms n (.ap (.ap (.lf s) w) v) (.ap (.ap (.lf s) e) v)
  | 0, w, e, h => by cases (show w = e from h); rfl
  | n + 1, w, e, ⟨w', q, g⟩ => by
    refine ⟨.ap (.ap (.lf s) w') v, ?_, gos_left hs v g⟩
    rw [nx_ap (can_letter hs), nx_ap (can_letter (w := .ap (.lf s) w) hs)]
    have e0 : nx ms (.lf s) = none := by
      rw [nx_none, fst, can_letter (w := .lf s) hs]
    rw [e0, q]; rfl
theorem gos_right {ms : List Mk} {s : Str} (hs : fnd ms s = none) {u : Wd} (hu : nx ms u = none) : ∀ {n : Nat} {w e : Wd}, Gos ms n w e → Gos ms n (.ap (.ap (.lf s) u) w) (.ap (.ap (.lf s) u) e)
  | 0, w, e, h => by cases (show w = e from h); rfl
  | n + 1, w, e, ⟨w', q, g⟩ => by
    refine ⟨.ap (.ap (.lf s) u) w', ?_, gos_right hs hu g⟩
    rw [nx_ap (can_letter hs), nx_in hs hu, q]; rfl
theorem nx_two {ms : List Mk} {s : Str} (hs : fnd ms s = none) {u e : Wd} (hu : nx ms u = none) (he : nx ms e = none) : nx ms (.ap (.ap (.lf s) u) e) = none := by
  rw [nx_ap (can_letter hs), nx_in hs hu, he]; rfl
/-- small letters are no makers -/
theorem fnd_small {ms : List Mk} (hm : MsOk ms) (c : Nat) (hc : 91 ≤ c) : fnd ms (ofL [c]) = none := by
  unfold fnd
  rw [List.find?_eq_none]
  intro m h e
  have e' : m.nm = ofL [c] := eq_of_beq e
  obtain ⟨x, h1, _, h3⟩ := (hm.ok m h).nm
  rw [h1] at e'
  have := ofL_inj e'
  simp at this
  omega
end MW

set_option maxRecDepth 100000
/-! Part 4h: things put in for letters. -/
namespace MW
open PySem PySem.Spec PyProof.Rows L2
open Res
def put (s : Str) (t : Wd) : Wd → Wd
  | .lf x => if x = s then t else .lf x
  | .ap f a => .ap (put s t f) (put s t a)
theorem put_self (s : Str) : ∀ w : Wd, put s (.lf s) w = w
  | .lf x => by
    unfold put
    by_cases h : x = s
    · rw [if_pos h, h]
    · rw [if_neg h]
  | .ap f a => by
    show Wd.ap _ _ = _
    rw [put_self s f, put_self s a]
theorem put_not {s : Str} {t : Wd} : ∀ {w : Wd}, s ∉ w.lvs → put s t w = w
  | .lf x, h => by
    unfold put
    rw [if_neg fun e => h (by rw [e]; exact List.mem_singleton.mpr rfl)]
  | .ap f a, h => by
    have h' : s ∉ f.lvs ++ a.lvs := h
    rw [List.mem_append, not_or] at h'
    show Wd.ap _ _ = _
    rw [put_not h'.1, put_not h'.2]
theorem put_gone {s : Str} {t : Wd} (ht : s ∉ t.lvs) : ∀ w : Wd, s ∉ (put s t w).lvs
  | .lf x => by
    unfold put
    by_cases h : x = s
    · rw [if_pos h]; exact ht
    · rw [if_neg h]
      intro z
      exact h (List.mem_singleton.mp z).symm
  | .ap f a => by
    show s ∉ (put s t f).lvs ++ (put s t a).lvs
    rw [List.mem_append, not_or]
    exact ⟨put_gone ht f, put_gone ht a⟩
theorem put_two {s u : Str} {t o : Wd} (h : s ≠ u) (ho : s ∉ o.lvs) : ∀ w : Wd, put u o (put s t w) = put s (put u o t) (put u o w)
  | .lf x => by
    by_cases h1 : x = s
    · have h2 : x ≠ u := h1 ▸ h
      show put u o (if x = s then t else .lf x) = put s (put u o t) (if x = u then o else .lf x)
      rw [if_pos h1, if_neg h2]
      show _ = if x = s then _ else _
      rw [if_pos h1]
    · by_cases h2 : x = u
      · show put u o (if x = s then t else .lf x) = put s (put u o t) (if x = u then o else .lf x)
        rw [if_neg h1, if_pos h2, put_not ho]
        show (if x = u then o else .lf x) = o
        rw [if_pos h2]
      · show put u o (if x = s then t else .lf x) = put s (put u o t) (if x = u then o else .lf x)
        rw [if_neg h1, if_neg h2]
        show (if x = u then o else .lf x) = if x = s then _ else .lf x
        rw [if_neg h1, if_neg h2]
  | .ap f a => by
    show Wd.ap _ _ = Wd.ap _ _
    rw [put_two h ho f, put_two h ho a]
theorem put_all {P : Str → Prop} {s : Str} {t : Wd} (ht : t.All P) : ∀ {w : Wd}, w.All P → (put s t w).All P
  | .lf x, h => by
    unfold put
    by_cases q : x = s
    · rw [if_pos q]; exact ht
    · rw [if_neg q]; exact h
  | .ap f a, h => ⟨put_all ht h.1, put_all ht h.2⟩
theorem put_dep (s : Str) (t : Wd) : ∀ w : Wd, (put s t w).dep ≤ w.dep + t.dep
  | .lf x => by
    unfold put
    by_cases q : x = s
    · rw [if_pos q]; exact Nat.le_add_left _ _
    · rw [if_neg q]; exact Nat.zero_le _
  | .ap f a => by
    have h1 := put_dep s t f
    have h2 := put_dep s t a
    show max _ _ + 1 ≤ max f.dep a.dep + 1 + t.dep
    omega
theorem put_size (s : Str) (t : Wd) : ∀ w : Wd, ((put s t w).size : Int) = (w.size : Int) + ((w.lvs.countP fun x => x.cps.toList == s.cps.toList : Nat) : Int) * ((t.size : Int) - 1)
  | .lf x => by
    unfold put
    by_cases q : x = s
    · rw [if_pos q]
      have e : ((Wd.lf x).lvs.countP fun x => x.cps.toList == s.cps.toList) = 1 := by
        show [x].countP _ = 1
        rw [q]; simp
      rw [e]
      show (t.size : Int) = 1 + 1 * ((t.size : Int) - 1)
      omega
    · rw [if_neg q]
      have e : ((Wd.lf x).lvs.countP fun x => x.cps.toList == s.cps.toList) = 0 := by
        show [x].countP _ = 0
        have : (x.cps.toList == s.cps.toList) = false := by
          rw [beq_eq_false_iff_ne]
          intro e
          exact q (by rw [← ofL_of x, ← ofL_of s, e])
        rw [List.countP_cons, this]; rfl
      rw [e]
      show (1 : Int) = 1 + 0 * ((t.size : Int) - 1)
      omega
  | .ap f a => by
    have h1 := put_size s t f
    have h2 := put_size s t a
    have e : ((Wd.ap f a).lvs.countP fun x => x.cps.toList == s.cps.toList) = (f.lvs.countP fun x => x.cps.toList == s.cps.toList) + (a.lvs.countP fun x => x.cps.toList == s.cps.toList) := by
      show (f.lvs ++ a.lvs).countP _ = _
      rw [List.countP_append]
    rw [e]
    show (((put s t f).size + (put s t a).size : Nat) : Int) = ((f.size + a.size : Nat) : Int) + _
    rw [Int.natCast_add, Int.natCast_add, Int.natCast_add, Int.add_mul, h1, h2]
    omega
theorem put_hd {s : Str} {t : Wd} : ∀ {w : Wd}, w.hd ≠ s → (put s t w).hd = w.hd ∧ (put s t w).args = w.args.map (put s t)
  | .lf x, h => by
    unfold put
    rw [if_neg (show ¬ x = s from h)]
    exact ⟨rfl, rfl⟩
  | .ap f a, h => by
    have ⟨h1, h2⟩ := put_hd (w := f) (t := t) h
    refine ⟨h1, ?_⟩
    show (put s t f).args ++ [put s t a] = (f.args ++ [a]).map (put s t)
    rw [h2, List.map_append]; rfl
theorem put_act {s : Str} {t : Wd} {bs : List Wd} : ∀ {d : Dd}, d.bd bs.length → put s t (d.act bs) = d.act (bs.map (put s t))
  | .v i, h => by
    have h' : i < bs.length := h
    show put s t (bs.getD i (.lf (ofL []))) = (bs.map (put s t)).getD i (.lf (ofL []))
    rw [List.getD_eq_getElem?_getD, List.getD_eq_getElem?_getD, List.getElem?_map, List.getElem?_eq_getElem h']
    rfl
  | .p a b, h => by
    show Wd.ap _ _ = Wd.ap _ _
    rw [put_act h.1, put_act h.2]
theorem put_can {ms : List Mk} {s : Str} {t : Wd} (hs : fnd ms s = none) {w : Wd} {m : Mk} (h : can ms w = some m) : can ms (put s t w) = some m ∧ (put s t w).args = w.args.map (put s t) := by
  obtain ⟨h1, h2⟩ := can_fnd h
  have hne : w.hd ≠ s := fun e => by rw [e, hs] at h1; cases h1
  obtain ⟨g1, g2⟩ := put_hd (t := t) hne
  refine ⟨can_of (by rw [g1]; exact h1) (by rw [g2, List.length_map]; exact h2), g2⟩
theorem put_stp {ms : List Mk} (hm : ∀ m ∈ ms, MkOk m) {s : Str} {t : Wd} (hs : fnd ms s = none) : ∀ {p : Pl} {w w' : Wd}, stp ms w p = some w' → stp ms (put s t w) p = some (put s t w')
  | [], w, w', h => by
    rw [stp_nil] at h
    cases q : can ms w with
    | none => rw [q] at h; cases h
    | some m =>
      rw [q] at h
      have e : m.deed.act w.args = w' := Option.some.inj h
      obtain ⟨g1, g2⟩ := put_can (t := t) hs q
      have ⟨k1, _, k3⟩ := can_spec q
      rw [stp_nil, g1, ← e]
      show some (m.deed.act (put s t w).args) = _
      rw [g2, put_act (k3 ▸ (hm m k1).bd)]
  | b :: p, .lf x, w', h => by simp [stp] at h
  | true :: p, .ap f a, w', h => by
    have h' : (stp ms f p).map (fun f' => Wd.ap f' a) = some w' := h
    cases q : stp ms f p with
    | none => rw [q] at h'; cases h'
    | some f' =>
      rw [q] at h'
      cases h'
      show (stp ms (put s t f) p).map (fun f' => Wd.ap f' (put s t a)) = _
      rw [put_stp hm hs q]; rfl
  | false :: p, .ap f a, w', h => by
    have h' : (stp ms a p).map (fun f' => Wd.ap f f') = some w' := h
    cases q : stp ms a p with
    | none => rw [q] at h'; cases h'
    | some f' =>
      rw [q] at h'
      cases h'
      show (stp ms (put s t a) p).map (fun f' => Wd.ap (put s t f) f') = _
      rw [put_stp hm hs q]; rfl
theorem put_plcs {ms : List Mk} (hm : ∀ m ∈ ms, MkOk m) {s : Str} {t : Wd} (hs : fnd ms s = none) {w : Wd} {p : Pl} (h : p ∈ plcs ms w) : p ∈ plcs ms (put s t w) := by
  obtain ⟨w', e⟩ := Option.isSome_iff_exists.mp ((mem_plcs ms w p).mp h)
  rw [mem_plcs, put_stp hm hs e]; rfl
theorem put_onc {ms : List Mk} (hm : ∀ m ∈ ms, MkOk m) {s : Str} {t : Wd} (hs : fnd ms s = none) : ∀ {w : Wd} {S : List Pl} {w' : Wd}, (∀ p ∈ S, p ∈ plcs ms w) → onc ms w S = some w' → onc ms (put s t w) S = some (put s t w')
  | .lf x, S, w', hS, h => by
    cases h
    have e : S = [] := by
      cases S with
      | nil => rfl
      | cons p r =>
        have := hS p List.mem_cons_self
        rw [mem_plcs] at this
        cases p with
        | nil =>
          rw [stp_nil] at this
          cases q : can ms (.lf x) with
          | none => rw [q] at this; cases this
          | some m =>
            have ⟨k1, _, k3⟩ := can_spec q
            have := (hm m k1).lo
            have e : m.many = 0 := k3
            omega
        | cons b p => simp [stp] at this
    rw [e, onc_nil]
  | .ap f a, S, w', hS, h => by
    have h1 : ∀ p ∈ undr true S, p ∈ plcs ms f := fun p hp => (plcs_ap (b := true)).mp (hS _ (mem_undr.mp hp))
    have h2 : ∀ p ∈ undr false S, p ∈ plcs ms a := fun p hp => (plcs_ap (b := false)).mp (hS _ (mem_undr.mp hp))
    obtain ⟨f', a', e1, e2, e3⟩ := onc_inv h
    have i1 := put_onc hm hs (t := t) h1 e1
    have i2 := put_onc hm hs (t := t) h2 e2
    show onc ms (.ap (put s t f) (put s t a)) S = _
    rw [onc_ap i1 i2]
    rcases e3 with ⟨en, m, q, rfl⟩ | ⟨en, rfl⟩
    · rw [if_pos en]
      obtain ⟨g1, g2⟩ := put_can (t := t) hs q
      have ⟨k1, _, k3⟩ := can_spec q
      show (can ms (put s t (.ap f' a'))).map (fun m => m.deed.act (put s t (.ap f' a')).args) = _
      rw [g1]
      show some (m.deed.act (put s t (.ap f' a')).args) = _
      rw [g2, put_act (k3 ▸ (hm m k1).bd)]
    · rw [if_neg en]; rfl
theorem lvs_all {P : Str → Prop} : ∀ {w : Wd}, w.All P → ∀ s ∈ w.lvs, P s
  | .lf x, h, s, hs => by rw [List.mem_singleton.mp hs]; exact h
  | .ap f a, h, s, hs => by
    rcases List.mem_append.mp (show s ∈ f.lvs ++ a.lvs from hs) with q | q
    · exact lvs_all h.1 s q
    · exact lvs_all h.2 s q
end MW

set_option maxRecDepth 100000
/-! Part 4i: letters taken out. -/
namespace MW
open PySem PySem.Spec PyProof.Rows L2
open Res
abbrev cS : Wd := .lf (ofL [83])
abbrev cK : Wd := .lf (ofL [75])
abbrev cI : Wd := .lf (ofL [73])
def mS : Mk := ⟨ofL [83], 3, .p (.p (.v 0) (.v 2)) (.p (.v 1) (.v 2))⟩
def mK : Mk := ⟨ofL [75], 2, .v 0⟩
def mI : Mk := ⟨ofL [73], 1, .v 0⟩
/-- whether a word is one without a letter with the letter behind -/
def behB (s : Str) : Wd → Bool
  | .lf _ => false
  | .ap f a => decide (a = .lf s) && decide (s ∉ f.lvs)
def tko (s : Str) : Wd → Wd
  | .lf x => if x = s then cI else .ap cK (.lf x)
  | .ap f a => if s ∉ (Wd.ap f a).lvs then .ap cK (.ap f a) else if behB s (.ap f a) then f else .ap (.ap cS (tko s f)) (tko s a)
def bck (s : Str) : Wd → Pl → List Pl
  | .lf x, p => [p]
  | .ap f a, p => if s ∉ (Wd.ap f a).lvs then [p] else if behB s (.ap f a) then [] else p :: (bck s f (p ++ [true]) ++ bck s a (p ++ [false]))
/-- steps at places, one behind the other -/
def led (ms : List Mk) : Wd → List Pl → Option Wd
  | w, [] => some w
  | w, p :: r => (stp ms w p).bind fun w' => led ms w' r
theorem led_app (ms : List Mk) : ∀ (ps qs : List Pl) (w : Wd), led ms w (ps ++ qs) = (led ms w ps).bind fun w' => led ms w' qs
  | [], qs, w => rfl
  | p :: ps, qs, w => by
    show (stp ms w p).bind (fun w' => led ms w' (ps ++ qs)) = ((stp ms w p).bind fun w' => led ms w' ps).bind _
    cases stp ms w p with
    | none => rfl
    | some w' => exact led_app ms ps qs w'
/-- further in -/
theorem led_in (ms : List Mk) (b : Bool) (x : Wd) : ∀ (ps : List Pl) (w : Wd), led ms (if b then .ap w x else .ap x w) (ps.map (b :: ·)) = (led ms w ps).map fun w' => if b then .ap w' x else .ap x w'
  | [], w => rfl
  | p :: ps, w => by
    cases b with
    | true =>
      show (stp ms (.ap w x) (true :: p)).bind (fun w' => led ms w' (ps.map (true :: ·))) = ((stp ms w p).bind fun w' => led ms w' ps).map _
      have e : stp ms (.ap w x) (true :: p) = (stp ms w p).map fun f' => Wd.ap f' x := rfl
      rw [e]
      cases stp ms w p with
      | none => rfl
      | some w' => exact led_in ms true x ps w'
    | false =>
      show (stp ms (.ap x w) (false :: p)).bind (fun w' => led ms w' (ps.map (false :: ·))) = ((stp ms w p).bind fun w' => led ms w' ps).map _
      have e : stp ms (.ap x w) (false :: p) = (stp ms w p).map fun f' => Wd.ap x f' := rfl
      rw [e]
      cases stp ms w p with
      | none => rfl
      | some w' => exact led_in ms false x ps w'
theorem bck_pre (s : Str) : ∀ (w : Wd) (p q : Pl), bck s w (p ++ q) = (bck s w q).map (p ++ ·)
  | .lf x, p, q => rfl
  | .ap f a, p, q => by
    unfold bck
    split
    · rfl
    · split
      · rfl
      · rw [List.map_cons, List.map_append, List.append_assoc, List.append_assoc, bck_pre s f p (q ++ [true]), bck_pre s a p (q ++ [false])]
theorem bck_cons (s : Str) (w : Wd) (b : Bool) : bck s w [b] = (bck s w []).map (b :: ·) := by
  have := bck_pre s w [b] []
  rw [List.append_nil] at this
  exact this
structure Ski (ms : List Mk) : Prop where
  s : fnd ms (ofL [83]) = some mS
  k : fnd ms (ofL [75]) = some mK
  i : fnd ms (ofL [73]) = some mI
theorem can_K {ms : List Mk} (h : Ski ms) (x t : Wd) : stp ms (.ap (.ap cK x) t) [] = some x := by
  have c : can ms (.ap (.ap cK x) t) = some mK := can_of h.k rfl
  rw [stp_nil, c]; rfl
theorem can_I {ms : List Mk} (h : Ski ms) (t : Wd) : stp ms (.ap cI t) [] = some t := by
  have c : can ms (.ap cI t) = some mI := can_of h.i rfl
  rw [stp_nil, c]; rfl
theorem can_S {ms : List Mk} (h : Ski ms) (x y t : Wd) : stp ms (.ap (.ap (.ap cS x) y) t) [] = some (.ap (.ap x t) (.ap y t)) := by
  have c : can ms (.ap (.ap (.ap cS x) y) t) = some mS := can_of h.s rfl
  rw [stp_nil, c]; rfl
theorem led_one {ms : List Mk} {w w' : Wd} {p : Pl} (h : stp ms w p = some w') : led ms w [p] = some w' := by
  show (stp ms w p).bind (fun w' => some w') = _
  rw [h]; rfl
/-- the told steps lead to the word with the thing put in -/
theorem out_led {ms : List Mk} (h : Ski ms) (s : Str) (t : Wd) : ∀ w : Wd, led ms (.ap (tko s w) t) (bck s w []) = some (put s t w)
  | .lf x => by
    unfold tko put bck
    by_cases e : x = s
    · rw [if_pos e, if_pos e]
      exact led_one (can_I h t)
    · rw [if_neg e, if_neg e]
      exact led_one (can_K h _ t)
  | .ap f a => by
    by_cases e : s ∉ (Wd.ap f a).lvs
    · unfold tko bck
      rw [if_pos e, if_pos e, put_not e]
      exact led_one (can_K h _ t)
    · by_cases b : behB s (.ap f a) = true
      · unfold tko bck
        rw [if_neg e, if_pos b, if_neg e, if_pos b]
        have b' : (decide (a = .lf s) && decide (s ∉ f.lvs)) = true := b
        rw [Bool.and_eq_true] at b'
        have e1 : a = .lf s := of_decide_eq_true b'.1
        have e2 : s ∉ f.lvs := of_decide_eq_true b'.2
        show some (Wd.ap f t) = some (Wd.ap (put s t f) (put s t a))
        rw [put_not e2, e1]
        show _ = some (Wd.ap f (if s = s then t else .lf s))
        rw [if_pos rfl]
      · have i1 := out_led h s t f
        have i2 := out_led h s t a
        have et : tko s (.ap f a) = .ap (.ap cS (tko s f)) (tko s a) := by
          rw [tko, if_neg e, if_neg b]
        have eb : bck s (.ap f a) [] = [] :: (bck s f [true] ++ bck s a [false]) := by
          rw [bck, if_neg e, if_neg b]; rfl
        rw [et, eb]
        show (stp ms (.ap (.ap (.ap cS (tko s f)) (tko s a)) t) []).bind (fun w' => led ms w' (bck s f [true] ++ bck s a [false])) = _
        rw [can_S h]
        show led ms (.ap (.ap (tko s f) t) (.ap (tko s a) t)) (bck s f [true] ++ bck s a [false]) = _
        rw [led_app, bck_cons, bck_cons]
        have j1 := led_in ms true (.ap (tko s a) t) (bck s f []) (.ap (tko s f) t)
        rw [i1] at j1
        have j1' : led ms (.ap (.ap (tko s f) t) (.ap (tko s a) t)) ((bck s f []).map (true :: ·)) = some (.ap (put s t f) (.ap (tko s a) t)) := j1
        rw [j1']
        have j2 := led_in ms false (put s t f) (bck s a []) (.ap (tko s a) t)
        rw [i2] at j2
        exact j2
theorem tko_lvs (s : Str) (hs : s ≠ ofL [83] ∧ s ≠ ofL [75] ∧ s ≠ ofL [73]) : ∀ (w : Wd) (x : Str), x ∈ (tko s w).lvs → x ≠ s ∧ (x ∈ w.lvs ∨ x = ofL [83] ∨ x = ofL [75] ∨ x = ofL [73])
  | .lf y, x, h => by
    unfold tko at h
    by_cases e : y = s
    · rw [if_pos e] at h
      have h' : x = ofL [73] := List.mem_singleton.mp h
      rw [h']
      exact ⟨fun z => hs.2.2 z.symm, .inr (.inr (.inr rfl))⟩
    · rw [if_neg e] at h
      have h' : x ∈ [ofL [75]] ++ [y] := h
      rcases List.mem_append.mp h' with q | q
      · rw [List.mem_singleton.mp q]
        exact ⟨fun z => hs.2.1 z.symm, .inr (.inr (.inl rfl))⟩
      · rw [List.mem_singleton.mp q]
        exact ⟨e, .inl (List.mem_singleton.mpr rfl)⟩
  | .ap f a, x, h => by
    by_cases e : s ∉ (Wd.ap f a).lvs
    · rw [tko, if_pos e] at h
      have h' : x ∈ [ofL [75]] ++ (Wd.ap f a).lvs := h
      rcases List.mem_append.mp h' with q | q
      · rw [List.mem_singleton.mp q]
        exact ⟨fun z => hs.2.1 z.symm, .inr (.inr (.inl rfl))⟩
      · exact ⟨fun z => e (z ▸ q), .inl q⟩
    · by_cases b : behB s (.ap f a) = true
      · rw [tko, if_neg e, if_pos b] at h
        have b' : (decide (a = .lf s) && decide (s ∉ f.lvs)) = true := b
        rw [Bool.and_eq_true] at b'
        have e2 : s ∉ f.lvs := of_decide_eq_true b'.2
        exact ⟨fun z => e2 (z ▸ h), .inl (List.mem_append.mpr (.inl h))⟩
      · rw [tko, if_neg e, if_neg b] at h
        have h' : x ∈ ([ofL [83]] ++ (tko s f).lvs) ++ (tko s a).lvs := h
        rcases List.mem_append.mp h' with q | q
        · rcases List.mem_append.mp q with q | q
          · rw [List.mem_singleton.mp q]
            exact ⟨fun z => hs.1 z.symm, .inr (.inl rfl)⟩
          · have ⟨i1, i2⟩ := tko_lvs s hs f x q
            exact ⟨i1, i2.imp (fun z => List.mem_append.mpr (.inl z)) id⟩
        · have ⟨i1, i2⟩ := tko_lvs s hs a x q
          exact ⟨i1, i2.imp (fun z => List.mem_append.mpr (.inr z)) id⟩
theorem tko_all (s : Str) : ∀ {w : Wd}, w.All Sg → (tko s w).All Sg
  | .lf y, h => by
    unfold tko
    by_cases e : y = s
    · rw [if_pos e]; exact ⟨73, rfl, by decide, by decide⟩
    · rw [if_neg e]; exact ⟨⟨75, rfl, by decide, by decide⟩, h⟩
  | .ap f a, h => by
    rw [tko]
    split
    · exact ⟨⟨75, rfl, by decide, by decide⟩, h⟩
    · split
      · exact h.1
      · exact ⟨⟨⟨83, rfl, by decide, by decide⟩, tko_all s h.1⟩, tko_all s h.2⟩
theorem tko_dep (s : Str) : ∀ w : Wd, (tko s w).dep ≤ 2 * w.dep + 1
  | .lf y => by
    unfold tko
    by_cases e : y = s
    · rw [if_pos e]; exact Nat.zero_le _
    · rw [if_neg e]; exact Nat.le_refl _
  | .ap f a => by
    have h1 := tko_dep s f
    have h2 := tko_dep s a
    rw [tko]
    show _ ≤ 2 * (max f.dep a.dep + 1) + 1
    split
    · show max 0 (max f.dep a.dep + 1) + 1 ≤ _; omega
    · split
      · omega
      · show max (max 0 (tko s f).dep + 1) (tko s a).dep + 1 ≤ _; omega
theorem tko_size (s : Str) : ∀ w : Wd, (tko s w).size ≤ 2 * w.size + (w.size - 1)
  | .lf y => by
    unfold tko
    by_cases e : y = s
    · rw [if_pos e]; show 1 ≤ 2 * 1 + 0; decide
    · rw [if_neg e]; show 2 ≤ 2 * 1 + 0; decide
  | .ap f a => by
    have h1 := tko_size s f
    have h2 := tko_size s a
    have p1 := f.size_pos
    have p2 := a.size_pos
    rw [tko]
    show _ ≤ 2 * (f.size + a.size) + (f.size + a.size - 1)
    split
    · show 1 + (f.size + a.size) ≤ _; omega
    · split
      · omega
      · show 1 + (tko s f).size + (tko s a).size ≤ _; omega
theorem bck_len (s : Str) : ∀ (w : Wd) (p : Pl), (bck s w p).length ≤ 2 * w.size - 1
  | .lf x, p => by show 1 ≤ 2 * 1 - 1; decide
  | .ap f a, p => by
    have h1 := bck_len s f (p ++ [true])
    have h2 := bck_len s a (p ++ [false])
    have p1 := f.size_pos
    have p2 := a.size_pos
    rw [bck]
    show _ ≤ 2 * (f.size + a.size) - 1
    split
    · show 1 ≤ _; omega
    · split
      · exact Nat.zero_le _
      · rw [List.length_cons, List.length_append]; omega
theorem bck_dep (s : Str) : ∀ (w : Wd) (p q : Pl), q ∈ bck s w p → q.length ≤ p.length + w.dep
  | .lf x, p, q, h => by rw [List.mem_singleton.mp h]; omega
  | .ap f a, p, q, h => by
    rw [bck] at h
    show q.length ≤ p.length + (max f.dep a.dep + 1)
    split at h
    · rw [List.mem_singleton.mp h]; omega
    · split at h
      · cases h
      · rcases List.mem_cons.mp h with rfl | h
        · omega
        · rcases List.mem_append.mp h with h | h
          · have := bck_dep s f _ q h
            rw [List.length_append, List.length_singleton] at this
            omega
          · have := bck_dep s a _ q h
            rw [List.length_append, List.length_singleton] at this
            omega
/-- all words on the way are small -/
def Sml (ms : List Mk) (N : Nat) : Wd → List Pl → Prop
  | w, [] => w.size ≤ N
  | w, p :: r => w.size ≤ N ∧ ∀ w', stp ms w p = some w' → Sml ms N w' r
theorem Sml.mono {ms : List Mk} {N M : Nat} (h : N ≤ M) : ∀ {ps : List Pl} {w : Wd}, Sml ms N w ps → Sml ms M w ps
  | [], w, q => Nat.le_trans q h
  | p :: r, w, q => ⟨Nat.le_trans q.1 h, fun w' e => Sml.mono h (q.2 w' e)⟩
theorem Sml.app {ms : List Mk} {N : Nat} {qs : List Pl} : ∀ {ps : List Pl} {w : Wd}, Sml ms N w ps → (∀ w', led ms w ps = some w' → Sml ms N w' qs) → Sml ms N w (ps ++ qs)
  | [], w, _, h => h w rfl
  | p :: r, w, q, h => ⟨q.1, fun w' e => Sml.app (q.2 w' e) fun w2 e2 => h w2 (by
    show (stp ms w p).bind (fun w' => led ms w' r) = some w2
    rw [e]; exact e2)⟩
theorem Sml.inT {ms : List Mk} {N : Nat} (x : Wd) : ∀ {ps : List Pl} {w : Wd}, Sml ms N w ps → Sml ms (N + x.size) (.ap w x) (ps.map (true :: ·))
  | [], w, q => by
    show w.size + x.size ≤ _
    have q' : w.size ≤ N := q
    omega
  | p :: r, w, q => by
    refine ⟨by show w.size + x.size ≤ _; have := q.1; omega, fun w' e => ?_⟩
    have e' : (stp ms w p).map (fun f' => Wd.ap f' x) = some w' := e
    cases z : stp ms w p with
    | none => rw [z] at e'; cases e'
    | some f' =>
      rw [z] at e'
      cases e'
      exact Sml.inT x (q.2 f' z)
theorem Sml.inF {ms : List Mk} {N : Nat} (x : Wd) : ∀ {ps : List Pl} {w : Wd}, Sml ms N w ps → Sml ms (x.size + N) (.ap x w) (ps.map (false :: ·))
  | [], w, q => by
    show x.size + w.size ≤ _
    have q' : w.size ≤ N := q
    omega
  | p :: r, w, q => by
    refine ⟨by show x.size + w.size ≤ _; have := q.1; omega, fun w' e => ?_⟩
    have e' : (stp ms w p).map (fun f' => Wd.ap x f') = some w' := e
    cases z : stp ms w p with
    | none => rw [z] at e'; cases e'
    | some f' =>
      rw [z] at e'
      cases e'
      exact Sml.inF x (q.2 f' z)
theorem put_le (s : Str) (t : Wd) : ∀ w : Wd, (put s t w).size ≤ t.size * w.size
  | .lf x => by
    have := t.size_pos
    unfold put
    by_cases q : x = s
    · rw [if_pos q]; show t.size ≤ t.size * 1; omega
    · rw [if_neg q]; show 1 ≤ t.size * 1; omega
  | .ap f a => by
    have h1 := put_le s t f
    have h2 := put_le s t a
    show _ + _ ≤ t.size * (f.size + a.size)
    rw [Nat.mul_add]
    omega
theorem out_small {ms : List Mk} (h : Ski ms) (s : Str) (t : Wd) : ∀ w : Wd, Sml ms ((3 + t.size) * w.size) (.ap (tko s w) t) (bck s w [])
  | .lf x => by
    have e : tko s (.lf x) = if x = s then cI else .ap cK (.lf x) := rfl
    rw [e]
    refine ⟨?_, fun w' q => ?_⟩
    · split
      · show 1 + t.size ≤ (3 + t.size) * 1; omega
      · show 2 + t.size ≤ (3 + t.size) * 1; omega
    · show w'.size ≤ (3 + t.size) * 1
      split at q
      · rw [can_I h] at q; cases q; omega
      · rw [can_K h] at q; cases q; show 1 ≤ _; omega
  | .ap f a => by
    have i1 := out_small h s t f
    have i2 := out_small h s t a
    have z1 := tko_size s f
    have z2 := tko_size s a
    have p1 := f.size_pos
    have p2 := a.size_pos
    have pt := t.size_pos
    have eN : (3 + t.size) * (Wd.ap f a).size = (3 + t.size) * f.size + (3 + t.size) * a.size := by
      show (3 + t.size) * (f.size + a.size) = _
      rw [Nat.mul_add]
    have m1 : (3 + t.size) * f.size = 3 * f.size + t.size * f.size := Nat.add_mul _ _ _
    have m2 : (3 + t.size) * a.size = 3 * a.size + t.size * a.size := Nat.add_mul _ _ _
    have n1 : t.size ≤ t.size * f.size := Nat.le_mul_of_pos_right _ p1
    have n2 : t.size ≤ t.size * a.size := Nat.le_mul_of_pos_right _ p2
    rw [eN]
    by_cases e : s ∉ (Wd.ap f a).lvs
    · have et : tko s (.ap f a) = .ap cK (.ap f a) := by rw [tko, if_pos e]
      have eb : bck s (.ap f a) [] = [[]] := by rw [bck, if_pos e]
      rw [et, eb]
      refine ⟨by show 1 + (f.size + a.size) + t.size ≤ _; omega, fun w' q => ?_⟩
      rw [can_K h] at q
      cases q
      show f.size + a.size ≤ _
      omega
    · by_cases b : behB s (.ap f a) = true
      · have et : tko s (.ap f a) = f := by rw [tko, if_neg e, if_pos b]
        have eb : bck s (.ap f a) [] = [] := by rw [bck, if_neg e, if_pos b]
        rw [et, eb]
        show f.size + t.size ≤ _
        omega
      · have et : tko s (.ap f a) = .ap (.ap cS (tko s f)) (tko s a) := by rw [tko, if_neg e, if_neg b]
        have eb : bck s (.ap f a) [] = [] :: (bck s f [true] ++ bck s a [false]) := by rw [bck, if_neg e, if_neg b]; rfl
        rw [et, eb]
        refine ⟨by show 1 + (tko s f).size + (tko s a).size + t.size ≤ _; omega, fun w' q => ?_⟩
        rw [can_S h] at q
        cases q
        rw [bck_cons, bck_cons]
        refine Sml.app ((Sml.inT (.ap (tko s a) t) i1).mono ?_) fun w' q => ?_
        · show (3 + t.size) * f.size + ((tko s a).size + t.size) ≤ _
          omega
        · have j1 := led_in ms true (.ap (tko s a) t) (bck s f []) (.ap (tko s f) t)
          rw [out_led h s t f] at j1
          have j1' : led ms (.ap (.ap (tko s f) t) (.ap (tko s a) t)) ((bck s f []).map (true :: ·)) = some (.ap (put s t f) (.ap (tko s a) t)) := j1
          rw [j1'] at q
          cases q
          refine (Sml.inF (put s t f) i2).mono ?_
          have := put_le s t f
          omega
end MW

set_option maxRecDepth 100000
/-! Part 9: texts of words. -/
namespace MW
open PySem PySem.Spec PyProof.Rows L2
open Res
def isAp : Wd → Bool
  | .ap _ _ => true
  | .lf _ => false
def txt : Wd → List Nat
  | .lf s => s.cps.toList
  | .ap f a => txt f ++ (if isAp a = true then 40 :: (txt a ++ [41]) else txt a)
/-- what is found, with its depth, and one more part behind it -/
def addP (fo : Option (Wd × Nat)) (p : Wd) (i : Nat) : Wd × Nat := match fo with
  | none => (p, i)
  | some (f, d) => (.ap f p, max d i + 1)
/-- the loop of the reading, at the rest of the text; none: it is refused -/
def lop : Nat → Nat → Option (Wd × Nat) → List Nat → Option (Option (Wd × Nat) × List Nat)
  | 0, _, _, _ => none
  | _ + 1, _, fo, [] => some (fo, [])
  | n + 1, br, fo, c :: r =>
    if c = 41 then some (fo, c :: r)
    else if c = 40 then
      (if 60 < br + 1 then none else match lop n (br + 1) none r with
        | some (some (p, i), d :: r') => if d = 41 then (if 60 < (addP fo p i).2 then none else lop n br (some (addP fo p i)) r') else none
        | _ => none)
    else if 60 < (addP fo (.lf (ofL [c])) 0).2 then none else lop n br (some (addP fo (.lf (ofL [c])) 0)) r
theorem lop_len : ∀ (n br : Nat) (fo fo' : Option (Wd × Nat)) (r r' : List Nat), lop n br fo r = some (fo', r') → r'.length ≤ r.length
  | 0, br, fo, fo', r, r', h => by cases h
  | n + 1, br, fo, fo', [], r', h => by
    unfold lop at h
    cases h; exact Nat.le_refl _
  | n + 1, br, fo, fo', c :: r, r', h => by
    unfold lop at h
    split at h
    · cases h; exact Nat.le_refl _
    · split at h
      · split at h
        · cases h
        · split at h
          · rename_i p i d r2 q
            split at h
            · split at h
              · cases h
              · have h1 := lop_len n _ _ _ _ _ q
                have h2 := lop_len n _ _ _ _ _ h
                rw [List.length_cons] at h1 ⊢
                omega
            · cases h
          · cases h
      · split at h
        · cases h
        · have h2 := lop_len n _ _ _ _ _ h
          rw [List.length_cons]
          omega
theorem lop_fuel : ∀ (n m br : Nat) (fo : Option (Wd × Nat)) (r : List Nat), r.length < n → r.length < m → lop n br fo r = lop m br fo r
  | 0, m, br, fo, r, h, _ => absurd h (Nat.not_lt_zero _)
  | n + 1, 0, br, fo, r, _, h => absurd h (Nat.not_lt_zero _)
  | n + 1, m + 1, br, fo, [], _, _ => by unfold lop; rfl
  | n + 1, m + 1, br, fo, c :: r, h1, h2 => by
    rw [List.length_cons] at h1 h2
    have e1 := lop_fuel n m (br + 1) none r (by omega) (by omega)
    have e2 := fun fo => lop_fuel n m br fo r (by omega) (by omega)
    unfold lop
    rw [e1, e2]
    split
    · rfl
    · split
      · split
        · rfl
        · split
          · rename_i p i d r2 q
            have l := lop_len m _ _ _ _ _ q
            rw [List.length_cons] at l
            rw [lop_fuel n m br (some (addP fo p i)) r2 (by omega) (by omega)]
          · rfl
      · rfl
def lopL (br : Nat) (fo : Option (Wd × Nat)) (r : List Nat) : Option (Option (Wd × Nat) × List Nat) := lop (r.length + 1) br fo r
theorem lopL_nil (br : Nat) (fo : Option (Wd × Nat)) : lopL br fo [] = some (fo, []) := rfl
theorem lopL_shut (br : Nat) (fo : Option (Wd × Nat)) (r : List Nat) : lopL br fo (41 :: r) = some (fo, 41 :: r) := by
  unfold lopL lop
  rw [if_pos rfl]
theorem lopL_lf (br : Nat) (fo : Option (Wd × Nat)) (c : Nat) (r : List Nat) (h1 : c ≠ 41) (h2 : c ≠ 40) : lopL br fo (c :: r) = if 60 < (addP fo (.lf (ofL [c])) 0).2 then none else lopL br (some (addP fo (.lf (ofL [c])) 0)) r := by
  unfold lopL
  rw [lop, if_neg h1, if_neg h2, List.length_cons]
theorem lopL_open (br : Nat) (fo : Option (Wd × Nat)) (r : List Nat) : lopL br fo (40 :: r) = if 60 < br + 1 then none else match lopL (br + 1) none r with
    | some (some (p, i), d :: r') => if d = 41 then (if 60 < (addP fo p i).2 then none else lopL br (some (addP fo p i)) r') else none
    | _ => none := by
  unfold lopL
  rw [lop, if_neg (by decide), if_pos rfl]
  split
  · rfl
  · rw [List.length_cons]
    split
    · rename_i p i d r2 q
      have l := lop_len _ _ _ _ _ _ q
      rw [List.length_cons] at l
      rw [lop_fuel _ (r2.length + 1) br (some (addP fo p i)) r2 (by omega) (by omega)]
    · rfl
/-- a leaf is one sign, no bracket -/
def Nb (s : Str) : Prop := ∃ c, s = ofL [c] ∧ c ≠ 40 ∧ c ≠ 41
theorem lop_txt : ∀ (w : Wd) (br : Nat) (r : List Nat), w.All Nb → br + w.dep ≤ 60 → lopL br none (txt w ++ r) = lopL br (some (w, w.dep)) r
  | .lf s, br, r, hw, hd => by
    obtain ⟨c, rfl, h1, h2⟩ := hw
    show lopL br none (c :: r) = _
    rw [lopL_lf br none c r h2 h1]
    rfl
  | .ap f a, br, r, hw, hd => by
    have hd' : br + (max f.dep a.dep + 1) ≤ 60 := hd
    have e : txt (.ap f a) ++ r = txt f ++ ((if isAp a = true then 40 :: (txt a ++ [41]) else txt a) ++ r) := List.append_assoc _ _ _
    rw [e, lop_txt f br _ hw.1 (by omega)]
    cases a with
    | lf s =>
      obtain ⟨c, rfl, h1, h2⟩ := hw.2
      show lopL br (some (f, f.dep)) (c :: r) = _
      rw [lopL_lf br _ c r h2 h1]
      have q : (addP (some (f, f.dep)) (.lf (ofL [c])) 0) = (Wd.ap f (.lf (ofL [c])), (Wd.ap f (.lf (ofL [c]))).dep) := rfl
      rw [q, if_neg (show ¬ 60 < (Wd.ap f (.lf (ofL [c]))).dep by
        show ¬ 60 < max f.dep (Wd.lf (ofL [c])).dep + 1
        omega)]
    | ap x y =>
      have e2 : (if isAp (.ap x y) = true then 40 :: (txt (.ap x y) ++ [41]) else txt (.ap x y)) ++ r = 40 :: (txt (.ap x y) ++ (41 :: r)) := by
        show 40 :: (txt (.ap x y) ++ [41]) ++ r = _
        rw [List.cons_append, List.append_assoc]; rfl
      rw [e2, lopL_open, if_neg (by omega), lop_txt (.ap x y) (br + 1) (41 :: r) hw.2 (by omega), lopL_shut]
      dsimp only
      rw [if_pos rfl]
      have q : (addP (some (f, f.dep)) (.ap x y) (Wd.ap x y).dep) = (Wd.ap f (.ap x y), (Wd.ap f (.ap x y)).dep) := rfl
      rw [q, if_neg (show ¬ 60 < (Wd.ap f (.ap x y)).dep by
        show ¬ 60 < max f.dep (Wd.ap x y).dep + 1
        omega)]
/-! ### what texts look like -/
theorem txt_head : ∀ {w : Wd}, w.All Nb → ∃ c r, txt w = c :: r ∧ c ≠ 40 ∧ c ≠ 41
  | .lf s, h => by
    obtain ⟨c, rfl, h1, h2⟩ := h
    exact ⟨c, [], rfl, h1, h2⟩
  | .ap f a, h => by
    obtain ⟨c, r, e, h1, h2⟩ := txt_head h.1
    exact ⟨c, r ++ _, by show txt f ++ _ = _; rw [e]; rfl, h1, h2⟩
theorem txt_last : ∀ {w : Wd}, w.All Nb → ∃ c r, txt w = r ++ [c] ∧ c ≠ 40 ∧ (isAp w = false → c ≠ 41)
  | .lf s, h => by
    obtain ⟨c, rfl, h1, h2⟩ := h
    exact ⟨c, [], rfl, h1, fun _ => h2⟩
  | .ap f (.lf s), h => by
    obtain ⟨c, rfl, h1, h2⟩ := h.2
    exact ⟨c, txt f, rfl, h1, fun q => by cases q⟩
  | .ap f (.ap x y), h => ⟨41, txt f ++ 40 :: txt (.ap x y), by
      show txt f ++ 40 :: (txt (.ap x y) ++ [41]) = _
      rw [List.append_assoc]; rfl, by decide, fun q => by cases q⟩
theorem txt_bal : ∀ {w : Wd}, w.All Nb → (txt w).count 40 = (txt w).count 41
  | .lf s, h => by
    obtain ⟨c, rfl, h1, h2⟩ := h
    show [c].count 40 = [c].count 41
    rw [List.count_cons, List.count_cons, List.count_nil, List.count_nil, if_neg (by simpa using h1), if_neg (by simpa using h2)]
  | .ap f a, h => by
    have h1 := txt_bal h.1
    have h2 := txt_bal h.2
    unfold txt
    rw [List.count_append, List.count_append, h1]
    split
    · rw [List.count_cons, List.count_cons, List.count_append, List.count_append, h2]
      simp
    · rw [h2]
theorem txt_mem : ∀ {w : Wd}, w.All Nb → ∀ c ∈ txt w, c = 40 ∨ c = 41 ∨ ofL [c] ∈ w.lvs
  | .lf s, h, c, hc => by
    obtain ⟨d, rfl, h1, h2⟩ := h
    rw [show txt (.lf (ofL [d])) = [d] from rfl, List.mem_singleton] at hc
    subst hc
    exact .inr (.inr List.mem_cons_self)
  | .ap f a, h, c, hc => by
    unfold txt at hc
    rcases List.mem_append.mp hc with q | q
    · rcases txt_mem h.1 c q with z | z | z
      · exact .inl z
      · exact .inr (.inl z)
      · exact .inr (.inr (List.mem_append_left _ z))
    · have key : c ∈ txt a → c = 40 ∨ c = 41 ∨ ofL [c] ∈ (Wd.ap f a).lvs := fun q => by
        rcases txt_mem h.2 c q with z | z | z
        · exact .inl z
        · exact .inr (.inl z)
        · exact .inr (.inr (List.mem_append_right _ z))
      split at q
      · rcases List.mem_cons.mp q with z | z
        · exact .inl z
        · rcases List.mem_append.mp z with z | z
          · exact key z
          · exact .inr (.inl (List.mem_singleton.mp z))
      · exact key q
theorem txt_signs : ∀ {w : Wd}, w.All Nb → ((txt w).filter fun c => !(c == 40 || c == 41)).map (fun c => ofL [c]) = w.lvs
  | .lf s, h => by
    obtain ⟨c, rfl, h1, h2⟩ := h
    show (([c].filter _).map _) = [ofL [c]]
    rw [List.filter_cons_of_pos (by simp [h1, h2])]; rfl
  | .ap f a, h => by
    have h1 := txt_signs h.1
    have h2 := txt_signs h.2
    unfold txt
    rw [List.filter_append, List.map_append, h1]
    show _ = f.lvs ++ a.lvs
    congr 1
    split
    · rw [List.filter_cons_of_neg (by decide), List.filter_append, List.map_append, h2, List.filter_cons_of_neg (by decide)]
      simp
    · exact h2
theorem snoc_inj {α : Type} {a b : List α} {c d : α} (h : a ++ [c] = b ++ [d]) : a = b ∧ c = d := by
  have := List.append_inj' h rfl
  exact ⟨this.1, List.singleton_inj.mp this.2⟩
theorem txt_pair (f x y : Wd) : txt (.ap f (.ap x y)) = (txt f ++ 40 :: txt (.ap x y)) ++ [41] := by
  show txt f ++ 40 :: (txt (.ap x y) ++ [41]) = _
  rw [List.append_assoc]; rfl
theorem txt_no2 : ∀ {w : Wd}, w.All Nb → ∀ u : List Nat, txt w ≠ u ++ [40, 41]
  | .lf s, h, u, e => by
    obtain ⟨c, rfl, h1, h2⟩ := h
    have l := congrArg List.length e
    rw [show txt (.lf (ofL [c])) = [c] from rfl, List.length_append] at l
    simp at l
  | .ap f (.lf s), h, u, e => by
    obtain ⟨c, rfl, h1, h2⟩ := h.2
    have e' : txt f ++ [c] = (u ++ [40]) ++ [41] := by rw [List.append_assoc]; exact e
    exact h2 (snoc_inj e').2
  | .ap f (.ap x y), h, u, e => by
    obtain ⟨c, r, q, h1, _⟩ := txt_last h.2
    have e' : (txt f ++ 40 :: txt (.ap x y)) ++ [41] = (u ++ [40]) ++ [41] := by
      rw [← txt_pair, List.append_assoc]; exact e
    have e2 := (snoc_inj e').1
    rw [q] at e2
    have e3 : (txt f ++ 40 :: r) ++ [c] = u ++ [40] := by rw [List.append_assoc]; exact e2
    exact h1 (snoc_inj e3).2
theorem txt_no3 : ∀ {w : Wd}, w.All Nb → ∀ (u : List Nat) (d : Nat), d ≠ 41 → txt w ≠ u ++ [40, d, 41]
  | .lf s, h, u, d, hd, e => by
    obtain ⟨c, rfl, h1, h2⟩ := h
    have l := congrArg List.length e
    rw [show txt (.lf (ofL [c])) = [c] from rfl, List.length_append] at l
    simp at l
  | .ap f (.lf s), h, u, d, hd, e => by
    obtain ⟨c, rfl, h1, h2⟩ := h.2
    have e' : txt f ++ [c] = (u ++ [40, d]) ++ [41] := by rw [List.append_assoc]; exact e
    exact h2 (snoc_inj e').2
  | .ap f (.ap x (.lf s)), h, u, d, hd, e => by
    obtain ⟨c, rfl, h1, h2⟩ := h.2.2
    obtain ⟨b, r, q, h3, _⟩ := txt_last h.2.1
    have e' : (txt f ++ 40 :: txt (.ap x (.lf (ofL [c])))) ++ [41] = (u ++ [40, d]) ++ [41] := by
      rw [← txt_pair, List.append_assoc]; exact e
    have e2 : txt f ++ 40 :: (txt x ++ [c]) = u ++ [40, d] := (snoc_inj e').1
    have e3 : (txt f ++ 40 :: txt x) ++ [c] = (u ++ [40]) ++ [d] := by rw [List.append_assoc, List.append_assoc]; exact e2
    have e4 := (snoc_inj e3).1
    rw [q] at e4
    have e5 : (txt f ++ 40 :: r) ++ [b] = u ++ [40] := by rw [List.append_assoc]; exact e4
    exact h3 (snoc_inj e5).2
  | .ap f (.ap x (.ap y z)), h, u, d, hd, e => by
    have e' : (txt f ++ 40 :: txt (.ap x (.ap y z))) ++ [41] = (u ++ [40, d]) ++ [41] := by
      rw [← txt_pair, List.append_assoc]; exact e
    have e2 : txt f ++ 40 :: txt (.ap x (.ap y z)) = u ++ [40, d] := (snoc_inj e').1
    rw [txt_pair] at e2
    have e3 : (txt f ++ 40 :: (txt x ++ 40 :: txt (.ap y z))) ++ [41] = (u ++ [40]) ++ [d] := by rw [List.append_assoc, List.append_assoc]; exact e2
    exact hd (snoc_inj e3).2.symm
/-- two opening brackets, one at another -/
def twoO : List Nat → Bool
  | [] => false
  | c :: r => (c == 40 && r.head? == some 40) || twoO r
theorem twoO_app : ∀ a b : List Nat, twoO (a ++ b) = (twoO a || twoO b || (a.getLast? == some 40 && b.head? == some 40))
  | [], b => by simp [twoO]
  | [c], b => by
    show ((c == 40 && b.head? == some 40) || twoO b) = _
    simp only [twoO, List.head?_nil, List.getLast?_singleton]
    rw [show ((none : Option Nat) == some 40) = false from rfl, Bool.and_false, Bool.or_false, Bool.false_or, Bool.or_comm]
    rfl
  | c :: d :: r, b => by
    have ih := twoO_app (d :: r) b
    show ((c == 40 && (some d == some 40)) || twoO (d :: r ++ b)) = (((c == 40 && (some d == some 40)) || twoO (d :: r)) || twoO b || ((c :: d :: r).getLast? == some 40 && b.head? == some 40))
    rw [ih, List.getLast?_cons_cons, Bool.or_assoc, Bool.or_assoc, Bool.or_assoc]
theorem txt_two : ∀ {w : Wd}, w.All Nb → twoO (txt w) = false
  | .lf s, h => by
    obtain ⟨c, rfl, h1, h2⟩ := h
    show ((c == 40 && (none == some 40)) || false) = false
    simp
  | .ap f (.lf s), h => by
    obtain ⟨c, rfl, h1, h2⟩ := h.2
    show twoO (txt f ++ [c]) = false
    rw [twoO_app, txt_two h.1]
    simp [twoO, h1]
  | .ap f (.ap x y), h => by
    obtain ⟨c, r, q, h1, _⟩ := txt_last h.1
    obtain ⟨b, r2, q2, h2, _⟩ := txt_head h.2
    show twoO (txt f ++ 40 :: (txt (.ap x y) ++ [41])) = false
    have l : (txt f).getLast? = some c := by rw [q, List.getLast?_concat]
    have i2 : twoO (txt (.ap x y) ++ [41]) = false := by
      rw [twoO_app, txt_two h.2]
      simp [twoO]
    rw [twoO_app, txt_two h.1, l]
    unfold twoO
    rw [i2, q2]
    simp [h1, h2]
/-! ### reading -/
def gdB (ms : List Mk) (s : Str) : Bool := (s.cps.toList.length == 1 && s.cps.toList.all fun c => decide (97 ≤ c ∧ c ≤ 122)) || decide (s ∈ ms.map Mk.nm)
def isWd (ms : List Mk) (w : Wd) : Bool := w.lvs.all (gdB ms) && decide (w.size ≤ 60)
def rd (ms : List Mk) (t : List Nat) : Option Wd := match lopL 0 none t with
  | some (some (w, _), []) => if (isWd ms w && decide (txt w = t)) = true then some w else none
  | _ => none
theorem all_lvs {P : Str → Prop} : ∀ {w : Wd}, (∀ s ∈ w.lvs, P s) → w.All P
  | .lf s, h => h s List.mem_cons_self
  | .ap f a, h => ⟨all_lvs fun s q => h s (List.mem_append_left _ q), all_lvs fun s q => h s (List.mem_append_right _ q)⟩
theorem gd_nb {ms : List Mk} (hm : ∀ m ∈ ms, MkOk m) {s : Str} (h : gdB ms s = true) : Nb s := by
  unfold gdB at h
  rw [Bool.or_eq_true] at h
  rcases h with h | h
  · rw [Bool.and_eq_true] at h
    have h1 : s.cps.toList.length = 1 := beq_iff_eq.mp h.1
    obtain ⟨c, e⟩ := List.length_eq_one_iff.mp h1
    have h2 := List.all_eq_true.mp h.2 c (by rw [e]; exact List.mem_cons_self)
    have h3 := of_decide_eq_true h2
    refine ⟨c, ?_, by omega, by omega⟩
    rw [← ofL_of s, e]
  · obtain ⟨m, h1, rfl⟩ := List.mem_map.mp (of_decide_eq_true h)
    obtain ⟨c, e, h2, h3⟩ := (hm m h1).nm
    exact ⟨c, e, by omega, by omega⟩
theorem isWd_nb {ms : List Mk} (hm : ∀ m ∈ ms, MkOk m) {w : Wd} (h : isWd ms w = true) : w.All Nb := by
  unfold isWd at h
  rw [Bool.and_eq_true] at h
  exact all_lvs fun s q => gd_nb hm (List.all_eq_true.mp h.1 s q)
theorem rd_txt {ms : List Mk} (hm : ∀ m ∈ ms, MkOk m) {w : Wd} (h : isWd ms w = true) (hd : w.dep ≤ 60) : rd ms (txt w) = some w := by
  have e := lop_txt w 0 [] (isWd_nb hm h) (by omega)
  rw [List.append_nil, lopL_nil] at e
  unfold rd
  rw [e]
  dsimp only
  rw [h, decide_eq_true rfl]
  rfl
theorem rd_some {ms : List Mk} {t : List Nat} {w : Wd} (h : rd ms t = some w) : isWd ms w = true ∧ txt w = t := by
  unfold rd at h
  split at h
  · split at h
    · rename_i q
      cases h
      rw [Bool.and_eq_true] at q
      exact ⟨q.1, of_decide_eq_true q.2⟩
    · cases h
  · cases h
theorem rd_none {ms : List Mk} (hm : ∀ m ∈ ms, MkOk m) {t : List Nat} (h : ∀ w : Wd, isWd ms w = true → w.All Nb → txt w ≠ t) : rd ms t = none := by
  cases q : rd ms t with
  | none => rfl
  | some w =>
    obtain ⟨a, b⟩ := rd_some q
    exact absurd b (h w a (isWd_nb hm a))
end MW

set_option maxRecDepth 100000
/-! Part 4k: steps one behind the other, the innermost first; sets of places. -/
namespace MW
open PySem PySem.Spec PyProof.Rows L2
open Res
def seqS (ms : List Mk) : Wd → List Pl → Option Wd
  | w, [] => some w
  | w, p :: r => (stp ms w p).bind fun w' => seqS ms w' r
theorem seq_app (ms : List Mk) : ∀ (L M : List Pl) (w : Wd), seqS ms w (L ++ M) = (seqS ms w L).bind fun w' => seqS ms w' M
  | [], M, w => rfl
  | p :: r, M, w => by
    show (stp ms w p).bind (fun w' => seqS ms w' (r ++ M)) = ((stp ms w p).bind fun w' => seqS ms w' r).bind _
    cases stp ms w p with
    | none => rfl
    | some w' => exact seq_app ms r M w'
theorem undr_cons (b c : Bool) (p : Pl) (r : List Pl) : undr b ((c :: p) :: r) = if c = b then p :: undr b r else undr b r := by
  unfold undr
  rw [List.filter_cons]
  by_cases h : c = b
  · subst h
    rw [if_pos rfl, if_pos (by simp)]; rfl
  · rw [if_neg h, if_neg (by simp [h])]
theorem undr_app (b : Bool) (L M : List Pl) : undr b (L ++ M) = undr b L ++ undr b M := by
  unfold undr
  rw [List.filter_append, List.map_append]
theorem undr_end (b : Bool) (L : List Pl) : undr b (L ++ [[]]) = undr b L := by
  rw [undr_app]
  show undr b L ++ [] = _
  rw [List.append_nil]
theorem undr_front (b : Bool) (L : List Pl) : undr b ([] :: L) = undr b L := rfl
theorem seq_ap (ms : List Mk) : ∀ (L : List Pl) {f a f' a' : Wd}, [] ∉ L → seqS ms f (undr true L) = some f' → seqS ms a (undr false L) = some a' → seqS ms (.ap f a) L = some (.ap f' a')
  | [], f, a, f', a', _, h1, h2 => by cases h1; cases h2; rfl
  | [] :: r, f, a, f', a', hn, h1, h2 => absurd List.mem_cons_self hn
  | (true :: p) :: r, f, a, f', a', hn, h1, h2 => by
    rw [undr_cons, if_pos rfl] at h1
    rw [undr_cons, if_neg (by decide)] at h2
    have h1' : (stp ms f p).bind (fun w' => seqS ms w' (undr true r)) = some f' := h1
    cases q : stp ms f p with
    | none => rw [q] at h1'; cases h1'
    | some f1 =>
      rw [q] at h1'
      show ((stp ms f p).map fun f' => Wd.ap f' a).bind _ = _
      rw [q]
      exact seq_ap ms r (fun h => hn (List.mem_cons_of_mem _ h)) h1' h2
  | (false :: p) :: r, f, a, f', a', hn, h1, h2 => by
    rw [undr_cons, if_neg (by decide)] at h1
    rw [undr_cons, if_pos rfl] at h2
    have h2' : (stp ms a p).bind (fun w' => seqS ms w' (undr false r)) = some a' := h2
    cases q : stp ms a p with
    | none => rw [q] at h2'; cases h2'
    | some f1 =>
      rw [q] at h2'
      show ((stp ms a p).map fun f' => Wd.ap f f').bind _ = _
      rw [q]
      exact seq_ap ms r (fun h => hn (List.mem_cons_of_mem _ h)) h1 h2'
def Down (L : List Pl) : Prop := L.Pairwise fun p q => q.length ≤ p.length
theorem down_undr {b : Bool} : ∀ {L : List Pl}, Down L → Down (undr b L)
  | [], _ => List.Pairwise.nil
  | [] :: r, h => down_undr (L := r) (List.pairwise_cons.mp h).2
  | (c :: p) :: r, h => by
    obtain ⟨h1, h2⟩ := List.pairwise_cons.mp h
    rw [undr_cons]
    split
    · rename_i e
      subst e
      refine List.pairwise_cons.mpr ⟨fun q hq => ?_, down_undr h2⟩
      have := h1 _ (mem_undr.mp hq)
      simpa using this
    · exact down_undr h2
theorem nodup_undr {b : Bool} : ∀ {L : List Pl}, L.Nodup → (undr b L).Nodup
  | [], _ => List.nodup_nil
  | [] :: r, h => nodup_undr (L := r) (List.nodup_cons.mp h).2
  | (c :: p) :: r, h => by
    obtain ⟨h1, h2⟩ := List.nodup_cons.mp h
    rw [undr_cons]
    split
    · rename_i e
      subst e
      exact List.nodup_cons.mpr ⟨fun q => h1 (mem_undr.mp q), nodup_undr h2⟩
    · exact nodup_undr h2
theorem down_last : ∀ {L : List Pl}, L.Nodup → Down L → [] ∈ L → ∃ M, L = M ++ [[]] ∧ [] ∉ M
  | p :: r, nd, dn, h => by
    obtain ⟨n1, n2⟩ := List.nodup_cons.mp nd
    obtain ⟨d1, d2⟩ := List.pairwise_cons.mp dn
    by_cases e : p = []
    · subst e
      cases r with
      | nil => exact ⟨[], rfl, by simp⟩
      | cons q t =>
        have := d1 q List.mem_cons_self
        have e : q = [] := List.eq_nil_of_length_eq_zero (by simpa using this)
        exact absurd (e ▸ List.mem_cons_self) n1
    · rcases List.mem_cons.mp h with z | z
      · exact absurd z.symm e
      · obtain ⟨M, e1, e2⟩ := down_last n2 d2 z
        exact ⟨p :: M, by rw [e1]; rfl, fun q => by
          rcases List.mem_cons.mp q with q | q
          · exact e q.symm
          · exact e2 q⟩
theorem seq_onc {ms : List Mk} (hm : MsOk ms) : ∀ (w : Wd) (L : List Pl), L.Nodup → Down L → (∀ p ∈ L, p ∈ plcs ms w) → seqS ms w L = onc ms w L
  | .lf s, L, nd, dn, hp => by
    have e : L = [] := by
      cases L with
      | nil => rfl
      | cons p r =>
        have := hp p List.mem_cons_self
        unfold plcs own at this
        rw [can_lf hm] at this
        cases this
    subst e
    rfl
  | .ap f a, L, nd, dn, hp => by
    have p1 : ∀ p ∈ undr true L, p ∈ plcs ms f := fun p h => by
      have := plcs_ap.mp (hp _ (mem_undr.mp h))
      exact this
    have p2 : ∀ p ∈ undr false L, p ∈ plcs ms a := fun p h => by
      have := plcs_ap.mp (hp _ (mem_undr.mp h))
      exact this
    obtain ⟨f', o1⟩ := onc_some p1
    obtain ⟨a', o2⟩ := onc_some p2
    have i1 := (seq_onc hm f _ (nodup_undr nd) (down_undr dn) p1).trans o1
    have i2 := (seq_onc hm a _ (nodup_undr nd) (down_undr dn) p2).trans o2
    rw [onc_ap o1 o2]
    by_cases h : [] ∈ L
    · obtain ⟨M, rfl, hM⟩ := down_last nd dn h
      rw [undr_end] at i1 i2
      rw [if_pos h, seq_app, seq_ap ms M hM i1 i2]
      show (stp ms (.ap f' a') []).bind (fun w' => some w') = _
      rw [stp_nil]
      cases can ms (.ap f' a') <;> rfl
    · rw [if_neg h, seq_ap ms L h i1 i2]
/-- what steps at once lead to is what some places lead to -/
theorem par_onc {ms : List Mk} {v u : Wd} (h : Par ms v u) : ∃ S, (∀ p ∈ S, p ∈ plcs ms v) ∧ onc ms v S = some u := by
  have both : ∀ {f a : Wd} {S1 S2 : List Pl}, (∀ p ∈ S1, p ∈ plcs ms f) → (∀ p ∈ S2, p ∈ plcs ms a) → ∀ p ∈ S1.map (true :: ·) ++ S2.map (false :: ·), p ∈ plcs ms (.ap f a) := fun {f a S1 S2} h1 h2 p hp => by
    rcases List.mem_append.mp hp with q | q
    · obtain ⟨r, hr, rfl⟩ := List.mem_map.mp q
      exact plcs_ap.mpr (h1 r hr)
    · obtain ⟨r, hr, rfl⟩ := List.mem_map.mp q
      exact plcs_ap.mpr (h2 r hr)
  have u1 : ∀ S1 S2 : List Pl, undr true (S1.map (true :: ·) ++ S2.map (false :: ·)) = S1 := fun S1 S2 => by
    rw [undr_app, undr_map, undr_map, if_pos rfl, if_neg (by decide), List.append_nil]
  have u2 : ∀ S1 S2 : List Pl, undr false (S1.map (true :: ·) ++ S2.map (false :: ·)) = S2 := fun S1 S2 => by
    rw [undr_app, undr_map, undr_map, if_neg (by decide), if_pos rfl]; rfl
  have nn : ∀ S1 S2 : List Pl, [] ∉ S1.map (true :: ·) ++ S2.map (false :: ·) := fun S1 S2 q => by
    rcases List.mem_append.mp q with q | q
    · obtain ⟨r, _, e⟩ := List.mem_map.mp q
      cases e
    · obtain ⟨r, _, e⟩ := List.mem_map.mp q
      cases e
  induction h with
  | lf s => exact ⟨[], fun p hp => by (cases hp), rfl⟩
  | @ap f f' a a' h1 h2 i1 i2 =>
    obtain ⟨S1, p1, o1⟩ := i1
    obtain ⟨S2, p2, o2⟩ := i2
    refine ⟨S1.map (true :: ·) ++ S2.map (false :: ·), both p1 p2, ?_⟩
    rw [onc_ap (by rw [u1]; exact o1) (by rw [u2]; exact o2), if_neg (nn S1 S2)]
  | @act f f' a a' m h1 h2 hc i1 i2 =>
    obtain ⟨S1, p1, o1⟩ := i1
    obtain ⟨S2, p2, o2⟩ := i2
    refine ⟨[] :: (S1.map (true :: ·) ++ S2.map (false :: ·)), fun p hp => ?_, ?_⟩
    · rcases List.mem_cons.mp hp with rfl | hp
      · exact plcs_nil.mpr (by rw [hc]; rfl)
      · exact both p1 p2 p hp
    · rw [onc_ap (f' := f') (a' := a') (by rw [undr_front, u1]; exact o1) (by rw [undr_front, u2]; exact o2), if_pos List.mem_cons_self]
      obtain ⟨q, _⟩ := par_can hc h1 h2
      rw [q]; rfl
theorem dev_ap (ms : List Mk) (f a : Wd) : dev ms (.ap f a) = match can ms (.ap f a) with
    | some m => m.deed.act ((dev ms f).args ++ [dev ms a])
    | none => .ap (dev ms f) (dev ms a) := rfl
theorem onc_dev {ms : List Mk} (hm : ∀ m ∈ ms, MkOk m) : ∀ w : Wd, onc ms w (plcs ms w) = some (dev ms w)
  | .lf s => rfl
  | .ap f a => by
    have h1 := onc_dev hm f
    have h2 := onc_dev hm a
    have q1 : onc ms f (undr true (plcs ms (.ap f a))) = some (dev ms f) := by
      rw [← h1]
      exact onc_congr ms f fun p => by rw [mem_undr, plcs_ap]; exact Iff.rfl
    have q2 : onc ms a (undr false (plcs ms (.ap f a))) = some (dev ms a) := by
      rw [← h2]
      exact onc_congr ms a fun p => by rw [mem_undr, plcs_ap]; exact Iff.rfl
    rw [onc_ap q1 q2, dev_ap]
    cases q : can ms (.ap f a) with
    | none =>
      rw [if_neg]
      intro h
      have := plcs_nil.mp h
      rw [q] at this
      cases this
    | some m =>
      rw [if_pos (plcs_nil.mpr (by rw [q]; rfl))]
      obtain ⟨z, _⟩ := par_can q (tri hm (Par.refl ms f)) (tri hm (Par.refl ms a))
      rw [z]; rfl
/-- behind some steps at once, all that could be done at once is come to by some -/
theorem comes_ex {ms : List Mk} (hm : ∀ m ∈ ms, MkOk m) {w v W : Wd} {S A : List Pl} (hS : ∀ p ∈ S, p ∈ plcs ms w) (h : onc ms w S = some v) (hA : ∀ p, p ∈ A ↔ p ∈ plcs ms w) (hW : onc ms w A = some W) : ∃ R, (∀ p ∈ R, p ∈ plcs ms v) ∧ onc ms v R = some W := by
  have e : W = dev ms w := by
    rw [onc_congr ms w hA, onc_dev hm] at hW
    exact (Option.some.inj hW).symm
  subst e
  exact par_onc (tri hm (onc_par hS h))
/-! ### a number tells some of a list -/
def pickN {α : Type} : Nat → List α → List α
  | _, [] => []
  | n, x :: r => if n % 2 = 1 then x :: pickN (n / 2) r else pickN (n / 2) r
theorem pickN_mem {α : Type} : ∀ (l : List α) (n : Nat) (x : α), x ∈ pickN n l → x ∈ l
  | [], _, _, h => by cases h
  | y :: r, n, x, h => by
    unfold pickN at h
    split at h
    · rcases List.mem_cons.mp h with h | h
      · rw [h]; exact List.mem_cons_self
      · exact List.mem_cons_of_mem _ (pickN_mem r _ x h)
    · exact List.mem_cons_of_mem _ (pickN_mem r _ x h)
theorem pickN_len {α : Type} : ∀ (l : List α) (n : Nat), (pickN n l).length ≤ l.length
  | [], _ => Nat.le_refl _
  | y :: r, n => by
    have := pickN_len r (n / 2)
    unfold pickN
    split
    · simp only [List.length_cons]; omega
    · simp only [List.length_cons]; omega
theorem pickN_ex {α : Type} [DecidableEq α] (S : List α) : ∀ (l : List α), l.Nodup → ∃ n, n < 2 ^ l.length ∧ ∀ x ∈ l, (x ∈ pickN n l ↔ x ∈ S)
  | [], _ => ⟨0, Nat.one_pos, fun x h => by (cases h)⟩
  | y :: r, nd => by
    obtain ⟨n1, n2⟩ := List.nodup_cons.mp nd
    obtain ⟨n, h1, h2⟩ := pickN_ex S r n2
    by_cases hy : y ∈ S
    · refine ⟨2 * n + 1, by rw [List.length_cons, Nat.pow_succ]; omega, fun x hx => ?_⟩
      have e : pickN (2 * n + 1) (y :: r) = y :: pickN n r := by
        show (if (2 * n + 1) % 2 = 1 then _ else _) = _
        rw [if_pos (by omega), show (2 * n + 1) / 2 = n by omega]
      rw [e]
      rcases List.mem_cons.mp hx with rfl | hx
      · exact ⟨fun _ => hy, fun _ => List.mem_cons_self⟩
      · rw [← h2 x hx]
        refine ⟨fun h => ?_, fun h => List.mem_cons_of_mem _ h⟩
        rcases List.mem_cons.mp h with e | h
        · exact absurd (e ▸ hx) n1
        · exact h
    · refine ⟨2 * n, by rw [List.length_cons, Nat.pow_succ]; omega, fun x hx => ?_⟩
      have e : pickN (2 * n) (y :: r) = pickN n r := by
        show (if (2 * n) % 2 = 1 then _ else _) = _
        rw [if_neg (by omega), show 2 * n / 2 = n by omega]
      rw [e]
      rcases List.mem_cons.mp hx with rfl | hx
      · exact ⟨fun h => absurd (pickN_mem r n x h) n1, fun h => absurd h hy⟩
      · exact h2 x hx
theorem nodup_inj {α β : Type} {f : α → β} (hf : ∀ x y, f x = f y → x = y) : ∀ {l : List α}, l.Nodup → (l.map f).Nodup
  | [], _ => List.nodup_nil
  | x :: r, h => by
    obtain ⟨h1, h2⟩ := List.nodup_cons.mp h
    refine List.nodup_cons.mpr ⟨fun q => ?_, nodup_inj hf h2⟩
    obtain ⟨y, hy, e⟩ := List.mem_map.mp q
    exact h1 (hf y x e ▸ hy)
theorem plcs_nodup (ms : List Mk) : ∀ w : Wd, (plcs ms w).Nodup
  | .lf s => by
    unfold plcs own
    cases can ms (.lf s) <;> simp
  | .ap f a => by
    have h1 := plcs_nodup ms f
    have h2 := plcs_nodup ms a
    unfold plcs
    refine List.nodup_append.mpr ⟨List.nodup_append.mpr ⟨?_, ?_, ?_⟩, ?_, ?_⟩
    · unfold own
      cases can ms (.ap f a) <;> simp
    · exact nodup_inj (fun x y e => (List.cons.inj e).2) h1
    · intro x hx y hy e
      subst e
      obtain ⟨r, _, rfl⟩ := List.mem_map.mp hy
      unfold own at hx
      cases q : can ms (.ap f a) <;> rw [q] at hx <;> simp at hx
    · exact nodup_inj (fun x y e => (List.cons.inj e).2) h2
    · intro x hx y hy e
      subst e
      obtain ⟨r, _, rfl⟩ := List.mem_map.mp hy
      rcases List.mem_append.mp hx with z | z
      · unfold own at z
        cases q : can ms (.ap f a) <;> rw [q] at z <;> simp at z
      · obtain ⟨t, _, e⟩ := List.mem_map.mp z
        cases e
end MW

set_option maxRecDepth 100000
/-! Part 4l: how great words become by first steps. -/
namespace MW
open PySem PySem.Spec PyProof.Rows L2
open Res
/-- the greatest thing that stands behind something -/
def bfl : Wd → Nat
  | .lf _ => 0
  | .ap f a => max (max (bfl f) (bfl a)) a.size
theorem bfl_lt : ∀ w : Wd, bfl w < w.size
  | .lf _ => Nat.one_pos
  | .ap f a => by
    have h1 := bfl_lt f
    have h2 := bfl_lt a
    have h3 := f.size_pos
    have h4 := a.size_pos
    show max (max (bfl f) (bfl a)) a.size < f.size + a.size
    omega
theorem bfl_args : ∀ {w x : Wd}, x ∈ w.args → x.size ≤ bfl w ∧ bfl x ≤ bfl w
  | .ap f a, x, h => by
    show x.size ≤ max (max (bfl f) (bfl a)) a.size ∧ bfl x ≤ max (max (bfl f) (bfl a)) a.size
    rcases List.mem_append.mp h with h | h
    · have := bfl_args (w := f) h
      omega
    · rw [List.mem_singleton.mp h]
      omega
theorem act_bfl {bs : List Wd} {b : Nat} (hb : ∀ x ∈ bs, x.size ≤ b ∧ bfl x ≤ b) : ∀ {d : Dd}, d.bd bs.length → bfl (d.act bs) ≤ b * d.size ∧ (d.act bs).size ≤ b * d.size ∧ (∀ f a, d = .p f a → bfl (d.act bs) ≤ b * (d.size - 1))
  | .v i, h => by
    have e : bs.getD i (.lf (ofL [])) = bs[i] := by rw [List.getD_eq_getElem?_getD, List.getElem?_eq_getElem h]; rfl
    have := hb _ (List.getElem_mem h)
    refine ⟨?_, ?_, fun f a q => by cases q⟩
    · show bfl (bs.getD i (.lf (ofL []))) ≤ b * 1
      rw [e]; omega
    · show (bs.getD i (.lf (ofL []))).size ≤ b * 1
      rw [e]; omega
  | .p f a, h => by
    obtain ⟨f1, f2, f3⟩ := act_bfl hb (d := f) h.1
    obtain ⟨a1, a2, a3⟩ := act_bfl hb (d := a) h.2
    have p1 := f.size_pos
    have p2 := a.size_pos
    have key : bfl (Dd.act bs (.p f a)) ≤ b * (f.size + a.size - 1) := by
      show max (max (bfl (f.act bs)) (bfl (a.act bs))) (a.act bs).size ≤ _
      have g1 : b * f.size ≤ b * (f.size + a.size - 1) := Nat.mul_le_mul_left b (by omega)
      have g2 : b * a.size ≤ b * (f.size + a.size - 1) := Nat.mul_le_mul_left b (by omega)
      omega
    refine ⟨Nat.le_trans key (Nat.mul_le_mul_left b (Nat.sub_le _ _)), ?_, fun _ _ _ => key⟩
    show (f.act bs).size + (a.act bs).size ≤ b * (f.size + a.size)
    rw [Nat.mul_add]
    omega
/-- the greatest thing that may yet be taken -/
def live (ms : List Mk) (b : Nat) : Wd → Prop
  | .lf _ => True
  | .ap f a => bfl (.ap f a) ≤ b ∨ (Few ms (.ap f a) ∧ live ms b f ∧ live ms b a)
theorem live_bfl {ms : List Mk} {b : Nat} : ∀ {w : Wd}, bfl w ≤ b → live ms b w
  | .lf _, _ => True.intro
  | .ap f a, h => .inl h
theorem live_mono {ms : List Mk} {b c : Nat} (h : b ≤ c) : ∀ {w : Wd}, live ms b w → live ms c w
  | .lf _, _ => True.intro
  | .ap f a, q => by
    rcases q with q | ⟨q1, q2, q3⟩
    · exact .inl (Nat.le_trans q h)
    · exact .inr ⟨q1, live_mono h q2, live_mono h q3⟩
theorem nx_of {ms : List Mk} {w : Wd} {p : Pl} {w' : Wd} (h1 : fst ms w = some p) (h2 : stp ms w p = some w') : nx ms w = some w' := by
  unfold nx
  rw [h1]
  exact h2
theorem few_ap {ms : List Mk} {f a : Wd} (h : ¬ Few ms (.ap f a)) (hc : can ms (.ap f a) = none) : ¬ Few ms f := by
  intro q
  apply h
  intro m hm
  have e : fnd ms f.hd = some m := hm
  have l := q m e
  have e2 : (Wd.ap f a).args.length = f.args.length + 1 := by
    show (f.args ++ [a]).length = _
    rw [List.length_append]; rfl
  rw [e2]
  by_cases z : m.many = f.args.length + 1
  · have : can ms (.ap f a) = some m := can_of hm (by rw [e2]; exact z)
    rw [this] at hc; cases hc
  · omega
theorem not_few {ms : List Mk} (hm : MsOk ms) (s : Str) : Few ms (.lf s) := fun m h => by
  have := (hm.ok m (fnd_mem h).1).lo
  show 0 < m.many
  omega
/-- a step at the spine -/
theorem grow_spine {ms : List Mk} (hm : MsOk ms) {b : Nat} : ∀ {w w' : Wd}, bfl w ≤ b → ¬ Few ms w → nx ms w = some w' → bfl w' ≤ 3 * b ∧ w'.size ≤ w.size + 3 * b
  | .lf s, w', _, nf, _ => absurd (not_few hm s) nf
  | .ap f a, w', hb, nf, h => by
    have hb' : max (max (bfl f) (bfl a)) a.size ≤ b := hb
    cases q : can ms (.ap f a) with
    | some m =>
      have e0 : fst ms (.ap f a) = some [] := by unfold fst; rw [q]
      have e1 : stp ms (.ap f a) [] = some (m.deed.act (Wd.ap f a).args) := by rw [stp_nil, q]; rfl
      rw [nx_of e0 e1] at h
      cases h
      obtain ⟨c1, _, c3⟩ := can_spec q
      have o := hm.ok m c1
      have sz := o.sz
      have bd := o.bd
      rw [c3] at bd
      obtain ⟨g1, g2, g3⟩ := act_bfl (b := b) (fun x hx => by have := bfl_args hx; exact ⟨Nat.le_trans this.1 hb, Nat.le_trans this.2 hb⟩) bd
      have s1 : (m.deed.act (Wd.ap f a).args).size ≤ b * 4 := Nat.le_trans g2 (Nat.mul_le_mul_left b sz)
      refine ⟨?_, ?_⟩
      · cases qd : m.deed with
        | v i =>
          rw [qd] at g1
          have : bfl (Dd.act (Wd.ap f a).args (.v i)) ≤ b * 1 := g1
          omega
        | p x y =>
          rw [qd] at g3 sz
          have := g3 x y rfl
          have k : b * ((Dd.p x y).size - 1) ≤ b * 3 := Nat.mul_le_mul_left b (by omega)
          omega
      · -- the redex itself goes
        have ha := hb'
        cases qd : m.deed with
        | v i =>
          rw [qd] at g2
          have : (Dd.act (Wd.ap f a).args (.v i)).size ≤ b * 1 := g2
          show _ ≤ f.size + a.size + 3 * b
          omega
        | p x y =>
          -- four copies at most, one of which was there
          have big : ∃ t ∈ (Wd.ap f a).args, (m.deed.act (Wd.ap f a).args).size ≤ t.size * 4 := by
            have : ∀ (ts : List Wd), ts ≠ [] → ∃ t ∈ ts, ∀ x ∈ ts, x.size ≤ t.size := fun ts => by
              induction ts with
              | nil => intro h; exact absurd rfl h
              | cons t r ih =>
                intro _
                cases r with
                | nil => exact ⟨t, List.mem_cons_self, fun x hx => by rw [List.mem_singleton.mp hx]; exact Nat.le_refl _⟩
                | cons u v =>
                  obtain ⟨z, z1, z2⟩ := ih (by simp)
                  by_cases hz : z.size ≤ t.size
                  · exact ⟨t, List.mem_cons_self, fun x hx => by
                      rcases List.mem_cons.mp hx with rfl | hx
                      · exact Nat.le_refl _
                      · exact Nat.le_trans (z2 x hx) hz⟩
                  · exact ⟨z, List.mem_cons_of_mem _ z1, fun x hx => by
                      rcases List.mem_cons.mp hx with rfl | hx
                      · omega
                      · exact z2 x hx⟩
            obtain ⟨t, t1, t2⟩ := this (Wd.ap f a).args (by show f.args ++ [a] ≠ []; simp)
            refine ⟨t, t1, ?_⟩
            exact Nat.le_trans (Dd.act_size t2 bd) (Nat.mul_le_mul_left _ o.sz)
          obtain ⟨t, t1, t2⟩ := big
          rw [qd] at t2
          have z1 := (bfl_args t1).1
          have z2 : t.size ≤ (Wd.ap f a).size := args_size _ _ t1
          have z3 : t.size ≤ b := Nat.le_trans z1 hb
          show _ ≤ (Wd.ap f a).size + 3 * b
          omega
    | none =>
      have nf' := few_ap nf q
      rw [nx_ap q] at h
      cases q2 : nx ms f with
      | none =>
        -- a spine that can act is not at rest
        exfalso
        have key : ∀ {g : Wd}, ¬ Few ms g → nx ms g ≠ none := fun {g} => by
          induction g with
          | lf s => intro h; exact absurd (not_few hm s) h
          | ap f1 a1 i1 _ =>
            intro h z
            cases q3 : can ms (.ap f1 a1) with
            | some m =>
              have e0 : fst ms (.ap f1 a1) = some [] := by unfold fst; rw [q3]
              rw [nx_none, e0] at z
              cases z
            | none =>
              rw [nx_ap q3] at z
              cases q4 : nx ms f1 with
              | none => exact i1 (few_ap h q3) q4
              | some f2 => rw [q4] at z; cases z
        exact key nf' q2
      | some f' =>
        rw [q2] at h
        cases h
        obtain ⟨i1, i2⟩ := grow_spine hm (b := b) (w := f) (by omega) nf' q2
        refine ⟨?_, ?_⟩
        · show max (max (bfl f') (bfl a)) a.size ≤ 3 * b
          omega
        · show f'.size + a.size ≤ f.size + a.size + 3 * b
          omega
theorem grow_one {ms : List Mk} (hm : MsOk ms) {b : Nat} : ∀ {w w' : Wd}, live ms b w → nx ms w = some w' → live ms (3 * b) w' ∧ w'.size ≤ w.size + 3 * b
  | .lf s, w', _, h => by
    have : fst ms (.lf s) = none := by unfold fst; rw [can_lf hm]
    have z : nx ms (.lf s) = none := nx_none.mpr this
    rw [z] at h; cases h
  | .ap f a, w', hl, h => by
    by_cases fw : Few ms (.ap f a)
    · have hlf : live ms b f ∧ live ms b a := by
        rcases hl with hl | ⟨_, h1, h2⟩
        · have hl' : max (max (bfl f) (bfl a)) a.size ≤ b := hl
          exact ⟨live_bfl (by omega), live_bfl (by omega)⟩
        · exact ⟨h1, h2⟩
      have q := few_not fw
      rw [nx_ap q] at h
      cases q2 : nx ms f with
      | some f' =>
        rw [q2] at h
        cases h
        obtain ⟨i1, i2⟩ := grow_one hm hlf.1 q2
        have fwf := few_down fw
        obtain ⟨p, hp⟩ : ∃ p, fst ms f = some p := by
          cases z : fst ms f with
          | none => rw [nx_none.mpr z] at q2; cases q2
          | some p => exact ⟨p, rfl⟩
        have st : stp ms f p = some f' := by
          unfold nx at q2
          rw [hp] at q2
          exact q2
        obtain ⟨e1, e2⟩ := par_few (stp_par hm st) fwf
        have fw' : Few ms (.ap f' a) := fun m hm' => by
          have hm2 : fnd ms f'.hd = some m := hm'
          rw [e1] at hm2
          have := fw m hm2
          have l1 : (Wd.ap f a).args.length = f.args.length + 1 := by
            show (f.args ++ [a]).length = _
            rw [List.length_append]; rfl
          have l2 : (Wd.ap f' a).args.length = f'.args.length + 1 := by
            show (f'.args ++ [a]).length = _
            rw [List.length_append]; rfl
          rw [l1] at this
          rw [l2, ← e2.length]
          exact this
        refine ⟨.inr ⟨fw', i1, live_mono (by omega) hlf.2⟩, ?_⟩
        show f'.size + a.size ≤ f.size + a.size + 3 * b
        omega
      | none =>
        rw [q2] at h
        cases q3 : nx ms a with
        | none => rw [q3] at h; cases h
        | some a' =>
          rw [q3] at h
          cases h
          obtain ⟨i1, i2⟩ := grow_one hm hlf.2 q3
          have fw' : Few ms (.ap f a') := fun m hm' => by
            have := fw m hm'
            have l1 : (Wd.ap f a).args.length = (Wd.ap f a').args.length := by
              show (f.args ++ [a]).length = (f.args ++ [a']).length
              rw [List.length_append, List.length_append]; rfl
            rw [← l1]
            exact this
          refine ⟨.inr ⟨fw', live_mono (by omega) hlf.1, i1⟩, ?_⟩
          show f.size + a'.size ≤ f.size + a.size + 3 * b
          omega
    · rcases hl with hl | ⟨z, _⟩
      · obtain ⟨i1, i2⟩ := grow_spine hm hl fw h
        exact ⟨live_bfl i1, i2⟩
      · exact absurd z fw
theorem grow_gos {ms : List Mk} (hm : MsOk ms) : ∀ {n b : Nat} {w e : Wd}, live ms b w → Gos ms n w e → 2 * e.size + 3 * b ≤ 2 * w.size + 3 * b * 3 ^ n
  | 0, b, w, e, _, h => by
    have h' : e = w ∨ w = e := by
      first
        | exact .inl h
        | exact .inr h
    rcases h' with rfl | rfl <;> simp
  | n + 1, b, w, e, hl, h => by
    obtain ⟨w', h1, h2⟩ := h
    obtain ⟨i1, i2⟩ := grow_one hm hl h1
    have ih := grow_gos hm (b := 3 * b) i1 h2
    have e3 : 3 * b * 3 ^ (n + 1) = 3 * (3 * b) * 3 ^ n := by
      rw [Nat.pow_succ, Nat.mul_comm (3 ^ n) 3, ← Nat.mul_assoc, Nat.mul_comm (3 * b) 3]
    rw [e3]
    omega
end MW

set_option maxRecDepth 100000
/-! Part 4m: marked makers; what is left of places behind steps at others. -/
namespace MW
open PySem PySem.Spec PyProof.Rows L2
open Res
/-- a sign, without a mark -/
def um1 (s : Str) : Str := ofL (s.cps.toList.take 1)
def mk1 (s : Str) : Bool := s.cps.toList.getLast? == some 33
def mark1 (s : Str) : Str := ofL (s.cps.toList.take 1 ++ [33])
def um : Wd → Wd
  | .lf s => .lf (um1 s)
  | .ap f a => .ap (um f) (um a)
/-- a sign that is no mark -/
def Al (s : Str) : Prop := ∃ c : Nat, s = ofL [c] ∧ 65 ≤ c ∧ c < 127
theorem Al.sg {s : Str} (h : Al s) : Sg s := by
  obtain ⟨c, e, h1, h2⟩ := h
  exact ⟨c, e, by omega, by omega⟩
theorem Al.um {s : Str} (h : Al s) : um1 s = s := by
  obtain ⟨c, rfl, h1, h2⟩ := h
  rfl
theorem Al.mk {s : Str} (h : Al s) : mk1 s = false := by
  obtain ⟨c, rfl, h1, h2⟩ := h
  show (some c == some 33) = false
  simp; omega
theorem Al.umm {s : Str} (h : Al s) : um1 (mark1 s) = s := by
  obtain ⟨c, rfl, h1, h2⟩ := h
  rfl
theorem Al.mkm {s : Str} (h : Al s) : mk1 (mark1 s) = true := by
  obtain ⟨c, rfl, h1, h2⟩ := h
  rfl
theorem Al.mm {s : Str} (h : Al s) : mark1 (mark1 s) = mark1 s := by
  obtain ⟨c, rfl, h1, h2⟩ := h
  rfl
theorem um_hd : ∀ w : Wd, (um w).hd = um1 w.hd
  | .lf s => rfl
  | .ap f a => um_hd f
theorem um_args : ∀ w : Wd, (um w).args = w.args.map um
  | .lf s => rfl
  | .ap f a => by
    show (um f).args ++ [um a] = (f.args ++ [a]).map um
    rw [um_args f, List.map_append]; rfl
theorem um_len (w : Wd) : (um w).args.length = w.args.length := by rw [um_args, List.length_map]
theorem ap_len (f a : Wd) : (Wd.ap f a).args.length = f.args.length + 1 := by
  show (f.args ++ [a]).length = _
  rw [List.length_append]; rfl
theorem act_map (g : Wd → Wd) (hg : ∀ f a, g (.ap f a) = .ap (g f) (g a)) (bs : List Wd) : ∀ {d : Dd}, d.bd bs.length → g (d.act bs) = d.act (bs.map g)
  | .v i, h => by
    show g (bs.getD i (.lf (ofL []))) = (bs.map g).getD i (.lf (ofL []))
    rw [List.getD_eq_getElem?_getD, List.getElem?_eq_getElem h, List.getD_eq_getElem?_getD, List.getElem?_map, List.getElem?_eq_getElem h]; rfl
  | .p a b, h => by
    show g (.ap (a.act bs) (b.act bs)) = .ap (a.act (bs.map g)) (b.act (bs.map g))
    rw [hg, act_map g hg bs h.1, act_map g hg bs h.2]
theorem um_act {bs : List Wd} {d : Dd} (h : d.bd bs.length) : um (d.act bs) = d.act (bs.map um) := act_map um (fun _ _ => rfl) bs h
theorem um_al : ∀ {w : Wd}, w.All Al → um w = w
  | .lf s, h => by show Wd.lf (um1 s) = _; rw [Al.um h]
  | .ap f a, h => by show Wd.ap (um f) (um a) = _; rw [um_al h.1, um_al h.2]
/-- a marked maker that can act -/
def mcan (ms : List Mk) (w : Wd) : Option Mk := if mk1 w.hd = true then can ms (um w) else none
def mp (ms : List Mk) : Wd → List Pl
  | .lf _ => []
  | .ap f a => (if (mcan ms (.ap f a)).isSome = true then [[]] else []) ++ (mp ms f).map (true :: ·) ++ (mp ms a).map (false :: ·)
/-- steps at once in a marked word -/
def oncM (ms : List Mk) : Wd → List Pl → Option Wd
  | .lf s, _ => some (.lf s)
  | .ap f a, S => match oncM ms f (undr true S), oncM ms a (undr false S) with
    | some f', some a' => if [] ∈ S then (can ms (um (.ap f' a'))).map fun m => m.deed.act (Wd.ap f' a').args else some (.ap f' a')
    | _, _ => none
theorem oncM_ap {ms : List Mk} {f a f' a' : Wd} {S : List Pl} (h1 : oncM ms f (undr true S) = some f') (h2 : oncM ms a (undr false S) = some a') : oncM ms (.ap f a) S = if [] ∈ S then (can ms (um (.ap f' a'))).map fun m => m.deed.act (Wd.ap f' a').args else some (.ap f' a') := by
  show (match oncM ms f (undr true S), oncM ms a (undr false S) with | some f', some a' => _ | _, _ => _) = _
  rw [h1, h2]
/-- all marked makers act -/
def dm (ms : List Mk) : Wd → Wd
  | .lf s => .lf (um1 s)
  | .ap f a => match mcan ms (.ap f a) with
    | some m => m.deed.act (Wd.ap (dm ms f) (dm ms a)).args
    | none => .ap (dm ms f) (dm ms a)
theorem dm_some {ms : List Mk} {f a : Wd} {m : Mk} (h : mcan ms (.ap f a) = some m) : dm ms (.ap f a) = m.deed.act (Wd.ap (dm ms f) (dm ms a)).args := by
  show (match mcan ms (.ap f a) with | some m => _ | none => _) = _
  rw [h]
theorem dm_none {ms : List Mk} {f a : Wd} (h : mcan ms (.ap f a) = none) : dm ms (.ap f a) = .ap (dm ms f) (dm ms a) := by
  show (match mcan ms (.ap f a) with | some m => _ | none => _) = _
  rw [h]
def mkw : Wd → List Pl → Bool → Wd
  | .lf s, _, b => .lf (if b = true then mark1 s else s)
  | .ap f a, S, b => .ap (mkw f (undr true S) (b || decide ([] ∈ S))) (mkw a (undr false S) false)
/-- each marked maker has its things, with k more behind -/
def sat (ms : List Mk) : Wd → Nat → Prop
  | .lf s, k => mk1 s = true → ∃ m, fnd ms (um1 s) = some m ∧ m.many ≤ k
  | .ap f a, k => sat ms f (k + 1) ∧ sat ms a 0
theorem sat_mono {ms : List Mk} : ∀ {w : Wd} {k j : Nat}, k ≤ j → sat ms w k → sat ms w j
  | .lf s, k, j, h, q => fun z => by
    obtain ⟨m, h1, h2⟩ := q z
    exact ⟨m, h1, by omega⟩
  | .ap f a, k, j, h, q => ⟨sat_mono (by omega) q.1, q.2⟩
theorem sat_hd {ms : List Mk} : ∀ {w : Wd} {k : Nat}, sat ms w k → mk1 w.hd = true → ∃ m, fnd ms (um1 w.hd) = some m ∧ m.many ≤ w.args.length + k
  | .lf s, k, h, q => by
    obtain ⟨m, h1, h2⟩ := h q
    exact ⟨m, h1, by show m.many ≤ 0 + k; omega⟩
  | .ap f a, k, h, q => by
    obtain ⟨m, h1, h2⟩ := sat_hd (w := f) h.1 q
    exact ⟨m, h1, by rw [ap_len]; omega⟩
theorem sat_args {ms : List Mk} : ∀ {w : Wd} {k : Nat}, sat ms w k → ∀ x ∈ w.args, sat ms x 0
  | .lf s, k, _, x, hx => by cases hx
  | .ap f a, k, h, x, hx => by
    rcases List.mem_append.mp hx with q | q
    · exact sat_args h.1 x q
    · rw [List.mem_singleton.mp q]; exact h.2
theorem act_at {bs : List Wd} {i : Nat} (h : i < bs.length) : Dd.act bs (.v i) = bs[i] := by
  show bs.getD i (.lf (ofL [])) = bs[i]
  rw [List.getD_eq_getElem?_getD, List.getElem?_eq_getElem h]; rfl
theorem sat_act {ms : List Mk} {bs : List Wd} (hb : ∀ x ∈ bs, sat ms x 0) : ∀ {d : Dd} {k : Nat}, d.bd bs.length → sat ms (d.act bs) k
  | .v i, k, h => by
    rw [act_at h]
    exact sat_mono (Nat.zero_le _) (hb _ (List.getElem_mem h))
  | .p a b, k, h => ⟨sat_act hb h.1, sat_act hb h.2⟩
theorem mcan_sat {ms : List Mk} {f a : Wd} (h : sat ms f 0) : mcan ms (.ap f a) = none := by
  unfold mcan
  by_cases q : mk1 (Wd.ap f a).hd = true
  · rw [if_pos q]
    obtain ⟨m, h1, h2⟩ := sat_hd h q
    cases z : can ms (um (.ap f a)) with
    | none => rfl
    | some m' =>
      obtain ⟨c1, c2⟩ := can_fnd z
      rw [um_hd] at c1
      have : m = m' := Option.some.inj (h1.symm.trans c1)
      subst this
      rw [um_len, ap_len] at c2
      omega
  · rw [if_neg q]
theorem dm_act {ms : List Mk} {bs : List Wd} (hb : ∀ x ∈ bs, sat ms x 0) : ∀ {d : Dd}, d.bd bs.length → dm ms (d.act bs) = d.act (bs.map (dm ms))
  | .v i, h => by
    rw [act_at h, act_at (by rw [List.length_map]; exact h), List.getElem_map]
    rfl
  | .p a b, h => by
    show dm ms (.ap (a.act bs) (b.act bs)) = .ap (a.act (bs.map (dm ms))) (b.act (bs.map (dm ms)))
    rw [dm_none (mcan_sat (sat_act hb h.1)), dm_act hb h.1, dm_act hb h.2]
/-- the head has too few things, or no mark -/
def Fm (ms : List Mk) (f : Wd) : Prop := mk1 f.hd = true → ∀ m, fnd ms (um1 f.hd) = some m → f.args.length < m.many
theorem mcan_fm {ms : List Mk} {f : Wd} (h : Fm ms f) : mcan ms f = none := by
  unfold mcan
  by_cases q : mk1 f.hd = true
  · rw [if_pos q]
    cases z : can ms (um f) with
    | none => rfl
    | some m =>
      obtain ⟨c1, c2⟩ := can_fnd z
      rw [um_hd] at c1
      have := h q m c1
      rw [um_len] at c2
      omega
  · rw [if_neg q]
theorem dm_fm {ms : List Mk} : ∀ {f : Wd}, Fm ms f → (dm ms f).args = f.args.map (dm ms) ∧ (dm ms f).hd = um1 f.hd
  | .lf s, _ => ⟨rfl, rfl⟩
  | .ap f a, h => by
    have hf : Fm ms f := fun q m hm => by
      have := h q m hm
      rw [ap_len] at this
      omega
    obtain ⟨i1, i2⟩ := dm_fm hf
    rw [dm_none (mcan_fm h)]
    refine ⟨?_, i2⟩
    show (dm ms f).args ++ [dm ms a] = (f.args ++ [a]).map (dm ms)
    rw [i1, List.map_append]; rfl
/-! ### how deep marked makers lie in one another -/
def nd (ms : List Mk) : Wd → Nat
  | .lf _ => 0
  | .ap f a => max (nd ms f) (nd ms a) + if (mcan ms (.ap f a)).isSome = true then 1 else 0
def ndS : Wd → List Pl → Nat
  | .lf _, _ => 0
  | .ap f a, S => max (ndS f (undr true S)) (ndS a (undr false S)) + if [] ∈ S then 1 else 0
theorem nd_args {ms : List Mk} : ∀ {w x : Wd}, x ∈ w.args → nd ms x ≤ nd ms w
  | .ap f a, x, h => by
    have k : max (nd ms f) (nd ms a) ≤ nd ms (.ap f a) := Nat.le_add_right _ _
    rcases List.mem_append.mp h with q | q
    · have := nd_args (ms := ms) (w := f) q
      omega
    · rw [List.mem_singleton.mp q]
      omega
theorem nd_act {ms : List Mk} {bs : List Wd} {n : Nat} (hb : ∀ x ∈ bs, sat ms x 0) (hn : ∀ x ∈ bs, nd ms x ≤ n) : ∀ {d : Dd}, d.bd bs.length → nd ms (d.act bs) ≤ n
  | .v i, h => by
    rw [act_at h]
    exact hn _ (List.getElem_mem h)
  | .p a b, h => by
    show max (nd ms (a.act bs)) (nd ms (b.act bs)) + (if (mcan ms (.ap (a.act bs) (b.act bs))).isSome = true then 1 else 0) ≤ n
    rw [mcan_sat (sat_act hb h.1)]
    have h1 := nd_act hb hn h.1
    have h2 := nd_act hb hn h.2
    show max _ _ + 0 ≤ n
    omega
theorem own_nil {ms : List Mk} {f a : Wd} : [] ∈ plcs ms (.ap f a) ↔ ∃ m, can ms (.ap f a) = some m := by
  rw [mem_plcs, stp_nil]
  cases can ms (.ap f a) with
  | none => exact ⟨fun h => (by cases h), fun ⟨m, h⟩ => (by cases h)⟩
  | some m => exact ⟨fun _ => ⟨m, rfl⟩, fun _ => rfl⟩
/-- the head thing: what marks do, and what is left of them -/
theorem mark_main {ms : List Mk} (hm : MsOk ms) : ∀ (w : Wd) (S M : List Pl) (b : Bool), w.All Al → (∀ p ∈ S, p ∈ plcs ms w) → (∀ p ∈ M, p ∈ plcs ms w) → (∀ p ∈ S, p ∉ M) → (b = true → ∃ m, fnd ms w.hd = some m ∧ w.args.length < m.many) →
    ∃ v, oncM ms (mkw w S b) M = some v ∧ onc ms w M = some (um v) ∧ onc ms w (S ++ M) = some (dm ms v) ∧ nd ms v ≤ ndS w S ∧ (∀ k, (b = true → ∃ m, fnd ms w.hd = some m ∧ m.many ≤ w.args.length + k) → sat ms v k) ∧ (Few ms w → v.args.length = w.args.length ∧ um1 v.hd = w.hd ∧ mk1 v.hd = b)
  | .lf s, S, M, b, hw, hS, hM, hd, hb => by
    have ha : Al s := hw
    refine ⟨.lf (if b = true then mark1 s else s), rfl, ?_, ?_, Nat.le_refl _, fun k hk => ?_, fun _ => ⟨rfl, ?_, ?_⟩⟩
    · show some (Wd.lf s) = some (.lf (um1 (if b = true then mark1 s else s)))
      cases b
      · rw [if_neg (by decide), ha.um]
      · rw [if_pos rfl, ha.umm]
    · show some (Wd.lf s) = some (.lf (um1 (if b = true then mark1 s else s)))
      cases b
      · rw [if_neg (by decide), ha.um]
      · rw [if_pos rfl, ha.umm]
    · intro q
      cases b
      · rw [if_neg (by decide), ha.mk] at q; cases q
      · obtain ⟨m, h1, h2⟩ := hk rfl
        refine ⟨m, ?_, ?_⟩
        · rw [if_pos rfl, ha.umm]; exact h1
        · have : m.many ≤ 0 + k := h2
          omega
    · show um1 (if b = true then mark1 s else s) = s
      cases b
      · rw [if_neg (by decide), ha.um]
      · rw [if_pos rfl, ha.umm]
    · show mk1 (if b = true then mark1 s else s) = b
      cases b
      · rw [if_neg (by decide), ha.mk]
      · rw [if_pos rfl, ha.mkm]
  | .ap f a, S, M, b, hw, hS, hM, hd, hb => by
    have pS : ∀ c, ∀ p ∈ undr c S, (c :: p) ∈ plcs ms (.ap f a) := fun c p hp => hS _ (mem_undr.mp hp)
    have pM : ∀ c, ∀ p ∈ undr c M, (c :: p) ∈ plcs ms (.ap f a) := fun c p hp => hM _ (mem_undr.mp hp)
    have dj : ∀ c, ∀ p ∈ undr c S, p ∉ undr c M := fun c p hp q => hd _ (mem_undr.mp hp) (mem_undr.mp q)
    have hbf : (b || decide ([] ∈ S)) = true → ∃ m, fnd ms f.hd = some m ∧ f.args.length < m.many := fun q => by
      rcases Bool.or_eq_true _ _ ▸ q with q | q
      · obtain ⟨m, h1, h2⟩ := hb q
        rw [ap_len] at h2
        exact ⟨m, h1, by omega⟩
      · obtain ⟨m, h1⟩ := own_nil.mp (hS _ (of_decide_eq_true q))
        obtain ⟨c1, c2⟩ := can_fnd h1
        rw [ap_len] at c2
        exact ⟨m, c1, by omega⟩
    obtain ⟨vf, f1, f2, f3, f4, f5, f6⟩ := mark_main hm f (undr true S) (undr true M) (b || decide ([] ∈ S)) hw.1 (fun p hp => (plcs_ap (b := true)).mp (pS true p hp)) (fun p hp => (plcs_ap (b := true)).mp (pM true p hp)) (dj true) hbf
    obtain ⟨va, a1, a2, a3, a4, a5, a6⟩ := mark_main hm a (undr false S) (undr false M) false hw.2 (fun p hp => (plcs_ap (b := false)).mp (pS false p hp)) (fun p hp => (plcs_ap (b := false)).mp (pM false p hp)) (dj false) (fun q => by cases q)
    have sva : sat ms va 0 := a5 0 fun q => by cases q
    have e1 : mkw (.ap f a) S b = .ap (mkw f (undr true S) (b || decide ([] ∈ S))) (mkw a (undr false S) false) := rfl
    rw [← undr_app] at f3 a3
    -- where the head's maker can act
    have few : ∀ {m : Mk}, can ms (.ap f a) = some m → Few ms f := fun {m} h m' hm' => by
      obtain ⟨c1, c2⟩ := can_fnd h
      have : m = m' := Option.some.inj (c1.symm.trans hm')
      subst this
      rw [ap_len] at c2
      omega
    have mfm : (b || decide ([] ∈ S)) = true → Few ms f → Fm ms vf := fun q hf _ m hm' => by
      obtain ⟨g1, g2, _⟩ := f6 hf
      rw [g2] at hm'
      rw [g1]
      exact hf m hm'
    have canv : ∀ {m : Mk}, can ms (.ap f a) = some m → can ms (um (.ap vf va)) = some m := fun {m} h => by
      obtain ⟨c1, c2⟩ := can_fnd h
      obtain ⟨g1, g2, _⟩ := f6 (few h)
      refine can_of ?_ ?_
      · rw [um_hd]
        show fnd ms (um1 vf.hd) = _
        rw [g2]; exact c1
      · rw [um_len, ap_len, g1]
        rw [ap_len] at c2
        exact c2
    have cand : ∀ {m : Mk}, can ms (.ap f a) = some m → Fm ms vf → can ms (.ap (dm ms vf) (dm ms va)) = some m := fun {m} h q => by
      obtain ⟨c1, c2⟩ := can_fnd h
      obtain ⟨g1, g2, _⟩ := f6 (few h)
      obtain ⟨d1, d2⟩ := dm_fm q
      refine can_of ?_ ?_
      · show fnd ms (dm ms vf).hd = _
        rw [d2, g2]; exact c1
      · rw [ap_len, d1, List.length_map, g1]
        rw [ap_len] at c2
        exact c2
    by_cases nM : [] ∈ M
    · obtain ⟨m, cm⟩ := own_nil.mp (hM _ nM)
      have nS : [] ∉ S := fun q => hd _ q nM
      obtain ⟨c1, c2⟩ := can_fnd cm
      have b0 : b = false := by
        cases b with
        | false => rfl
        | true =>
          obtain ⟨m', h1, h2⟩ := hb rfl
          have : m = m' := Option.some.inj (c1.symm.trans h1)
          subst this
          omega
      have bf : (b || decide ([] ∈ S)) = false := by rw [b0, decide_eq_false nS]; rfl
      have hf := few cm
      obtain ⟨g1, g2, g3⟩ := f6 hf
      rw [bf] at g3
      have fm : Fm ms vf := fun q => by rw [g3] at q; cases q
      have svf : sat ms vf 1 := f5 1 fun q => by rw [bf] at q; cases q
      have sap : sat ms (.ap vf va) 0 := ⟨svf, sva⟩
      have om := hm.ok m (can_spec cm).1
      have bd : m.deed.bd (Wd.ap vf va).args.length := by
        have := om.bd
        rw [c2, ap_len] at this
        rw [ap_len, g1]
        exact this
      obtain ⟨d1, d2⟩ := dm_fm fm
      refine ⟨m.deed.act (Wd.ap vf va).args, ?_, ?_, ?_, ?_, fun k _ => sat_act (sat_args sap) bd, fun q => ?_⟩
      · rw [e1, oncM_ap f1 a1, if_pos nM, canv cm]; rfl
      · rw [onc_ap f2 a2, if_pos nM, um_act bd, ← um_args]
        have := canv cm
        show Option.map (fun m => m.deed.act (um (.ap vf va)).args) (can ms (um (.ap vf va))) = _
        rw [this]; rfl
      · rw [onc_ap f3 a3, if_pos (List.mem_append_right _ nM), cand cm fm, dm_act (sat_args sap) bd]
        show some (m.deed.act ((dm ms vf).args ++ [dm ms va])) = some (m.deed.act ((vf.args ++ [va]).map (dm ms)))
        rw [d1, List.map_append]; rfl
      · refine nd_act (sat_args sap) (fun x hx => ?_) bd
        show nd ms x ≤ max (ndS f (undr true S)) (ndS a (undr false S)) + if [] ∈ S then 1 else 0
        rw [if_neg nS]
        rcases List.mem_append.mp hx with q | q
        · have := nd_args (ms := ms) q
          omega
        · rw [List.mem_singleton.mp q]
          omega
      · have := few_not q
        rw [cm] at this; cases this
    · by_cases nS : [] ∈ S
      · obtain ⟨m, cm⟩ := own_nil.mp (hS _ nS)
        obtain ⟨c1, c2⟩ := can_fnd cm
        have bf : (b || decide ([] ∈ S)) = true := by rw [decide_eq_true nS, Bool.or_true]
        have hf := few cm
        obtain ⟨g1, g2, g3⟩ := f6 hf
        rw [bf] at g3
        have fm := mfm bf hf
        have mc : mcan ms (.ap vf va) = some m := by
          unfold mcan
          rw [if_pos (show mk1 (Wd.ap vf va).hd = true from g3)]
          exact canv cm
        refine ⟨.ap vf va, ?_, ?_, ?_, ?_, fun k hk => ⟨f5 (k + 1) fun _ => ⟨m, c1, ?_⟩, sva⟩, fun q => ?_⟩
        · rw [e1, oncM_ap f1 a1, if_neg nM]
        · rw [onc_ap f2 a2, if_neg nM]; rfl
        · rw [onc_ap f3 a3, if_pos (List.mem_append_left _ nS), cand cm fm, dm_some mc]; rfl
        · show max (nd ms vf) (nd ms va) + (if (mcan ms (.ap vf va)).isSome = true then 1 else 0) ≤ max (ndS f (undr true S)) (ndS a (undr false S)) + if [] ∈ S then 1 else 0
          rw [mc, if_pos nS, if_pos (show (some m).isSome = true from rfl)]
          omega
        · rw [ap_len] at c2; omega
        · have := few_not q
          rw [cm] at this; cases this
      · have bf : (b || decide ([] ∈ S)) = b := by rw [decide_eq_false nS, Bool.or_false]
        have mc : mcan ms (.ap vf va) = none := by
          cases qb : b with
          | false =>
            exact mcan_sat (f5 0 fun q => by rw [bf, qb] at q; cases q)
          | true =>
            obtain ⟨m, h1, h2⟩ := hb qb
            have hf : Few ms f := fun m' hm' => by
              have : m = m' := Option.some.inj (h1.symm.trans hm')
              subst this
              rw [ap_len] at h2
              omega
            obtain ⟨g1, g2, g3⟩ := f6 hf
            refine mcan_fm fun q m' hm' => ?_
            have hm2 : fnd ms (um1 vf.hd) = some m' := hm'
            rw [g2] at hm2
            have : m = m' := Option.some.inj (h1.symm.trans hm2)
            subst this
            rw [ap_len, g1]
            rw [ap_len] at h2
            exact h2
        have nSM : [] ∉ S ++ M := fun q => by
          rcases List.mem_append.mp q with q | q
          · exact nS q
          · exact nM q
        refine ⟨.ap vf va, ?_, ?_, ?_, ?_, fun k hk => ⟨f5 (k + 1) fun q => ?_, sva⟩, fun q => ?_⟩
        · rw [e1, oncM_ap f1 a1, if_neg nM]
        · rw [onc_ap f2 a2, if_neg nM]; rfl
        · rw [onc_ap f3 a3, if_neg nSM, dm_none mc]
        · show max (nd ms vf) (nd ms va) + (if (mcan ms (.ap vf va)).isSome = true then 1 else 0) ≤ max (ndS f (undr true S)) (ndS a (undr false S)) + if [] ∈ S then 1 else 0
          rw [mc, if_neg nS]
          show max _ _ + 0 ≤ _
          omega
        · rw [bf] at q
          obtain ⟨m, h1, h2⟩ := hk q
          rw [ap_len] at h2
          exact ⟨m, h1, by omega⟩
        · obtain ⟨g1, g2, g3⟩ := f6 (few_down q)
          refine ⟨by rw [ap_len, ap_len, g1], g2, ?_⟩
          rw [bf] at g3
          exact g3
/-! ### what is left, as places -/
theorem undr_same (b : Bool) : ∀ L : List Pl, undr b (L.map (b :: ·)) = L
  | [] => rfl
  | p :: r => by rw [List.map_cons, undr_cons, if_pos rfl, undr_same b r]
theorem undr_other {b c : Bool} (h : c ≠ b) : ∀ L : List Pl, undr b (L.map (c :: ·)) = []
  | [] => rfl
  | p :: r => by rw [List.map_cons, undr_cons, if_neg h, undr_other h r]
theorem mp_ap (ms : List Mk) (f a : Wd) : mp ms (.ap f a) = (if (mcan ms (.ap f a)).isSome = true then [[]] else []) ++ (mp ms f).map (true :: ·) ++ (mp ms a).map (false :: ·) := rfl
theorem mp_true (ms : List Mk) (f a : Wd) : undr true (mp ms (.ap f a)) = mp ms f := by
  rw [mp_ap, undr_app, undr_app, undr_same, undr_other (by decide)]
  split <;> simp [undr]
theorem mp_false (ms : List Mk) (f a : Wd) : undr false (mp ms (.ap f a)) = mp ms a := by
  rw [mp_ap, undr_app, undr_app, undr_same, undr_other (by decide)]
  split <;> simp [undr]
theorem mp_nil (ms : List Mk) (f a : Wd) : [] ∈ mp ms (.ap f a) ↔ (mcan ms (.ap f a)).isSome = true := by
  unfold mp
  rw [List.mem_append, List.mem_append]
  constructor
  · rintro ((h | h) | h)
    · by_cases q : (mcan ms (.ap f a)).isSome = true
      · exact q
      · rw [if_neg q] at h; cases h
    · obtain ⟨x, _, e⟩ := List.mem_map.mp h
      cases e
    · obtain ⟨x, _, e⟩ := List.mem_map.mp h
      cases e
  · intro q
    rw [if_pos q]
    exact .inl (.inl List.mem_cons_self)
theorem mcan_inv {ms : List Mk} {w : Wd} {m : Mk} (h : mcan ms w = some m) : mk1 w.hd = true ∧ can ms (um w) = some m := by
  unfold mcan at h
  by_cases q : mk1 w.hd = true
  · rw [if_pos q] at h; exact ⟨q, h⟩
  · rw [if_neg q] at h; cases h
theorem mcan_fm2 {ms : List Mk} {f a : Wd} {m : Mk} (h : mcan ms (.ap f a) = some m) : Fm ms f := fun q m' hm' => by
  obtain ⟨h1, h2⟩ := mcan_inv h
  obtain ⟨c1, c2⟩ := can_fnd h2
  rw [um_hd] at c1
  have c1' : fnd ms (um1 f.hd) = some m := c1
  have : m = m' := Option.some.inj (c1'.symm.trans hm')
  subst this
  rw [um_len, ap_len] at c2
  omega
theorem mp_onc (ms : List Mk) : ∀ v : Wd, onc ms (um v) (mp ms v) = some (dm ms v)
  | .lf s => rfl
  | .ap f a => by
    have h1 := mp_onc ms f
    have h2 := mp_onc ms a
    rw [← mp_true ms f a] at h1
    rw [← mp_false ms f a] at h2
    show onc ms (.ap (um f) (um a)) _ = _
    rw [onc_ap h1 h2]
    cases q : mcan ms (.ap f a) with
    | none =>
      rw [if_neg (by rw [mp_nil, q]; decide), dm_none q]
    | some m =>
      rw [if_pos (by rw [mp_nil, q]; rfl), dm_some q]
      obtain ⟨d1, d2⟩ := dm_fm (mcan_fm2 q)
      obtain ⟨c1, c2⟩ := can_fnd (mcan_inv q).2
      have : can ms (.ap (dm ms f) (dm ms a)) = some m := by
        refine can_of ?_ ?_
        · show fnd ms (dm ms f).hd = _
          rw [d2]
          rw [um_hd] at c1
          exact c1
        · rw [ap_len, d1, List.length_map]
          rw [um_len, ap_len] at c2
          exact c2
      rw [this]; rfl
theorem mp_sub (ms : List Mk) : ∀ (v : Wd) (p : Pl), p ∈ mp ms v → p ∈ plcs ms (um v)
  | .lf s, p, h => by cases h
  | .ap f a, [], h => by
    rw [mp_nil] at h
    cases q : mcan ms (.ap f a) with
    | none => rw [q] at h; cases h
    | some m => exact own_nil.mpr ⟨m, (mcan_inv q).2⟩
  | .ap f a, true :: p, h => by
    have : p ∈ undr true (mp ms (.ap f a)) := mem_undr.mpr h
    rw [mp_true] at this
    exact (plcs_ap (b := true)).mpr (mp_sub ms f p this)
  | .ap f a, false :: p, h => by
    have : p ∈ undr false (mp ms (.ap f a)) := mem_undr.mpr h
    rw [mp_false] at this
    exact (plcs_ap (b := false)).mpr (mp_sub ms a p this)
theorem mp_nodup (ms : List Mk) : ∀ v : Wd, (mp ms v).Nodup
  | .lf s => List.nodup_nil
  | .ap f a => by
    have h1 := mp_nodup ms f
    have h2 := mp_nodup ms a
    unfold mp
    refine List.nodup_append.mpr ⟨List.nodup_append.mpr ⟨?_, nodup_inj (fun x y e => (List.cons.inj e).2) h1, ?_⟩, nodup_inj (fun x y e => (List.cons.inj e).2) h2, ?_⟩
    · split <;> simp
    · intro x hx y hy e
      subst e
      obtain ⟨r, _, rfl⟩ := List.mem_map.mp hy
      split at hx <;> simp at hx
    · intro x hx y hy e
      subst e
      obtain ⟨r, _, rfl⟩ := List.mem_map.mp hy
      rcases List.mem_append.mp hx with z | z
      · split at z <;> simp at z
      · obtain ⟨t, _, e⟩ := List.mem_map.mp z
        cases e
theorem mp_nd (ms : List Mk) : ∀ v : Wd, ndS (um v) (mp ms v) = nd ms v
  | .lf s => rfl
  | .ap f a => by
    show max (ndS (um f) (undr true (mp ms (.ap f a)))) (ndS (um a) (undr false (mp ms (.ap f a)))) + (if [] ∈ mp ms (.ap f a) then 1 else 0) = max (nd ms f) (nd ms a) + if (mcan ms (.ap f a)).isSome = true then 1 else 0
    rw [mp_true, mp_false, mp_nd ms f, mp_nd ms a]
    congr 1
    by_cases q : (mcan ms (.ap f a)).isSome = true
    · rw [if_pos q, if_pos ((mp_nil ms f a).mpr q)]
    · rw [if_neg q, if_neg fun z => q ((mp_nil ms f a).mp z)]
theorem mp_len (ms : List Mk) : ∀ v : Wd, (mp ms v).length + 1 ≤ v.size
  | .lf s => Nat.le_refl 1
  | .ap f a => by
    have h1 := mp_len ms f
    have h2 := mp_len ms a
    unfold mp
    rw [List.length_append, List.length_append, List.length_map, List.length_map]
    show _ ≤ f.size + a.size
    split
    · rw [List.length_singleton]; omega
    · rw [List.length_nil]; omega
theorem ndS_mono : ∀ {w : Wd} {S S' : List Pl}, (∀ p ∈ S, p ∈ S') → ndS w S ≤ ndS w S'
  | .lf s, S, S', h => Nat.le_refl _
  | .ap f a, S, S', h => by
    have h1 := ndS_mono (w := f) (S := undr true S) (S' := undr true S') fun p hp => mem_undr.mpr (h _ (mem_undr.mp hp))
    have h2 := ndS_mono (w := a) (S := undr false S) (S' := undr false S') fun p hp => mem_undr.mpr (h _ (mem_undr.mp hp))
    show max _ _ + (if [] ∈ S then 1 else 0) ≤ max _ _ + (if [] ∈ S' then 1 else 0)
    by_cases q : [] ∈ S
    · rw [if_pos q, if_pos (h _ q)]; omega
    · rw [if_neg q]; omega
theorem ndS_nil : ∀ w : Wd, ndS w [] = 0
  | .lf s => rfl
  | .ap f a => by
    show max (ndS f []) (ndS a []) + 0 = 0
    rw [ndS_nil f, ndS_nil a]; rfl
theorem ndS_one : ∀ (w : Wd) (p : Pl), ndS w [p] ≤ 1
  | .lf s, p => Nat.zero_le _
  | .ap f a, [] => by
    show max (ndS f (undr true [[]])) (ndS a (undr false [[]])) + (if [] ∈ [[]] then 1 else 0) ≤ 1
    rw [show undr true [[]] = [] from rfl, show undr false [[]] = [] from rfl, ndS_nil, ndS_nil, if_pos (List.mem_singleton.mpr rfl)]
    exact Nat.le_refl _
  | .ap f a, true :: p => by
    show max (ndS f (undr true [true :: p])) (ndS a (undr false [true :: p])) + (if [] ∈ [true :: p] then 1 else 0) ≤ 1
    rw [undr_one, undr_one, if_pos rfl, if_neg (by decide), ndS_nil, if_neg (by simp)]
    have := ndS_one f p
    omega
  | .ap f a, false :: p => by
    show max (ndS f (undr true [false :: p])) (ndS a (undr false [false :: p])) + (if [] ∈ [false :: p] then 1 else 0) ≤ 1
    rw [undr_one, undr_one, if_pos rfl, if_neg (by decide), ndS_nil, if_neg (by simp)]
    have := ndS_one a p
    omega
theorem onc_dep2 {ms : List Mk} (hm : ∀ m ∈ ms, MkOk m) : ∀ {w : Wd} {S : List Pl} {w' : Wd}, onc ms w S = some w' → w'.dep ≤ w.dep + 2 * ndS w S
  | .lf s, S, w', h => by cases h; exact Nat.le_refl _
  | .ap f a, S, w', h => by
    obtain ⟨f', a', h1, h2, h3⟩ := onc_inv h
    have d1 := onc_dep2 hm h1
    have d2 := onc_dep2 hm h2
    show w'.dep ≤ (max f.dep a.dep + 1) + 2 * (max (ndS f (undr true S)) (ndS a (undr false S)) + if [] ∈ S then 1 else 0)
    rcases h3 with ⟨e, m, q, rfl⟩ | ⟨e, rfl⟩
    · rw [if_pos e]
      obtain ⟨c1, _, c3⟩ := can_spec q
      have o := hm m c1
      have bd := o.bd
      rw [c3] at bd
      have sz := o.sz
      have dd := m.deed.dep_lt
      have := Dd.act_dep (bs := (Wd.ap f' a').args) (n := max f'.dep a'.dep) (fun x hx => by
        have := Wd.args_dep _ x hx
        have : x.dep < max f'.dep a'.dep + 1 := this
        omega) bd
      omega
    · rw [if_neg e]
      show max f'.dep a'.dep + 1 ≤ _
      omega
theorem onc_size2 {ms : List Mk} (hm : ∀ m ∈ ms, MkOk m) : ∀ {w : Wd} {S : List Pl} {w' : Wd}, onc ms w S = some w' → w'.size ≤ w.size * 4 ^ ndS w S
  | .lf s, S, w', h => by cases h; exact Nat.le_refl _
  | .ap f a, S, w', h => by
    obtain ⟨f', a', h1, h2, h3⟩ := onc_inv h
    have d1 := onc_size2 hm h1
    have d2 := onc_size2 hm h2
    have p1 : 4 ^ ndS f (undr true S) ≤ 4 ^ max (ndS f (undr true S)) (ndS a (undr false S)) := Nat.pow_le_pow_right (by decide) (Nat.le_max_left _ _)
    have p2 : 4 ^ ndS a (undr false S) ≤ 4 ^ max (ndS f (undr true S)) (ndS a (undr false S)) := Nat.pow_le_pow_right (by decide) (Nat.le_max_right _ _)
    have q1 := Nat.le_trans d1 (Nat.mul_le_mul_left f.size p1)
    have q2 := Nat.le_trans d2 (Nat.mul_le_mul_left a.size p2)
    show w'.size ≤ (f.size + a.size) * 4 ^ (max (ndS f (undr true S)) (ndS a (undr false S)) + if [] ∈ S then 1 else 0)
    obtain ⟨N, hN⟩ : ∃ N, N = 4 ^ max (ndS f (undr true S)) (ndS a (undr false S)) := ⟨_, rfl⟩
    rw [← hN] at q1 q2
    rcases h3 with ⟨e, m, q, rfl⟩ | ⟨e, rfl⟩
    · rw [if_pos e, Nat.pow_succ, ← hN]
      obtain ⟨c1, _, c3⟩ := can_spec q
      have o := hm m c1
      have bd := o.bd
      rw [c3] at bd
      have t := Dd.act_size (bs := (Wd.ap f' a').args) (n := (f.size + a.size) * N) (fun x hx => by
        have s1 := args_size _ x hx
        have s2 : x.size ≤ f'.size + a'.size := s1
        rw [Nat.add_mul]
        omega) bd
      rw [← Nat.mul_assoc]
      exact Nat.le_trans t (Nat.mul_le_mul_left _ o.sz)
    · rw [if_neg e, Nat.add_zero, ← hN, Nat.add_mul]
      show f'.size + a'.size ≤ _
      omega
/-! ### marking one by one -/
def mh : Wd → Wd
  | .lf s => .lf (mark1 s)
  | .ap f a => .ap (mh f) a
def mkAt : Wd → Pl → Wd
  | w, [] => mh w
  | .ap f a, true :: p => .ap (mkAt f p) a
  | .ap f a, false :: p => .ap f (mkAt a p)
  | .lf s, _ :: _ => .lf s
theorem mh_mkw : ∀ {w : Wd} {S : List Pl} {b : Bool}, w.All Al → mh (mkw w S b) = mkw w S true
  | .lf s, S, b, h => by
    have ha : Al s := h
    show Wd.lf (mark1 (if b = true then mark1 s else s)) = .lf (mark1 s)
    cases b
    · rfl
    · rw [if_pos rfl, ha.mm]
  | .ap f a, S, b, h => by
    show Wd.ap (mh (mkw f (undr true S) (b || decide ([] ∈ S)))) (mkw a (undr false S) false) = .ap (mkw f (undr true S) (true || decide ([] ∈ S))) (mkw a (undr false S) false)
    rw [mh_mkw h.1, Bool.true_or]
theorem mkAt_mkw {ms : List Mk} (hm : MsOk ms) : ∀ {w : Wd} {p : Pl} {S : List Pl} {b : Bool}, w.All Al → p ∈ plcs ms w → mkAt (mkw w S b) p = mkw w (p :: S) b
  | .lf s, p, S, b, _, hp => by
    have : p ∈ own ms (.lf s) := hp
    unfold own at this
    rw [can_lf hm] at this
    cases this
  | .ap f a, [], S, b, h, hp => by
    show Wd.ap (mh (mkw f (undr true S) (b || decide ([] ∈ S)))) (mkw a (undr false S) false) = .ap (mkw f (undr true ([] :: S)) (b || decide ([] ∈ [] :: S))) (mkw a (undr false ([] :: S)) false)
    rw [mh_mkw h.1, undr_front, undr_front, decide_eq_true List.mem_cons_self, Bool.or_true]
  | .ap f a, true :: p, S, b, h, hp => by
    show Wd.ap (mkAt (mkw f (undr true S) (b || decide ([] ∈ S))) p) (mkw a (undr false S) false) = .ap (mkw f (undr true ((true :: p) :: S)) (b || decide ([] ∈ (true :: p) :: S))) (mkw a (undr false ((true :: p) :: S)) false)
    rw [undr_cons, if_pos rfl, undr_cons, if_neg (by decide), mkAt_mkw hm h.1 ((plcs_ap (b := true)).mp hp)]
    congr 3
    simp
  | .ap f a, false :: p, S, b, h, hp => by
    show Wd.ap (mkw f (undr true S) (b || decide ([] ∈ S))) (mkAt (mkw a (undr false S) false) p) = .ap (mkw f (undr true ((false :: p) :: S)) (b || decide ([] ∈ (false :: p) :: S))) (mkw a (undr false ((false :: p) :: S)) false)
    rw [undr_cons, if_neg (by decide), undr_cons, if_pos rfl, mkAt_mkw hm h.2 ((plcs_ap (b := false)).mp hp)]
    congr 3
    simp
theorem mkw_nil : ∀ w : Wd, mkw w [] false = w
  | .lf s => rfl
  | .ap f a => by
    show Wd.ap (mkw f (undr true []) (false || decide ([] ∈ ([] : List Pl)))) (mkw a (undr false []) false) = _
    rw [undr_nil, undr_nil, show (false || decide ([] ∈ ([] : List Pl))) = false from rfl, mkw_nil f, mkw_nil a]
/-- a leaf that may be marked -/
def Am (s : Str) : Prop := ∃ c : Nat, 65 ≤ c ∧ c < 127 ∧ (s = ofL [c] ∨ s = ofL [c, 33])
theorem mkw_all : ∀ {w : Wd} {S : List Pl} {b : Bool}, w.All Al → (mkw w S b).All Am
  | .lf s, S, b, h => by
    obtain ⟨c, rfl, h1, h2⟩ := h
    cases b
    · exact ⟨c, h1, h2, .inl rfl⟩
    · exact ⟨c, h1, h2, .inr rfl⟩
  | .ap f a, S, b, h => ⟨mkw_all h.1, mkw_all h.2⟩
theorem mkw_dep : ∀ (w : Wd) (S : List Pl) (b : Bool), (mkw w S b).dep = w.dep
  | .lf s, S, b => rfl
  | .ap f a, S, b => by
    show max (mkw f _ _).dep (mkw a _ _).dep + 1 = max f.dep a.dep + 1
    rw [mkw_dep f, mkw_dep a]
theorem um_dep : ∀ w : Wd, (um w).dep = w.dep
  | .lf s => rfl
  | .ap f a => by
    show max (um f).dep (um a).dep + 1 = max f.dep a.dep + 1
    rw [um_dep f, um_dep a]
theorem um_size : ∀ w : Wd, (um w).size = w.size
  | .lf s => rfl
  | .ap f a => by
    show (um f).size + (um a).size = f.size + a.size
    rw [um_size f, um_size a]
/-- the marks of one way that are no places of the other -/
def nots (S M : List Pl) : List Pl := (S.filter fun p => decide (p ∉ M)).reverse
theorem mem_nots {S M : List Pl} {p : Pl} : p ∈ nots S M ↔ p ∈ S ∧ p ∉ M := by
  unfold nots
  rw [List.mem_reverse, List.mem_filter]
  simp
structure Gd (ms : List Mk) (w : Wd) (S : List Pl) : Prop where
  sub : ∀ p ∈ S, p ∈ plcs ms w
  nd : S.Nodup
  one : ndS w S ≤ 1
  len : S.length ≤ w.size
theorem left_ok {ms : List Mk} (hm : MsOk ms) {w : Wd} {S M : List Pl} (hw : w.All Al) (hS : Gd ms w S) (hM : Gd ms w M) : ∃ v, oncM ms (mkw w (nots S M) false) M = some v ∧ onc ms w M = some (um v) ∧ Gd ms (um v) (mp ms v) ∧ onc ms (um v) (mp ms v) = onc ms w (S ++ M) := by
  obtain ⟨v, h1, h2, h3, h4, _, _⟩ := mark_main hm w (nots S M) M false hw (fun p hp => hS.sub p (mem_nots.mp hp).1) hM.sub (fun p hp => (mem_nots.mp hp).2) (fun q => by cases q)
  refine ⟨v, h1, h2, ⟨mp_sub ms v, mp_nodup ms v, ?_, by rw [um_size]; have := mp_len ms v; omega⟩, ?_⟩
  · rw [mp_nd]
    have := ndS_mono (w := w) (S := nots S M) (S' := S) fun p hp => (mem_nots.mp hp).1
    have := hS.one
    omega
  · rw [mp_onc, ← h3]
    refine onc_congr ms w fun p => ?_
    rw [List.mem_append, List.mem_append, mem_nots]
    constructor
    · rintro (h | h)
      · exact .inl h.1
      · exact .inr h
    · rintro (h | h)
      · by_cases q : p ∈ M
        · exact .inr q
        · exact .inl ⟨h, q⟩
      · exact .inr h
theorem Gd.one' {ms : List Mk} {w : Wd} {p : Pl} (h : p ∈ plcs ms w) : Gd ms w [p] := ⟨fun q hq => by rw [List.mem_singleton.mp hq]; exact h, by simp, ndS_one w p, w.size_pos⟩
/-- sets of places, one behind the other -/
def Chain (ms : List Mk) : Wd → List (List Pl) → Wd → Prop
  | w, [], e => w = e
  | w, R :: rs, e => Gd ms w R ∧ ∃ w', onc ms w R = some w' ∧ Chain ms w' rs e
/-- ways, step by step, none of whose words is too great -/
def Way (ms : List Mk) (D Z : Nat) : Wd → List Pl → Wd → Prop
  | w, [], e => w = e
  | w, p :: r, e => w.dep ≤ D ∧ w.size ≤ Z ∧ ∃ w', stp ms w p = some w' ∧ Way ms D Z w' r e
theorem way_app {ms : List Mk} {D Z : Nat} : ∀ {L M : List Pl} {w u e : Wd}, Way ms D Z w L u → Way ms D Z u M e → Way ms D Z w (L ++ M) e
  | [], M, w, u, e, h1, h2 => by cases h1; exact h2
  | p :: r, M, w, u, e, ⟨a, b, w', c, d⟩, h2 => ⟨a, b, w', c, way_app d h2⟩
theorem way_pre {ms : List Mk} (hm : MsOk ms) {D Z : Nat} {w e : Wd} {L : List Pl} (nd : L.Nodup) (dn : Down L) (sub : ∀ p ∈ L, p ∈ plcs ms w) (one : ndS w L ≤ 1) (hd : w.dep + 2 ≤ D) (hz : w.size * 4 ≤ Z) (h : onc ms w L = some e) : ∀ (r T : List Pl), L = T ++ r → ∃ u, onc ms w T = some u ∧ Way ms D Z u r e
  | [], T, q => by
    rw [List.append_nil] at q
    subst q
    exact ⟨e, h, rfl⟩
  | p :: r, T, q => by
    obtain ⟨u', h1, h2⟩ := way_pre hm nd dn sub one hd hz h r (T ++ [p]) (by rw [List.append_assoc]; exact q)
    have s1 : (T ++ [p]).Sublist L := by
      rw [q]
      exact (List.Sublist.refl T).append (List.Sublist.cons_cons p (List.nil_sublist r))
    have s0 : T.Sublist L := (List.sublist_append_left T [p]).trans s1
    have sT : ∀ x ∈ T, x ∈ plcs ms w := fun x hx => sub x (s0.subset hx)
    obtain ⟨u, hu⟩ := onc_some sT
    refine ⟨u, hu, ?_, ?_, u', ?_, h2⟩
    · have := onc_dep2 hm.ok hu
      have := ndS_mono (w := w) (S := T) (S' := L) fun x hx => s0.subset hx
      omega
    · have a := onc_size2 hm.ok hu
      have := ndS_mono (w := w) (S := T) (S' := L) fun x hx => s0.subset hx
      have b : 4 ^ ndS w T ≤ 4 ^ 1 := Nat.pow_le_pow_right (by decide) (by omega)
      have c := Nat.mul_le_mul_left w.size b
      omega
    · have e1 := seq_onc hm w (T ++ [p]) (nd.sublist s1) (dn.sublist s1) fun x hx => sub x (s1.subset hx)
      have e0 := seq_onc hm w T (nd.sublist s0) (dn.sublist s0) sT
      rw [seq_app, e0, hu, h1] at e1
      have e2 : (stp ms u p).bind (fun w' => some w') = some u' := e1
      cases z : stp ms u p with
      | none => rw [z] at e2; cases e2
      | some x => rw [z] at e2; exact e2
theorem way_onc {ms : List Mk} (hm : MsOk ms) {D Z : Nat} {w e : Wd} {S L : List Pl} (hS : Gd ms w S) (pm : L.Perm S) (dn : Down L) (hd : w.dep + 2 ≤ D) (hz : w.size * 4 ≤ Z) (h : onc ms w S = some e) : Way ms D Z w L e := by
  have h' : onc ms w L = some e := by
    rw [← h]
    exact onc_congr ms w fun p => pm.mem_iff
  obtain ⟨u, h1, h2⟩ := way_pre hm (pm.nodup_iff.mpr hS.nd) dn (fun p hp => hS.sub p (pm.mem_iff.mp hp)) (by
    have := ndS_mono (w := w) (S := L) (S' := S) fun p hp => pm.mem_iff.mp hp
    have := hS.one
    omega) hd hz h' L [] rfl
  rw [onc_nil] at h1
  cases h1
  exact h2
theorem way_seq {ms : List Mk} {D Z : Nat} : ∀ {L : List Pl} {w e : Wd}, Way ms D Z w L e → seqS ms w L = some e
  | [], w, e, h => by cases h; rfl
  | p :: r, w, e, ⟨_, _, w', h1, h2⟩ => by
    show (stp ms w p).bind (fun w' => seqS ms w' r) = _
    rw [h1]
    exact way_seq h2
theorem chain_ok {ms : List Mk} {P : Str → Prop} (hm : MsOk ms) : ∀ {rs : List (List Pl)} {X E : Wd}, X.All P → Chain ms X rs E → E.All P ∧ E.dep ≤ X.dep + 2 * rs.length ∧ E.size ≤ X.size * 4 ^ rs.length
  | [], X, E, h, c => by cases c; exact ⟨h, by omega, by rw [List.length_nil, Nat.pow_zero, Nat.mul_one]; exact Nat.le_refl _⟩
  | R :: rs, X, E, h, ⟨g, X', o, c⟩ => by
    obtain ⟨i1, i2, i3⟩ := chain_ok hm (onc_all hm.ok h o) c
    have d := onc_dep2 hm.ok o
    have z := onc_size2 hm.ok o
    have one := g.one
    have b : 4 ^ ndS X R ≤ 4 ^ 1 := Nat.pow_le_pow_right (by decide) one
    have z2 : X'.size ≤ X.size * 4 := Nat.le_trans z (Nat.mul_le_mul_left _ b)
    refine ⟨i1, by rw [List.length_cons]; omega, ?_⟩
    rw [List.length_cons, Nat.pow_succ, Nat.mul_comm (4 ^ rs.length) 4, ← Nat.mul_assoc]
    exact Nat.le_trans i3 (Nat.mul_le_mul_right _ z2)
end MW

set_option maxHeartbeats 4000000
namespace MW
open PySem PySem.Spec PyProof.Rows L2
open Res
def topS (i : Nat) : Stmt := PySem.Challenge.pw_makerword_k05_whole_ways_that_meet.main.body.getD i (.Pass ⟨0, 0, 0, 0⟩)
abbrev i_f_book_of : Nat := 0
abbrev i_f_spine : Nat := 1
abbrev i_f_done : Nat := 2
abbrev i_f_can_act : Nat := 3
abbrev i_f_acted : Nat := 4
abbrev i_f_places_in : Nat := 5
abbrev i_f_places : Nat := 6
abbrev i_f_step_in : Nat := 7
abbrev i_f_step : Nat := 8
abbrev i_f_under : Nat := 9
abbrev i_f_all_done : Nat := 10
abbrev i_f_marked : Nat := 11
abbrev i_f_marked_places : Nat := 12
abbrev i_f_left_of : Nat := 13
abbrev i_f_by_depth : Nat := 14
abbrev i_f_meeting : Nat := 15
abbrev i_l_cell : Nat := 16
abbrev i_l_mix : Nat := 17
abbrev i_l_deed : Nat := 18
abbrev i_l_known : Nat := 19
abbrev i_l_makers : Nat := 20
abbrev i_l_word : Nat := 21
abbrev i_l_spine : Nat := 22
abbrev i_l_done : Nat := 23
abbrev i_l_act : Nat := 24
abbrev i_l_places : Nat := 25
abbrev i_l_step : Nat := 26
abbrev i_l_leaves : Nat := 27
abbrev i_l_way : Nat := 28
abbrev i_l_gone : Nat := 29
abbrev i_l_refused : Nat := 30
abbrev i_f_law : Nat := 31
def b_f_book_of_1 : Ss :=
    (.cons (.put 1 (.var 2) (.tup (.cons (.var 3) (.cons (.var 4) .nil)))) .nil)
def b_f_book_of : Ss :=
    (.cons (.asgO 1 .dic0)
    (.cons (.for (.tup (.cons (.name 2) (.cons (.name 3) (.cons (.name 4) .nil)))) .of (.cons (.var 0) .nil) b_f_book_of_1)
    (.cons (.frz 1)
    (.cons (.ret (.var 1)) .nil))))
def b_f_spine_1 : Ss :=
    (.cons (.asg 1 (.bin .Add (.lst (.cons (.ix (.var 0) (.cst (.int 1))) .nil)) (.var 1)))
      (.cons (.asg 0 (.ix (.var 0) (.cst (.int 0)))) .nil))
def b_f_spine : Ss :=
    (.cons (.asg 1 (.lst .nil))
    (.cons (.whl (.isi (.var 0) [.tuple]) b_f_spine_1)
    (.cons (.ret (.tup (.cons (.var 0) (.cons (.var 1) .nil)))) .nil)))
def b_f_done : Ss :=
    (.cons (.ite (.isi (.var 0) [.tuple]) (.cons (.ret (.tup (.cons (.call i_f_done (.cons (.ix (.var 0) (.cst (.int 0))) (.cons (.var 1) .nil))) (.cons (.call i_f_done (.cons (.ix (.var 0) (.cst (.int 1))) (.cons (.var 1) .nil))) .nil)))) .nil) .nil)
    (.cons (.ret (.ix (.var 1) (.var 0))) .nil))
def b_f_can_act : Ss :=
    (.cons (.asgT (.tup (.cons (.name 2) (.cons (.name 3) .nil))) (.call i_f_spine (.cons (.var 1) .nil)))
    (.cons (.ret (.and (.cmp .In (.slc (.var 2) .abs (.cst (.int 1))) (.var 0)) (.cmp .Eq (.ix (.ix (.var 0) (.slc (.var 2) .abs (.cst (.int 1)))) (.cst (.int 0))) (.blt .len (.cons (.var 3) .nil))))) .nil))
def b_f_acted : Ss :=
    (.cons (.asgT (.tup (.cons (.name 2) (.cons (.name 3) .nil))) (.call i_f_spine (.cons (.var 1) .nil)))
    (.cons (.ret (.call i_f_done (.cons (.ix (.ix (.var 0) (.slc (.var 2) .abs (.cst (.int 1)))) (.cst (.int 1))) (.cons (.var 3) .nil)))) .nil))
def b_f_places_in : Ss :=
    (.cons (.asgO 3 (.lst .nil))
    (.cons (.ite (.call i_f_can_act (.cons (.var 0) (.cons (.var 1) .nil))) (.cons (.app 3 (.var 2)) .nil) .nil)
    (.cons (.ite (.isi (.var 1) [.tuple]) (.cons (.asgO 3 (.bin .Add (.bin .Add (.own 3) (.call i_f_places_in (.cons (.var 0) (.cons (.ix (.var 1) (.cst (.int 0))) (.cons (.bin .Add (.var 2) (.cst (.str (ofL [102])))) .nil))))) (.call i_f_places_in (.cons (.var 0) (.cons (.ix (.var 1) (.cst (.int 1))) (.cons (.bin .Add (.var 2) (.cst (.str (ofL [98])))) .nil)))))) .nil) .nil)
    (.cons (.frz 3)
    (.cons (.ret (.var 3)) .nil)))))
def b_f_places : Ss :=
    (.cons (.ret (.blt .tuple (.cons (.blt .sorted (.cons (.call i_f_places_in (.cons (.call i_f_book_of (.cons (.var 0) .nil)) (.cons (.var 1) (.cons (.cst (.str (ofL []))) .nil)))) .nil)) .nil))) .nil)
def b_f_step_in : Ss :=
    (.cons (.ite (.cmp .Eq (.var 2) (.cst (.str (ofL [])))) (.cons (.ret (.call i_f_acted (.cons (.var 0) (.cons (.var 1) .nil)))) .nil) .nil)
    (.cons (.ite (.cmp .Eq (.ix (.var 2) (.cst (.int 0))) (.cst (.str (ofL [102])))) (.cons (.ret (.tup (.cons (.call i_f_step_in (.cons (.var 0) (.cons (.ix (.var 1) (.cst (.int 0))) (.cons (.slc (.var 2) (.cst (.int 1)) .abs) .nil)))) (.cons (.ix (.var 1) (.cst (.int 1))) .nil)))) .nil) .nil)
    (.cons (.ret (.tup (.cons (.ix (.var 1) (.cst (.int 0))) (.cons (.call i_f_step_in (.cons (.var 0) (.cons (.ix (.var 1) (.cst (.int 1))) (.cons (.slc (.var 2) (.cst (.int 1)) .abs) .nil)))) .nil)))) .nil)))
def b_f_step : Ss :=
    (.cons (.ite (.cmp .NotIn (.var 2) (.call i_f_places (.cons (.var 0) (.cons (.var 1) .nil)))) (.cons (.raise 0) .nil) .nil)
    (.cons (.ret (.call i_f_step_in (.cons (.call i_f_book_of (.cons (.var 0) .nil)) (.cons (.var 1) (.cons (.var 2) .nil))))) .nil))
def b_f_under : Ss :=
    (.cons (.ret (.comp (.slc (.var 2) (.cst (.int 1)) .abs) (.name 2) .of (.cons (.var 0) .nil) (.cons (.cmp .Eq (.slc (.var 2) .abs (.cst (.int 1))) (.var 1)) .nil) [("place", 2)])) .nil)
def b_f_all_done : Ss :=
    (.cons (.ite (.not (.isi (.var 1) [.tuple])) (.cons (.ret (.var 1)) .nil) .nil)
    (.cons (.asg 3 (.tup (.cons (.call i_f_all_done (.cons (.var 0) (.cons (.ix (.var 1) (.cst (.int 0))) (.cons (.call i_f_under (.cons (.var 2) (.cons (.cst (.str (ofL [102]))) .nil))) .nil)))) (.cons (.call i_f_all_done (.cons (.var 0) (.cons (.ix (.var 1) (.cst (.int 1))) (.cons (.call i_f_under (.cons (.var 2) (.cons (.cst (.str (ofL [98]))) .nil))) .nil)))) .nil))))
    (.cons (.ite (.cmp .In (.cst (.str (ofL []))) (.var 2)) (.cons (.ret (.call i_f_acted (.cons (.var 0) (.cons (.var 3) .nil)))) .nil) .nil)
    (.cons (.ret (.var 3)) .nil))))
def b_f_marked : Ss :=
    (.cons (.ite (.cmp .NotEq (.var 2) (.cst (.str (ofL [])))) (.cons (.ite (.cmp .Eq (.ix (.var 2) (.cst (.int 0))) (.cst (.str (ofL [102])))) (.cons (.ret (.tup (.cons (.call i_f_marked (.cons (.var 0) (.cons (.ix (.var 1) (.cst (.int 0))) (.cons (.slc (.var 2) (.cst (.int 1)) .abs) .nil)))) (.cons (.ix (.var 1) (.cst (.int 1))) .nil)))) .nil) .nil)
      (.cons (.ret (.tup (.cons (.ix (.var 1) (.cst (.int 0))) (.cons (.call i_f_marked (.cons (.var 0) (.cons (.ix (.var 1) (.cst (.int 1))) (.cons (.slc (.var 2) (.cst (.int 1)) .abs) .nil)))) .nil)))) .nil)) .nil)
    (.cons (.ite (.isi (.var 1) [.tuple]) (.cons (.ret (.tup (.cons (.call i_f_marked (.cons (.var 0) (.cons (.ix (.var 1) (.cst (.int 0))) (.cons (.cst (.str (ofL []))) .nil)))) (.cons (.ix (.var 1) (.cst (.int 1))) .nil)))) .nil) .nil)
    (.cons (.ret (.bin .Add (.ix (.var 1) (.cst (.int 0))) (.cst (.str (ofL [33]))))) .nil)))
def b_f_marked_places : Ss :=
    (.cons (.asgO 3 (.lst .nil))
    (.cons (.ite (.and (.call i_f_can_act (.cons (.var 0) (.cons (.var 1) .nil))) (.cmp .Eq (.ix (.ix (.call i_f_spine (.cons (.var 1) .nil)) (.cst (.int 0))) (.neg (.cst (.int 1)))) (.cst (.str (ofL [33]))))) (.cons (.app 3 (.var 2)) .nil) .nil)
    (.cons (.ite (.isi (.var 1) [.tuple]) (.cons (.asgO 3 (.bin .Add (.bin .Add (.own 3) (.call i_f_marked_places (.cons (.var 0) (.cons (.ix (.var 1) (.cst (.int 0))) (.cons (.bin .Add (.var 2) (.cst (.str (ofL [102])))) .nil))))) (.call i_f_marked_places (.cons (.var 0) (.cons (.ix (.var 1) (.cst (.int 1))) (.cons (.bin .Add (.var 2) (.cst (.str (ofL [98])))) .nil)))))) .nil) .nil)
    (.cons (.frz 3)
    (.cons (.ret (.var 3)) .nil)))))
def b_f_left_of_1 : Ss :=
    (.cons (.ite (.cmp .NotIn (.var 4) (.var 3)) (.cons (.asg 1 (.call i_f_marked (.cons (.var 0) (.cons (.var 1) (.cons (.var 4) .nil))))) .nil) .nil) .nil)
def b_f_left_of : Ss :=
    (.cons (.for (.name 4) .of (.cons (.var 2) .nil) b_f_left_of_1)
    (.cons (.ret (.call i_f_marked_places (.cons (.var 0) (.cons (.call i_f_all_done (.cons (.var 0) (.cons (.var 1) (.cons (.var 3) .nil)))) (.cons (.cst (.str (ofL []))) .nil))))) .nil))
def b_f_by_depth : Ss :=
    (.cons (.ret (.sortk (.var 0) (.tup (.cons (.neg (.blt .len (.cons (.var 0) .nil))) (.cons (.var 0) .nil))) "place")) .nil)
def b_f_meeting_4 : Ss :=
    (.cons (.asg 10 (.bin .Add (.var 10) (.blt .tuple (.cons (.call i_f_by_depth (.cons (.var 11) .nil)) .nil)))) .nil)
def b_f_meeting_3 : Ss :=
    (.cons (.app 13 (.call i_f_left_of (.cons (.var 4) (.cons (.var 7) (.cons (.var 11) (.cons (.var 12) .nil))))))
        (.cons (.par 12 7 (.call i_f_left_of (.cons (.var 4) (.cons (.var 7) (.cons (.var 12) (.cons (.var 11) .nil))))) (.call i_f_all_done (.cons (.var 4) (.cons (.var 7) (.cons (.var 11) .nil))))) .nil))
def b_f_meeting_2 : Ss :=
    (.cons (.asg 7 (.var 9))
      (.cons (.asg 9 (.call i_f_step (.cons (.var 0) (.cons (.var 9) (.cons (.var 8) .nil)))))
      (.cons (.asg 12 (.lst (.cons (.var 8) .nil)))
      (.cons (.asgO 13 (.lst .nil))
      (.cons (.for (.name 11) .of (.cons (.var 5) .nil) b_f_meeting_3)
      (.cons (.asg 6 (.bin .Add (.var 6) (.blt .tuple (.cons (.call i_f_by_depth (.cons (.var 12) .nil)) .nil))))
      (.cons (.frz 13)
      (.cons (.asg 5 (.var 13)) .nil))))))))
def b_f_meeting_1 : Ss :=
    (.cons (.asg 7 (.call i_f_step (.cons (.var 0) (.cons (.var 7) (.cons (.var 8) .nil))))) .nil)
def b_f_meeting : Ss :=
    (.cons (.asg 4 (.call i_f_book_of (.cons (.var 0) .nil)))
    (.cons (.asg 5 (.comp (.lst (.cons (.var 8) .nil)) (.name 8) .of (.cons (.var 3) .nil) .nil [("place", 8)]))
    (.cons (.asg 6 (.tup .nil))
    (.cons (.asg 7 (.var 1))
    (.cons (.for (.name 8) .of (.cons (.var 3) .nil) b_f_meeting_1)
    (.cons (.asg 9 (.var 1))
    (.cons (.for (.name 8) .of (.cons (.var 2) .nil) b_f_meeting_2)
    (.cons (.asg 10 (.tup .nil))
    (.cons (.for (.name 11) .of (.cons (.var 5) .nil) b_f_meeting_4)
    (.cons (.ret (.tup (.cons (.var 10) (.cons (.var 6) .nil)))) .nil))))))))))
def b_l_cell : Ss :=
    (.cons (.ite (.cmp .Lt (.var 1) (.blt .len (.cons (.var 0) .nil))) (.cons (.ret (.ix (.var 0) (.var 1))) .nil) .nil)
    (.cons (.ret (.cst (.int 0))) .nil))
def b_l_mix : Ss :=
    (.cons (.asg 3 (.bin .Mod (.bin .Mult (.var 0) (.cst (.int 48271))) (.var 1)))
    (.cons (.ret (.bin .Mod (.bin .Mod (.bin .Mult (.var 3) (.bin .Add (.var 3) (.cst (.int 7)))) (.var 1)) (.var 2))) .nil))
def b_l_deed : Ss :=
    (.cons (.ite (.cmp .Lt (.var 2) (.cst (.int 2))) (.cons (.ret (.call i_l_mix (.cons (.var 0) (.cons (.cst (.int 9973)) (.cons (.var 1) .nil))))) .nil) .nil)
    (.cons (.asg 3 (.bin .Add (.cst (.int 1)) (.call i_l_mix (.cons (.var 0) (.cons (.cst (.int 9967)) (.cons (.bin .Sub (.var 2) (.cst (.int 1))) .nil))))))
    (.cons (.ret (.tup (.cons (.call i_l_deed (.cons (.bin .Add (.bin .Mult (.var 0) (.cst (.int 3))) (.cst (.int 1))) (.cons (.var 1) (.cons (.var 3) .nil)))) (.cons (.call i_l_deed (.cons (.bin .Add (.bin .Mult (.var 0) (.cst (.int 5))) (.cst (.int 2))) (.cons (.var 1) (.cons (.bin .Sub (.var 2) (.var 3)) .nil)))) .nil)))) .nil)))
def b_l_known : Ss :=
    (.cons (.asgO 1 (.lst (.cons (.tup (.cons (.cst (.str (ofL [83]))) (.cons (.cst (.int 3)) (.cons (.tup (.cons (.tup (.cons (.cst (.int 0)) (.cons (.cst (.int 2)) .nil))) (.cons (.tup (.cons (.cst (.int 1)) (.cons (.cst (.int 2)) .nil))) .nil))) .nil)))) (.cons (.tup (.cons (.cst (.str (ofL [75]))) (.cons (.cst (.int 2)) (.cons (.cst (.int 0)) .nil)))) (.cons (.tup (.cons (.cst (.str (ofL [73]))) (.cons (.cst (.int 1)) (.cons (.cst (.int 0)) .nil)))) (.cons (.tup (.cons (.cst (.str (ofL [66]))) (.cons (.cst (.int 3)) (.cons (.tup (.cons (.cst (.int 0)) (.cons (.tup (.cons (.cst (.int 1)) (.cons (.cst (.int 2)) .nil))) .nil))) .nil)))) (.cons (.tup (.cons (.cst (.str (ofL [67]))) (.cons (.cst (.int 3)) (.cons (.tup (.cons (.tup (.cons (.cst (.int 0)) (.cons (.cst (.int 2)) .nil))) (.cons (.cst (.int 1)) .nil))) .nil)))) .nil)))))))
    (.cons (.asgO 1 (.bin .Add (.own 1) (.lst (.cons (.tup (.cons (.cst (.str (ofL [87]))) (.cons (.cst (.int 2)) (.cons (.tup (.cons (.tup (.cons (.cst (.int 0)) (.cons (.cst (.int 1)) .nil))) (.cons (.cst (.int 1)) .nil))) .nil)))) (.cons (.tup (.cons (.cst (.str (ofL [77]))) (.cons (.cst (.int 1)) (.cons (.tup (.cons (.cst (.int 0)) (.cons (.cst (.int 0)) .nil))) .nil)))) (.cons (.tup (.cons (.cst (.str (ofL [84]))) (.cons (.cst (.int 2)) (.cons (.tup (.cons (.cst (.int 1)) (.cons (.cst (.int 0)) .nil))) .nil)))) (.cons (.tup (.cons (.cst (.str (ofL [76]))) (.cons (.cst (.int 2)) (.cons (.tup (.cons (.cst (.int 0)) (.cons (.tup (.cons (.cst (.int 1)) (.cons (.cst (.int 1)) .nil))) .nil))) .nil)))) .nil)))))))
    (.cons (.app 1 (.tup (.cons (.cst (.str (ofL [86]))) (.cons (.cst (.int 3)) (.cons (.tup (.cons (.tup (.cons (.cst (.int 2)) (.cons (.cst (.int 0)) .nil))) (.cons (.cst (.int 1)) .nil))) .nil)))))
    (.cons (.ret (.ix (.own 1) (.bin .Mod (.var 0) (.cst (.int 10))))) .nil))))
def b_l_makers_1 : Ss :=
    (.cons (.asg 3 (.call i_l_known (.cons (.call i_l_mix (.cons (.bin .Add (.var 0) (.mulL (7) (.var 2))) (.cons (.cst (.int 9941)) (.cons (.cst (.int 10)) .nil)))) .nil)))
      (.cons (.ite (.cmp .Eq (.call i_l_mix (.cons (.bin .Add (.var 0) (.mulL (3) (.var 2))) (.cons (.cst (.int 9931)) (.cons (.cst (.int 4)) .nil)))) (.cst (.int 0))) (.cons (.asg 4 (.bin .Add (.cst (.int 1)) (.call i_l_mix (.cons (.bin .Add (.var 0) (.var 2)) (.cons (.cst (.int 9929)) (.cons (.cst (.int 4)) .nil))))))
        (.cons (.asg 3 (.tup (.cons (.ix (.cst (.str (ofL [68, 69, 70, 71]))) (.var 2)) (.cons (.var 4) (.cons (.call i_l_deed (.cons (.bin .Add (.var 0) (.mulL (11) (.var 2))) (.cons (.var 4) (.cons (.bin .Add (.cst (.int 1)) (.call i_l_mix (.cons (.bin .Add (.var 0) (.var 2)) (.cons (.cst (.int 9923)) (.cons (.cst (.int 4)) .nil))))) .nil)))) .nil))))) .nil)) .nil)
      (.cons (.ite (.cmp .NotIn (.ix (.var 3) (.cst (.int 0))) (.comp (.ix (.var 5) (.cst (.int 0))) (.name 5) .of (.cons (.own 1) .nil) .nil [("one", 5)])) (.cons (.app 1 (.var 3)) .nil) .nil) .nil)))
def b_l_makers : Ss :=
    (.cons (.asgO 1 (.lst .nil))
    (.cons (.for (.name 2) .range (.cons (.bin .Add (.cst (.int 1)) (.call i_l_mix (.cons (.var 0) (.cons (.cst (.int 9949)) (.cons (.cst (.int 4)) .nil))))) .nil) b_l_makers_1)
    (.cons (.ret (.blt .tuple (.cons (.own 1) .nil))) .nil)))
def b_l_word : Ss :=
    (.cons (.ite (.cmp .Lt (.var 2) (.cst (.int 2))) (.cons (.asg 6 (.call i_l_mix (.cons (.var 0) (.cons (.cst (.int 9907)) (.cons (.bin .Add (.blt .len (.cons (.var 1) .nil)) (.cst (.int 2))) .nil)))))
      (.cons (.ite (.or (.cmp .Lt (.var 6) (.blt .len (.cons (.var 1) .nil))) (.not (.var 3))) (.cons (.ret (.ix (.ix (.var 1) (.bin .Mod (.var 6) (.blt .len (.cons (.var 1) .nil)))) (.cst (.int 0)))) .nil) .nil)
      (.cons (.ret (.ix (.var 3) (.call i_l_mix (.cons (.var 0) (.cons (.cst (.int 9901)) (.cons (.blt .len (.cons (.var 3) .nil)) .nil)))))) .nil))) .nil)
    (.cons (.asg 4 (.bin .Sub (.bin .Sub (.var 2) (.cst (.int 1))) (.call i_l_mix (.cons (.var 0) (.cons (.cst (.int 9887)) (.cons (.bin .Sub (.var 2) (.cst (.int 1))) .nil))))))
    (.cons (.ite (.cmp .Gt (.call i_l_mix (.cons (.var 0) (.cons (.cst (.int 9883)) (.cons (.cst (.int 3)) .nil)))) (.cst (.int 0))) (.cons (.asg 4 (.bin .Sub (.bin .Sub (.var 2) (.cst (.int 1))) (.call i_l_mix (.cons (.var 0) (.cons (.cst (.int 9871)) (.cons (.blt .min2 (.cons (.cst (.int 3)) (.cons (.bin .Sub (.var 2) (.cst (.int 1))) .nil))) .nil)))))) .nil) .nil)
    (.cons (.asg 5 (.call i_l_word (.cons (.bin .Add (.bin .Mult (.var 0) (.cst (.int 3))) (.cst (.int 1))) (.cons (.var 1) (.cons (.var 4) (.cons (.var 3) .nil))))))
    (.cons (.ret (.tup (.cons (.var 5) (.cons (.call i_l_word (.cons (.bin .Add (.bin .Mult (.var 0) (.cst (.int 5))) (.cst (.int 2))) (.cons (.var 1) (.cons (.bin .Sub (.var 2) (.var 4)) (.cons (.var 3) .nil))))) .nil)))) .nil)))))
def b_l_spine_1 : Ss :=
    (.cons (.asg 1 (.bin .Add (.lst (.cons (.ix (.var 0) (.cst (.int 1))) .nil)) (.var 1)))
      (.cons (.asg 0 (.ix (.var 0) (.cst (.int 0)))) .nil))
def b_l_spine : Ss :=
    (.cons (.asg 1 (.lst .nil))
    (.cons (.whl (.isi (.var 0) [.tuple]) b_l_spine_1)
    (.cons (.ret (.tup (.cons (.var 0) (.cons (.var 1) .nil)))) .nil)))
def b_l_done : Ss :=
    (.cons (.ite (.isi (.var 0) [.tuple]) (.cons (.ret (.tup (.cons (.call i_l_done (.cons (.ix (.var 0) (.cst (.int 0))) (.cons (.var 1) .nil))) (.cons (.call i_l_done (.cons (.ix (.var 0) (.cst (.int 1))) (.cons (.var 1) .nil))) .nil)))) .nil) .nil)
    (.cons (.ret (.ix (.var 1) (.var 0))) .nil))
def b_l_act_1 : Ss :=
    (.cons (.ite (.and (.cmp .Eq (.var 4) (.var 2)) (.cmp .Eq (.var 5) (.blt .len (.cons (.var 3) .nil)))) (.cons (.ret (.call i_l_done (.cons (.var 6) (.cons (.var 3) .nil)))) .nil) .nil) .nil)
def b_l_act : Ss :=
    (.cons (.asgT (.tup (.cons (.name 2) (.cons (.name 3) .nil))) (.call i_l_spine (.cons (.var 1) .nil)))
    (.cons (.for (.tup (.cons (.name 4) (.cons (.name 5) (.cons (.name 6) .nil)))) .of (.cons (.var 0) .nil) b_l_act_1)
    (.cons (.ret (.cst .none)) .nil)))
def b_l_places : Ss :=
    (.cons (.asgO 2 (.lst .nil))
    (.cons (.ite (.isi (.var 1) [.tuple]) (.cons (.ite (.cmp .IsNot (.call i_l_act (.cons (.var 0) (.cons (.var 1) .nil))) (.cst .none)) (.cons (.app 2 (.cst (.str (ofL [])))) .nil) .nil)
      (.cons (.asgO 2 (.bin .Add (.own 2) (.comp (.bin .Add (.cst (.str (ofL [98]))) (.var 3)) (.name 3) .of (.cons (.call i_l_places (.cons (.var 0) (.cons (.ix (.var 1) (.cst (.int 1))) .nil))) .nil) .nil [("place", 3)])))
      (.cons (.asgO 2 (.bin .Add (.own 2) (.comp (.bin .Add (.cst (.str (ofL [102]))) (.var 3)) (.name 3) .of (.cons (.call i_l_places (.cons (.var 0) (.cons (.ix (.var 1) (.cst (.int 0))) .nil))) .nil) .nil [("place", 3)]))) .nil))) .nil)
    (.cons (.frz 2)
    (.cons (.ret (.var 2)) .nil))))
def b_l_step : Ss :=
    (.cons (.ite (.cmp .Eq (.var 2) (.cst (.str (ofL [])))) (.cons (.ret (.call i_l_act (.cons (.var 0) (.cons (.var 1) .nil)))) .nil) .nil)
    (.cons (.ite (.cmp .Eq (.ix (.var 2) (.cst (.int 0))) (.cst (.str (ofL [102])))) (.cons (.ret (.tup (.cons (.call i_l_step (.cons (.var 0) (.cons (.ix (.var 1) (.cst (.int 0))) (.cons (.slc (.var 2) (.cst (.int 1)) .abs) .nil)))) (.cons (.ix (.var 1) (.cst (.int 1))) .nil)))) .nil) .nil)
    (.cons (.ret (.tup (.cons (.ix (.var 1) (.cst (.int 0))) (.cons (.call i_l_step (.cons (.var 0) (.cons (.ix (.var 1) (.cst (.int 1))) (.cons (.slc (.var 2) (.cst (.int 1)) .abs) .nil)))) .nil)))) .nil)))
def b_l_leaves : Ss :=
    (.cons (.ite (.isi (.var 0) [.tuple]) (.cons (.ret (.bin .Add (.call i_l_leaves (.cons (.ix (.var 0) (.cst (.int 0))) .nil)) (.call i_l_leaves (.cons (.ix (.var 0) (.cst (.int 1))) .nil)))) .nil) .nil)
    (.cons (.ret (.lst (.cons (.var 0) .nil))) .nil))
def b_l_way_1 : Ss :=
    (.cons (.asg 5 (.call i_l_places (.cons (.var 0) (.cons (.var 1) .nil))))
      (.cons (.ite (.and (.var 5) (.cmp .LtE (.blt .len (.cons (.call i_l_leaves (.cons (.var 1) .nil)) .nil)) (.cst (.int 30)))) (.cons (.asg 6 (.ix (.var 5) (.call i_l_mix (.cons (.var 4) (.cons (.cst (.int 9857)) (.cons (.blt .len (.cons (.var 5) .nil)) .nil))))))
        (.cons (.asg 3 (.bin .Add (.var 3) (.tup (.cons (.var 6) .nil))))
        (.cons (.asg 1 (.call i_l_step (.cons (.var 0) (.cons (.var 1) (.cons (.var 6) .nil))))) .nil))) .nil) .nil))
def b_l_way : Ss :=
    (.cons (.asg 3 (.tup .nil))
    (.cons (.for (.name 4) .of (.cons (.var 2) .nil) b_l_way_1)
    (.cons (.ret (.tup (.cons (.var 3) (.cons (.var 1) .nil)))) .nil)))
def b_l_gone_1 : Ss :=
    (.cons (.ite (.cmp .NotIn (.var 3) (.call i_l_places (.cons (.var 0) (.cons (.var 1) .nil)))) (.cons (.ret (.cst .none)) .nil) .nil)
      (.cons (.asg 1 (.call i_l_step (.cons (.var 0) (.cons (.var 1) (.cons (.var 3) .nil))))) .nil))
def b_l_gone : Ss :=
    (.cons (.for (.name 3) .of (.cons (.var 2) .nil) b_l_gone_1)
    (.cons (.ret (.var 1)) .nil))
def b_l_refused_1 : Ss :=
    (.cons (.expr (.call i_f_meeting (.cons (.var 0) (.cons (.var 1) (.cons (.var 2) (.cons (.var 3) .nil)))))) .nil)
def b_l_refused : Ss :=
    (.cons (.asg 4 (.cst (.bool false)))
    (.cons (.try_ b_l_refused_1 0 4 .setT)
    (.cons (.ret (.var 4)) .nil)))
def b_f_law_2 : Ss :=
    (.cons (.ite (.or (.not (.call i_l_refused (.cons (.var 1) (.cons (.var 4) (.cons (.var 5) (.cons (.var 8) .nil)))))) (.not (.call i_l_refused (.cons (.var 1) (.cons (.var 4) (.cons (.var 6) (.cons (.var 5) .nil))))))) (.cons (.ret (.cst (.bool false))) .nil) .nil) .nil)
def b_f_law_1 : Ss :=
    (.cons (.asg 3 (.call i_l_cell (.cons (.var 0) (.cons (.bin .Add (.cst (.int 1)) (.var 2)) .nil))))
      (.cons (.asg 4 (.call i_l_word (.cons (.var 3) (.cons (.var 1) (.cons (.bin .Add (.cst (.int 1)) (.call i_l_mix (.cons (.var 3) (.cons (.cst (.int 9869)) (.cons (.cst (.int 9)) .nil))))) (.cons (.cst (.str (ofL [97, 98]))) .nil))))))
      (.cons (.asgT (.tup (.cons (.name 6) (.cons (.name 7) .nil))) (.call i_l_way (.cons (.var 1) (.cons (.var 4) (.cons (.slc (.var 0) (.bin .Add (.cst (.int 4)) (.mulL (6) (.var 2))) (.bin .Add (.bin .Add (.cst (.int 4)) (.mulL (6) (.var 2))) (.bin .Mod (.var 3) (.cst (.int 4))))) .nil)))))
      (.cons (.asgT (.tup (.cons (.name 8) (.cons (.name 9) .nil))) (.call i_l_way (.cons (.var 1) (.cons (.var 4) (.cons (.slc (.var 0) (.bin .Add (.cst (.int 7)) (.mulL (6) (.var 2))) (.bin .Add (.bin .Add (.cst (.int 7)) (.mulL (6) (.var 2))) (.bin .Mod (.bin .FloorDiv (.var 3) (.cst (.int 4))) (.cst (.int 4))))) .nil)))))
      (.cons (.ite (.cmp .LtE (.bin .Add (.blt .len (.cons (.call i_l_leaves (.cons (.var 7) .nil)) .nil)) (.blt .len (.cons (.call i_l_leaves (.cons (.var 9) .nil)) .nil))) (.cst (.int 40))) (.cons (.asg 10 (.call i_f_meeting (.cons (.var 1) (.cons (.var 4) (.cons (.var 6) (.cons (.var 8) .nil))))))
        (.cons (.ite (.or (.not (.isi (.var 10) [.tuple])) (.cmp .NotEq (.blt .len (.cons (.var 10) .nil)) (.cst (.int 2)))) (.cons (.ret (.cst (.bool false))) .nil) .nil)
        (.cons (.asg 11 (.call i_l_gone (.cons (.var 1) (.cons (.var 7) (.cons (.ix (.var 10) (.cst (.int 0))) .nil)))))
        (.cons (.ite (.or (.cmp .Is (.var 11) (.cst .none)) (.cmp .NotEq (.var 11) (.call i_l_gone (.cons (.var 1) (.cons (.var 9) (.cons (.ix (.var 10) (.cst (.int 1))) .nil)))))) (.cons (.ret (.cst (.bool false))) .nil) .nil) .nil)))) .nil)
      (.cons (.for (.name 5) .of (.cons (.lst (.cons (.bin .Add (.var 6) (.tup (.cons (.cst (.str (ofL [102, 102, 102, 102, 102, 102, 102, 102, 102, 102, 102, 102, 102, 102, 102, 102, 102, 102, 102, 102, 102, 102, 102, 102, 102]))) .nil))) (.cons (.bin .Add (.tup (.cons (.cst (.str (ofL [120]))) .nil)) (.var 8)) .nil))) .nil) b_f_law_2) .nil))))))
def b_f_law : Ss :=
    (.cons (.asg 1 (.call i_l_makers (.cons (.call i_l_cell (.cons (.var 0) (.cons (.cst (.int 0)) .nil))) .nil)))
    (.cons (.for (.name 2) .range (.cons (.cst (.int 3)) .nil) b_f_law_1)
    (.cons (.ret (.cst (.bool true))) .nil)))
def tbl : List Def := [
  ⟨"book_of", ["makers"], ["makers", "found", "name", "many", "deed"], topS 4, b_f_book_of, false⟩,
  ⟨"spine", ["word"], ["word", "behind"], topS 5, b_f_spine, false⟩,
  ⟨"done", ["deed", "behind"], ["deed", "behind"], topS 6, b_f_done, false⟩,
  ⟨"can_act", ["book", "word"], ["book", "word", "head", "behind"], topS 8, b_f_can_act, false⟩,
  ⟨"acted", ["book", "word"], ["book", "word", "head", "behind"], topS 9, b_f_acted, false⟩,
  ⟨"places_in", ["book", "word", "place"], ["book", "word", "place", "found"], topS 10, b_f_places_in, false⟩,
  ⟨"places", ["makers", "word"], ["makers", "word"], topS 11, b_f_places, false⟩,
  ⟨"step_in", ["book", "word", "place"], ["book", "word", "place"], topS 12, b_f_step_in, false⟩,
  ⟨"step", ["makers", "word", "place"], ["makers", "word", "place"], topS 13, b_f_step, false⟩,
  ⟨"under", ["some", "sign"], ["some", "sign", "place"], topS 15, b_f_under, false⟩,
  ⟨"all_done", ["book", "word", "some"], ["book", "word", "some", "parts"], topS 16, b_f_all_done, false⟩,
  ⟨"marked", ["book", "word", "place"], ["book", "word", "place"], topS 17, b_f_marked, false⟩,
  ⟨"marked_places", ["book", "word", "place"], ["book", "word", "place", "found"], topS 18, b_f_marked_places, false⟩,
  ⟨"left_of", ["book", "word", "some", "others"], ["book", "word", "some", "others", "place"], topS 19, b_f_left_of, false⟩,
  ⟨"by_depth", ["some"], ["some"], topS 20, b_f_by_depth, true⟩,
  ⟨"meeting", ["makers", "word", "way", "other"], ["makers", "word", "way", "other", "book", "row", "behind", "here", "place", "begin", "ahead", "some", "mine", "new"], topS 21, b_f_meeting, false⟩,
  ⟨"_law_cell", ["script", "k"], ["script", "k"], topS 23, b_l_cell, false⟩,
  ⟨"_law_mix", ["cell", "prime", "many"], ["cell", "prime", "many", "blend"], topS 24, b_l_mix, false⟩,
  ⟨"_law_deed", ["cell", "many", "size"], ["cell", "many", "size", "front"], topS 25, b_l_deed, false⟩,
  ⟨"_law_known", ["k"], ["k", "rows"], topS 26, b_l_known, false⟩,
  ⟨"_law_makers", ["cell"], ["cell", "found", "k", "maker", "many", "one"], topS 27, b_l_makers, false⟩,
  ⟨"_law_word", ["cell", "makers", "size", "letters"], ["cell", "makers", "size", "letters", "front", "one", "turn"], topS 28, b_l_word, false⟩,
  ⟨"_law_spine", ["word"], ["word", "behind"], topS 29, b_l_spine, false⟩,
  ⟨"_law_done", ["deed", "behind"], ["deed", "behind"], topS 30, b_l_done, false⟩,
  ⟨"_law_act", ["makers", "word"], ["makers", "word", "head", "behind", "name", "many", "deed"], topS 31, b_l_act, false⟩,
  ⟨"_law_places", ["makers", "word"], ["makers", "word", "found", "place"], topS 32, b_l_places, false⟩,
  ⟨"_law_step", ["makers", "word", "place"], ["makers", "word", "place"], topS 33, b_l_step, false⟩,
  ⟨"_law_leaves", ["word"], ["word"], topS 34, b_l_leaves, false⟩,
  ⟨"_law_way", ["makers", "word", "cells"], ["makers", "word", "cells", "way", "cell", "some", "place"], topS 35, b_l_way, false⟩,
  ⟨"_law_gone", ["makers", "word", "way"], ["makers", "word", "way", "place"], topS 36, b_l_gone, false⟩,
  ⟨"_law_refused", ["makers", "word", "way", "other"], ["makers", "word", "way", "other", "told"], topS 37, b_l_refused, false⟩,
  ⟨"law", ["script"], ["script", "makers", "k", "cell", "word", "bad", "one", "left", "two", "right", "found", "end"], topS 38, b_f_law, false⟩]
def clsN : List Str := ["NoStep"]
def cstN : List Str := []
set_option maxHeartbeats 4000000 in
theorem tbl_chk : tblB tbl cstN clsN = true := by decide +kernel
def cs : Nat → Res D := fun _ => .stuck
def clsF (l : List Addr) (c : Nat) : Addr := l.getD c 0
abbrev T := semT tbl cs
theorem c_f_book_of (k : Nat) : callN T (k + 1) i_f_book_of = runF (callN T k) cs 5 1 b_f_book_of := rfl
theorem c_f_spine (k : Nat) : callN T (k + 1) i_f_spine = runF (callN T k) cs 2 1 b_f_spine := rfl
theorem c_f_done (k : Nat) : callN T (k + 1) i_f_done = runF (callN T k) cs 2 2 b_f_done := rfl
theorem c_f_can_act (k : Nat) : callN T (k + 1) i_f_can_act = runF (callN T k) cs 4 2 b_f_can_act := rfl
theorem c_f_acted (k : Nat) : callN T (k + 1) i_f_acted = runF (callN T k) cs 4 2 b_f_acted := rfl
theorem c_f_places_in (k : Nat) : callN T (k + 1) i_f_places_in = runF (callN T k) cs 4 3 b_f_places_in := rfl
theorem c_f_places (k : Nat) : callN T (k + 1) i_f_places = runF (callN T k) cs 2 2 b_f_places := rfl
theorem c_f_step_in (k : Nat) : callN T (k + 1) i_f_step_in = runF (callN T k) cs 3 3 b_f_step_in := rfl
theorem c_f_step (k : Nat) : callN T (k + 1) i_f_step = runF (callN T k) cs 3 3 b_f_step := rfl
theorem c_f_under (k : Nat) : callN T (k + 1) i_f_under = runF (callN T k) cs 3 2 b_f_under := rfl
theorem c_f_all_done (k : Nat) : callN T (k + 1) i_f_all_done = runF (callN T k) cs 4 3 b_f_all_done := rfl
theorem c_f_marked (k : Nat) : callN T (k + 1) i_f_marked = runF (callN T k) cs 3 3 b_f_marked := rfl
theorem c_f_marked_places (k : Nat) : callN T (k + 1) i_f_marked_places = runF (callN T k) cs 4 3 b_f_marked_places := rfl
theorem c_f_left_of (k : Nat) : callN T (k + 1) i_f_left_of = runF (callN T k) cs 5 4 b_f_left_of := rfl
theorem c_f_by_depth (k : Nat) : callN T (k + 1) i_f_by_depth = runF (callN T k) cs 1 1 b_f_by_depth := rfl
theorem c_f_meeting (k : Nat) : callN T (k + 1) i_f_meeting = runF (callN T k) cs 14 4 b_f_meeting := rfl
theorem c_l_cell (k : Nat) : callN T (k + 1) i_l_cell = runF (callN T k) cs 2 2 b_l_cell := rfl
theorem c_l_mix (k : Nat) : callN T (k + 1) i_l_mix = runF (callN T k) cs 4 3 b_l_mix := rfl
theorem c_l_deed (k : Nat) : callN T (k + 1) i_l_deed = runF (callN T k) cs 4 3 b_l_deed := rfl
theorem c_l_known (k : Nat) : callN T (k + 1) i_l_known = runF (callN T k) cs 2 1 b_l_known := rfl
theorem c_l_makers (k : Nat) : callN T (k + 1) i_l_makers = runF (callN T k) cs 6 1 b_l_makers := rfl
theorem c_l_word (k : Nat) : callN T (k + 1) i_l_word = runF (callN T k) cs 7 4 b_l_word := rfl
theorem c_l_spine (k : Nat) : callN T (k + 1) i_l_spine = runF (callN T k) cs 2 1 b_l_spine := rfl
theorem c_l_done (k : Nat) : callN T (k + 1) i_l_done = runF (callN T k) cs 2 2 b_l_done := rfl
theorem c_l_act (k : Nat) : callN T (k + 1) i_l_act = runF (callN T k) cs 7 2 b_l_act := rfl
theorem c_l_places (k : Nat) : callN T (k + 1) i_l_places = runF (callN T k) cs 4 2 b_l_places := rfl
theorem c_l_step (k : Nat) : callN T (k + 1) i_l_step = runF (callN T k) cs 3 3 b_l_step := rfl
theorem c_l_leaves (k : Nat) : callN T (k + 1) i_l_leaves = runF (callN T k) cs 1 1 b_l_leaves := rfl
theorem c_l_way (k : Nat) : callN T (k + 1) i_l_way = runF (callN T k) cs 7 3 b_l_way := rfl
theorem c_l_gone (k : Nat) : callN T (k + 1) i_l_gone = runF (callN T k) cs 4 3 b_l_gone := rfl
theorem c_l_refused (k : Nat) : callN T (k + 1) i_l_refused = runF (callN T k) cs 5 4 b_l_refused := rfl
theorem c_f_law (k : Nat) : callN T (k + 1) i_f_law = runF (callN T k) cs 12 1 b_f_law := rfl
local macro_rules | `(tactic| walk_at "ev") => `(tactic| simp -implicitDefEqProofs only [rF', stE, x_cons, x_nil, x_asg, x_asgO', x_asgT, x_par, x_app', x_ext', x_put', x_frz', x_ret, x_ite, x_for, x_brk, x_cnt, x_pass, x_raise, x_expr, nxt_n, nxt_r, nxt_b, nxt_c, tk_n, tk_c, tk_b, tk_r, e_var, e_own, e_int, e_str, e_bool, e_none, e_tup, e_lst, e_dic0, e_bin, e_neg', e_mulL', e_cmp, e_chain, e_and, e_or, e_not, e_ife, e_ix, e_slc, e_glob, e_slc3, e_lenset, e_rep, e_meth, st_rev, st_two, mo_l, mo_s, mo_i, mo_j, md_l, md_s, md_i, md_j, e_call, e_blt, e_isi, e_comp, s_nil, s_cons, t_and, t_or, t_not, t_cmp, t_chain, t_chain3, t_var, t_own, t_call, t_blt, t_isi, t_ix, t_ife, t_comp, ts_nil, ts_cons, andT_t, andT_f, orT_t, orT_f, andR_t, andR_f, orR_t, orR_f, ifR_t, ifR_f, bd, tr_b, tr_n, tr_l, tr_t, tr_i, tr_d, a_ii, a_ss, a_ll, a_tt, s_ii, m_ii, r_ii, d_ii, c_eq, c_ne, c_lt, c_le, c_gt, c_ge, c_is, c_isn, c_in, c_nin, is_n, is_b, eq_ii, ne_ii, eq_bb, ne_bb, b_ok, b_stuck, b_exn, n_t, m_ok, rv0, rvs, ro0, ro0', ros, sv0, svs, o_t, o_f, oi, negK_i, mulK_i, appK_o, extK_o, extK2_l, putK_o, putK2_s, putK2_i, frzK_o, frzK_v, ow_l, ow_d, i_l, i_t, i_d, i_di, opt_s, ix0, ix1, ix2, sl_l, sl_t, l_l, l_t, l_d, bl_len, bl_min, bl_max, bl_tl, bl_tt, bl_ll, bl_lt, bl_ls, bl_so, bl_ib, bl_all, it_l, it_t, it_s, it_r1, it_r2, it_e, it_rev, ty_ss, ty_st, ty_tt, ty_ts, ty_it, ty_ii, ab_a, ab_c, ab_v, ab_b, ab_n, ab_bl, ab_ca, ab_ix, ab_mu, is_s, is_nn, is_t, is_l, is_i, is_bl, in_d, g_name, g_tup, gs_nil, gs_cons, fk_r, fk_n, List.map_cons, List.map_nil, List.length_cons, List.length_nil, List.getElem?_cons_zero, List.getElem?_cons_succ, List.set_cons_zero, List.set_cons_succ, List.cons_append, List.nil_append, List.replicate_succ, List.replicate_zero, Nat.reduceAdd, Nat.reduceSub, Nat.reduceLT, Nat.reduceEqDiff, decide_true, decide_false, Bool.true_and, Bool.and_true, Bool.true_or, Bool.or_true, Bool.false_and, Bool.and_false, Bool.not_true, Bool.not_false, List.length_map, List.length_append, fz, Nat.reduceLeDiff, Nat.zero_add, beq_self_eq_true, *])
local macro_rules | `(tactic| walk_at "evf") => `(tactic| simp -implicitDefEqProofs only [for_cons, for_nil, rF', stE, x_cons, x_nil, x_asg, x_asgO', x_asgT, x_par, x_app', x_ext', x_put', x_frz', x_ret, x_ite, x_for, x_brk, x_cnt, x_pass, x_raise, x_expr, nxt_n, nxt_r, nxt_b, nxt_c, tk_n, tk_c, tk_b, tk_r, e_var, e_own, e_int, e_str, e_bool, e_none, e_tup, e_lst, e_dic0, e_bin, e_neg', e_mulL', e_cmp, e_chain, e_and, e_or, e_not, e_ife, e_ix, e_slc, e_glob, e_slc3, e_lenset, e_rep, e_meth, st_rev, st_two, mo_l, mo_s, mo_i, mo_j, md_l, md_s, md_i, md_j, e_call, e_blt, e_isi, e_comp, s_nil, s_cons, t_and, t_or, t_not, t_cmp, t_chain, t_chain3, t_var, t_own, t_call, t_blt, t_isi, t_ix, t_ife, t_comp, ts_nil, ts_cons, andT_t, andT_f, orT_t, orT_f, andR_t, andR_f, orR_t, orR_f, ifR_t, ifR_f, bd, tr_b, tr_n, tr_l, tr_t, tr_i, tr_d, a_ii, a_ss, a_ll, a_tt, s_ii, m_ii, r_ii, d_ii, c_eq, c_ne, c_lt, c_le, c_gt, c_ge, c_is, c_isn, c_in, c_nin, is_n, is_b, eq_ii, ne_ii, eq_bb, ne_bb, b_ok, b_stuck, b_exn, n_t, m_ok, rv0, rvs, ro0, ro0', ros, sv0, svs, o_t, o_f, oi, negK_i, mulK_i, appK_o, extK_o, extK2_l, putK_o, putK2_s, putK2_i, frzK_o, frzK_v, ow_l, ow_d, i_l, i_t, i_d, i_di, opt_s, ix0, ix1, ix2, sl_l, sl_t, l_l, l_t, l_d, bl_len, bl_min, bl_max, bl_tl, bl_tt, bl_ll, bl_lt, bl_ls, bl_so, bl_ib, bl_all, it_l, it_t, it_s, it_r1, it_r2, it_e, it_rev, ty_ss, ty_st, ty_tt, ty_ts, ty_it, ty_ii, ab_a, ab_c, ab_v, ab_b, ab_n, ab_bl, ab_ca, ab_ix, ab_mu, is_s, is_nn, is_t, is_l, is_i, is_bl, in_d, g_name, g_tup, gs_nil, gs_cons, fk_r, fk_n, List.map_cons, List.map_nil, List.length_cons, List.length_nil, List.getElem?_cons_zero, List.getElem?_cons_succ, List.set_cons_zero, List.set_cons_succ, List.cons_append, List.nil_append, List.replicate_succ, List.replicate_zero, Nat.reduceAdd, Nat.reduceSub, Nat.reduceLT, Nat.reduceEqDiff, decide_true, decide_false, Bool.true_and, Bool.and_true, Bool.true_or, Bool.or_true, Bool.false_and, Bool.and_false, Bool.not_true, Bool.not_false, List.length_map, List.length_append, fz, Nat.reduceLeDiff, Nat.zero_add, beq_self_eq_true, *])
local macro_rules | `(tactic| walk_at "evn") => `(tactic| simp -implicitDefEqProofs only [rF', stE, x_cons, x_nil, x_asg, x_asgO', x_asgT, x_par, x_app', x_ext', x_put', x_frz', x_ret, x_ite, x_brk, x_cnt, x_pass, x_raise, x_expr, nxt_n, nxt_r, nxt_b, nxt_c, tk_n, tk_c, tk_b, tk_r, e_var, e_own, e_int, e_str, e_bool, e_none, e_tup, e_lst, e_dic0, e_bin, e_neg', e_mulL', e_cmp, e_chain, e_and, e_or, e_not, e_ife, e_ix, e_slc, e_glob, e_slc3, e_lenset, e_rep, e_meth, st_rev, st_two, mo_l, mo_s, mo_i, mo_j, md_l, md_s, md_i, md_j, e_call, e_blt, e_isi, e_comp, s_nil, s_cons, t_and, t_or, t_not, t_cmp, t_chain, t_chain3, t_var, t_own, t_call, t_blt, t_isi, t_ix, t_ife, t_comp, ts_nil, ts_cons, andT_t, andT_f, orT_t, orT_f, andR_t, andR_f, orR_t, orR_f, ifR_t, ifR_f, bd, tr_b, tr_n, tr_l, tr_t, tr_i, tr_d, a_ii, a_ss, a_ll, a_tt, s_ii, m_ii, r_ii, d_ii, c_eq, c_ne, c_lt, c_le, c_gt, c_ge, c_is, c_isn, c_in, c_nin, is_n, is_b, eq_ii, ne_ii, eq_bb, ne_bb, b_ok, b_stuck, b_exn, n_t, m_ok, rv0, rvs, ro0, ro0', ros, sv0, svs, o_t, o_f, oi, negK_i, mulK_i, appK_o, extK_o, extK2_l, putK_o, putK2_s, putK2_i, frzK_o, frzK_v, ow_l, ow_d, i_l, i_t, i_d, i_di, opt_s, ix0, ix1, ix2, sl_l, sl_t, l_l, l_t, l_d, bl_len, bl_min, bl_max, bl_tl, bl_tt, bl_ll, bl_lt, bl_ls, bl_so, bl_ib, bl_all, it_l, it_t, it_s, it_e, it_rev, ty_ss, ty_st, ty_tt, ty_ts, ty_it, ty_ii, ab_a, ab_c, ab_v, ab_b, ab_n, ab_bl, ab_ca, ab_ix, ab_mu, is_s, is_nn, is_t, is_l, is_i, is_bl, in_d, g_name, g_tup, gs_nil, gs_cons, fk_r, fk_n, List.map_cons, List.map_nil, List.length_cons, List.length_nil, List.getElem?_cons_zero, List.getElem?_cons_succ, List.set_cons_zero, List.set_cons_succ, List.cons_append, List.nil_append, List.replicate_succ, List.replicate_zero, Nat.reduceAdd, Nat.reduceSub, Nat.reduceLT, Nat.reduceEqDiff, decide_true, decide_false, Bool.true_and, Bool.and_true, Bool.true_or, Bool.or_true, Bool.false_and, Bool.and_false, Bool.not_true, Bool.not_false, List.length_map, List.length_append, fz, Nat.reduceLeDiff, Nat.zero_add, beq_self_eq_true, *])

def mixZ (c p m : Int) : Int := (c * 48271 % p) * ((c * 48271 % p) + 7) % p % m
theorem mix_lo (c p m : Int) (hm : 0 < m) : 0 ≤ mixZ c p m := Int.emod_nonneg _ (Int.ne_of_gt hm)
theorem mix_hi (c p m : Int) (hm : 0 < m) : mixZ c p m < m := Int.emod_lt_of_pos _ hm
theorem mix_eq (k : Nat) (c p m : Int) (hk : 1 ≤ k) (hp : 0 < p) (hp2 : p < 2 ^ 63) (hm : 0 < m) : callN T k i_l_mix [.int c, .int p, .int m] = .ok (.int (mixZ c p m)) := by
  obtain ⟨k, rfl⟩ : ∃ j, k = j + 1 := ⟨k - 1, by omega⟩
  have h1 := Int.emod_lt_of_pos (c * 48271) hp
  have h2 := Int.emod_nonneg (c * 48271) (Int.ne_of_gt hp)
  have z : small64 (c * 48271 % p + 7) = true := sm _ (by omega) (by omega)
  have z2 : small64 48271 = true := by decide
  rw [c_l_mix]
  unfold b_l_mix
  walk_at "ev"
  rfl

def cellZ (ns : List Int) (k : Nat) : Int := ns.getD k 0
theorem cell_eq (k : Nat) (ns : List Int) (j : Nat) (hk : 1 ≤ k) : callN T k i_l_cell [.list (ns.map .int), .int (j : Nat)] = .ok (.int (cellZ ns j)) := by
  obtain ⟨k, rfl⟩ : ∃ i, k = i + 1 := ⟨k - 1, by omega⟩
  rw [c_l_cell]
  unfold b_l_cell
  by_cases h : j < ns.length
  · have e : decide ((j : Int) < (ns.length : Int)) = true := decide_eq_true (by omega)
    have q : ixD (ns.map .int) (j : Int) = .ok (.int (cellZ ns j)) := ixNat _ j _ (by
      rw [List.getElem?_map, List.getElem?_eq_getElem h]
      show some (PyData.int ns[j]) = some (PyData.int (ns.getD j 0))
      rw [List.getD_eq_getElem?_getD, List.getElem?_eq_getElem h]; rfl)
    walk_at "ev"
  · have e : decide ((j : Int) < (ns.length : Int)) = false := decide_eq_false (by omega)
    have q : cellZ ns j = 0 := by
      unfold cellZ
      rw [List.getD_eq_getElem?_getD, List.getElem?_eq_none (by omega)]; rfl
    walk_at "ev"

theorem spine_loop : ∀ (w : Wd) (Φ : Phi) (acc : List D) (n : Nat), w.dep < n → acc.length + w.dep ≤ 16000000 → whileL (tst Φ cs (.isi (.var 0) [.tuple])) (exs Φ cs b_f_spine_1) n [some (.val w.toD), some (.val (.list acc))] = .ok (.next [some (.val (.str w.hd)), some (.val (.list (w.args.map Wd.toD ++ acc)))])
  | .lf s, Φ, acc, n, hn, ha => by
    obtain ⟨n, rfl⟩ : ∃ i, n = i + 1 := ⟨n - 1, by omega⟩
    rw [whl_s]
    show (tst Φ cs (.isi (.var 0) [.tuple]) [some (.val (.str s)), some (.val (.list acc))]).bind _ = _
    walk_at "ev"
    rfl
  | .ap f a, Φ, acc, n, hn, ha => by
    have h1 : max f.dep a.dep + 1 < n := hn
    have h2 : acc.length + (max f.dep a.dep + 1) ≤ 16000000 := ha
    obtain ⟨n, rfl⟩ : ∃ i, n = i + 1 := ⟨n - 1, by omega⟩
    have ih := spine_loop f Φ (a.toD :: acc) n (by omega) (by rw [List.length_cons]; omega)
    have z : fitsZ (1 + acc.length) = true := fz _ (by omega)
    have e : exs Φ cs b_f_spine_1 [some (.val (.tuple [f.toD, a.toD])), some (.val (.list acc))] = .ok (.next [some (.val f.toD), some (.val (.list (a.toD :: acc)))]) := by
      unfold b_f_spine_1
      walk_at "ev"
    rw [whl_s]
    show (tst Φ cs (.isi (.var 0) [.tuple]) [some (.val (.tuple [f.toD, a.toD])), some (.val (.list acc))]).bind (fun k => ifR ((exs Φ cs b_f_spine_1 [some (.val (.tuple [f.toD, a.toD])), some (.val (.list acc))]).bind _) _ k) = _
    rw [e]
    walk_at "ev"
    show _ = Res.ok (Fl.next [some (.val (.str f.hd)), some (.val (.list ((f.args ++ [a]).map Wd.toD ++ acc)))])
    rw [List.map_append, List.append_assoc]
    rfl
def spD2 (w : Wd) : D := .tuple [.str w.hd, .list (w.args.map Wd.toD)]
theorem spine_eq (k : Nat) (w : Wd) (hk : 1 ≤ k) (hd : w.dep ≤ 900) : callN T k i_f_spine [w.toD] = .ok (spD2 w) := by
  obtain ⟨k, rfl⟩ : ∃ i, k = i + 1 := ⟨k - 1, by omega⟩
  have L := spine_loop w (callN T k) [] wmax (show w.dep < 1000 by omega) (by rw [List.length_nil]; omega)
  rw [List.append_nil] at L
  rw [c_f_spine]
  unfold b_f_spine
  have f0 : fitsZ 0 = true := rfl
  have f2 : fitsZ 2 = true := rfl
  walk_at "ev"
  rw [x_whl, L]
  walk_at "ev"
  rfl

theorem lspine_loop : ∀ (w : Wd) (Φ : Phi) (acc : List D) (n : Nat), w.dep < n → acc.length + w.dep ≤ 16000000 → whileL (tst Φ cs (.isi (.var 0) [.tuple])) (exs Φ cs b_l_spine_1) n [some (.val w.toD), some (.val (.list acc))] = .ok (.next [some (.val (.str w.hd)), some (.val (.list (w.args.map Wd.toD ++ acc)))])
  | .lf s, Φ, acc, n, hn, ha => by
    obtain ⟨n, rfl⟩ : ∃ i, n = i + 1 := ⟨n - 1, by omega⟩
    rw [whl_s]
    show (tst Φ cs (.isi (.var 0) [.tuple]) [some (.val (.str s)), some (.val (.list acc))]).bind _ = _
    walk_at "ev"
    rfl
  | .ap f a, Φ, acc, n, hn, ha => by
    have h1 : max f.dep a.dep + 1 < n := hn
    have h2 : acc.length + (max f.dep a.dep + 1) ≤ 16000000 := ha
    obtain ⟨n, rfl⟩ : ∃ i, n = i + 1 := ⟨n - 1, by omega⟩
    have ih := lspine_loop f Φ (a.toD :: acc) n (by omega) (by rw [List.length_cons]; omega)
    have z : fitsZ (1 + acc.length) = true := fz _ (by omega)
    have e : exs Φ cs b_l_spine_1 [some (.val (.tuple [f.toD, a.toD])), some (.val (.list acc))] = .ok (.next [some (.val f.toD), some (.val (.list (a.toD :: acc)))]) := by
      unfold b_l_spine_1
      walk_at "ev"
    rw [whl_s]
    show (tst Φ cs (.isi (.var 0) [.tuple]) [some (.val (.tuple [f.toD, a.toD])), some (.val (.list acc))]).bind (fun k => ifR ((exs Φ cs b_l_spine_1 [some (.val (.tuple [f.toD, a.toD])), some (.val (.list acc))]).bind _) _ k) = _
    rw [e]
    walk_at "ev"
    show _ = Res.ok (Fl.next [some (.val (.str f.hd)), some (.val (.list ((f.args ++ [a]).map Wd.toD ++ acc)))])
    rw [List.map_append, List.append_assoc]
    rfl
theorem lspine_eq (k : Nat) (w : Wd) (hk : 1 ≤ k) (hd : w.dep ≤ 900) : callN T k i_l_spine [w.toD] = .ok (spD2 w) := by
  obtain ⟨k, rfl⟩ : ∃ i, k = i + 1 := ⟨k - 1, by omega⟩
  have L := lspine_loop w (callN T k) [] wmax (show w.dep < 1000 by omega) (by rw [List.length_nil]; omega)
  rw [List.append_nil] at L
  rw [c_l_spine]
  unfold b_l_spine
  have f0 : fitsZ 0 = true := rfl
  have f2 : fitsZ 2 = true := rfl
  walk_at "ev"
  rw [x_whl, L]
  walk_at "ev"
  rfl

theorem can_act_eq (k : Nat) (ms : List Mk) (w : Wd) (hk : 2 ≤ k) (hd : w.dep ≤ 900) (hw : w.All Sg) : callN T k i_f_can_act [bkD ms, w.toD] = .ok (.bool (canB ms w)) := by
  obtain ⟨k, rfl⟩ : ∃ i, k = i + 1 := ⟨k - 1, by omega⟩
  have S := spine_eq k w (by omega) hd
  have hs : Sg w.hd := Wd.hd_all hw
  have sl : sliceD (.str w.hd) none (some 1) = .ok (.str w.hd) := by
    rw [sl_s, fz _ (by rw [hs.len]; decide), n_t, hs.cut]
  rw [c_f_can_act]
  unfold b_f_can_act
  unfold spD2 at S
  unfold bkD canB can
  cases q : fnd ms w.hd with
  | none =>
    have g := get_bk ms w.hd
    rw [q] at g
    have g' : dictGet (ms.map fun m => (.str m.nm, .tuple [.int (m.many : Nat), m.deed.toD])) (.inr w.hd) = none := g
    clear g
    walk_at "ev"
    rfl
  | some m =>
    have g := get_bk ms w.hd
    rw [q] at g
    have g' : dictGet (ms.map fun m => (.str m.nm, .tuple [.int (m.many : Nat), m.deed.toD])) (.inr w.hd) = some (.tuple [.int (m.many : Nat), m.deed.toD]) := g
    clear g
    have i1 : (some (PyData.tuple [.int (m.many : Nat), m.deed.toD])).isSome = true := rfl
    walk_at "ev"
    by_cases e : m.many = w.args.length
    · rw [if_pos e, decide_eq_true (by omega)]; rfl
    · rw [if_neg e, decide_eq_false (by omega)]; rfl

theorem dget_none : ∀ (ms : List Mk) (s : Str), (∀ m ∈ ms, m.nm ≠ s) → dictGet (ms.map fun m => (.str m.nm, .tuple [.int (m.many : Nat), m.deed.toD])) (.inr s) = none := fun ms s h => by
  rw [get_bk]
  have e : fnd ms s = none := List.find?_eq_none.mpr fun m hm => by
    simpa using h m hm
  rw [e]; rfl
theorem book_loop (Φ : Phi) (md : D) : ∀ (ms ds : List Mk) (x y z : Option Slot), ((ds ++ ms).map Mk.nm).Nodup → (ds ++ ms).length ≤ 1000 → ∃ x' y' z', forL (bindG (.tup (.cons (.name 2) (.cons (.name 3) (.cons (.name 4) .nil))))) (exs Φ cs b_f_book_of_1) (ms.map Mk.toD) [some (.val md), some (.own (bkD ds)), x, y, z] = .ok (.next [some (.val md), some (.own (bkD (ds ++ ms))), x', y', z'])
  | [], ds, x, y, z, _, _ => by
    rw [List.append_nil]
    exact ⟨x, y, z, rfl⟩
  | m :: r, ds, x, y, z, hn, hl => by
    have e : ds ++ m :: r = (ds ++ [m]) ++ r := by rw [List.append_assoc]; rfl
    have hl2 : ds.length + (r.length + 1) ≤ 1000 := by rw [List.length_append, List.length_cons] at hl; exact hl
    have ng : ∀ m' ∈ ds, m'.nm ≠ m.nm := fun m' hm' q => by
      rw [List.map_append, List.nodup_append] at hn
      exact hn.2.2 _ (List.mem_map_of_mem hm') _ List.mem_cons_self q
    have g := dget_none ds m.nm ng
    have p : dictPut (ds.map fun m => (.str m.nm, .tuple [.int (m.many : Nat), m.deed.toD])) (.inr m.nm) (.tuple [.int (m.many : Nat), m.deed.toD]) = (ds ++ [m]).map fun m => (.str m.nm, .tuple [.int (m.many : Nat), m.deed.toD]) := by
      unfold dictPut
      rw [g, List.map_append]
      rfl
    clear g
    have f2 : fitsZ 2 = true := rfl
    have sl : ds.length < sizeLine := show ds.length < 16777216 by omega
    have sl' : decide (ds.length < sizeLine) = true := decide_eq_true sl
    obtain ⟨x', y', z', ih⟩ := book_loop Φ md r (ds ++ [m]) (some (.val (.str m.nm))) (some (.val (.int (m.many : Nat)))) (some (.val m.deed.toD)) (e ▸ hn) (e ▸ hl)
    refine ⟨x', y', z', ?_⟩
    rw [e, ← ih, List.map_cons, for_cons]
    unfold Mk.toD bkD b_f_book_of_1
    clear ih
    walk_at "ev"
theorem book_eq (k : Nat) (ms : List Mk) (hk : 1 ≤ k) (hn : (ms.map Mk.nm).Nodup) (hl : ms.length ≤ 1000) : callN T k i_f_book_of [msD ms] = .ok (bkD ms) := by
  obtain ⟨k, rfl⟩ : ∃ i, k = i + 1 := ⟨k - 1, by omega⟩
  obtain ⟨x, y, z, L⟩ := book_loop (callN T k) (msD ms) ms [] none none none hn hl
  rw [List.nil_append] at L
  rw [c_f_book_of]
  unfold b_f_book_of
  unfold msD bkD at L ⊢
  rw [List.map_nil] at L
  walk_at "ev"

theorem places_in_eq (ms : List Mk) : ∀ (w : Wd) (k : Nat) (p : Pl), w.dep + 3 ≤ k → w.dep ≤ 900 → (plcs ms w).length ≤ 16000000 → p.length + w.dep ≤ 1000 → w.All Sg → callN T k i_f_places_in [bkD ms, w.toD, .str (plS p)] = .ok (.list ((plcs ms w).map fun q => .str (plS (p ++ q))))
  | .lf s, k, p, hk, hd, hz, hp, hw => by
    obtain ⟨k, rfl⟩ : ∃ i, k = i + 1 := ⟨k - 1, by omega⟩
    have C := can_act_eq k ms (.lf s) (by omega) hd hw
    have e1 : (Wd.lf s).toD = .str s := rfl
    have z0 : decide (0 < sizeLine) = true := rfl
    have f0 : fitsZ 0 = true := rfl
    rw [e1] at C ⊢
    rw [c_f_places_in]
    unfold b_f_places_in plcs own
    unfold canB at C
    cases q : can ms (.lf s) with
    | none =>
      rw [q] at C
      have C' : callN T k i_f_can_act [bkD ms, .str s] = .ok (.bool false) := C
      clear C
      walk_at "ev"
    | some m =>
      rw [q] at C
      have C' : callN T k i_f_can_act [bkD ms, .str s] = .ok (.bool true) := C
      clear C
      walk_at "ev"
      rw [List.append_nil]
  | .ap f a, k, p, hk, hd, hz, hp, hw => by
    have hk' : max f.dep a.dep + 1 + 3 ≤ k := hk
    have hd' : max f.dep a.dep + 1 ≤ 900 := hd
    have hz' : (plcs ms f).length + (plcs ms a).length ≤ 16000000 := by
      have h2 : (own ms (.ap f a) ++ (plcs ms f).map (true :: ·) ++ (plcs ms a).map (false :: ·)).length ≤ 16000000 := hz
      rw [List.length_append, List.length_append, List.length_map, List.length_map] at h2
      omega
    obtain ⟨k, rfl⟩ : ∃ i, k = i + 1 := ⟨k - 1, by omega⟩
    have hp' : p.length + (max f.dep a.dep + 1) ≤ 1000 := hp
    have C := can_act_eq k ms (.ap f a) (by omega) hd hw
    have I1 := places_in_eq ms f k (p ++ [true]) (by omega) (by omega) (by omega) (by rw [List.length_append, List.length_singleton]; omega) hw.1
    have I2 := places_in_eq ms a k (p ++ [false]) (by omega) (by omega) (by omega) (by rw [List.length_append, List.length_singleton]; omega) hw.2
    have e1 : (Wd.ap f a).toD = .tuple [f.toD, a.toD] := rfl
    have z0 : decide (0 < sizeLine) = true := rfl
    have f0 : fitsZ 0 = true := rfl
    have a1 : plS p ++ ofL [102] = plS (p ++ [true]) := plS_app p [true]
    have a2 : plS p ++ ofL [98] = plS (p ++ [false]) := plS_app p [false]
    have l1 : (ofL [102]).length = 1 := rfl
    have l2 : (ofL [98]).length = 1 := rfl
    have l3 : fitsZ (p.length + 1) = true := fz _ (by omega)
    have l4 := plS_len p
    have m1 : fitsZ (plcs ms f).length = true := fz _ (by omega)
    have m2 : fitsZ ((plcs ms f).length + (plcs ms a).length) = true := fz _ (by omega)
    have m3 : fitsZ (1 + (plcs ms f).length) = true := fz _ (by omega)
    have m4 : fitsZ (1 + (plcs ms f).length + (plcs ms a).length) = true := fz _ (by omega)
    have m5 : fitsZ ((plcs ms f).length + 1 + (plcs ms a).length) = true := fz _ (by omega)
    have o1 : ∀ q : Pl, p ++ [true] ++ q = p ++ true :: q := fun q => by rw [List.append_assoc]; rfl
    have o2 : ∀ q : Pl, p ++ [false] ++ q = p ++ false :: q := fun q => by rw [List.append_assoc]; rfl
    rw [e1] at C ⊢
    rw [c_f_places_in]
    unfold b_f_places_in plcs own
    unfold canB at C
    cases q : can ms (.ap f a) with
    | none =>
      rw [q] at C
      have C' : callN T k i_f_can_act [bkD ms, .tuple [f.toD, a.toD]] = .ok (.bool false) := C
      clear C
      walk_at "ev"
      simp only [List.map_append, List.map_map, Function.comp_def, List.nil_append, List.map_nil, o1, o2]
    | some m =>
      rw [q] at C
      have C' : callN T k i_f_can_act [bkD ms, .tuple [f.toD, a.toD]] = .ok (.bool true) := C
      clear C
      walk_at "ev"
      simp only [List.map_append, List.map_map, Function.comp_def, List.nil_append, List.map_cons, List.map_nil, List.append_nil, List.cons_append, o1, o2]
theorem places_eq2 (k : Nat) (ms : List Mk) (w : Wd) (hk : w.dep + 4 ≤ k) (hd : w.dep ≤ 900) (hz : (plcs ms w).length ≤ 16000000) (hw : w.All Sg) (hn : (ms.map Mk.nm).Nodup) (hl : ms.length ≤ 1000) : callN T k i_f_places [msD ms, w.toD] = .ok (.tuple ((plsS ms w).map .str)) := by
  obtain ⟨k, rfl⟩ : ∃ i, k = i + 1 := ⟨k - 1, by omega⟩
  have B := book_eq k ms (by omega) hn hl
  have P := places_in_eq ms w k [] (by omega) hd hz (by rw [List.length_nil]; omega) hw
  have e0 : plS [] = ofL [] := rfl
  rw [e0] at P
  have S := sorted_str ((plcs ms w).map plS)
  rw [List.map_map] at S
  have P' : callN T k i_f_places_in [bkD ms, w.toD, .str (ofL [])] = .ok (.list ((plcs ms w).map (PyData.str ∘ plS))) := P
  clear P e0
  rw [c_f_places]
  unfold b_f_places plsS
  walk_at "ev"
theorem places_eq (k : Nat) (ms : List Mk) (w : Wd) (hk : w.dep + 4 ≤ k) (hd : w.dep ≤ 900) (hz : w.size ≤ 4000000) (hw : w.All Sg) (hn : (ms.map Mk.nm).Nodup) (hl : ms.length ≤ 1000) : callN T k i_f_places [msD ms, w.toD] = .ok (.tuple ((plsS ms w).map .str)) := places_eq2 k ms w hk hd (by have := plcs_len ms w; omega) hw hn hl

theorem ix_str (l : List Nat) (j : Nat) (c : Nat) (h : l[j]? = some c) (hl : l.length ≤ 16777216) : itemD (.str (ofL l)) (.int (j : Nat)) = .ok (.str (ofL [c])) := by
  have hj : j < l.length := (List.getElem?_eq_some_iff.mp h).1
  show need (fitsZ l.toArray.size) (match atI l (j : Int) with | some c => .ok (chD c) | none => .stuck) = _
  have e : atI l (j : Int) = some c := by
    unfold atI ixN
    rw [if_pos (by omega), if_pos (by omega), Int.toNat_natCast]
    exact h
  rw [e, List.size_toArray, fz _ hl]
  rfl
theorem eq_ss {a b : Str} (ha : PyData.strOk a = true) (hb : PyData.strOk b = true) : eqD (.str a) (.str b) = .ok (.bool (decide (a = b))) := by
  unfold eqD eqOk
  show need ((PyData.strOk a && PyData.strOk b) && _) (Res.ok (PyData.bool (a == b))) = _
  rw [ha, hb]
  show Res.ok (PyData.bool (a == b)) = _
  rw [Bool.beq_eq_decide_eq]
theorem ne_ss {a b : Str} (ha : PyData.strOk a = true) (hb : PyData.strOk b = true) : neD (.str a) (.str b) = .ok (.bool (!decide (a = b))) := by
  unfold neD eqOk
  show need ((PyData.strOk a && PyData.strOk b) && _) (Res.ok (PyData.bool (!(a == b)))) = _
  rw [ha, hb]
  show Res.ok (PyData.bool (!(a == b))) = _
  rw [Bool.beq_eq_decide_eq]
theorem lay_strs : ∀ (ss : List Str), (∀ s ∈ ss, PyData.strOk s = true) → PyData.canLayAll0 (ss.map .str) = true
  | [], _ => rfl
  | s :: r, h => by
    show (PyData.strOk s && PyData.canLayAll0 (r.map .str)) = true
    rw [h s List.mem_cons_self, lay_strs r fun x hx => h x (List.mem_cons_of_mem _ hx)]; rfl
theorem dep_strs : ∀ (ss : List Str), PyData.depthAll (ss.map .str) = 0
  | [] => rfl
  | s :: r => by
    show max 0 (PyData.depthAll (r.map .str)) = 0
    rw [dep_strs r]; rfl
theorem any_strs (s : Str) : ∀ ss : List Str, ((ss.map PyData.str).any fun z => PyData.eqv z (.str s)) = decide (s ∈ ss)
  | [] => by simp
  | x :: r => by
    rw [List.map_cons, List.any_cons, any_strs s r]
    show ((x == s) || _) = _
    by_cases h : x = s
    · rw [h, beq_self_eq_true]; simp
    · rw [beq_eq_false_iff_ne.mpr h]
      have h' : ¬ s = x := fun e => h e.symm
      simp [h']
theorem in_strs {s : Str} {ss : List Str} (h1 : PyData.strOk s = true) (h2 : ∀ x ∈ ss, PyData.strOk x = true) : inD (.str s) (.list (ss.map .str)) = .ok (decide (s ∈ ss)) := by
  show need (inOk (.str s) (ss.map .str)) _ = _
  have e : inOk (.str s) (ss.map .str) = true := by
    unfold inOk
    show ((PyData.strOk s && PyData.canLayAll0 (ss.map .str)) && (decide (0 ≤ lim) || _)) = true
    rw [h1, lay_strs ss h2]; rfl
  rw [e, any_strs]
  rfl
theorem in_strsT {s : Str} {ss : List Str} (h1 : PyData.strOk s = true) (h2 : ∀ x ∈ ss, PyData.strOk x = true) : inD (.str s) (.tuple (ss.map .str)) = .ok (decide (s ∈ ss)) := by
  show need (inOk (.str s) (ss.map .str)) _ = _
  have e : inOk (.str s) (ss.map .str) = true := by
    unfold inOk
    show ((PyData.strOk s && PyData.canLayAll0 (ss.map .str)) && (decide (0 ≤ lim) || _)) = true
    rw [h1, lay_strs ss h2]; rfl
  rw [e, any_strs]
  rfl
theorem natOf {z : Int} (h : 0 ≤ z) : ∃ n : Nat, z = (n : Int) := ⟨z.toNat, by omega⟩
theorem can_find {ms : List Mk} (w : Wd) (hn : (ms.map Mk.nm).Nodup) : can ms w = ms.find? fun m => decide (m.nm = w.hd) && decide (m.many = w.args.length) := by
  unfold can fnd
  induction ms with
  | nil => rfl
  | cons m r ih =>
    rw [List.map_cons, List.nodup_cons] at hn
    rw [List.find?_cons, List.find?_cons]
    by_cases h : m.nm = w.hd
    · rw [h, beq_self_eq_true, decide_eq_true rfl, Bool.true_and]
      by_cases e : m.many = w.args.length
      · rw [decide_eq_true e]
        show (if m.many = w.args.length then some m else none) = some m
        rw [if_pos e]
      · rw [decide_eq_false e]
        show (if m.many = w.args.length then some m else none) = List.find? _ r
        rw [if_neg e]
        exact (List.find?_eq_none.mpr fun m' hm' => by
          have : m'.nm ≠ w.hd := fun q => hn.1 (by rw [h, ← q]; exact List.mem_map_of_mem hm')
          simp [this]).symm
    · rw [beq_eq_false_iff_ne.mpr h, decide_eq_false h, Bool.false_and]
      exact ih hn.2
theorem ok_nil : PyData.strOk (ofL []) = true := plS_ok [] (by decide)
theorem ok_f : PyData.strOk (ofL [102]) = true := plS_ok [true] (by decide)
theorem ok_b : PyData.strOk (ofL [98]) = true := plS_ok [false] (by decide)
theorem eq_ff : eqD (.str (ofL [102])) (.str (ofL [102])) = .ok (.bool true) := by
  rw [eq_ss ok_f ok_f, decide_eq_true rfl]
theorem eq_bf : eqD (.str (ofL [98])) (.str (ofL [102])) = .ok (.bool false) := by
  rw [eq_ss ok_b ok_f, decide_eq_false fun e => by have := ofL_inj e; cases this]
theorem eq_fb : eqD (.str (ofL [102])) (.str (ofL [98])) = .ok (.bool false) := by
  rw [eq_ss ok_f ok_b, decide_eq_false fun e => by have := ofL_inj e; cases this]
theorem eq_b2 : eqD (.str (ofL [98])) (.str (ofL [98])) = .ok (.bool true) := by
  rw [eq_ss ok_b ok_b, decide_eq_true rfl]
theorem fnd_of : ∀ {ms : List Mk} {m : Mk}, (ms.map Mk.nm).Nodup → m ∈ ms → fnd ms m.nm = some m
  | [], _, _, h => by cases h
  | m' :: r, m, nd, h => by
    rw [List.map_cons, List.nodup_cons] at nd
    show List.find? _ (m' :: r) = _
    rw [List.find?_cons]
    rcases List.mem_cons.mp h with rfl | h
    · rw [beq_self_eq_true]
    · have n : m'.nm ≠ m.nm := fun e => nd.1 (e ▸ List.mem_map_of_mem h)
      rw [beq_eq_false_iff_ne.mpr n]
      exact fnd_of nd.2 h

theorem done_f (bs : List Wd) : ∀ (d : Dd) (k : Nat), d.dep + 1 ≤ k → d.bd bs.length → callN T k i_f_done [d.toD, .list (bs.map Wd.toD)] = .ok (d.act bs).toD
  | .v i, k, hk, hb => by
    obtain ⟨k, rfl⟩ : ∃ i, k = i + 1 := ⟨k - 1, by omega⟩
    have hb' : i < bs.length := hb
    have e1 : (Dd.v i).toD = .int (i : Nat) := rfl
    have I : ixD (bs.map Wd.toD) (i : Int) = .ok ((Dd.v i).act bs).toD := ixNat _ i _ (by
      rw [List.getElem?_map, List.getElem?_eq_getElem hb']
      show some bs[i].toD = some (bs.getD i (.lf (ofL []))).toD
      rw [List.getD_eq_getElem?_getD, List.getElem?_eq_getElem hb']; rfl)
    rw [e1, c_f_done]
    unfold b_f_done
    walk_at "ev"
  | .p a b, k, hk, hb => by
    have hk' : max a.dep b.dep + 1 + 1 ≤ k := hk
    obtain ⟨k, rfl⟩ : ∃ i, k = i + 1 := ⟨k - 1, by omega⟩
    have e1 : (Dd.p a b).toD = .tuple [a.toD, b.toD] := rfl
    have I1 := done_f bs a k (by omega) hb.1
    have I2 := done_f bs b k (by omega) hb.2
    have f2 : fitsZ 2 = true := rfl
    rw [e1, c_f_done]
    unfold b_f_done
    walk_at "ev"
    rfl

theorem deed_ex : ∀ (n k : Nat) (c : Int) (many : Nat), n + 2 ≤ k → 1 ≤ many → many ≤ 4 → 1 ≤ n → n ≤ 100 → ∃ d : Dd, callN T k i_l_deed [.int c, .int (many : Nat), .int (n : Nat)] = .ok d.toD ∧ d.bd many ∧ d.size = n := by
  intro n
  induction n using Nat.strongRecOn with
  | _ n ih =>
    intro k c many hk h1 h4 hn hn2
    obtain ⟨k, rfl⟩ : ∃ i, k = i + 1 := ⟨k - 1, by omega⟩
    rw [c_l_deed]
    unfold b_l_deed
    by_cases h : n < 2
    · have e1 : decide ((n : Int) < 2) = true := decide_eq_true (by omega)
      have M := mix_eq k c 9973 many (by omega) (by decide) (by decide) (by omega)
      obtain ⟨i, hi⟩ := natOf (mix_lo c 9973 many (by omega))
      have hi2 := mix_hi c 9973 many (by omega)
      rw [hi] at M hi2
      refine ⟨.v i, ?_, by show i < many; omega, by show 1 = n; omega⟩
      clear hi hi2 ih
      walk_at "ev"
      rfl
    · have e1 : decide ((n : Int) < 2) = false := decide_eq_false (by omega)
      have M := mix_eq k c 9967 ((n : Int) - 1) (by omega) (by decide) (by decide) (by omega)
      have m1 := mix_lo c 9967 ((n : Int) - 1) (by omega)
      have m2 := mix_hi c 9967 ((n : Int) - 1) (by omega)
      obtain ⟨f, hf⟩ := natOf (show 0 ≤ 1 + mixZ c 9967 ((n : Int) - 1) by omega)
      have g1 : (n : Int) - (f : Int) = ((n - f : Nat) : Int) := by omega
      obtain ⟨d1, I1, b1, s1⟩ := ih f (by omega) k (c * 3 + 1) many (by omega) h1 h4 (by omega) (by omega)
      obtain ⟨d2, I2, b2, s2⟩ := ih (n - f) (by omega) k (c * 5 + 2) many (by omega) h1 h4 (by omega) (by omega)
      refine ⟨.p d1 d2, ?_, ⟨b1, b2⟩, by show d1.size + d2.size = n; omega⟩
      have z3 : small64 3 = true := rfl
      have z5 : small64 5 = true := rfl
      have f2 : fitsZ 2 = true := rfl
      clear ih m1 m2 s1 s2
      walk_at "ev"
      rfl

def knownL : List Mk := [⟨ofL [83], 3, .p (.p (.v 0) (.v 2)) (.p (.v 1) (.v 2))⟩, ⟨ofL [75], 2, .v 0⟩, ⟨ofL [73], 1, .v 0⟩, ⟨ofL [66], 3, .p (.v 0) (.p (.v 1) (.v 2))⟩, ⟨ofL [67], 3, .p (.p (.v 0) (.v 2)) (.v 1)⟩, ⟨ofL [87], 2, .p (.p (.v 0) (.v 1)) (.v 1)⟩, ⟨ofL [77], 1, .p (.v 0) (.v 0)⟩, ⟨ofL [84], 2, .p (.v 1) (.v 0)⟩, ⟨ofL [76], 2, .p (.v 0) (.p (.v 1) (.v 1))⟩, ⟨ofL [86], 3, .p (.p (.v 2) (.v 0)) (.v 1)⟩]
theorem known_eq (k : Nat) (z : Int) (hk : 1 ≤ k) (m : Mk) (hm : knownL[(z % 10).toNat]? = some m) : callN T k i_l_known [.int z] = .ok m.toD := by
  obtain ⟨k, rfl⟩ : ∃ i, k = i + 1 := ⟨k - 1, by omega⟩
  have f5 : fitsZ 5 = true := rfl
  have f2 : fitsZ 2 = true := rfl
  have f3 : fitsZ 3 = true := rfl
  have f4 : fitsZ 4 = true := rfl
  have f9 : fitsZ (5 + 4) = true := rfl
  have f9' : fitsZ 9 = true := rfl
  have s9 : decide (9 < sizeLine) = true := rfl
  have t0 : decide ((0 : Int) < 10) = true := rfl
  have hI : ixD (knownL.map Mk.toD) (z % 10) = .ok m.toD := by
    have e : z % 10 = (((z % 10).toNat : Nat) : Int) := by omega
    rw [e]
    exact ixNat _ _ _ (by rw [List.getElem?_map, hm]; rfl)
  rw [c_l_known]
  unfold b_l_known
  clear hm
  walk_at "ev"
  unfold knownL at hI
  simp only [List.map_cons, List.map_nil] at hI
  show (((ixD _ (z % 10)).bind _).bind _).bind finK = _
  erw [hI]
  rfl
theorem known_ok (m : Mk) (h : m ∈ knownL) : MkOk m := by
  unfold knownL at h
  simp only [List.mem_cons, List.not_mem_nil, or_false] at h
  rcases h with rfl | rfl | rfl | rfl | rfl | rfl | rfl | rfl | rfl | rfl <;> exact ⟨⟨_, rfl, by decide, by decide⟩, by decide, by decide, by simp [Dd.bd], by decide⟩
theorem known_ex (k : Nat) (z : Int) (hk : 1 ≤ k) : ∃ m : Mk, callN T k i_l_known [.int z] = .ok m.toD ∧ MkOk m := by
  have h : (z % 10).toNat < knownL.length := show _ < 10 by omega
  exact ⟨knownL[(z % 10).toNat], known_eq k z hk _ (List.getElem?_eq_getElem h), known_ok _ (List.getElem_mem h)⟩

theorem done_l (bs : List Wd) : ∀ (d : Dd) (k : Nat), d.dep + 1 ≤ k → d.bd bs.length → callN T k i_l_done [d.toD, .list (bs.map Wd.toD)] = .ok (d.act bs).toD
  | .v i, k, hk, hb => by
    obtain ⟨k, rfl⟩ : ∃ i, k = i + 1 := ⟨k - 1, by omega⟩
    have hb' : i < bs.length := hb
    have e1 : (Dd.v i).toD = .int (i : Nat) := rfl
    have I : ixD (bs.map Wd.toD) (i : Int) = .ok ((Dd.v i).act bs).toD := ixNat _ i _ (by
      rw [List.getElem?_map, List.getElem?_eq_getElem hb']
      show some bs[i].toD = some (bs.getD i (.lf (ofL []))).toD
      rw [List.getD_eq_getElem?_getD, List.getElem?_eq_getElem hb']; rfl)
    rw [e1, c_l_done]
    unfold b_l_done
    walk_at "ev"
  | .p a b, k, hk, hb => by
    have hk' : max a.dep b.dep + 1 + 1 ≤ k := hk
    obtain ⟨k, rfl⟩ : ∃ i, k = i + 1 := ⟨k - 1, by omega⟩
    have e1 : (Dd.p a b).toD = .tuple [a.toD, b.toD] := rfl
    have I1 := done_l bs a k (by omega) hb.1
    have I2 := done_l bs b k (by omega) hb.2
    have f2 : fitsZ 2 = true := rfl
    rw [e1, c_l_done]
    unfold b_l_done
    walk_at "ev"
    rfl

def actD (ms : List Mk) (w : Wd) : D := match can ms w with
  | some m => (m.deed.act w.args).toD
  | none => .none
theorem act_loop (Φ : Phi) (w : Wd) (md : D) (k : Nat) (hk : 5 ≤ k) (hw : w.All Sg) (hΦ : Φ = callN T k) : ∀ (ms : List Mk) (x y z : Option Slot), (∀ m ∈ ms, MkOk m) → ∃ x' y' z', forL (bindG (.tup (.cons (.name 4) (.cons (.name 5) (.cons (.name 6) .nil))))) (exs Φ cs b_l_act_1) (ms.map Mk.toD) [some (.val md), some (.val w.toD), some (.val (.str w.hd)), some (.val (.list (w.args.map Wd.toD))), x, y, z] = match ms.find? (fun m => decide (m.nm = w.hd) && decide (m.many = w.args.length)) with
    | some m => .ok (.ret (m.deed.act w.args).toD)
    | none => .ok (.next [some (.val md), some (.val w.toD), some (.val (.str w.hd)), some (.val (.list (w.args.map Wd.toD))), x', y', z'])
  | [], x, y, z, _ => ⟨x, y, z, rfl⟩
  | m :: r, x, y, z, hm => by
    have o := hm m List.mem_cons_self
    obtain ⟨x', y', z', ih⟩ := act_loop Φ w md k hk hw hΦ r (some (.val (.str m.nm))) (some (.val (.int (m.many : Nat)))) (some (.val m.deed.toD)) fun m' h' => hm m' (List.mem_cons_of_mem _ h')
    refine ⟨x', y', z', ?_⟩
    have E := eq_ss (Gt.sg o.nm).ok (Wd.hd_all hw).ok
    rw [List.map_cons, for_cons, List.find?_cons]
    unfold Mk.toD b_l_act_1
    by_cases h : m.nm = w.hd
    · by_cases q : m.many = w.args.length
      · have A := done_l w.args m.deed k (by have := m.deed.dep_lt; have := o.sz; omega) (q ▸ o.bd)
        rw [← hΦ] at A
        have q1 : decide (m.nm = w.hd) = true := decide_eq_true h
        have q2 : decide ((m.many : Int) = (w.args.length : Int)) = true := decide_eq_true (by omega)
        have q3 : decide (m.many = w.args.length) = true := decide_eq_true q
        clear ih h q hΦ
        walk_at "ev"
      · have q1 : decide (m.nm = w.hd) = true := decide_eq_true h
        have q2 : decide ((m.many : Int) = (w.args.length : Int)) = false := decide_eq_false (by omega)
        have q3 : decide (m.many = w.args.length) = false := decide_eq_false q
        rw [q1, q3, Bool.true_and]
        dsimp only
        rw [← ih]
        clear ih h q hΦ
        rw [q1] at E
        walk_at "ev"
        rfl
    · have q1 : decide (m.nm = w.hd) = false := decide_eq_false h
      rw [q1, Bool.false_and]
      dsimp only
      rw [← ih]
      clear ih h
      rw [q1] at E
      walk_at "ev"
      rfl
theorem act_eq (k : Nat) (ms : List Mk) (w : Wd) (hk : 6 ≤ k) (hd : w.dep ≤ 900) (hw : w.All Sg) (hm : MsOk ms) : callN T k i_l_act [msD ms, w.toD] = .ok (actD ms w) := by
  obtain ⟨k, rfl⟩ : ∃ i, k = i + 1 := ⟨k - 1, by omega⟩
  have S := lspine_eq k w (by omega) hd
  obtain ⟨x, y, z, L⟩ := act_loop (callN T k) w (msD ms) k (by omega) hw rfl ms none none none hm.ok
  rw [c_l_act]
  unfold b_l_act actD
  rw [can_find w hm.nd]
  unfold spD2 at S
  unfold msD at L ⊢
  cases q : ms.find? (fun m => decide (m.nm = w.hd) && decide (m.many = w.args.length)) with
  | none =>
    rw [q] at L
    dsimp only at L
    clear q
    walk_at "ev"
  | some m =>
    rw [q] at L
    dsimp only at L
    clear q
    walk_at "ev"

theorem names_comp (Φ : Phi) (ds : List Mk) (a b c d e f : Option Slot) : compL (turnOf Φ cs (.ix (.var 5) (.cst (.int 0))) (.name 5) .nil [("one", 5)] [a, b, c, d, e, f]) (ds.map Mk.toD) = .ok (ds.map fun m => .str m.nm) := cl_map _ _ _ ds fun m _ => by
  rw [turn_eq]
  unfold Mk.toD
  simp only [List.map_cons, List.map_nil, wi_cons, wi_nil]
  walk_at "ev"
  rfl
structure FdOk (ds : List Mk) : Prop where
  ok : ∀ m ∈ ds, MkOk m
  nd : (ds.map Mk.nm).Nodup
theorem makers_loop (Φ : Phi) (c : Int) (k : Nat) (hk : 8 ≤ k) (hΦ : Φ = callN T k) : ∀ (ks : List Nat) (ds : List Mk) (x y z u : Option Slot), (∀ j ∈ ks, j < 4) → FdOk ds → ds.length + ks.length ≤ 4 → (ds = [] → ks ≠ []) → ∃ (ds' : List Mk) (x' y' z' u' : Option Slot), forL (bindG (.name 2)) (exs Φ cs b_l_makers_1) (ks.map fun i => .int (i : Nat)) [some (.val (.int c)), some (.own (.list (ds.map Mk.toD))), x, y, z, u] = .ok (.next [some (.val (.int c)), some (.own (.list (ds'.map Mk.toD))), x', y', z', u']) ∧ FdOk ds' ∧ ds'.length ≤ 4 ∧ ds' ≠ []
  | [], ds, x, y, z, u, _, hd, hl, hn => ⟨ds, x, y, z, u, rfl, hd, by rw [List.length_nil] at hl; omega, fun e => hn e rfl⟩
  | j :: r, ds, x, y, z, u, hj, hd, hl, hn => by
    have j4 := hj j List.mem_cons_self
    have hj' : ∀ i ∈ r, i < 4 := fun i hi => hj i (List.mem_cons_of_mem _ hi)
    rw [List.length_cons] at hl
    have M1 := mix_eq k (c + 7 * (j : Int)) 9941 10 (by omega) (by decide) (by decide) (by decide)
    obtain ⟨m0, K0, o0⟩ := known_ex k (mixZ (c + 7 * (j : Int)) 9941 10) (by omega)
    have M2 := mix_eq k (c + 3 * (j : Int)) 9931 4 (by omega) (by decide) (by decide) (by decide)
    rw [← hΦ] at M1 K0 M2
    have s7 : small64 7 = true := rfl
    have s3 : small64 3 = true := rfl
    have s11 : small64 11 = true := rfl
    have f3 : fitsZ 3 = true := rfl
    have CN := fun a b c d e f => names_comp Φ ds a b c d e f
    have fl : fitsZ ds.length = true := fz _ (by omega)
    have fa : decide (ds.length < sizeLine) = true := decide_eq_true (show ds.length < 16777216 by omega)
    -- the end of a turn
    have fin : ∀ (m : Mk) (y z u : Option Slot), MkOk m → ∃ (ds' : List Mk) (x' y' z' u' : Option Slot), (((exs Φ cs (.cons (.ite (.cmp .NotIn (.ix (.var 3) (.cst (.int 0))) (.comp (.ix (.var 5) (.cst (.int 0))) (.name 5) .of (.cons (.own 1) .nil) .nil [("one", 5)])) (.cons (.app 1 (.var 3)) .nil) .nil) .nil) [some (.val (.int c)), some (.own (.list (ds.map Mk.toD))), some (.val (.int (j : Nat))), some (.val m.toD), z, u]).bind fun f => turnK f (forL (bindG (.name 2)) (exs Φ cs b_l_makers_1) (r.map fun i => .int (i : Nat))))) = .ok (.next [some (.val (.int c)), some (.own (.list (ds'.map Mk.toD))), x', y', z', u']) ∧ FdOk ds' ∧ ds'.length ≤ 4 ∧ ds' ≠ [] := by
      intro m y z u om
      have IN : inD (.str m.nm) (.list (ds.map fun m => .str m.nm)) = .ok (decide (m.nm ∈ ds.map Mk.nm)) := by
        have := in_strs (s := m.nm) (ss := ds.map Mk.nm) (Gt.sg om.nm).ok fun x hx => by
          obtain ⟨m', h1, rfl⟩ := List.mem_map.mp hx
          exact (Gt.sg (hd.ok m' h1).nm).ok
        rw [List.map_map] at this
        exact this
      have e0 : itemD m.toD (.int 0) = .ok (.str m.nm) := by
        unfold Mk.toD
        exact (i_t _ 0).trans (ix0 _ _)
      by_cases h : m.nm ∈ ds.map Mk.nm
      · have ne : ds ≠ [] := fun e => by rw [e] at h; cases h
        obtain ⟨ds', x', y', z', u', ih, o, l, n⟩ := makers_loop Φ c k hk hΦ r ds (some (.val (.int (j : Nat)))) (some (.val m.toD)) z u hj' hd (by omega) (fun e => absurd e ne)
        refine ⟨ds', x', y', z', u', ?_, o, l, n⟩
        rw [← ih]
        rw [decide_eq_true h] at IN
        clear h ih n ne hΦ hd hn
        walk_at "ev"
      · have hd' : FdOk (ds ++ [m]) := ⟨fun m' h' => by
          rcases List.mem_append.mp h' with q | q
          · exact hd.ok m' q
          · rw [List.mem_singleton.mp q]; exact om, by
          rw [List.map_append, List.nodup_append]
          exact ⟨hd.nd, by simp, fun a ha b hb e => by
            rw [List.map_cons, List.map_nil, List.mem_singleton] at hb
            exact h (hb ▸ e ▸ ha)⟩⟩
        obtain ⟨ds', x', y', z', u', ih, o, l, n⟩ := makers_loop Φ c k hk hΦ r (ds ++ [m]) (some (.val (.int (j : Nat)))) (some (.val m.toD)) z u hj' hd' (by rw [List.length_append, List.length_singleton]; omega) (fun e => by simp at e)
        refine ⟨ds', x', y', z', u', ?_, o, l, n⟩
        rw [← ih, List.map_append]
        rw [decide_eq_false h] at IN
        clear h ih n hΦ hd hn hd'
        walk_at "ev"
    by_cases h : mixZ (c + 3 * (j : Int)) 9931 4 = 0
    · have M3 := mix_eq k (c + (j : Int)) 9929 4 (by omega) (by decide) (by decide) (by decide)
      have M4 := mix_eq k (c + (j : Int)) 9923 4 (by omega) (by decide) (by decide) (by decide)
      have a1 := mix_lo (c + (j : Int)) 9929 4 (by decide)
      have a2 := mix_hi (c + (j : Int)) 9929 4 (by decide)
      have a3 := mix_lo (c + (j : Int)) 9923 4 (by decide)
      have a4 := mix_hi (c + (j : Int)) 9923 4 (by decide)
      obtain ⟨ma, e1⟩ := natOf (show 0 ≤ 1 + mixZ (c + (j : Int)) 9929 4 by omega)
      obtain ⟨si, e2⟩ := natOf (show 0 ≤ 1 + mixZ (c + (j : Int)) 9923 4 by omega)
      obtain ⟨d, I, b, s⟩ := deed_ex si k (c + 11 * (j : Int)) ma (by omega) (by omega) (by omega) (by omega) (by omega)
      rw [← hΦ] at M3 M4 I
      have hx : [68, 69, 70, 71][j]? = some (68 + j) := by
        match j, j4 with
        | 0, _ => rfl
        | 1, _ => rfl
        | 2, _ => rfl
        | 3, _ => rfl
      have X := ix_str [68, 69, 70, 71] j (68 + j) hx (by decide)
      have om : MkOk ⟨ofL [68 + j], ma, d⟩ := ⟨⟨_, rfl, by omega, by omega⟩, by show 1 ≤ ma; omega, by show ma ≤ 4; omega, b, by show d.size ≤ 4; omega⟩
      obtain ⟨ds', x', y', z', u', F, G⟩ := fin ⟨ofL [68 + j], ma, d⟩ y (some (.val (.int (ma : Nat)))) u om
      refine ⟨ds', x', y', z', u', ?_, G⟩
      have hd0 : decide (mixZ (c + 3 * (j : Int)) 9931 4 = 0) = true := decide_eq_true h
      rw [← F, List.map_cons, for_cons]
      clear F G fin h hΦ hn hd a1 a2 a3 a4 hx
      conv => lhs; unfold b_l_makers_1
      rw [g_name]
      walk_at "ev"
      rfl
    · obtain ⟨ds', x', y', z', u', F, G⟩ := fin m0 y z u o0
      refine ⟨ds', x', y', z', u', ?_, G⟩
      have hd0 : decide (mixZ (c + 3 * (j : Int)) 9931 4 = 0) = false := decide_eq_false h
      rw [← F, List.map_cons, for_cons]
      clear F G fin h hΦ hn hd
      conv => lhs; unfold b_l_makers_1
      rw [g_name]
      walk_at "ev"
      rfl
theorem makers_ex (k : Nat) (c : Int) (hk : 9 ≤ k) : ∃ ms : List Mk, callN T k i_l_makers [.int c] = .ok (msD ms) ∧ MsOk ms := by
  obtain ⟨k, rfl⟩ : ∃ i, k = i + 1 := ⟨k - 1, by omega⟩
  have M := mix_eq k c 9949 4 (by omega) (by decide) (by decide) (by decide)
  have m1 := mix_lo c 9949 4 (by decide)
  have m2 := mix_hi c 9949 4 (by decide)
  obtain ⟨n, hn⟩ := natOf (show 0 ≤ 1 + mixZ c 9949 4 by omega)
  obtain ⟨ds, x, y, z, u, L, o, l, ne⟩ := makers_loop (callN T k) c k (by omega) rfl (List.range n) [] none none none none (fun j hj => by have := List.mem_range.mp hj; omega) ⟨fun _ h => (by cases h), List.nodup_nil⟩ (by rw [List.length_nil, List.length_range]; omega) (fun _ e => by have := congrArg List.length e; rw [List.length_range, List.length_nil] at this; omega)
  refine ⟨ds, ?_, o.ok, o.nd, ?_, by omega⟩
  · have R := rg0 n (by omega)
    rw [List.map_nil] at L
    have f0 : fitsZ 0 = true := rfl
    clear m1 m2 ne o l
    have E2 : evs (callN T k) cs (.cons (.bin .Add (.cst (.int 1)) (.call i_l_mix (.cons (.var 0) (.cons (.cst (.int 9949)) (.cons (.cst (.int 4)) .nil))))) .nil) [some (.val (.int c)), some (.own (.list [])), none, none, none, none] = .ok [.int (n : Nat)] := by
      walk_at "ev"
    have E3 : ex (callN T k) cs (.for (.name 2) .range (.cons (.bin .Add (.cst (.int 1)) (.call i_l_mix (.cons (.var 0) (.cons (.cst (.int 9949)) (.cons (.cst (.int 4)) .nil))))) .nil) b_l_makers_1) [some (.val (.int c)), some (.own (.list [])), none, none, none, none] = .ok (.next [some (.val (.int c)), some (.own (.list (ds.map Mk.toD))), x, y, z, u]) := by
      rw [x_for, E2, b_ok, it_r1, R, b_ok, L]
    rw [c_l_makers, rF']
    show (exs (callN T k) cs b_l_makers [some (.val (.int c)), none, none, none, none, none]).bind finK = _
    unfold b_l_makers msD
    rw [x_cons]
    have E1 : ex (callN T k) cs (.asgO 1 (.lst .nil)) [some (.val (.int c)), none, none, none, none, none] = .ok (.next [some (.val (.int c)), some (.own (.list [])), none, none, none, none]) := by
      clear L R E2 E3
      walk_at "ev"
    rw [E1, b_ok, nxt_n, x_cons, E3]
    clear L R E2 E3 E1
    walk_at "ev"
  · cases ds with
    | nil => exact absurd rfl ne
    | cons _ _ => rw [List.length_cons]; omega

/-- a leaf of drawn words -/
def Lf (ms : List Mk) (ll : List Nat) (s : Str) : Prop := s ∈ ms.map Mk.nm ∨ ∃ c ∈ ll, s = ofL [c]
theorem word_ex (ms : List Mk) (hm : 1 ≤ ms.length) (hm2 : ms.length ≤ 1000) (ll : List Nat) (hl : ll.length ≤ 1000) : ∀ (n k : Nat) (c : Int), n + 2 ≤ k → 1 ≤ n → ∃ w : Wd, callN T k i_l_word [.int c, msD ms, .int (n : Nat), .str (ofL ll)] = .ok w.toD ∧ w.size = n ∧ w.All (Lf ms ll) := by
  intro n
  induction n using Nat.strongRecOn with
  | _ n ih =>
    intro k c hk hn
    obtain ⟨k, rfl⟩ : ∃ i, k = i + 1 := ⟨k - 1, by omega⟩
    have ft : fitsZ ll.length = true := fz _ (by omega)
    rw [c_l_word]
    unfold b_l_word
    by_cases h : n < 2
    · have e1 : decide ((n : Int) < 2) = true := decide_eq_true (by omega)
      have M := mix_eq k c 9907 ((ms.length : Int) + 2) (by omega) (by decide) (by decide) (by omega)
      have m1 := mix_lo c 9907 ((ms.length : Int) + 2) (by omega)
      have d0 : decide (0 < (ms.length : Int)) = true := decide_eq_true (by omega)
      have r1 := Int.emod_nonneg (mixZ c 9907 ((ms.length : Int) + 2)) (show (ms.length : Int) ≠ 0 by omega)
      have r2 := Int.emod_lt_of_pos (mixZ c 9907 ((ms.length : Int) + 2)) (show 0 < (ms.length : Int) by omega)
      obtain ⟨j, hj⟩ := natOf r1
      have hj2 : j < ms.length := by omega
      have X : ixD (ms.map Mk.toD) (j : Int) = .ok ms[j].toD := ixNat _ j _ (by rw [List.getElem?_map, List.getElem?_eq_getElem hj2]; rfl)
      have X0 : itemD ms[j].toD (.int 0) = .ok (.str ms[j].nm) := by
        unfold Mk.toD
        exact (i_t _ 0).trans (ix0 _ _)
      have tr : truD (.str (ofL ll)) = .ok (ll.length != 0) := by
        rw [tr_s, ofL_len, ft]; rfl
      by_cases q : mixZ c 9907 ((ms.length : Int) + 2) < (ms.length : Int)
      · have q' : decide (mixZ c 9907 ((ms.length : Int) + 2) < (ms.length : Int)) = true := decide_eq_true q
        refine ⟨.lf ms[j].nm, ?_, by show 1 = n; omega, Or.inl (List.mem_map_of_mem (List.getElem_mem hj2))⟩
        clear ih m1 r1 r2 q
        unfold msD
        walk_at "ev"
        rfl
      · have q' : decide (mixZ c 9907 ((ms.length : Int) + 2) < (ms.length : Int)) = false := decide_eq_false q
        by_cases z : ll.length = 0
        · refine ⟨.lf ms[j].nm, ?_, by show 1 = n; omega, Or.inl (List.mem_map_of_mem (List.getElem_mem hj2))⟩
          have tr' : truD (.str (ofL ll)) = .ok false := by rw [tr, z]; rfl
          clear ih m1 r1 r2 q tr
          unfold msD
          walk_at "ev"
          rfl
        · have tr' : truD (.str (ofL ll)) = .ok true := by
            rw [tr]
            congr 1
            exact bne_iff_ne.mpr z
          have M2 := mix_eq k c 9901 (ll.length : Int) (by omega) (by decide) (by decide) (by omega)
          have n1 := mix_lo c 9901 (ll.length : Int) (by omega)
          have n2 := mix_hi c 9901 (ll.length : Int) (by omega)
          obtain ⟨i, hi⟩ := natOf n1
          have hi2 : i < ll.length := by omega
          have Y := ix_str ll i ll[i] (List.getElem?_eq_getElem hi2) (by omega)
          refine ⟨.lf (ofL [ll[i]]), ?_, by show 1 = n; omega, Or.inr ⟨_, List.getElem_mem hi2, rfl⟩⟩
          have L : lenD (.str (ofL ll)) = .ok (.int (ll.length : Nat)) := by
            rw [l_s, ofL_len, ft]; rfl
          clear ih m1 r1 r2 q tr n1 n2 z
          unfold msD
          walk_at "ev"
          rfl
    · have e1 : decide ((n : Int) < 2) = false := decide_eq_false (by omega)
      have M1 := mix_eq k c 9887 ((n : Int) - 1) (by omega) (by decide) (by decide) (by omega)
      have p1 := mix_lo c 9887 ((n : Int) - 1) (by omega)
      have p2 := mix_hi c 9887 ((n : Int) - 1) (by omega)
      have M2 := mix_eq k c 9883 3 (by omega) (by decide) (by decide) (by omega)
      have z3 : small64 3 = true := rfl
      have z5 : small64 5 = true := rfl
      have f2 : fitsZ 2 = true := rfl
      have fin : ∀ f : Nat, 1 ≤ f → f < n → ∃ w1 w2 : Wd, callN T k i_l_word [.int (c * 3 + 1), msD ms, .int (f : Nat), .str (ofL ll)] = .ok w1.toD ∧ callN T k i_l_word [.int (c * 5 + 2), msD ms, .int ((n : Int) - (f : Int)), .str (ofL ll)] = .ok w2.toD ∧ w1.size + w2.size = n ∧ w1.All (Lf ms ll) ∧ w2.All (Lf ms ll) := by
        intro f h1 h2
        have g1 : (n : Int) - (f : Int) = ((n - f : Nat) : Int) := by omega
        obtain ⟨w1, I1, s1, a1⟩ := ih f h2 k (c * 3 + 1) (by omega) h1
        obtain ⟨w2, I2, s2, a2⟩ := ih (n - f) (by omega) k (c * 5 + 2) (by omega) (by omega)
        rw [g1]
        exact ⟨w1, w2, I1, I2, by omega, a1, a2⟩
      by_cases q : 0 < mixZ c 9883 3
      · have q' : decide (0 < mixZ c 9883 3) = true := decide_eq_true q
        obtain ⟨mn, hmn⟩ : ∃ mn : Int, mn = if (n : Int) - 1 < 3 then (n : Int) - 1 else 3 := ⟨_, rfl⟩
        have b1 : 1 ≤ mn ∧ mn ≤ (n : Int) - 1 := by
          rw [hmn]
          split <;> omega
        have M3 := mix_eq k c 9871 mn (by omega) (by decide) (by decide) (by omega)
        have p3 := mix_lo c 9871 mn (by omega)
        have p4 := mix_hi c 9871 mn (by omega)
        obtain ⟨f, hf⟩ := natOf (show 0 ≤ (n : Int) - 1 - mixZ c 9871 mn by omega)
        obtain ⟨w1, w2, I1, I2, s, a1, a2⟩ := fin f (by omega) (by omega)
        refine ⟨.ap w1 w2, ?_, s, a1, a2⟩
        have hmn' := hmn.symm
        clear ih fin p1 p2 p3 p4 b1 q hmn s
        walk_at "ev"
        rfl
      · have q' : decide (0 < mixZ c 9883 3) = false := decide_eq_false q
        obtain ⟨f, hf⟩ := natOf (show 0 ≤ (n : Int) - 1 - mixZ c 9887 ((n : Int) - 1) by omega)
        obtain ⟨w1, w2, I1, I2, s, a1, a2⟩ := fin f (by omega) (by omega)
        refine ⟨.ap w1 w2, ?_, s, a1, a2⟩
        clear ih fin p1 p2 q s
        walk_at "ev"
        rfl

def Goes (sc : D) (n : Nat) (x : Res Fl) : Prop := ∃ r' : List (Option Slot), r'.length = n ∧ (x = .ok (.next (some (.val sc) :: r')) ∨ x = .ok (.cnt (some (.val sc) :: r')))
theorem for_inv {g : D → Env → Res Env} {b : Env → Res Fl} (I : Env → Prop) : ∀ (ds : List D), (∀ d ∈ ds, ∀ env, I env → ∃ env1 env2, g d env = .ok env1 ∧ (b env1 = .ok (.next env2) ∨ b env1 = .ok (.cnt env2)) ∧ I env2) → ∀ env, I env → ∃ env', forL g b ds env = .ok (.next env') ∧ I env'
  | [], _, env, h => ⟨env, rfl, h⟩
  | d :: r, H, env, h => by
    obtain ⟨e1, e2, a, c, i⟩ := H d List.mem_cons_self env h
    obtain ⟨e3, f, i3⟩ := for_inv I r (fun d' h' => H d' (List.mem_cons_of_mem _ h')) e2 i
    rcases c with c | c
    · exact ⟨e3, by rw [for_cons, a, b_ok, c, b_ok, tk_n, f], i3⟩
    · exact ⟨e3, by rw [for_cons, a, b_ok, c, b_ok, tk_c, f], i3⟩
theorem x_for_range {Φ : Phi} {env : Env} (g : G) (ia : Es) (b : Ss) (n : Nat) (h : evs Φ cs ia env = .ok [.int (n : Nat)]) (hn : n ≤ 16777216) : ex Φ cs (.for g .range ia b) env = forL (bindG g) (exs Φ cs b) ((List.range n).map fun i => .int (i : Nat)) env := by
  rw [x_for, h, b_ok, it_r1, rg0 n hn, b_ok]
/-- the law's own loop over a range: each turn goes on -/
theorem law_loop {Φ : Phi} {sc : D} (m n : Nat) (b : Ss) (hn : n ≤ 1000) (H : ∀ j < n, ∀ r : List (Option Slot), r.length = m → Goes sc (m + 1) (exs Φ cs b (some (.val sc) :: some (.val (.int (j : Nat))) :: r))) (r : List (Option Slot)) (hr : r.length = m + 1) : ∃ r', r'.length = m + 1 ∧ ex Φ cs (.for (.name 1) .range (.cons (.cst (.int (n : Nat))) .nil) b) (some (.val sc) :: r) = .ok (.next (some (.val sc) :: r')) := by
  have E : evs Φ cs (.cons (.cst (.int (n : Nat))) .nil) (some (.val sc) :: r) = .ok [.int (n : Nat)] := rfl
  rw [x_for_range _ _ _ n E (by omega)]
  obtain ⟨env', h1, r', h2, rfl⟩ := for_inv (g := bindG (.name 1)) (b := exs Φ cs b) (fun env => ∃ r : List (Option Slot), r.length = m + 1 ∧ env = some (.val sc) :: r) ((List.range n).map fun i => .int (i : Nat)) (fun d hd env he => by
    obtain ⟨j, hj, rfl⟩ := List.mem_map.mp hd
    obtain ⟨r, hr, rfl⟩ := he
    match r, hr with
    | x :: r, hr =>
      obtain ⟨r', l, e⟩ := H j (List.mem_range.mp hj) r (by rw [List.length_cons] at hr; omega)
      exact ⟨_, _, rfl, e, r', l, rfl⟩) _ ⟨r, hr, rfl⟩
  exact ⟨r', h2, h1⟩
/-- the whole law: a loop, then True -/
theorem law_run {k : Nat} {ns : List Int} (N n : Nat) (b : Ss) (hN : 2 ≤ N) (hn : n ≤ 1000) (H : ∀ j < n, ∀ r : List (Option Slot), r.length = N - 2 → Goes (.list (ns.map .int)) (N - 1) (exs (callN T k) cs b (some (.val (.list (ns.map .int))) :: some (.val (.int (j : Nat))) :: r))) : runF (callN T k) cs N 1 (.cons (.for (.name 1) .range (.cons (.cst (.int (n : Nat))) .nil) b) (.cons (.ret (.cst (.bool true))) .nil)) [.list (ns.map .int)] = .ok (.bool true) := by
  obtain ⟨m, rfl⟩ : ∃ m, N = m + 2 := ⟨N - 2, by omega⟩
  obtain ⟨r', l, e⟩ := law_loop (Φ := callN T k) (sc := .list (ns.map .int)) m n b hn H (List.replicate (m + 1) none) (by rw [List.length_replicate])
  have st : startE (m + 2) [PyData.list (ns.map .int)] = some (.val (.list (ns.map .int))) :: List.replicate (m + 1) none := by
    rw [stE]
    rfl
  have f : exs (callN T k) cs (.cons (.ret (.cst (.bool true))) .nil) (some (.val (.list (ns.map .int))) :: r') = .ok (.ret (.bool true)) := by
    rw [x_cons, x_ret, e_bool, b_ok, b_ok, nxt_r]
  rw [rF', st, x_cons, e, b_ok, nxt_n, f, b_ok, fk_r]
  rfl
theorem lay_t {ss : List Str} (h : ∀ s ∈ ss, PyData.strOk s = true) : (PyData.tuple (ss.map .str)).canLay0 = true := lay_strs ss h
theorem eqv_strs : ∀ ss : List Str, PyData.eqvAll (ss.map .str) (ss.map .str) = true
  | [] => rfl
  | s :: r => by
    show ((s == s) && PyData.eqvAll (r.map .str) (r.map .str)) = true
    rw [beq_self_eq_true, eqv_strs r]; rfl
theorem ne_strs {ss : List Str} (h : ∀ s ∈ ss, PyData.strOk s = true) : neD (.tuple (ss.map .str)) (.tuple (ss.map .str)) = .ok (.bool false) := by
  unfold neD eqOk
  have d : (PyData.tuple (ss.map .str)).depth ≤ lim := by
    show PyData.depthAll (ss.map .str) + 1 ≤ 150
    rw [dep_strs]; decide
  rw [lay_t h, decide_eq_true d]
  show Res.ok (PyData.bool (!PyData.eqvAll (ss.map .str) (ss.map .str))) = _
  rw [eqv_strs]; rfl
theorem eq_nil {ss : List Str} (h : ∀ s ∈ ss, PyData.strOk s = true) : eqD (.list (ss.map .str)) (.list []) = .ok (.bool ss.isEmpty) := by
  unfold eqD eqOk
  have l : (PyData.list (ss.map .str)).canLay0 = true := lay_strs ss h
  have d : (PyData.list (ss.map .str)).depth ≤ lim := by
    show PyData.depthAll (ss.map .str) + 1 ≤ 150
    rw [dep_strs]; decide
  rw [l, decide_eq_true d]
  cases ss <;> rfl
theorem x_for_of {Φ : Phi} {env : Env} (g : G) (ia : Es) (b : Ss) (x : D) (xs : List D) (h : evs Φ cs ia env = .ok [x]) (hx : iterD .of [x] = .ok xs) : ex Φ cs (.for g .of ia b) env = forL (bindG g) (exs Φ cs b) xs env := by
  rw [x_for, h, b_ok, hx, b_ok]

theorem lf_sg {ms : List Mk} (hm : MsOk ms) {ll : List Nat} (hl : ∀ c ∈ ll, 33 ≤ c ∧ c < 127) {s : Str} (h : Lf ms ll s) : Sg s := by
  rcases h with h | ⟨c, hc, rfl⟩
  · obtain ⟨m, h1, rfl⟩ := List.mem_map.mp h
    exact (hm.ok m h1).nm.sg
  · exact ⟨c, rfl, (hl c hc).1, (hl c hc).2⟩
theorem pls_mem {ms : List Mk} {w : Wd} {s : Str} (h : s ∈ plsS ms w) : ∃ p ∈ plcs ms w, s = plS p := by
  have := (sort_is _).mem_iff.mp h
  obtain ⟨p, h1, rfl⟩ := List.mem_map.mp this
  exact ⟨p, h1, rfl⟩
theorem pls_ok {ms : List Mk} {w : Wd} (hd : w.dep ≤ 900) (s : Str) (h : s ∈ plsS ms w) : PyData.strOk s = true := by
  obtain ⟨p, hp, rfl⟩ := pls_mem h
  exact plS_ok p (by have := plcs_dep ms w p hp; omega)

theorem acted_eq (k : Nat) (ms : List Mk) (w : Wd) (m : Mk) (hk : 6 ≤ k) (hd : w.dep ≤ 900) (hw : w.All Sg) (hm : ∀ m ∈ ms, MkOk m) (hc : can ms w = some m) : callN T k i_f_acted [bkD ms, w.toD] = .ok (m.deed.act w.args).toD := by
  obtain ⟨k, rfl⟩ : ∃ i, k = i + 1 := ⟨k - 1, by omega⟩
  have S := spine_eq k w (by omega) hd
  have hs : Sg w.hd := Wd.hd_all hw
  have sl : sliceD (.str w.hd) none (some 1) = .ok (.str w.hd) := by
    rw [sl_s, fz _ (by rw [hs.len]; decide), n_t, hs.cut]
  have ⟨h1, h2, h3⟩ := can_spec hc
  have o := hm m h1
  have q : fnd ms w.hd = some m := by
    unfold can at hc
    cases q : fnd ms w.hd with
    | none => rw [q] at hc; cases hc
    | some m' =>
      rw [q] at hc
      dsimp only at hc
      split at hc
      · cases hc; rfl
      · cases hc
  have A := done_f w.args m.deed k (by have := m.deed.dep_lt; have := o.sz; omega) (h3 ▸ o.bd)
  have g := get_bk ms w.hd
  rw [q] at g
  have g' : dictGet (ms.map fun m => (.str m.nm, .tuple [.int (m.many : Nat), m.deed.toD])) (.inr w.hd) = some (.tuple [.int (m.many : Nat), m.deed.toD]) := g
  rw [c_f_acted]
  unfold b_f_acted
  unfold spD2 at S
  unfold bkD
  clear g h1 h2 h3 hc q
  walk_at "ev"
theorem pl_nil {p : Pl} : decide (plS p = ofL []) = p.isEmpty := by
  cases p with
  | nil => rfl
  | cons b r => exact decide_eq_false fun e => by have := ofL_inj e; cases this
theorem pl_ix (b : Bool) (r : Pl) (h : r.length ≤ 1000) : itemD (.str (plS (b :: r))) (.int 0) = .ok (.str (ofL [if b then 102 else 98])) := ix_str (plL (b :: r)) 0 _ rfl (by
  show (plL r).length + 1 ≤ _
  rw [plL, List.length_map]
  omega)
theorem pl_cut (b : Bool) (r : Pl) (h : r.length ≤ 1000) : sliceD (.str (plS (b :: r))) (some 1) none = .ok (.str (plS r)) := by
  rw [sl_s, fz _ (by rw [plS_len, List.length_cons]; omega), n_t]
  unfold plS
  rw [cut_l]
  show Res.ok (PyData.str (ofL (cutD (_ :: plL r) (some 1) none))) = _
  rw [cut_t]

theorem step_in_eq (ms : List Mk) (hm : ∀ m ∈ ms, MkOk m) : ∀ (w : Wd) (p : Pl) (w' : Wd) (k : Nat), stp ms w p = some w' → p.length + 7 ≤ k → w.dep ≤ 900 → w.All Sg → callN T k i_f_step_in [bkD ms, w.toD, .str (plS p)] = .ok w'.toD := by
  intro w p
  induction p generalizing w with
  | nil =>
    intro w' k h hk hd hw
    obtain ⟨k, rfl⟩ : ∃ i, k = i + 1 := ⟨k - 1, by omega⟩
    rw [stp_nil] at h
    cases q : can ms w with
    | none => rw [q] at h; cases h
    | some m =>
      rw [q] at h
      have e : m.deed.act w.args = w' := Option.some.inj h
      have A := acted_eq k ms w m (by omega) hd hw hm q
      have E : eqD (.str (plS [])) (.str (ofL [])) = .ok (.bool true) := by
        rw [eq_ss (plS_ok [] (by decide)) ok_nil, pl_nil]; rfl
      rw [c_f_step_in]
      unfold b_f_step_in
      rw [e] at A
      clear h q e
      walk_at "ev"
  | cons b r ih =>
    intro w' k h hk hd hw
    rw [List.length_cons] at hk
    have hl := stp_len h
    rw [List.length_cons] at hl
    obtain ⟨k, rfl⟩ : ∃ i, k = i + 1 := ⟨k - 1, by omega⟩
    have E : eqD (.str (plS (b :: r))) (.str (ofL [])) = .ok (.bool false) := by
      rw [eq_ss (plS_ok (b :: r) (by rw [List.length_cons]; omega)) ok_nil, pl_nil]; rfl
    have X := pl_ix b r (by omega)
    have Y := pl_cut b r (by omega)
    have f2 : fitsZ 2 = true := rfl
    cases w with
    | lf s => simp [stp] at h
    | ap f a =>
      have hd' : max f.dep a.dep + 1 ≤ 900 := hd
      have e1 : (Wd.ap f a).toD = .tuple [f.toD, a.toD] := rfl
      rw [e1, c_f_step_in]
      unfold b_f_step_in
      cases b with
      | true =>
        have E2 := eq_ff
        have X' : itemD (.str (plS (true :: r))) (.int 0) = .ok (.str (ofL [102])) := X
        have h' : (stp ms f r).map (fun f' => Wd.ap f' a) = some w' := h
        cases q : stp ms f r with
        | none => rw [q] at h'; cases h'
        | some f' =>
          rw [q] at h'
          cases h'
          have I := ih f f' k q (by omega) (by omega) hw.1
          clear ih q h X hl
          walk_at "ev"
          rfl
      | false =>
        have E2 := eq_bf
        have X' : itemD (.str (plS (false :: r))) (.int 0) = .ok (.str (ofL [98])) := X
        have h' : (stp ms a r).map (fun f' => Wd.ap f f') = some w' := h
        cases q : stp ms a r with
        | none => rw [q] at h'; cases h'
        | some f' =>
          rw [q] at h'
          cases h'
          have I := ih a f' k q (by omega) (by omega) hw.2
          clear ih q h X hl
          walk_at "ev"
          rfl

theorem pls_has {ms : List Mk} {w : Wd} {p : Pl} : plS p ∈ plsS ms w ↔ p ∈ plcs ms w := by
  unfold plsS
  rw [(sort_is _).mem_iff, List.mem_map]
  exact ⟨fun ⟨q, h, e⟩ => plS_inj e ▸ h, fun h => ⟨p, h, rfl⟩⟩
theorem step_eq (k : Nat) (ms : List Mk) (w : Wd) (p : Pl) (w' : Wd) (hk : w.dep + 8 ≤ k) (hd : w.dep ≤ 900) (hz : w.size ≤ 4000000) (hw : w.All Sg) (hm : MsOk ms) (h : stp ms w p = some w') : callN T k i_f_step [msD ms, w.toD, .str (plS p)] = .ok w'.toD := by
  obtain ⟨k, rfl⟩ : ∃ i, k = i + 1 := ⟨k - 1, by omega⟩
  have hml : ms.length ≤ 1000 := by have := hm.hi; omega
  have hp := stp_len h
  have P := places_eq k ms w (by omega) hd hz hw hm.nd hml
  have B := book_eq k ms (by omega) hm.nd hml
  have S := step_in_eq ms hm.ok w p w' k h (by omega) hd hw
  have I := in_strsT (s := plS p) (ss := plsS ms w) (plS_ok p (by omega)) fun x hx => by
    obtain ⟨q, hq, rfl⟩ := pls_mem hx
    exact plS_ok q (by have := plcs_dep ms w q hq; omega)
  rw [decide_eq_true (pls_has.mpr ((mem_plcs ms w p).mpr (by rw [h]; rfl)))] at I
  rw [c_f_step]
  unfold b_f_step
  clear h hm hp
  walk_at "ev"

theorem cut_take {α : Type} (xs : List α) (m : Nat) : cutD xs none (some (m : Int)) = xs.take m := by
  unfold cutD
  rw [show HT.sIx xs.length 0 none = 0 from rfl, HT.sIx_nat, List.drop_zero, Nat.sub_zero]
  by_cases h : m ≤ xs.length
  · rw [Nat.min_eq_left h]
  · rw [Nat.min_eq_right (by omega), List.take_of_length_le (by omega), List.take_of_length_le (by omega)]
theorem cut_drop {α : Type} (xs : List α) (m : Nat) : cutD xs (some (m : Int)) none = xs.drop m := by
  unfold cutD
  rw [show HT.sIx xs.length xs.length none = xs.length from rfl, HT.sIx_nat]
  by_cases h : m ≤ xs.length
  · rw [Nat.min_eq_left h, List.take_of_length_le (by rw [List.length_drop]; omega)]
  · rw [Nat.min_eq_right (by omega), List.drop_of_length_le (Nat.le_refl _), List.take_nil, List.drop_of_length_le (by omega)]
theorem sl_take (xs : List Wd) (m : Nat) : sliceD (.tuple (xs.map Wd.toD)) none (some (m : Int)) = .ok (.tuple ((xs.take m).map Wd.toD)) := by
  rw [sl_t, cut_take, List.map_take]
theorem sl_drop (xs : List Wd) (m : Nat) : sliceD (.tuple (xs.map Wd.toD)) (some (m : Int)) none = .ok (.tuple ((xs.drop m).map Wd.toD)) := by
  rw [sl_t, cut_drop, List.map_drop]
theorem ix_wd {xs : List Wd} {n : Nat} {x : Wd} (h : xs[n]? = some x) : ixD (xs.map Wd.toD) (n : Int) = .ok x.toD := ixNat _ n _ (by rw [List.getElem?_map, h]; rfl)
theorem eq_nilT {ss : List Str} (h : ∀ s ∈ ss, PyData.strOk s = true) : eqD (.tuple (ss.map .str)) (.tuple []) = .ok (.bool ss.isEmpty) := by
  unfold eqD eqOk
  have l : (PyData.tuple (ss.map .str)).canLay0 = true := lay_strs ss h
  have d : (PyData.tuple (ss.map .str)).depth ≤ lim := by
    show PyData.depthAll (ss.map .str) + 1 ≤ 150
    rw [dep_strs]; decide
  rw [l, decide_eq_true d]
  cases ss <;> rfl
theorem ne_nilT {ss : List Str} (h : ∀ s ∈ ss, PyData.strOk s = true) : neD (.tuple (ss.map .str)) (.tuple []) = .ok (.bool (!ss.isEmpty)) := by
  unfold neD eqOk
  have l : (PyData.tuple (ss.map .str)).canLay0 = true := lay_strs ss h
  have d : (PyData.tuple (ss.map .str)).depth ≤ lim := by
    show PyData.depthAll (ss.map .str) + 1 ≤ 150
    rw [dep_strs]; decide
  rw [l, decide_eq_true d]
  cases ss <;> rfl
theorem pls_emp (ms : List Mk) (w : Wd) : (plsS ms w).isEmpty = (fst ms w).isNone := by
  have h := fst_none ms w
  have l : (plsS ms w).length = (plcs ms w).length := by
    unfold plsS
    rw [sort_len, List.length_map]
  cases q : fst ms w with
  | none =>
    rw [h.mp q, List.length_nil] at l
    rw [List.length_eq_zero_iff.mp l]; rfl
  | some p =>
    cases z : plsS ms w with
    | nil =>
      rw [z, List.length_nil] at l
      rw [h.mpr (List.length_eq_zero_iff.mp l.symm)] at q
      cases q
    | cons _ _ => rfl
theorem ne_same {w : Wd} (hw : w.All Sg) (h : w.dep ≤ 150) : neD w.toD w.toD = .ok (.bool false) := by
  rw [Wd.neD_w hw hw h, decide_eq_true rfl]; rfl
theorem ne_sameT {a : List Wd} (ha : ∀ x ∈ a, x.All Sg) (hd : ∀ x ∈ a, x.dep ≤ 149) : neD (.tuple (a.map Wd.toD)) (.tuple (a.map Wd.toD)) = .ok (.bool false) := by
  rw [ne_wds ha ha hd, decide_eq_true rfl]; rfl

theorem pl_cut0 (p : Pl) (h : p.length ≤ 1000) : sliceD (.str (plS p)) (some 1) none = .ok (.str (plS p.tail)) := by
  cases p with
  | nil => rfl
  | cons b r => exact pl_cut b r (by rw [List.length_cons] at h; omega)
theorem pl_hd (p : Pl) (h : p.length ≤ 1000) : sliceD (.str (plS p)) none (some 1) = .ok (.str (plS (p.take 1))) := by
  rw [sl_s, fz _ (by rw [plS_len]; omega), n_t]
  cases p with
  | nil => rfl
  | cons b r =>
    unfold plS
    rw [cut_l]
    show Res.ok (PyData.str (ofL (cutD (_ :: plL r) none (some 1)))) = _
    rw [cut_h]; rfl
theorem pl_eq1 (p : Pl) (b : Bool) : eqD (.str (plS (p.take 1))) (.str (plS [b])) = .ok (.bool (p.head? == some b)) := by
  rw [eq_ss (plS_ok _ (by rw [List.length_take]; omega)) (plS_ok [b] (by show 1 ≤ 1000; decide))]
  congr 2
  cases p with
  | nil => exact decide_eq_false fun e => by have := plS_inj e; cases this
  | cons c r =>
    show decide (plS [c] = plS [b]) = (some c == some b)
    by_cases h : c = b
    · rw [h, decide_eq_true rfl]; simp
    · rw [decide_eq_false fun e => h (by have := plS_inj e; simpa using this)]
      simp [h]
def plD (p : Pl) : D := .str (plS p)
theorem under_eq (k : Nat) (S : List Pl) (sD : D) (b : Bool) (hk : 1 ≤ k) (hS : iterD .of [sD] = .ok (S.map plD)) (hl : ∀ p ∈ S, p.length ≤ 1000) (hn : S.length ≤ 1000000) : callN T k i_f_under [sD, .str (plS [b])] = .ok (.list ((undr b S).map plD)) := by
  obtain ⟨k, rfl⟩ : ∃ i, k = i + 1 := ⟨k - 1, by omega⟩
  have C : compL (turnOf (callN T k) cs (.slc (.var 2) (.cst (.int 1)) .abs) (.name 2) (.cons (.cmp .Eq (.slc (.var 2) .abs (.cst (.int 1))) (.var 1)) .nil) [("place", 2)] [some (.val sD), some (.val (.str (plS [b]))), none]) (S.map plD) = .ok ((S.filter fun p => p.head? == some b).map fun p => plD p.tail) := by
    refine cl_filt _ _ _ _ S fun p hp => ?_
    have A := pl_cut0 p (hl p hp)
    have B := pl_hd p (hl p hp)
    have E := pl_eq1 p b
    rw [turn_eq]
    simp only [List.map_cons, List.map_nil, wi_cons, wi_nil]
    unfold plD
    clear hl hp hS
    cases q : p.head? == some b with
    | true =>
      rw [q] at E
      walk_at "ev"
      rfl
    | false =>
      rw [q] at E
      walk_at "ev"
      rfl
  have L : ((S.filter fun p => p.head? == some b).map fun p => plD p.tail) = (undr b S).map plD := by
    unfold undr
    rw [List.map_map]; rfl
  rw [L] at C
  have f : fitsZ (undr b S).length = true := fz _ (by
    unfold undr
    rw [List.length_map]
    have := List.length_filter_le (fun p : Pl => p.head? == some b) S
    omega)
  rw [c_f_under]
  unfold b_f_under
  clear hl L hn
  walk_at "ev"
theorem undr_mem {b : Bool} {S : List Pl} {p : Pl} (h : p ∈ undr b S) : (b :: p) ∈ S := by
  unfold undr at h
  obtain ⟨q, h1, rfl⟩ := List.mem_map.mp h
  obtain ⟨h2, h3⟩ := List.mem_filter.mp h1
  cases q with
  | nil => simp at h3
  | cons c r =>
    have : c = b := by simpa using h3
    rw [← this]
    exact h2
theorem undr_len (b : Bool) (S : List Pl) : (undr b S).length ≤ S.length := by
  unfold undr
  rw [List.length_map]
  exact List.length_filter_le _ S
theorem in_pls (S : List Pl) (p : Pl) (hp : p.length ≤ 1000) (hl : ∀ p ∈ S, p.length ≤ 1000) : inD (.str (plS p)) (.list (S.map plD)) = .ok (decide (p ∈ S)) ∧ inD (.str (plS p)) (.tuple (S.map plD)) = .ok (decide (p ∈ S)) := by
  have e : S.map plD = (S.map plS).map .str := by rw [List.map_map]; rfl
  have h : ∀ x ∈ S.map plS, PyData.strOk x = true := fun x hx => by
    obtain ⟨q, hq, rfl⟩ := List.mem_map.mp hx
    exact plS_ok q (hl q hq)
  have m : decide (plS p ∈ S.map plS) = decide (p ∈ S) := by
    congr 1
    rw [List.mem_map]
    exact propext ⟨fun ⟨q, h, e⟩ => plS_inj e ▸ h, fun h => ⟨p, h, rfl⟩⟩
  rw [e, in_strs (plS_ok p hp) h, in_strsT (plS_ok p hp) h, m]
  exact ⟨rfl, rfl⟩
theorem all_done_eq (ms : List Mk) (hm : ∀ m ∈ ms, MkOk m) : ∀ (w : Wd) (S : List Pl) (w' : Wd) (k : Nat) (sD : D), (sD = .list (S.map plD) ∨ sD = .tuple (S.map plD)) → onc ms w S = some w' → w.dep + 8 ≤ k → w.dep ≤ 250 → w.All Sg → (∀ p ∈ S, p.length ≤ 1000) → S.length ≤ 1000000 → callN T k i_f_all_done [bkD ms, w.toD, sD] = .ok w'.toD
  | .lf s, S, w', k, sD, hS, h, hk, hd, hw, hl, hn => by
    obtain ⟨k, rfl⟩ : ∃ i, k = i + 1 := ⟨k - 1, by omega⟩
    cases h
    have e1 : (Wd.lf s).toD = .str s := rfl
    rw [e1, c_f_all_done]
    unfold b_f_all_done
    clear hS hl
    walk_at "ev"
  | .ap f a, S, w', k, sD, hS, h, hk, hd, hw, hl, hn => by
    have hk' : max f.dep a.dep + 1 + 8 ≤ k := hk
    have hd' : max f.dep a.dep + 1 ≤ 250 := hd
    obtain ⟨k, rfl⟩ : ∃ i, k = i + 1 := ⟨k - 1, by omega⟩
    obtain ⟨f', a', h1, h2, h3⟩ := onc_inv h
    have hI : iterD .of [sD] = .ok (S.map plD) := by rcases hS with rfl | rfl <;> rfl
    have U1 := under_eq k S sD true (by omega) hI hl hn
    have U2 := under_eq k S sD false (by omega) hI hl hn
    have U1' : callN T k i_f_under [sD, .str (ofL [102])] = .ok (.list ((undr true S).map plD)) := U1
    have U2' : callN T k i_f_under [sD, .str (ofL [98])] = .ok (.list ((undr false S).map plD)) := U2
    have ul : ∀ b, ∀ p ∈ undr b S, p.length ≤ 1000 := fun b p hp => by
      have := hl _ (undr_mem hp)
      rw [List.length_cons] at this
      omega
    have I1 := all_done_eq ms hm f (undr true S) f' k _ (.inl rfl) h1 (by omega) (by omega) hw.1 (ul true) (by have := undr_len true S; omega)
    have I2 := all_done_eq ms hm a (undr false S) a' k _ (.inl rfl) h2 (by omega) (by omega) hw.2 (ul false) (by have := undr_len false S; omega)
    have e1 : (Wd.ap f a).toD = .tuple [f.toD, a.toD] := rfl
    have f2 : fitsZ 2 = true := rfl
    have N : inD (.str (ofL [])) sD = .ok (decide ([] ∈ S)) := by
      have := in_pls S [] (by decide) hl
      rcases hS with rfl | rfl
      · exact this.1
      · exact this.2
    have d1 := onc_dep hm h1
    have d2 := onc_dep hm h2
    have g1 := onc_all hm hw.1 h1
    have g2 := onc_all hm hw.2 h2
    rw [e1, c_f_all_done]
    unfold b_f_all_done
    rcases h3 with ⟨e, m, q, rfl⟩ | ⟨e, rfl⟩
    · have A := acted_eq k ms (.ap f' a') m (by omega) (by show max f'.dep a'.dep + 1 ≤ 900; omega) ⟨g1, g2⟩ hm q
      have A' : callN T k i_f_acted [bkD ms, .tuple [f'.toD, a'.toD]] = .ok (m.deed.act (Wd.ap f' a').args).toD := A
      rw [decide_eq_true e] at N
      clear U1 U2 hS hl ul h h1 h2 hI e A q hm hw
      walk_at "ev"
    · rw [decide_eq_false e] at N
      clear U1 U2 hS hl ul h h1 h2 hI e hm hw
      walk_at "ev"
      rfl

def plD2 (p : Pl) : D := .str (plS p)
def lpl (ms : List Mk) : Wd → List Pl
  | .lf _ => []
  | .ap f a => own ms (.ap f a) ++ (lpl ms a).map (false :: ·) ++ (lpl ms f).map (true :: ·)
theorem mem_lpl (ms : List Mk) (hm : MsOk ms) : ∀ (w : Wd) (p : Pl), p ∈ lpl ms w ↔ p ∈ plcs ms w
  | .lf s, p => by
    unfold lpl plcs own
    rw [can_lf hm]
  | .ap f a, p => by
    unfold lpl plcs
    simp only [List.mem_append, List.mem_map, mem_lpl ms hm f, mem_lpl ms hm a]
    constructor
    · rintro ((h | h) | h)
      · exact .inl (.inl h)
      · exact .inr h
      · exact .inl (.inr h)
    · rintro ((h | h) | h)
      · exact .inl (.inl h)
      · exact .inr h
      · exact .inl (.inr h)
theorem lpl_len (ms : List Mk) : ∀ w : Wd, (lpl ms w).length + 1 ≤ w.size + w.size
  | .lf s => by
    unfold lpl
    simp [Wd.size]
  | .ap f a => by
    have h1 := lpl_len ms f
    have h2 := lpl_len ms a
    have h3 := f.size_pos
    unfold lpl own
    show _ + 1 ≤ (f.size + a.size) + (f.size + a.size)
    cases can ms (.ap f a) <;> simp
    · omega
    · omega
theorem lpl_comp (Φ : Phi) (b : Bool) (S : List Pl) (hl : ∀ p ∈ S, p.length ≤ 1000) (s0 s1 s2 s3 : Option Slot) : compL (turnOf Φ cs (.bin .Add (.cst (.str (plS [b]))) (.var 3)) (.name 3) .nil [("place", 3)] [s0, s1, s2, s3]) (S.map plD2) = .ok ((S.map (b :: ·)).map plD2) := by
  rw [List.map_map]
  refine cl_map _ _ _ S fun p h => ?_
  have a : plS [b] ++ plS p = plS (b :: p) := plS_app [b] p
  have l1 : (plS [b]).length = 1 := plS_len [b]
  have l2 := plS_len p
  have f : fitsZ (1 + List.length p) = true := fz _ (by have := hl p h; omega)
  rw [turn_eq]
  simp only [List.map_cons, List.map_nil, wi_cons, wi_nil]
  unfold plD2
  clear hl h
  walk_at "ev"
  rfl
theorem l_places_eq (ms : List Mk) (hm : MsOk ms) : ∀ (w : Wd) (k : Nat), w.dep + 7 ≤ k → w.dep ≤ 900 → w.size ≤ 4000000 → w.All Sg → callN T k i_l_places [msD ms, w.toD] = .ok (.list ((lpl ms w).map plD2))
  | .lf s, k, hk, hd, hz, hw => by
    obtain ⟨k, rfl⟩ : ∃ i, k = i + 1 := ⟨k - 1, by omega⟩
    have e1 : (Wd.lf s).toD = .str s := rfl
    have f0 : fitsZ 0 = true := rfl
    rw [e1, c_l_places]
    unfold b_l_places lpl
    walk_at "ev"
  | .ap f a, k, hk, hd, hz, hw => by
    have hk' : max f.dep a.dep + 1 + 7 ≤ k := hk
    have hd' : max f.dep a.dep + 1 ≤ 900 := hd
    have hz' : f.size + a.size ≤ 4000000 := hz
    obtain ⟨k, rfl⟩ : ∃ i, k = i + 1 := ⟨k - 1, by omega⟩
    have A := act_eq k ms (.ap f a) (by omega) hd hw hm
    have I1 := l_places_eq ms hm f k (by omega) (by omega) (by omega) hw.1
    have I2 := l_places_eq ms hm a k (by omega) (by omega) (by omega) hw.2
    have e1 : (Wd.ap f a).toD = .tuple [f.toD, a.toD] := rfl
    have z0 : decide (0 < sizeLine) = true := rfl
    have f0 : fitsZ 0 = true := rfl
    have n1 := lpl_len ms f
    have n2 := lpl_len ms a
    have C1 := lpl_comp (callN T k) true (lpl ms f) (fun p hp => by have := plcs_dep ms f p ((mem_lpl ms hm f p).mp hp); omega)
    have C2 := lpl_comp (callN T k) false (lpl ms a) (fun p hp => by have := plcs_dep ms a p ((mem_lpl ms hm a p).mp hp); omega)
    have g1 : plS [true] = ofL [102] := rfl
    have g2 : plS [false] = ofL [98] := rfl
    rw [g1] at C1
    rw [g2] at C2
    have m1 : fitsZ (lpl ms f).length = true := fz _ (by omega)
    have m2 : fitsZ (lpl ms a).length = true := fz _ (by omega)
    have m3 : fitsZ ((lpl ms a).length + (lpl ms f).length) = true := fz _ (by omega)
    have m4 : fitsZ (1 + (lpl ms a).length) = true := fz _ (by omega)
    have m5 : fitsZ (1 + (lpl ms a).length + (lpl ms f).length) = true := fz _ (by omega)
    have m6 : fitsZ ((lpl ms a).length + 1 + (lpl ms f).length) = true := fz _ (by omega)
    have m7 : fitsZ ((lpl ms a).length + 1) = true := fz _ (by omega)
    have e0 : plD2 [] = .str (ofL []) := rfl
    clear n1 n2 g1 g2
    rw [e1] at A ⊢
    rw [c_l_places]
    unfold b_l_places lpl own
    unfold actD at A
    cases q : can ms (.ap f a) with
    | none =>
      rw [q] at A
      dsimp only at A
      clear q hm hw
      walk_at "ev"
      rw [List.map_append]
    | some m =>
      rw [q] at A
      dsimp only at A
      have N := Wd.noneF (m.deed.act (Wd.ap f a).args)
      clear q hm hw
      walk_at "ev"
      rw [List.map_append]
theorem lpl_nil {ms : List Mk} (hm : MsOk ms) {w : Wd} : lpl ms w = [] ↔ plcs ms w = [] := by
  constructor
  · intro h
    cases q : plcs ms w with
    | nil => rfl
    | cons p r =>
      have : p ∈ lpl ms w := (mem_lpl ms hm w p).mpr (by rw [q]; exact List.mem_cons_self)
      rw [h] at this
      cases this
  · intro h
    cases q : lpl ms w with
    | nil => rfl
    | cons p r =>
      have : p ∈ plcs ms w := (mem_lpl ms hm w p).mp (by rw [q]; exact List.mem_cons_self)
      rw [h] at this
      cases this

theorem l_step_eq (ms : List Mk) (hm : MsOk ms) : ∀ (w : Wd) (p : Pl) (w' : Wd) (k : Nat), stp ms w p = some w' → p.length + 7 ≤ k → w.dep ≤ 900 → w.All Sg → callN T k i_l_step [msD ms, w.toD, .str (plS p)] = .ok w'.toD := by
  intro w p
  induction p generalizing w with
  | nil =>
    intro w' k h hk hd hw
    obtain ⟨k, rfl⟩ : ∃ i, k = i + 1 := ⟨k - 1, by omega⟩
    rw [stp_nil] at h
    have A := act_eq k ms w (by omega) hd hw hm
    unfold actD at A
    cases q : can ms w with
    | none => rw [q] at h; cases h
    | some m =>
      rw [q] at h A
      have e : m.deed.act w.args = w' := Option.some.inj h
      have E : eqD (.str (plS [])) (.str (ofL [])) = .ok (.bool true) := by
        rw [eq_ss (plS_ok [] (by decide)) ok_nil, pl_nil]; rfl
      rw [c_l_step]
      unfold b_l_step
      dsimp only at A
      rw [e] at A
      clear h q e hm
      walk_at "ev"
  | cons b r ih =>
    intro w' k h hk hd hw
    rw [List.length_cons] at hk
    have hl := stp_len h
    rw [List.length_cons] at hl
    obtain ⟨k, rfl⟩ : ∃ i, k = i + 1 := ⟨k - 1, by omega⟩
    have E : eqD (.str (plS (b :: r))) (.str (ofL [])) = .ok (.bool false) := by
      rw [eq_ss (plS_ok (b :: r) (by rw [List.length_cons]; omega)) ok_nil, pl_nil]; rfl
    have X := pl_ix b r (by omega)
    have Y := pl_cut b r (by omega)
    have f2 : fitsZ 2 = true := rfl
    cases w with
    | lf s => simp [stp] at h
    | ap f a =>
      have hd' : max f.dep a.dep + 1 ≤ 900 := hd
      have e1 : (Wd.ap f a).toD = .tuple [f.toD, a.toD] := rfl
      rw [e1, c_l_step]
      unfold b_l_step
      cases b with
      | true =>
        have E2 := eq_ff
        have X' : itemD (.str (plS (true :: r))) (.int 0) = .ok (.str (ofL [102])) := X
        have h' : (stp ms f r).map (fun f' => Wd.ap f' a) = some w' := h
        cases q : stp ms f r with
        | none => rw [q] at h'; cases h'
        | some f' =>
          rw [q] at h'
          cases h'
          have I := ih f f' k q (by omega) (by omega) hw.1
          clear ih q h X hl hm
          walk_at "ev"
          rfl
      | false =>
        have E2 := eq_bf
        have X' : itemD (.str (plS (false :: r))) (.int 0) = .ok (.str (ofL [98])) := X
        have h' : (stp ms a r).map (fun f' => Wd.ap f f') = some w' := h
        cases q : stp ms a r with
        | none => rw [q] at h'; cases h'
        | some f' =>
          rw [q] at h'
          cases h'
          have I := ih a f' k q (by omega) (by omega) hw.2
          clear ih q h X hl hm
          walk_at "ev"
          rfl

theorem lvs_len : ∀ w : Wd, w.lvs.length = w.size
  | .lf _ => rfl
  | .ap f a => by
    show (f.lvs ++ a.lvs).length = f.size + a.size
    rw [List.length_append, lvs_len f, lvs_len a]

theorem l_leaves_eq : ∀ (w : Wd) (k : Nat), w.dep + 1 ≤ k → w.size ≤ 16000000 → callN T k i_l_leaves [w.toD] = .ok (.list (w.lvs.map .str))
  | .lf s, k, hk, hz => by
    obtain ⟨k, rfl⟩ : ∃ i, k = i + 1 := ⟨k - 1, by omega⟩
    have e1 : (Wd.lf s).toD = .str s := rfl
    have f1 : fitsZ 1 = true := rfl
    rw [e1, c_l_leaves]
    unfold b_l_leaves
    walk_at "ev"
    rfl
  | .ap f a, k, hk, hz => by
    have hk' : max f.dep a.dep + 1 + 1 ≤ k := hk
    have hz' : f.size + a.size ≤ 16000000 := hz
    obtain ⟨k, rfl⟩ : ∃ i, k = i + 1 := ⟨k - 1, by omega⟩
    have I1 := l_leaves_eq f k (by omega) (by omega)
    have I2 := l_leaves_eq a k (by omega) (by omega)
    have e1 : (Wd.ap f a).toD = .tuple [f.toD, a.toD] := rfl
    have f1 : fitsZ (f.lvs.length + a.lvs.length) = true := fz _ (by rw [lvs_len, lvs_len]; omega)
    rw [e1, c_l_leaves]
    unfold b_l_leaves
    walk_at "ev"
    show _ = Res.ok (PyData.list ((f.lvs ++ a.lvs).map .str))
    rw [List.map_append]

theorem Am.cut {s : Str} (h : Am s) : sliceD (.str s) none (some 1) = .ok (.str (um1 s)) := by
  obtain ⟨c, h1, h2, rfl | rfl⟩ := h
  · rw [sl_s, fz _ (by show 1 ≤ 16777216; decide), n_t, cut_l, cut_h]; rfl
  · rw [sl_s, fz _ (by show 2 ≤ 16777216; decide), n_t, cut_l, cut_h]; rfl
theorem Am.first {s : Str} (h : Am s) : itemD (.str s) (.int 0) = .ok (.str (um1 s)) := by
  obtain ⟨c, h1, h2, rfl | rfl⟩ := h
  · exact ix_str [c] 0 c rfl (by show 1 ≤ 16777216; decide)
  · exact ix_str [c, 33] 0 c rfl (by show 2 ≤ 16777216; decide)
theorem Am.len {s : Str} (h : Am s) : (um1 s).length = 1 := by
  obtain ⟨c, h1, h2, rfl | rfl⟩ := h <;> rfl
theorem Am.last {s : Str} (h : Am s) : ∃ t, itemD (.str s) (.int (-1)) = .ok (.str t) ∧ eqD (.str t) (.str (ofL [33])) = .ok (.bool (mk1 s)) := by
  obtain ⟨c, h1, h2, rfl | rfl⟩ := h
  · refine ⟨ofL [c], rfl, ?_⟩
    rw [eq_ss (Sg.ok ⟨c, rfl, by omega, h2⟩) (Sg.ok ⟨33, rfl, by decide, by decide⟩)]
    have e : mk1 (ofL [c]) = false := Al.mk ⟨c, rfl, h1, h2⟩
    rw [e, decide_eq_false fun q => by have := ofL_inj q; simp at this; omega]
  · refine ⟨ofL [33], rfl, ?_⟩
    rw [eq_ss (Sg.ok ⟨33, rfl, by decide, by decide⟩) (Sg.ok ⟨33, rfl, by decide, by decide⟩), decide_eq_true rfl]; rfl
theorem can_actM (k : Nat) (ms : List Mk) (w : Wd) (hk : 2 ≤ k) (hd : w.dep ≤ 900) (hw : w.All Am) : callN T k i_f_can_act [bkD ms, w.toD] = .ok (.bool (canB ms (um w))) := by
  obtain ⟨k, rfl⟩ : ∃ i, k = i + 1 := ⟨k - 1, by omega⟩
  have S := spine_eq k w (by omega) hd
  have hs : Am w.hd := Wd.hd_all hw
  have sl := hs.cut
  rw [c_f_can_act]
  unfold b_f_can_act
  unfold spD2 at S
  unfold bkD canB can
  rw [um_hd, um_len]
  cases q : fnd ms (um1 w.hd) with
  | none =>
    have g := get_bk ms (um1 w.hd)
    rw [q] at g
    have g' : dictGet (ms.map fun m => (.str m.nm, .tuple [.int (m.many : Nat), m.deed.toD])) (.inr (um1 w.hd)) = none := g
    clear g
    walk_at "ev"
    rfl
  | some m =>
    have g := get_bk ms (um1 w.hd)
    rw [q] at g
    have g' : dictGet (ms.map fun m => (.str m.nm, .tuple [.int (m.many : Nat), m.deed.toD])) (.inr (um1 w.hd)) = some (.tuple [.int (m.many : Nat), m.deed.toD]) := g
    clear g
    have i1 : (some (PyData.tuple [.int (m.many : Nat), m.deed.toD])).isSome = true := rfl
    walk_at "ev"
    by_cases e : m.many = w.args.length
    · rw [if_pos e, decide_eq_true (by omega)]; rfl
    · rw [if_neg e, decide_eq_false (by omega)]; rfl
theorem actedM (k : Nat) (ms : List Mk) (w : Wd) (m : Mk) (hk : 6 ≤ k) (hd : w.dep ≤ 900) (hw : w.All Am) (hm : ∀ m ∈ ms, MkOk m) (hc : can ms (um w) = some m) : callN T k i_f_acted [bkD ms, w.toD] = .ok (m.deed.act w.args).toD := by
  obtain ⟨k, rfl⟩ : ∃ i, k = i + 1 := ⟨k - 1, by omega⟩
  have S := spine_eq k w (by omega) hd
  have hs : Am w.hd := Wd.hd_all hw
  have sl := hs.cut
  obtain ⟨q, h3⟩ := can_fnd hc
  rw [um_hd] at q
  rw [um_len] at h3
  have o := hm m (fnd_mem q).1
  have A := done_f w.args m.deed k (by have := m.deed.dep_lt; have := o.sz; omega) (h3 ▸ o.bd)
  have g := get_bk ms (um1 w.hd)
  rw [q] at g
  have g' : dictGet (ms.map fun m => (.str m.nm, .tuple [.int (m.many : Nat), m.deed.toD])) (.inr (um1 w.hd)) = some (.tuple [.int (m.many : Nat), m.deed.toD]) := g
  rw [c_f_acted]
  unfold b_f_acted
  unfold spD2 at S
  unfold bkD
  clear g h3 hc q
  walk_at "ev"
theorem oncM_inv {ms : List Mk} {f a w' : Wd} {S : List Pl} (h : oncM ms (.ap f a) S = some w') : ∃ f' a', oncM ms f (undr true S) = some f' ∧ oncM ms a (undr false S) = some a' ∧ (([] ∈ S ∧ ∃ m, can ms (um (.ap f' a')) = some m ∧ w' = m.deed.act (Wd.ap f' a').args) ∨ ([] ∉ S ∧ w' = .ap f' a')) := by
  unfold oncM at h
  cases h1 : oncM ms f (undr true S) with
  | none => rw [h1] at h; cases h
  | some f' =>
    cases h2 : oncM ms a (undr false S) with
    | none => rw [h1, h2] at h; cases h
    | some a' =>
      rw [h1, h2] at h
      dsimp only at h
      refine ⟨f', a', rfl, rfl, ?_⟩
      by_cases e : [] ∈ S
      · rw [if_pos e] at h
        cases q : can ms (um (.ap f' a')) with
        | none => rw [q] at h; cases h
        | some m => rw [q] at h; cases h; exact .inl ⟨e, m, rfl, rfl⟩
      · rw [if_neg e] at h
        cases h
        exact .inr ⟨e, rfl⟩
theorem oncM_ok {P : Str → Prop} {ms : List Mk} (hm : ∀ m ∈ ms, MkOk m) : ∀ {w : Wd} {S : List Pl} {w' : Wd}, w.All P → oncM ms w S = some w' → w'.All P ∧ w'.dep ≤ 3 * w.dep
  | .lf s, S, w', hw, h => by cases h; exact ⟨hw, Nat.zero_le _⟩
  | .ap f a, S, w', hw, h => by
    obtain ⟨f', a', h1, h2, h3⟩ := oncM_inv h
    obtain ⟨g1, d1⟩ := oncM_ok hm hw.1 h1
    obtain ⟨g2, d2⟩ := oncM_ok hm hw.2 h2
    show w'.All P ∧ w'.dep ≤ 3 * (max f.dep a.dep + 1)
    rcases h3 with ⟨e, m, q, rfl⟩ | ⟨e, rfl⟩
    · obtain ⟨c1, _, c3⟩ := can_spec q
      have o := hm m c1
      have bd := o.bd
      rw [c3, um_len] at bd
      have sz := o.sz
      have dd := m.deed.dep_lt
      have := Dd.act_dep (bs := (Wd.ap f' a').args) (n := max f'.dep a'.dep) (fun x hx => by
        have := Wd.args_dep _ x hx
        have : x.dep < max f'.dep a'.dep + 1 := this
        omega) bd
      exact ⟨Dd.act_all (Wd.args_all (show (Wd.ap f' a').All P from ⟨g1, g2⟩)) bd, by omega⟩
    · refine ⟨⟨g1, g2⟩, ?_⟩
      show max f'.dep a'.dep + 1 ≤ _
      omega
theorem all_doneM (ms : List Mk) (hm : ∀ m ∈ ms, MkOk m) : ∀ (w : Wd) (S : List Pl) (w' : Wd) (k : Nat), oncM ms w S = some w' → w.dep + 8 ≤ k → w.dep ≤ 250 → w.All Am → (∀ p ∈ S, p.length ≤ 1000) → S.length ≤ 1000000 → callN T k i_f_all_done [bkD ms, w.toD, .list (S.map plD)] = .ok w'.toD
  | .lf s, S, w', k, h, hk, hd, hw, hl, hn => by
    obtain ⟨k, rfl⟩ : ∃ i, k = i + 1 := ⟨k - 1, by omega⟩
    cases h
    have e1 : (Wd.lf s).toD = .str s := rfl
    rw [e1, c_f_all_done]
    unfold b_f_all_done
    clear hl
    walk_at "ev"
  | .ap f a, S, w', k, h, hk, hd, hw, hl, hn => by
    have hk' : max f.dep a.dep + 1 + 8 ≤ k := hk
    have hd' : max f.dep a.dep + 1 ≤ 250 := hd
    obtain ⟨k, rfl⟩ : ∃ i, k = i + 1 := ⟨k - 1, by omega⟩
    obtain ⟨f', a', h1, h2, h3⟩ := oncM_inv h
    have hI : iterD .of [.list (S.map plD)] = .ok (S.map plD) := rfl
    have U1 := under_eq k S (.list (S.map plD)) true (by omega) hI hl hn
    have U2 := under_eq k S (.list (S.map plD)) false (by omega) hI hl hn
    have U1' : callN T k i_f_under [.list (S.map plD), .str (ofL [102])] = .ok (.list ((undr true S).map plD)) := U1
    have U2' : callN T k i_f_under [.list (S.map plD), .str (ofL [98])] = .ok (.list ((undr false S).map plD)) := U2
    have ul : ∀ b, ∀ p ∈ undr b S, p.length ≤ 1000 := fun b p hp => by
      have := hl _ (undr_mem hp)
      rw [List.length_cons] at this
      omega
    have I1 := all_doneM ms hm f (undr true S) f' k h1 (by omega) (by omega) hw.1 (ul true) (by have := undr_len true S; omega)
    have I2 := all_doneM ms hm a (undr false S) a' k h2 (by omega) (by omega) hw.2 (ul false) (by have := undr_len false S; omega)
    have e1 : (Wd.ap f a).toD = .tuple [f.toD, a.toD] := rfl
    have f2 : fitsZ 2 = true := rfl
    have N : inD (.str (ofL [])) (.list (S.map plD)) = .ok (decide ([] ∈ S)) := (in_pls S [] (by decide) hl).1
    obtain ⟨g1, d1⟩ := oncM_ok hm hw.1 h1
    obtain ⟨g2, d2⟩ := oncM_ok hm hw.2 h2
    rw [e1, c_f_all_done]
    unfold b_f_all_done
    rcases h3 with ⟨e, m, q, rfl⟩ | ⟨e, rfl⟩
    · have A := actedM k ms (.ap f' a') m (by omega) (by show max f'.dep a'.dep + 1 ≤ 900; omega) ⟨g1, g2⟩ hm q
      have A' : callN T k i_f_acted [bkD ms, .tuple [f'.toD, a'.toD]] = .ok (m.deed.act (Wd.ap f' a').args).toD := A
      rw [decide_eq_true e] at N
      clear U1 U2 hl ul h h1 h2 hI e A q hm hw
      generalize PyData.list (S.map plD) = sd at *
      walk_at "ev"
    · rw [decide_eq_false e] at N
      clear U1 U2 hl ul h h1 h2 hI e hm hw
      generalize PyData.list (S.map plD) = sd at *
      walk_at "ev"
      rfl
/-! ### marking -/
def vp : Wd → Pl → Prop
  | _, [] => True
  | .ap f _, true :: p => vp f p
  | .ap _ a, false :: p => vp a p
  | .lf _, _ :: _ => False
theorem vp_mkw {ms : List Mk} : ∀ {w : Wd} {p : Pl} {S : List Pl} {b : Bool}, p ∈ plcs ms w → vp (mkw w S b) p
  | w, [], S, b, _ => by cases w <;> exact True.intro
  | .ap f a, true :: p, S, b, h => vp_mkw (w := f) ((plcs_ap (b := true)).mp h)
  | .ap f a, false :: p, S, b, h => vp_mkw (w := a) ((plcs_ap (b := false)).mp h)
  | .lf s, c :: p, S, b, h => by
    have := plcs_dep ms (.lf s) _ h
    rw [List.length_cons] at this
    exact absurd this (by show ¬ p.length + 1 ≤ 0; omega)
theorem mark_hd (x : D) : ∀ (w : Wd) (k : Nat), w.dep + 1 ≤ k → w.All Am → callN T k i_f_marked [x, w.toD, .str (ofL [])] = .ok (mh w).toD
  | .lf s, k, hk, hw => by
    obtain ⟨k, rfl⟩ : ∃ i, k = i + 1 := ⟨k - 1, by omega⟩
    have hs : Am s := hw
    have F := hs.first
    have L := hs.len
    have e1 : (Wd.lf s).toD = .str s := rfl
    have e2 : (mh (.lf s)).toD = .str (mark1 s) := rfl
    have e3 : um1 s ++ ofL [33] = mark1 s := ofL_app _ _
    have l3 : (ofL [33]).length = 1 := rfl
    have f2 : fitsZ 2 = true := rfl
    have N : neD (.str (ofL [])) (.str (ofL [])) = .ok (.bool false) := by rw [ne_ss ok_nil ok_nil, decide_eq_true rfl]; rfl
    rw [e1, e2, c_f_marked]
    unfold b_f_marked
    clear hw hs
    walk_at "ev"
  | .ap f a, k, hk, hw => by
    have hk' : max f.dep a.dep + 1 + 1 ≤ k := hk
    obtain ⟨k, rfl⟩ : ∃ i, k = i + 1 := ⟨k - 1, by omega⟩
    have I := mark_hd x f k (by omega) hw.1
    have e1 : (Wd.ap f a).toD = .tuple [f.toD, a.toD] := rfl
    have e2 : (mh (.ap f a)).toD = .tuple [(mh f).toD, a.toD] := rfl
    have f2 : fitsZ 2 = true := rfl
    have N : neD (.str (ofL [])) (.str (ofL [])) = .ok (.bool false) := by rw [ne_ss ok_nil ok_nil, decide_eq_true rfl]; rfl
    rw [e1, e2, c_f_marked]
    unfold b_f_marked
    clear hw e1 e2
    walk_at "ev"
theorem marked_eq (x : D) : ∀ (w : Wd) (p : Pl) (k : Nat), w.dep + 1 ≤ k → w.All Am → vp w p → p.length ≤ 1000 → callN T k i_f_marked [x, w.toD, plD p] = .ok (mkAt w p).toD
  | w, [], k, hk, hw, _, _ => by
    have e : mkAt w [] = mh w := by cases w <;> rfl
    rw [e]
    exact mark_hd x w k hk hw
  | .lf s, c :: p, k, hk, hw, hv, hp => by cases c <;> exact False.elim hv
  | .ap f a, b :: p, k, hk, hw, hv, hp => by
    have hk' : max f.dep a.dep + 1 + 1 ≤ k := hk
    obtain ⟨k, rfl⟩ : ∃ i, k = i + 1 := ⟨k - 1, by omega⟩
    rw [List.length_cons] at hp
    have e1 : (Wd.ap f a).toD = .tuple [f.toD, a.toD] := rfl
    have f2 : fitsZ 2 = true := rfl
    have N : neD (.str (plS (b :: p))) (.str (ofL [])) = .ok (.bool true) := by rw [ne_ss (plS_ok _ (by rw [List.length_cons]; omega)) ok_nil, pl_nil]; rfl
    have X := pl_ix b p (by omega)
    have C := pl_cut b p (by omega)
    have E1 := eq_ff
    have E2 := eq_bf
    rw [e1, c_f_marked]
    unfold b_f_marked plD
    cases b with
    | true =>
      have I := marked_eq x f p k (by omega) hw.1 hv (by omega)
      unfold plD at I
      have e2 : (mkAt (.ap f a) (true :: p)).toD = .tuple [(mkAt f p).toD, a.toD] := rfl
      have X' : itemD (.str (plS (true :: p))) (.int 0) = .ok (.str (ofL [102])) := X
      rw [e2]
      clear hw e1 e2 X hv
      walk_at "ev"
    | false =>
      have I := marked_eq x a p k (by omega) hw.2 hv (by omega)
      unfold plD at I
      have e2 : (mkAt (.ap f a) (false :: p)).toD = .tuple [f.toD, (mkAt a p).toD] := rfl
      have X' : itemD (.str (plS (false :: p))) (.int 0) = .ok (.str (ofL [98])) := X
      rw [e2]
      clear hw e1 e2 X hv
      walk_at "ev"
theorem mcanB (ms : List Mk) (w : Wd) : (mcan ms w).isSome = (canB ms (um w) && mk1 w.hd) := by
  unfold mcan canB
  by_cases q : mk1 w.hd = true
  · rw [if_pos q, q, Bool.and_true]
  · rw [if_neg q]
    have : mk1 w.hd = false := by simpa using q
    rw [this, Bool.and_false]; rfl
theorem spD2_0 (w : Wd) : itemD (spD2 w) (.int 0) = .ok (.str w.hd) := by
  unfold spD2
  exact (i_t _ 0).trans (ix0 _ _)
theorem mp_eq (ms : List Mk) (hm : MsOk ms) : ∀ (w : Wd) (k : Nat) (p : Pl), w.dep + 3 ≤ k → w.dep ≤ 900 → w.size ≤ 4000000 → p.length + w.dep ≤ 1000 → w.All Am → callN T k i_f_marked_places [bkD ms, w.toD, .str (plS p)] = .ok (.list ((mp ms w).map fun q => .str (plS (p ++ q))))
  | .lf s, k, p, hk, hd, hz, hp, hw => by
    obtain ⟨k, rfl⟩ : ∃ i, k = i + 1 := ⟨k - 1, by omega⟩
    have C := can_actM k ms (.lf s) (by omega) hd hw
    have e0 : canB ms (um (.lf s)) = false := by
      unfold canB
      show (can ms (.lf (um1 s))).isSome = false
      rw [can_lf hm]; rfl
    rw [e0] at C
    have e1 : (Wd.lf s).toD = .str s := rfl
    have f0 : fitsZ 0 = true := rfl
    rw [e1] at C ⊢
    rw [c_f_marked_places]
    unfold b_f_marked_places mp
    clear hw
    walk_at "ev"
  | .ap f a, k, p, hk, hd, hz, hp, hw => by
    have hk' : max f.dep a.dep + 1 + 3 ≤ k := hk
    have hd' : max f.dep a.dep + 1 ≤ 900 := hd
    have hz' : f.size + a.size ≤ 4000000 := hz
    obtain ⟨k, rfl⟩ : ∃ i, k = i + 1 := ⟨k - 1, by omega⟩
    have hp' : p.length + (max f.dep a.dep + 1) ≤ 1000 := hp
    have C := can_actM k ms (.ap f a) (by omega) hd hw
    have SP := spine_eq k (.ap f a) (by omega) hd
    have S0 := spD2_0 (.ap f a)
    have hs : Am (Wd.ap f a).hd := Wd.hd_all hw
    obtain ⟨t, LT, LE⟩ := hs.last
    have I1 := mp_eq ms hm f k (p ++ [true]) (by omega) (by omega) (by omega) (by rw [List.length_append, List.length_singleton]; omega) hw.1
    have I2 := mp_eq ms hm a k (p ++ [false]) (by omega) (by omega) (by omega) (by rw [List.length_append, List.length_singleton]; omega) hw.2
    have e1 : (Wd.ap f a).toD = .tuple [f.toD, a.toD] := rfl
    have z0 : decide (0 < sizeLine) = true := rfl
    have f0 : fitsZ 0 = true := rfl
    have a1 : plS p ++ ofL [102] = plS (p ++ [true]) := plS_app p [true]
    have a2 : plS p ++ ofL [98] = plS (p ++ [false]) := plS_app p [false]
    have l1 : (ofL [102]).length = 1 := rfl
    have l2 : (ofL [98]).length = 1 := rfl
    have l3 : fitsZ (p.length + 1) = true := fz _ (by omega)
    have l4 := plS_len p
    have n1 := mp_len ms f
    have n2 := mp_len ms a
    have m1 : fitsZ (mp ms f).length = true := fz _ (by omega)
    have m2 : fitsZ ((mp ms f).length + (mp ms a).length) = true := fz _ (by omega)
    have m3 : fitsZ (1 + (mp ms f).length) = true := fz _ (by omega)
    have m4 : fitsZ (1 + (mp ms f).length + (mp ms a).length) = true := fz _ (by omega)
    have m5 : fitsZ ((mp ms f).length + 1 + (mp ms a).length) = true := fz _ (by omega)
    have o1 : ∀ q : Pl, p ++ [true] ++ q = p ++ true :: q := fun q => by rw [List.append_assoc]; rfl
    have o2 : ∀ q : Pl, p ++ [false] ++ q = p ++ false :: q := fun q => by rw [List.append_assoc]; rfl
    have mc := mcanB ms (.ap f a)
    rw [mp_ap]
    rw [e1] at C SP ⊢
    rw [c_f_marked_places]
    unfold b_f_marked_places
    cases q : canB ms (um (.ap f a)) with
    | false =>
      rw [q] at C
      rw [q, Bool.false_and] at mc
      rw [mc, if_neg (by decide)]
      clear hw hm hs SP S0 LT LE n1 n2 mc q e1
      walk_at "ev"
      simp only [List.map_append, List.map_map, Function.comp_def, List.nil_append, List.map_nil, o1, o2]
    | true =>
      rw [q] at C
      rw [q, Bool.true_and] at mc
      rw [mc]
      generalize spD2 (.ap f a) = sp at *
      generalize (Wd.ap f a).hd = hd at *
      cases q2 : mk1 hd with
      | false =>
        rw [q2] at LE
        rw [if_neg (by decide)]
        clear hw hm hs n1 n2 mc q q2 e1
        walk_at "ev"
        simp only [List.map_append, List.map_map, Function.comp_def, List.nil_append, List.map_nil, o1, o2]
      | true =>
        rw [q2] at LE
        rw [if_pos rfl]
        clear hw hm hs n1 n2 mc q q2 e1
        walk_at "ev"
        simp only [List.map_append, List.map_map, Function.comp_def, List.nil_append, List.map_cons, List.map_nil, List.append_nil, List.cons_append, o1, o2]

theorem mark_loop (ms : List Mk) (hm : MsOk ms) (w : Wd) (hw : w.All Al) (k : Nat) (hk : w.dep + 1 ≤ k) (hd : w.dep ≤ 900) (x : D) (s2 : Option Slot) (M : List Pl) (hM : ∀ p ∈ M, p.length ≤ 1000) : ∀ (S A : List Pl) (s4 : Option Slot), (∀ p ∈ S, p ∈ plcs ms w) → ∃ s4', forL (bindG (.name 4)) (exs (callN T k) cs b_f_left_of_1) (S.map plD) [some (.val x), some (.val (mkw w A false).toD), s2, some (.val (.list (M.map plD))), s4] = .ok (.next [some (.val x), some (.val (mkw w (nots S M ++ A) false).toD), s2, some (.val (.list (M.map plD))), s4'])
  | [], A, s4, _ => ⟨s4, rfl⟩
  | p :: r, A, s4, hS => by
    have hp := hS p List.mem_cons_self
    have hr : ∀ p ∈ r, p ∈ plcs ms w := fun q hq => hS q (List.mem_cons_of_mem _ hq)
    have lp := plcs_dep ms w p hp
    have IN := (in_pls M p (by omega) hM).1
    have FC : forL (bindG (.name 4)) (exs (callN T k) cs b_f_left_of_1) ((p :: r).map plD) [some (.val x), some (.val (mkw w A false).toD), s2, some (.val (.list (M.map plD))), s4] = ((exs (callN T k) cs b_f_left_of_1 [some (.val x), some (.val (mkw w A false).toD), s2, some (.val (.list (M.map plD))), some (.val (plD p))]).bind fun f => turnK f (forL (bindG (.name 4)) (exs (callN T k) cs b_f_left_of_1) (r.map plD))) := rfl
    by_cases q : p ∈ M
    · have e : nots (p :: r) M = nots r M := by
        unfold nots
        rw [List.filter_cons_of_neg (by simpa using q)]
      obtain ⟨s4', ih⟩ := mark_loop ms hm w hw k hk hd x s2 M hM r A (some (.val (plD p))) hr
      refine ⟨s4', ?_⟩
      rw [decide_eq_true q] at IN
      have X : exs (callN T k) cs b_f_left_of_1 [some (.val x), some (.val (mkw w A false).toD), s2, some (.val (.list (M.map plD))), some (.val (plD p))] = .ok (.next [some (.val x), some (.val (mkw w A false).toD), s2, some (.val (.list (M.map plD))), some (.val (plD p))]) := by
        have IN' : inD (plD p) (.list (M.map plD)) = .ok true := IN
        unfold b_f_left_of_1
        clear FC ih hS hr hm hw hM IN q
        generalize PyData.list (M.map plD) = md at *
        generalize plD p = pd at *
        generalize (mkw w A false).toD = wd at *
        walk_at "ev"
      rw [FC, X, b_ok, tk_n, e]
      exact ih
    · have e : nots (p :: r) M ++ A = nots r M ++ (p :: A) := by
        unfold nots
        rw [List.filter_cons_of_pos (by simpa using q), List.reverse_cons, List.append_assoc]; rfl
      obtain ⟨s4', ih⟩ := mark_loop ms hm w hw k hk hd x s2 M hM r (p :: A) (some (.val (plD p))) hr
      refine ⟨s4', ?_⟩
      rw [decide_eq_false q] at IN
      have MK := marked_eq x (mkw w A false) p k (by rw [mkw_dep]; omega) (mkw_all hw) (vp_mkw hp) (by omega)
      rw [mkAt_mkw hm hw hp] at MK
      have X : exs (callN T k) cs b_f_left_of_1 [some (.val x), some (.val (mkw w A false).toD), s2, some (.val (.list (M.map plD))), some (.val (plD p))] = .ok (.next [some (.val x), some (.val (mkw w (p :: A) false).toD), s2, some (.val (.list (M.map plD))), some (.val (plD p))]) := by
        have IN' : inD (plD p) (.list (M.map plD)) = .ok false := IN
        unfold b_f_left_of_1
        clear FC ih hS hr hm hw hM IN q
        generalize PyData.list (M.map plD) = md at *
        generalize plD p = pd at *
        generalize (mkw w A false).toD = wd at *
        generalize (mkw w (p :: A) false).toD = wd2 at *
        walk_at "ev" <;> rfl
      rw [FC, X, b_ok, tk_n, e]
      exact ih
theorem left_eq (ms : List Mk) (hm : MsOk ms) (w : Wd) (hw : w.All Al) (k : Nat) (hk : 3 * w.dep + 10 ≤ k) (hd : w.dep ≤ 60) (S M : List Pl) (hS : Gd ms w S) (hM : Gd ms w M) (v : Wd) (hv : oncM ms (mkw w (nots S M) false) M = some v) (hz : v.size ≤ 1000000) (hl : M.length ≤ 1000000) : callN T k i_f_left_of [bkD ms, w.toD, .list (S.map plD), .list (M.map plD)] = .ok (.list ((mp ms v).map plD)) := by
  obtain ⟨k, rfl⟩ : ∃ i, k = i + 1 := ⟨k - 1, by omega⟩
  have pM : ∀ p ∈ M, p.length ≤ 1000 := fun p hp => by have := plcs_dep ms w p (hM.sub p hp); omega
  obtain ⟨s4', L⟩ := mark_loop ms hm w hw k (by omega) (by omega) (bkD ms) (some (.val (.list (S.map plD)))) M pM S [] none hS.sub
  rw [mkw_nil, List.append_nil] at L
  have am : (mkw w (nots S M) false).All Am := mkw_all hw
  have dm := mkw_dep w (nots S M) false
  have AD := all_doneM ms hm.ok (mkw w (nots S M) false) M v k hv (by omega) (by omega) am pM hl
  obtain ⟨av, dv⟩ := oncM_ok hm.ok am hv
  have MP := mp_eq ms hm v k [] (by omega) (by omega) (by omega) (by rw [List.length_nil]; omega) av
  have MP' : callN T k i_f_marked_places [bkD ms, v.toD, .str (ofL [])] = .ok (.list ((mp ms v).map plD)) := MP
  have FR : ex (callN T k) cs (.for (.name 4) .of (.cons (.var 2) .nil) b_f_left_of_1) [some (.val (bkD ms)), some (.val w.toD), some (.val (.list (S.map plD))), some (.val (.list (M.map plD))), none] = .ok (.next [some (.val (bkD ms)), some (.val (mkw w (nots S M) false).toD), some (.val (.list (S.map plD))), some (.val (.list (M.map plD))), s4']) := by
    rw [x_for_of _ _ _ (.list (S.map plD)) (S.map plD) (by
      clear L AD MP MP' hm hw hS hM pM am
      walk_at "evn") rfl]
    exact L
  rw [c_f_left_of]
  unfold b_f_left_of
  clear L MP hm hw hS hM pM am
  generalize b_f_left_of_1 = b1 at *
  generalize (mkw w (nots S M) false).toD = wd at *
  generalize bkD ms = bd at *
  generalize PyData.list (S.map plD) = sd at *
  generalize PyData.list (M.map plD) = md at *
  walk_at "evn"
/-! ### by depth -/
theorem dataLe_is {β : Type} (x : β → Int) (y : β → Str) : PySem.W.dataLe false (fun b => .tuple [.int (x b), .str (y b)]) = fun p q => decide (x p < x q ∨ (x p = x q ∧ (y p).cps.toList ≤ (y q).cps.toList)) := by
  funext p q
  show (!PySem.W.dataLt (.tuple [.int (x q), .str (y q)]) (.tuple [.int (x p), .str (y p)])) = _
  rw [PySem.W.dataLt_pair (by simp [PySem.W.alike]) (by simp [PySem.W.alike]), PySem.W.dataLt_int, PySem.W.dataLt_str]
  by_cases e : x q = x p
  · have e1 : PyData.eqv (.int (x q)) (.int (x p)) = true := by rw [e]; exact beq_self_eq_true _
    rw [if_pos e1]
    by_cases f : y q = y p
    · have f1 : PyData.eqv (.str (y q)) (.str (y p)) = true := by rw [f]; exact beq_self_eq_true _
      rw [if_pos f1, f]
      exact (decide_eq_true (.inr ⟨e.symm, List.le_refl _⟩)).symm
    · have f1 : ¬ PyData.eqv (.str (y q)) (.str (y p)) = true := fun z => f (by simpa [PyData.eqv] using z)
      rw [if_neg f1, PySem.W.not_lt_str]
      congr 1
      exact propext ⟨fun h => .inr ⟨e.symm, h⟩, fun h => by
        rcases h with h | h
        · omega
        · exact h.2⟩
  · have e1 : ¬ PyData.eqv (.int (x q)) (.int (x p)) = true := fun z => e (by simpa [PyData.eqv] using z)
    rw [if_neg e1, PySem.W.not_lt_int]
    congr 1
    exact propext ⟨fun h => .inl (by omega), fun h => by
      rcases h with h | h
      · omega
      · exact absurd h.1.symm e⟩
theorem sort_is2 (S : List Pl) : ∃ L : List Pl, (sortP ((S.map plD).zip (S.map fun p => .tuple [.int (-(p.length : Int)), plD p]))).map Prod.fst = L.map plD ∧ L.Perm S ∧ Down L := by
  refine ⟨S.mergeSort fun p q => decide (-(p.length : Int) < -(q.length : Int) ∨ (-(p.length : Int) = -(q.length : Int) ∧ (plS p).cps.toList ≤ (plS q).cps.toList)), ?_, List.mergeSort_perm _ _, ?_⟩
  · rw [List.zip_map']
    unfold sortP
    have := List.map_mergeSort (r := fun p q => decide (-(p.length : Int) < -(q.length : Int) ∨ (-(p.length : Int) = -(q.length : Int) ∧ (plS p).cps.toList ≤ (plS q).cps.toList))) (s := PySem.W.dataLe false Prod.snd) (f := fun p : Pl => (plD p, PyData.tuple [.int (-(p.length : Int)), plD p])) (l := S) fun a _ b _ => by
      show _ = PySem.W.dataLe false (fun p : Pl => PyData.tuple [.int (-(p.length : Int)), .str (plS p)]) a b
      rw [dataLe_is]
    rw [← this, List.map_map]
    rfl
  · have := List.pairwise_mergeSort (le := fun (p q : Pl) => decide (-(p.length : Int) < -(q.length : Int) ∨ (-(p.length : Int) = -(q.length : Int) ∧ (plS p).cps.toList ≤ (plS q).cps.toList))) (fun a b c h1 h2 => by
      have h1 := of_decide_eq_true h1
      have h2 := of_decide_eq_true h2
      refine decide_eq_true ?_
      rcases h1 with h1 | ⟨h1, g1⟩ <;> rcases h2 with h2 | ⟨h2, g2⟩
      · exact .inl (by omega)
      · exact .inl (by omega)
      · exact .inl (by omega)
      · exact .inr ⟨by omega, List.le_trans g1 g2⟩) (fun a b => by
      rw [Bool.or_eq_true]
      rcases Int.lt_trichotomy (-(a.length : Int)) (-(b.length : Int)) with h | h | h
      · exact .inl (decide_eq_true (.inl h))
      · rcases List.le_total (plS a).cps.toList (plS b).cps.toList with g | g
        · exact .inl (decide_eq_true (.inr ⟨h, g⟩))
        · exact .inr (decide_eq_true (.inr ⟨h.symm, g⟩))
      · exact .inr (decide_eq_true (.inl h))) S
    exact this.imp fun h => by
      have := of_decide_eq_true h
      rcases this with h | h
      · omega
      · have := h.1; omega
theorem mapR_map {α : Type} (g : D → Res D) (f h : α → D) : ∀ (l : List α), (∀ x ∈ l, g (f x) = .ok (h x)) → mapR g (l.map f) = .ok (l.map h)
  | [], _ => rfl
  | x :: r, q => by
    show (g (f x)).bind (fun y => (mapR g (r.map f)).bind fun ys => .ok (y :: ys)) = _
    rw [q x List.mem_cons_self, b_ok, mapR_map g f h r fun y hy => q y (List.mem_cons_of_mem _ hy)]
    rfl
theorem by_depth_eq (k : Nat) (hk : 1 ≤ k) (S : List Pl) (hS : ∀ p ∈ S, p.length ≤ 1000) (hl : S.length ≤ 1000000) : ∃ L : List Pl, callN T k i_f_by_depth [.list (S.map plD)] = .ok (.list (L.map plD)) ∧ L.Perm S ∧ Down L := by
  obtain ⟨k, rfl⟩ : ∃ i, k = i + 1 := ⟨k - 1, by omega⟩
  obtain ⟨L, E, pm, dn⟩ := sort_is2 S
  refine ⟨L, ?_, pm, dn⟩
  have K1 : mapR (fun d => noExn (ev (callN T k) cs (.tup (.cons (.neg (.blt .len (.cons (.var 0) .nil))) (.cons (.var 0) .nil))) [some (.val d)])) (S.map plD) = .ok (S.map fun p => .tuple [.int (-(p.length : Int)), plD p]) := mapR_map _ _ _ S fun p hp => by
    have LD : lenD (plD p) = .ok (.int (p.length : Nat)) := by
      show lenD (.str (plS p)) = _
      rw [l_s, plS_len, fz _ (by have := hS p hp; omega)]; rfl
    have f2 : fitsZ 2 = true := rfl
    have E1 : ev (callN T k) cs (.tup (.cons (.neg (.blt .len (.cons (.var 0) .nil))) (.cons (.var 0) .nil))) [some (.val (plD p))] = .ok (.tuple [.int (-(p.length : Int)), plD p]) := by
      clear E pm dn hS
      generalize plD p = pd at *
      walk_at "ev"
    rw [E1]
    rfl
  have KO : keyOk (S.map fun p => .tuple [.int (-(p.length : Int)), plD p]) = true := by
    unfold keyOk
    rw [Bool.and_eq_true, Bool.or_eq_true]
    refine ⟨.inr (List.all_eq_true.mpr fun k hk => ?_), List.all_eq_true.mpr fun k hk => ?_⟩
    · obtain ⟨x, _, rfl⟩ := List.mem_map.mp hk
      rfl
    · obtain ⟨x, hx, rfl⟩ := List.mem_map.mp hk
      show (true && (PyData.strOk (plS x) && true)) = true
      rw [plS_ok x (hS x hx)]; rfl
  have SK : ev (callN T k) cs (.sortk (.var 0) (.tup (.cons (.neg (.blt .len (.cons (.var 0) .nil))) (.cons (.var 0) .nil))) "place") [some (.val (.list (S.map plD)))] = .ok (.list (L.map plD)) := by
    rw [e_sortk]
    show (Res.ok (PyData.list (S.map plD))).bind _ = _
    rw [b_ok]
    unfold sortkD
    show (Res.ok (S.map plD)).bind _ = _
    rw [b_ok, K1, b_ok, KO, fz _ (by rw [List.length_map]; omega), E]
    rfl
  rw [c_f_by_depth]
  unfold b_f_by_depth
  show runF (callN T k) cs 1 1 (.cons (.ret (.sortk (.var 0) (.tup (.cons (.neg (.blt .len (.cons (.var 0) .nil))) (.cons (.var 0) .nil))) "place")) .nil) [.list (S.map plD)] = _
  clear K1 KO E pm dn hS
  walk_at "ev"

def rD (R : List Pl) : D := .list (R.map plD)
theorem step_ok (k : Nat) (ms : List Mk) (hm : MsOk ms) (w : Wd) (p : Pl) (w' : Wd) (h : stp ms w p = some w') (hk : w.dep + 8 ≤ k) (hd : w.dep ≤ 900) (hz : w.size ≤ 4000000) (hw : w.All Sg) : callN T k i_f_step [msD ms, w.toD, plD p] = .ok w'.toD := step_eq k ms w p w' hk hd hz hw hm h
theorem step_exn0 (k : Nat) (ms : List Mk) (w : Wd) (s : Str) (hk : w.dep + 8 ≤ k) (hd : w.dep ≤ 900) (hz : w.size ≤ 4000000) (hw : w.All Sg) (hm : MsOk ms) (hs : PyData.strOk s = true) (h : s ∉ plsS ms w) : callN T k i_f_step [msD ms, w.toD, .str s] = .exn 0 := by
  obtain ⟨k, rfl⟩ : ∃ i, k = i + 1 := ⟨k - 1, by omega⟩
  have hml : ms.length ≤ 1000 := by have := hm.hi; omega
  have P := places_eq k ms w (by omega) hd hz hw hm.nd hml
  have I := in_strsT (s := s) (ss := plsS ms w) hs fun x hx => by
    obtain ⟨q, hq, rfl⟩ := pls_mem hx
    exact plS_ok q (by have := plcs_dep ms w q hq; omega)
  rw [decide_eq_false h] at I
  rw [c_f_step]
  unfold b_f_step
  clear h hm hs
  walk_at "ev"
theorem tile_loop (ms : List Mk) (hm : MsOk ms) (k : Nat) (hk : 140 ≤ k) (s0 s1 s2 s3 s5 s6 s8 s9 s10 : Option Slot) : ∀ (rs : List (List Pl)) (X E Y : Wd) (M : List Pl) (acc : List (List Pl)) (s11 : Option Slot), X.All Al → Chain ms X rs E → Gd ms X M → onc ms X M = some Y → X.dep + 2 * rs.length ≤ 40 → X.size * 4 ^ rs.length ≤ 100000 → acc.length + rs.length ≤ 100 → ∃ rs' M' F s11', forL (bindG (.name 11)) (exs (callN T k) cs b_f_meeting_3) (rs.map rD) [s0, s1, s2, s3, some (.val (bkD ms)), s5, s6, some (.val X.toD), s8, s9, s10, s11, some (.val (rD M)), some (.own (.list (acc.map rD)))] = .ok (.next [s0, s1, s2, s3, some (.val (bkD ms)), s5, s6, some (.val E.toD), s8, s9, s10, s11', some (.val (rD M')), some (.own (.list ((acc ++ rs').map rD)))]) ∧ Chain ms Y rs' F ∧ onc ms E M' = some F ∧ Gd ms E M' ∧ rs'.length = rs.length
  | [], X, E, Y, M, acc, s11, hX, c, g, o, _, _, _ => by
    cases c
    exact ⟨[], M, Y, s11, by rw [List.append_nil]; rfl, rfl, o, g, rfl⟩
  | R :: rs, X, E, Y, M, acc, s11, hX, ⟨gR, X', oR, c⟩, gM, oM, hd, hz, hl => by
    rw [List.length_cons] at hd hl hz
    have z4 : X.size * 4 * 4 ^ rs.length ≤ 100000 := by
      rw [Nat.pow_succ, Nat.mul_comm (4 ^ rs.length) 4, ← Nat.mul_assoc] at hz
      exact hz
    have zx : X.size * 4 ≤ 100000 := Nat.le_trans (Nat.le_mul_of_pos_right _ (Nat.pow_pos (by decide))) z4
    obtain ⟨v1, a1, a2, a3, a4⟩ := left_ok hm hX gR gM
    obtain ⟨v2, b1, b2, b3, b4⟩ := left_ok hm hX gM gR
    have eY : um v1 = Y := Option.some.inj (a2.symm.trans oM)
    have eX : um v2 = X' := Option.some.inj (b2.symm.trans oR)
    obtain ⟨Y', hY'⟩ := onc_some (ms := ms) (w := X) (S := R ++ M) fun p hp => by
      rcases List.mem_append.mp hp with q | q
      · exact gR.sub p q
      · exact gM.sub p q
    have hY2 : onc ms X (M ++ R) = some Y' := by
      rw [← hY']
      exact onc_congr ms X fun p => by rw [List.mem_append, List.mem_append]; exact Or.comm
    rw [eY] at a3 a4
    rw [eX] at b3 b4
    rw [hY'] at a4
    rw [hY2] at b4
    have g1 := onc_size2 hm.ok oM
    have g2 := onc_size2 hm.ok oR
    have p1 : 4 ^ ndS X M ≤ 4 ^ 1 := Nat.pow_le_pow_right (by decide) gM.one
    have p2 : 4 ^ ndS X R ≤ 4 ^ 1 := Nat.pow_le_pow_right (by decide) gR.one
    have g1' : Y.size ≤ X.size * 4 := Nat.le_trans g1 (Nat.mul_le_mul_left _ p1)
    have g2' : X'.size ≤ X.size * 4 := Nat.le_trans g2 (Nat.mul_le_mul_left _ p2)
    have d2 := onc_dep2 hm.ok oR
    have o2 := gR.one
    have lM := gM.len
    have lR := gR.len
    have sg : X.All Sg := hX.mono fun s h => h.sg
    have L1 := left_eq ms hm X hX k (by omega) (by omega) R M gR gM v1 a1 (by rw [← um_size, eY]; omega) (by omega)
    have L2 := left_eq ms hm X hX k (by omega) (by omega) M R gM gR v2 b1 (by rw [← um_size, eX]; omega) (by omega)
    have AD := all_done_eq ms hm.ok X R X' k (.list (R.map plD)) (.inl rfl) oR (by omega) (by omega) sg (fun p hp => by have := plcs_dep ms X p (gR.sub p hp); omega) (by omega)
    obtain ⟨rs', M', F, s11', ih, ic, io, ig, il⟩ := tile_loop ms hm k hk s0 s1 s2 s3 s5 s6 s8 s9 s10 rs X' E Y' (mp ms v2) (acc ++ [mp ms v1]) (some (.val (rD R))) (onc_all hm.ok hX oR) c b3 b4 (by omega) (Nat.le_trans (Nat.mul_le_mul_right _ g2') z4) (by rw [List.length_append, List.length_singleton]; omega)
    refine ⟨mp ms v1 :: rs', M', F, s11', ?_, ⟨a3, Y', a4, ic⟩, io, ig, by rw [List.length_cons, List.length_cons, il]⟩
    have e : acc ++ mp ms v1 :: rs' = acc ++ [mp ms v1] ++ rs' := by rw [List.append_assoc]; rfl
    rw [e, ← ih]
    have FC : forL (bindG (.name 11)) (exs (callN T k) cs b_f_meeting_3) ((R :: rs).map rD) [s0, s1, s2, s3, some (.val (bkD ms)), s5, s6, some (.val X.toD), s8, s9, s10, s11, some (.val (rD M)), some (.own (.list (acc.map rD)))] = ((exs (callN T k) cs b_f_meeting_3 [s0, s1, s2, s3, some (.val (bkD ms)), s5, s6, some (.val X.toD), s8, s9, s10, some (.val (rD R)), some (.val (rD M)), some (.own (.list (acc.map rD)))]).bind fun f => turnK f (forL (bindG (.name 11)) (exs (callN T k) cs b_f_meeting_3) (rs.map rD))) := rfl
    have X3 : exs (callN T k) cs b_f_meeting_3 [s0, s1, s2, s3, some (.val (bkD ms)), s5, s6, some (.val X.toD), s8, s9, s10, some (.val (rD R)), some (.val (rD M)), some (.own (.list (acc.map rD)))] = .ok (.next [s0, s1, s2, s3, some (.val (bkD ms)), s5, s6, some (.val X'.toD), s8, s9, s10, some (.val (rD R)), some (.val (rD (mp ms v2))), some (.own (.list ((acc ++ [mp ms v1]).map rD)))]) := by
      have L1' : callN T k i_f_left_of [bkD ms, X.toD, rD R, rD M] = .ok (rD (mp ms v1)) := L1
      have L2' : callN T k i_f_left_of [bkD ms, X.toD, rD M, rD R] = .ok (rD (mp ms v2)) := L2
      have AD' : callN T k i_f_all_done [bkD ms, X.toD, rD R] = .ok X'.toD := AD
      have sz : decide ((acc.map rD).length < sizeLine) = true := decide_eq_true (by rw [List.length_map]; show acc.length < 16777216; omega)
      have em : (acc ++ [mp ms v1]).map rD = acc.map rD ++ [rD (mp ms v1)] := by rw [List.map_append]; rfl
      have sz' : decide (acc.length < sizeLine) = true := decide_eq_true (by show acc.length < 16777216; omega)
      rw [em]
      unfold b_f_meeting_3
      clear FC ih ic io ig il L1 L2 AD hX gR gM c oR oM a1 a2 a3 a4 b1 b2 b3 b4 hm sg
      generalize bkD ms = bd at *
      generalize rD (mp ms v1) = r1 at *
      generalize rD (mp ms v2) = r2 at *
      generalize rD R = rr at *
      generalize rD M = rm at *
      generalize X.toD = xd at *
      generalize X'.toD = xd' at *
      walk_at "ev"
    rw [FC, X3, b_ok, tk_n]
theorem add_pls (A L : List Pl) (h : A.length + L.length ≤ 16777216) : opD .Add (.tuple (A.map plD)) (.tuple (L.map plD)) = .ok (.tuple ((A ++ L).map plD)) := by
  show need (fitsZ ((A.map plD).length + (L.map plD).length)) _ = _
  rw [List.length_map, List.length_map, fz _ h, List.map_append]; rfl
/-- one step of the first way -/
theorem meet_turn (ms : List Mk) (hm : MsOk ms) (k : Nat) (hk : 140 ≤ k) (D Z : Nat) (hD : 42 ≤ D) (hZ : 400000 ≤ Z) (s1 s2 s3 s10 : Option Slot) (rs : List (List Pl)) (B E R B' : Wd) (p : Pl) (Lb : List Pl) (hB : B.All Al) (hst : stp ms B p = some B') (hc : Chain ms B rs E) (hw : Way ms D Z R Lb E) (hd : B.dep + 2 * rs.length ≤ 40) (hz : B.size * 4 ^ rs.length ≤ 100000) (hl : rs.length ≤ 50) (lb : Lb.length + 100000 ≤ 16000000) (s7 s11 s12 s13 : Option Slot) : ∃ rs' E' Lb' s7' s11' s12' s13', exs (callN T k) cs b_f_meeting_2 [some (.val (msD ms)), s1, s2, s3, some (.val (bkD ms)), some (.val (.list (rs.map rD))), some (.val (.tuple (Lb.map plD))), s7, some (.val (plD p)), some (.val B.toD), s10, s11, s12, s13] = .ok (.next [some (.val (msD ms)), s1, s2, s3, some (.val (bkD ms)), some (.val (.list (rs'.map rD))), some (.val (.tuple (Lb'.map plD))), s7', some (.val (plD p)), some (.val B'.toD), s10, s11', s12', s13']) ∧ Chain ms B' rs' E' ∧ Way ms D Z R Lb' E' ∧ rs'.length = rs.length ∧ Lb'.length ≤ Lb.length + 100000 := by
  have sg : B.All Sg := hB.mono fun s h => h.sg
  have pos : 0 < 4 ^ rs.length := Nat.pow_pos (by decide)
  have zB : B.size ≤ 100000 := Nat.le_trans (Nat.le_mul_of_pos_right _ pos) hz
  have pin : p ∈ plcs ms B := (mem_plcs ms B p).mpr (by rw [hst]; rfl)
  have ST := step_ok k ms hm B p B' hst (by omega) (by omega) (by omega) sg
  have o1 : onc ms B [p] = some B' := (onc_one ms hm B p pin).trans hst
  obtain ⟨rs', M', F, s11', TL, c', oF, gF, l'⟩ := tile_loop ms hm k hk (some (.val (msD ms))) s1 s2 s3 (some (.val (.list (rs.map rD)))) (some (.val (.tuple (Lb.map plD)))) (some (.val (plD p))) (some (.val B'.toD)) s10 rs B E B' [p] [] s11 hB hc (Gd.one' pin) o1 hd hz (by rw [List.length_nil]; omega)
  rw [List.nil_append] at TL
  obtain ⟨aE, dE, zE⟩ := chain_ok hm hB hc
  have lM := gF.len
  obtain ⟨L, BD, pm, dn⟩ := by_depth_eq k (by omega) M' (fun q hq => by have := plcs_dep ms E q (gF.sub q hq); omega) (by omega)
  have wE : Way ms D Z E L F := way_onc hm gF pm dn (by omega) (by omega) oF
  have ll := pm.length_eq
  refine ⟨rs', F, Lb ++ L, some (.val E.toD), s11', some (.val (rD M')), some (.val (.list (rs'.map rD))), ?_, c', way_app hw wE, l', by rw [List.length_append]; omega⟩
  have AD := add_pls Lb L (by omega)
  have BT : bltD .tuple [.list (L.map plD)] = .ok (.tuple (L.map plD)) := rfl
  have FR : ex (callN T k) cs (.for (.name 11) .of (.cons (.var 5) .nil) b_f_meeting_3) [some (.val (msD ms)), s1, s2, s3, some (.val (bkD ms)), some (.val (.list (rs.map rD))), some (.val (.tuple (Lb.map plD))), some (.val B.toD), some (.val (plD p)), some (.val B'.toD), s10, s11, some (.val (rD [p])), some (.own (.list []))] = .ok (.next [some (.val (msD ms)), s1, s2, s3, some (.val (bkD ms)), some (.val (.list (rs.map rD))), some (.val (.tuple (Lb.map plD))), some (.val E.toD), some (.val (plD p)), some (.val B'.toD), s10, s11', some (.val (rD M')), some (.own (.list (rs'.map rD)))]) := by
    rw [x_for_of _ _ _ (.list (rs.map rD)) (rs.map rD) (by
      clear TL BD ST hm hB hc hw
      walk_at "evn") rfl]
    exact TL
  have eM : rD M' = .list (M'.map plD) := rfl
  have e1 : rD [p] = .list [plD p] := rfl
  rw [e1] at FR
  rw [← eM] at BD
  have f1 : fitsZ 1 = true := rfl
  have f0 : fitsZ 0 = true := rfl
  unfold b_f_meeting_2
  clear TL hm hB hc hw eM e1 c' oF gF wE pm dn sg hst pin o1
  generalize b_f_meeting_3 = b3 at *
  generalize bkD ms = bd at *
  generalize msD ms = md at *
  generalize rD M' = mD at *
  generalize PyData.list (rs'.map rD) = r1 at *
  generalize PyData.list (rs.map rD) = r0 at *
  generalize PyData.tuple (Lb.map plD) = lD at *
  generalize PyData.tuple ((Lb ++ L).map plD) = lD2 at *
  generalize PyData.list (L.map plD) = lD3 at *
  generalize PyData.tuple (L.map plD) = lD4 at *
  generalize B.toD = bD at *
  generalize B'.toD = bD' at *
  generalize E.toD = eD at *
  generalize plD p = pd at *
  walk_at "evn"

theorem pow_split (a n : Nat) : a * 4 ^ (n + 1) = a * 4 * 4 ^ n := by
  rw [Nat.pow_succ, Nat.mul_comm (4 ^ n) 4, ← Nat.mul_assoc]
theorem seq_cons {ms : List Mk} {w e : Wd} {p : Pl} {r : List Pl} (h : seqS ms w (p :: r) = some e) : ∃ w', stp ms w p = some w' ∧ seqS ms w' r = some e := by
  have h' : (stp ms w p).bind (fun w' => seqS ms w' r) = some e := h
  cases q : stp ms w p with
  | none => rw [q] at h'; cases h'
  | some w' => rw [q] at h'; exact ⟨w', rfl, h'⟩
theorem meet_loop (ms : List Mk) (hm : MsOk ms) (k : Nat) (hk : 140 ≤ k) (D Z : Nat) (hD : 42 ≤ D) (hZ : 400000 ≤ Z) (R : Wd) (s1 s2 s3 s10 : Option Slot) : ∀ (ps : List Pl) (B W E : Wd) (rs : List (List Pl)) (Lb : List Pl) (s7 s8 s11 s12 s13 : Option Slot), B.All Al → seqS ms B ps = some W → Chain ms B rs E → Way ms D Z R Lb E → B.dep + 2 * (ps.length + rs.length) ≤ 40 → B.size * 4 ^ (ps.length + rs.length) ≤ 100000 → rs.length ≤ 50 → Lb.length + 100000 * ps.length ≤ 10000000 → ∃ rs' E' Lb' s7' s8' s11' s12' s13', (∀ ys, forL (bindG (.name 8)) (exs (callN T k) cs b_f_meeting_2) (ps.map plD ++ ys) [some (.val (msD ms)), s1, s2, s3, some (.val (bkD ms)), some (.val (.list (rs.map rD))), some (.val (.tuple (Lb.map plD))), s7, s8, some (.val B.toD), s10, s11, s12, s13] = forL (bindG (.name 8)) (exs (callN T k) cs b_f_meeting_2) ys [some (.val (msD ms)), s1, s2, s3, some (.val (bkD ms)), some (.val (.list (rs'.map rD))), some (.val (.tuple (Lb'.map plD))), s7', s8', some (.val W.toD), s10, s11', s12', s13']) ∧ Chain ms W rs' E' ∧ Way ms D Z R Lb' E' ∧ rs'.length = rs.length ∧ Lb'.length ≤ Lb.length + 100000 * ps.length
  | [], B, W, E, rs, Lb, s7, s8, s11, s12, s13, hB, h, c, w, _, _, _, _ => by
    cases h
    exact ⟨rs, E, Lb, s7, s8, s11, s12, s13, fun ys => rfl, c, w, rfl, by omega⟩
  | p :: r, B, W, E, rs, Lb, s7, s8, s11, s12, s13, hB, h, c, w, hd, hz, hl, hb => by
    obtain ⟨B', hst, h'⟩ := seq_cons h
    rw [List.length_cons] at hd hz hb
    have ez : r.length + 1 + rs.length = (r.length + rs.length) + 1 := by omega
    rw [ez, pow_split] at hz
    have p4 : 4 ^ rs.length ≤ 4 ^ (r.length + rs.length) := Nat.pow_le_pow_right (by decide) (by omega)
    have hb2 : Lb.length + 100000 ≤ 16000000 := Nat.le_trans (Nat.add_le_add_left (Nat.le_mul_of_pos_right 100000 (Nat.succ_pos r.length)) Lb.length) (Nat.le_trans hb (by decide))
    have z1 : B.size * 4 ^ rs.length ≤ 100000 := by
      have a := Nat.mul_le_mul_left B.size p4
      have b : B.size * 4 ^ (r.length + rs.length) ≤ B.size * 4 * 4 ^ (r.length + rs.length) := Nat.mul_le_mul_right _ (by omega)
      omega
    obtain ⟨rs1, E1, Lb1, t7, t11, t12, t13, X, c1, w1, l1, b1⟩ := meet_turn ms hm k hk D Z hD hZ s1 s2 s3 s10 rs B E R B' p Lb hB hst c w (by omega) z1 hl hb2 s7 s11 s12 s13
    have dB := stp_dep hm.ok hst
    have sB := stp_size hm.ok hst
    obtain ⟨rs', E', Lb', s7', s8', s11', s12', s13', ih, c', w', l', b'⟩ := meet_loop ms hm k hk D Z hD hZ R s1 s2 s3 s10 r B' W E1 rs1 Lb1 t7 (some (.val (plD p))) t11 t12 t13 (stp_all hm.ok hB hst) h' c1 w1 (by rw [l1]; omega) (by rw [l1]; exact Nat.le_trans (Nat.mul_le_mul_right _ sB) hz) (by omega) (by omega)
    refine ⟨rs', E', Lb', s7', s8', s11', s12', s13', fun ys => ?_, c', w', by omega, by rw [List.length_cons]; omega⟩
    rw [← ih ys, List.map_cons, List.cons_append, for_cons]
    show ((Res.ok _).bind _) = _
    rw [b_ok]
    show ((exs (callN T k) cs b_f_meeting_2 [some (.val (msD ms)), s1, s2, s3, some (.val (bkD ms)), some (.val (.list (rs.map rD))), some (.val (.tuple (Lb.map plD))), s7, some (.val (plD p)), some (.val B.toD), s10, s11, s12, s13]).bind _) = _
    rw [X, b_ok, tk_n]
theorem steps_loop (ms : List Mk) (hm : MsOk ms) (k : Nat) (hk : 140 ≤ k) (s1 s2 s3 s4 s5 s6 s9 s10 s11 s12 s13 : Option Slot) : ∀ (ps : List Pl) (B W : Wd) (s8 : Option Slot), B.All Al → seqS ms B ps = some W → B.dep + 2 * ps.length ≤ 100 → B.size * 4 ^ ps.length ≤ 1000000 → ∃ s8', ∀ ys, forL (bindG (.name 8)) (exs (callN T k) cs b_f_meeting_1) (ps.map plD ++ ys) [some (.val (msD ms)), s1, s2, s3, s4, s5, s6, some (.val B.toD), s8, s9, s10, s11, s12, s13] = forL (bindG (.name 8)) (exs (callN T k) cs b_f_meeting_1) ys [some (.val (msD ms)), s1, s2, s3, s4, s5, s6, some (.val W.toD), s8', s9, s10, s11, s12, s13]
  | [], B, W, s8, hB, h, _, _ => by
    cases h
    exact ⟨s8, fun ys => rfl⟩
  | p :: r, B, W, s8, hB, h, hd, hz => by
    obtain ⟨B', hst, h'⟩ := seq_cons h
    rw [List.length_cons] at hd hz
    rw [pow_split] at hz
    have dB := stp_dep hm.ok hst
    have sB := stp_size hm.ok hst
    have zB : B.size ≤ 1000000 := by
      have := Nat.le_mul_of_pos_right (B.size * 4) (Nat.pow_pos (n := r.length) (show 0 < 4 by decide))
      omega
    have ST := step_ok k ms hm B p B' hst (by omega) (by omega) (by omega) (hB.mono fun s h => h.sg)
    obtain ⟨s8', ih⟩ := steps_loop ms hm k hk s1 s2 s3 s4 s5 s6 s9 s10 s11 s12 s13 r B' W (some (.val (plD p))) (stp_all hm.ok hB hst) h' (by omega) (Nat.le_trans (Nat.mul_le_mul_right _ sB) hz)
    refine ⟨s8', fun ys => ?_⟩
    rw [← ih ys, List.map_cons, List.cons_append, for_cons]
    have X : exs (callN T k) cs b_f_meeting_1 [some (.val (msD ms)), s1, s2, s3, s4, s5, s6, some (.val B.toD), some (.val (plD p)), s9, s10, s11, s12, s13] = .ok (.next [some (.val (msD ms)), s1, s2, s3, s4, s5, s6, some (.val B'.toD), some (.val (plD p)), s9, s10, s11, s12, s13]) := by
      unfold b_f_meeting_1
      clear ih hm hB h h' hst
      generalize msD ms = md at *
      generalize B.toD = bd at *
      generalize B'.toD = bd' at *
      generalize plD p = pd at *
      walk_at "evn"
    show ((Res.ok _).bind _) = _
    rw [b_ok]
    show ((exs (callN T k) cs b_f_meeting_1 [some (.val (msD ms)), s1, s2, s3, s4, s5, s6, some (.val B.toD), some (.val (plD p)), s9, s10, s11, s12, s13]).bind _) = _
    rw [X, b_ok, tk_n]
theorem ahead_loop (ms : List Mk) (hm : MsOk ms) (k : Nat) (hk : 140 ≤ k) (D Z : Nat) (hD : 42 ≤ D) (hZ : 400000 ≤ Z) (s0 s1 s2 s3 s4 s5 s6 s7 s8 s9 s12 s13 : Option Slot) : ∀ (rs : List (List Pl)) (W E : Wd) (A : List Pl) (s11 : Option Slot), W.All Al → Chain ms W rs E → W.dep + 2 * rs.length ≤ 40 → W.size * 4 ^ rs.length ≤ 100000 → A.length + 100000 * rs.length ≤ 10000000 → ∃ L s11', forL (bindG (.name 11)) (exs (callN T k) cs b_f_meeting_4) (rs.map rD) [s0, s1, s2, s3, s4, s5, s6, s7, s8, s9, some (.val (.tuple (A.map plD))), s11, s12, s13] = .ok (.next [s0, s1, s2, s3, s4, s5, s6, s7, s8, s9, some (.val (.tuple ((A ++ L).map plD))), s11', s12, s13]) ∧ Way ms D Z W L E
  | [], W, E, A, s11, hW, c, _, _, _ => by
    cases c
    exact ⟨[], s11, by rw [List.append_nil]; rfl, rfl⟩
  | R :: rs, W, E, A, s11, hW, ⟨g, W', o, c⟩, hd, hz, hl => by
    rw [List.length_cons] at hd hz hl
    rw [pow_split] at hz
    have zW : W.size * 4 ≤ 100000 := Nat.le_trans (Nat.le_mul_of_pos_right _ (Nat.pow_pos (by decide))) hz
    have d2 := onc_dep2 hm.ok o
    have s2 := onc_size2 hm.ok o
    have one := g.one
    have p4 : 4 ^ ndS W R ≤ 4 ^ 1 := Nat.pow_le_pow_right (by decide) one
    have s3 : W'.size ≤ W.size * 4 := Nat.le_trans s2 (Nat.mul_le_mul_left _ p4)
    have lR := g.len
    obtain ⟨L1, BD, pm, dn⟩ := by_depth_eq k (by omega) R (fun q hq => by have := plcs_dep ms W q (g.sub q hq); omega) (by omega)
    have ll := pm.length_eq
    have w1 : Way ms D Z W L1 W' := way_onc hm g pm dn (by omega) (by omega) o
    obtain ⟨L, s11', ih, w2⟩ := ahead_loop ms hm k hk D Z hD hZ s0 s1 _ _ s4 s5 s6 s7 s8 s9 s12 s13 rs W' E (A ++ L1) (some (.val (rD R))) (onc_all hm.ok hW o) c (by omega) (Nat.le_trans (Nat.mul_le_mul_right _ s3) hz) (by rw [List.length_append]; omega)
    refine ⟨L1 ++ L, s11', ?_, way_app w1 w2⟩
    rw [← List.append_assoc, ← ih, List.map_cons, for_cons]
    have AD := add_pls A L1 (by omega)
    have BT : bltD .tuple [.list (L1.map plD)] = .ok (.tuple (L1.map plD)) := rfl
    have BD' : callN T k i_f_by_depth [rD R] = .ok (.list (L1.map plD)) := BD
    conv => lhs; unfold b_f_meeting_4
    clear ih w1 w2 hm hW c g pm dn BD o d2 s2
    generalize rD R = rr at *
    generalize PyData.tuple ((A ++ L1).map plD) = lD2 at *
    generalize PyData.list (L1.map plD) = lD3 at *
    generalize PyData.tuple (L1.map plD) = lD4 at *
    generalize PyData.tuple (A.map plD) = lD5 at *
    walk_at "evn" <;> rfl
theorem chain_one {ms : List Mk} (hm : MsOk ms) : ∀ {ps : List Pl} {w e : Wd}, seqS ms w ps = some e → Chain ms w (ps.map fun p => [p]) e
  | [], w, e, h => by cases h; rfl
  | p :: r, w, e, h => by
    obtain ⟨w', hst, h'⟩ := seq_cons h
    have pin : p ∈ plcs ms w := (mem_plcs ms w p).mpr (by rw [hst]; rfl)
    exact ⟨Gd.one' pin, w', (onc_one ms hm w p pin).trans hst, chain_one hm h'⟩
theorem row_comp (Φ : Phi) (ds : List D) (s0 s1 s2 s3 s4 s5 s6 s7 s8 s9 s10 s11 s12 s13 : Option Slot) : compL (turnOf Φ cs (.lst (.cons (.var 8) .nil)) (.name 8) .nil [("place", 8)] [s0, s1, s2, s3, s4, s5, s6, s7, s8, s9, s10, s11, s12, s13]) (ds.map fun d => d) = .ok (ds.map fun d => .list [d]) := cl_map _ _ _ ds fun d _ => by
  rw [turn_eq]
  have f1 : fitsZ 1 = true := rfl
  simp only [List.map_cons, List.map_nil, wi_cons, wi_nil]
  walk_at "ev"
  rfl
theorem meeting_eq (ms : List Mk) (hm : MsOk ms) (k : Nat) (hk : 150 ≤ k) (D Z : Nat) (hD : 42 ≤ D) (hZ : 400000 ≤ Z) (w left right : Wd) (one two : List Pl) (hw : w.All Al) (h1 : seqS ms w one = some left) (h2 : seqS ms w two = some right) (l1 : one.length ≤ 3) (l2 : two.length ≤ 3) (hs : w.size ≤ 10) : ∃ L Lb E, callN T k i_f_meeting [msD ms, w.toD, .tuple (one.map plD), .tuple (two.map plD)] = .ok (.tuple [.tuple (L.map plD), .tuple (Lb.map plD)]) ∧ Way ms D Z left L E ∧ Way ms D Z right Lb E := by
  obtain ⟨k, rfl⟩ : ∃ i, k = i + 1 := ⟨k - 1, by omega⟩
  have dw := w.dep_lt
  have p6 : 4 ^ (one.length + two.length) ≤ 4 ^ 6 := Nat.pow_le_pow_right (by decide) (by omega)
  have p3 : 4 ^ two.length ≤ 4 ^ 3 := Nat.pow_le_pow_right (by decide) (by omega)
  have z6 : w.size * 4 ^ (one.length + two.length) ≤ 10 * 4 ^ 6 := Nat.mul_le_mul hs p6
  have z3 : w.size * 4 ^ two.length ≤ 10 * 4 ^ 3 := Nat.mul_le_mul hs p3
  have B := book_eq k ms (by omega) hm.nd (by have := hm.hi; omega)
  have lr : (two.map fun p => [p]).length = two.length := List.length_map ..
  obtain ⟨u8, S1⟩ := steps_loop ms hm k (by omega) (some (.val w.toD)) (some (.val (.tuple (one.map plD)))) (some (.val (.tuple (two.map plD)))) (some (.val (bkD ms))) (some (.val (.list ((two.map fun p => [p]).map rD)))) (some (.val (.tuple []))) none none none none none two w right none hw h2 (by omega) (by omega)
  have S1 := S1 []
  rw [List.append_nil, for_nil] at S1
  obtain ⟨rs', E, Lb, u7, v8, u11, u12, u13, S2, c', w', l', _⟩ := meet_loop ms hm k (by omega) D Z hD hZ right (some (.val w.toD)) (some (.val (.tuple (one.map plD)))) (some (.val (.tuple (two.map plD)))) none one w left right (two.map fun p => [p]) [] (some (.val right.toD)) u8 none none none hw h1 (chain_one hm h2) rfl (by rw [lr]; omega) (by rw [lr]; omega) (by omega) (by rw [List.length_nil]; omega)
  have S2 := S2 []
  rw [List.append_nil, for_nil] at S2
  have sl : left.All Al ∧ left.dep ≤ w.dep + 2 * one.length ∧ left.size ≤ w.size * 4 ^ one.length := by
    have : ∀ (ps : List Pl) (x e : Wd), x.All Al → seqS ms x ps = some e → e.All Al ∧ e.dep ≤ x.dep + 2 * ps.length ∧ e.size ≤ x.size * 4 ^ ps.length := fun ps => by
      induction ps with
      | nil => intro x e hx h; cases h; exact ⟨hx, by omega, by rw [List.length_nil, Nat.pow_zero, Nat.mul_one]; exact Nat.le_refl _⟩
      | cons p r ih =>
        intro x e hx h
        obtain ⟨x', hst, h'⟩ := seq_cons h
        obtain ⟨a, b, c⟩ := ih x' e (stp_all hm.ok hx hst) h'
        have d := stp_dep hm.ok hst
        have s := stp_size hm.ok hst
        refine ⟨a, by rw [List.length_cons]; omega, ?_⟩
        rw [List.length_cons, pow_split]
        exact Nat.le_trans c (Nat.mul_le_mul_right _ s)
    exact this one w left hw h1
  obtain ⟨aL, dL, zL⟩ := sl
  have lrs : rs'.length = two.length := by rw [l', lr]
  obtain ⟨L, t11, S3, wL⟩ := ahead_loop ms hm k (by omega) D Z hD hZ (some (.val (msD ms))) (some (.val w.toD)) (some (.val (.tuple (one.map plD)))) (some (.val (.tuple (two.map plD)))) (some (.val (bkD ms))) (some (.val (.list (rs'.map rD)))) (some (.val (.tuple (Lb.map plD)))) u7 v8 (some (.val left.toD)) u12 u13 rs' left E [] u11 aL c' (by omega) (by
    rw [lrs]
    have a := Nat.mul_le_mul_right (4 ^ two.length) zL
    rw [Nat.mul_assoc, ← Nat.pow_add] at a
    omega) (by rw [List.length_nil]; omega)
  rw [List.nil_append] at S3
  refine ⟨L, Lb, E, ?_, wL, w'⟩
  have e0 : PyData.tuple (([] : List Pl).map plD) = .tuple [] := rfl
  rw [e0] at S2 S3
  have F1 : ex (callN T k) cs (.for (.name 8) .of (.cons (.var 3) .nil) b_f_meeting_1) [some (.val (msD ms)), some (.val w.toD), some (.val (.tuple (one.map plD))), some (.val (.tuple (two.map plD))), some (.val (bkD ms)), some (.val (.list ((two.map fun p => [p]).map rD))), some (.val (.tuple [])), some (.val w.toD), none, none, none, none, none, none] = .ok (.next [some (.val (msD ms)), some (.val w.toD), some (.val (.tuple (one.map plD))), some (.val (.tuple (two.map plD))), some (.val (bkD ms)), some (.val (.list ((two.map fun p => [p]).map rD))), some (.val (.tuple [])), some (.val right.toD), u8, none, none, none, none, none]) := by
    rw [x_for_of _ _ _ (.tuple (two.map plD)) (two.map plD) (by
      clear S1 S2 S3 hm hw h1 h2 c' w' wL B
      walk_at "evn") rfl]
    exact S1
  have F2 : ex (callN T k) cs (.for (.name 8) .of (.cons (.var 2) .nil) b_f_meeting_2) [some (.val (msD ms)), some (.val w.toD), some (.val (.tuple (one.map plD))), some (.val (.tuple (two.map plD))), some (.val (bkD ms)), some (.val (.list ((two.map fun p => [p]).map rD))), some (.val (.tuple [])), some (.val right.toD), u8, some (.val w.toD), none, none, none, none] = .ok (.next [some (.val (msD ms)), some (.val w.toD), some (.val (.tuple (one.map plD))), some (.val (.tuple (two.map plD))), some (.val (bkD ms)), some (.val (.list (rs'.map rD))), some (.val (.tuple (Lb.map plD))), u7, v8, some (.val left.toD), none, u11, u12, u13]) := by
    rw [x_for_of _ _ _ (.tuple (one.map plD)) (one.map plD) (by
      clear S1 S2 S3 hm hw h1 h2 c' w' wL F1 B
      walk_at "evn") rfl]
    exact S2
  have F3 : ex (callN T k) cs (.for (.name 11) .of (.cons (.var 5) .nil) b_f_meeting_4) [some (.val (msD ms)), some (.val w.toD), some (.val (.tuple (one.map plD))), some (.val (.tuple (two.map plD))), some (.val (bkD ms)), some (.val (.list (rs'.map rD))), some (.val (.tuple (Lb.map plD))), u7, v8, some (.val left.toD), some (.val (.tuple [])), u11, u12, u13] = .ok (.next [some (.val (msD ms)), some (.val w.toD), some (.val (.tuple (one.map plD))), some (.val (.tuple (two.map plD))), some (.val (bkD ms)), some (.val (.list (rs'.map rD))), some (.val (.tuple (Lb.map plD))), u7, v8, some (.val left.toD), some (.val (.tuple (L.map plD))), t11, u12, u13]) := by
    rw [x_for_of _ _ _ (.list (rs'.map rD)) (rs'.map rD) (by
      clear S1 S2 S3 hm hw h1 h2 c' w' wL F1 F2 B
      walk_at "evn") rfl]
    exact S3
  have CM := fun s0 s1 s2 s3 s4 s5 s6 s7 s8 s9 s10 s11 s12 s13 => row_comp (callN T k) (two.map plD) s0 s1 s2 s3 s4 s5 s6 s7 s8 s9 s10 s11 s12 s13
  have em : (two.map plD).map (fun d => d) = two.map plD := List.map_id _
  have er : (two.map plD).map (fun d => PyData.list [d]) = (two.map fun p => [p]).map rD := by rw [List.map_map, List.map_map]; rfl
  rw [em, er] at CM
  have fr : fitsZ two.length = true := fz _ (by omega)
  have f2 : fitsZ 2 = true := rfl
  have f0 : fitsZ 0 = true := rfl
  have fr' : fitsZ ((two.map fun p => [p]).map rD).length = true := fz _ (by rw [List.length_map, List.length_map]; omega)
  have I : iterD .of [.tuple (two.map plD)] = .ok (two.map plD) := rfl
  have EC : ∀ (a1 a2 a3 a4 a5 a6 a7 a8 a9 a10 a11 a12 a13 a14 : Option Slot), a4 = some (.val (.tuple (two.map plD))) → ev (callN T k) cs (.comp (.lst (.cons (.var 8) .nil)) (.name 8) .of (.cons (.var 3) .nil) .nil [("place", 8)]) [a1, a2, a3, a4, a5, a6, a7, a8, a9, a10, a11, a12, a13, a14] = .ok (.list ((two.map fun p => [p]).map rD)) := fun a1 a2 a3 a4 a5 a6 a7 a8 a9 a10 a11 a12 a13 a14 h => by
    subst h
    rw [e_comp]
    show ((Res.ok [PyData.tuple (two.map plD)]).bind fun ds => _) = _
    rw [b_ok, I, b_ok, CM, b_ok, fr', n_t]
  rw [c_f_meeting]
  unfold b_f_meeting
  have EC' := fun a1 a2 a3 a5 a6 a7 a8 a9 a10 a11 a12 a13 a14 => EC a1 a2 a3 (some (.val (.tuple (two.map plD)))) a5 a6 a7 a8 a9 a10 a11 a12 a13 a14 rfl
  clear EC CM
  generalize (MW.E.comp (.lst (.cons (.var 8) .nil)) (.name 8) .of (.cons (.var 3) .nil) .nil [("place", 8)]) = cm at *
  clear S1 S2 S3 hm hw h1 h2 c' w' wL em er fr fr' I aL dL zL z6 z3 p6 p3 e0
  generalize b_f_meeting_1 = b1 at *
  generalize b_f_meeting_2 = b2 at *
  generalize b_f_meeting_4 = b4 at *
  generalize bkD ms = bd at *
  generalize msD ms = md at *
  generalize PyData.list ((two.map fun p => [p]).map rD) = r0 at *
  generalize PyData.list (rs'.map rD) = r1 at *
  generalize PyData.tuple (L.map plD) = lD at *
  generalize PyData.tuple (Lb.map plD) = lD2 at *
  generalize PyData.tuple (one.map plD) = oD at *
  generalize PyData.tuple (two.map plD) = tD at *
  generalize w.toD = wd at *
  generalize left.toD = leD at *
  generalize right.toD = riD at *
  walk_at "evn"

theorem seq_okB {ms : List Mk} {P : Str → Prop} (hm : MsOk ms) : ∀ (ps : List Pl) (x e : Wd), x.All P → seqS ms x ps = some e → e.All P ∧ e.dep ≤ x.dep + 2 * ps.length ∧ e.size ≤ x.size * 4 ^ ps.length
  | [], x, e, hx, h => by cases h; exact ⟨hx, by omega, by rw [List.length_nil, Nat.pow_zero, Nat.mul_one]; exact Nat.le_refl _⟩
  | p :: r, x, e, hx, h => by
    obtain ⟨x', hst, h'⟩ := seq_cons h
    obtain ⟨a, b, c⟩ := seq_okB hm r x' e (stp_all hm.ok hx hst) h'
    have d := stp_dep hm.ok hst
    have s := stp_size hm.ok hst
    refine ⟨a, by rw [List.length_cons]; omega, ?_⟩
    rw [List.length_cons, pow_split]
    exact Nat.le_trans c (Nat.mul_le_mul_right _ s)
theorem row_ev (k : Nat) (ds : List D) (hl : ds.length ≤ 1000) (a1 a2 a3 a5 a6 a7 a8 a9 a10 a11 a12 a13 a14 : Option Slot) : ev (callN T k) cs (.comp (.lst (.cons (.var 8) .nil)) (.name 8) .of (.cons (.var 3) .nil) .nil [("place", 8)]) [a1, a2, a3, some (.val (.tuple ds)), a5, a6, a7, a8, a9, a10, a11, a12, a13, a14] = .ok (.list (ds.map fun d => .list [d])) := by
  have CM := row_comp (callN T k) ds a1 a2 a3 (some (.val (.tuple ds))) a5 a6 a7 a8 a9 a10 a11 a12 a13 a14
  rw [show ds.map (fun d => d) = ds from List.map_id _] at CM
  rw [e_comp]
  show ((Res.ok [PyData.tuple ds]).bind fun ds => _) = _
  rw [b_ok]
  show ((Res.ok ds).bind fun xs => _) = _
  rw [b_ok, CM, b_ok, fz _ (by rw [List.length_map]; omega), n_t]
theorem meeting_exnO (ms : List Mk) (hm : MsOk ms) (k : Nat) (hk : 150 ≤ k) (w W : Wd) (way : D) (ps : List Pl) (s : Str) (rest : List D) (hw : w.All Al) (h : seqS ms w ps = some W) (lp : ps.length ≤ 3) (hr : rest.length ≤ 10) (hs : w.size ≤ 10) (ho : PyData.strOk s = true) (hn : s ∉ plsS ms W) : callN T k i_f_meeting [msD ms, w.toD, way, .tuple (ps.map plD ++ .str s :: rest)] = .exn 0 := by
  obtain ⟨k, rfl⟩ : ∃ i, k = i + 1 := ⟨k - 1, by omega⟩
  have dw := w.dep_lt
  have p3 : 4 ^ ps.length ≤ 4 ^ 3 := Nat.pow_le_pow_right (by decide) (by omega)
  have z3 : w.size * 4 ^ ps.length ≤ 10 * 4 ^ 3 := Nat.mul_le_mul hs p3
  have B := book_eq k ms (by omega) hm.nd (by have := hm.hi; omega)
  obtain ⟨aW, dW, zW⟩ := seq_okB hm ps w W hw h
  have SX := step_exn0 k ms W s (by omega) (by omega) (by omega) (aW.mono fun s h => h.sg) hm ho hn
  have EC := fun a1 a2 a3 a5 a6 a7 a8 a9 a10 a11 a12 a13 a14 => row_ev k (ps.map plD ++ .str s :: rest) (by rw [List.length_append, List.length_map, List.length_cons]; omega) a1 a2 a3 a5 a6 a7 a8 a9 a10 a11 a12 a13 a14
  obtain ⟨ow, how⟩ : ∃ o : D, o = .tuple (ps.map plD ++ .str s :: rest) := ⟨_, rfl⟩
  obtain ⟨rw0, hrw⟩ : ∃ o : D, o = .list ((ps.map plD ++ .str s :: rest).map fun d => .list [d]) := ⟨_, rfl⟩
  rw [← hrw, ← how] at EC
  rw [← how]
  obtain ⟨u8, S1⟩ := steps_loop ms hm k (by omega) (some (.val w.toD)) (some (.val way)) (some (.val ow)) (some (.val (bkD ms))) (some (.val rw0)) (some (.val (.tuple []))) none none none none none ps w W none hw h (by omega) (by omega)
  have S1 := S1 (.str s :: rest)
  have X : exs (callN T k) cs b_f_meeting_1 [some (.val (msD ms)), some (.val w.toD), some (.val way), some (.val ow), some (.val (bkD ms)), some (.val rw0), some (.val (.tuple [])), some (.val W.toD), some (.val (.str s)), none, none, none, none, none] = .exn 0 := by
    unfold b_f_meeting_1
    clear S1 EC hm hw h hn how hrw B
    generalize msD ms = md at *
    generalize W.toD = bd at *
    walk_at "evn"
  have F1 : ex (callN T k) cs (.for (.name 8) .of (.cons (.var 3) .nil) b_f_meeting_1) [some (.val (msD ms)), some (.val w.toD), some (.val way), some (.val ow), some (.val (bkD ms)), some (.val rw0), some (.val (.tuple [])), some (.val w.toD), none, none, none, none, none, none] = .exn 0 := by
    rw [x_for_of _ _ _ ow (ps.map plD ++ .str s :: rest) (by
      clear S1 X EC hm hw h hn how hrw B
      walk_at "evn") (by rw [how]; rfl), S1, for_cons]
    show ((Res.ok _).bind _) = _
    rw [b_ok]
    show ((exs (callN T k) cs b_f_meeting_1 [some (.val (msD ms)), some (.val w.toD), some (.val way), some (.val ow), some (.val (bkD ms)), some (.val rw0), some (.val (.tuple [])), some (.val W.toD), some (.val (.str s)), none, none, none, none, none]).bind _) = _
    rw [X]; rfl
  have f0 : fitsZ 0 = true := rfl
  rw [c_f_meeting]
  unfold b_f_meeting
  clear S1 X hm hw h hn how hrw
  generalize (MW.E.comp (.lst (.cons (.var 8) .nil)) (.name 8) .of (.cons (.var 3) .nil) .nil [("place", 8)]) = cm at *
  generalize b_f_meeting_1 = b1 at *
  generalize b_f_meeting_2 = b2 at *
  generalize b_f_meeting_4 = b4 at *
  generalize bkD ms = bd at *
  generalize msD ms = md at *
  generalize w.toD = wd at *
  walk_at "evn"
theorem meeting_exnW (ms : List Mk) (hm : MsOk ms) (k : Nat) (hk : 150 ≤ k) (w W right : Wd) (two ps : List Pl) (s : Str) (rest : List D) (hw : w.All Al) (h : seqS ms w ps = some W) (h2 : seqS ms w two = some right) (lp : ps.length ≤ 3) (l2 : two.length ≤ 3) (hr : rest.length ≤ 10) (hs : w.size ≤ 10) (ho : PyData.strOk s = true) (hn : s ∉ plsS ms W) : callN T k i_f_meeting [msD ms, w.toD, .tuple (ps.map plD ++ .str s :: rest), .tuple (two.map plD)] = .exn 0 := by
  obtain ⟨k, rfl⟩ : ∃ i, k = i + 1 := ⟨k - 1, by omega⟩
  have dw := w.dep_lt
  have p6 : 4 ^ (ps.length + two.length) ≤ 4 ^ 6 := Nat.pow_le_pow_right (by decide) (by omega)
  have p3 : 4 ^ two.length ≤ 4 ^ 3 := Nat.pow_le_pow_right (by decide) (by omega)
  have p3' : 4 ^ ps.length ≤ 4 ^ 3 := Nat.pow_le_pow_right (by decide) (by omega)
  have z6 : w.size * 4 ^ (ps.length + two.length) ≤ 10 * 4 ^ 6 := Nat.mul_le_mul hs p6
  have z3 : w.size * 4 ^ two.length ≤ 10 * 4 ^ 3 := Nat.mul_le_mul hs p3
  have z3' : w.size * 4 ^ ps.length ≤ 10 * 4 ^ 3 := Nat.mul_le_mul hs p3'
  have B := book_eq k ms (by omega) hm.nd (by have := hm.hi; omega)
  obtain ⟨aW, dW, zW⟩ := seq_okB hm ps w W hw h
  have SX := step_exn0 k ms W s (by omega) (by omega) (by omega) (aW.mono fun s h => h.sg) hm ho hn
  have EC := fun a1 a2 a3 a5 a6 a7 a8 a9 a10 a11 a12 a13 a14 => row_ev k (two.map plD) (by rw [List.length_map]; omega) a1 a2 a3 a5 a6 a7 a8 a9 a10 a11 a12 a13 a14
  have er : (two.map plD).map (fun d => PyData.list [d]) = (two.map fun p => [p]).map rD := by rw [List.map_map, List.map_map]; rfl
  rw [er] at EC
  obtain ⟨ow, how⟩ : ∃ o : D, o = .tuple (ps.map plD ++ .str s :: rest) := ⟨_, rfl⟩
  rw [← how]
  have lr : (two.map fun p => [p]).length = two.length := List.length_map ..
  obtain ⟨u8, S1⟩ := steps_loop ms hm k (by omega) (some (.val w.toD)) (some (.val ow)) (some (.val (.tuple (two.map plD)))) (some (.val (bkD ms))) (some (.val (.list ((two.map fun p => [p]).map rD)))) (some (.val (.tuple []))) none none none none none two w right none hw h2 (by omega) (by omega)
  have S1 := S1 []
  rw [List.append_nil, for_nil] at S1
  obtain ⟨rs', E, Lb, u7, v8, u11, u12, u13, S2, _, _, _, _⟩ := meet_loop ms hm k (by omega) 42 400000 (Nat.le_refl _) (Nat.le_refl _) right (some (.val w.toD)) (some (.val ow)) (some (.val (.tuple (two.map plD)))) none ps w W right (two.map fun p => [p]) [] (some (.val right.toD)) u8 none none none hw h (chain_one hm h2) rfl (by rw [lr]; omega) (by rw [lr]; omega) (by omega) (by rw [List.length_nil]; omega)
  have S2 := S2 (.str s :: rest)
  have e0 : PyData.tuple (([] : List Pl).map plD) = .tuple [] := rfl
  rw [e0] at S2
  have F1 : ex (callN T k) cs (.for (.name 8) .of (.cons (.var 3) .nil) b_f_meeting_1) [some (.val (msD ms)), some (.val w.toD), some (.val ow), some (.val (.tuple (two.map plD))), some (.val (bkD ms)), some (.val (.list ((two.map fun p => [p]).map rD))), some (.val (.tuple [])), some (.val w.toD), none, none, none, none, none, none] = .ok (.next [some (.val (msD ms)), some (.val w.toD), some (.val ow), some (.val (.tuple (two.map plD))), some (.val (bkD ms)), some (.val (.list ((two.map fun p => [p]).map rD))), some (.val (.tuple [])), some (.val right.toD), u8, none, none, none, none, none]) := by
    rw [x_for_of _ _ _ (.tuple (two.map plD)) (two.map plD) (by
      clear S1 S2 EC hm hw h h2 hn how B
      walk_at "evn") rfl]
    exact S1
  have X : exs (callN T k) cs b_f_meeting_2 [some (.val (msD ms)), some (.val w.toD), some (.val ow), some (.val (.tuple (two.map plD))), some (.val (bkD ms)), some (.val (.list (rs'.map rD))), some (.val (.tuple (Lb.map plD))), u7, some (.val (.str s)), some (.val W.toD), none, u11, u12, u13] = .exn 0 := by
    unfold b_f_meeting_2
    clear S1 S2 EC F1 hm hw h h2 hn how B
    generalize b_f_meeting_3 = b3 at *
    generalize msD ms = md at *
    generalize W.toD = bd at *
    walk_at "evn"
  have F2 : ex (callN T k) cs (.for (.name 8) .of (.cons (.var 2) .nil) b_f_meeting_2) [some (.val (msD ms)), some (.val w.toD), some (.val ow), some (.val (.tuple (two.map plD))), some (.val (bkD ms)), some (.val (.list ((two.map fun p => [p]).map rD))), some (.val (.tuple [])), some (.val right.toD), u8, some (.val w.toD), none, none, none, none] = .exn 0 := by
    rw [x_for_of _ _ _ ow (ps.map plD ++ .str s :: rest) (by
      clear S1 S2 X EC F1 hm hw h h2 hn how B
      walk_at "evn") (by rw [how]; rfl), S2, for_cons]
    show ((Res.ok _).bind _) = _
    rw [b_ok]
    show ((exs (callN T k) cs b_f_meeting_2 [some (.val (msD ms)), some (.val w.toD), some (.val ow), some (.val (.tuple (two.map plD))), some (.val (bkD ms)), some (.val (.list (rs'.map rD))), some (.val (.tuple (Lb.map plD))), u7, some (.val (.str s)), some (.val W.toD), none, u11, u12, u13]).bind _) = _
    rw [X]; rfl
  have f0 : fitsZ 0 = true := rfl
  rw [c_f_meeting]
  unfold b_f_meeting
  clear S1 S2 X hm hw h h2 hn how er e0
  generalize (MW.E.comp (.lst (.cons (.var 8) .nil)) (.name 8) .of (.cons (.var 3) .nil) .nil [("place", 8)]) = cm at *
  generalize b_f_meeting_1 = b1 at *
  generalize b_f_meeting_2 = b2 at *
  generalize b_f_meeting_4 = b4 at *
  generalize bkD ms = bd at *
  generalize msD ms = md at *
  generalize PyData.list ((two.map fun p => [p]).map rD) = r0 at *
  generalize PyData.tuple (two.map plD) = tD at *
  generalize w.toD = wd at *
  generalize right.toD = riD at *
  walk_at "evn"
theorem refused_of (k : Nat) (md wd a b : D) (h : callN T k i_f_meeting [md, wd, a, b] = .exn 0) : callN T (k + 1) i_l_refused [md, wd, a, b] = .ok (.bool true) := by
  have E : exs (callN T k) cs b_l_refused_1 [some (.val md), some (.val wd), some (.val a), some (.val b), some (.val (.bool false))] = .exn 0 := by
    unfold b_l_refused_1
    walk_at "ev"
  have X : ex (callN T k) cs (.try_ b_l_refused_1 0 4 .setT) [some (.val md), some (.val wd), some (.val a), some (.val b), some (.val (.bool false))] = .ok (.next [none, none, none, none, some (.val (.bool true))]) := by
    rw [x_try, E]; rfl
  rw [c_l_refused]
  unfold b_l_refused
  clear E h
  walk_at "evn"
theorem gone_loop (ms : List Mk) (hm : MsOk ms) (k : Nat) (hk : 100 ≤ k) (D Z : Nat) (hD : D ≤ 80) (hZ : Z ≤ 4000000) (s2 : Option Slot) : ∀ (L : List Pl) (w e : Wd) (s3 : Option Slot), w.All Sg → Way ms D Z w L e → ∃ s3', forL (bindG (.name 3)) (exs (callN T k) cs b_l_gone_1) (L.map plD) [some (.val (msD ms)), some (.val w.toD), s2, s3] = .ok (.next [some (.val (msD ms)), some (.val e.toD), s2, s3'])
  | [], w, e, s3, _, h => by cases h; exact ⟨s3, rfl⟩
  | p :: r, w, e, s3, hw, ⟨d, z, w', hst, h⟩ => by
    have hp := stp_len hst
    have pin : p ∈ lpl ms w := (mem_lpl ms hm w p).mpr ((mem_plcs ms w p).mpr (by rw [hst]; rfl))
    have PL : callN T k i_l_places [msD ms, w.toD] = .ok (.list ((lpl ms w).map plD)) := l_places_eq ms hm w k (by omega) (by omega) (by omega) hw
    have ST : callN T k i_l_step [msD ms, w.toD, plD p] = .ok w'.toD := l_step_eq ms hm w p w' k hst (by omega) (by omega) hw
    have IN : inD (plD p) (.list ((lpl ms w).map plD)) = .ok true := by
      have := (in_pls (lpl ms w) p (by omega) fun q hq => by have := plcs_dep ms w q ((mem_lpl ms hm w q).mp hq); omega).1
      rw [decide_eq_true pin] at this
      exact this
    obtain ⟨s3', ih⟩ := gone_loop ms hm k hk D Z hD hZ s2 r w' e (some (.val (plD p))) (stp_all hm.ok hw hst) h
    refine ⟨s3', ?_⟩
    rw [← ih, List.map_cons, for_cons]
    conv => lhs; unfold b_l_gone_1
    clear ih hm hw h hst pin
    generalize msD ms = md at *
    generalize w.toD = wd at *
    generalize w'.toD = wd' at *
    generalize PyData.list ((lpl ms w).map plD) = ld at *
    generalize plD p = pd at *
    walk_at "ev" <;> rfl
theorem gone_eq (ms : List Mk) (hm : MsOk ms) (k : Nat) (hk : 101 ≤ k) (D Z : Nat) (hD : D ≤ 80) (hZ : Z ≤ 4000000) (L : List Pl) (w e : Wd) (hw : w.All Sg) (h : Way ms D Z w L e) : callN T k i_l_gone [msD ms, w.toD, .tuple (L.map plD)] = .ok e.toD := by
  obtain ⟨k, rfl⟩ : ∃ i, k = i + 1 := ⟨k - 1, by omega⟩
  obtain ⟨s3', G⟩ := gone_loop ms hm k (by omega) D Z hD hZ (some (.val (.tuple (L.map plD)))) L w e none hw h
  have FR : ex (callN T k) cs (.for (.name 3) .of (.cons (.var 2) .nil) b_l_gone_1) [some (.val (msD ms)), some (.val w.toD), some (.val (.tuple (L.map plD))), none] = .ok (.next [some (.val (msD ms)), some (.val e.toD), some (.val (.tuple (L.map plD))), s3']) := by
    rw [x_for_of _ _ _ (.tuple (L.map plD)) (L.map plD) (by
      clear G hm hw h
      walk_at "evn") rfl]
    exact G
  rw [c_l_gone]
  unfold b_l_gone
  clear G hm hw h
  generalize b_l_gone_1 = b1 at *
  generalize msD ms = md at *
  generalize PyData.tuple (L.map plD) = ld at *
  walk_at "evn"
theorem way_loop (ms : List Mk) (hm : MsOk ms) (k : Nat) (hk : 100 ≤ k) (s2 : Option Slot) : ∀ (cs' : List Int) (w : Wd) (A : List Pl) (s4 s5 s6 : Option Slot), w.All Sg → w.dep + 2 * cs'.length ≤ 60 → w.size * 4 ^ cs'.length ≤ 1000000 → A.length + cs'.length ≤ 100 → ∃ ps e s4' s5' s6', forL (bindG (.name 4)) (exs (callN T k) cs b_l_way_1) (cs'.map .int) [some (.val (msD ms)), some (.val w.toD), s2, some (.val (.tuple (A.map plD))), s4, s5, s6] = .ok (.next [some (.val (msD ms)), some (.val e.toD), s2, some (.val (.tuple ((A ++ ps).map plD))), s4', s5', s6']) ∧ seqS ms w ps = some e ∧ ps.length ≤ cs'.length
  | [], w, A, s4, s5, s6, _, _, _, _ => ⟨[], w, s4, s5, s6, by rw [List.append_nil]; rfl, rfl, Nat.le_refl _⟩
  | c :: r, w, A, s4, s5, s6, hw, hd, hz, hl => by
    rw [List.length_cons] at hd hz hl
    rw [pow_split] at hz
    have zw : w.size * 4 ≤ 1000000 := Nat.le_trans (Nat.le_mul_of_pos_right _ (Nat.pow_pos (by decide))) hz
    have PL : callN T k i_l_places [msD ms, w.toD] = .ok (.list ((lpl ms w).map plD)) := l_places_eq ms hm w k (by omega) (by omega) (by omega) hw
    have ll := lpl_len ms w
    have LV := l_leaves_eq w k (by omega) (by omega)
    have LL : lenD (.list (w.lvs.map .str)) = .ok (.int (w.size : Nat)) := by rw [l_l, List.length_map, lvs_len]
    have stay : ∀ t5, exs (callN T k) cs b_l_way_1 [some (.val (msD ms)), some (.val w.toD), s2, some (.val (.tuple (A.map plD))), some (.val (.int c)), s5, s6] = .ok (.next [some (.val (msD ms)), some (.val w.toD), s2, some (.val (.tuple (A.map plD))), some (.val (.int c)), t5, s6]) → ∃ ps e s4' s5' s6', forL (bindG (.name 4)) (exs (callN T k) cs b_l_way_1) ((c :: r).map .int) [some (.val (msD ms)), some (.val w.toD), s2, some (.val (.tuple (A.map plD))), s4, s5, s6] = .ok (.next [some (.val (msD ms)), some (.val e.toD), s2, some (.val (.tuple ((A ++ ps).map plD))), s4', s5', s6']) ∧ seqS ms w ps = some e ∧ ps.length ≤ (c :: r).length := fun t5 X => by
      obtain ⟨ps, e, s4', s5', s6', ih, sq, lq⟩ := way_loop ms hm k hk s2 r w A (some (.val (.int c))) t5 s6 hw (by omega) (by
        have := Nat.mul_le_mul_right (4 ^ r.length) (show w.size ≤ w.size * 4 by omega)
        omega) (by omega)
      refine ⟨ps, e, s4', s5', s6', ?_, sq, by rw [List.length_cons]; omega⟩
      rw [← ih, List.map_cons, for_cons]
      show ((Res.ok _).bind _) = _
      rw [b_ok]
      show ((exs (callN T k) cs b_l_way_1 [some (.val (msD ms)), some (.val w.toD), s2, some (.val (.tuple (A.map plD))), some (.val (.int c)), s5, s6]).bind _) = _
      rw [X, b_ok, tk_n]
    by_cases h0 : lpl ms w = []
    · refine stay (some (.val (.list ((lpl ms w).map plD)))) ?_
      have TR : truD (.list ((lpl ms w).map plD)) = .ok false := by rw [h0]; rfl
      unfold b_l_way_1
      clear stay hm hw LV LL ll h0
      generalize PyData.list ((lpl ms w).map plD) = ld at *
      generalize msD ms = md at *
      generalize w.toD = wd at *
      walk_at "ev"
    · have TR : truD (.list ((lpl ms w).map plD)) = .ok true := by
        rw [tr_l]
        cases q : lpl ms w with
        | nil => exact absurd q h0
        | cons _ _ => rfl
      by_cases h30 : w.size ≤ 30
      · have lpos : 0 < (lpl ms w).length := List.length_pos_iff.mpr h0
        have dz : decide ((w.size : Int) ≤ 30) = true := decide_eq_true (by omega)
        have LN : lenD (.list ((lpl ms w).map plD)) = .ok (.int ((lpl ms w).length : Nat)) := by rw [l_l, List.length_map]
        have MX := mix_eq k c 9857 ((lpl ms w).length : Int) (by omega) (by decide) (by decide) (by omega)
        have m1 := mix_lo c 9857 ((lpl ms w).length : Int) (by omega)
        have m2 := mix_hi c 9857 ((lpl ms w).length : Int) (by omega)
        obtain ⟨j, hj⟩ := natOf m1
        have jl : j < (lpl ms w).length := by omega
        rw [hj] at MX
        have IX : itemD (.list ((lpl ms w).map plD)) (.int (j : Nat)) = .ok (plD (lpl ms w)[j]) := by
          rw [i_l]
          exact ixNat _ j _ (by rw [List.getElem?_map, List.getElem?_eq_getElem jl]; rfl)
        have pin : (lpl ms w)[j] ∈ plcs ms w := (mem_lpl ms hm w _).mp (List.getElem_mem jl)
        generalize (lpl ms w)[j] = p at *
        have lp := plcs_dep ms w p pin
        obtain ⟨w', hst⟩ : ∃ w', stp ms w p = some w' := by
          have := (mem_plcs ms w p).mp pin
          cases q : stp ms w p with
          | none => rw [q] at this; cases this
          | some w' => exact ⟨w', rfl⟩
        have ST : callN T k i_l_step [msD ms, w.toD, plD p] = .ok w'.toD := l_step_eq ms hm w p w' k hst (by omega) (by omega) hw
        have d' := stp_dep hm.ok hst
        have s' := stp_size hm.ok hst
        obtain ⟨ps, e, s4', s5', s6', ih, sq, lq⟩ := way_loop ms hm k hk s2 r w' (A ++ [p]) (some (.val (.int c))) (some (.val (.list ((lpl ms w).map plD)))) (some (.val (plD p))) (stp_all hm.ok hw hst) (by omega) (Nat.le_trans (Nat.mul_le_mul_right _ s') hz) (by rw [List.length_append, List.length_singleton]; omega)
        refine ⟨p :: ps, e, s4', s5', s6', ?_, ?_, by rw [List.length_cons, List.length_cons]; omega⟩
        · have X : exs (callN T k) cs b_l_way_1 [some (.val (msD ms)), some (.val w.toD), s2, some (.val (.tuple (A.map plD))), some (.val (.int c)), s5, s6] = .ok (.next [some (.val (msD ms)), some (.val w'.toD), s2, some (.val (.tuple ((A ++ [p]).map plD))), some (.val (.int c)), some (.val (.list ((lpl ms w).map plD))), some (.val (plD p))]) := by
            have AD := add_pls A [p] (by rw [List.length_singleton]; omega)
            have AD' : opD .Add (.tuple (A.map plD)) (.tuple [plD p]) = .ok (.tuple ((A ++ [p]).map plD)) := AD
            have f1 : fitsZ 1 = true := rfl
            unfold b_l_way_1
            clear stay ih sq lq hm hw ll h0 pin hst AD m1 m2 hj
            generalize PyData.list ((lpl ms w).map plD) = ld at *
            generalize PyData.tuple ((A ++ [p]).map plD) = t2 at *
            generalize PyData.tuple (A.map plD) = t1 at *
            generalize (lpl ms w).length = nn at *
            generalize msD ms = md at *
            generalize w.toD = wd at *
            generalize w'.toD = wd' at *
            generalize plD p = pd at *
            walk_at "ev"
          have e1 : A ++ p :: ps = A ++ [p] ++ ps := by rw [List.append_assoc]; rfl
          rw [e1, ← ih, List.map_cons, for_cons]
          show ((Res.ok _).bind _) = _
          rw [b_ok]
          show ((exs (callN T k) cs b_l_way_1 [some (.val (msD ms)), some (.val w.toD), s2, some (.val (.tuple (A.map plD))), some (.val (.int c)), s5, s6]).bind _) = _
          rw [X, b_ok, tk_n]
        · show (stp ms w p).bind (fun w' => seqS ms w' ps) = _
          rw [hst]
          exact sq
      · refine stay (some (.val (.list ((lpl ms w).map plD)))) ?_
        have dz : decide ((w.size : Int) ≤ 30) = false := decide_eq_false (by omega)
        unfold b_l_way_1
        clear stay hm hw ll h0
        generalize PyData.list ((lpl ms w).map plD) = ld at *
        generalize msD ms = md at *
        generalize w.toD = wd at *
        walk_at "ev"
theorem way_ex (ms : List Mk) (hm : MsOk ms) (k : Nat) (hk : 101 ≤ k) (cs' : List Int) (w : Wd) (hw : w.All Sg) (hs : w.size ≤ 10) (hl : cs'.length ≤ 3) : ∃ ps e, callN T k i_l_way [msD ms, w.toD, .list (cs'.map .int)] = .ok (.tuple [.tuple (ps.map plD), e.toD]) ∧ seqS ms w ps = some e ∧ ps.length ≤ 3 := by
  obtain ⟨k, rfl⟩ : ∃ i, k = i + 1 := ⟨k - 1, by omega⟩
  have dw := w.dep_lt
  have p3 : 4 ^ cs'.length ≤ 4 ^ 3 := Nat.pow_le_pow_right (by decide) (by omega)
  have z3 : w.size * 4 ^ cs'.length ≤ 10 * 4 ^ 3 := Nat.mul_le_mul hs p3
  obtain ⟨ps, e, s4', s5', s6', L, sq, lq⟩ := way_loop ms hm k (by omega) (some (.val (.list (cs'.map .int)))) cs' w [] none none none hw (by omega) (by omega) (by rw [List.length_nil]; omega)
  rw [List.nil_append] at L
  refine ⟨ps, e, ?_, sq, by omega⟩
  have FR : ex (callN T k) cs (.for (.name 4) .of (.cons (.var 2) .nil) b_l_way_1) [some (.val (msD ms)), some (.val w.toD), some (.val (.list (cs'.map .int))), some (.val (.tuple [])), none, none, none] = .ok (.next [some (.val (msD ms)), some (.val e.toD), some (.val (.list (cs'.map .int))), some (.val (.tuple (ps.map plD))), s4', s5', s6']) := by
    rw [x_for_of _ _ _ (.list (cs'.map .int)) (cs'.map .int) (by
      clear L hm hw sq
      walk_at "evn") rfl]
    exact L
  have f2 : fitsZ 2 = true := rfl
  have f0 : fitsZ 0 = true := rfl
  rw [c_l_way]
  unfold b_l_way
  clear L hm hw sq
  generalize b_l_way_1 = b1 at *
  generalize msD ms = md at *
  generalize PyData.tuple (ps.map plD) = pd at *
  generalize PyData.list (cs'.map .int) = cd at *
  walk_at "evn"

theorem cut_map {α β : Type} (f : α → β) (xs : List α) (lo hi : Option Int) : cutD (xs.map f) lo hi = (cutD xs lo hi).map f := by
  unfold cutD
  rw [List.length_map, List.map_take, List.map_drop]
theorem cut_len {α : Type} (xs : List α) (a b : Nat) (h : a ≤ b) : (cutD xs (some (a : Int)) (some (b : Int))).length ≤ b - a := by
  unfold cutD
  rw [HT.sIx_nat, HT.sIx_nat, List.length_take, List.length_drop]
  omega
def ffS : Str := ofL [102, 102, 102, 102, 102, 102, 102, 102, 102, 102, 102, 102, 102, 102, 102, 102, 102, 102, 102, 102, 102, 102, 102, 102, 102]
theorem ff_is : ffS = plS (List.replicate 25 true) := rfl
theorem ff_not {ms : List Mk} {w : Wd} (h : w.dep < 25) : ffS ∉ plsS ms w := fun q => by
  rw [ff_is, pls_has] at q
  have := plcs_dep ms w _ q
  rw [List.length_replicate] at this
  omega
theorem x_not {ms : List Mk} {w : Wd} : ofL [120] ∉ plsS ms w := fun q => by
  obtain ⟨p, _, e⟩ := pls_mem q
  have e := ofL_inj e
  match p, e with
  | [], e => cases e
  | true :: r, e => exact absurd (List.cons.inj e).1 (by decide)
  | false :: r, e => exact absurd (List.cons.inj e).1 (by decide)
theorem bad_turn (ms : List Mk) (hm : MsOk ms) (w left right : Wd) (one two : List Pl) (hw : w.All Al) (hs : w.size ≤ 9) (h1 : seqS ms w one = some left) (h2 : seqS ms w two = some right) (l1 : one.length ≤ 3) (l2 : two.length ≤ 3) (s0 s2 s3 s5 s7 s9 s10 s11 : Option Slot) : ∃ s5', ex (callN T 229) cs (.for (.name 5) .of (.cons (.lst (.cons (.bin .Add (.var 6) (.tup (.cons (.cst (.str ffS)) .nil))) (.cons (.bin .Add (.tup (.cons (.cst (.str (ofL [120]))) .nil)) (.var 8)) .nil))) .nil) b_f_law_2) [s0, some (.val (msD ms)), s2, s3, some (.val w.toD), s5, some (.val (.tuple (one.map plD))), s7, some (.val (.tuple (two.map plD))), s9, s10, s11] = .ok (.next [s0, some (.val (msD ms)), s2, s3, some (.val w.toD), s5', some (.val (.tuple (one.map plD))), s7, some (.val (.tuple (two.map plD))), s9, s10, s11]) := by
  have dw := w.dep_lt
  obtain ⟨aL, dL, zL⟩ := seq_okB hm one w left hw h1
  have of : PyData.strOk ffS = true := by rw [ff_is]; exact plS_ok _ (by decide)
  have ox : PyData.strOk (ofL [120]) = true := Sg.ok ⟨120, rfl, by decide, by decide⟩
  have R1 := refused_of 228 (msD ms) w.toD _ _ (meeting_exnW ms hm 228 (by decide) w left right two one ffS [] hw h1 h2 l1 l2 (by decide) (by omega) of (ff_not (by omega)))
  have R2 := refused_of 228 (msD ms) w.toD (.tuple (one.map plD)) _ (meeting_exnO ms hm 228 (by decide) w left (.tuple (one.map plD)) one ffS [] hw h1 l1 (by decide) (by omega) of (ff_not (by omega)))
  have R3 := refused_of 228 (msD ms) w.toD _ _ (meeting_exnW ms hm 228 (by decide) w w right two [] (ofL [120]) (two.map plD) hw rfl h2 (by decide) l2 (by rw [List.length_map]; omega) (by omega) ox x_not)
  have R4 := refused_of 228 (msD ms) w.toD (.tuple (one.map plD)) _ (meeting_exnO ms hm 228 (by decide) w w (.tuple (one.map plD)) [] (ofL [120]) (two.map plD) hw rfl (by decide) (by rw [List.length_map]; omega) (by omega) ox x_not)
  have R3' : callN T 229 i_l_refused [msD ms, w.toD, .tuple (.str (ofL [120]) :: two.map plD), .tuple (two.map plD)] = .ok (.bool true) := R3
  have R4' : callN T 229 i_l_refused [msD ms, w.toD, .tuple (one.map plD), .tuple (.str (ofL [120]) :: two.map plD)] = .ok (.bool true) := R4
  have A1 : opD .Add (.tuple (one.map plD)) (.tuple [.str ffS]) = .ok (.tuple (one.map plD ++ [.str ffS])) := by
    show need (fitsZ ((one.map plD).length + 1)) _ = _
    rw [List.length_map, fz _ (by omega)]; rfl
  have A2 : opD .Add (.tuple [.str (ofL [120])]) (.tuple (two.map plD)) = .ok (.tuple (.str (ofL [120]) :: two.map plD)) := by
    show need (fitsZ (1 + (two.map plD).length)) _ = _
    rw [List.length_map, fz _ (by omega)]; rfl
  have f1 : fitsZ 1 = true := rfl
  have f2 : fitsZ 2 = true := rfl
  refine ⟨some (.val (.tuple (.str (ofL [120]) :: two.map plD))), ?_⟩
  rw [x_for_of _ _ _ (.list [.tuple (one.map plD ++ [.str ffS]), .tuple (.str (ofL [120]) :: two.map plD)]) [.tuple (one.map plD ++ [.str ffS]), .tuple (.str (ofL [120]) :: two.map plD)] (by
    clear R1 R2 R3 R4 R3' R4' hm hw h1 h2
    generalize PyData.tuple (one.map plD ++ [.str ffS]) = t1 at *
    generalize PyData.tuple (.str (ofL [120]) :: two.map plD) = t2 at *
    generalize PyData.tuple (one.map plD) = t3 at *
    generalize PyData.tuple (two.map plD) = t4 at *
    generalize ffS = ff at *
    walk_at "evn") rfl]
  clear R3 R4 A1 A2 hm hw h1 h2
  generalize PyData.tuple (one.map plD ++ [.str ffS]) = t1 at *
  generalize PyData.tuple (.str (ofL [120]) :: two.map plD) = t2 at *
  generalize PyData.tuple (one.map plD) = t3 at *
  generalize PyData.tuple (two.map plD) = t4 at *
  generalize msD ms = md at *
  generalize w.toD = wd at *
  unfold b_f_law_2
  walk_at "evf" <;> rfl
theorem law_turn (ns : List Int) (h63 : ns.length ≤ 63) (ms : List Mk) (hm : MsOk ms) (kk : Nat) (hk3 : kk < 3) (s3 s4 s5 s6 s7 s8 s9 s10 s11 : Option Slot) : ∃ r' : List (Option Slot), r'.length = 9 ∧ exs (callN T 229) cs b_f_law_1 [some (.val (.list (ns.map .int))), some (.val (msD ms)), some (.val (.int (kk : Nat))), s3, s4, s5, s6, s7, s8, s9, s10, s11] = .ok (.next (some (.val (.list (ns.map .int))) :: some (.val (msD ms)) :: some (.val (.int (kk : Nat))) :: r')) := by
  have hi := hm.hi
  have C := cell_eq 229 ns (1 + kk) (by decide)
  have C' : callN T 229 i_l_cell [.list (ns.map .int), .int (1 + (kk : Int))] = .ok (.int (cellZ ns (1 + kk))) := by
    have e : ((1 + kk : Nat) : Int) = 1 + (kk : Int) := by omega
    rw [← e]
    exact C
  generalize cellZ ns (1 + kk) = c at *
  have X1 := mix_eq 229 c 9869 9 (by decide) (by decide) (by decide) (by decide)
  have b1 := mix_lo c 9869 9 (by decide)
  have b2 := mix_hi c 9869 9 (by decide)
  obtain ⟨n1, e1⟩ := natOf (show 0 ≤ 1 + mixZ c 9869 9 by omega)
  obtain ⟨w, W1, y1, a1⟩ := word_ex ms hm.lo (by omega) [97, 98] (by decide) n1 229 c (by omega) (by omega)
  have hw : w.All Al := a1.mono fun s h => by
    rcases h with h | ⟨x, hx, rfl⟩
    · obtain ⟨m, h1, rfl⟩ := List.mem_map.mp h
      obtain ⟨d, e, d1, d2⟩ := (hm.ok m h1).nm
      exact ⟨d, e, d1, by omega⟩
    · rcases List.mem_cons.mp hx with rfl | hx
      · exact ⟨97, rfl, by decide, by decide⟩
      · rw [List.mem_singleton.mp hx]
        exact ⟨98, rfl, by decide, by decide⟩
  have sg : w.All Sg := hw.mono fun s h => h.sg
  have c1 := Int.emod_nonneg c (show (4 : Int) ≠ 0 by decide)
  have c2 := Int.emod_lt_of_pos c (show (0 : Int) < 4 by decide)
  have c3 := Int.emod_nonneg (c / 4) (show (4 : Int) ≠ 0 by decide)
  have c4 := Int.emod_lt_of_pos (c / 4) (show (0 : Int) < 4 by decide)
  obtain ⟨q1, hq1⟩ := natOf c1
  obtain ⟨q2, hq2⟩ := natOf c3
  have S1 : sliceD (.list (ns.map .int)) (some (4 + 6 * (kk : Int))) (some (4 + 6 * (kk : Int) + c % 4)) = .ok (.list ((cutD ns (some ((4 + 6 * kk : Nat) : Int)) (some ((4 + 6 * kk + q1 : Nat) : Int))).map .int)) := by
    rw [sl_l, cut_map]
    congr 5 <;> omega
  have S2 : sliceD (.list (ns.map .int)) (some (7 + 6 * (kk : Int))) (some (7 + 6 * (kk : Int) + c / 4 % 4)) = .ok (.list ((cutD ns (some ((7 + 6 * kk : Nat) : Int)) (some ((7 + 6 * kk + q2 : Nat) : Int))).map .int)) := by
    rw [sl_l, cut_map]
    congr 5 <;> omega
  have k1 := cut_len ns (4 + 6 * kk) (4 + 6 * kk + q1) (by omega)
  have k2 := cut_len ns (7 + 6 * kk) (7 + 6 * kk + q2) (by omega)
  generalize cutD ns (some ((4 + 6 * kk : Nat) : Int)) (some ((4 + 6 * kk + q1 : Nat) : Int)) = cs1 at *
  generalize cutD ns (some ((7 + 6 * kk : Nat) : Int)) (some ((7 + 6 * kk + q2 : Nat) : Int)) = cs2 at *
  obtain ⟨one, left, Y1, sq1, l1⟩ := way_ex ms hm 229 (by decide) cs1 w sg (by omega) (by omega)
  obtain ⟨two, right, Y2, sq2, l2⟩ := way_ex ms hm 229 (by decide) cs2 w sg (by omega) (by omega)
  obtain ⟨aL, dL, zL⟩ := seq_okB hm one w left hw sq1
  obtain ⟨aR, dR, zR⟩ := seq_okB hm two w right hw sq2
  have p1 : 4 ^ one.length ≤ 4 ^ 3 := Nat.pow_le_pow_right (by decide) l1
  have p2 : 4 ^ two.length ≤ 4 ^ 3 := Nat.pow_le_pow_right (by decide) l2
  have zL' : left.size ≤ 9 * 4 ^ 3 := Nat.le_trans zL (Nat.mul_le_mul (by omega) p1)
  have zR' : right.size ≤ 9 * 4 ^ 3 := Nat.le_trans zR (Nat.mul_le_mul (by omega) p2)
  have dw := w.dep_lt
  have LV1 := l_leaves_eq left 229 (by omega) (by omega)
  have LV2 := l_leaves_eq right 229 (by omega) (by omega)
  have LL1 : lenD (.list (left.lvs.map .str)) = .ok (.int (left.size : Nat)) := by rw [l_l, List.length_map, lvs_len]
  have LL2 : lenD (.list (right.lvs.map .str)) = .ok (.int (right.size : Nat)) := by rw [l_l, List.length_map, lvs_len]
  obtain ⟨L, Lb, E, M, wL, wR⟩ := meeting_eq ms hm 229 (by decide) 42 400000 (Nat.le_refl _) (Nat.le_refl _) w left right one two hw sq1 sq2 l1 l2 (by omega)
  have sgL : left.All Sg := aL.mono fun s h => h.sg
  have sgR : right.All Sg := aR.mono fun s h => h.sg
  have G1 := gone_eq ms hm 229 (by decide) 42 400000 (by decide) (by decide) L left E sgL wL
  have G2 := gone_eq ms hm 229 (by decide) 42 400000 (by decide) (by decide) Lb right E sgR wR
  have way_end : ∀ {L : List Pl} {x e : Wd}, x.All Sg → x.dep ≤ 42 → Way ms 42 400000 x L e → e.All Sg ∧ e.dep ≤ 44 := fun {L} => by
    induction L with
    | nil => intro x e hx hd h; cases h; exact ⟨hx, by omega⟩
    | cons p r ih =>
      intro x e hx hd ⟨_, _, x', hst, h⟩
      cases r with
      | nil =>
        cases h
        have := stp_dep hm.ok hst
        exact ⟨stp_all hm.ok hx hst, by omega⟩
      | cons p2 r2 =>
        have h2 := h
        obtain ⟨d2, _⟩ := h2
        exact ih (stp_all hm.ok hx hst) d2 h
  obtain ⟨aE, dE⟩ := way_end sgL (by omega) wL
  have NE := ne_same aE (by omega)
  have NN := E.noneF
  obtain ⟨s5', BT⟩ := bad_turn ms hm w left right one two hw (by omega) sq1 sq2 l1 l2 (some (.val (.list (ns.map .int)))) (some (.val (.int (kk : Nat)))) (some (.val (.int c))) s5 (some (.val left.toD)) (some (.val right.toD)) s10 s11
  obtain ⟨t5', BT2⟩ := bad_turn ms hm w left right one two hw (by omega) sq1 sq2 l1 l2 (some (.val (.list (ns.map .int)))) (some (.val (.int (kk : Nat)))) (some (.val (.int c))) s5 (some (.val left.toD)) (some (.val right.toD)) (some (.val (.tuple [.tuple (L.map plD), .tuple (Lb.map plD)]))) (some (.val E.toD))
  have s6' : small64 6 = true := rfl
  have d4 : decide ((0 : Int) < 4) = true := rfl
  have d5 : decide ((4 : Int) < 1073741824) = true := rfl
  have d6 : decide ((4 : Nat) < 1073741824) = true := rfl
  have d22 : decide ((2 : Int) = 2) = true := rfl
  have ef : (ofL [102, 102, 102, 102, 102, 102, 102, 102, 102, 102, 102, 102, 102, 102, 102, 102, 102, 102, 102, 102, 102, 102, 102, 102, 102]) = ffS := rfl
  have M0 : itemD (.tuple [.tuple (L.map plD), .tuple (Lb.map plD)]) (.int 0) = .ok (.tuple (L.map plD)) := (i_t _ 0).trans (ix0 _ _)
  have M1 : itemD (.tuple [.tuple (L.map plD), .tuple (Lb.map plD)]) (.int 1) = .ok (.tuple (Lb.map plD)) := (i_t _ 1).trans (ix1 _ _ _)
  have ML : lenD (.tuple [.tuple (L.map plD), .tuple (Lb.map plD)]) = .ok (.int 2) := rfl
  by_cases h40 : left.size + right.size ≤ 40
  · have d40 : decide ((left.size : Int) + (right.size : Int) ≤ 40) = true := decide_eq_true (by omega)
    refine ⟨[some (.val (.int c)), some (.val w.toD), t5', some (.val (.tuple (one.map plD))), some (.val left.toD), some (.val (.tuple (two.map plD))), some (.val right.toD), some (.val (.tuple [.tuple (L.map plD), .tuple (Lb.map plD)])), some (.val E.toD)], rfl, ?_⟩
    unfold b_f_law_1
    rw [ef]
    clear BT hm hw sg sgL sgR a1 aL aR aE wL wR sq1 sq2 way_end C h40 zL zR zL' zR' p1 p2 k1 k2 hq1 hq2 c1 c2 c3 c4 b1 b2
    generalize b_f_law_2 = bl2 at *
    generalize ffS = ff at *
    generalize msD ms = md at *
    generalize w.toD = wd at *
    generalize left.toD = leD at *
    generalize right.toD = riD at *
    generalize E.toD = eD at *
    generalize PyData.tuple (one.map plD) = oD at *
    generalize PyData.tuple (two.map plD) = tD at *
    generalize PyData.tuple (L.map plD) = lD at *
    generalize PyData.tuple (Lb.map plD) = lbD at *
    walk_at "evn"
  · have d40 : decide ((left.size : Int) + (right.size : Int) ≤ 40) = false := decide_eq_false (by omega)
    refine ⟨[some (.val (.int c)), some (.val w.toD), s5', some (.val (.tuple (one.map plD))), some (.val left.toD), some (.val (.tuple (two.map plD))), some (.val right.toD), s10, s11], rfl, ?_⟩
    unfold b_f_law_1
    rw [ef]
    clear BT2 hm hw sg sgL sgR a1 aL aR aE wL wR sq1 sq2 way_end C h40 zL zR zL' zR' p1 p2 k1 k2 hq1 hq2 c1 c2 c3 c4 b1 b2
    generalize b_f_law_2 = bl2 at *
    generalize ffS = ff at *
    generalize msD ms = md at *
    generalize w.toD = wd at *
    generalize left.toD = leD at *
    generalize right.toD = riD at *
    generalize E.toD = eD at *
    generalize PyData.tuple (one.map plD) = oD at *
    generalize PyData.tuple (two.map plD) = tD at *
    walk_at "evn"
theorem law_true (ns : List Int) (h : ns.length ≤ 63) : callN T 230 i_f_law [.list (ns.map .int)] = .ok (.bool true) := by
  have C := cell_eq 229 ns 0 (by decide)
  have C' : callN T 229 i_l_cell [.list (ns.map .int), .int 0] = .ok (.int (cellZ ns 0)) := C
  obtain ⟨ms, M, hm⟩ := makers_ex 229 (cellZ ns 0) (by decide)
  obtain ⟨r', LP⟩ : ∃ r' : List (Option Slot), ex (callN T 229) cs (.for (.name 2) .range (.cons (.cst (.int 3)) .nil) b_f_law_1) [some (.val (.list (ns.map .int))), some (.val (msD ms)), none, none, none, none, none, none, none, none, none, none] = .ok (.next (some (.val (.list (ns.map .int))) :: some (.val (msD ms)) :: r')) := by
    have RN : iterD .range [.int 3] = .ok (([0, 1, 2] : List Nat).map fun i => PyData.int (i : Nat)) := rfl
    have EV : evs (callN T 229) cs (.cons (.cst (.int 3)) .nil) [some (.val (.list (ns.map .int))), some (.val (msD ms)), none, none, none, none, none, none, none, none, none, none] = .ok [.int 3] := rfl
    rw [x_for, EV, b_ok, RN, b_ok]
    obtain ⟨env', h1, r', l', rfl⟩ := for_inv (g := bindG (.name 2)) (b := exs (callN T 229) cs b_f_law_1) (fun env => ∃ r : List (Option Slot), r.length = 10 ∧ env = some (.val (.list (ns.map .int))) :: some (.val (msD ms)) :: r) (([0, 1, 2] : List Nat).map fun i => PyData.int (i : Nat)) (fun d hd env he => by
      obtain ⟨c, hc, rfl⟩ := List.mem_map.mp hd
      have c3 : c < 3 := by
        simp only [List.mem_cons, List.not_mem_nil, or_false] at hc
        omega
      obtain ⟨r, hr, rfl⟩ := he
      match r, hr with
      | [s2, s3, s4, s5, s6, s7, s8, s9, s10, s11], hr =>
        obtain ⟨r', l, e⟩ := law_turn ns h ms hm c c3 s3 s4 s5 s6 s7 s8 s9 s10 s11
        exact ⟨_, _, rfl, .inl e, some (.val (.int (c : Nat))) :: r', by rw [List.length_cons, l], rfl⟩) _ ⟨[none, none, none, none, none, none, none, none, none, none], rfl, rfl⟩
    exact ⟨r', h1⟩
  rw [c_f_law]
  unfold b_f_law
  clear hm C
  generalize b_f_law_1 = b1 at *
  generalize msD ms = md at *
  walk_at "evn"

theorem all_mk {l : PySem.W.OpenLaw} {w : World} {K : PySem.W.Frag} {h : Heap} {mg : Str → Option Value} {fa f0 f1 f2 f3 f4 f5 f6 f7 f8 f9 f10 f11 f12 f13 f14 f15 f16 f17 f18 f19 f20 f21 f22 f23 f24 f25 f26 f27 f28 f29 f30 f31 cc : Addr} (X : K.In h) (G : h.Ns mainGlobals mg) (hfa : mg "law" = some (.ref fa))
    {od0 an0 od1 an1 od2 an2 od3 an3 od4 an4 od5 an5 od6 an6 od7 an7 od8 an8 od9 an9 od10 an10 od11 an11 od12 an12 od13 an13 od14 an14 od15 an15 od16 an16 od17 an17 od18 an18 od19 an19 od20 an20 od21 an21 od22 an22 od23 an23 od24 an24 od25 an25 od26 an26 od27 an27 od28 an28 od29 an29 od30 an30 od31 an31 : Option Addr} {sl0 sl1 sl2 sl3 sl4 sl5 sl6 sl7 sl8 sl9 sl10 sl11 sl12 sl13 sl14 sl15 sl16 sl17 sl18 sl19 sl20 sl21 sl22 sl23 sl24 sl25 sl26 sl27 sl28 sl29 sl30 sl31 : Array (Option Value)} {oc0 kV0 dc0 pm0 ct0 cd0 oc1 kV1 dc1 pm1 ct1 cd1 oc2 kV2 dc2 pm2 ct2 cd2 oc3 kV3 dc3 pm3 ct3 cd3 oc4 kV4 dc4 pm4 ct4 cd4 oc5 kV5 dc5 pm5 ct5 cd5 oc6 kV6 dc6 pm6 ct6 cd6 oc7 kV7 dc7 pm7 ct7 cd7 oc8 kV8 dc8 pm8 ct8 cd8 oc9 kV9 dc9 pm9 ct9 cd9 oc10 kV10 dc10 pm10 ct10 cd10 oc11 kV11 dc11 pm11 ct11 cd11 oc12 kV12 dc12 pm12 ct12 cd12 oc13 kV13 dc13 pm13 ct13 cd13 oc14 kV14 dc14 pm14 ct14 oc15 kV15 dc15 pm15 ct15 cd15 oc16 kV16 dc16 pm16 ct16 cd16 oc17 kV17 dc17 pm17 ct17 cd17 oc18 kV18 dc18 pm18 ct18 cd18 oc19 kV19 dc19 pm19 ct19 cd19 oc20 kV20 dc20 pm20 ct20 cd20 oc21 kV21 dc21 pm21 ct21 cd21 oc22 kV22 dc22 pm22 ct22 cd22 oc23 kV23 dc23 pm23 ct23 cd23 oc24 kV24 dc24 pm24 ct24 cd24 oc25 kV25 dc25 pm25 ct25 cd25 oc26 kV26 dc26 pm26 ct26 cd26 oc27 kV27 dc27 pm27 ct27 cd27 oc28 kV28 dc28 pm28 ct28 cd28 oc29 kV29 dc29 pm29 ct29 cd29 oc30 kV30 dc30 pm30 ct30 cd30 oc31 kV31 dc31 pm31 ct31 cd31 : Value}
    (a0 : PySem.W.nsIn K mainGlobals "book_of" = some (some (.ref f0))) (l0 : K.lookup f0 = some ⟨oc0, od0, .func (PySem.W.fnOf "book_of" "book_of" (defArgs (topS 4)) (defBody (topS 4)) (defScope (topS 4)) .none kV0 dc0 pm0 an0 cd0 ct0), sl0⟩) (c0 : PySem.W.codeIn K cd0 "book_of" = true) (k0 : PySem.W.keepIn K (.ref f0) = true)
    (a1 : PySem.W.nsIn K mainGlobals "spine" = some (some (.ref f1))) (l1 : K.lookup f1 = some ⟨oc1, od1, .func (PySem.W.fnOf "spine" "spine" (defArgs (topS 5)) (defBody (topS 5)) (defScope (topS 5)) .none kV1 dc1 pm1 an1 cd1 ct1), sl1⟩) (c1 : PySem.W.codeIn K cd1 "spine" = true) (k1 : PySem.W.keepIn K (.ref f1) = true)
    (a2 : PySem.W.nsIn K mainGlobals "done" = some (some (.ref f2))) (l2 : K.lookup f2 = some ⟨oc2, od2, .func (PySem.W.fnOf "done" "done" (defArgs (topS 6)) (defBody (topS 6)) (defScope (topS 6)) .none kV2 dc2 pm2 an2 cd2 ct2), sl2⟩) (c2 : PySem.W.codeIn K cd2 "done" = true) (k2 : PySem.W.keepIn K (.ref f2) = true)
    (a3 : PySem.W.nsIn K mainGlobals "can_act" = some (some (.ref f3))) (l3 : K.lookup f3 = some ⟨oc3, od3, .func (PySem.W.fnOf "can_act" "can_act" (defArgs (topS 8)) (defBody (topS 8)) (defScope (topS 8)) .none kV3 dc3 pm3 an3 cd3 ct3), sl3⟩) (c3 : PySem.W.codeIn K cd3 "can_act" = true) (k3 : PySem.W.keepIn K (.ref f3) = true)
    (a4 : PySem.W.nsIn K mainGlobals "acted" = some (some (.ref f4))) (l4 : K.lookup f4 = some ⟨oc4, od4, .func (PySem.W.fnOf "acted" "acted" (defArgs (topS 9)) (defBody (topS 9)) (defScope (topS 9)) .none kV4 dc4 pm4 an4 cd4 ct4), sl4⟩) (c4 : PySem.W.codeIn K cd4 "acted" = true) (k4 : PySem.W.keepIn K (.ref f4) = true)
    (a5 : PySem.W.nsIn K mainGlobals "places_in" = some (some (.ref f5))) (l5 : K.lookup f5 = some ⟨oc5, od5, .func (PySem.W.fnOf "places_in" "places_in" (defArgs (topS 10)) (defBody (topS 10)) (defScope (topS 10)) .none kV5 dc5 pm5 an5 cd5 ct5), sl5⟩) (c5 : PySem.W.codeIn K cd5 "places_in" = true) (k5 : PySem.W.keepIn K (.ref f5) = true)
    (a6 : PySem.W.nsIn K mainGlobals "places" = some (some (.ref f6))) (l6 : K.lookup f6 = some ⟨oc6, od6, .func (PySem.W.fnOf "places" "places" (defArgs (topS 11)) (defBody (topS 11)) (defScope (topS 11)) .none kV6 dc6 pm6 an6 cd6 ct6), sl6⟩) (c6 : PySem.W.codeIn K cd6 "places" = true) (k6 : PySem.W.keepIn K (.ref f6) = true)
    (a7 : PySem.W.nsIn K mainGlobals "step_in" = some (some (.ref f7))) (l7 : K.lookup f7 = some ⟨oc7, od7, .func (PySem.W.fnOf "step_in" "step_in" (defArgs (topS 12)) (defBody (topS 12)) (defScope (topS 12)) .none kV7 dc7 pm7 an7 cd7 ct7), sl7⟩) (c7 : PySem.W.codeIn K cd7 "step_in" = true) (k7 : PySem.W.keepIn K (.ref f7) = true)
    (a8 : PySem.W.nsIn K mainGlobals "step" = some (some (.ref f8))) (l8 : K.lookup f8 = some ⟨oc8, od8, .func (PySem.W.fnOf "step" "step" (defArgs (topS 13)) (defBody (topS 13)) (defScope (topS 13)) .none kV8 dc8 pm8 an8 cd8 ct8), sl8⟩) (c8 : PySem.W.codeIn K cd8 "step" = true) (k8 : PySem.W.keepIn K (.ref f8) = true)
    (a9 : PySem.W.nsIn K mainGlobals "under" = some (some (.ref f9))) (l9 : K.lookup f9 = some ⟨oc9, od9, .func (PySem.W.fnOf "under" "under" (defArgs (topS 15)) (defBody (topS 15)) (defScope (topS 15)) .none kV9 dc9 pm9 an9 cd9 ct9), sl9⟩) (c9 : PySem.W.codeIn K cd9 "under" = true) (k9 : PySem.W.keepIn K (.ref f9) = true)
    (a10 : PySem.W.nsIn K mainGlobals "all_done" = some (some (.ref f10))) (l10 : K.lookup f10 = some ⟨oc10, od10, .func (PySem.W.fnOf "all_done" "all_done" (defArgs (topS 16)) (defBody (topS 16)) (defScope (topS 16)) .none kV10 dc10 pm10 an10 cd10 ct10), sl10⟩) (c10 : PySem.W.codeIn K cd10 "all_done" = true) (k10 : PySem.W.keepIn K (.ref f10) = true)
    (a11 : PySem.W.nsIn K mainGlobals "marked" = some (some (.ref f11))) (l11 : K.lookup f11 = some ⟨oc11, od11, .func (PySem.W.fnOf "marked" "marked" (defArgs (topS 17)) (defBody (topS 17)) (defScope (topS 17)) .none kV11 dc11 pm11 an11 cd11 ct11), sl11⟩) (c11 : PySem.W.codeIn K cd11 "marked" = true) (k11 : PySem.W.keepIn K (.ref f11) = true)
    (a12 : PySem.W.nsIn K mainGlobals "marked_places" = some (some (.ref f12))) (l12 : K.lookup f12 = some ⟨oc12, od12, .func (PySem.W.fnOf "marked_places" "marked_places" (defArgs (topS 18)) (defBody (topS 18)) (defScope (topS 18)) .none kV12 dc12 pm12 an12 cd12 ct12), sl12⟩) (c12 : PySem.W.codeIn K cd12 "marked_places" = true) (k12 : PySem.W.keepIn K (.ref f12) = true)
    (a13 : PySem.W.nsIn K mainGlobals "left_of" = some (some (.ref f13))) (l13 : K.lookup f13 = some ⟨oc13, od13, .func (PySem.W.fnOf "left_of" "left_of" (defArgs (topS 19)) (defBody (topS 19)) (defScope (topS 19)) .none kV13 dc13 pm13 an13 cd13 ct13), sl13⟩) (c13 : PySem.W.codeIn K cd13 "left_of" = true) (k13 : PySem.W.keepIn K (.ref f13) = true)
    (a14 : PySem.W.nsIn K mainGlobals "by_depth" = some (some (.ref f14))) (l14 : K.lookup f14 = some ⟨oc14, od14, .func (PySem.W.fnOf "by_depth" "by_depth" (defArgs (topS 20)) (defBody (topS 20)) (defScope (topS 20)) .none kV14 dc14 pm14 an14 (.ref cc) ct14), sl14⟩) (c14 : PySem.W.codeIn K (.ref cc) "by_depth" = true) (k14 : PySem.W.keepIn K (.ref f14) = true)
    (a15 : PySem.W.nsIn K mainGlobals "meeting" = some (some (.ref f15))) (l15 : K.lookup f15 = some ⟨oc15, od15, .func (PySem.W.fnOf "meeting" "meeting" (defArgs (topS 21)) (defBody (topS 21)) (defScope (topS 21)) .none kV15 dc15 pm15 an15 cd15 ct15), sl15⟩) (c15 : PySem.W.codeIn K cd15 "meeting" = true) (k15 : PySem.W.keepIn K (.ref f15) = true)
    (a16 : PySem.W.nsIn K mainGlobals "_law_cell" = some (some (.ref f16))) (l16 : K.lookup f16 = some ⟨oc16, od16, .func (PySem.W.fnOf "_law_cell" "_law_cell" (defArgs (topS 23)) (defBody (topS 23)) (defScope (topS 23)) .none kV16 dc16 pm16 an16 cd16 ct16), sl16⟩) (c16 : PySem.W.codeIn K cd16 "_law_cell" = true) (k16 : PySem.W.keepIn K (.ref f16) = true)
    (a17 : PySem.W.nsIn K mainGlobals "_law_mix" = some (some (.ref f17))) (l17 : K.lookup f17 = some ⟨oc17, od17, .func (PySem.W.fnOf "_law_mix" "_law_mix" (defArgs (topS 24)) (defBody (topS 24)) (defScope (topS 24)) .none kV17 dc17 pm17 an17 cd17 ct17), sl17⟩) (c17 : PySem.W.codeIn K cd17 "_law_mix" = true) (k17 : PySem.W.keepIn K (.ref f17) = true)
    (a18 : PySem.W.nsIn K mainGlobals "_law_deed" = some (some (.ref f18))) (l18 : K.lookup f18 = some ⟨oc18, od18, .func (PySem.W.fnOf "_law_deed" "_law_deed" (defArgs (topS 25)) (defBody (topS 25)) (defScope (topS 25)) .none kV18 dc18 pm18 an18 cd18 ct18), sl18⟩) (c18 : PySem.W.codeIn K cd18 "_law_deed" = true) (k18 : PySem.W.keepIn K (.ref f18) = true)
    (a19 : PySem.W.nsIn K mainGlobals "_law_known" = some (some (.ref f19))) (l19 : K.lookup f19 = some ⟨oc19, od19, .func (PySem.W.fnOf "_law_known" "_law_known" (defArgs (topS 26)) (defBody (topS 26)) (defScope (topS 26)) .none kV19 dc19 pm19 an19 cd19 ct19), sl19⟩) (c19 : PySem.W.codeIn K cd19 "_law_known" = true) (k19 : PySem.W.keepIn K (.ref f19) = true)
    (a20 : PySem.W.nsIn K mainGlobals "_law_makers" = some (some (.ref f20))) (l20 : K.lookup f20 = some ⟨oc20, od20, .func (PySem.W.fnOf "_law_makers" "_law_makers" (defArgs (topS 27)) (defBody (topS 27)) (defScope (topS 27)) .none kV20 dc20 pm20 an20 cd20 ct20), sl20⟩) (c20 : PySem.W.codeIn K cd20 "_law_makers" = true) (k20 : PySem.W.keepIn K (.ref f20) = true)
    (a21 : PySem.W.nsIn K mainGlobals "_law_word" = some (some (.ref f21))) (l21 : K.lookup f21 = some ⟨oc21, od21, .func (PySem.W.fnOf "_law_word" "_law_word" (defArgs (topS 28)) (defBody (topS 28)) (defScope (topS 28)) .none kV21 dc21 pm21 an21 cd21 ct21), sl21⟩) (c21 : PySem.W.codeIn K cd21 "_law_word" = true) (k21 : PySem.W.keepIn K (.ref f21) = true)
    (a22 : PySem.W.nsIn K mainGlobals "_law_spine" = some (some (.ref f22))) (l22 : K.lookup f22 = some ⟨oc22, od22, .func (PySem.W.fnOf "_law_spine" "_law_spine" (defArgs (topS 29)) (defBody (topS 29)) (defScope (topS 29)) .none kV22 dc22 pm22 an22 cd22 ct22), sl22⟩) (c22 : PySem.W.codeIn K cd22 "_law_spine" = true) (k22 : PySem.W.keepIn K (.ref f22) = true)
    (a23 : PySem.W.nsIn K mainGlobals "_law_done" = some (some (.ref f23))) (l23 : K.lookup f23 = some ⟨oc23, od23, .func (PySem.W.fnOf "_law_done" "_law_done" (defArgs (topS 30)) (defBody (topS 30)) (defScope (topS 30)) .none kV23 dc23 pm23 an23 cd23 ct23), sl23⟩) (c23 : PySem.W.codeIn K cd23 "_law_done" = true) (k23 : PySem.W.keepIn K (.ref f23) = true)
    (a24 : PySem.W.nsIn K mainGlobals "_law_act" = some (some (.ref f24))) (l24 : K.lookup f24 = some ⟨oc24, od24, .func (PySem.W.fnOf "_law_act" "_law_act" (defArgs (topS 31)) (defBody (topS 31)) (defScope (topS 31)) .none kV24 dc24 pm24 an24 cd24 ct24), sl24⟩) (c24 : PySem.W.codeIn K cd24 "_law_act" = true) (k24 : PySem.W.keepIn K (.ref f24) = true)
    (a25 : PySem.W.nsIn K mainGlobals "_law_places" = some (some (.ref f25))) (l25 : K.lookup f25 = some ⟨oc25, od25, .func (PySem.W.fnOf "_law_places" "_law_places" (defArgs (topS 32)) (defBody (topS 32)) (defScope (topS 32)) .none kV25 dc25 pm25 an25 cd25 ct25), sl25⟩) (c25 : PySem.W.codeIn K cd25 "_law_places" = true) (k25 : PySem.W.keepIn K (.ref f25) = true)
    (a26 : PySem.W.nsIn K mainGlobals "_law_step" = some (some (.ref f26))) (l26 : K.lookup f26 = some ⟨oc26, od26, .func (PySem.W.fnOf "_law_step" "_law_step" (defArgs (topS 33)) (defBody (topS 33)) (defScope (topS 33)) .none kV26 dc26 pm26 an26 cd26 ct26), sl26⟩) (c26 : PySem.W.codeIn K cd26 "_law_step" = true) (k26 : PySem.W.keepIn K (.ref f26) = true)
    (a27 : PySem.W.nsIn K mainGlobals "_law_leaves" = some (some (.ref f27))) (l27 : K.lookup f27 = some ⟨oc27, od27, .func (PySem.W.fnOf "_law_leaves" "_law_leaves" (defArgs (topS 34)) (defBody (topS 34)) (defScope (topS 34)) .none kV27 dc27 pm27 an27 cd27 ct27), sl27⟩) (c27 : PySem.W.codeIn K cd27 "_law_leaves" = true) (k27 : PySem.W.keepIn K (.ref f27) = true)
    (a28 : PySem.W.nsIn K mainGlobals "_law_way" = some (some (.ref f28))) (l28 : K.lookup f28 = some ⟨oc28, od28, .func (PySem.W.fnOf "_law_way" "_law_way" (defArgs (topS 35)) (defBody (topS 35)) (defScope (topS 35)) .none kV28 dc28 pm28 an28 cd28 ct28), sl28⟩) (c28 : PySem.W.codeIn K cd28 "_law_way" = true) (k28 : PySem.W.keepIn K (.ref f28) = true)
    (a29 : PySem.W.nsIn K mainGlobals "_law_gone" = some (some (.ref f29))) (l29 : K.lookup f29 = some ⟨oc29, od29, .func (PySem.W.fnOf "_law_gone" "_law_gone" (defArgs (topS 36)) (defBody (topS 36)) (defScope (topS 36)) .none kV29 dc29 pm29 an29 cd29 ct29), sl29⟩) (c29 : PySem.W.codeIn K cd29 "_law_gone" = true) (k29 : PySem.W.keepIn K (.ref f29) = true)
    (a30 : PySem.W.nsIn K mainGlobals "_law_refused" = some (some (.ref f30))) (l30 : K.lookup f30 = some ⟨oc30, od30, .func (PySem.W.fnOf "_law_refused" "_law_refused" (defArgs (topS 37)) (defBody (topS 37)) (defScope (topS 37)) .none kV30 dc30 pm30 an30 cd30 ct30), sl30⟩) (c30 : PySem.W.codeIn K cd30 "_law_refused" = true) (k30 : PySem.W.keepIn K (.ref f30) = true)
    (a31 : PySem.W.nsIn K mainGlobals "law" = some (some (.ref f31))) (l31 : K.lookup f31 = some ⟨oc31, od31, .func (PySem.W.fnOf "law" "law" (defArgs (topS 38)) (defBody (topS 38)) (defScope (topS 38)) .none kV31 dc31 pm31 an31 cd31 ct31), sl31⟩) (c31 : PySem.W.codeIn K cd31 "law" = true) (k31 : PySem.W.keepIn K (.ref f31) = true)
    (z0 : PySem.W.nsIn K mainGlobals "len" = some none) (z1 : PySem.W.nsIn K mainGlobals "min" = some none) (z2 : PySem.W.nsIn K mainGlobals "max" = some none) (z3 : PySem.W.nsIn K mainGlobals "all" = some none) (z4 : PySem.W.nsIn K mainGlobals "tuple" = some none) (z5 : PySem.W.nsIn K mainGlobals "list" = some none) (z6 : PySem.W.nsIn K mainGlobals "int" = some none) (z7 : PySem.W.nsIn K mainGlobals "sorted" = some none) (z8 : PySem.W.nsIn K mainGlobals "isinstance" = some none) (z9 : PySem.W.nsIn K mainGlobals "bool" = some none) (z10 : PySem.W.nsIn K mainGlobals "str" = some none) (z11 : PySem.W.nsIn K mainGlobals "range" = some none) (z12 : PySem.W.nsIn K mainGlobals "enumerate" = some none) (z13 : PySem.W.nsIn K mainGlobals "reversed" = some none) (z14 : PySem.W.nsIn K mainGlobals "set" = some none)
    {PP : Addr} (tt : h.get? PP = some { cls := .none, data := .fields #[] }) (tn : K.lookup PP = none) (tc : PySem.W.codeHdIn K cc PP = true)
    {ew e0 : Addr} (yg0 : PySem.W.nsIn K mainGlobals "NoStep" = some (some (.ref e0))) (yx0 : PySem.W.excIn K e0 [.type "ValueError", .type "Exception", .type "BaseException", .type "object"] "ValueError.__new__" = true) (yk0 : PySem.W.keepIn K (.ref e0) = true) (yb0 : PySem.W.subIn K (.ref e0) (.type "BaseException") = some true) (yt0 : PySem.W.typeIn K (.ref e0) = some (.type "type")) (yd0 : PySem.W.hasDictIn K e0 = true) (yh0 : PySem.W.findIn K (.ref e0) "__getattribute__" = some (some (.builtin "BaseException.__getattribute__"))) (yj0 : PySem.W.findIn K (.ref e0) "__getattr__" = some none) (ya0 : PySem.W.findIn K (.ref e0) "__class__" = some (some (.builtin "object.__class__"))) (ym0 : PySem.W.mroIn K e0 (.type "object") = some true) (ys0 : PySem.W.subIn K (.ref e0) (.ref e0) = some true) (yv0 : PySem.W.kitOne K (.ref e0) (.type "ValueError") = some true) (ywg : PySem.W.nsIn K mainGlobals "WordError" = some (some (.ref ew))) (ywb : PySem.W.subIn K (.ref ew) (.type "BaseException") = some true) (ywt : PySem.W.typeIn K (.ref ew) = some (.type "type")) (ywd : PySem.W.hasDictIn K ew = true) (yw0 : PySem.W.subIn K (.ref e0) (.ref ew) = some true) (yen : PySem.W.specialIn K (.builtin "object.__class__") "__get__" = some (some (.builtin "getset_descriptor.__get__"))) (yeo : PySem.W.takesIn K (.builtin "object.__class__") = some true) (yz : PySem.W.nsIn K mainGlobals "ValueError" = some none)
    : LamX.LawAtS l w K (L2.CX l.prog w) 230 63 "script" mg fa h := by
  have e := hfa.symm.trans (PySem.W.mg_of X G a31)
  cases e
  have F0 := fun_mk (st := topS 4) l0 c0 k0
  have b0 := F0.binds (ps := ["makers"]) fun _ _ _ _ _ _ us hl => match us, hl with | [_], _ => rfl
  have F1 := fun_mk (st := topS 5) l1 c1 k1
  have b1 := F1.binds (ps := ["word"]) fun _ _ _ _ _ _ us hl => match us, hl with | [_], _ => rfl
  have F2 := fun_mk (st := topS 6) l2 c2 k2
  have b2 := F2.binds (ps := ["deed", "behind"]) fun _ _ _ _ _ _ us hl => match us, hl with | [_, _], _ => rfl
  have F3 := fun_mk (st := topS 8) l3 c3 k3
  have b3 := F3.binds (ps := ["book", "word"]) fun _ _ _ _ _ _ us hl => match us, hl with | [_, _], _ => rfl
  have F4 := fun_mk (st := topS 9) l4 c4 k4
  have b4 := F4.binds (ps := ["book", "word"]) fun _ _ _ _ _ _ us hl => match us, hl with | [_, _], _ => rfl
  have F5 := fun_mk (st := topS 10) l5 c5 k5
  have b5 := F5.binds (ps := ["book", "word", "place"]) fun _ _ _ _ _ _ us hl => match us, hl with | [_, _, _], _ => rfl
  have F6 := fun_mk (st := topS 11) l6 c6 k6
  have b6 := F6.binds (ps := ["makers", "word"]) fun _ _ _ _ _ _ us hl => match us, hl with | [_, _], _ => rfl
  have F7 := fun_mk (st := topS 12) l7 c7 k7
  have b7 := F7.binds (ps := ["book", "word", "place"]) fun _ _ _ _ _ _ us hl => match us, hl with | [_, _, _], _ => rfl
  have F8 := fun_mk (st := topS 13) l8 c8 k8
  have b8 := F8.binds (ps := ["makers", "word", "place"]) fun _ _ _ _ _ _ us hl => match us, hl with | [_, _, _], _ => rfl
  have F9 := fun_mk (st := topS 15) l9 c9 k9
  have b9 := F9.binds (ps := ["some", "sign"]) fun _ _ _ _ _ _ us hl => match us, hl with | [_, _], _ => rfl
  have F10 := fun_mk (st := topS 16) l10 c10 k10
  have b10 := F10.binds (ps := ["book", "word", "some"]) fun _ _ _ _ _ _ us hl => match us, hl with | [_, _, _], _ => rfl
  have F11 := fun_mk (st := topS 17) l11 c11 k11
  have b11 := F11.binds (ps := ["book", "word", "place"]) fun _ _ _ _ _ _ us hl => match us, hl with | [_, _, _], _ => rfl
  have F12 := fun_mk (st := topS 18) l12 c12 k12
  have b12 := F12.binds (ps := ["book", "word", "place"]) fun _ _ _ _ _ _ us hl => match us, hl with | [_, _, _], _ => rfl
  have F13 := fun_mk (st := topS 19) l13 c13 k13
  have b13 := F13.binds (ps := ["book", "word", "some", "others"]) fun _ _ _ _ _ _ us hl => match us, hl with | [_, _, _, _], _ => rfl
  have F14 := fun_mk (st := topS 20) l14 c14 k14
  have b14 := F14.binds (ps := ["some"]) fun _ _ _ _ _ _ us hl => match us, hl with | [_], _ => rfl
  have F15 := fun_mk (st := topS 21) l15 c15 k15
  have b15 := F15.binds (ps := ["makers", "word", "way", "other"]) fun _ _ _ _ _ _ us hl => match us, hl with | [_, _, _, _], _ => rfl
  have F16 := fun_mk (st := topS 23) l16 c16 k16
  have b16 := F16.binds (ps := ["script", "k"]) fun _ _ _ _ _ _ us hl => match us, hl with | [_, _], _ => rfl
  have F17 := fun_mk (st := topS 24) l17 c17 k17
  have b17 := F17.binds (ps := ["cell", "prime", "many"]) fun _ _ _ _ _ _ us hl => match us, hl with | [_, _, _], _ => rfl
  have F18 := fun_mk (st := topS 25) l18 c18 k18
  have b18 := F18.binds (ps := ["cell", "many", "size"]) fun _ _ _ _ _ _ us hl => match us, hl with | [_, _, _], _ => rfl
  have F19 := fun_mk (st := topS 26) l19 c19 k19
  have b19 := F19.binds (ps := ["k"]) fun _ _ _ _ _ _ us hl => match us, hl with | [_], _ => rfl
  have F20 := fun_mk (st := topS 27) l20 c20 k20
  have b20 := F20.binds (ps := ["cell"]) fun _ _ _ _ _ _ us hl => match us, hl with | [_], _ => rfl
  have F21 := fun_mk (st := topS 28) l21 c21 k21
  have b21 := F21.binds (ps := ["cell", "makers", "size", "letters"]) fun _ _ _ _ _ _ us hl => match us, hl with | [_, _, _, _], _ => rfl
  have F22 := fun_mk (st := topS 29) l22 c22 k22
  have b22 := F22.binds (ps := ["word"]) fun _ _ _ _ _ _ us hl => match us, hl with | [_], _ => rfl
  have F23 := fun_mk (st := topS 30) l23 c23 k23
  have b23 := F23.binds (ps := ["deed", "behind"]) fun _ _ _ _ _ _ us hl => match us, hl with | [_, _], _ => rfl
  have F24 := fun_mk (st := topS 31) l24 c24 k24
  have b24 := F24.binds (ps := ["makers", "word"]) fun _ _ _ _ _ _ us hl => match us, hl with | [_, _], _ => rfl
  have F25 := fun_mk (st := topS 32) l25 c25 k25
  have b25 := F25.binds (ps := ["makers", "word"]) fun _ _ _ _ _ _ us hl => match us, hl with | [_, _], _ => rfl
  have F26 := fun_mk (st := topS 33) l26 c26 k26
  have b26 := F26.binds (ps := ["makers", "word", "place"]) fun _ _ _ _ _ _ us hl => match us, hl with | [_, _, _], _ => rfl
  have F27 := fun_mk (st := topS 34) l27 c27 k27
  have b27 := F27.binds (ps := ["word"]) fun _ _ _ _ _ _ us hl => match us, hl with | [_], _ => rfl
  have F28 := fun_mk (st := topS 35) l28 c28 k28
  have b28 := F28.binds (ps := ["makers", "word", "cells"]) fun _ _ _ _ _ _ us hl => match us, hl with | [_, _, _], _ => rfl
  have F29 := fun_mk (st := topS 36) l29 c29 k29
  have b29 := F29.binds (ps := ["makers", "word", "way"]) fun _ _ _ _ _ _ us hl => match us, hl with | [_, _, _], _ => rfl
  have F30 := fun_mk (st := topS 37) l30 c30 k30
  have b30 := F30.binds (ps := ["makers", "word", "way", "other"]) fun _ _ _ _ _ _ us hl => match us, hl with | [_, _, _, _], _ => rfl
  have F31 := fun_mk (st := topS 38) l31 c31 k31
  have b31 := F31.binds (ps := ["script"]) fun _ _ _ _ _ _ us hl => match us, hl with | [_], _ => rfl
  letI lamI : Lam := ⟨"by_depth.<locals>.<lambda>", PP, true⟩
  refine ⟨PySem.W.fnOf "law" "law" (defArgs (topS 38)) (defBody (topS 38)) (defScope (topS 38)) .none kV31 dc31 pm31 an31 cd31 ct31, [(cc, PP)], spL K 1 (callN (semT tbl cs) 230 i_f_law), fun p hp => ?_, fun p hp => ?_, fun p hp => ?_, fun s v => .of_eq rfl, fun H a ns hl _ hT hS cA => law_sp (law_true ns hl) hS (fun _ => ⟨#[], hT _ List.mem_cons_self, True.intro, fun pos cv hc => ?_⟩), fun base _ _ hTB => ?_⟩
  · rw [List.mem_singleton.mp hp]; exact tt
  · rw [List.mem_singleton.mp hp]; exact tn
  · rw [List.mem_singleton.mp hp]; exact PySem.W.codeHd_of_K X tc
  · simp [codeAmong] at hc
  have hD : ∀ (i : Nat) (d : Def), tbl[i]? = some d → ∃ f fd, DefAt K mg base d f fd := fun i d q => by
    match i, q with
    | 0, q => cases q; exact ⟨_, _, fun z => Bool.noConfusion z, PySem.W.mg_of X G a0, F0, b0⟩
    | 1, q => cases q; exact ⟨_, _, fun z => Bool.noConfusion z, PySem.W.mg_of X G a1, F1, b1⟩
    | 2, q => cases q; exact ⟨_, _, fun z => Bool.noConfusion z, PySem.W.mg_of X G a2, F2, b2⟩
    | 3, q => cases q; exact ⟨_, _, fun z => Bool.noConfusion z, PySem.W.mg_of X G a3, F3, b3⟩
    | 4, q => cases q; exact ⟨_, _, fun z => Bool.noConfusion z, PySem.W.mg_of X G a4, F4, b4⟩
    | 5, q => cases q; exact ⟨_, _, fun z => Bool.noConfusion z, PySem.W.mg_of X G a5, F5, b5⟩
    | 6, q => cases q; exact ⟨_, _, fun z => Bool.noConfusion z, PySem.W.mg_of X G a6, F6, b6⟩
    | 7, q => cases q; exact ⟨_, _, fun z => Bool.noConfusion z, PySem.W.mg_of X G a7, F7, b7⟩
    | 8, q => cases q; exact ⟨_, _, fun z => Bool.noConfusion z, PySem.W.mg_of X G a8, F8, b8⟩
    | 9, q => cases q; exact ⟨_, _, fun z => Bool.noConfusion z, PySem.W.mg_of X G a9, F9, b9⟩
    | 10, q => cases q; exact ⟨_, _, fun z => Bool.noConfusion z, PySem.W.mg_of X G a10, F10, b10⟩
    | 11, q => cases q; exact ⟨_, _, fun z => Bool.noConfusion z, PySem.W.mg_of X G a11, F11, b11⟩
    | 12, q => cases q; exact ⟨_, _, fun z => Bool.noConfusion z, PySem.W.mg_of X G a12, F12, b12⟩
    | 13, q => cases q; exact ⟨_, _, fun z => Bool.noConfusion z, PySem.W.mg_of X G a13, F13, b13⟩
    | 14, q => cases q; exact ⟨_, _, fun _ => ⟨rfl, ⟨cc, rfl, hTB _ List.mem_cons_self⟩, rfl⟩, PySem.W.mg_of X G a14, F14, b14⟩
    | 15, q => cases q; exact ⟨_, _, fun z => Bool.noConfusion z, PySem.W.mg_of X G a15, F15, b15⟩
    | 16, q => cases q; exact ⟨_, _, fun z => Bool.noConfusion z, PySem.W.mg_of X G a16, F16, b16⟩
    | 17, q => cases q; exact ⟨_, _, fun z => Bool.noConfusion z, PySem.W.mg_of X G a17, F17, b17⟩
    | 18, q => cases q; exact ⟨_, _, fun z => Bool.noConfusion z, PySem.W.mg_of X G a18, F18, b18⟩
    | 19, q => cases q; exact ⟨_, _, fun z => Bool.noConfusion z, PySem.W.mg_of X G a19, F19, b19⟩
    | 20, q => cases q; exact ⟨_, _, fun z => Bool.noConfusion z, PySem.W.mg_of X G a20, F20, b20⟩
    | 21, q => cases q; exact ⟨_, _, fun z => Bool.noConfusion z, PySem.W.mg_of X G a21, F21, b21⟩
    | 22, q => cases q; exact ⟨_, _, fun z => Bool.noConfusion z, PySem.W.mg_of X G a22, F22, b22⟩
    | 23, q => cases q; exact ⟨_, _, fun z => Bool.noConfusion z, PySem.W.mg_of X G a23, F23, b23⟩
    | 24, q => cases q; exact ⟨_, _, fun z => Bool.noConfusion z, PySem.W.mg_of X G a24, F24, b24⟩
    | 25, q => cases q; exact ⟨_, _, fun z => Bool.noConfusion z, PySem.W.mg_of X G a25, F25, b25⟩
    | 26, q => cases q; exact ⟨_, _, fun z => Bool.noConfusion z, PySem.W.mg_of X G a26, F26, b26⟩
    | 27, q => cases q; exact ⟨_, _, fun z => Bool.noConfusion z, PySem.W.mg_of X G a27, F27, b27⟩
    | 28, q => cases q; exact ⟨_, _, fun z => Bool.noConfusion z, PySem.W.mg_of X G a28, F28, b28⟩
    | 29, q => cases q; exact ⟨_, _, fun z => Bool.noConfusion z, PySem.W.mg_of X G a29, F29, b29⟩
    | 30, q => cases q; exact ⟨_, _, fun z => Bool.noConfusion z, PySem.W.mg_of X G a30, F30, b30⟩
    | 31, q => cases q; exact ⟨_, _, fun z => Bool.noConfusion z, PySem.W.mg_of X G a31, F31, b31⟩
    | i + 32, q => cases q
  have hb : ∀ x ∈ bltNames, mg x = none := fun x hx => by
    simp only [bltNames, List.mem_cons, List.not_mem_nil, or_false] at hx
    rcases hx with rfl | rfl | rfl | rfl | rfl | rfl | rfl | rfl | rfl | rfl | rfl | rfl | rfl | rfl | rfl
    · exact PySem.W.mg_none_of X G z0
    · exact PySem.W.mg_none_of X G z1
    · exact PySem.W.mg_none_of X G z2
    · exact PySem.W.mg_none_of X G z3
    · exact PySem.W.mg_none_of X G z4
    · exact PySem.W.mg_none_of X G z5
    · exact PySem.W.mg_none_of X G z6
    · exact PySem.W.mg_none_of X G z7
    · exact PySem.W.mg_none_of X G z8
    · exact PySem.W.mg_none_of X G z9
    · exact PySem.W.mg_none_of X G z10
    · exact PySem.W.mg_none_of X G z11
    · exact PySem.W.mg_none_of X G z12
    · exact PySem.W.mg_none_of X G z13
    · exact PySem.W.mg_none_of X G z14
  have hX : ∀ (c : Nat) (x : Str), clsN[c]? = some x → ∀ Y : Cx, Y.K = K → Y.mg = mg → Gl Y x → ∀ (m : Str) (j : Nat) (p p2 pos : Pos), PMk Y (.Call (.Name x p) [.Constant (.str m) j p2] [] pos) (fun _ H Q => Q (.ref ((clsF [e0]) c)) none H) := fun c x q Y e1 e2 hg m j p p2 pos => by
    match c, q with
    | 0, q => cases q; exact pmk_own PySem.F.excBase_ValueError (by rw [e1]; exact yx0) (by rw [e2]; exact PySem.W.mg_of X G yg0) (by rw [e1]; exact yk0) (raises_own (by rw [e1]; exact yb0) (by rw [e1]; exact yt0)) hg
    | c + 1, q => cases q
  have hP : ∀ c d, c < 1 → d < 1 → d ≠ c → PySem.W.kitOne K (.ref ((clsF [e0]) c)) (.ref ((clsF [e0]) d)) = some false := fun c d h1 h2 h3 => by
    match c, d, h1, h2, h3 with
    | 0, 0, _, _, h3 => exact absurd rfl h3
    | 0, d + 1, _, h2, _ => exact absurd h2 (by omega)
    | c + 1, _, h1, _, _ => exact absurd h1 (by omega)
  have hT0 : ∀ c x, clsN[c]? = some x → mg x = some (.ref ((clsF [e0]) c)) := fun c x q => by
    match c, q with
    | 0, q => cases q; exact PySem.W.mg_of X G yg0
    | c + 1, q => cases q
  have hT1 : ∀ c, c < clsN.length → ExcC K ((clsF [e0]) c) := fun c h => by
    match c, h with
    | 0, _ => exact ⟨yh0, yj0, yb0, yd0, ya0, yen, yeo, ym0⟩
    | c + 1, h => exact absurd h (by show ¬ (c + 1 < 1); omega)
  have hT2 : ∀ c, c < clsN.length → PySem.W.exmOne K (.ref ((clsF [e0]) c)) (.ref ((clsF [e0]) c)) = some true := fun c h => by
    match c, h with
    | 0, _ => exact PySem.W.exm_ref yb0 yd0 yt0 ys0
    | c + 1, h => exact absurd h (by show ¬ (c + 1 < 1); omega)
  have hT3 : ∀ c, c < clsN.length → ∃ wa, mg "WordError" = some (.ref wa) ∧ PySem.W.exmOne K (.ref ((clsF [e0]) c)) (.ref wa) = some true := fun c h => by
    match c, h with
    | 0, _ => exact ⟨ew, PySem.W.mg_of X G ywg, PySem.W.exm_ref ywb ywd ywt yw0⟩
    | c + 1, h => exact absurd h (by show ¬ (c + 1 < 1); omega)
  have hT4 : ∀ c, c < clsN.length → PySem.W.kitOne K (.ref ((clsF [e0]) c)) (.ref ((clsF [e0]) c)) = some true ∧ PySem.W.kitOne K (.ref ((clsF [e0]) c)) (.type "ValueError") = some true := fun c h => by
    match c, h with
    | 0, _ => exact ⟨if_pos (beq_self_eq_true _), yv0⟩
    | c + 1, h => exact absurd h (by show ¬ (c + 1 < 1); omega)
  have hT : TryOk K mg clsN (clsF [e0]) := ⟨hT0, hT1, hT2, hT3, hT4, fun c c2 c3 h1 h2 h3 n2 n3 => kit_two (hP c c2 h1 h2 n2) (hP c c3 h1 h3 n3), fun _ => PySem.W.mg_none_of X G yz⟩
  have T := tbl_ok (P := l.prog) (w := w) (base := base) (cs := cs) (clsA := (clsF [e0])) tbl_chk hD (fun i x q => by cases q) hb hX hT 229
  exact fn_imp (fn_ok T tbl_chk (i := i_f_law) rfl ⟨fun z => Bool.noConfusion z, PySem.W.mg_of X G a31, F31, b31⟩) fun _ _ _ _ q => q _
end MW
open PySem PySem.W PyProof.Rows MW
set_option maxHeartbeats 0 in
theorem PySem.Challenge.cw_makerword_k05_whole_ways_that_meet_holds : PySem.Challenge.rw_makerword_k05_whole_ways_that_meet.Holds := by
  w_on; o_law; k_head; (case hw => w_witness2)
  k_fill
  refine LamX.walk_ofTs (l := PySem.Challenge.rw_makerword_k05_whole_ways_that_meet) (n := 63) (k := 230) (x := "script") (CX := fun w => L2.CX (PySem.Challenge.rw_makerword_k05_whole_ways_that_meet).prog w) rfl (by decide) rfl ⟨rfl, by decide, by decide⟩ (fun w h Y => PySem.W.km_in_of Y) ?F (fun _ _ _ _ _ h => cx_no h)
  case F =>
    intro w mg fa h Y KX G hmg
    refine' all_mk KX G hmg ?a0 ?l0 ?c0 ?k0 ?a1 ?l1 ?c1 ?k1 ?a2 ?l2 ?c2 ?k2 ?a3 ?l3 ?c3 ?k3 ?a4 ?l4 ?c4 ?k4 ?a5 ?l5 ?c5 ?k5 ?a6 ?l6 ?c6 ?k6 ?a7 ?l7 ?c7 ?k7 ?a8 ?l8 ?c8 ?k8 ?a9 ?l9 ?c9 ?k9 ?a10 ?l10 ?c10 ?k10 ?a11 ?l11 ?c11 ?k11 ?a12 ?l12 ?c12 ?k12 ?a13 ?l13 ?c13 ?k13 ?a14 ?l14 ?c14 ?k14 ?a15 ?l15 ?c15 ?k15 ?a16 ?l16 ?c16 ?k16 ?a17 ?l17 ?c17 ?k17 ?a18 ?l18 ?c18 ?k18 ?a19 ?l19 ?c19 ?k19 ?a20 ?l20 ?c20 ?k20 ?a21 ?l21 ?c21 ?k21 ?a22 ?l22 ?c22 ?k22 ?a23 ?l23 ?c23 ?k23 ?a24 ?l24 ?c24 ?k24 ?a25 ?l25 ?c25 ?k25 ?a26 ?l26 ?c26 ?k26 ?a27 ?l27 ?c27 ?k27 ?a28 ?l28 ?c28 ?k28 ?a29 ?l29 ?c29 ?k29 ?a30 ?l30 ?c30 ?k30 ?a31 ?l31 ?c31 ?k31 ?z0 ?z1 ?z2 ?z3 ?z4 ?z5 ?z6 ?z7 ?z8 ?z9 ?z10 ?z11 ?z12 ?z13 ?z14 ?tt ?tn ?tc ?yg0 ?yx0 ?yk0 ?yb0 ?yt0 ?yd0 ?yh0 ?yj0 ?ya0 ?ym0 ?ys0 ?yv0 ?ywg ?ywb ?ywt ?ywd ?yw0 ?yen ?yeo ?yz
    case a0 => k_is
    case l0 => k_is
    case c0 => k_is
    case k0 => k_is
    case a1 => k_is
    case l1 => k_is
    case c1 => k_is
    case k1 => k_is
    case a2 => k_is
    case l2 => k_is
    case c2 => k_is
    case k2 => k_is
    case a3 => k_is
    case l3 => k_is
    case c3 => k_is
    case k3 => k_is
    case a4 => k_is
    case l4 => k_is
    case c4 => k_is
    case k4 => k_is
    case a5 => k_is
    case l5 => k_is
    case c5 => k_is
    case k5 => k_is
    case a6 => k_is
    case l6 => k_is
    case c6 => k_is
    case k6 => k_is
    case a7 => k_is
    case l7 => k_is
    case c7 => k_is
    case k7 => k_is
    case a8 => k_is
    case l8 => k_is
    case c8 => k_is
    case k8 => k_is
    case a9 => k_is
    case l9 => k_is
    case c9 => k_is
    case k9 => k_is
    case a10 => k_is
    case l10 => k_is
    case c10 => k_is
    case k10 => k_is
    case a11 => k_is
    case l11 => k_is
    case c11 => k_is
    case k11 => k_is
    case a12 => k_is
    case l12 => k_is
    case c12 => k_is
    case k12 => k_is
    case a13 => k_is
    case l13 => k_is
    case c13 => k_is
    case k13 => k_is
    case a14 => k_is
    case l14 => k_is
    case c14 => k_is
    case k14 => k_is
    case a15 => k_is
    case l15 => k_is
    case c15 => k_is
    case k15 => k_is
    case a16 => k_is
    case l16 => k_is
    case c16 => k_is
    case k16 => k_is
    case a17 => k_is
    case l17 => k_is
    case c17 => k_is
    case k17 => k_is
    case a18 => k_is
    case l18 => k_is
    case c18 => k_is
    case k18 => k_is
    case a19 => k_is
    case l19 => k_is
    case c19 => k_is
    case k19 => k_is
    case a20 => k_is
    case l20 => k_is
    case c20 => k_is
    case k20 => k_is
    case a21 => k_is
    case l21 => k_is
    case c21 => k_is
    case k21 => k_is
    case a22 => k_is
    case l22 => k_is
    case c22 => k_is
    case k22 => k_is
    case a23 => k_is
    case l23 => k_is
    case c23 => k_is
    case k23 => k_is
    case a24 => k_is
    case l24 => k_is
    case c24 => k_is
    case k24 => k_is
    case a25 => k_is
    case l25 => k_is
    case c25 => k_is
    case k25 => k_is
    case a26 => k_is
    case l26 => k_is
    case c26 => k_is
    case k26 => k_is
    case a27 => k_is
    case l27 => k_is
    case c27 => k_is
    case k27 => k_is
    case a28 => k_is
    case l28 => k_is
    case c28 => k_is
    case k28 => k_is
    case a29 => k_is
    case l29 => k_is
    case c29 => k_is
    case k29 => k_is
    case a30 => k_is
    case l30 => k_is
    case c30 => k_is
    case k30 => k_is
    case a31 => k_is
    case l31 => k_is
    case c31 => k_is
    case k31 => k_is
    case z0 => k_is
    case z1 => k_is
    case z2 => k_is
    case z3 => k_is
    case z4 => k_is
    case z5 => k_is
    case z6 => k_is
    case z7 => k_is
    case z8 => k_is
    case z9 => k_is
    case z10 => k_is
    case z11 => k_is
    case z12 => k_is
    case z13 => k_is
    case z14 => k_is
    case tt => exact PySem.W.km_tabs_of Y _ List.mem_cons_self
    case tn => kernel_rfl
    case tc => kernel_rfl
    case yg0 => k_is
    case yx0 => k_exc
    case yk0 => k_is
    case yb0 => k_is
    case yt0 => k_is
    case yd0 => k_is
    case yh0 => k_is
    case yj0 => k_is
    case ya0 => k_is
    case ym0 => k_is
    case ys0 => k_is
    case yv0 => kit_is
    case ywg => k_is
    case ywb => k_is
    case ywt => k_is
    case ywd => k_is
    case yw0 => k_is
    case yen => k_is
    case yeo => k_is
    case yz => k_is
