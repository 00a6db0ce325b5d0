import PyProof.Rows.All
import Wide.All
import OpenK.AllK
import Wide.FinOn
import HandS.ForMost
import HandS.ForExc
import HandS.IsInst
import HandS.Flow
import HandS.Style
import HandS.TupAny
import HandS.SetFor
import HandS.StrMore
import HandS.Zip
import HandS.SortInts
import PyProof.Rows.SortShellAny
import HandS.TryOnly
import HandS.ExcIs
import HandS.ExcOwn
import HandS.TupMul
import HandS.Strs
import HandS.Lambda
import HandS.EndTab
import KE.SortKeyHeap
import HandS.Nested
import HandS.SetKeys
import PySem.Challenge.RW_makerword_k26_whole_what_comes_of_what
set_option Elab.async false
set_option linter.all false
set_option maxRecDepth 100000
set_option maxRecDepth 100000
/-! Part 1: a small language of my own, its evaluator over data, and the look that compares it with the given text. -/
namespace MW
open PySem L2

abbrev D := PyData

inductive Res (α : Type) where
  | ok (a : α)
  | exn (c : Nat)
  | stuck

namespace Res
def bind {α β : Type} (x : Res α) (f : α → Res β) : Res β := match x with
  | .ok a => f a
  | .exn c => .exn c
  | .stuck => .stuck
/-- a guard -/
def need {α : Type} (b : Bool) (x : Res α) : Res α := match b with
  | true => x
  | false => .stuck
def map {α β : Type} (f : α → β) (x : Res α) : Res β := x.bind fun a => .ok (f a)
end Res
open Res

inductive Slot where
  | val (d : D)
  | own (d : D)

abbrev Env := List (Option Slot)

def rdV (env : Env) (i : Nat) : Res D := match env[i]? with
  | some (some (.val d)) => .ok d
  | _ => .stuck
def rdO (env : Env) (i : Nat) : Res D := match env[i]? with
  | some (some (.val d)) => .ok d
  | some (some (.own d)) => .ok d
  | _ => .stuck
def wipeE (env : Env) : List Nat → Env
  | [] => env
  | v :: vs => (wipeE env vs).set v none

/-! ### the language -/
inductive Ty where
  | int | bool | tuple | str | list
  deriving DecidableEq
inductive Blt where
  | len | min2 | max2 | all | tuple | list | int | sorted
  deriving DecidableEq
inductive Mth where
  | index | countL | countS | join
  deriving DecidableEq
inductive IK where
  | of | range | enum | rev
  deriving DecidableEq

mutual
inductive G where
  | name (i : Nat)
  | tup (gs : Gs)
inductive Gs where
  | nil
  | cons (g : G) (gs : Gs)
end

mutual
inductive E where
  | var (i : Nat)
  | own (i : Nat)
  | cst (c : Const)
  | glob (k : Nat)
  | tup (es : Es)
  | lst (es : Es)
  | dic0
  | bin (op : Operator) (a b : E)
  | mulL (c : Int) (b : E)
  | neg (a : E)
  | cmp (op : CmpOp) (a b : E)
  | chain (op op2 : CmpOp) (a b c : E)
  | chain3 (op op2 op3 : CmpOp) (a b c d : E)
  | and (a b : E)
  | or (a b : E)
  | not (a : E)
  | ife (t a b : E)
  | ix (a b : E)
  | slc (a lo hi : E)
  | abs
  | slc3 (a : E) (k : Int)
  | call (f : Nat) (es : Es)
  | blt (b : Blt) (es : Es)
  | isi (a : E) (tys : List Ty)
  | lenset (a : E)
  | rep (a b : E)
  | sortk (a key : E) (p : Str)
  | comp (elt : E) (g : G) (ik : IK) (ia : Es) (cond : Es) (own : List (Str × Nat))
  | meth (m : Mth) (o : E) (a : E)
inductive Es where
  | nil
  | cons (e : E) (es : Es)
end

/-- what an except clause does -/
inductive Hd where
  | setT
  | retT
  | isT (c2 c3 j : Nat)
  | nonI (c2 c3 j : Nat)
mutual
inductive S where
  | asg (i : Nat) (e : E)
  | asgO (i : Nat) (e : E)
  | asgT (g : G) (e : E)
  | par (i j : Nat) (a b : E)
  | app (i : Nat) (e : E)
  | ext (i : Nat) (e : E)
  | put (i : Nat) (k v : E)
  | frz (i : Nat)
  | ret (e : E)
  | ite (t : E) (a b : Ss)
  | whl (t : E) (b : Ss)
  | for (g : G) (ik : IK) (ia : Es) (b : Ss)
  | brk
  | cnt
  | pass
  | expr (e : E)
  | raise (c : Nat)
  | halt
  | try_ (b : Ss) (c i : Nat) (h : Hd)
inductive Ss where
  | nil
  | cons (s : S) (r : Ss)
end

/-! ### operations on data -/
def small64 (i : Int) : Bool := decide (-(2 ^ 64) < i) && decide (i < 2 ^ 64)
def fitsZ (n : Nat) : Bool := decide (n ≤ sizeLine)
def optR (o : Option D) : Res D := match o with
  | some d => .ok d
  | none => .stuck
def ixD (xs : List D) (i : Int) : Res D := match atI xs i with
  | some d => .ok d
  | none => .stuck
def chD (c : Nat) : D := .str ⟨#[c]⟩
/-- a key of a dict -/
def keyD : Key → D
  | .inl i => .int i
  | .inr x => .str x
def toKey : D → Option Key
  | .int i => some (.inl i)
  | .str x => some (.inr x)
  | _ => none
def dkD (kds : List (Key × D)) : List (D × D) := kds.map fun p => (keyD p.1, p.2)
def dictGet : List (D × D) → Key → Option D
  | [], _ => none
  | (k, v) :: r, q => match toKey k with
    | some k' => if k' = q then some v else dictGet r q
    | none => dictGet r q
def dictPut (kvs : List (D × D)) (q : Key) (d : D) : List (D × D) := match dictGet kvs q with
  | some _ => kvs.map fun p => if toKey p.1 = some q then (p.1, d) else p
  | none => kvs ++ [(keyD q, d)]

def repS (a : Str) (n : Nat) : Str := ⟨(List.replicate n a.cps).foldl (· ++ ·) #[]⟩
def opD (op : Operator) (x y : D) : Res D := match op, x, y with
  | .Add, .int i, .int j => .ok (.int (i + j))
  | .Add, .str a, .str b => need (fitsZ (a.length + b.length)) (.ok (.str (a ++ b)))
  | .Add, .list a, .list b => need (fitsZ (a.length + b.length)) (.ok (.list (a ++ b)))
  | .Add, .tuple a, .tuple b => need (fitsZ (a.length + b.length)) (.ok (.tuple (a ++ b)))
  | .Sub, .int i, .int j => .ok (.int (i - j))
  | .Mult, .int i, .int j => need (small64 j || small64 i) (.ok (.int (i * j)))
  | .Mult, .str a, .int j => need (decide (0 ≤ j) && decide (j ≤ 1000000) && fitsZ (a.length * j.toNat)) (.ok (.str (repS a j.toNat)))
  | .Mult, .tuple a, .int j => need (!a.isEmpty && decide (2 ≤ j) && decide (j ≤ 1000) && decide (a.length ≤ 1000)) (.ok (.tuple (List.replicate j.toNat a).flatten))
  | .Mod, .int i, .int j => need (decide (0 < j)) (.ok (.int (i % j)))
  | .FloorDiv, .int i, .int j => need (decide (0 < j) && decide (j < 1073741824)) (.ok (.int (i / j)))
  | .LShift, .int i, .int j => need (decide (0 ≤ j) && decide (j ≤ 1000000) && decide (i.natAbs < 2 ^ 64)) (.ok (.int (i * 2 ^ j.toNat)))
  | .RShift, .int i, .int j => need (decide (0 ≤ j)) (.ok (.int (i / 2 ^ j.toNat)))
  | .BitAnd, .int i, .int j => .ok (.int (Builtin.bitAnd i j))
  | _, _, _ => .stuck

def lim : Nat := 150
def eqOk (x y : D) : Bool := x.canLay0 && y.canLay0 && (decide (x.depth ≤ lim) || decide (y.depth ≤ lim))
def eqD (x y : D) : Res D := need (eqOk x y) (.ok (.bool (PyData.eqv x y)))
def neD (x y : D) : Res D := need (eqOk x y) (.ok (.bool (!PyData.eqv x y)))
def oneSign (s : Str) : Option Nat := match s.cps.toList with
  | [c] => some c
  | _ => none
def inStr (s t : Str) : Bool := !(Builtin.Str.occurrences t s 0 t.length 1).isEmpty
def inOk (x : D) (ds : List D) : Bool := x.canLay0 && PyData.canLayAll0 ds && (decide (x.depth ≤ lim) || decide (PyData.depthAll ds ≤ lim))
def inD (x y : D) : Res Bool := match y with
  | .list ds => need (inOk x ds) (.ok (ds.any fun z => PyData.eqv z x))
  | .tuple ds => need (inOk x ds) (.ok (ds.any fun z => PyData.eqv z x))
  | .str t => match x with
    | .str s => .ok (inStr s t)
    | _ => .stuck
  | .dict kvs => match toKey x with
    | some k => .ok (dictGet kvs k).isSome
    | none => .stuck
  | _ => .stuck
def isNone : D → Bool
  | .none => true
  | _ => false
/-- x is y, where y is None, True, False -/
def isD (x y : D) : Res Bool := match y with
  | .none => .ok (isNone x)
  | .bool b => match x with
    | .bool c => .ok (decide (c = b))
    | _ => .stuck
  | _ => .stuck
def cmpD (op : CmpOp) (x y : D) : Res D := match op with
  | .Eq => eqD x y
  | .NotEq => neD x y
  | .Lt => match x, y with
    | .int i, .int j => .ok (.bool (decide (i < j)))
    | _, _ => .stuck
  | .LtE => match x, y with
    | .int i, .int j => .ok (.bool (decide (i ≤ j)))
    | _, _ => .stuck
  | .Gt => match x, y with
    | .int i, .int j => .ok (.bool (decide (j < i)))
    | _, _ => .stuck
  | .GtE => match x, y with
    | .int i, .int j => .ok (.bool (decide (j ≤ i)))
    | _, _ => .stuck
  | .Is => (isD x y).map .bool
  | .IsNot => (isD x y).map fun b => .bool (!b)
  | .In => (inD x y).map .bool
  | .NotIn => (inD x y).map fun b => .bool (!b)
def truD : D → Res Bool
  | .none => .ok false
  | .bool b => .ok b
  | .int i => .ok (i != 0)
  | .str s => need (fitsZ s.length) (.ok (s.length != 0))
  | .list ds => .ok (!ds.isEmpty)
  | .tuple ds => .ok (!ds.isEmpty)
  | .dict kvs => .ok (!kvs.isEmpty)
def boolD : D → Res Bool
  | .bool b => .ok b
  | _ => .stuck
def itemD (x i : D) : Res D := match x with
  | .list ds => match i with
    | .int j => ixD ds j
    | _ => .stuck
  | .tuple ds => match i with
    | .int j => ixD ds j
    | _ => .stuck
  | .str s => match i with
    | .int j => need (fitsZ s.length) (match atI s.cps.toList j with | some c => .ok (chD c) | none => .stuck)
    | _ => .stuck
  | .dict kvs => match toKey i with
    | some k => optR (dictGet kvs k)
    | none => .stuck
  | _ => .stuck
def cutD {α : Type} (xs : List α) (lo hi : Option Int) : List α := (xs.drop (HT.sIx xs.length 0 lo)).take (HT.sIx xs.length xs.length hi - HT.sIx xs.length 0 lo)
def cutStr (s : Str) (lo hi : Option Int) : Str := ⟨(cutD s.cps.toList lo hi).toArray⟩
def sliceD (x : D) (lo hi : Option Int) : Res D := match x with
  | .list ds => .ok (.list (cutD ds lo hi))
  | .tuple ds => .ok (.tuple (cutD ds lo hi))
  | .str s => need (fitsZ s.length) (.ok (.str (cutStr s lo hi)))
  | _ => .stuck
def tyB (d : D) (t : Ty) : Bool := match d, t with
  | .bool _, .bool => true
  | .bool _, .int => true
  | .int _, .int => true
  | .str _, .str => true
  | .list _, .list => true
  | .tuple _, .tuple => true
  | _, _ => false
def notDict : D → Bool
  | .dict _ => false
  | _ => true
def allB : List D → Res Bool
  | [] => .ok true
  | .bool b :: r => (allB r).bind fun c => .ok (b && c)
  | _ :: _ => .stuck
def lenD : D → Res D
  | .list ds => .ok (.int ds.length)
  | .tuple ds => .ok (.int ds.length)
  | .str s => need (fitsZ s.length) (.ok (.int s.length))
  | .dict kvs => .ok (.int kvs.length)
  | _ => .stuck
def insS (x : Str) : List Str → List Str
  | [] => [x]
  | y :: r => if Spec.ltCps y.cps.toList x.cps.toList then y :: insS x r else x :: y :: r
def sortS (xs : List Str) : List Str := xs.foldr insS []
def insI (x : Int) : List Int → List Int
  | [] => [x]
  | y :: r => if y < x then y :: insI x r else x :: y :: r
def sortI (xs : List Int) : List Int := xs.foldr insI []
def strsOf : List D → Option (List Str)
  | [] => some []
  | .str s :: r => (strsOf r).map (s :: ·)
  | _ :: _ => none
def intsOf : List D → Option (List Int)
  | [] => some []
  | .int s :: r => (intsOf r).map (s :: ·)
  | _ :: _ => none
def sortedD (ds : List D) : Res D := match strsOf ds with
  | some ss => .ok (.list ((sortS ss).map .str))
  | none => match intsOf ds with
    | some is => .ok (.list ((sortI is).map .int))
    | none => .stuck
def keysS : List (D × D) → Option (List Str)
  | [] => some []
  | (.str s, _) :: r => (keysS r).map (s :: ·)
  | _ :: _ => none
/-- the least of some texts -/
def minK (ss : List Str) : Option Str := ss[argBest (fun i j => decide ((ss.getD i Str.empty).cps.toList < (ss.getD j Str.empty).cps.toList)) (ss.length - 1)]?
def minD (kvs : List (D × D)) : Res D := match keysS kvs with
  | some ss => match minK ss with
    | some s => .ok (.str s)
    | none => .stuck
  | none => .stuck
def bltD (b : Blt) (ds : List D) : Res D := match b, ds with
  | .min2, [.dict kvs] => minD kvs
  | .len, [x] => lenD x
  | .min2, [.int i, .int j] => .ok (.int (if j < i then j else i))
  | .max2, [.int i, .int j] => .ok (.int (if j > i then j else i))
  | .all, [.list ds] => (allB ds).bind fun b => .ok (.bool b)
  | .tuple, [.list ds] => .ok (.tuple ds)
  | .tuple, [.tuple ds] => .ok (.tuple ds)
  | .list, [.list ds] => .ok (.list ds)
  | .list, [.tuple ds] => .ok (.list ds)
  | .list, [.str s] => need (fitsZ s.length) (.ok (.list (s.cps.toList.map chD)))
  | .int, [.bool b] => .ok (.int (if b then 1 else 0))
  | .int, [.int i] => .ok (.int i)
  | .sorted, [.list ds] => sortedD ds
  | _, _ => .stuck
/-- [x] * n -/
def repD (x y : D) : Res D := match y with
  | .int j => need (decide (0 ≤ j) && decide (j ≤ 1000000)) (.ok (.list (List.replicate j.toNat x)))
  | _ => .stuck
/-- each number once, as they come first -/
def dedup (is : List Int) : List Int := is.foldl (fun acc x => if acc.any (· == x) then acc else acc ++ [x]) []
/-- each text once, as they come first -/
def dedupS (xs : List Str) : List Str := xs.foldl (fun acc x => if acc.any (· == x) then acc else acc ++ [x]) []
def lensetD (x : D) : Res D := match x with
  | .list ds => match intsOf ds with
    | some is => need (decide (is.length ≤ 4000)) (.ok (.int (dedup is).length))
    | none => match strsOf ds with
      | some ss => need (decide (ss.length ≤ 4000)) (.ok (.int (dedupS ss).length))
      | none => .stuck
  | _ => .stuck
def countD (ds : List D) (a : D) : Res D := match a with
  | .int k => match intsOf ds with
    | some is => .ok (.int (is.count k : Nat))
    | none => .stuck
  | .str k => match strsOf ds with
    | some ss => .ok (.int (ss.countP fun x => x.cps.toList == k.cps.toList : Nat))
    | none => .stuck
  | _ => .stuck
def indexD (a b : Str) : Res D := match PySem.Txt.index0 a b with
  | some k => .ok (.int (k : Nat))
  | none => .stuck
def joinD (a : Str) (ds : List D) : Res D := match strsOf ds with
  | some ys => need (decide ((ys.map (·.length)).sum + ys.length * a.length ≤ 16777216)) (.ok (.str (PySem.Txt.join a ys)))
  | none => .stuck
def methD (m : Mth) (o a : D) : Res D := match m, o with
  | .countL, .list ds => countD ds a
  | .countS, .str x => match a with
    | .str y => .ok (.int (PySem.Txt.count x y))
    | _ => .stuck
  | .index, .str x => match a with
    | .str y => indexD x y
    | _ => .stuck
  | .join, .str x => match a with
    | .list ds => joinD x ds
    | _ => .stuck
  | _, _ => .stuck
def mthOk (m : Mth) (o : D) : Bool := match m, o with
  | .countL, .list _ => true
  | .countS, .str _ => true
  | .index, .str _ => true
  | .join, .str _ => true
  | _, _ => false
/-- each second one -/
def evens {α : Type} : List α → List α
  | [] => []
  | [x] => [x]
  | x :: _ :: r => x :: evens r
def stepD (x : D) (k : Int) : Res D := match x with
  | .tuple ds => if k = -1 then .ok (.tuple ds.reverse) else if k = 2 then .ok (.tuple (evens ds)) else .stuck
  | _ => .stuck

/-- what a loop walks -/
def itemsOf (x : D) : Res (List D) := match x with
  | .list ds => .ok ds
  | .tuple ds => .ok ds
  | .str s => .ok (s.cps.toList.map chD)
  | _ => .stuck
def rangeD (lo hi : Int) : Res (List D) :=
  need (decide (-(2 ^ 62) ≤ lo) && decide (lo < 2 ^ 62) && decide (-(2 ^ 62) ≤ hi) && decide (hi < 2 ^ 62) && fitsZ (hi - lo).toNat) (.ok ((List.range (hi - lo).toNat).map fun i => .int (lo + (i : Nat))))
def enumFrom (n : Nat) : List D → List D
  | [] => []
  | d :: r => .tuple [.int n, d] :: enumFrom (n + 1) r
def iterD (ik : IK) (ds : List D) : Res (List D) := match ik, ds with
  | .of, [x] => itemsOf x
  | .range, [.int j] => rangeD 0 j
  | .range, [.int i, .int j] => rangeD i j
  | .enum, [.list ds] => .ok (enumFrom 0 ds)
  | .enum, [.tuple ds] => .ok (enumFrom 0 ds)
  | .rev, [.list ds] => .ok ds.reverse
  | _, _ => .stuck

mutual
def bindG : G → D → Env → Res Env
  | .name i, d, env => need (decide (i < env.length)) (.ok (env.set i (some (.val d))))
  | .tup gs, d, env => match d with
    | .tuple ds => bindGs gs ds env
    | _ => .stuck
def bindGs : Gs → List D → Env → Res Env
  | .nil, [], env => .ok env
  | .cons g gs, d :: ds, env => (bindG g d env).bind fun env' => bindGs gs ds env'
  | _, _, _ => .stuck
end

/-! ### the evaluator -/
abbrev Phi := Nat → List D → Res D

def addO (o : Option D) (r : List D) : List D := match o with
  | some x => x :: r
  | none => r
/-- one turn of a comprehension after another -/
def compL (turn : D → Res (Option D)) : List D → Res (List D)
  | [] => .ok []
  | d :: ds => (turn d).bind fun o => (compL turn ds).bind fun r => .ok (addO o r)
/-- within a comprehension nothing may be raised -/
def noExn {α : Type} : Res α → Res α
  | .ok a => .ok a
  | _ => .stuck
def optI : D → Res (Option Int)
  | .int i => .ok (some i)
  | _ => .stuck
def mapR (f : D → Res D) : List D → Res (List D)
  | [] => .ok []
  | d :: r => (f d).bind fun x => (mapR f r).bind fun xs => .ok (x :: xs)
/-- the kind of a key -/
def kindK : D → Nat
  | .int _ => 1
  | .str _ => 2
  | .tuple [.int _, .str _] => 3
  | _ => 0
def keyOk (ks : List D) : Bool := ((ks.all fun k => decide (kindK k = 1)) || (ks.all fun k => decide (kindK k = 2)) || ks.all fun k => decide (kindK k = 3)) && ks.all fun k => k.canLay0
/-- sorted by keys -/
def sortP (ps : List (D × D)) : List (D × D) := ps.mergeSort (PySem.W.dataLe false Prod.snd)
def seqD : D → Res (List D)
  | .list ds => .ok ds
  | .tuple ds => .ok ds
  | _ => .stuck
def sortkD (f : D → Res D) (x : D) : Res D := (seqD x).bind fun ds => (mapR f ds).bind fun ks => need (keyOk ks && fitsZ ds.length) (.ok (.list ((sortP (ds.zip ks)).map Prod.fst)))
/-- an optional bound of a slice -/
def optE (none : Bool) (r : Res D) : Res (Option Int) := match none with
  | true => .ok Option.none
  | false => r.bind optI
def E.isAbs : E → Bool
  | .abs => true
  | _ => false

section
variable (Φ : Phi) (cs : Nat → Res D)
mutual
def ev : E → Env → Res D
  | .var i, env => rdV env i
  | .own i, env => rdO env i
  | .cst c, _ => match c with
    | .int i => .ok (.int i)
    | .str s => .ok (.str s)
    | .bool b => .ok (.bool b)
    | .none => .ok .none
    | _ => .stuck
  | .glob k, _ => cs k
  | .tup es, env => (evs es env).bind fun ds => need (fitsZ ds.length) (.ok (.tuple ds))
  | .lst es, env => (evs es env).bind fun ds => need (fitsZ ds.length) (.ok (.list ds))
  | .dic0, _ => .ok (.dict [])
  | .bin op a b, env => (ev a env).bind fun x => (ev b env).bind fun y => opD op x y
  | .mulL c b, env => (ev b env).bind fun y => match y with
    | .int j => need (small64 c) (.ok (.int (c * j)))
    | _ => .stuck
  | .neg a, env => (ev a env).bind fun x => match x with
    | .int i => .ok (.int (-i))
    | _ => .stuck
  | .cmp op a b, env => (ev a env).bind fun x => (ev b env).bind fun y => cmpD op x y
  | .chain op op2 a b c, env => (ev a env).bind fun x => (ev b env).bind fun y => (cmpD op x y).bind fun r => (boolD r).bind fun k => match k with
    | true => (ev c env).bind fun z => cmpD op2 y z
    | false => .ok (.bool false)
  | .and a b, env => (ev a env).bind fun x => (truD x).bind fun k => match k with
    | true => ev b env
    | false => .ok x
  | .or a b, env => (ev a env).bind fun x => (truD x).bind fun k => match k with
    | true => .ok x
    | false => ev b env
  | .not a, env => (ev a env).bind fun x => (truD x).bind fun k => .ok (.bool (!k))
  | .ife t a b, env => (tst t env).bind fun k => match k with
    | true => ev a env
    | false => ev b env
  | .ix a b, env => (ev a env).bind fun x => (ev b env).bind fun y => itemD x y
  | .slc a lo hi, env => (ev a env).bind fun x => (optE lo.isAbs (ev lo env)).bind fun l => (optE hi.isAbs (ev hi env)).bind fun h => sliceD x l h
  | .abs, _ => .stuck
  | .slc3 a k, env => (ev a env).bind fun x => stepD x k
  | .chain3 _ _ _ _ _ _ _, _ => .stuck
  | .call f es, env => (evs es env).bind fun ds => Φ f ds
  | .blt b es, env => (evs es env).bind fun ds => bltD b ds
  | .isi a tys, env => (ev a env).bind fun x => .ok (.bool (tys.any fun t => tyB x t))
  | .lenset a, env => (ev a env).bind fun x => lensetD x
  | .rep a b, env => (ev a env).bind fun x => (ev b env).bind fun y => repD x y
  | .sortk a key _, env => (ev a env).bind fun x => sortkD (fun d => noExn (ev key [some (.val d)])) x
  | .comp elt g ik ia cond own, env => (evs ia env).bind fun ds => (iterD ik ds).bind fun xs =>
      (compL (fun d => noExn ((bindG g d (wipeE env (own.map (·.2)))).bind fun env' => (tsts cond env').bind fun k => match k with
        | true => (ev elt env').bind fun v => .ok (some v)
        | false => .ok none)) xs).bind fun r => need (fitsZ r.length) (.ok (.list r))
  | .meth m o a, env => (ev o env).bind fun x => need (mthOk m x) ((ev a env).bind fun y => methD m x y)
def evs : Es → Env → Res (List D)
  | .nil, _ => .ok []
  | .cons e es, env => (ev e env).bind fun d => (evs es env).bind fun ds => .ok (d :: ds)
/-- as a test -/
def tst : E → Env → Res Bool
  | .and a b, env => (tst a env).bind fun k => match k with
    | true => tst b env
    | false => .ok false
  | .or a b, env => (tst a env).bind fun k => match k with
    | true => .ok true
    | false => tst b env
  | .not a, env => (tst a env).bind fun k => .ok (!k)
  | .ife t a b, env => (tst t env).bind fun k => match k with
    | true => tst a env
    | false => tst b env
  | .cmp op a b, env => (ev a env).bind fun x => (ev b env).bind fun y => (cmpD op x y).bind boolD
  | .chain op op2 a b c, env => (ev a env).bind fun x => (ev b env).bind fun y => (cmpD op x y).bind fun r => (boolD r).bind fun k => match k with
    | true => (ev c env).bind fun z => (cmpD op2 y z).bind boolD
    | false => .ok false
  | .chain3 op op2 op3 a b c d, env => (ev a env).bind fun x => (ev b env).bind fun y => (cmpD op x y).bind fun r => (boolD r).bind fun k => match k with
    | true => (ev c env).bind fun z => (cmpD op2 y z).bind fun r2 => (boolD r2).bind fun k2 => match k2 with
      | true => (ev d env).bind fun u => (cmpD op3 z u).bind boolD
      | false => .ok false
    | false => .ok false
  | .var i, env => (rdV env i).bind truD
  | .own i, env => (rdO env i).bind truD
  | .call f es, env => (evs es env).bind fun ds => (Φ f ds).bind truD
  | .blt b es, env => (evs es env).bind fun ds => (bltD b ds).bind truD
  | .isi a tys, env => (ev a env).bind fun x => .ok (tys.any fun t => tyB x t)
  | .ix a b, env => (ev a env).bind fun x => (ev b env).bind fun y => (itemD x y).bind truD
  | .comp elt g ik ia cond own, env => (evs ia env).bind fun ds => (iterD ik ds).bind fun xs =>
      (compL (fun d => noExn ((bindG g d (wipeE env (own.map (·.2)))).bind fun env' => (tsts cond env').bind fun k => match k with
        | true => (ev elt env').bind fun v => .ok (some v)
        | false => .ok none)) xs).bind fun r => need (fitsZ r.length) (.ok (!r.isEmpty))
  | _, _ => .stuck
def tsts : Es → Env → Res Bool
  | .nil, _ => .ok true
  | .cons e _, env => tst e env
end

/-! ### statements -/
inductive Fl where
  | next (env : Env)
  | ret (d : D)
  | brk (env : Env)
  | cnt (env : Env)

def whileL (t : Env → Res Bool) (b : Env → Res Fl) : Nat → Env → Res Fl
  | 0, _ => .stuck
  | n + 1, env => (t env).bind fun k => match k with
    | false => .ok (.next env)
    | true => (b env).bind fun f => match f with
      | .next env' => whileL t b n env'
      | .cnt env' => whileL t b n env'
      | .brk env' => .ok (.next env')
      | .ret d => .ok (.ret d)
def forL (g : D → Env → Res Env) (b : Env → Res Fl) : List D → Env → Res Fl
  | [], env => .ok (.next env)
  | d :: ds, env => (g d env).bind fun env' => (b env').bind fun f => match f with
    | .next env' => forL g b ds env'
    | .cnt env' => forL g b ds env'
    | .brk env' => .ok (.next env')
    | .ret d => .ok (.ret d)
def setV (env : Env) (i : Nat) (d : D) : Res Env := need (decide (i < env.length)) (.ok (env.set i (some (.val d))))
def isOwnable : D → Bool
  | .list _ => true
  | .dict _ => true
  | _ => false
/-- an exception of the class c is caught; all slots but one are forgotten -/
def handD (c i : Nat) (h : Hd) (n : Nat) (r : Res Fl) : Res Fl := match r with
  | .exn c' => need (decide (c' = c)) (match h with
    | .retT => .ok (.ret (.bool true))
    | .nonI _ _ _ => need (decide (i < n)) (.ok (.next ((List.replicate n none).set i (some (.val .none)))))
    | _ => need (decide (i < n)) (.ok (.next ((List.replicate n none).set i (some (.val (.bool true)))))))
  | r => r
/-- the most turns of a while -/
def wmax : Nat := 1000

mutual
def ex : S → Env → Res Fl
  | .asg i e, env => (ev Φ cs e env).bind fun d => (setV env i d).bind fun env' => .ok (.next env')
  | .asgO i e, env => (ev Φ cs e env).bind fun d => need (isOwnable d && decide (i < env.length)) (.ok (.next (env.set i (some (.own d)))))
  | .asgT g e, env => (ev Φ cs e env).bind fun d => (bindG g d env).bind fun env' => .ok (.next env')
  | .par i j a b, env => (ev Φ cs a env).bind fun x => (ev Φ cs b env).bind fun y => (setV env i x).bind fun e1 => (setV e1 j y).bind fun e2 => .ok (.next e2)
  | .app i e, env => match env[i]? with
    | some (some (.own (.list ds))) => (ev Φ cs e env).bind fun d => need (decide (ds.length < sizeLine)) (.ok (.next (env.set i (some (.own (.list (ds ++ [d])))))))
    | _ => .stuck
  | .ext i e, env => match env[i]? with
    | some (some (.own (.list ds))) => (ev Φ cs e env).bind fun d => match d with
      | .list xs => need (fitsZ (ds.length + xs.length)) (.ok (.next (env.set i (some (.own (.list (ds ++ xs)))))))
      | _ => .stuck
    | _ => .stuck
  | .put i k v, env => match env[i]? with
    | some (some (.own (.dict kvs))) => (ev Φ cs v env).bind fun d => (ev Φ cs k env).bind fun kd => match toKey kd with
      | some q => need (decide (kvs.length < sizeLine)) (.ok (.next (env.set i (some (.own (.dict (dictPut kvs q d)))))))
      | none => .stuck
    | _ => .stuck
  | .frz i, env => match env[i]? with
    | some (some (.own d)) => .ok (.next (env.set i (some (.val d))))
    | _ => .ok (.next env)
  | .ret e, env => (ev Φ cs e env).bind fun d => .ok (.ret d)
  | .ite t a b, env => (tst Φ cs t env).bind fun k => match k with
    | true => exs a env
    | false => exs b env
  | .whl t b, env => whileL (tst Φ cs t) (exs b) wmax env
  | .for g ik ia b, env => (evs Φ cs ia env).bind fun ds => (iterD ik ds).bind fun xs => forL (bindG g) (exs b) xs env
  | .brk, env => .ok (.brk env)
  | .cnt, env => .ok (.cnt env)
  | .pass, env => .ok (.next env)
  | .expr e, env => (ev Φ cs e env).bind fun _ => .ok (.next env)
  | .raise c, _ => .exn c
  | .halt, _ => .stuck
  | .try_ b c i h, env => handD c i h env.length (exs b env)
def exs : Ss → Env → Res Fl
  | .nil, env => .ok (.next env)
  | .cons s r, env => (ex s env).bind fun f => match f with
    | .next env' => exs r env'
    | f => .ok f
end
end

def startE (n : Nat) (ds : List D) : Env := ds.map (fun d => some (.val d)) ++ List.replicate (n - ds.length) none
/-- a def's body, run at its arguments -/
def runF (Φ : Phi) (cs : Nat → Res D) (n np : Nat) (b : Ss) (ds : List D) : Res D :=
  need (decide (ds.length = np)) ((exs Φ cs b (startE n ds)).bind fun f => match f with
    | .next _ => .ok .none
    | .ret d => .ok d
    | _ => .stuck)
/-- calls, at most k of them one in another -/
def callN (T : Nat → Nat → Phi → List D → Res D) : Nat → Phi
  | 0 => fun _ _ => .stuck
  | k + 1 => fun i ds => T k i (callN T k) ds
end MW

set_option maxRecDepth 100000
/-! Part 1b: enumerate over a tuple. -/
namespace MW
open PySem PySem.Spec PyProof.Rows L2
section
variable {pg : Program} {wl : World} {Ar : Around} {Ex : Value → Shared → Prop} {sh : Shared}
theorem nextT_item {I t : Addr} {n : Nat} {vs : Array Value} {v : Value} {Q : Value → Shared → Prop} (hI : sh.heap.IsTupleIter I t n) (hT : sh.heap.IsTuple t vs) (hv : vs[n]? = some v)
    (q : ∀ h', h'.IsTupleIter I t (n + 1) → Heap.SameBut I sh.heap h' → Q v { sh with heap := h' }) : wpAny (model pg wl) Ar (Builtin.SmallTypes.nextOf (.ref I)) Q Ex sh := by
  obtain ⟨o1, g1, g2, g3⟩ := id hI
  obtain ⟨o2, g4, _, n2, g5⟩ := hT
  unfold Builtin.SmallTypes.nextOf
  refine wpAny_bind (wpAny_callSpecial?_slot (name := Str.ofString "__next__") hI.typeIs F.slot_tuple_iterator_next (wpAny_call_entry F.slot_tuple_iterator_next hI.typeIs F.entry_tuple_iterator_next ?_ (F.args_tuple_iterator_next_1 _)))
  show wpAny _ _ (field (.ref I) 0 >>= _) _ _ sh
  refine wpAny_bind (wpAny_field g1 g3 (x := .ref t) rfl ?_)
  show wpAny _ _ (if (Value.ref t == Value.none) = true then _ else _) _ _ sh
  rw [if_neg (show ¬ ((Value.ref t == Value.none) = true) by exact Bool.false_ne_true)]
  show wpAny _ _ (field (.ref I) 1 >>= _) _ _ sh
  refine wpAny_bind (wpAny_field g1 g3 (x := .int n 0) rfl ?_)
  show wpAny _ _ (seqItems? (.ref t) >>= _) _ _ sh
  refine wpAny_bind (wpAny_seqItems g4 g5 ?_)
  simp only [Int.toNat_natCast, hv]
  refine wpAny_bind (wpAny_setField g1 g3 (by simp) (wpAny_pure ⟨v, rfl, wpAny_pure (q _ ?_ (Heap.SameBut.update ..))⟩))
  exact ⟨_, Heap.get?_update_self _ g1 (Obj.isFreed_of_fields (Obj.data_mapFields g3 _)), (Obj.cls_mapFields ..).trans g2, by rw [Obj.data_mapFields g3]; simp [rawInt]⟩
theorem nextT_end {I t : Addr} {n : Nat} {vs : Array Value} {Q : Value → Shared → Prop} (hh : Ar.handled = none) (hI : sh.heap.IsTupleIter I t n) (hT : sh.heap.IsTuple t vs) (hv : vs[n]? = none)
    (q : ∀ h' e, Heap.ExtBut I sh.heap h' → (∃ o, h'.get? e = some o ∧ o.cls = .type "StopIteration") → Ex (.ref e) { sh with heap := h' }) : wpAny (model pg wl) Ar (Builtin.SmallTypes.nextOf (.ref I)) Q Ex sh := by
  obtain ⟨o1, g1, g2, g3⟩ := id hI
  obtain ⟨o2, g4, _, n2, g5⟩ := hT
  unfold Builtin.SmallTypes.nextOf
  refine wpAny_bind (wpAny_callSpecial?_slot (name := Str.ofString "__next__") hI.typeIs F.slot_tuple_iterator_next (wpAny_call_entry F.slot_tuple_iterator_next hI.typeIs F.entry_tuple_iterator_next ?_ (F.args_tuple_iterator_next_1 _)))
  show wpAny _ _ (field (.ref I) 0 >>= _) _ _ sh
  refine wpAny_bind (wpAny_field g1 g3 (x := .ref t) rfl ?_)
  show wpAny _ _ (if (Value.ref t == Value.none) = true then _ else _) _ _ sh
  rw [if_neg (show ¬ ((Value.ref t == Value.none) = true) by exact Bool.false_ne_true)]
  show wpAny _ _ (field (.ref I) 1 >>= _) _ _ sh
  refine wpAny_bind (wpAny_field g1 g3 (x := .int n 0) rfl ?_)
  show wpAny _ _ (seqItems? (.ref t) >>= _) _ _ sh
  refine wpAny_bind (wpAny_seqItems g4 g5 ?_)
  simp only [Int.toNat_natCast, hv]
  refine wpAny_bind (wpAny_rule (wpAny_bind (wpAny_setField g1 g3 (by simp) ?_)))
  show wpAny _ _ (newExc (.type "StopIteration") [] >>= _) _ _ (_ : Shared)
  refine wpAny_bind ?_
  (simp only [newExc, newTuple]; refine wpAny_bind (wpAny_newObj_type ?_ (by size_fits)))
  (refine wpAny_bind (m := firstArgMember _ _) (wpAny_of_eq (a := Value.none) (by first | rfl | (simp only [firstArgMember]; rfl)) ?_); refine wpAny_newObj_type ?_ (by size_fits))
  (simp only [raiseNew]; refine wpAny_bind (wpAny_handled ?_))
  first | rw [hh] | rw [show Ar.in1.handled = none from hh]
  (refine wpAny_bind (wpAny_pure (wpAny_throw ?_)); skip)
  exact q _ _ (((Heap.SameBut.update ..).extBut.push _).push _) ⟨_, Heap.get?_push_size _ rfl, rfl⟩
theorem drawsT (hh : Ar.handled = none) (I t : Addr) (hne : t ≠ I) (vs : Array Value) : Draws pg wl Ar I [I, t] vs.size (fun i v => vs[i]? = some v) (fun i h => h.IsTupleIter I t i ∧ h.IsTuple t vs) where
  live := fun _ _ st => let ⟨o, ho, _⟩ := st.1; ⟨o, ho⟩
  frame := fun _ _ _ st hk => ⟨st.1.at fun o e => hk I (by simp) o e, let ⟨o, ho, r⟩ := st.2; ⟨o, hk t (by simp) o ho, r⟩⟩
  item := fun i s Q E hi st hQ => by
    refine nextT_item st.1 st.2 (v := vs[i]) (by simp [hi]) fun h' a b => ?_
    exact hQ _ h' s.toks (by simp [hi]) ⟨a, let ⟨o, ho, r⟩ := st.2; ⟨o, b.extBut t o hne ho, r⟩⟩ b
  done := fun s Q E st hE => nextT_end hh st.1 st.2 (by simp) hE
theorem drawsTend (hh : Ar.handled = none) (I t : Addr) (vs : Array Value) (n : Nat) (hn : vs.size ≤ n) : Draws pg wl Ar I [I, t] n (fun _ _ => True) (fun i h => h.IsTupleIter I t i ∧ h.IsTuple t vs ∧ n ≤ i) where
  live := fun _ _ st => let ⟨o, ho, _⟩ := st.1; ⟨o, ho⟩
  frame := fun _ _ _ st hk => ⟨st.1.at fun o e => hk I (by simp) o e, (let ⟨o, ho, r⟩ := st.2.1; ⟨o, hk t (by simp) o ho, r⟩), st.2.2⟩
  item := fun i s Q E hi st hQ => absurd st.2.2 (by omega)
  done := fun s Q E st hE => nextT_end hh st.1 st.2.1 (by simp [hn]) hE
end
theorem meets_enumT (t : Addr) (vs : Array Value) (n : Nat) (dct : Option Addr) (sl : Array (Option Value)) : Meets (Builtin.«enumerate.__new__» ⟨[.type "enumerate", .ref t], []⟩) (fun _ R s => s.heap.get? t = some { cls := .type "tuple", dict := dct, data := .seq vs n, slots := sl } ∧
      R (.ok (.ret (.ref (s.heap.push { cls := .type "tuple_iterator", data := .fields #[.ref t, .int 0 0] }).objs.size))) { s with heap := (s.heap.push { cls := .type "tuple_iterator", data := .fields #[.ref t, .int 0 0] }).push { cls := .type "enumerate", data := .fields #[.none, .bool false, .ref s.heap.objs.size, rawInt 0, .none, .none] } }) :=
  .of_wp fun prog w A R s h => by
    obtain ⟨hp, g, d, tk, os⟩ := s; obtain ⟨hl, h⟩ := id h
    have hsub := sub_enumerate
    have hL : Heap.IsTuple (Shared.heap ⟨hp, g, d, tk, os⟩) t vs := ⟨_, hl, rfl, n, rfl⟩
    wp_walk using AutoSeq1.wpAny_loadPart' hl
    refine wpAny_stack_any fun st => (wpAny_pure ?_)
    split
    · rename_i c _ _ _ _ _
      cases (c == Value.type "enumerate")
      · wp_walk using AutoSeq1.wpAny_loadPart' hl, wpAny_pyIter_tuple hL
        exact ⟨_, rfl, h⟩
      · wp_walk using AutoSeq1.wpAny_loadPart' hl, wpAny_pyIter_tuple hL
        exact ⟨_, rfl, h⟩
    · wp_walk using AutoSeq1.wpAny_loadPart' hl, wpAny_pyIter_tuple hL
      exact ⟨_, rfl, h⟩

theorem call_enumT {pg : Program} {wl : World} {Ar : Around} {Ex : Value → Shared → Prop} {sh : Shared} {t : Addr} {vs : Array Value} {Q : Value → Shared → Prop} (hT : sh.heap.IsTuple t vs)
    (q : ∀ h', IsEnum h' (sh.heap.objs.size + 1) sh.heap.objs.size 0 .none → h'.IsTupleIter sh.heap.objs.size t 0 → h'.objs.size = sh.heap.objs.size + 2 → (∀ b o, sh.heap.get? b = some o → h'.get? b = some o) → Q (.ref (sh.heap.objs.size + 1)) { sh with heap := h' }) :
    wpAny (model pg wl) Ar (call (.type "enumerate") [.ref t]) Q Ex sh := by
  obtain ⟨⟨c, dct, dt, sl⟩, hl, hc, n, hd⟩ := id hT
  have e1 : c = .type "tuple" := hc
  have e2 : dt = .seq vs n := hd
  subst e1 e2
  refine callType_new F.called_enumerate (by decide) (F.typeCall_enumerate_1 _) (F.newCall_enumerate_1 _) (fun ob => F.args_object_init_2 ob _) F.entry_enumerate_new (meets_enumT t vs n dct sl) ⟨hl, ?_⟩
  have hz : (sh.heap.push { cls := .type "tuple_iterator", data := .fields #[.ref t, .int 0 0] }).objs.size = sh.heap.objs.size + 1 := Heap.size_push ..
  show _ ∧ _
  rw [hz]
  have he : IsEnum ((sh.heap.push { cls := .type "tuple_iterator", data := .fields #[.ref t, .int 0 0] }).push { cls := .type "enumerate", data := .fields #[.none, .bool false, .ref sh.heap.objs.size, rawInt 0, .none, .none] }) (sh.heap.objs.size + 1) sh.heap.objs.size 0 .none := by
    have w := Heap.get?_push_size (sh.heap.push { cls := .type "tuple_iterator", data := .fields #[.ref t, .int 0 0] }) (o := { cls := .type "enumerate", data := .fields #[.none, .bool false, .ref sh.heap.objs.size, rawInt 0, .none, .none] }) rfl
    rw [hz] at w; exact w
  exact ⟨⟨_, he, rfl⟩, q _ he ⟨_, Heap.get?_push_of_some _ (Heap.get?_push_size _ rfl), rfl, rfl⟩ (by rw [Heap.size_push, hz]) fun b o x => Heap.get?_push_of_some _ (Heap.get?_push_of_some _ x)⟩
/-- the tuple at a, each item in a new pair -/
def IteT (K : PySem.W.Frag) (a : Addr) : It :=
  ⟨fun i H => ∃ (xs : List V) (x : V), SqT K H a xs ∧ xs[i]? = some x, fun i H v H' => ∃ T x, v = .ref T ∧ H T = none ∧ H' = upd H T (.tup [.int (i : Nat), x]) ∧ ∀ xs, SqT K H a xs → xs[i]? = some x, fun i H => ∃ xs : List V, SqT K H a xs ∧ xs.length ≤ i⟩
theorem turn_enumT {P : Program} {w : World} {K : PySem.W.Frag} {elts : List Expr} {kk : Nat} {tpos : Pos} (a e it : Addr) (hai : a ≠ it) (hae : e ≠ a) :
    Turn P w K (.Tuple elts kk tpos) (IteT K a) [e, it] e (fun i h => (∃ old, IsEnum h e it ((i : Nat) : Int) old) ∧ h.IsTupleIter it a i ∧ e ≠ it) where
  mem := by simp
  obj := fun i h st b hb => by
    obtain ⟨⟨old, he⟩, ⟨o, ho, hc, hd⟩, _⟩ := id st
    have e' : b = e ∨ b = it := (by simpa using hb)
    rcases e' with z | z
    · rw [z]; exact (⟨_, he, fun v q => nomatch q⟩)
    · rw [z]; exact (⟨o, ho, fun v q => by rw [hd] at q; cases q⟩)
  keep := fun i h h' st k => let ⟨⟨old, he⟩, hi, hne⟩ := id st; ⟨⟨old, k e (by simp) _ he⟩, hi.at fun o q => k it (by simp) o q, hne⟩
  item := by
    intro X hP hw hK hc i pins s σ H E I hf st hg; subst hP hw hK
    obtain ⟨⟨old, he⟩, hit, hne⟩ := id st
    obtain ⟨xs, x, hq, hx⟩ := hg
    obtain ⟨its, rv, p, hz⟩ := I.tuple hq
    obtain ⟨u, hu, ru⟩ := rv.get hx
    have hel : e < s.heap.objs.size := Heap.lt_size (id he)
    have hil : it < s.heap.objs.size := by obtain ⟨_, q, _⟩ := id hit; exact Heap.lt_size q
    have hT : s.heap.IsTuple a its.toArray := p
    have hh := I.ok.hd hc
    have hin : i < its.toArray.size := by
      have := (List.getElem?_eq_some_iff.mp hu).1
      simpa using this
    refine wpAny_pyNext_enum_itemD (drawsT (show X.A.in1.handled = none from hh) it a hai its.toArray) he ⟨hit, hT⟩ hin hne (by simp [hne, hae]) fun x' h' tk hx' ho hit' hT' hsz hk => ?_
    have ex : x' = u := by
      have h1 : its.toArray[i]? = some u := by simpa using hu
      rw [h1] at hx'
      exact (Option.some.inj hx').symm
    subst ex
    refine ⟨_, rfl, wpAny_letOwnedTupleGo_enum (s := { s with heap := h', toks := tk + 1 }) ho fun h'' he' sb => ?_⟩
    have hT2 : h''.get? s.heap.objs.size = some { cls := .type "tuple", data := .seq #[.int i tk, x'] } := (sb.2 _ (Nat.ne_of_gt hel)).trans hT'
    have new : ObjOk X.prog X.w (upd H s.heap.objs.size (.tup [.int (i : Nat), x])) h'' s.heap.objs.size (.tup [.int (i : Nat), x]) := ⟨by show 2 ≤ sizeLine; decide, [.int i tk, x'], .cons ⟨_, rfl⟩ (.cons ru .nil), ⟨_, hT2, rfl, _, rfl⟩⟩
    have I1 : Inv X pins σ (upd H s.heap.objs.size (.tup [.int (i : Nat), x])) { s with heap := h'', toks := tk + 1 } :=
      I.turnedNew (ch := [e, it]) (fun b ob hb q => (sb.2 b (fun z => hb (by simp [z]))).trans (hk b ob (fun z => hb (by simp [z])) (fun z => hb (by simp [z])) q)) hf (Nat.le_refl _) new
    refine ⟨.ref s.heap.objs.size, _, I1, rfl, ⟨_, x, rfl, I.hok.fresh (Nat.le_refl _), rfl, fun ys hy => by rw [I.tuple_inj hy hq]; exact hx⟩, ⟨⟨x', ?_⟩, hit'.1.at fun o q => (sb.2 it (Ne.symm hne)).trans q, hne⟩, fun b hb => ?_⟩
    · have e1 : ((i + 1 : Nat) : Int) = (i : Int) + 1 := (by omega)
      rw [e1]; exact he'
    · have hb' : b < s.heap.objs.size := by
        have e' : b = e ∨ b = it := (by simpa using hb)
        rcases e' with z | z
        · rw [z]; exact hel
        · rw [z]; exact hil
      rw [upd_ne (Nat.ne_of_lt hb')]
      exact (hf b hb).1
  done := by
    intro X hP hw hK hc i pins s σ H E I hf st hg; subst hP hw hK
    obtain ⟨⟨old, he⟩, hit, hne⟩ := id st
    obtain ⟨xs, hq, hx⟩ := id hg
    obtain ⟨its, rv, p, hz⟩ := I.tuple hq
    obtain ⟨f0, f1, f2, f3, f4, f5⟩ := hf it (by simp)
    have hl := rv.length
    have hT : s.heap.IsTuple a its.toArray := p
    have hh := I.ok.hd hc
    exact wpAny_pyNext_enum_endD (drawsTend (show X.A.in1.handled = none from hh) it a its.toArray i (by simp; omega)) he ⟨hit, hT, Nat.le_refl i⟩ fun h' eb => ⟨rfl, I.turned (t' := s.toks) (fun b o hb q => eb b o hb q) f0 f1 f3 f4 f5⟩
  self := fun A i s Q E st h => let ⟨⟨_, he⟩, _⟩ := id st; wpAny_pyIter_enum he h

def iEnumB (K : PySem.W.Frag) (ta : TA) : TI := fun σ H R => ta σ H fun vs H1 => (∃ a xs, vs = [.ref a] ∧ SqL K H1 a xs ∧ R (Ite K a) H1) ∨ ∃ a xs, vs = [.ref a] ∧ SqT K H1 a xs ∧ R (IteT K a) H1
theorem pi_enumB {X : Cx} {e : Expr} {ta : TA} {p pos tpos : Pos} {elts : List Expr} {kk : Nat} (hg : Gl X "enumerate") (hm : X.mg "enumerate" = none) (ha : PA X [e] ta) (hs : starEach [e] X.env = [(false, eval e X.env)]) :
    PI X (.Tuple elts kk tpos) (.Call (.Name "enumerate" p) [e] [] pos) (iEnumB X.K ta) := by
  refine ⟨fun pins s σ H R J h => ?_⟩
  refine Call_ (ld_blt J hg hm boot_enumerate (PyProof.Rows.callWith_type1 (thn (ha.run pos pins s σ H _ J h) fun us s1 ⟨vs, H1, J1, r1, q1⟩ => ?_) hs rfl))
  rcases q1 with q2 | q2
  · obtain ⟨a, xs, ex, hq, q⟩ := id q2
    subst ex
    cases r1 with
    | cons r rr =>
      cases rr
      cases r
      obtain ⟨its, rv, p', hz⟩ := J1.list hq
      refine call_enumerate_list p'.isList fun h' he hit hsz hk => wpAny_pyIter_enum he ?_
      have J2 : Inv X pins σ H1 { s1 with heap := h' } := J1.kept (t' := s1.toks) hk
      refine ⟨s1.heap.objs.size + 1, [s1.heap.objs.size + 1, s1.heap.objs.size], _, _, H1, rfl, J2, turn_enum a (s1.heap.objs.size + 1) s1.heap.objs.size, ⟨⟨.none, he⟩, hit, Nat.succ_ne_self _⟩, fun b hb => ?_, q⟩
      have e' : b = s1.heap.objs.size + 1 ∨ b = s1.heap.objs.size := (by simpa using hb)
      have hle : s1.heap.objs.size ≤ b := by
        rcases e' with z | z
        · rw [z]; exact Nat.le_add_right _ _
        · rw [z]; exact Nat.le_refl _
      exact J1.fpOk hle (J1.hok.fresh hle)

  · obtain ⟨a, xs, ex, hq, q⟩ := id q2
    subst ex
    cases r1 with
    | cons r rr =>
      cases rr
      cases r
      obtain ⟨its, rv, p', hz⟩ := J1.tuple hq
      have hT : s1.heap.IsTuple a its.toArray := p'
      have hlt : a < s1.heap.objs.size := IsTup.lt p'
      refine call_enumT hT fun h' he hit hsz hk => wpAny_pyIter_enum he ?_
      have J2 : Inv X pins σ H1 { s1 with heap := h' } := J1.kept (t' := s1.toks) hk
      refine ⟨s1.heap.objs.size + 1, [s1.heap.objs.size + 1, s1.heap.objs.size], _, _, H1, rfl, J2, turn_enumT a (s1.heap.objs.size + 1) s1.heap.objs.size (Nat.ne_of_lt hlt) (Nat.ne_of_gt (Nat.lt_succ_of_lt hlt)), ⟨⟨.none, he⟩, hit, Nat.succ_ne_self _⟩, fun b hb => ?_, q⟩
      have e' : b = s1.heap.objs.size + 1 ∨ b = s1.heap.objs.size := (by simpa using hb)
      have hle : s1.heap.objs.size ≤ b := by
        rcases e' with z | z
        · rw [z]; exact Nat.le_add_right _ _
        · rw [z]; exact Nat.le_refl _
      exact J1.fpOk hle (J1.hok.fresh hle)

end MW

set_option maxRecDepth 100000
set_option maxHeartbeats 3200000
/-! Part 1c: a set made of a list of texts. -/
namespace MW
open PySem PySem.Spec PyProof.Rows L2
theorem dedupS_snoc (xs : List Str) (x : Str) : dedupS (xs ++ [x]) = if (dedupS xs).any (· == x) then dedupS xs else dedupS xs ++ [x] := by
  unfold dedupS
  rw [List.foldl_append]
  rfl
theorem dedupS_le (xs : List Str) : (dedupS xs).length ≤ xs.length := by
  have key : ∀ (l acc : List Str), (l.foldl (fun acc x => if acc.any (· == x) then acc else acc ++ [x]) acc).length ≤ acc.length + l.length := by
    intro l
    induction l with
    | nil => intro acc; exact Nat.le_refl _
    | cons y r ih =>
      intro acc
      rw [List.foldl_cons]
      refine Nat.le_trans (ih _) ?_
      split
      · rw [List.length_cons]; omega
      · simp only [List.length_append, List.length_cons, List.length_nil]; omega
  have := key xs []
  rw [List.length_nil, Nat.zero_add] at this
  exact this
section
variable {pg : Program} {wl : World} {Ar : Around} {Rr : Result → Shared → Prop} {J : Addr} {fps wrs : List Addr} {Gg : Array GenState → Array GenState → Prop} {m : Nat} {Pp : Nat → Value → Prop} {Sst : Nat → Shared → Prop}
theorem setLoopT (Wk : WalksS pg wl Ar.in1 J fps wrs Gg m Pp Sst) (B : Addr) (hB : B ∉ fps) (ts : List Str) (hts : ts.length = m) (hm : m + 1 < scanBound)
    (hv : ∀ i v, Pp i v → ∃ t, v = .str (ts.getD i Str.empty) t) : ∀ (q i : Nat) (sh : Shared), m - i = q → i ≤ m → Sst i sh → sh.heap.SetOf (PySem.strKind pg wl) B (fun z => (dedupS (ts.take i)).any (· == z)) (dedupS (ts.take i)).length →
      (∀ sh', Moved (B :: wrs) Gg sh sh' → sh'.heap.SetOf (PySem.strKind pg wl) B (fun z => (dedupS (ts.take m)).any (· == z)) (dedupS (ts.take m)).length → Rr (.ok (.ret .none)) sh') → codeAny (model pg wl) Ar (.builtin "set.update.loop" ⟨[.ref B, .ref J], []⟩) Rr sh := by
  have hBw : B ∉ wrs := fun z => hB (Wk.sub _ z)
  have inc : ∀ b ∈ wrs, b ∈ B :: wrs := fun b z => List.mem_cons_of_mem _ z
  intro q
  induction q with
  | zero =>
    intro i sh hq hi st hS fin
    obtain rfl : i = m := (by omega)
    refine codeAny_builtin F.entry_set_update_loop (?_ : _)
    rw [Around.under_plainId F.plain_set_update_loop (_)]
    show wpAny _ Ar.in1 (pyNext (.ref J) >>= _) _ _ sh
    refine wpAny_bind (Wk.done sh _ _ st fun sh' mv => ?_)
    show wpAny _ Ar.in1 (ret Value.none) _ _ sh'
    refine wpAny_pure (fin sh' (mv.mono inc) ?_)
    obtain ⟨o, es, ep, t, ho, more⟩ := hS
    exact ⟨o, es, ep, t, mv.heap B _ hBw ho, more⟩
  | succ q ih =>
    intro i sh hq hi st hS fin
    have lt : i < m := (by omega)
    refine codeAny_builtin F.entry_set_update_loop (?_ : _)
    rw [Around.under_plainId F.plain_set_update_loop (_)]
    show wpAny _ Ar.in1 (pyNext (.ref J) >>= _) _ _ sh
    refine wpAny_bind (Wk.item i sh _ _ lt st fun v sh' hP st' mv => ?_)
    obtain ⟨t, rfl⟩ := hv i v hP
    have hS1 : sh'.heap.SetOf (PySem.strKind pg wl) B (fun z => (dedupS (ts.take i)).any (· == z)) (dedupS (ts.take i)).length := by
      obtain ⟨o, es, ep, tb, ho, more⟩ := hS
      exact ⟨o, es, ep, tb, mv.heap B _ hBw ho, more⟩
    show wpAny _ Ar.in1 (holding [Value.str (ts.getD i Str.empty) t] (setAdd B (.str (ts.getD i Str.empty) t)) >>= _) _ _ sh'
    refine wpAny_bind (wpAny_holding ?_)
    unfold setAdd
    refine wpAny_holding ?_
    refine wpAny_bind ((PySem.strKind pg wl).pyHash (k := ts.getD i Str.empty) (strKind_is _ _ _ _) ?_)
    have room : (dedupS (ts.take i)).length + 1 < scanBound := by
      have h1 := dedupS_le (ts.take i)
      rw [List.length_take] at h1
      omega
    refine wpAny_setAddHashed_of (knd := PySem.strKind pg wl) (s := { sh' with toks := sh'.toks + 1 }) (strKind_is _ _ _ _) rfl hS1 room fun hp sb hS2 => ?_
    have tk : ts.take (i + 1) = ts.take i ++ [ts.getD i Str.empty] := by
      have hi' : i < ts.length := by omega
      rw [List.take_add_one, List.getD_eq_getElem?_getD, List.getElem?_eq_getElem hi']
      rfl
    have hS3 : hp.SetOf (PySem.strKind pg wl) B (fun z => (dedupS (ts.take (i + 1))).any (· == z)) (dedupS (ts.take (i + 1))).length := by
      refine SetOf_congr hS2 (fun z => ?_) ?_
      · rw [tk, dedupS_snoc]
        cases c : (dedupS (ts.take i)).any (· == ts.getD i Str.empty) with
        | true =>
          rw [if_pos rfl]
          by_cases e : z = ts.getD i Str.empty
          · rw [e, c]; rfl
          · rw [decide_eq_false e, Bool.or_false]
        | false =>
          rw [if_neg (by decide), List.any_append]
          congr 1
          by_cases e : z = ts.getD i Str.empty
          · rw [e, decide_eq_true rfl]; simp
          · have e2 : (ts.getD i Str.empty == z) = false := beq_eq_false_iff_ne.mpr fun h => e h.symm
            rw [decide_eq_false e, List.any_cons, e2]; rfl
      · rw [tk, dedupS_snoc]
        cases c : (dedupS (ts.take i)).any (· == ts.getD i Str.empty) with
        | true => rfl
        | false => rw [if_neg (by decide), if_neg (by decide), List.length_append]; rfl
    refine wpAny_pure ⟨plainId_quiet F.plain_set_update_loop (_), ih (i + 1) _ (by omega) lt (Wk.frame _ sh' _ _ st' (Nat.le_succ _) fun b hb o e => ?_) hS3 fun sh2 mv2 hS4 => ?_⟩
    · have nb : b ≠ B := fun z => hB (z ▸ hb)
      rw [sb.2 b nb]
      exact e
    · refine fin sh2 (Moved.trans Wk.gtrans ((mv.mono inc).then_heap (Nat.le_succ _) fun b o hb e => ?_) mv2) hS4
      have nb : b ≠ B := fun z => hb (z ▸ List.mem_cons_self)
      rw [sb.2 b nb]
      exact e
end
section
variable {pg : Program} {wl : World} {Ar : Around} {Ex : Value → Shared → Prop} {sh : Shared}
abbrev setO0 (led : Bool) : Obj := { cls := .type "set", dict := none, data := .set #[] 0 (.fresh 0 0 led) }
theorem call_set_listT {l : Addr} {its : Array Value} {ts : List Str} {Q : Value → Shared → Prop} (hh : Ar.handled = none) (hl : sh.heap.IsList l its) (hi : StrsAre its.toList ts) (hn : ts.length + 1 < scanBound)
    (fin : ∀ (hp : Heap) (tk : Nat), hp.SetOf (PySem.strKind pg wl) sh.heap.objs.size (fun z => (dedupS ts).any (· == z)) (dedupS ts).length → (∀ b o, b < sh.heap.objs.size → sh.heap.get? b = some o → hp.get? b = some o) → Q (.ref sh.heap.objs.size) { sh with heap := hp, toks := tk }) :
    wpAny (model pg wl) Ar (call (.type "set") [.ref l]) Q Ex sh := by
  have hsz : ts.length = its.size := by rw [← StrsAre.len_eq hi, Array.length_toList]
  have et : ts.take its.size = ts := List.take_of_length_le (by omega)
  obtain ⟨c, tl, hmro⟩ := PySem.F.called_set.mro
  have hmade := PySem.F.called_set.made
  have hsub := PySem.F.called_set.sub
  refine wpAny_call (codeAny_of_tree ?_)
  show wpAny _ _ (callAny (.type "set") _) _ _ _
  refine wpAny_pure ⟨Code.quiet_builtin _ (by decide +kernel), codeAny_builtin (PySem.F.entry_type_call) ?_⟩
  rw [Around.under_plain (weight_type_call_type "set" [.ref l] []) (rfl)]
  have h1 := PySem.F.called_set.notType
  have h2 := PySem.F.called_set.canCreate
  have hct := PySem.F.typeCall_set_1 (.ref l)
  repeat (any_goals (first | assumption | wp_step))
  refine codeAny_mono (code_set_new_1 (.ref l) (E := Ex) (Q₁ := fun obj s₁ => ∃ led : Bool, obj = .ref sh.heap.objs.size ∧ s₁ = { sh with heap := sh.heap.push (setO0 led) }) fun led => ⟨led, rfl, rfl⟩) fun r s₁ hr => ?_
  cases r with
  | error e => exact hr
  | ok fl =>
    cases fl with
    | ret obj =>
      obtain ⟨led, rfl, rfl⟩ := hr
      have hS : (sh.heap.push (setO0 led)).get? sh.heap.objs.size = some (setO0 led) := Heap.get?_push_size _ rfl
      have hT : Shared.TypeIs { sh with heap := sh.heap.push (setO0 led) } (.ref sh.heap.objs.size) "set" := ⟨_, hS, rfl⟩
      have hli := PySem.F.called_set.init.lookup
      have hbi := PySem.F.called_set.init.bind (.ref sh.heap.objs.size)
      repeat (any_goals (first | assumption | wp_step))
      refine codeAny_mono (codeAny_call_builtin (R := wants (fun r s₂ => r = .none ∧ ∃ hp tk, s₂ = { sh with heap := hp, toks := tk } ∧ hp.SetOf (PySem.strKind pg wl) sh.heap.objs.size (fun z => (dedupS ts).any (· == z)) (dedupS ts).length ∧
          (∀ b o, b < sh.heap.objs.size → sh.heap.get? b = some o → hp.get? b = some o)) Ex) PySem.F.called_set.init.plain PySem.F.entry_set_init (check_set_init_1 hT ?_)) fun r₂ s₂ hr₂ => ?_
      · obtain ⟨⟨ocls, odict, odata, oslots⟩, hol, hcl, nl, hdl⟩ := hl
        simp only at hcl hdl
        subst hcl hdl
        have hol' : (sh.heap.push (setO0 led)).get? l = some { cls := .type "list", dict := odict, data := .seq its nl, slots := oslots } := Heap.get?_push_of_some _ hol
        have hsls := PySem.F.sub_list_set
        have hslf := PySem.F.sub_list_frozenset
        have hne : (Value.type "list" == Value.type "dict") = false := (by decide)
        have hl1 : (sh.heap.push (setO0 led)).IsList l its := ⟨_, hol', rfl, nl, rfl⟩
        unfold Builtin.«set.__init__» noKeywords Builtin.Frozenset.updateFrom
        generalize hPI : pyIter = PI
        wp_walk
        subst hPI
        refine wpAny_pyIter_list hl1 (wpAny_bind (wpAny_runValue ?_))
        have hlS : l < sh.heap.objs.size := Heap.lt_size hol
        have hh3 : Ar.in1.in1.in1.handled = none := (by simp [hh])
        have z1 : (sh.heap.push (setO0 led)).objs.size = sh.heap.objs.size + 1 := Heap.size_push ..
        have hneI : l ≠ (sh.heap.push (setO0 led)).objs.size := by rw [z1]; exact Nat.ne_of_lt (Nat.lt_succ_of_lt hlS)
        have hSf : sh.heap.objs.size ∉ [(sh.heap.push (setO0 led)).objs.size, l] := by
          rw [z1]
          simp only [List.mem_cons, List.not_mem_nil, or_false, not_or]
          exact ⟨Nat.ne_of_lt (Nat.lt_succ_self _), Nat.ne_of_gt hlS⟩
        have hval : ∀ (i : Nat) (v : Value), its[i]? = some v → ∃ t, v = .str (ts.getD i Str.empty) t := fun i v hv => SS.strs_at hi i v (by rw [Array.getElem?_toList]; exact hv)
        refine setLoopT ((Walks.list hh3 _ l hneI its).toS) sh.heap.objs.size hSf ts hsz (by rw [← hsz]; exact hn) hval (its.size - 0) 0 _ (by omega) (Nat.zero_le _) ⟨⟨_, Heap.get?_push_size _ rfl, rfl, rfl⟩, (hl1.push _)⟩ ?hS0 ?hR
        case hS0 =>
          have hget : ((sh.heap.push (setO0 led)).push { cls := .type "list_iterator", data := .fields #[.ref l, .int 0 0] }).get? sh.heap.objs.size = some (setO0 led) := Heap.get?_push_of_some _ hS
          exact SetOf_congr ((setObjOf_fresh (knd := PySem.strKind pg wl) led).setOf hget (by unfold scanBound; omega)) (fun _ => rfl) rfl
        case hR =>
          intro s' hm hS'
          rw [et] at hS'
          obtain ⟨h', g', d', tk', os'⟩ := s'
          have eg : g' = sh.gens := hm.gens
          have ed : d' = sh.drawn := hm.drawn
          have eo : os' = sh.os := hm.os
          subst eg ed eo
          show wpAny _ _ _ _ _ _
          refine wpAny_pure ?_
          show wpAny _ _ (ret Value.none) _ _ _
          refine wpAny_pure ⟨rfl, h', tk', rfl, hS', fun b o hb e => hm.heap b o ?_ (Heap.get?_push_of_some _ (Heap.get?_push_of_some _ e))⟩
          rw [z1]
          simp only [List.mem_cons, List.not_mem_nil, or_false, not_or]
          exact ⟨Nat.ne_of_lt hb, Nat.ne_of_lt (Nat.lt_succ_of_lt hb)⟩
      · cases r₂ with
        | error e => exact hr₂
        | ok fl₂ =>
          cases fl₂ with
          | ret r =>
            obtain ⟨rfl, h', tk, rfl, hS', hk'⟩ := hr₂
            repeat (any_goals (first | assumption | wp_step))
            exact fin _ _ hS' hk'
          | _ => exact hr₂.elim
    | _ => exact hr.elim
end
/-- len(set(xs)), xs a list of texts -/
def tLenT (K : PySem.W.Frag) (ta : TE) : TE := fun σ H Q => ta σ H fun x H1 => ∃ (l : Addr) (ts : List Str), x = .ref l ∧ SqL K H1 l (ts.map V.str) ∧ ts.length ≤ 4000 ∧ Q (.int ((dedupS ts).length : Nat)) H1
theorem len_setT {X : Cx} {pins : List (Addr × Obj)} {σ : L2.St} {H1 : Hp} {s1 : Shared} {l : Addr} {ts : List Str} {Q : VK} {pos : Pos} (I1 : Inv X pins σ H1 s1) (hc : X.calm = true) (hq : SqL X.K H1 l (ts.map V.str)) (hl : ts.length ≤ 4000) (q1 : Q (.int ((dedupS ts).length : Nat)) H1) :
    wpAny (model X.prog X.w) X.A (call (.type "set") [.ref l]) (fun v s₁ => wpAny (model X.prog X.w) X.A (spliced (backTo pos (starEach [] X.env))) (fun vs s₂ => wpAny (model X.prog X.w) X.A (call (.builtin "len") (v :: vs)) (EP X pins σ Q) X.xe s₂) X.xe s₁) X.xe s1 := by
  obtain ⟨its, r, pl, hz⟩ := I1.list hq
  refine call_set_listT (I1.ok.hd hc) pl.isList (by simpa using strsAre_of r) (by unfold scanBound; omega) fun h' tk hS hk => ?_
  refine PyProof.Rows.args_nil ?_
  obtain ⟨o, es, ep, t, ho, hex, hd, _, _, _, hf, hn⟩ := hS
  have I2 : Inv X pins σ H1 { s1 with heap := h', toks := tk } := I1.kept fun b o e => hk b o (Heap.lt_size e) e
  have hle := dedupS_le ts
  exact call_len_set ho hex hd hf (by rw [hn] <;> omega) ⟨.int (dedupS ts).length, H1, I2.tok _, ⟨_, by rw [hn]⟩, q1⟩
end MW

set_option maxRecDepth 100000
set_option maxHeartbeats 1000000
/-! Part 2a: data in the abstract heap; two heaps, F (what stays as it is) within H. -/
namespace MW
open PySem PySem.Spec PyProof.Rows L2
open Res

mutual
inductive Rp (K : PySem.W.Frag) (F : Hp) : V → D → Prop
  | non : Rp K F .non .none
  | bl (b : Bool) : Rp K F (.bl b) (.bool b)
  | int (i : Int) : Rp K F (.int i) (.int i)
  | str (x : Str) : Rp K F (.str x) (.str x)
  | lst {a : Addr} {xs : List V} {ds : List D} : SqL K F a xs → RpAll K F xs ds → Rp K F (.ref a) (.list ds)
  | tup {a : Addr} {xs : List V} {ds : List D} : SqT K F a xs → RpAll K F xs ds → Rp K F (.ref a) (.tuple ds)
  | dic {a : Addr} {kvs : List (Key × V)} {kds : List (D × D)} : F a = some (.dK kvs) → RpKV K F kvs kds → Rp K F (.ref a) (.dict kds)
inductive RpAll (K : PySem.W.Frag) (F : Hp) : List V → List D → Prop
  | nil : RpAll K F [] []
  | cons {v : V} {vs : List V} {d : D} {ds : List D} : Rp K F v d → RpAll K F vs ds → RpAll K F (v :: vs) (d :: ds)
inductive RpKV (K : PySem.W.Frag) (F : Hp) : List (Key × V) → List (D × D) → Prop
  | nil : RpKV K F [] []
  | cons {k : Key} {v : V} {vs : List (Key × V)} {d : D} {ds : List (D × D)} : Rp K F v d → RpKV K F vs ds → RpKV K F ((k, v) :: vs) ((keyD k, d) :: ds)
end

theorem Same.rd {F F' : Hp} {a : Addr} {u : HO} (e : Same F F') (h : Rd F a u) : Rd F' a u := by
  rcases h with h | ⟨o, h⟩
  · exact .inl (e _ _ h)
  · exact .inr ⟨o, e _ _ h⟩
theorem Same.sqt {K : PySem.W.Frag} {F F' : Hp} {a : Addr} {xs : List V} (e : Same F F') (h : SqT K F a xs) : SqT K F' a xs := by
  rcases h with h | h
  · exact .inl (Same.rd e h)
  · exact .inr h
section
variable {K : PySem.W.Frag} {F F' : Hp}
mutual
theorem Rp.mono (e : Same F F') : ∀ {v : V} {d : D}, Rp K F v d → Rp K F' v d
  | _, _, .non => .non
  | _, _, .bl b => .bl b
  | _, _, .int i => .int i
  | _, _, .str x => .str x
  | _, _, .lst h a => .lst (e.seq h) (RpAll.mono e a)
  | _, _, .tup h a => .tup (Same.sqt e h) (RpAll.mono e a)
  | _, _, .dic h a => .dic (e _ _ h) (RpKV.mono e a)
theorem RpAll.mono (e : Same F F') : ∀ {v : List V} {d : List D}, RpAll K F v d → RpAll K F' v d
  | _, _, .nil => .nil
  | _, _, .cons h a => .cons (Rp.mono e h) (RpAll.mono e a)
theorem RpKV.mono (e : Same F F') : ∀ {v : List (Key × V)} {d : List (D × D)}, RpKV K F v d → RpKV K F' v d
  | _, _, .nil => .nil
  | _, _, .cons h a => .cons (Rp.mono e h) (RpKV.mono e a)
end
theorem RpAll.length : ∀ {v : List V} {d : List D}, RpAll K F v d → v.length = d.length
  | _, _, .nil => rfl
  | _, _, .cons _ a => by rw [List.length_cons, List.length_cons, RpAll.length a]
theorem RpKV.length : ∀ {v : List (Key × V)} {d : List (D × D)}, RpKV K F v d → v.length = d.length
  | _, _, .nil => rfl
  | _, _, .cons _ a => by rw [List.length_cons, List.length_cons, RpKV.length a]
theorem RpAll.append : ∀ {v v' : List V} {d d' : List D}, RpAll K F v d → RpAll K F v' d' → RpAll K F (v ++ v') (d ++ d')
  | _, _, _, _, .nil, h => h
  | _, _, _, _, .cons r a, h => .cons r (RpAll.append a h)
theorem RpAll.take : ∀ (n : Nat) {v : List V} {d : List D}, RpAll K F v d → RpAll K F (v.take n) (d.take n)
  | 0, _, _, _ => by rw [List.take_zero, List.take_zero]; exact .nil
  | _ + 1, _, _, .nil => .nil
  | n + 1, _, _, .cons r a => .cons r (RpAll.take n a)
theorem RpAll.drop : ∀ (n : Nat) {v : List V} {d : List D}, RpAll K F v d → RpAll K F (v.drop n) (d.drop n)
  | 0, _, _, h => h
  | _ + 1, _, _, .nil => .nil
  | n + 1, _, _, .cons _ a => RpAll.drop n a
theorem RpAll.reverse {v : List V} {d : List D} (h : RpAll K F v d) : RpAll K F v.reverse d.reverse := by
  have : ∀ {v : List V} {d : List D}, RpAll K F v d → RpAll K F v.reverse d.reverse := by
    intro v
    induction v with
    | nil => intro d h; cases h; exact .nil
    | cons x r ih =>
      intro d h
      cases h with
      | cons p q => rw [List.reverse_cons, List.reverse_cons]; exact RpAll.append (ih q) (.cons p .nil)
  exact this h
theorem RpAll.get : ∀ {v : List V} {d : List D} {i : Nat} {x : D}, RpAll K F v d → d[i]? = some x → ∃ y, v[i]? = some y ∧ Rp K F y x
  | _, _, _, _, .nil, e => by simp at e
  | _, _, 0, _, .cons r _, e => by simp at e; subst e; exact ⟨_, rfl, r⟩
  | _, _, i + 1, x, .cons _ t, e => by
    obtain ⟨u, h1, h2⟩ := RpAll.get (i := i) (x := x) t (by simpa using e)
    exact ⟨u, by simpa using h1, h2⟩
theorem RpAll.getV : ∀ {v : List V} {d : List D} {i : Nat} {y : V}, RpAll K F v d → v[i]? = some y → ∃ x, d[i]? = some x ∧ Rp K F y x
  | _, _, _, _, .nil, e => by simp at e
  | _, _, 0, _, .cons r _, e => by simp at e; subst e; exact ⟨_, rfl, r⟩
  | _, _, i + 1, x, .cons _ t, e => by
    obtain ⟨u, h1, h2⟩ := RpAll.getV (i := i) (y := x) t (by simpa using e)
    exact ⟨u, by simpa using h1, h2⟩
theorem RpAll.atI {v : List V} {d : List D} {i : Int} {x : D} (h : RpAll K F v d) (e : L2.atI d i = some x) : ∃ y, L2.atI v i = some y ∧ Rp K F y x := by
  unfold L2.atI at e ⊢
  rw [h.length]
  cases q : ixN d.length i with
  | none => rw [q] at e; cases e
  | some j =>
    rw [q] at e
    exact RpAll.get h e
theorem RpAll.cut {v : List V} {d : List D} (h : RpAll K F v d) (lo hi : Option Int) : RpAll K F (cutV v lo hi) (cutD d lo hi) := by
  unfold cutV cutD
  rw [h.length]
  exact RpAll.take _ (RpAll.drop _ h)

mutual
theorem Rp.dp : ∀ {v : V} {d : D}, d.canLay0 = true → Rp K F v d → Dp K F v d
  | _, _, _, .non => .non
  | _, _, _, .bl b => .bl b
  | _, _, _, .int i => .int i
  | _, _, _, .str x => .str x
  | _, _, c, .lst h a => .lst h (RpAll.dp (by simpa [PyData.canLay0] using c) a)
  | _, _, c, .tup h a => .tup h (RpAll.dp (by simpa [PyData.canLay0] using c) a)
  | _, _, c, .dic h a => by simp [PyData.canLay0] at c
theorem RpAll.dp : ∀ {v : List V} {d : List D}, PyData.canLayAll0 d = true → RpAll K F v d → DpAll K F v d
  | _, _, _, .nil => .nil
  | _, _, c, .cons h a => by
    simp only [PyData.canLayAll0, Bool.and_eq_true] at c
    exact .cons (Rp.dp c.1 h) (RpAll.dp c.2 a)
end
end

/-- the code that a def makes within (a lambda): its name, the table in which it is told, whether there is any -/
class Lam where
  nm : Str
  P : Addr
  on : Bool
variable [Lam]
/-- the table is there and tells code objects of that name alone -/
def TabG (H : Hp) : Prop := Lam.on = true → ∃ ps : Array Value, H Lam.P = some (.tbl ps) ∧ TriplesOk ps.toList ∧ ∀ (pos : Pos) (cv : Value), codeAmong pos ps.toList = some cv → ∃ c, cv = .ref c ∧ H c = some (LamX.CodeO c Lam.nm)
/-- nothing was written but tables that have grown -/
structure SameG (H H' : Hp) : Prop where
  keep : ∀ b o, H b = some o → (∀ ps, o ≠ .tbl ps) → H' b = some o
  tb : ∀ b ps, H b = some (.tbl ps) → ∃ more, H' b = some (.tbl (ps ++ more))
  ok : TabG H → TabG H'
theorem SameG.refl (H : Hp) : SameG H H := ⟨fun _ _ h _ => h, fun _ ps h => ⟨#[], by rw [h]; simp⟩, fun h => h⟩
theorem SameG.trans {H H1 H2 : Hp} (a : SameG H H1) (b : SameG H1 H2) : SameG H H2 := ⟨fun c o h n => b.keep c o (a.keep c o h n) n, fun c ps h => by
  obtain ⟨m1, e1⟩ := a.tb c ps h
  obtain ⟨m2, e2⟩ := b.tb c _ e1
  exact ⟨m1 ++ m2, by rw [e2, Array.append_assoc]⟩, fun h => b.ok (a.ok h)⟩
theorem SameG.free {H H' : Hp} (a : SameG H H') {p : Addr} (h : H' p = none) : H p = none := by
  cases q : H p with
  | none => rfl
  | some o =>
    by_cases t : ∃ ps, o = .tbl ps
    · obtain ⟨ps, rfl⟩ := t
      obtain ⟨m, e⟩ := a.tb p ps q
      rw [h] at e; cases e
    · rw [a.keep p o q fun ps e => t ⟨ps, e⟩] at h; cases h
theorem SameG.lst {H H' : Hp} (a : SameG H H') {p : Addr} {xs : List V} (h : H p = some (.lst xs)) : H' p = some (.lst xs) := a.keep _ _ h fun _ z => by cases z
theorem SameG.dK {H H' : Hp} (a : SameG H H') {p : Addr} {xs : List (Key × V)} (h : H p = some (.dK xs)) : H' p = some (.dK xs) := a.keep _ _ h fun _ z => by cases z
theorem SameG.seq {K : PySem.W.Frag} {H H' : Hp} (a : SameG H H') {p : Addr} {xs : List V} (h : SqL K H p xs) : SqL K H' p xs := by
  rcases h with h | h
  · rcases h with h | ⟨o, h⟩
    · exact .inl (.inl (a.lst h))
    · exact .inl (.inr ⟨o, a.keep _ _ h fun _ z => by cases z⟩)
  · exact .inr h
/-- all but tables stays -/
def SameN (H H' : Hp) : Prop := ∀ b o, H b = some o → (∀ ps, o ≠ .tbl ps) → H' b = some o
theorem SameN.rd {H H' : Hp} (a : SameN H H') {p : Addr} {u : HO} (h : Rd H p u) (n : ∀ ps, u ≠ .tbl ps) : Rd H' p u := by
  rcases h with h | ⟨o, h⟩
  · exact .inl (a _ _ h n)
  · exact .inr ⟨o, a _ _ h fun _ z => by cases z⟩
theorem SameN.seq {K : PySem.W.Frag} {H H' : Hp} (a : SameN H H') {p : Addr} {xs : List V} (h : SqL K H p xs) : SqL K H' p xs := by
  rcases h with h | h
  · exact .inl (a.rd h fun _ z => by cases z)
  · exact .inr h
theorem SameN.sqt {K : PySem.W.Frag} {H H' : Hp} (a : SameN H H') {p : Addr} {xs : List V} (h : SqT K H p xs) : SqT K H' p xs := by
  rcases h with h | h
  · exact .inl (a.rd h fun _ z => by cases z)
  · exact .inr h
theorem sameN_of {H H' : Hp} (a : Same H H') : SameN H H' := fun b o h _ => a b o h
theorem SameG.of {H H' : Hp} (a : ∀ b o, H b = some o → H' b = some o) : SameG H H' := ⟨fun b o h _ => a b o h, fun b ps h => ⟨#[], by rw [a b _ h]; simp⟩, fun t on => by
  obtain ⟨ps, e, t1, t2⟩ := t on
  exact ⟨ps, a _ _ e, t1, fun pos cv q => by
    obtain ⟨c, e1, e2⟩ := t2 pos cv q
    exact ⟨c, e1, a _ _ e2⟩⟩⟩
/-- a list or dict that may be written is written -/
theorem TabG.put {H : Hp} {a : Addr} {o u : HO} (t : TabG H) (h : H a = some u) (hu : ∀ p, u ≠ .ext p) (hu2 : ∀ ps, u ≠ .tbl ps) (ho : ∀ ps, o ≠ .tbl ps) : TabG (upd H a o) := fun on => by
  obtain ⟨ps, e, t1, t2⟩ := t on
  have nP : Lam.P ≠ a := fun z => by
    rw [z, h] at e; exact hu2 ps (Option.some.inj e)
  refine ⟨ps, by rw [upd_ne nP]; exact e, t1, fun pos cv z => ?_⟩
  obtain ⟨c, e1, e2⟩ := t2 pos cv z
  refine ⟨c, e1, ?_⟩
  have nc : c ≠ a := fun e => by
    subst e; rw [h] at e2; exact hu _ (Option.some.inj e2)
  rw [upd_ne nc]; exact e2
/-- from F, H on nothing was written; what is new in F was not in H -/
structure Ext (F H F' H' : Hp) : Prop where
  f : Same F F'
  h : SameG H H'
  sub : Same F' H'
  new : ∀ a o, F' a = some o → F a = some o ∨ H a = none
theorem Ext.refl {F H : Hp} (s : Same F H) : Ext F H F H := ⟨Same.refl F, SameG.refl H, s, fun _ _ h => .inl h⟩
theorem Ext.trans {F H F1 H1 F2 H2 : Hp} (a : Ext F H F1 H1) (b : Ext F1 H1 F2 H2) : Ext F H F2 H2 where
  f := a.f.trans b.f
  h := a.h.trans b.h
  sub := b.sub
  new := fun p o e => by
    rcases b.new p o e with q | q
    · exact a.new p o q
    · exact .inr (a.h.free q)
theorem same_upd {H : Hp} {p : Addr} {o : HO} (h : H p = none) : Same H (upd H p o) := fun b x e => by
  rw [upd_ne (ne_of_none e h)]
  exact e
/-- .. and it is no part of what stays -/
def TabF (F H : Hp) : Prop := TabG H ∧ (Lam.on = true → F Lam.P = none)
theorem TabF.more {F H F' H' : Hp} (t : TabF F H) (e : Ext F H F' H') : TabF F' H' := ⟨e.h.ok t.1, fun on => by
  cases q : F' Lam.P with
  | none => rfl
  | some o =>
    obtain ⟨ps, h, _⟩ := t.1 on
    rcases e.new _ o q with z | z
    · rw [t.2 on] at z; cases z
    · rw [h] at z; cases z⟩
theorem sameG_upd {H : Hp} {p : Addr} {o : HO} (h : H p = none) (nt : ∀ ps, o ≠ .tbl ps) : SameG H (upd H p o) := SameG.of (same_upd h)
/-- a new object that stays -/
theorem Ext.add {F H : Hp} {p : Addr} {o : HO} (s : Same F H) (n : H p = none) (nt : ∀ ps, o ≠ .tbl ps := by intro _ z; cases z) : Ext F H (upd F p o) (upd H p o) where
  f := same_upd (s.free n)
  h := sameG_upd n nt
  sub := fun b x e => by
    by_cases hb : b = p
    · subst hb; rw [upd_same] at e ⊢; exact e
    · rw [upd_ne hb] at e ⊢; exact s b x e
  new := fun a x e => by
    by_cases hb : a = p
    · subst hb; exact .inr n
    · rw [upd_ne hb] at e; exact .inl e
/-- a new object that may be written yet -/
theorem Ext.fresh {F H : Hp} {p : Addr} {o : HO} (s : Same F H) (n : H p = none) (nt : ∀ ps, o ≠ .tbl ps := by intro _ z; cases z) : Ext F H F (upd H p o) where
  f := Same.refl F
  h := sameG_upd n nt
  sub := s.trans (same_upd n)
  new := fun a x e => .inl e
/-- what may still be written -/
def OwnAt (K : PySem.W.Frag) (F H : Hp) (a : Addr) (d : D) : Prop :=
  (∃ xs ds, d = .list ds ∧ H a = some (.lst xs) ∧ RpAll K F xs ds) ∨ ∃ kvs kds, d = .dict kds ∧ H a = some (.dK kvs) ∧ RpKV K F kvs kds
theorem OwnAt.mono {K : PySem.W.Frag} {F H F' H' : Hp} {a : Addr} {d : D} (e : Ext F H F' H') (h : OwnAt K F H a d) : OwnAt K F' H' a d := by
  rcases h with ⟨xs, ds, h1, h2, h3⟩ | ⟨xs, ds, h1, h2, h3⟩
  · exact .inl ⟨xs, ds, h1, e.h.lst h2, h3.mono e.f⟩
  · exact .inr ⟨xs, ds, h1, e.h.dK h2, h3.mono e.f⟩
/-- an operand: data that stays, or what may still be written -/
def RpO (K : PySem.W.Frag) (F H : Hp) (v : V) (d : D) : Prop := Rp K F v d ∨ ∃ a, v = .ref a ∧ OwnAt K F H a d
theorem RpO.mono {K : PySem.W.Frag} {F H F' H' : Hp} {v : V} {d : D} (e : Ext F H F' H') (h : RpO K F H v d) : RpO K F' H' v d := by
  rcases h with h | ⟨a, rfl, h⟩
  · exact .inl (h.mono e.f)
  · exact .inr ⟨a, rfl, h.mono e⟩
inductive RpOs (K : PySem.W.Frag) (F H : Hp) : List V → List D → Prop
  | nil : RpOs K F H [] []
  | cons {v : V} {vs : List V} {d : D} {ds : List D} : RpO K F H v d → RpOs K F H vs ds → RpOs K F H (v :: vs) (d :: ds)
theorem RpOs.mono {K : PySem.W.Frag} {F H F' H' : Hp} (e : Ext F H F' H') : ∀ {v : List V} {d : List D}, RpOs K F H v d → RpOs K F' H' v d
  | _, _, .nil => .nil
  | _, _, .cons h t => .cons (h.mono e) (RpOs.mono e t)
/-- a list, read -/
theorem RpO.lst {K : PySem.W.Frag} {F H : Hp} {v : V} {ds : List D} (s : Same F H) (h : RpO K F H v (.list ds)) : ∃ a xs, v = .ref a ∧ SqL K H a xs ∧ RpAll K F xs ds := by
  rcases h with h | ⟨a, rfl, h⟩
  · cases h with
    | lst h1 h2 => exact ⟨_, _, rfl, s.seq h1, h2⟩
  · rcases h with ⟨xs, ds', h1, h2, h3⟩ | ⟨_, _, h1, _⟩
    · cases h1; exact ⟨a, xs, rfl, SqL.of h2, h3⟩
    · cases h1
theorem RpO.tup {K : PySem.W.Frag} {F H : Hp} {v : V} {ds : List D} (s : Same F H) (h : RpO K F H v (.tuple ds)) : ∃ a xs, v = .ref a ∧ SqT K H a xs ∧ RpAll K F xs ds ∧ SqT K F a xs := by
  rcases h with h | ⟨a, rfl, h⟩
  · cases h with
    | tup h1 h2 => exact ⟨_, _, rfl, Same.sqt s h1, h2, h1⟩
  · rcases h with ⟨xs, ds', h1, h2, h3⟩ | ⟨_, _, h1, _⟩
    · cases h1
    · cases h1
theorem RpO.dic {K : PySem.W.Frag} {F H : Hp} {v : V} {kds : List (D × D)} (s : Same F H) (h : RpO K F H v (.dict kds)) : ∃ a kvs, v = .ref a ∧ H a = some (.dK kvs) ∧ RpKV K F kvs kds := by
  rcases h with h | ⟨a, rfl, h⟩
  · cases h with
    | dic h1 h2 => exact ⟨_, _, rfl, s _ _ h1, h2⟩
  · rcases h with ⟨xs, ds', h1, h2, h3⟩ | ⟨kvs, kds', h1, h2, h3⟩
    · cases h1
    · cases h1; exact ⟨a, kvs, rfl, h2, h3⟩
theorem RpO.int {K : PySem.W.Frag} {F H : Hp} {v : V} {i : Int} (h : RpO K F H v (.int i)) : v = .int i := by
  rcases h with h | ⟨a, rfl, h⟩
  · cases h; rfl
  · rcases h with ⟨_, _, h1, _⟩ | ⟨_, _, h1, _⟩ <;> cases h1
theorem RpO.bl {K : PySem.W.Frag} {F H : Hp} {v : V} {i : Bool} (h : RpO K F H v (.bool i)) : v = .bl i := by
  rcases h with h | ⟨a, rfl, h⟩
  · cases h; rfl
  · rcases h with ⟨_, _, h1, _⟩ | ⟨_, _, h1, _⟩ <;> cases h1
theorem RpO.str {K : PySem.W.Frag} {F H : Hp} {v : V} {i : Str} (h : RpO K F H v (.str i)) : v = .str i := by
  rcases h with h | ⟨a, rfl, h⟩
  · cases h; rfl
  · rcases h with ⟨_, _, h1, _⟩ | ⟨_, _, h1, _⟩ <;> cases h1
theorem RpO.non {K : PySem.W.Frag} {F H : Hp} {v : V} (h : RpO K F H v .none) : v = .non := by
  rcases h with h | ⟨a, rfl, h⟩
  · cases h; rfl
  · rcases h with ⟨_, _, h1, _⟩ | ⟨_, _, h1, _⟩ <;> cases h1
theorem RpO.dp {K : PySem.W.Frag} {F H : Hp} {v : V} {d : D} (s : Same F H) (h : RpO K F H v d) (c : d.canLay0 = true) : Dp K H v d := by
  rcases h with h | ⟨a, rfl, h⟩
  · exact (h.mono s).dp c
  · rcases h with ⟨xs, ds, rfl, h2, h3⟩ | ⟨_, _, rfl, _⟩
    · exact .lst (SqL.of h2) ((h3.mono s).dp (by simpa [PyData.canLay0] using c))
    · simp [PyData.canLay0] at c

/-! ### what follows an expression -/
/-- whatever comes, comes with more heap: R of the heaps and the answer -/
def KR {α : Type} (R : Hp → Hp → α → Prop) (W : Nat → Hp → Prop) (F H : Hp) (r : Res α) : Prop := match r with
  | .ok a => ∀ F' H', Ext F H F' H' → R F' H' a
  | .exn c => ∀ F' H', Ext F H F' H' → W c H'
  | .stuck => False
section
variable {α β : Type} {R R' : Hp → Hp → α → Prop} {W : Nat → Hp → Prop} {F H F' H' : Hp} {r : Res α}
theorem KR.ext (k : KR R W F H r) (e : Ext F H F' H') : KR R W F' H' r := by
  cases r with
  | ok a => exact fun F2 H2 e2 => k F2 H2 (e.trans e2)
  | exn c => exact fun F2 H2 e2 => k F2 H2 (e.trans e2)
  | stuck => exact k
theorem KR.imp (k : KR R W F H r) (h : ∀ F' H' a, Ext F H F' H' → R F' H' a → R' F' H' a) : KR R' W F H r := by
  cases r with
  | ok a => exact fun F2 H2 e2 => h F2 H2 a e2 (k F2 H2 e2)
  | exn c => exact fun F2 H2 e2 => k F2 H2 e2
  | stuck => exact k
theorem KR.impX {W' : Nat → Hp → Prop} (k : KR R W F H r) (h : ∀ c H', W c H' → W' c H') : KR R W' F H r := by
  cases r with
  | ok a => exact k
  | exn c => exact fun F2 H2 e2 => h _ _ (k F2 H2 e2)
  | stuck => exact k
theorem KR.bind {R : Hp → Hp → β → Prop} {f : α → Res β} (k : KR R W F H (r.bind f)) : KR (fun F1 H1 a => KR R W F1 H1 (f a)) W F H r := by
  cases r with
  | ok a => exact fun F2 H2 e2 => KR.ext (r := f a) k e2
  | exn c => exact fun F2 H2 e2 => k F2 H2 e2
  | stuck => exact k
theorem KR.need {b : Bool} (k : KR R W F H (need b r)) : b = true ∧ KR R W F H r := by
  cases b with
  | true => exact ⟨rfl, k⟩
  | false => exact k.elim
end
section
variable (K : PySem.W.Frag) (W : Nat → Hp → Prop)
/-- strong: the value stays -/
abbrev KE (F H : Hp) (r : Res D) (Q : VK) : Prop := KR (fun F' H' d => ∀ v, Rp K F' v d → Q v H') W F H r
/-- weak: an operand -/
abbrev KO (F H : Hp) (r : Res D) (Q : VK) : Prop := KR (fun F' H' d => ∀ v, RpO K F' H' v d → Q v H') W F H r
/-- a test -/
abbrev KT (F H : Hp) (r : Res Bool) (Q : Bool → Hp → Prop) : Prop := KR (fun _ H' b => Q b H') W F H r
/-- several operands -/
abbrev KA (F H : Hp) (r : Res (List D)) (Q : List V → Hp → Prop) : Prop := KR (fun F' H' ds => ∀ vs, RpOs K F' H' vs ds → Q vs H') W F H r
/-- several values that stay -/
abbrev KAs (F H : Hp) (r : Res (List D)) (Q : List V → Hp → Prop) : Prop := KR (fun F' H' ds => ∀ vs, RpAll K F' vs ds → Q vs H') W F H r
end
end MW

set_option maxRecDepth 100000
set_option maxHeartbeats 1000000
/-! Part 2b: each operation on data is the machine's. -/
namespace MW
open PySem PySem.Spec PyProof.Rows L2
open Res
variable [Lam]

theorem need_true {α : Type} {b : Bool} {x : Res α} (h : b = true) : need b x = x := by rw [h]; rfl
theorem need_false {α : Type} {b : Bool} {x : Res α} (h : b = false) : need b x = .stuck := by rw [h]; rfl
section
variable {K : PySem.W.Frag} {W : Nat → Hp → Prop} {F H : Hp} {Q : VK}
theorem KE.need {b : Bool} {r : Res D} (k : KE K W F H (need b r) Q) : b = true ∧ KE K W F H r Q := KR.need k
theorem KR.elim {α : Type} {R : Hp → Hp → α → Prop} {C : Prop} (k : KR R W F H (.stuck : Res α)) : C := False.elim k
theorem KE.same {d : D} {v : V} (s : Same F H) (k : KE K W F H (.ok d) Q) (r : Rp K F v d) : Q v H := k F H (Ext.refl s) v r
theorem KE.new {d : D} {p : Addr} {o : HO} (s : Same F H) (k : KE K W F H (.ok d) Q) (n : H p = none) (r : Rp K (upd F p o) (.ref p) d) (nt : ∀ ps, o ≠ .tbl ps := by intro _ z; cases z) : Q (.ref p) (upd H p o) := k _ _ (Ext.add s n nt) _ r
theorem fits_le {n : Nat} (h : fitsZ n = true) : n ≤ sizeLine := of_decide_eq_true h
end

def rO2 (K : PySem.W.Frag) (W : Nat → Hp → Prop) (g : D → D → Res D) : R2 := fun x y H Q => ∃ F d e, Same F H ∧ RpO K F H x d ∧ RpO K F H y e ∧ KE K W F H (g d e) Q
def rO1 (K : PySem.W.Frag) (W : Nat → Hp → Prop) (g : List D → Res D) : List V → Hp → VK → Prop := fun xs H Q => ∃ F ds, Same F H ∧ RpOs K F H xs ds ∧ KE K W F H (g ds) Q

section
variable {X : Cx} {W : Nat → Hp → Prop}

/-! ### lists: + of any two -/
theorem op_catR : OpR X (binaryOp .Add) (fun x y H Q => ∃ l b xs zs, x = .ref l ∧ y = .ref b ∧ SqL X.K H l xs ∧ SqL X.K H b zs ∧ xs.length + zs.length ≤ sizeLine ∧ ∀ p, H p = none → Q (.ref p) (upd H p (.lst (xs ++ zs)))) := by
  intro pins s σ H x y v u Q I rx ry h
  obtain ⟨l, b, xs, zs, rfl, rfl, hH, hB, hz, q⟩ := h
  cases rx
  cases ry
  obtain ⟨its, r, p1, _⟩ := I.list hH
  obtain ⟨its2, r2, p2, _⟩ := I.list hB
  obtain ⟨⟨cls, dd, data, sl⟩, ho, hc, n, hd⟩ := p1.isList
  obtain ⟨⟨cls2, dd2, data2, sl2⟩, ho2, hc2, n2, hd2⟩ := p2.isList
  simp only at hc hd hc2 hd2
  subst hc hd hc2 hd2
  have l1 := r.length
  have l2 := r2.length
  have e : its.toArray ++ its2.toArray = (its ++ its2).toArray := by simp
  refine concat_meets ⟨_, ho, rfl⟩ ⟨_, ho2, rfl⟩ noFill_list_add seq_list_add PySem.F.slot_list_add PySem.F.entry_list_add (PySem.F.args_list_add_2 _ _) (PyProof.Rows.list_addW l b its.toArray its2.toArray n n2 dd dd2 sl sl2 (by rw [List.size_toArray, List.size_toArray]; omega)) ⟨ho, ho2, ?_⟩
  rw [e]
  exact ⟨.ref _, _, I.lnew (t' := s.toks) (r.append r2) (by rw [List.length_append]; omega), rfl, q _ I.fresh⟩

theorem upd_rd {F : Hp} {p : Addr} {u : HO} : Rd (upd F p u) p u := .inl upd_same
theorem rp_lst {K : PySem.W.Frag} {F H : Hp} {p : Addr} {xs : List V} {ds : List D} (s : Same F H) (n : H p = none) (h : RpAll K F xs ds) : Rp K (upd F p (.lst xs)) (.ref p) (.list ds) := .lst (.inl upd_rd) (h.mono (same_upd (s.free n)))
theorem rp_tup {K : PySem.W.Frag} {F H : Hp} {p : Addr} {xs : List V} {ds : List D} (s : Same F H) (n : H p = none) (h : RpAll K F xs ds) : Rp K (upd F p (.tup xs)) (.ref p) (.tuple ds) := .tup (.inl upd_rd) (h.mono (same_upd (s.free n)))

theorem rp_rep {K : PySem.W.Frag} {F : Hp} {xs : List V} {ds : List D} (h : RpAll K F xs ds) : ∀ n : Nat, RpAll K F (List.replicate n xs).flatten (List.replicate n ds).flatten
  | 0 => .nil
  | n + 1 => by
    rw [List.replicate_succ, List.replicate_succ, List.flatten_cons, List.flatten_cons]
    exact RpAll.append h (rp_rep h n)
theorem op_addD : OpR X (binaryOp .Add) (rO2 X.K W (opD .Add)) := by
  intro pins s σ H x y v u Q I rx ry h
  obtain ⟨F, d, e, sub, hd, he, k⟩ := h
  cases d with
  | int i =>
    cases e with
    | int j =>
      obtain rfl := hd.int
      obtain rfl := he.int
      exact op_add pins s σ H _ _ v u Q I rx ry ⟨i, j, rfl, rfl, KE.same sub k (.int _)⟩
    | _ => exact k.elim
  | str a =>
    cases e with
    | str b =>
      obtain rfl := hd.str
      obtain rfl := he.str
      obtain ⟨z, k⟩ := KE.need k
      exact op_add_str pins s σ H _ _ v u Q I rx ry ⟨a, b, rfl, rfl, fits_le z, KE.same sub k (.str _)⟩
    | _ => exact k.elim
  | list as =>
    cases e with
    | list bs =>
      obtain ⟨a, xs, rfl, h1, h2⟩ := hd.lst sub
      obtain ⟨b, ys, rfl, h3, h4⟩ := he.lst sub
      obtain ⟨z, k⟩ := KE.need k
      exact op_catR pins s σ H _ _ v u Q I rx ry ⟨a, b, xs, ys, rfl, rfl, h1, h3, by rw [h2.length, h4.length]; exact fits_le z, fun p n => KE.new sub k n (rp_lst sub n (h2.append h4))⟩
    | _ => exact k.elim
  | tuple as =>
    cases e with
    | tuple bs =>
      obtain ⟨a, xs, rfl, h1, h2, h1'⟩ := hd.tup sub
      obtain ⟨b, ys, rfl, h3, h4, h3'⟩ := he.tup sub
      obtain ⟨z, k⟩ := KE.need k
      refine op_catA pins s σ H _ _ v u Q I rx ry ⟨a, b, xs, ys, rfl, rfl, h1, h3, by rw [h2.length, h4.length]; exact fits_le z, fun e => ?_, fun _ e => ?_, fun _ _ p n => KE.new sub k n (rp_tup sub n (h2.append h4))⟩
      · subst e
        cases h2
        exact KE.same sub k (.tup h3' h4)
      · subst e
        cases h4
        rw [List.append_nil] at k
        exact KE.same sub k (.tup h1' h2)
    | _ => exact k.elim
  | _ => exact k.elim
theorem op_subD : OpR X (binaryOp .Sub) (rO2 X.K W (opD .Sub)) := by
  intro pins s σ H x y v u Q I rx ry h
  obtain ⟨F, d, e, sub, hd, he, k⟩ := h
  cases d with
  | int i =>
    cases e with
    | int j =>
      obtain rfl := hd.int
      obtain rfl := he.int
      exact op_sub pins s σ H _ _ v u Q I rx ry ⟨i, j, rfl, rfl, KE.same sub k (.int _)⟩
    | _ => exact k.elim
  | _ => exact k.elim
theorem small_of {i : Int} (h : small64 i = true) : -(2 ^ 64) < i ∧ i < 2 ^ 64 := by
  unfold small64 at h
  rw [Bool.and_eq_true] at h
  exact ⟨of_decide_eq_true h.1, of_decide_eq_true h.2⟩
theorem rep_size (c : Array Nat) : ∀ (n : Nat) (acc : Array Nat), ((List.replicate n c).foldl (· ++ ·) acc).size = acc.size + n * c.size
  | 0, acc => by simp
  | n + 1, acc => by
    rw [List.replicate_succ, List.foldl_cons, rep_size c n, Array.size_append, Nat.succ_mul]
    (omega)
theorem rep_nil (n : Nat) : ∀ acc : Array Nat, (List.replicate n (#[] : Array Nat)).foldl (· ++ ·) acc = acc := by
  induction n with
  | zero => intro acc; rfl
  | succ n ih =>
    intro acc
    rw [List.replicate_succ, List.foldl_cons, Array.append_empty]
    exact ih acc
theorem rep_same {x : Str} {n : Int} (h : (n == 1 || x.length == 0) = true) : repS x n.toNat = x := by
  rw [Bool.or_eq_true] at h
  rcases h with h | h
  · have e : n = 1 := by simpa using h
    subst e
    show Str.mk (#[] ++ x.cps) = x
    rw [Array.empty_append]
  · have e : x.cps.size = 0 := by
      have z : x.length = 0 := by simpa using h
      exact z
    have e2 : x.cps = #[] := Array.eq_empty_of_size_eq_zero e
    unfold repS
    rw [e2, rep_nil]
    cases x
    dsimp only at e2
    rw [e2]
theorem mul_strD {pg : Program} {wl : World} {Ar : Around} {Ex : Value → Shared → Prop} {s : Shared} {x : Str} {n : Int} {t u : Tok} {Q : Value → Shared → Prop} (h0 : 0 ≤ n) (h1 : n ≤ 1000000) (hz : x.length * n.toNat ≤ sizeLine) (q1 : Q (.str (repS x n.toNat) s.toks) { s with toks := s.toks + 1 }) (q2 : Q (.str (repS x n.toNat) t) s) :
    wpAny (model pg wl) Ar (binaryOp .Mult (.str x t) (.int n u)) Q Ex s := by
  have e63 : (2 : Int) ^ 63 = 9223372036854775808 := by decide
  have eS : sizeLine = 16777216 := rfl
  refine P.mul_str ?_ (fun h2 h3 => ?_) (fun h2 h3 => ?_) ?_
  · rw [decide_eq_false (by omega), decide_eq_false (by omega)]; rfl
  · intro h4
    have h5 : n * (x.length : Int) ≤ 16777216 := by
      have : ((x.length * n.toNat : Nat) : Int) ≤ 16777216 := by omega
      rw [Int.natCast_mul, Int.toNat_of_nonneg h0, Int.mul_comm] at this
      exact this
    have h6 : (9223372036854775807 : Int) / n < x.length := by
      have e : (2 : Int) ^ 63 - 1 = 9223372036854775807 := by decide
      rw [e] at h4
      exact h4
    have h7 := Int.lt_mul_of_ediv_lt (by omega : 0 < n) h6
    rw [Int.mul_comm] at h7
    omega
  · unfold Builtin.Str.tooLong
    exact decide_eq_false (by omega)
  · by_cases a : n < 1
    · rw [if_pos a]
      have e : n = 0 := by omega
      subst e
      exact ⟨by decide, q1⟩
    · rw [if_neg a]
      by_cases b : (n == 1 || x.length == 0) = true
      · rw [if_pos b]
        rw [rep_same b] at q2
        exact q2
      · rw [if_neg b]
        refine ⟨?_, q1⟩
        show ((List.replicate n.toNat x.cps).foldl (· ++ ·) #[]).size ≤ sizeLine
        rw [rep_size]
        have e : n.toNat * x.cps.size = x.length * n.toNat := Nat.mul_comm _ _
        simp only [Array.size_empty, Nat.zero_add, e]
        exact hz
theorem op_mulD : OpR X (binaryOp .Mult) (rO2 X.K W (opD .Mult)) := by
  intro pins s σ H x y v u Q I rx ry h
  obtain ⟨F, d, e, sub, hd, he, k⟩ := h
  cases d with
  | int i =>
    cases e with
    | int j =>
      obtain rfl := hd.int
      obtain rfl := he.int
      obtain ⟨z, k⟩ := KE.need k
      rw [Bool.or_eq_true] at z
      refine op_mul pins s σ H _ _ v u Q I rx ry ⟨i, j, rfl, rfl, ?_, KE.same sub k (.int _)⟩
      rcases z with z | z
      · exact .inr (small_of z)
      · exact .inl (small_of z)
    | _ => exact k.elim
  | str a =>
    cases e with
    | int j =>
      obtain rfl := hd.str
      obtain rfl := he.int
      obtain ⟨z, k⟩ := KE.need k
      rw [Bool.and_eq_true, Bool.and_eq_true] at z
      obtain ⟨t, rfl⟩ := id rx
      obtain ⟨t', rfl⟩ := id ry
      exact mul_strD (of_decide_eq_true z.1.1) (of_decide_eq_true z.1.2) (fits_le z.2) ⟨.str (repS a j.toNat), H, I.tok _, ⟨_, rfl⟩, KE.same sub k (.str _)⟩ ⟨.str (repS a j.toNat), H, I, ⟨_, rfl⟩, KE.same sub k (.str _)⟩
    | _ => exact k.elim
  | tuple as =>
    cases e with
    | int j =>
      obtain ⟨a, xs, rfl, h1, h2, h1'⟩ := hd.tup sub
      obtain rfl := he.int
      obtain ⟨z, k⟩ := KE.need k
      rw [Bool.and_eq_true, Bool.and_eq_true, Bool.and_eq_true] at z
      refine op_repT pins s σ H _ _ v u Q I rx ry ⟨a, j, xs, rfl, rfl, h1, fun e => ?_, of_decide_eq_true z.1.1.2, of_decide_eq_true z.1.2, by rw [h2.length]; exact of_decide_eq_true z.2, fun p n => KE.new sub k n (rp_tup sub n (rp_rep h2 _))⟩
      subst e
      cases h2
      exact Bool.noConfusion z.1.1.1
    | _ => exact k.elim
  | _ => exact k.elim
theorem op_shlD : OpR X (binaryOp .LShift) (rO2 X.K W (opD .LShift)) := by
  intro pins s σ H x y v u Q I rx ry h
  obtain ⟨F, d, e, sub, hd, he, k⟩ := h
  cases d with
  | int i =>
    cases e with
    | int j =>
      obtain rfl := hd.int
      obtain rfl := he.int
      obtain ⟨z, k⟩ := KE.need k
      rw [Bool.and_eq_true, Bool.and_eq_true] at z
      exact L2.op_shl pins s σ H _ _ v u Q I rx ry ⟨i, j, rfl, rfl, ⟨of_decide_eq_true z.1.1, of_decide_eq_true z.1.2, of_decide_eq_true z.2⟩, KE.same sub k (.int _)⟩
    | _ => exact k.elim
  | _ => exact k.elim
theorem op_shrD : OpR X (binaryOp .RShift) (rO2 X.K W (opD .RShift)) := by
  intro pins s σ H x y v u Q I rx ry h
  obtain ⟨F, d, e, sub, hd, he, k⟩ := h
  cases d with
  | int i =>
    cases e with
    | int j =>
      obtain rfl := hd.int
      obtain rfl := he.int
      obtain ⟨z, k⟩ := KE.need k
      exact L2.op_shr pins s σ H _ _ v u Q I rx ry ⟨i, j, rfl, rfl, of_decide_eq_true z, KE.same sub k (.int _)⟩
    | _ => exact k.elim
  | _ => exact k.elim
theorem op_bandD : OpR X (binaryOp .BitAnd) (rO2 X.K W (opD .BitAnd)) := by
  intro pins s σ H x y v u Q I rx ry h
  obtain ⟨F, d, e, sub, hd, he, k⟩ := h
  cases d with
  | int i =>
    cases e with
    | int j =>
      obtain rfl := hd.int
      obtain rfl := he.int
      exact L2.op_and pins s σ H _ _ v u Q I rx ry ⟨i, j, rfl, rfl, KE.same sub k (.int _)⟩
    | _ => exact k.elim
  | _ => exact k.elim
theorem op_modD : OpR X (binaryOp .Mod) (rO2 X.K W (opD .Mod)) := by
  intro pins s σ H x y v u Q I rx ry h
  obtain ⟨F, d, e, sub, hd, he, k⟩ := h
  cases d with
  | int i =>
    cases e with
    | int j =>
      obtain rfl := hd.int
      obtain rfl := he.int
      obtain ⟨z, k⟩ := KE.need k
      exact L2.op_mod pins s σ H _ _ v u Q I rx ry ⟨i, j, rfl, rfl, of_decide_eq_true z, KE.same sub k (.int _)⟩
    | _ => exact k.elim
  | _ => exact k.elim
theorem op_fdivD : OpR X (binaryOp .FloorDiv) (rO2 X.K W (opD .FloorDiv)) := by
  intro pins s σ H x y v u Q I rx ry h
  obtain ⟨F, d, e, sub, hd, he, k⟩ := h
  cases d with
  | int i =>
    cases e with
    | int j =>
      obtain rfl := hd.int
      obtain rfl := he.int
      obtain ⟨z, k⟩ := KE.need k
      rw [Bool.and_eq_true] at z
      exact L2.op_fdiv pins s σ H _ _ v u Q I rx ry ⟨i, j, rfl, rfl, ⟨of_decide_eq_true z.1, of_decide_eq_true z.2⟩, KE.same sub k (.int _)⟩
    | _ => exact k.elim
  | _ => exact k.elim
theorem op_none {f : Value → Value → Sem Value} {g : D → D → Res D} (h : ∀ d e, g d e = .stuck) : OpR X f (rO2 X.K W g) := by
  intro pins s σ H x y v u Q I rx ry q
  obtain ⟨F, d, e, sub, hd, he, k⟩ := q
  rw [h] at k
  exact k.elim
theorem op_any (op : Operator) : OpR X (binaryOp op) (rO2 X.K W (opD op)) := by
  cases op with
  | Add => exact op_addD
  | Sub => exact op_subD
  | Mult => exact op_mulD
  | Mod => exact op_modD
  | FloorDiv => exact op_fdivD
  | LShift => exact op_shlD
  | RShift => exact op_shrD
  | BitAnd => exact op_bandD
  | _ => exact op_none fun d e => by cases d <;> cases e <;> rfl

/-! ### comparisons -/
theorem eq_room {A : Around} {k : Nat} (hr : Room k A) {x y : D} (h : (decide (x.depth ≤ lim) || decide (y.depth ≤ lim)) = true) : A.units + min x.depth y.depth < cLine := by
  have h1 := hr.un
  have h2 : min x.depth y.depth ≤ lim := by
    rw [Bool.or_eq_true] at h
    rcases h with h | h
    · exact Nat.le_trans (Nat.min_le_left _ _) (of_decide_eq_true h)
    · exact Nat.le_trans (Nat.min_le_right _ _) (of_decide_eq_true h)
  have h3 : lim = 150 := rfl
  omega
theorem op_eqW {k : Nat} (hr : Room k X.A) : OpR X (compareOp .Eq) (rO2 X.K W eqD) := by
  intro pins s σ H x y v u Q I rx ry h
  obtain ⟨F, d, e, sub, hd, he, k⟩ := h
  obtain ⟨z, k⟩ := KE.need k
  unfold eqOk at z
  rw [Bool.and_eq_true, Bool.and_eq_true] at z
  obtain ⟨as, r1⟩ := Dp.reads I d x v (hd.dp sub z.1.1) rx
  obtain ⟨bs, r2⟩ := Dp.reads I e y u (he.dp sub z.1.2) ry
  exact SeqAt.compareEq_reads r1 r2 z.1.1 z.1.2 (eq_room hr z.2) ⟨.bl _, H, I, rfl, KE.same sub k (.bl _)⟩
theorem op_neW {k : Nat} (hr : Room k X.A) : OpR X (compareOp .NotEq) (rO2 X.K W neD) := by
  intro pins s σ H x y v u Q I rx ry h
  obtain ⟨F, d, e, sub, hd, he, k⟩ := h
  obtain ⟨z, k⟩ := KE.need k
  unfold eqOk at z
  rw [Bool.and_eq_true, Bool.and_eq_true] at z
  obtain ⟨as, r1⟩ := Dp.reads I d x v (hd.dp sub z.1.1) rx
  obtain ⟨bs, r2⟩ := Dp.reads I e y u (he.dp sub z.1.2) ry
  exact SeqAt.compareNe_reads r1 r2 z.1.1 z.1.2 (eq_room hr z.2) ⟨.bl _, H, I, rfl, KE.same sub k (.bl _)⟩
/-- two ints -/
theorem op_ints {op : CmpOp} {p : Int → Int → Bool} (g : OpR X (compareOp op) (rI0 fun i j => .bl (p i j))) : OpR X (compareOp op) (rO2 X.K W fun x y => match x, y with
    | .int i, .int j => .ok (.bool (p i j))
    | _, _ => .stuck) := by
  intro pins s σ H x y v u Q I rx ry h
  obtain ⟨F, d, e, sub, hd, he, k⟩ := h
  cases d with
  | int i =>
    cases e with
    | int j =>
      obtain rfl := hd.int
      obtain rfl := he.int
      exact g pins s σ H _ _ v u Q I rx ry ⟨i, j, rfl, rfl, KE.same sub k (.bl _)⟩
    | _ => exact k.elim
  | _ => exact k.elim
theorem rpO_none {K : PySem.W.Frag} {F H : Hp} {v : V} {d : D} (h : RpO K F H v d) : decide (v = V.non) = isNone d := by
  rcases h with h | ⟨a, rfl, h⟩
  · cases h <;> rfl
  · rcases h with ⟨_, _, rfl, _⟩ | ⟨_, _, rfl, _⟩ <;> rfl
theorem op_isW : OpR X (compareOp .Is) (rO2 X.K W fun x y => (isD x y).map .bool) := by
  intro pins s σ H x y v u Q I rx ry h
  obtain ⟨F, d, e, sub, hd, he, k⟩ := h
  cases e with
  | none =>
    obtain rfl := he.non
    refine op_isN pins s σ H _ _ v u Q I rx ry ⟨rfl, ?_⟩
    rw [rpO_none hd]
    exact KE.same sub k (.bl _)
  | bool b =>
    cases d with
    | bool c =>
      obtain rfl := hd.bl
      obtain rfl := he.bl
      exact op_isBl pins s σ H _ _ v u Q I rx ry ⟨c, b, rfl, rfl, KE.same sub k (.bl _)⟩
    | _ => exact k.elim
  | _ => exact k.elim
theorem op_isNotW : OpR X (compareOp .IsNot) (rO2 X.K W fun x y => (isD x y).map fun b => .bool (!b)) := by
  intro pins s σ H x y v u Q I rx ry h
  obtain ⟨F, d, e, sub, hd, he, k⟩ := h
  cases e with
  | none =>
    obtain rfl := he.non
    refine op_notN pins s σ H _ _ v u Q I rx ry ⟨rfl, ?_⟩
    rw [rpO_none hd]
    exact KE.same sub k (.bl _)
  | bool b =>
    cases d with
    | bool c =>
      obtain rfl := hd.bl
      obtain rfl := he.bl
      exact op_notBl pins s σ H _ _ v u Q I rx ry ⟨c, b, rfl, rfl, KE.same sub k (.bl _)⟩
    | _ => exact k.elim
  | _ => exact k.elim
end
end MW

set_option maxRecDepth 100000
set_option maxHeartbeats 1000000
/-! Part 2c: in, truth, places, slices, built-ins. -/
namespace MW
open PySem PySem.Spec PyProof.Rows L2
open Res
variable [Lam]
section
variable {X : Cx} {W : Nat → Hp → Prop}

/-! ### keys of dicts -/
theorem toKey_keyD (k : Key) : toKey (keyD k) = some k := by cases k <;> rfl
theorem toKey_kV {K : PySem.W.Frag} {F H : Hp} {v : V} {d : D} {k : Key} (h : RpO K F H v d) (e : toKey d = some k) : v = kV k := by
  cases d with
  | int i => cases e; exact h.int
  | str x => cases e; exact h.str
  | _ => cases e
theorem kv_get {K : PySem.W.Frag} {F : Hp} (q : Key) : ∀ {kvs : List (Key × V)} {kds : List (D × D)}, RpKV K F kvs kds →
    (valV kvs q = none ∧ dictGet kds q = none) ∨ ∃ v d, valV kvs q = some v ∧ dictGet kds q = some d ∧ Rp K F v d
  | _, _, .nil => .inl ⟨rfl, rfl⟩
  | _, _, .cons (k := k) (v := v) (d := d) h t => by
    have e2 : ∀ r, dictGet ((keyD k, d) :: r) q = if k = q then some d else dictGet r q := fun r => by
      show (match toKey (keyD k) with | some k' => if k' = q then some d else dictGet r q | none => dictGet r q) = _
      rw [toKey_keyD]
    by_cases hk : k = q
    · refine .inr ⟨v, d, valV_pos hk, ?_, h⟩
      rw [e2, if_pos hk]
    · rw [valV_neg (p := (k, v)) hk, e2, if_neg hk]
      exact kv_get q t
theorem kv_has {K : PySem.W.Frag} {F : Hp} {q : Key} {kvs : List (Key × V)} {kds : List (D × D)} (h : RpKV K F kvs kds) : (valV kvs q).isSome = (dictGet kds q).isSome := by
  rcases kv_get q h with ⟨a, b⟩ | ⟨v, d, a, b, _⟩ <;> (rw [a, b]; rfl)
theorem kv_repl {K : PySem.W.Frag} {F : Hp} {q : Key} {v : V} {d : D} (r : Rp K F v d) : ∀ {kvs : List (Key × V)} {kds : List (D × D)}, RpKV K F kvs kds →
    RpKV K F (kvs.map fun kv => if kv.1 = q then (kv.1, v) else kv) (kds.map fun p => if toKey p.1 = some q then (p.1, d) else p)
  | _, _, .nil => .nil
  | _, _, .cons (k := k) (v := v') (d := d') h t => by
    rw [List.map_cons, List.map_cons]
    have ih := kv_repl (q := q) r t
    by_cases hk : k = q
    · have e : toKey ((keyD k, d') : D × D).1 = some q := by rw [toKey_keyD, hk]
      rw [if_pos (show ((k, v') : Key × V).1 = q from hk), if_pos e]
      exact .cons r ih
    · have e : ¬ toKey ((keyD k, d') : D × D).1 = some q := by
        rw [toKey_keyD]
        intro z
        exact hk (Option.some.inj z)
      rw [if_neg (show ¬ ((k, v') : Key × V).1 = q from hk), if_neg e]
      exact .cons h ih
theorem kv_app {K : PySem.W.Frag} {F : Hp} {q : Key} {v : V} {d : D} (r : Rp K F v d) : ∀ {kvs : List (Key × V)} {kds : List (D × D)}, RpKV K F kvs kds → RpKV K F (kvs ++ [(q, v)]) (kds ++ [(keyD q, d)])
  | _, _, .nil => .cons r .nil
  | _, _, .cons h t => .cons h (kv_app r t)
theorem kv_put {K : PySem.W.Frag} {F : Hp} {q : Key} {v : V} {d : D} (r : Rp K F v d) {kvs : List (Key × V)} {kds : List (D × D)} (h : RpKV K F kvs kds) : RpKV K F (putK kvs q v) (dictPut kds q d) := by
  unfold putK dictPut
  rw [valV_any]
  rcases kv_get q h with ⟨a, b⟩ | ⟨v', d', a, b, _⟩
  · rw [a, b]
    exact kv_app r h
  · rw [a, b]
    exact kv_repl r h

/-! ### in -/
theorem in_room {A : Around} {k : Nat} (hr : Room k A) {x : D} {ds : List D} (h : (decide (x.depth ≤ lim) || decide (PyData.depthAll ds ≤ lim)) = true) : A.units + 1 + min (PyData.depthAll ds) x.depth < cLine := by
  have h1 := hr.un
  have h2 : min (PyData.depthAll ds) x.depth ≤ lim := by
    rw [Bool.or_eq_true] at h
    rcases h with h | h
    · exact Nat.le_trans (Nat.min_le_right _ _) (of_decide_eq_true h)
    · exact Nat.le_trans (Nat.min_le_left _ _) (of_decide_eq_true h)
  have h3 : lim = 150 := rfl
  omega
theorem op_inW {k : Nat} (hr : Room k X.A) : OpR X (compareOp .In) (rO2 X.K W fun x y => (inD x y).map .bool) := by
  intro pins s σ H x y v u Q I rx ry h
  obtain ⟨F, d, e, sub, hd, he, k⟩ := h
  replace k : KE X.K W F H ((inD d e).map PyData.bool) Q := k
  cases e with
  | list ds =>
    by_cases z : inOk d ds = true
    · have k' : KE X.K W F H (.ok (.bool (ds.any fun z => PyData.eqv z d))) Q := by
        have e0 : (inD d (.list ds)).map PyData.bool = .ok (.bool (ds.any fun z => PyData.eqv z d)) := by
          show (need (inOk d ds) (Res.ok (ds.any fun z => PyData.eqv z d))).map PyData.bool = _
          rw [z]; rfl
        rw [e0] at k
        exact k
      unfold inOk at z
      rw [Bool.and_eq_true, Bool.and_eq_true] at z
      obtain ⟨as, r1⟩ := Dp.reads I d x v (hd.dp sub z.1.1) rx
      obtain ⟨bs, r2⟩ := Dp.reads I (.list ds) y u (he.dp sub (by simpa [PyData.canLay0] using z.1.2)) ry
      exact SeqAt.in_list_reads r2 r1 z.1.2 z.1.1 (in_room hr z.2) ⟨.bl _, H, I, rfl, KE.same sub k' (.bl _)⟩
    · have e0 : (inD d (.list ds)).map PyData.bool = .stuck := by
        show (need (inOk d ds) (Res.ok (ds.any fun z => PyData.eqv z d))).map PyData.bool = _
        rw [Bool.eq_false_iff.mpr z]; rfl
      rw [e0] at k
      exact k.elim
  | tuple ds =>
    by_cases z : inOk d ds = true
    · have k' : KE X.K W F H (.ok (.bool (ds.any fun z => PyData.eqv z d))) Q := by
        have e0 : (inD d (.tuple ds)).map PyData.bool = .ok (.bool (ds.any fun z => PyData.eqv z d)) := by
          show (need (inOk d ds) (Res.ok (ds.any fun z => PyData.eqv z d))).map PyData.bool = _
          rw [z]; rfl
        rw [e0] at k
        exact k
      unfold inOk at z
      rw [Bool.and_eq_true, Bool.and_eq_true] at z
      obtain ⟨as, r1⟩ := Dp.reads I d x v (hd.dp sub z.1.1) rx
      obtain ⟨bs, r2⟩ := Dp.reads I (.tuple ds) y u (he.dp sub (by simpa [PyData.canLay0] using z.1.2)) ry
      exact SeqAt.in_tuple_reads r2 r1 z.1.2 z.1.1 (in_room hr z.2) ⟨.bl _, H, I, rfl, KE.same sub k' (.bl _)⟩
    · have e0 : (inD d (.tuple ds)).map PyData.bool = .stuck := by
        show (need (inOk d ds) (Res.ok (ds.any fun z => PyData.eqv z d))).map PyData.bool = _
        rw [Bool.eq_false_iff.mpr z]; rfl
      rw [e0] at k
      exact k.elim
  | str t =>
    cases d with
    | str z =>
      obtain rfl := hd.str
      obtain rfl := he.str
      exact op_in_str pins s σ H _ _ v u Q I rx ry ⟨z, t, rfl, rfl, KE.same sub k (.bl _)⟩
    | _ => exact k.elim
  | dict kds =>
    cases q : toKey d with
    | none =>
      have e0 : (inD d (.dict kds)).map PyData.bool = .stuck := by
        show (match toKey d with | some k => Res.ok (dictGet kds k).isSome | none => .stuck).map PyData.bool = _
        rw [q]; rfl
      rw [e0] at k
      exact k.elim
    | some key =>
      have e0 : (inD d (.dict kds)).map PyData.bool = .ok (.bool (dictGet kds key).isSome) := by
        show (match toKey d with | some k => Res.ok (dictGet kds k).isSome | none => .stuck).map PyData.bool = _
        rw [q]; rfl
      rw [e0] at k
      obtain ⟨a, kvs, rfl, h1, h2⟩ := he.dic sub
      obtain rfl := toKey_kV hd q
      cases ry
      refine d_in (hu_of hr) I (DGet.k h1) rx fun s' I' => ⟨.bl _, H, I', rfl, ?_⟩
      rw [kv_has h2]
      exact KE.same sub k (.bl _)
  | _ => exact k.elim
theorem op_notInW {k : Nat} (hr : Room k X.A) : OpR X (compareOp .NotIn) (rO2 X.K W fun x y => (inD x y).map fun b => .bool (!b)) := by
  intro pins s σ H x y v u Q I rx ry h
  obtain ⟨F, d, e, sub, hd, he, k⟩ := h
  replace k : KE X.K W F H ((inD d e).map fun b => PyData.bool (!b)) Q := k
  cases e with
  | list ds =>
    by_cases z : inOk d ds = true
    · have k' : KE X.K W F H (.ok (.bool (!ds.any fun z => PyData.eqv z d))) Q := by
        have e0 : (inD d (.list ds)).map (fun b => PyData.bool (!b)) = .ok (.bool (!ds.any fun z => PyData.eqv z d)) := by
          show (need (inOk d ds) (Res.ok (ds.any fun z => PyData.eqv z d))).map _ = _
          rw [z]; rfl
        rw [e0] at k
        exact k
      unfold inOk at z
      rw [Bool.and_eq_true, Bool.and_eq_true] at z
      obtain ⟨as, r1⟩ := Dp.reads I d x v (hd.dp sub z.1.1) rx
      obtain ⟨bs, r2⟩ := Dp.reads I (.list ds) y u (he.dp sub (by simpa [PyData.canLay0] using z.1.2)) ry
      exact SeqAt.notIn_list_reads r2 r1 z.1.2 z.1.1 (in_room hr z.2) ⟨.bl _, H, I, rfl, KE.same sub k' (.bl _)⟩
    · have e0 : (inD d (.list ds)).map (fun b => PyData.bool (!b)) = .stuck := by
        show (need (inOk d ds) (Res.ok (ds.any fun z => PyData.eqv z d))).map _ = _
        rw [Bool.eq_false_iff.mpr z]; rfl
      rw [e0] at k
      exact k.elim
  | tuple ds =>
    by_cases z : inOk d ds = true
    · have k' : KE X.K W F H (.ok (.bool (!ds.any fun z => PyData.eqv z d))) Q := by
        have e0 : (inD d (.tuple ds)).map (fun b => PyData.bool (!b)) = .ok (.bool (!ds.any fun z => PyData.eqv z d)) := by
          show (need (inOk d ds) (Res.ok (ds.any fun z => PyData.eqv z d))).map _ = _
          rw [z]; rfl
        rw [e0] at k
        exact k
      unfold inOk at z
      rw [Bool.and_eq_true, Bool.and_eq_true] at z
      obtain ⟨as, r1⟩ := Dp.reads I d x v (hd.dp sub z.1.1) rx
      obtain ⟨bs, r2⟩ := Dp.reads I (.tuple ds) y u (he.dp sub (by simpa [PyData.canLay0] using z.1.2)) ry
      exact SeqAt.notIn_tuple_reads r2 r1 z.1.2 z.1.1 (in_room hr z.2) ⟨.bl _, H, I, rfl, KE.same sub k' (.bl _)⟩
    · have e0 : (inD d (.tuple ds)).map (fun b => PyData.bool (!b)) = .stuck := by
        show (need (inOk d ds) (Res.ok (ds.any fun z => PyData.eqv z d))).map _ = _
        rw [Bool.eq_false_iff.mpr z]; rfl
      rw [e0] at k
      exact k.elim
  | str t =>
    cases d with
    | str z =>
      obtain rfl := hd.str
      obtain rfl := he.str
      exact op_notIn_str pins s σ H _ _ v u Q I rx ry ⟨z, t, rfl, rfl, KE.same sub k (.bl _)⟩
    | _ => exact k.elim
  | dict kds =>
    cases q : toKey d with
    | none =>
      have e0 : (inD d (.dict kds)).map (fun b => PyData.bool (!b)) = .stuck := by
        show (match toKey d with | some k => Res.ok (dictGet kds k).isSome | none => .stuck).map _ = _
        rw [q]; rfl
      rw [e0] at k
      exact k.elim
    | some key =>
      have e0 : (inD d (.dict kds)).map (fun b => PyData.bool (!b)) = .ok (.bool (!(dictGet kds key).isSome)) := by
        show (match toKey d with | some k => Res.ok (dictGet kds k).isSome | none => .stuck).map _ = _
        rw [q]; rfl
      rw [e0] at k
      obtain ⟨a, kvs, rfl, h1, h2⟩ := he.dic sub
      obtain rfl := toKey_kV hd q
      cases ry
      refine d_notIn (hu_of hr) I (DGet.k h1) rx fun s' I' => ⟨.bl _, H, I', rfl, ?_⟩
      rw [kv_has h2]
      exact KE.same sub k (.bl _)
  | _ => exact k.elim
theorem cmp_any {k : Nat} (hr : Room k X.A) (op : CmpOp) : OpR X (compareOp op) (rO2 X.K W (cmpD op)) := by
  cases op with
  | Eq => exact op_eqW hr
  | NotEq => exact op_neW hr
  | Lt => exact op_ints op_lt
  | LtE => exact op_ints op_le
  | Gt => exact op_ints op_gt
  | GtE => exact op_ints op_ge
  | Is => exact op_isW
  | IsNot => exact op_isNotW
  | In => exact op_inW hr
  | NotIn => exact op_notInW hr

/-! ### truth -/
theorem rpO_tru {K : PySem.W.Frag} {F H : Hp} {v : V} {d : D} {b : Bool} (sub : Same F H) (h : RpO K F H v d) (e : truD d = .ok b) : TruV K v H b := by
  cases d with
  | none => obtain rfl := h.non; cases e; rfl
  | bool c => obtain rfl := h.bl; cases e; rfl
  | int i => obtain rfl := h.int; cases e; rfl
  | str x =>
    obtain rfl := h.str
    cases z : fitsZ x.length with
    | true =>
      rw [show truD (.str x) = need (fitsZ x.length) (.ok (x.length != 0)) from rfl, z] at e
      cases e
      refine ⟨fits_le z, ?_⟩
      cases x.length with
      | zero => rfl
      | succ n => rfl
    | false =>
      rw [show truD (.str x) = need (fitsZ x.length) (.ok (x.length != 0)) from rfl, z] at e
      cases e
  | list ds =>
    obtain ⟨a, xs, rfl, h1, h2⟩ := h.lst sub
    cases e
    refine .inl ⟨xs, h1, ?_⟩
    cases h2 <;> rfl
  | tuple ds =>
    obtain ⟨a, xs, rfl, h1, h2, _⟩ := h.tup sub
    cases e
    refine .inr (.inl ⟨xs, h1, ?_⟩)
    cases h2 <;> rfl
  | dict kds =>
    obtain ⟨a, xs, rfl, h1, h2⟩ := h.dic sub
    cases e
    refine .inr (.inr ⟨xs, h1, ?_⟩)
    cases h2 <;> rfl
theorem tru_ok_d {K : PySem.W.Frag} {F H : Hp} {d : D} {x : Res Bool} (e : truD d = x) : x = .stuck ∨ ∃ b, x = .ok b := by
  subst e
  cases d with
  | str x =>
    show (need (fitsZ x.length) (Res.ok (x.length != 0))) = _ ∨ _
    cases z : fitsZ x.length with
    | true => exact .inr ⟨_, need_true z⟩
    | false => exact .inl rfl
  | _ => exact .inr ⟨_, rfl⟩

/-! ### places -/
theorem ix_dict {k : Nat} (hr : Room k X.A) : IxR X (fun x y H Q => ∃ a v, x = .ref a ∧ DGet H a y (some v) ∧ Q v H) := by
  intro value slice pins s σ H x y v u Q I rx ry h hs
  obtain ⟨a, z, rfl, g, q⟩ := h
  cases rx
  exact tail_any (dict_typeIs I g) PySem.F.slot_dict_getitem.lookup (d_getItem (hu_of hr) I g ry fun w' s3 I3 rw' => ⟨z, H, I3, rw', q⟩) hs
theorem ix_any {k : Nat} (hr : Room k X.A) : IxR X (rO2 X.K W itemD) := by
  intro value slice pins s σ H x y v u Q I rx ry h hs
  obtain ⟨F, d, e, sub, hd, he, k⟩ := h
  cases d with
  | list ds =>
    cases e with
    | int i =>
      obtain ⟨a, xs, rfl, h1, h2⟩ := hd.lst sub
      obtain rfl := he.int
      have k : KE X.K W F H (ixD ds i) Q := k
      unfold ixD at k
      cases q : L2.atI ds i with
      | none => rw [q] at k; exact k.elim
      | some d' =>
        rw [q] at k
        obtain ⟨y', hy, ry'⟩ := h2.atI q
        exact ix_list value slice pins s σ H _ _ v u Q I rx ry ⟨a, xs, i, y', rfl, rfl, h1, hy, KE.same sub k ry'⟩ hs
    | _ => exact k.elim
  | tuple ds =>
    cases e with
    | int i =>
      obtain ⟨a, xs, rfl, h1, h2, _⟩ := hd.tup sub
      obtain rfl := he.int
      have k : KE X.K W F H (ixD ds i) Q := k
      unfold ixD at k
      cases q : L2.atI ds i with
      | none => rw [q] at k; exact k.elim
      | some d' =>
        rw [q] at k
        obtain ⟨y', hy, ry'⟩ := h2.atI q
        exact ix_tup value slice pins s σ H _ _ v u Q I rx ry ⟨a, xs, i, y', rfl, rfl, h1, hy, KE.same sub k ry'⟩ hs
    | _ => exact k.elim
  | str z =>
    cases e with
    | int i =>
      obtain rfl := hd.str
      obtain rfl := he.int
      obtain ⟨hz, k⟩ := KE.need (show KE X.K W F H (need (fitsZ z.length) (match L2.atI z.cps.toList i with | some c => .ok (chD c) | none => .stuck)) Q from k)
      cases q : L2.atI z.cps.toList i with
      | none => rw [q] at k; exact k.elim
      | some c =>
        rw [q] at k
        exact ix_str value slice pins s σ H _ _ v u Q I rx ry ⟨z, i, c, rfl, rfl, fits_le hz, q, KE.same sub k (.str _)⟩ hs
    | _ => exact k.elim
  | dict kds =>
    have k : KE X.K W F H (match toKey e with | some k => optR (dictGet kds k) | none => .stuck) Q := k
    cases q : toKey e with
    | none => rw [q] at k; exact k.elim
    | some key =>
      rw [q] at k
      obtain ⟨a, kvs, rfl, h1, h2⟩ := hd.dic sub
      obtain rfl := toKey_kV he q
      have k : KE X.K W F H (optR (dictGet kds key)) Q := k
      rcases kv_get key h2 with ⟨_, b⟩ | ⟨v', d', a', b, r⟩
      · rw [b] at k; exact k.elim
      · rw [b] at k
        refine ix_dict hr value slice pins s σ H _ _ v u Q I rx ry ⟨a, v', rfl, ?_, KE.same sub k r⟩ hs
        rw [← a']
        exact DGet.k h1
  | _ => exact k.elim

/-! ### slices -/
def rSlO (K : PySem.W.Frag) (W : Nat → Hp → Prop) : V → Option Int → Option Int → Hp → VK → Prop := fun x lo hi H Q => ∃ F d, Same F H ∧ RpO K F H x d ∧ KE K W F H (sliceD d lo hi) Q
theorem cutStr_eq (z : Str) (lo hi : Option Int) : cutStr z lo hi = cutS z lo hi := by
  unfold cutStr cutS cutD
  rw [show z.cps.toList.length = z.length by simp [Str.length]]
theorem sl_any : SlR X (rSlO X.K W) := by
  intro pins s σ H x v vl vu lo hi sl Q I rx hs pl pu h
  obtain ⟨F, d, sub, hd, k⟩ := h
  cases d with
  | list ds =>
    obtain ⟨a, xs, rfl, h1, h2⟩ := hd.lst sub
    exact sl_list pins s σ H _ v vl vu lo hi sl Q I rx hs pl pu ⟨a, xs, rfl, h1, fun p n => KE.new sub k n (rp_lst sub n (h2.cut lo hi))⟩
  | tuple ds =>
    obtain ⟨a, xs, rfl, h1, h2, h3⟩ := hd.tup sub
    refine sl_tupA pins s σ H _ v vl vu lo hi sl Q I rx hs pl pu ⟨a, xs, rfl, h1, fun hw => ?_, fun _ p n => KE.new sub k n (rp_tup sub n (h2.cut lo hi))⟩
    refine KE.same sub k (.tup h3 ?_)
    have e : cutD ds lo hi = ds := by
      unfold cutD
      rw [← h2.length, hw.1, hw.2, List.drop_zero, Nat.sub_zero, h2.length]
      exact List.take_length
    rw [e]
    exact h2
  | str z =>
    obtain rfl := hd.str
    obtain ⟨hz, k⟩ := KE.need (show KE X.K W F H (need (fitsZ z.length) (.ok (.str (cutStr z lo hi)))) Q from k)
    refine sl_str pins s σ H _ v vl vu lo hi sl Q I rx hs pl pu ⟨z, rfl, fits_le hz, ?_⟩
    rw [← cutStr_eq]
    exact KE.same sub k (.str _)
  | _ => exact k.elim
end
end MW

set_option maxRecDepth 100000
set_option maxHeartbeats 1000000
/-! Part 2d: built-ins. -/
namespace MW
open PySem PySem.Spec PyProof.Rows L2
open Res
variable [Lam]

/-! ### the order of texts -/
def leC (a b : List Nat) : Prop := ltCps b a = false
theorem ltC_irrefl : ∀ a : List Nat, ltCps a a = false
  | [] => rfl
  | x :: r => by
    show (decide (x < x) || (x == x && ltCps r r)) = false
    rw [ltC_irrefl r]; simp
theorem leC_trans : ∀ {a b c : List Nat}, leC a b → leC b c → leC a c
  | [], b, c, h1, h2 => by
    cases c with
    | nil => rfl
    | cons z t => rfl
  | x :: r, [], c, h1, h2 => by cases h1
  | x :: r, y :: t, [], h1, h2 => by cases h2
  | x :: r, y :: t, z :: u, h1, h2 => by
    have h1' : (decide (y < x) || (y == x && ltCps t r)) = false := h1
    have h2' : (decide (z < y) || (z == y && ltCps u t)) = false := h2
    show (decide (z < x) || (z == x && ltCps u r)) = false
    rw [Bool.or_eq_false_iff] at h1' h2' ⊢
    have a1 := of_decide_eq_false h1'.1
    have a2 := of_decide_eq_false h2'.1
    refine ⟨decide_eq_false (by omega), ?_⟩
    by_cases e : z = x
    · have e1 : y = x := by omega
      have e2 : z = y := by omega
      have b1 : ltCps t r = false := by
        have := h1'.2
        rw [e1] at this
        simpa using this
      have b2 : ltCps u t = false := by
        have := h2'.2
        rw [e2] at this
        simpa using this
      rw [show ltCps u r = false from leC_trans (a := r) (b := t) (c := u) b1 b2, Bool.and_false]
    · rw [show (z == x) = false from beq_eq_false_iff_ne.mpr e, Bool.false_and]
theorem leC_anti : ∀ {a b : List Nat}, leC a b → leC b a → a = b
  | [], [], _, _ => rfl
  | [], _ :: _, _, h => by cases h
  | _ :: _, [], h, _ => by cases h
  | x :: r, y :: t, h1, h2 => by
    have h1' : (decide (y < x) || (y == x && ltCps t r)) = false := h1
    have h2' : (decide (x < y) || (x == y && ltCps r t)) = false := h2
    rw [Bool.or_eq_false_iff] at h1' h2'
    have a1 := of_decide_eq_false h1'.1
    have a2 := of_decide_eq_false h2'.1
    have e : x = y := by omega
    subst e
    have b1 : ltCps t r = false := by simpa using h1'.2
    have b2 : ltCps r t = false := by simpa using h2'.2
    rw [leC_anti (a := r) (b := t) b1 b2]
theorem leC_total (a b : List Nat) : ltCps a b = true → leC a b := by
  intro h
  induction a generalizing b with
  | nil => cases b <;> rfl
  | cons x r ih =>
    cases b with
    | nil => cases h
    | cons y t =>
      have h' : (decide (x < y) || (x == y && ltCps r t)) = true := h
      show (decide (y < x) || (y == x && ltCps t r)) = false
      rw [Bool.or_eq_true] at h'
      rcases h' with h' | h'
      · have a := of_decide_eq_true h'
        rw [show decide (y < x) = false from decide_eq_false (by omega), show (y == x) = false from beq_eq_false_iff_ne.mpr (by omega)]
        rfl
      · rw [Bool.and_eq_true] at h'
        have e : x = y := eq_of_beq h'.1
        subst e
        rw [show ltCps t r = false from ih t h'.2]
        simp
abbrev leS (a b : Str) : Prop := leC a.cps.toList b.cps.toList
theorem leS_anti {a b : Str} (h1 : leS a b) (h2 : leS b a) : a = b := by
  have e := leC_anti h1 h2
  cases a with | mk a => cases b with | mk b => rw [show a = b from Array.ext' e]
theorem insS_perm (x : Str) : ∀ l : List Str, (insS x l).Perm (x :: l)
  | [] => List.Perm.refl _
  | y :: r => by
    unfold insS
    split
    · exact ((insS_perm x r).cons y).trans (List.Perm.swap x y r)
    · exact List.Perm.refl _
theorem sortS_perm : ∀ l : List Str, (sortS l).Perm l
  | [] => List.Perm.refl _
  | x :: r => (insS_perm x (sortS r)).trans ((sortS_perm r).cons x)
theorem insS_sorted (x : Str) : ∀ l : List Str, l.Pairwise leS → (insS x l).Pairwise leS
  | [], _ => List.pairwise_singleton _ _
  | y :: r, h => by
    have h1 := List.pairwise_cons.mp h
    unfold insS
    split
    · rename_i c
      refine List.pairwise_cons.mpr ⟨fun z hz => ?_, insS_sorted x r h1.2⟩
      rcases List.mem_cons.mp ((insS_perm x r).mem_iff.mp hz) with e | e
      · subst e; exact leC_total _ _ c
      · exact h1.1 z e
    · rename_i c
      have c' : leS x y := Bool.eq_false_iff.mpr c
      refine List.pairwise_cons.mpr ⟨fun z hz => ?_, h⟩
      rcases List.mem_cons.mp hz with e | e
      · subst e; exact c'
      · exact leC_trans c' (h1.1 z e)
theorem sortS_sorted : ∀ l : List Str, (sortS l).Pairwise leS
  | [] => List.Pairwise.nil
  | x :: r => insS_sorted x _ (sortS_sorted r)
theorem sortS_unique {a b : List Str} (p : a.Perm b) (h : a.Pairwise leS) : a = sortS b :=
  List.Perm.eq_of_pairwise (fun _ _ _ _ h1 h2 => leS_anti h1 h2) h (sortS_sorted b) (p.trans (sortS_perm b).symm)
theorem sortS_congr {a b : List Str} (p : a.Perm b) : sortS a = sortS b := sortS_unique ((sortS_perm a).trans p) (sortS_sorted a)
theorem rising_pairwise : ∀ (p : Str) (l : List Str), risingS p l = true → (p :: l).Pairwise leS
  | p, [], _ => List.pairwise_singleton _ _
  | p, x :: r, h => by
    have h' : (!ltCps x.cps.toList p.cps.toList && risingS x r) = true := h
    rw [Bool.and_eq_true] at h'
    have c : leS p x := by
      have := h'.1
      rw [Bool.not_eq_true'] at this
      exact this
    have q := rising_pairwise x r h'.2
    refine List.pairwise_cons.mpr ⟨fun z hz => ?_, q⟩
    rcases List.mem_cons.mp hz with e | e
    · subst e; exact c
    · exact leC_trans c ((List.pairwise_cons.mp q).1 z e)
theorem sorted_pairwise : ∀ (l : List Str), sortedS l = true → l.Pairwise leS
  | [], _ => List.Pairwise.nil
  | x :: r, h => rising_pairwise x r h
theorem insI_perm (x : Int) : ∀ l : List Int, (insI x l).Perm (x :: l)
  | [] => List.Perm.refl _
  | y :: r => by
    unfold insI
    split
    · exact ((insI_perm x r).cons y).trans (List.Perm.swap x y r)
    · exact List.Perm.refl _
theorem sortI_perm : ∀ l : List Int, (sortI l).Perm l
  | [] => List.Perm.refl _
  | x :: r => (insI_perm x (sortI r)).trans ((sortI_perm r).cons x)
theorem insI_sorted (x : Int) : ∀ l : List Int, l.Pairwise (· ≤ ·) → (insI x l).Pairwise (· ≤ ·)
  | [], _ => List.pairwise_singleton _ _
  | y :: r, h => by
    have h1 := List.pairwise_cons.mp h
    unfold insI
    split
    · rename_i c
      refine List.pairwise_cons.mpr ⟨fun z hz => ?_, insI_sorted x r h1.2⟩
      rcases List.mem_cons.mp ((insI_perm x r).mem_iff.mp hz) with e | e
      · subst e; exact Int.le_of_lt c
      · exact h1.1 z e
    · rename_i c
      refine List.pairwise_cons.mpr ⟨fun z hz => ?_, h⟩
      rcases List.mem_cons.mp hz with e | e
      · subst e; omega
      · have := h1.1 z e; omega
theorem sortI_sorted : ∀ l : List Int, (sortI l).Pairwise (· ≤ ·)
  | [] => List.Pairwise.nil
  | x :: r => insI_sorted x _ (sortI_sorted r)
theorem sortI_unique {a b : List Int} (p : a.Perm b) (h : a.Pairwise (· ≤ ·)) : a = sortI b :=
  List.Perm.eq_of_pairwise (fun _ _ _ _ h1 h2 => Int.le_antisymm h1 h2) h (sortI_sorted b) (p.trans (sortI_perm b).symm)

section
variable {K : PySem.W.Frag} {F H : Hp}
theorem strs_rp : ∀ {ds : List D} {ss : List Str} {vs : List V}, strsOf ds = some ss → RpAll K F vs ds → vs = ss.map V.str ∧ ds = ss.map PyData.str
  | [], ss, vs, e, h => by
    cases e; cases h; exact ⟨rfl, rfl⟩
  | d :: ds, ss, vs, e, h => by
    cases h with
    | cons r t =>
      cases d with
      | str x =>
        have e' : (strsOf ds).map (x :: ·) = some ss := e
        cases q : strsOf ds with
        | none => rw [q] at e'; cases e'
        | some ss' =>
          rw [q] at e'
          cases e'
          obtain ⟨h1, h2⟩ := strs_rp q t
          cases r
          exact ⟨by rw [h1]; rfl, by rw [h2]; rfl⟩
      | _ => cases e
theorem ints_rp : ∀ {ds : List D} {ss : List Int} {vs : List V}, intsOf ds = some ss → RpAll K F vs ds → vs = ss.map V.int ∧ ds = ss.map PyData.int
  | [], ss, vs, e, h => by
    cases e; cases h; exact ⟨rfl, rfl⟩
  | d :: ds, ss, vs, e, h => by
    cases h with
    | cons r t =>
      cases d with
      | int x =>
        have e' : (intsOf ds).map (x :: ·) = some ss := e
        cases q : intsOf ds with
        | none => rw [q] at e'; cases e'
        | some ss' =>
          rw [q] at e'
          cases e'
          obtain ⟨h1, h2⟩ := ints_rp q t
          cases r
          exact ⟨by rw [h1]; rfl, by rw [h2]; rfl⟩
      | _ => cases e
theorem rp_strs : ∀ ss : List Str, RpAll K F (ss.map V.str) (ss.map PyData.str)
  | [] => .nil
  | s :: r => .cons (.str s) (rp_strs r)
theorem rp_ints : ∀ ss : List Int, RpAll K F (ss.map V.int) (ss.map PyData.int)
  | [] => .nil
  | s :: r => .cons (.int s) (rp_ints r)
theorem bools_rp : ∀ {ds : List D} {b : Bool} {vs : List V}, allB ds = .ok b → RpAll K F vs ds → ∃ bs : List Bool, vs = bs.map V.bl ∧ b = bs.all id
  | [], b, vs, e, h => by
    cases e; cases h; exact ⟨[], rfl, rfl⟩
  | d :: ds, b, vs, e, h => by
    cases h with
    | cons r t =>
      cases d with
      | bool x =>
        have e' : (allB ds).bind (fun c => .ok (x && c)) = .ok b := e
        cases q : allB ds with
        | ok c =>
          rw [q] at e'
          cases e'
          obtain ⟨bs, h1, h2⟩ := bools_rp q t
          cases r
          exact ⟨x :: bs, by rw [h1]; rfl, by rw [h2]; rfl⟩
        | exn c => rw [q] at e'; cases e'
        | stuck => rw [q] at e'; cases e'
      | _ => cases e
theorem allB_cases : ∀ (ds : List D), allB ds = .stuck ∨ ∃ b, allB ds = .ok b
  | [] => .inr ⟨_, rfl⟩
  | d :: ds => by
    cases d with
    | bool x =>
      show (allB ds).bind (fun c => .ok (x && c)) = .stuck ∨ ∃ b, (allB ds).bind (fun c => .ok (x && c)) = .ok b
      rcases allB_cases ds with h | ⟨b, h⟩
      · rw [h]; exact .inl rfl
      · rw [h]; exact .inr ⟨_, rfl⟩
    | _ => exact .inl rfl
end
section
variable {X : Cx} {W : Nat → Hp → Prop}
/-- one operand -/
theorem os1 {K : PySem.W.Frag} {F H : Hp} {xs : List V} {d : D} (h : RpOs K F H xs [d]) : ∃ v, xs = [v] ∧ RpO K F H v d := by
  cases h with
  | cons a b => cases b; exact ⟨_, rfl, a⟩
theorem os2 {K : PySem.W.Frag} {F H : Hp} {xs : List V} {d e : D} (h : RpOs K F H xs [d, e]) : ∃ v u, xs = [v, u] ∧ RpO K F H v d ∧ RpO K F H u e := by
  cases h with
  | cons a b =>
    obtain ⟨u, rfl, q⟩ := os1 b
    exact ⟨_, _, rfl, a, q⟩
theorem cb_len : CallR X (.builtin "len") (rO1 X.K W (bltD .len)) := by
  intro pins s σ H xs us Q I r h
  obtain ⟨F, ds, sub, hd, k⟩ := h
  match ds, hd, k with
  | [d], hd, k =>
    obtain ⟨v, rfl, hv⟩ := os1 hd
    replace k : KE X.K W F H (lenD d) Q := k
    cases d with
    | list ds =>
      obtain ⟨a, xs, rfl, h1, h2⟩ := hv.lst sub
      refine call_len pins s σ H _ us Q I r ⟨_, xs.length, rfl, .inl ⟨xs, h1, rfl⟩, ?_⟩
      rw [h2.length]
      exact KE.same sub k (.int _)
    | tuple ds =>
      obtain ⟨a, xs, rfl, h1, h2, _⟩ := hv.tup sub
      refine call_len pins s σ H _ us Q I r ⟨_, xs.length, rfl, .inr ⟨xs, h1, rfl⟩, ?_⟩
      rw [h2.length]
      exact KE.same sub k (.int _)
    | str z =>
      obtain rfl := hv.str
      obtain ⟨hz, k⟩ := KE.need k
      exact call_len pins s σ H _ us Q I r ⟨_, z.length, rfl, ⟨fits_le hz, rfl⟩, KE.same sub k (.int _)⟩
    | dict kds =>
      obtain ⟨a, kvs, rfl, h1, h2⟩ := hv.dic sub
      obtain ⟨u, rfl, ru⟩ := vals1 r
      cases ru
      refine d_len I (.inl h1) fun t s' I' => ⟨.int _, H, I', ⟨t, rfl⟩, ?_⟩
      rw [h2.length]
      exact KE.same sub k (.int _)
    | _ => exact k.elim
  | [], hd, k => exact k.elim
  | _ :: _ :: _, hd, k => exact k.elim
theorem keys_rp {K : PySem.W.Frag} {F : Hp} : ∀ {kvs : List (Key × V)} {kds : List (D × D)} {ss : List Str}, RpKV K F kvs kds → keysS kds = some ss → kvs.map (·.1) = ss.map Sum.inr
  | _, _, ss, .nil, h => by cases h; rfl
  | _, _, ss, .cons (k := k) (d := d) (ds := ds) r t, h => by
    cases k with
    | inl i =>
      have h' : (none : Option (List Str)) = some ss := h
      cases h'
    | inr x =>
      have h' : (keysS ds).map (x :: ·) = some ss := h
      cases q : keysS ds with
      | none => rw [q] at h'; cases h'
      | some ss' =>
        rw [q] at h'
        cases h'
        rw [List.map_cons, List.map_cons, keys_rp t q]
theorem call_minK (hc : X.calm = true) {pins : List (Addr × Obj)} {s : Shared} {σ : L2.St} {H : Hp} {a : Addr} {kvs : List (Key × V)} {ss : List Str} {m : Str} {Q : VK} (I : Inv X pins σ H s) (ha : H a = some (.dK kvs)) (hk : kvs.map (·.1) = ss.map Sum.inr) (hm : minK ss = some m) (q : Q (.str m) H) :
    wpAny (model X.prog X.w) X.A (call (.builtin "min") [.ref a]) (EP X pins σ Q) X.xe s := by
  obtain ⟨_, hsys, vs, rel, dof⟩ := dk_of I.hok ha
  obtain ⟨ep, dat⟩ := dof.dictAt
  have dat' := dat
  obtain ⟨ob, es, ho, ex, hdat, hko, hpr, hnd⟩ := dat'
  have hlv : vs.length = ss.length := by
    have e1 := congrArg List.length hk
    rw [List.length_map, List.length_map] at e1
    rw [← e1]
    exact (KV.length rel).symm
  have hlen : 0 < vs.length := by
    rw [hlv]
    cases ss with
    | nil => cases hm
    | cons _ _ => exact Nat.succ_pos _
  have hval : ∀ (i : Nat) (v : Value), (∃ k x, vs[i]? = some (k, x) ∧ (mixKind X.prog X.w).is k v = true) → ∃ t, v = Value.str (ss.getD i Str.empty) t := fun i v ⟨k, x, h1, h2⟩ => by
    obtain ⟨y, h3, _⟩ := KV.at' rel h1
    have e1 : (kvs.map (·.1))[i]? = some k := by rw [List.getElem?_map, h3]; rfl
    rw [hk, List.getElem?_map] at e1
    obtain ⟨z, hz, e2⟩ := Option.map_eq_some_iff.mp e1
    subst e2
    rcases keyIs_shape (k := Sum.inr z) (v := v) h2 with ⟨_, _, e, _⟩ | ⟨z', t, e, rfl⟩
    · cases e
    · cases e
      exact ⟨t, by rw [List.getD_eq_getElem?_getD, hz]; rfl⟩
  have hlt : a < s.heap.objs.size := Heap.lt_size ho
  refine call_min_walk (wpAny_pyIter_dict hsys dat ?_)
  refine ⟨_, _, _, _, _, _, fun i j => decide ((ss.getD i Str.empty).cps.toList < (ss.getD j Str.empty).cps.toList), rfl, Walks.dictKeys (knd := mixKind X.prog X.w) (A := X.A.in1) (I.ok.hd hc) s.heap.objs.size a (Nat.ne_of_lt hlt) vs ep, ⟨⟨_, Heap.get?_push_size _ rfl, rfl, rfl⟩, dat.keep fun b u e => Heap.get?_push_of_some _ e⟩, fun b hb => ?_, hlen, fun i j vi vj s' Q' E' hi hj hQ => ?_, fun v h' tk hP hk' => ?_⟩
  · show b < (s.heap.push _).objs.size
    rw [Heap.size_push]
    rcases List.mem_cons.mp hb with e | hb
    · rw [e]; exact Nat.lt_succ_self _
    · rw [List.mem_singleton.mp hb]; exact Nat.lt_succ_of_lt hlt
  · obtain ⟨t, rfl⟩ := hval i vi hi
    obtain ⟨u, rfl⟩ := hval j vj hj
    exact PyProof.Rows.lt_str hQ
  · obtain ⟨t, rfl⟩ := hval _ v hP
    refine ⟨.str m, H, I.kept (t' := tk) fun b u e => hk' b u (fun hmem => ?_) (Heap.get?_push_of_some _ e), ⟨t, ?_⟩, q⟩
    · rw [List.mem_singleton.mp hmem] at e
      exact absurd (Heap.lt_size e) (Nat.lt_irrefl _)
    · unfold minK at hm
      rw [hlv, List.getD_eq_getElem?_getD, hm]; rfl
theorem cb_min (hc : X.calm = true) : CallR X (.builtin "min") (rO1 X.K W (bltD .min2)) := by
  intro pins s σ H xs us Q I r h
  obtain ⟨F, ds, sub, hd, k⟩ := h
  match ds, hd, k with
  | [d, e], hd, k =>
    obtain ⟨v, u, rfl, hv, hu⟩ := os2 hd
    cases d with
    | int i =>
      cases e with
      | int j =>
        obtain rfl := hv.int
        obtain rfl := hu.int
        exact call_min2 hc pins s σ H _ us Q I r ⟨i, j, rfl, KE.same sub k (.int _)⟩
      | _ => exact k.elim
    | _ => exact k.elim
  | [], hd, k => exact k.elim
  | [d], hd, k =>
    cases hd with
    | cons hv ht =>
      cases ht
      cases d with
      | dict kds =>
        obtain ⟨a, kvs, rfl, ha, rkv⟩ := hv.dic sub
        obtain ⟨u, rfl, ru⟩ := r.one
        obtain rfl : u = Value.ref a := ru
        replace k : KE X.K W F H (minD kds) Q := k
        unfold minD at k
        cases z1 : keysS kds with
        | none => rw [z1] at k; exact k.elim
        | some ss =>
          rw [z1] at k
          dsimp only at k
          cases z2 : minK ss with
          | none => rw [z2] at k; exact k.elim
          | some m =>
            rw [z2] at k
            exact call_minK hc I ha (keys_rp rkv z1) z2 (KE.same sub k (.str _))
      | _ => exact k.elim
  | d :: e :: _ :: _, hd, k => cases d <;> cases e <;> exact k.elim
theorem cb_max (hc : X.calm = true) : CallR X (.builtin "max") (rO1 X.K W (bltD .max2)) := by
  intro pins s σ H xs us Q I r h
  obtain ⟨F, ds, sub, hd, k⟩ := h
  match ds, hd, k with
  | [d, e], hd, k =>
    obtain ⟨v, u, rfl, hv, hu⟩ := os2 hd
    cases d with
    | int i =>
      cases e with
      | int j =>
        obtain rfl := hv.int
        obtain rfl := hu.int
        exact call_max2 hc pins s σ H _ us Q I r ⟨i, j, rfl, KE.same sub k (.int _)⟩
      | _ => exact k.elim
    | _ => exact k.elim
  | [], hd, k => exact k.elim
  | [d], hd, k => cases d <;> exact k.elim
  | d :: e :: _ :: _, hd, k => cases d <;> cases e <;> exact k.elim
theorem cb_all (hc : X.calm = true) : CallR X (.builtin "all") (rO1 X.K W (bltD .all)) := by
  intro pins s σ H xs us Q I r h
  obtain ⟨F, ds, sub, hd, k⟩ := h
  match ds, hd, k with
  | [d], hd, k =>
    obtain ⟨v, rfl, hv⟩ := os1 hd
    cases d with
    | list ds =>
      obtain ⟨a, xs, rfl, h1, h2⟩ := hv.lst sub
      replace k : KE X.K W F H ((allB ds).bind fun b => .ok (.bool b)) Q := k
      rcases allB_cases ds with q | ⟨b, q⟩
      · rw [q] at k; exact k.elim
      · rw [q] at k
        obtain ⟨bs, rfl, rfl⟩ := bools_rp q h2
        exact cr_all hc pins s σ H _ us Q I r ⟨a, bs, rfl, h1, KE.same (d := .bool (bs.all id)) sub k (.bl _)⟩
    | _ => exact k.elim
  | [], hd, k => exact k.elim
  | d :: e :: _, hd, k => cases d <;> exact k.elim
theorem ct_tuple : CallR X (.type "tuple") (rO1 X.K W (bltD .tuple)) := by
  intro pins s σ H xs us Q I r h
  obtain ⟨F, ds, sub, hd, k⟩ := h
  match ds, hd, k with
  | [d], hd, k =>
    obtain ⟨v, rfl, hv⟩ := os1 hd
    cases d with
    | list ds =>
      obtain ⟨a, xs, rfl, h1, h2⟩ := hv.lst sub
      exact call_tuple_of pins s σ H _ us Q I r ⟨a, xs, rfl, .inl ⟨h1, fun p n => KE.new (d := .tuple ds) sub k n (rp_tup sub n h2)⟩⟩
    | tuple ds =>
      obtain ⟨a, xs, rfl, h1, h2, h3⟩ := hv.tup sub
      exact call_tuple_of pins s σ H _ us Q I r ⟨a, xs, rfl, .inr ⟨h1, KE.same (d := .tuple ds) sub k (.tup h3 h2)⟩⟩
    | _ => exact k.elim
  | [], hd, k => exact k.elim
  | d :: e :: _, hd, k => cases d <;> exact k.elim
theorem rp_signs {K : PySem.W.Frag} {F : Hp} : ∀ cs : List Nat, RpAll K F (cs.map fun c => V.str ⟨#[c]⟩) (cs.map chD)
  | [] => .nil
  | c :: cs => .cons (.str _) (rp_signs cs)
theorem call_list_text (hc : X.calm = true) : CallR X (.type "list") (fun xs H Q => ∃ z : Str, xs = [.str z] ∧ z.length ≤ sizeLine ∧ ∀ l, H l = none → Q (.ref l) (upd H l (.lst (z.cps.toList.map fun c => V.str ⟨#[c]⟩)))) := by
  intro pins s σ H xs us Q I r h
  obtain ⟨z, rfl, hz, q⟩ := h
  obtain ⟨u, rfl, t, rfl⟩ := vals1 r
  refine call_list_str (I.ok.hd hc) z t (hn := hz) fun h' tk acc' c' hk hS hacc => ?_
  have hv : Vals (z.cps.toList.map fun c => V.str ⟨#[c]⟩) acc'.toList := by
    have hlen : acc'.toList.length = z.cps.toList.length := by
      have := hacc.1
      simpa using this
    have all : ∀ (cs : List Nat) (us : List Value), us.length = cs.length → (∀ (j : Nat) (v : Value), us[j]? = some v → ∃ c u, cs[j]? = some c ∧ v = Value.str ⟨#[c]⟩ u) → Vals (cs.map fun c => V.str ⟨#[c]⟩) us := by
      intro cs
      induction cs with
      | nil =>
        intro us hl _
        cases us with
        | nil => exact .nil
        | cons _ _ => cases hl
      | cons c cs ih =>
        intro us hl hg
        cases us with
        | nil => cases hl
        | cons v us =>
          obtain ⟨c', u, h1, rfl⟩ := hg 0 v rfl
          cases h1
          exact .cons ⟨_, rfl⟩ (ih us (by simpa using hl) fun j v hv => hg (j + 1) v hv)
    refine all _ _ hlen fun j v hj => ?_
    obtain ⟨c, u, hc', e⟩ := hacc.2 j v (by simpa using hj)
    exact ⟨c, u, by simpa using hc', e⟩
  refine ⟨.ref _, _, I.laid (t' := tk) hk (Nat.le_refl _) (show ObjOk X.prog X.w _ h' _ (.lst _) from ⟨?_, acc'.toList, c', hv, by simpa using hS⟩), rfl, q _ (I.hok.fresh (Nat.le_refl _))⟩
  rw [List.length_map, Array.length_toList]
  exact hz
theorem ct_list (hc : X.calm = true) : CallR X (.type "list") (rO1 X.K W (bltD .list)) := by
  intro pins s σ H xs us Q I r h
  obtain ⟨F, ds, sub, hd, k⟩ := h
  match ds, hd, k with
  | [d], hd, k =>
    obtain ⟨v, rfl, hv⟩ := os1 hd
    cases d with
    | list ds =>
      obtain ⟨a, xs, rfl, h1, h2⟩ := hv.lst sub
      exact call_list_of pins s σ H _ us Q I r ⟨a, xs, rfl, .inl h1, fun p n => KE.new (d := .list ds) sub k n (rp_lst sub n h2)⟩
    | tuple ds =>
      obtain ⟨a, xs, rfl, h1, h2, h3⟩ := hv.tup sub
      exact call_list_of pins s σ H _ us Q I r ⟨a, xs, rfl, .inr h1, fun p n => KE.new (d := .list ds) sub k n (rp_lst sub n h2)⟩
    | str z =>
      obtain rfl := hv.str
      obtain ⟨hz, k⟩ := KE.need (show KE X.K W F H (need (fitsZ z.length) (.ok (.list (z.cps.toList.map chD)))) Q from k)
      exact call_list_text hc pins s σ H _ us Q I r ⟨z, rfl, fits_le hz, fun p n => KE.new sub k n (rp_lst sub n (rp_signs _))⟩
    | _ => exact k.elim
  | [], hd, k => exact k.elim
  | d :: e :: _, hd, k => cases d <;> exact k.elim
theorem ct_int : CallR X (.type "int") (rO1 X.K W (bltD .int)) := by
  intro pins s σ H xs us Q I r h
  obtain ⟨F, ds, sub, hd, k⟩ := h
  match ds, hd, k with
  | [d], hd, k =>
    obtain ⟨v, rfl, hv⟩ := os1 hd
    cases d with
    | int i =>
      obtain rfl := hv.int
      exact call_int1 pins s σ H _ us Q I r (.inl ⟨i, rfl, KE.same (d := .int i) sub k (.int _)⟩)
    | bool b =>
      obtain rfl := hv.bl
      exact call_int1 pins s σ H _ us Q I r (.inr ⟨b, rfl, KE.same (d := .int (if b then 1 else 0)) sub k (.int _)⟩)
    | _ => exact k.elim
  | [], hd, k => exact k.elim
  | d :: e :: _, hd, k => cases d <;> exact k.elim
theorem cr_sortedSA : CallR X (.builtin "sorted") (fun vs H Q => ∃ (a : Addr) (xs : List Str), vs = [V.ref a] ∧ SqL X.K H a (xs.map V.str) ∧
    ∀ (ys : List Str) (p : Addr), ys.Perm xs → sortedS ys = true → H p = none → Q (.ref p) (upd H p (.lst (ys.map V.str)))) := by
  intro pins s σ H vs us Q I r h
  obtain ⟨a, xs, rfl, hs, q⟩ := h
  obtain ⟨its, rv, hl, hz⟩ := I.list hs
  rw [Vals.ref1 r]
  have hlen0 := rv.length
  rw [List.length_map] at hlen0 hz
  refine PyProof.Rows.sorted_strsAny hl.isList rv.strs (by rw [← hlen0]; exact hz) fun out ys h1 h2 h3 => ?_
  obtain ⟨ep, he'⟩ := PyProof.Rows.sortedAll_at s.heap its out
  have hlen : (ys.map V.str).length ≤ sizeLine := by rw [List.length_map, h2.length_eq]; exact hz
  exact ⟨.ref _, upd H (s.heap.objs.size + 1) (.lst (ys.map V.str)), I.laid (t' := s.toks) (fun _ _ => PyProof.Rows.sortedAll_old) (Nat.le_succ _) ⟨hlen, out.toList, ep, vals_of_strs h1, he'⟩, rfl, q ys _ h2 h3 (I.hok.fresh (Nat.le_succ _))⟩
theorem cb_sorted : CallR X (.builtin "sorted") (rO1 X.K W (bltD .sorted)) := by
  intro pins s σ H xs us Q I r h
  obtain ⟨F, ds, sub, hd, k⟩ := h
  match ds, hd, k with
  | [d], hd, k =>
    obtain ⟨v, rfl, hv⟩ := os1 hd
    cases d with
    | list ds =>
      obtain ⟨a, xs, rfl, h1, h2⟩ := hv.lst sub
      replace k : KE X.K W F H (sortedD ds) Q := k
      unfold sortedD at k
      cases q : strsOf ds with
      | some ss =>
        rw [q] at k
        obtain ⟨rfl, rfl⟩ := strs_rp q h2
        refine cr_sortedSA pins s σ H _ us Q I r ⟨a, ss, rfl, h1, fun ys p hp hs n => ?_⟩
        have e := sortS_unique hp (sorted_pairwise ys hs)
        subst e
        exact KE.new (d := .list ((sortS ss).map .str)) sub k n (rp_lst sub n (rp_strs _))
      | none =>
        rw [q] at k
        replace k : KE X.K W F H (match intsOf ds with | some is => .ok (.list ((sortI is).map .int)) | none => .stuck) Q := k
        cases q2 : intsOf ds with
        | some ss =>
          rw [q2] at k
          obtain ⟨rfl, rfl⟩ := ints_rp q2 h2
          refine cr_sortedI pins s σ H _ us Q I r ⟨a, ss, rfl, h1, fun ys p hp hs n => ?_⟩
          have e := sortI_unique hp hs
          subst e
          exact KE.new (d := .list ((sortI ss).map .int)) sub k n (rp_lst sub n (rp_ints _))
        | none => rw [q2] at k; exact k.elim
    | _ => exact k.elim
  | [], hd, k => exact k.elim
  | d :: e :: _, hd, k => cases d <;> exact k.elim

/-! ### isinstance -/
def tyName : Ty → String
  | .int => "int"
  | .bool => "bool"
  | .tuple => "tuple"
  | .str => "str"
  | .list => "list"
def dName : D → String
  | .none => "NoneType"
  | .bool _ => "bool"
  | .int _ => "int"
  | .str _ => "str"
  | .list _ => "list"
  | .tuple _ => "tuple"
  | .dict _ => "dict"
theorem kit_table : ∀ t : Ty, kitB "NoneType" (tyName t) = some false ∧ kitB "dict" (tyName t) = some false ∧ kitB "bool" (tyName t) = some (tyB (.bool true) t) ∧ kitB "int" (tyName t) = some (tyB (.int 0) t) ∧
    kitB "str" (tyName t) = some (tyB (.str ⟨#[]⟩) t) ∧ kitB "list" (tyName t) = some (tyB (.list []) t) ∧ kitB "tuple" (tyName t) = some (tyB (.tuple []) t)
  | .int => by decide +kernel
  | .bool => by decide +kernel
  | .tuple => by decide +kernel
  | .str => by decide +kernel
  | .list => by decide +kernel
theorem tyx_of {K : PySem.W.Frag} {F H : Hp} {v : V} {d : D} (sub : Same F H) (h : RpO K F H v d) : TyX K H v (.type (dName d)) := by
  cases d with
  | none => obtain rfl := h.non; exact .base .non
  | bool b => obtain rfl := h.bl; exact .base (.bl b)
  | int b => obtain rfl := h.int; exact .base (.int b)
  | str b => obtain rfl := h.str; exact .base (.str b)
  | list ds =>
    obtain ⟨a, xs, rfl, h1, _⟩ := h.lst sub
    rcases h1 with (h1 | ⟨o, h1⟩) | ⟨o, its, n, h1, h2, _⟩
    · exact .base (.lst h1)
    · exact .base (.frz h1)
    · exact .kList h1 h2
  | tuple ds =>
    obtain ⟨a, xs, rfl, h1, _⟩ := h.tup sub
    rcases h1 with (h1 | ⟨o, h1⟩) | ⟨o, its, n, h1, h2, _⟩
    · exact .base (.tup h1)
    · exact .fTuple h1
    · exact .kTuple h1 h2
  | dict kds =>
    obtain ⟨a, xs, rfl, h1, _⟩ := h.dic sub
    exact .base (.dK h1)
theorem kit_d (d : D) (t : Ty) : kitB (dName d) (tyName t) = some (tyB d t) := by
  obtain ⟨h1, h2, h3, h4, h5, h6, h7⟩ := kit_table t
  cases d with
  | none => rw [show dName .none = "NoneType" from rfl, h1]; cases t <;> rfl
  | dict _ => rw [show dName (.dict _) = "dict" from rfl, h2]; cases t <;> rfl
  | bool _ => exact h3.trans (by cases t <;> rfl)
  | int _ => exact h4.trans (by cases t <;> rfl)
  | str _ => exact h5.trans (by cases t <;> rfl)
  | list _ => exact h6.trans (by cases t <;> rfl)
  | tuple _ => exact h7.trans (by cases t <;> rfl)
end
end MW

set_option maxRecDepth 100000
set_option maxHeartbeats 1000000
/-! Part 2e: the look that compares a text of mine with the given one. -/
namespace MW
open PySem PySem.Spec PyProof.Rows L2
open Res
variable [Lam]

structure Cfg where
  N : List Str
  sc : Scope
  asn : Str → Bool
  fns : List Str
  csts : List Str
  lam : Bool := false

def locB (sc : Scope) (x : Str) : Bool := match sc.names.lookup x with
  | some .local => true
  | some .cell => true
  | _ => false
def visB (sc : Scope) (x : Str) : Bool := match sc.names.lookup x with
  | some .local => true
  | some .cell => true
  | some .free => true
  | _ => false
def glB (sc : Scope) (x : Str) : Bool := match sc.names.lookup x with
  | some .globalImplicit => true
  | _ => false
def plainN (x : Str) : Bool := !(x == ("__debug__" : Str)) && !(x == ("__classdict__" : Str))
def Cfg.inner (C : Cfg) (scope : Scope) : Cfg := { C with sc := relS scope C.sc, asn := locB scope, lam := false }
/-- a lambda's body: one name of its own -/
def Cfg.body (C : Cfg) (p : Str) (scope : Scope) : Cfg := ⟨[p], scope, fun _ => false, C.fns, C.csts, false⟩
def varB (C : Cfg) (i : Nat) (x : Str) : Bool := decide (C.N[i]? = some x) && visB C.sc x && plainN x
def bltName : Blt → Str
  | .len => "len"
  | .min2 => "min"
  | .max2 => "max"
  | .all => "all"
  | .tuple => "tuple"
  | .list => "list"
  | .int => "int"
  | .sorted => "sorted"
def ikName : IK → Str
  | .of => ""
  | .range => "range"
  | .enum => "enumerate"
  | .rev => "reversed"
def notStar : Expr → Bool
  | .Starred _ _ => false
  | _ => true
def okConst : Const → Bool
  | .int _ => true
  | .str _ => true
  | .bool _ => true
  | .none => true
  | _ => false
def isTup : Expr → Bool
  | .Tuple _ _ _ => true
  | _ => false

mutual
def chkG (C : Cfg) : G → Expr → Bool
  | .name i, .Name x _ => decide (C.N[i]? = some x) && C.asn x
  | .tup gs, .Tuple es _ _ => chkGs C gs es
  | _, _ => false
def chkGs (C : Cfg) : Gs → List Expr → Bool
  | .nil, [] => true
  | .cons g gs, e :: es => chkG C g e && chkGs C gs es
  | _, _ => false
end
mutual
/-- all places that a target fills -/
def slotsG : G → List Nat
  | .name i => [i]
  | .tup gs => slotsGs gs
def slotsGs : Gs → List Nat
  | .nil => []
  | .cons g gs => slotsG g ++ slotsGs gs
end

inductive Md where
  | val | opd | tst
def Md.isVal : Md → Bool
  | .val => true
  | _ => false
def Md.isTst : Md → Bool
  | .tst => true
  | _ => false
/-- the mode of the parts of and, or, not -/
def Md.sub : Md → Md
  | .tst => .tst
  | _ => .val
/-- forms that can stand as a test by their truth -/
def tstOk : E → Bool
  | .var _ => true
  | .own _ => true
  | .call _ _ => true
  | .blt _ _ => true
  | .isi _ _ => true
  | .ix _ _ => true
  | .comp _ _ _ _ _ _ => true
  | .and _ _ => true
  | .or _ _ => true
  | .not _ => true
  | .cmp _ _ _ => true
  | .chain _ _ _ _ _ => true
  | _ => false

/-- what a loop walks: the expressions that are asked -/
def itArgs (C : Cfg) (ik : IK) (tg iter : Expr) : Option (List Expr) := match ik with
  | .of => some [iter]
  | .range => match iter with
    | .Call (.Name x _) [a] [] _ => if x = "range" ∧ glB C.sc x = true then some [a] else none
    | .Call (.Name x _) [a, b] [] _ => if x = "range" ∧ glB C.sc x = true then some [a, b] else none
    | _ => none
  | .enum => match tg, iter with
    | .Tuple _ _ _, .Call (.Name x _) [a] [] _ => if x = "enumerate" ∧ glB C.sc x = true then some [a] else none
    | _, _ => none
  | .rev => match iter with
    | .Call (.Name x _) [a] [] _ => if x = "reversed" ∧ glB C.sc x = true then some [a] else none
    | _ => none

def mthName : Mth → Str
  | .index => "index"
  | .countL => "count"
  | .countS => "count"
  | .join => "join"
/-- no call stands ahead of the point -/
def plainO : Expr → Bool
  | .Name _ _ => true
  | .Constant _ _ _ => true
  | _ => false
/-- the step of a slice: -1 or 2 -/
def stepB (k : Int) : Expr → Bool
  | .UnaryOp .USub (.Constant (.int c) _ _) _ => decide (c = 1) && decide (k = -1)
  | .Constant (.int c) _ _ => decide (c = 2) && decide (k = 2)
  | _ => false
/-- key=lambda q: body -/
def keyOf (kws : List Keyword) : Option (Str × Str × Pos × Expr × Scope × Pos) := match kws with
  | [⟨some kn, .Lambda ⟨[], [⟨q, none, qp⟩], none, [], [], none, []⟩ body scope lp, _⟩] => some (kn, q, qp, body, scope, lp)
  | _ => none
theorem keyOf_some {kws : List Keyword} {kn q : Str} {qp lp : Pos} {body : Expr} {scope : Scope} (h : keyOf kws = some (kn, q, qp, body, scope, lp)) : ∃ kp, kws = [⟨some kn, .Lambda ⟨[], [⟨q, none, qp⟩], none, [], [], none, []⟩ body scope lp, kp⟩] := by
  unfold keyOf at h
  split at h
  · cases h; exact ⟨_, rfl⟩
  · cases h
mutual
def chk (C : Cfg) (m : Md) : E → Expr → Bool
  | .var i, .Name x _ => varB C i x
  | .own i, .Name x _ => !m.isVal && varB C i x
  | .cst c, .Constant c' _ _ => !m.isTst && decide (c = c') && okConst c
  | .glob k, .Name x _ => !m.isTst && decide (C.csts[k]? = some x) && glB C.sc x && plainN x
  | .tup es, .Tuple xs _ _ => !m.isTst && chks C .val es xs
  | .lst es, .List xs _ => !m.isTst && chks C .val es xs
  | .dic0, .Dict [] [] _ => !m.isTst
  | .bin op a b, .BinOp x op' y _ => !m.isTst && decide (op = op') && chk C .opd a x && chk C .opd b y
  | .mulL c b, .BinOp (.Constant (.int c') _ _) .Mult y _ => !m.isTst && decide (c = c') && chk C .opd b y
  | .neg a, .UnaryOp .USub x _ => !m.isTst && chk C .opd a x
  | .sortk a key p, .Call (.Name x _) [y] kws _ => !m.isTst && decide (x = "sorted") && glB C.sc x && chk C .opd a y && notStar y && C.lam && (match keyOf kws with
      | some (kn, q, _, body, scope, _) => decide (kn = "key") && decide (q = p) && (decide (p = "place") || decide (p = "word")) && NdefX.nscB [p] [p] [] scope && chk (C.body p scope) .val key body
      | none => false)
  | .rep a b, .BinOp (.List [x] _) .Mult y _ => !m.isTst && chk C .val a x && notStar x && chk C .opd b y
  | .cmp op a b, .Compare x [op'] [y] _ => decide (op = op') && chk C .opd a x && chk C .opd b y
  | .chain op op2 a b c, .Compare x [o1, o2] [y, z] _ => decide (op = o1) && decide (op2 = o2) && chk C .opd a x && chk C .opd b y && chk C .opd c z
  | .and a b, .BoolOp .And (x :: y :: rest) pos => chk C m.sub a x && (match rest with
    | [] => chk C m.sub b y
    | _ :: _ => chk C m.sub b (.BoolOp .And (y :: rest) pos))
  | .or a b, .BoolOp .Or (x :: y :: rest) pos => chk C m.sub a x && (match rest with
    | [] => chk C m.sub b y
    | _ :: _ => chk C m.sub b (.BoolOp .Or (y :: rest) pos))
  | .not a, .UnaryOp .Not x _ => chk C m.sub a x
  | .ife t a b, .IfExp t' x y _ => !m.isTst && chk C .tst t t' && chk C .val a x && chk C .val b y
  | .ix a b, .Subscript x y _ => chk C .opd a x && chk C .val b y
  | .slc a lo hi, .Subscript x (.Slice lo' hi' none _) _ => !m.isTst && chk C .opd a x && (match lo' with
      | none => lo.isAbs
      | some l => !lo.isAbs && chk C .val lo l) && (match hi' with
      | none => hi.isAbs
      | some l => !hi.isAbs && chk C .val hi l)
  | .call f es, .Call (.Name x _) (e :: xs) [] _ => decide (C.fns[f]? = some x) && glB C.sc x && plainN x && chks C .val es (e :: xs)
  | .blt b es, .Call (.Name x _) (e :: xs) [] _ => decide (x = bltName b) && glB C.sc x && chks C .opd es (e :: xs)
  | .chain3 op op2 op3 a b c d, .Compare x [o1, o2, o3] [y, z, u] _ => m.isTst && decide (op = o1) && decide (op2 = o2) && decide (op3 = o3) && chk C .opd a x && chk C .opd b y && chk C .opd c z && chk C .opd d u
  | .slc3 a k, .Subscript x (.Slice none none (some st) _) _ => !m.isTst && chk C .opd a x && stepB k st
  | .lenset a, .Call (.Name x _) [.Call (.Name y _) [z] [] _] [] _ => !m.isTst && decide (x = "len") && decide (y = "set") && glB C.sc x && glB C.sc y && chk C .opd a z
  | .meth mt o a, .Call (.Attribute o' x apos) [v] [] cpos => !m.isTst && decide (x = mthName mt) && plainO o' && decide (apos.endLine = cpos.line) && chk C .opd o o' && chk C .opd a v
  | .isi a [t], .Call (.Name x _) [y, .Name T _] [] _ => decide (x = "isinstance") && glB C.sc x && chk C .opd a y && decide (T = Str.ofString (tyName t)) && glB C.sc T
  | .comp elt g ik ia cond own, .ListComp elt' [⟨tg, iter, ifs, 0⟩] scope _ => blkC C.N C.sc scope own && chkG (C.inner scope) g tg && (slotsG g).all (fun i => decide (i ∈ own.map (·.2))) &&
      (match itArgs C ik tg iter with
        | some xs => chks C .opd ia xs
        | none => false) && (match ifs with
        | [] => chks (C.inner scope) .tst cond []
        | [c] => chks (C.inner scope) .tst cond [c]
        | _ => false) && chk (C.inner scope) .val elt elt'
  | _, _ => false
def chks (C : Cfg) (m : Md) : Es → List Expr → Bool
  | .nil, [] => true
  | .cons e es, x :: xs => chk C m e x && notStar x && chks C m es xs
  | _, _ => false
end

/-- two names of which one is a cell -/
def oneCell (sc : Scope) : Expr → Bool
  | .Tuple [.Name x _, .Name y _] _ _ => decide (sc.names.lookup x ≠ some .local) || decide (sc.names.lookup y ≠ some .local)
  | _ => false
/-- isinstance(n, A) and not isinstance(n, (B, C)) and isinstance(n, ValueError) -/
def exIs (sc : Scope) (cls : List Str) (c c2 c3 : Nat) (n : Str) : Expr → Bool
  | .BoolOp .And [.Call (.Name i1 _) [.Name n1 _, .Name A _] [] _, .UnaryOp .Not (.Call (.Name i2 _) [.Name n2 _, .Tuple [.Name B _, .Name C _] _ _] [] _) _, .Call (.Name i3 _) [.Name n3 _, .Name V _] [] _] _ =>
    (decide (i1 = "isinstance") && decide (i2 = "isinstance") && decide (i3 = "isinstance")) && (decide (n1 = n) && decide (n2 = n) && decide (n3 = n)) && (decide (cls[c]? = some A) && decide (cls[c2]? = some B) && decide (cls[c3]? = some C)) &&
      (decide (V = "ValueError") && glB sc "isinstance" && glB sc "ValueError") && (glB sc A && glB sc B && glB sc C) && (plainN n && plainN A && plainN B && plainN C)
  | _ => false
def chkH (C : Cfg) (cls : List Str) (c i : Nat) : Hd → Option Str → List Stmt → Bool
  | .setT, none, [.Assign [.Name x _] (.Constant (.bool true) _ _) _] => decide (C.N[i]? = some x) && C.asn x
  | .retT, none, [.Return (some (.Constant (.bool true) _ _)) _] => true
  | .isT c2 c3 j, some n, [.Assign [.Name x _] v _] => (decide (C.N[i]? = some x) && C.asn x) && (decide (C.N[j]? = some n) && decide (C.sc.names.lookup n = some .local) && decide (i ≠ j)) && (decide (c2 ≠ c) && decide (c3 ≠ c) && exIs C.sc cls c c2 c3 n v)
  | .nonI c2 c3 j, some n, [.If v [.Assign [.Name x _] (.Constant .none _ _) _] [] _] => (decide (C.N[i]? = some x) && C.asn x) && (decide (C.N[j]? = some n) && decide (C.sc.names.lookup n = some .local) && decide (i ≠ j)) && (decide (c2 ≠ c) && decide (c3 ≠ c) && exIs C.sc cls c c2 c3 n v)
  | _, _, _ => false
mutual
def chkS (C : Cfg) (cls : List Str) : S → Stmt → Bool
  | .asg i e, .Assign [.Name x _] v _ => decide (C.N[i]? = some x) && C.asn x && chk C .val e v
  | .asgO i e, .Assign [.Name x _] v _ => decide (C.N[i]? = some x) && C.asn x && chk C .val e v && (match e with
    | .lst _ => true
    | .bin .Add _ _ => true
    | .dic0 => true
    | _ => false)
  | .asgT g e, .Assign [tg] v _ => isTup tg && (!isTup v || oneCell C.sc tg) && chkG C g tg && chk C .val e v
  | .par i j a b, .Assign [.Tuple [.Name x px, .Name y py] _ _] (.Tuple [v, u] _ _) _ => decide (C.N[i]? = some x) && decide (C.N[j]? = some y) && decide (i ≠ j) && decide (C.sc.names.lookup x = some .local) && decide (C.sc.names.lookup y = some .local) &&
      decide (x ≠ y) && decide (px.line = py.line) && notStar v && notStar u && !(foldedForSure 8 v && foldedForSure 8 u) && !(constantsAlone 8 v && constantsAlone 8 u) && chk C .val a v && chk C .val b u
  | .app i e, .Expr (.Call (.Attribute (.Name x _) m apos) [v] [] cpos) _ => varB C i x && decide (m = "append") && decide (apos.endLine = cpos.line) && chk C .val e v && notStar v
  | .ext i e, .Expr (.Call (.Attribute (.Name x _) m apos) [v] [] cpos) _ => varB C i x && decide (m = "extend") && decide (apos.endLine = cpos.line) && chk C .val e v && notStar v && (match e with
    | .lst _ => true
    | .comp _ _ _ _ _ _ => true
    | _ => false)
  | .put i k v, .Assign [.Subscript (.Name x _) k' _] v' _ => varB C i x && chk C .val k k' && chk C .val v v'
  | .ret e, .Return (some x) _ => chk C .val e x
  | .ite t a b, .If t' a' b' _ => chk C .tst t t' && chkSs C cls a a' && chkSs C cls b b'
  | .whl t b, .While t' b' [] _ => chk C .tst t t' && chkSs C cls b b'
  | .for g ik ia b, .For tg iter b' [] _ => chkG C g tg && (match itArgs C ik tg iter with
        | some xs => chks C .val ia xs
        | none => false) && chkSs C cls b b'
  | .brk, .Break _ => true
  | .cnt, .Continue _ => true
  | .pass, .Pass _ => true
  | .expr e, .Expr (.Call f xs ks p) _ => chk C .val e (.Call f xs ks p)
  | .raise c, .Raise (some (.Call (.Name x _) [.Constant (.str _) _ _] [] _)) none _ => decide (cls[c]? = some x) && glB C.sc x
  | .halt, _ => true
  | .try_ b c i h, .Try body [.ExceptHandler (some (.Name x _)) nm suite _] [] [] _ => chkSs C cls b body && (decide (cls[c]? = some x) || decide (x = "WordError")) && (glB C.sc x && plainN x) && decide (c < cls.length) && chkH C cls c i h nm suite
  | _, _ => false
def chkSs (C : Cfg) (cls : List Str) : Ss → List Stmt → Bool
  | .nil, [] => true
  | .cons (.frz _) r, sts => chkSs C cls r sts
  | .cons s r, st :: sts => chkS C cls s st && chkSs C cls r sts
  | _, _ => false
end
end MW

set_option maxRecDepth 100000
set_option maxHeartbeats 1000000
/-! Part 2f: expressions. -/
namespace MW
open PySem PySem.Spec PyProof.Rows L2
open Res
variable [Lam]

/-! ### the state of a body: slots -/
structure RS (K : PySem.W.Frag) (F0 H0 F H : Hp) (σ : L2.St) (env : Env) : Prop where
  ext : Ext F0 H0 F H
  tab0 : TabF F0 H0
  len : env.length = σ.length
  val : ∀ (i : Nat) (d : D), env[i]? = some (some (Slot.val d)) → ∃ v, σ[i]? = some (some v) ∧ Rp K F v d
  own : ∀ (i : Nat) (d : D), env[i]? = some (some (Slot.own d)) → ∃ a, σ[i]? = some (some (.ref a)) ∧ F a = none ∧ H0 a = none ∧ OwnAt K F H a d
  inj : ∀ (i j : Nat) (d e : D) (a : Addr), env[i]? = some (some (Slot.own d)) → env[j]? = some (some (Slot.own e)) → σ[i]? = some (some (.ref a)) → σ[j]? = some (some (.ref a)) → i = j
theorem RS.tab {K : PySem.W.Frag} {F0 H0 F H : Hp} {σ : L2.St} {env : Env} (r : RS K F0 H0 F H σ env) : TabF F H := r.tab0.more r.ext
theorem OwnAt.tracked {K : PySem.W.Frag} {F H : Hp} {a : Addr} {d : D} (h : OwnAt K F H a d) : ∃ o, H a = some o := by
  rcases h with ⟨_, _, _, h, _⟩ | ⟨_, _, _, h, _⟩ <;> exact ⟨_, h⟩
theorem RS.more {K : PySem.W.Frag} {F0 H0 F H F' H' : Hp} {σ : L2.St} {env : Env} (r : RS K F0 H0 F H σ env) (e : Ext F H F' H') : RS K F0 H0 F' H' σ env where
  ext := r.ext.trans e
  tab0 := r.tab0
  len := r.len
  val := fun i d h => by
    obtain ⟨v, h1, h2⟩ := r.val i d h
    exact ⟨v, h1, h2.mono e.f⟩
  own := fun i d h => by
    obtain ⟨a, h1, h2, h3, h4⟩ := r.own i d h
    refine ⟨a, h1, ?_, h3, h4.mono e⟩
    cases q : F' a with
    | none => rfl
    | some o =>
      obtain ⟨o', h5⟩ := h4.tracked
      rcases e.new a o q with z | z
      · rw [h2] at z; cases z
      · rw [h5] at z; cases z
  inj := r.inj

section
variable (K : PySem.W.Frag) (W : Nat → Hp → Prop) (F0 H0 : Hp)
def tE (g : Env → Res D) : TE := fun σ H Q => ∃ env F, RS K F0 H0 F H σ env ∧ KE K W F H (g env) Q
def tO (g : Env → Res D) : TE := fun σ H Q => ∃ env F, RS K F0 H0 F H σ env ∧ KO K W F H (g env) Q
def tT (g : Env → Res Bool) : TT := fun σ H Q => ∃ env F, RS K F0 H0 F H σ env ∧ KT W F H (g env) Q
def tA (g : Env → Res (List D)) : TA := fun σ H Q => ∃ env F, RS K F0 H0 F H σ env ∧ KA K W F H (g env) Q
def tAs (g : Env → Res (List D)) : TA := fun σ H Q => ∃ env F, RS K F0 H0 F H σ env ∧ KAs K W F H (g env) Q
end

/-! ### what stands around -/
structure FI where
  f : Addr
  fd : FuncData
  ps : List Str
def WXof (clsA : Nat → Addr) (W : Nat → Hp → Prop) : WX := fun cls d _ H => ∃ c, cls = .ref (clsA c) ∧ d = none ∧ W c H
def EXof (clsA : Nat → Addr) (W : Nat → Hp → Prop) : XK := fun cls d H => ∃ c, cls = .ref (clsA c) ∧ d = none ∧ W c H
/-- a def's promise: it answers as g says -/
def spD (K : PySem.W.Frag) (clsA : Nat → Addr) (n : Nat) (g : List D → Res D) : Sp := fun vs H Q E => vs.length = n ∧ ∃ F ds, Same F H ∧ RpAll K F vs ds ∧ TabF F H ∧ KE K (fun c H' => E (.ref (clsA c)) none H') F H (g ds) Q
def bltNames : List Str := ["len", "min", "max", "all", "tuple", "list", "int", "sorted", "isinstance", "bool", "str", "range", "enumerate", "reversed", "set"]
structure XOk (X : Cx) (C : Cfg) (k : Nat) (Φ : Phi) (cs : Nat → Res D) (clsA : Nat → Addr) (W : Nat → Hp → Prop) : Prop where
  N : X.N = C.N
  nd : C.N.Nodup
  sc : X.env.scope = C.sc
  asn : ∀ x, C.asn x = true → Loc X.env.scope x ∧ (X.fn x = true ∨ X.env.scope.names.lookup x = some .local)
  calm : X.calm = true
  fns : ∀ i x, C.fns[i]? = some x → ∃ fi : FI, X.mg x = some (.ref fi.f) ∧ PySem.W.keepIn X.K (.ref fi.f) = true ∧ Binds X.K fi.fd fi.ps [] ∧
    FnOk X.prog X.w X.K X.mg X.base (L2.CX X.prog X.w) k fi.f fi.fd fi.ps (spD X.K clsA fi.ps.length (Φ i)) ∧ ∀ ds : List D, ds.length ≠ fi.ps.length → Φ i ds = .stuck
  csts : ∀ i x, C.csts[i]? = some x → ∃ d v u, cs i = .ok d ∧ X.mg x = some u ∧ RelV v u ∧ ∀ F, Rp X.K F v d
  blt : ∀ x ∈ bltNames, X.mg x = none
  room : Room k X.A
  lam : C.lam = true → Lam.on = true ∧ (∃ c, X.env.code = .ref c ∧ LamX.TabB X.base X.mg c Lam.P) ∧ X.env.qual ++ "<lambda>" = Lam.nm ∧ X.A.depth + 3 * k + 7 < recursionLimit ∧ X.A.units + 16 * k + 213 < cLine
  takes : Takes X (WXof clsA W)

theorem visB_of {sc : Scope} {x : Str} (h : visB sc x = true) : Vis sc x := by
  unfold visB at h
  split at h
  · exact .inl (by assumption)
  · exact .inr (.inl (by assumption))
  · exact .inr (.inr (by assumption))
  · cases h
theorem glB_of {sc : Scope} {x : Str} (h : glB sc x = true) : sc.names.lookup x = some .globalImplicit := by
  unfold glB at h
  split at h
  · assumption
  · cases h
theorem locB_of {sc : Scope} {x : Str} (h : locB sc x = true) : Loc sc x := by
  unfold locB at h
  split at h
  · exact .inl (by assumption)
  · exact .inr (by assumption)
  · cases h
theorem plainN_of {x : Str} (h : plainN x = true) : (x == ("__debug__" : Str)) = false ∧ (x == ("__classdict__" : Str)) = false := by
  unfold plainN at h
  rw [Bool.and_eq_true] at h
  exact ⟨by simpa using h.1, by simpa using h.2⟩

section
variable {X : Cx} {C : Cfg} {k : Nat} {Φ : Phi} {cs : Nat → Res D} {clsA : Nat → Addr} {W : Nat → Hp → Prop} {F0 H0 : Hp}
theorem XOk.passes (h : XOk X C k Φ cs clsA W) : Passes (L2.CX X.prog X.w) X (EXof clsA W) := passes_call h.takes fun cls d σ H q => q
theorem XOk.gl (h : XOk X C k Φ cs clsA W) {x : Str} (q : glB C.sc x = true) : Gl X x := by
  show X.env.scope.names.lookup x = _
  rw [h.sc]
  exact glB_of q
theorem XOk.var (h : XOk X C k Φ cs clsA W) {i : Nat} {x : Str} {pos : Pos} (q : varB C i x = true) : PE X (.Name x pos) (tVar i) := by
  unfold varB at q
  rw [Bool.and_eq_true, Bool.and_eq_true] at q
  obtain ⟨a, b⟩ := plainN_of q.2
  exact pe_var (by rw [h.N]; exact of_decide_eq_true q.1.1) (by rw [h.sc]; exact visB_of q.1.2) a b
/-- a comprehension's block -/
theorem XOk.inner (h : XOk X C k Φ cs clsA W) (scope : Scope) (s : Shared) (H : Hp) (A : Addr) (cl : List (Str × Addr)) (fp : List Addr) :
    XOk (X.blk s H scope (compEnvC scope cl A X.env) fp) (C.inner scope) k Φ cs clsA (fun _ _ => False) where
  N := h.N
  nd := h.nd
  sc := by
    show relS scope X.env.scope = relS scope C.sc
    rw [h.sc]
  asn := fun x q => by
    have q' : locB scope x = true := q
    have key : ∀ kd, kd ≠ NameKind.free → scope.names.lookup x = some kd → (relS scope X.env.scope).names.lookup x = some kd := fun kd hk e => lookup_relS_keep hk e
    rcases locB_of q' with e | e
    · exact ⟨.inl (key _ (by decide) e), .inr (key _ (by decide) e)⟩
    · refine ⟨.inr (key _ (by decide) e), .inl ?_⟩
      show (scope.names.lookup x == some .cell) = true
      rw [e]; rfl
  calm := h.calm
  fns := h.fns
  csts := h.csts
  blt := h.blt
  room := h.room
  lam := fun z => Bool.noConfusion z
  takes := takes0.imp fun c d σ H q => by
    obtain ⟨_, _, _, q⟩ := q
    exact q

theorem _root_.L2.PE.impW {e : Expr} {t t' : TE} (h : PE X e t) (q : ∀ σ H Q, t' σ H Q → t σ H Q) : PE X e t' := ⟨fun pins s σ H Q I w => h.run pins s σ H Q I (q σ H Q w)⟩
theorem _root_.L2.PT.impW {e : Expr} {t t' : TT} (h : PT X e t) (q : ∀ σ H Q, t' σ H Q → t σ H Q) : PT X e t' := ⟨fun pins s σ H Q I w => h.run pins s σ H Q I (q σ H Q w)⟩
theorem _root_.L2.PA.impW {e : List Expr} {t t' : TA} (h : PA X e t) (q : ∀ σ H Q, t' σ H Q → t σ H Q) : PA X e t' := ⟨fun pos pins s σ H Q I w => h.run pos pins s σ H Q I (q σ H Q w)⟩
theorem weak {e : Expr} {g : Env → Res D} (h : PE X e (tE X.K W F0 H0 g)) : PE X e (tO X.K W F0 H0 g) := h.impW fun σ H Q ⟨env, F, rs, k⟩ => ⟨env, F, rs, k.imp fun F' H' d _ q v r => q v (.inl r)⟩
/-- a constant -/
theorem pe_const {e : Expr} {v : V} {d : D} {g : Env → Res D} (h : PE X e (tC v)) (hg : ∀ env, g env = .ok d) (r : ∀ F, Rp X.K F v d) : PE X e (tE X.K W F0 H0 g) :=
  h.impW fun σ H Q ⟨env, F, rs, k⟩ => by
    rw [hg] at k
    exact k F H (Ext.refl rs.ext.sub) v (r F)
theorem bind_assoc {α β γ : Type} (x : Res α) (f : α → Res β) (g : β → Res γ) : (x.bind f).bind g = x.bind fun a => (f a).bind g := by cases x <;> rfl
/-- by its truth -/
theorem truth_of {e : Expr} {g : Env → Res D} {t : Env → Res Bool} (h : PE X e (tO X.K W F0 H0 g)) (he : ∀ whole, isTrue e X.env whole = (do let v ← whole; standAt e.pos; holding [v] (truthy v))) (ht : ∀ env, t env = (g env).bind truD) : PT X e (tT X.K W F0 H0 t) :=
  (pt_truth h he).impW fun σ H Q ⟨env, F, rs, k⟩ => by
    refine ⟨env, F, rs, ?_⟩
    rw [ht] at k
    refine (KR.bind k).imp fun F1 H1 d e1 k1 v r1 => ?_
    rcases tru_ok_d (K := X.K) (F := F1) (H := H1) (d := d) rfl with q | ⟨b, q⟩
    · rw [q] at k1; exact k1.elim
    · rw [q] at k1
      exact ⟨b, rpO_tru e1.sub r1 q, k1 F1 H1 (Ext.refl e1.sub)⟩
end

/-- what is to be shown of an expression -/
def SE (e : E) : Prop := ∀ {X : Cx} {C : Cfg} {k : Nat} {Φ : Phi} {cs : Nat → Res D} {clsA : Nat → Addr} {W : Nat → Hp → Prop} {F0 H0 : Hp}, XOk X C k Φ cs clsA W → ∀ x : Expr,
  (chk C .val e x = true → PE X x (tE X.K W F0 H0 (ev Φ cs e))) ∧ (chk C .opd e x = true → PE X x (tO X.K W F0 H0 (ev Φ cs e))) ∧ (chk C .tst e x = true → PT X x (tT X.K W F0 H0 (tst Φ cs e)))
def SEs (es : Es) : Prop := ∀ {X : Cx} {C : Cfg} {k : Nat} {Φ : Phi} {cs : Nat → Res D} {clsA : Nat → Addr} {W : Nat → Hp → Prop} {F0 H0 : Hp}, XOk X C k Φ cs clsA W → ∀ xs : List Expr,
  (chks C .val es xs = true → PA X xs (tAs X.K W F0 H0 (evs Φ cs es))) ∧ (chks C .opd es xs = true → PA X xs (tA X.K W F0 H0 (evs Φ cs es))) ∧ (chks C .tst es xs = true → xs = [] ∧ es = .nil ∨ ∃ x r e r', xs = x :: r ∧ es = .cons e r' ∧ PT X x (tT X.K W F0 H0 (tst Φ cs e)))

theorem se_var (i : Nat) : SE (.var i) := by
  intro X C k Φ cs clsA W F0 H0 hX x
  have key : ∀ m, chk C m (.var i) x = true → PE X x (tE X.K W F0 H0 (ev Φ cs (.var i))) := fun m h => by
    cases x with
    | Name x pos =>
      refine (hX.var (pos := pos) h).impW fun σ H Q ⟨env, F, rs, k⟩ => ?_
      replace k : KE X.K W F H (rdV env i) Q := k
      unfold rdV at k
      split at k
      · rename_i d e
        obtain ⟨v, h1, h2⟩ := rs.val i d e
        exact ⟨v, h1, k F H (Ext.refl rs.ext.sub) v h2⟩
      · exact k.elim
    | _ => exact Bool.noConfusion h
  refine ⟨key _, fun h => weak (key _ h), fun h => ?_⟩
  cases x with
  | Name x pos => exact truth_of (weak (key _ h)) (fun _ => rfl) fun env => rfl
  | _ => exact Bool.noConfusion h
theorem se_own (i : Nat) : SE (.own i) := by
  intro X C k Φ cs clsA W F0 H0 hX x
  have key : ∀ m, chk C m (.own i) x = true → PE X x (tO X.K W F0 H0 (ev Φ cs (.own i))) := fun m h => by
    cases x with
    | Name x pos =>
      have h' : (!m.isVal && varB C i x) = true := h
      rw [Bool.and_eq_true] at h'
      refine (hX.var (pos := pos) h'.2).impW fun σ H Q ⟨env, F, rs, k⟩ => ?_
      replace k : KO X.K W F H (rdO env i) Q := k
      unfold rdO at k
      split at k
      · rename_i d e
        obtain ⟨v, h1, h2⟩ := rs.val i d e
        exact ⟨v, h1, k F H (Ext.refl rs.ext.sub) v (.inl h2)⟩
      · rename_i d e
        obtain ⟨a, h1, h2, h3, h4⟩ := rs.own i d e
        exact ⟨_, h1, k F H (Ext.refl rs.ext.sub) _ (.inr ⟨a, rfl, h4⟩)⟩
      · exact k.elim
    | _ => exact Bool.noConfusion h
  refine ⟨fun h => ?_, key _, fun h => ?_⟩
  · cases x with
    | _ => exact Bool.noConfusion h
  · cases x with
    | Name x pos => exact truth_of (key _ h) (fun _ => rfl) fun env => rfl
    | _ => exact Bool.noConfusion h
/-- forms that are no tests -/
theorem se_plain {e : E} (hv : ∀ {X : Cx} {C : Cfg} {k : Nat} {Φ : Phi} {cs : Nat → Res D} {clsA : Nat → Addr} {W : Nat → Hp → Prop} {F0 H0 : Hp}, XOk X C k Φ cs clsA W → ∀ (m : Md) (x : Expr), chk C m e x = true → m.isTst = false ∧ PE X x (tE X.K W F0 H0 (ev Φ cs e))) : SE e := by
  intro X C k Φ cs clsA W F0 H0 hX x
  exact ⟨fun h => (hv hX _ x h).2, fun h => weak (hv hX _ x h).2, fun h => Bool.noConfusion (hv (F0 := F0) (H0 := H0) hX _ x h).1⟩
/-- forms that are tests by their truth -/
theorem se_truth {e : E} (hv : ∀ {X : Cx} {C : Cfg} {k : Nat} {Φ : Phi} {cs : Nat → Res D} {clsA : Nat → Addr} {W : Nat → Hp → Prop} {F0 H0 : Hp}, XOk X C k Φ cs clsA W → ∀ (m : Md) (x : Expr), chk C m e x = true →
    PE X x (tE X.K W F0 H0 (ev Φ cs e)) ∧ (∀ whole, isTrue x X.env whole = (do let v ← whole; standAt x.pos; holding [v] (truthy v))))
    (ht : ∀ (Φ : Phi) (cs : Nat → Res D) env, tst Φ cs e env = (ev Φ cs e env).bind truD) : SE e := by
  intro X C k Φ cs clsA W F0 H0 hX x
  exact ⟨fun h => (hv hX _ x h).1, fun h => weak (hv hX _ x h).1, fun h => truth_of (weak (hv hX _ x h).1) (hv (F0 := F0) (H0 := H0) hX _ x h).2 (ht Φ cs)⟩
theorem not_tst {m : Md} {b : Bool} (h : (!m.isTst && b) = true) : m.isTst = false ∧ b = true := by
  rw [Bool.and_eq_true] at h
  exact ⟨by simpa using h.1, h.2⟩
theorem se_cst (c : Const) : SE (.cst c) := by
  refine se_plain fun {X C k Φ cs clsA W F0 H0} hX m x h => ?_
  cases x with
  | Constant c' j pos =>
    have h' : (!m.isTst && decide (c = c') && okConst c) = true := h
    rw [Bool.and_eq_true] at h'
    obtain ⟨h1, h2⟩ := not_tst h'.1
    refine ⟨h1, ?_⟩
    have e := of_decide_eq_true h2
    subst e
    cases c with
    | int i => exact pe_const pe_int (fun _ => rfl) fun F => .int i
    | str i => exact pe_const pe_str (fun _ => rfl) fun F => .str i
    | bool i => exact pe_const pe_bl (fun _ => rfl) fun F => .bl i
    | none => exact pe_const pe_non (fun _ => rfl) fun F => .non
    | _ => exact Bool.noConfusion h'.2
  | _ => exact Bool.noConfusion h
theorem se_glob (j : Nat) : SE (.glob j) := by
  refine se_plain fun {X C k Φ cs clsA W F0 H0} hX m x h => ?_
  cases x with
  | Name x pos =>
    have h' : (!m.isTst && decide (C.csts[j]? = some x) && glB C.sc x && plainN x) = true := h
    rw [Bool.and_eq_true, Bool.and_eq_true] at h'
    obtain ⟨h1, h2⟩ := not_tst h'.1.1
    obtain ⟨d, v, u, e1, e2, e3, e4⟩ := hX.csts j x (of_decide_eq_true h2)
    exact ⟨h1, pe_const (pe_glob (hX.gl h'.1.2) e2 e3 (plainN_of h'.2).1) (fun _ => e1) e4⟩
  | _ => exact Bool.noConfusion h
theorem se_tup {es : Es} (hs : SEs es) : SE (.tup es) := by
  refine se_plain fun {X C k Φ cs clsA W F0 H0} hX m x h => ?_
  cases x with
  | Tuple xs j pos =>
    obtain ⟨h1, h2⟩ := not_tst (show (!m.isTst && chks C .val es xs) = true from h)
    refine ⟨h1, (pe_tup ((hs (F0 := F0) (H0 := H0) hX xs).1 h2)).impW fun σ H Q ⟨env, F, rs, k⟩ => ⟨env, F, rs, (KR.bind k).imp fun F1 H1 ds e1 k1 vs r1 => ?_⟩⟩
    obtain ⟨z, k2⟩ := KR.need k1
    exact ⟨by rw [r1.length]; exact fits_le z, fun p n => KE.new e1.sub k2 n (rp_tup e1.sub n r1)⟩
  | _ => exact Bool.noConfusion h
theorem se_lst {es : Es} (hs : SEs es) : SE (.lst es) := by
  refine se_plain fun {X C k Φ cs clsA W F0 H0} hX m x h => ?_
  cases x with
  | List xs pos =>
    obtain ⟨h1, h2⟩ := not_tst (show (!m.isTst && chks C .val es xs) = true from h)
    refine ⟨h1, (pe_lst ((hs (F0 := F0) (H0 := H0) hX xs).1 h2)).impW fun σ H Q ⟨env, F, rs, k⟩ => ⟨env, F, rs, (KR.bind k).imp fun F1 H1 ds e1 k1 vs r1 => ?_⟩⟩
    obtain ⟨z, k2⟩ := KR.need k1
    exact ⟨by rw [r1.length]; exact fits_le z, fun p n => KE.new e1.sub k2 n (rp_lst e1.sub n r1)⟩
  | _ => exact Bool.noConfusion h
theorem se_dic0 : SE .dic0 := by
  refine se_plain fun {X C k Φ cs clsA W F0 H0} hX m x h => ?_
  cases x with
  | Dict ks vs pos =>
    cases ks with
    | nil =>
      cases vs with
      | nil =>
        have h' : (!m.isTst) = true := h
        exact ⟨by simpa using h', pe_dnewK.impW fun σ H Q ⟨env, F, rs, k⟩ p n => KE.new (d := .dict []) rs.ext.sub k n (.dic upd_same .nil)⟩
      | cons _ _ => exact Bool.noConfusion h
    | cons _ _ => exact Bool.noConfusion h
  | _ => exact Bool.noConfusion h
theorem se_bin {op : Operator} {a b : E} (ha : SE a) (hb : SE b) : SE (.bin op a b) := by
  refine se_plain fun {X C k Φ cs clsA W F0 H0} hX m x h => ?_
  cases x with
  | BinOp l op' r pos =>
    have h' : (!m.isTst && decide (op = op') && chk C .opd a l && chk C .opd b r) = true := h
    rw [Bool.and_eq_true, Bool.and_eq_true] at h'
    obtain ⟨h1, h2⟩ := not_tst h'.1.1
    have e := of_decide_eq_true h2
    subst e
    refine ⟨h1, (pe_op (op_any (W := W) op) ((ha (F0 := F0) (H0 := H0) hX l).2.1 h'.1.2) ((hb (F0 := F0) (H0 := H0) hX r).2.1 h'.2)).impW fun σ H Q ⟨env, F, rs, k⟩ => ?_⟩
    exact ⟨env, F, rs, (KR.bind k).imp fun F1 H1 d e1 k1 v r1 => ⟨env, F1, rs.more e1, (KR.bind k1).imp fun F2 H2 d2 e2 k2 v2 r2 => ⟨F2, d, d2, e2.sub, r1.mono e2, r2, k2⟩⟩⟩
  | _ => exact Bool.noConfusion h
theorem rp_same {K : PySem.W.Frag} {F : Hp} {v : V} {d : D} (h : Rp K F v d) : ∀ n : Nat, RpAll K F (List.replicate n v) (List.replicate n d)
  | 0 => .nil
  | n + 1 => .cons h (rp_same h n)
theorem flat_one {α : Type} (x : α) : ∀ n : Nat, (List.replicate n [x]).flatten = List.replicate n x
  | 0 => rfl
  | n + 1 => by rw [List.replicate_succ, List.flatten_cons, flat_one x n, List.replicate_succ]; rfl
theorem se_mulL {c : Int} {b : E} (hb : SE b) : SE (.mulL c b) := by
  refine se_plain fun {X C k Φ cs clsA W F0 H0} hX m x h => ?_
  cases x with
  | BinOp l op' r pos =>
    cases l with
    | Constant c0 j p0 =>
      cases c0 with
      | int c' =>
        cases op' with
        | Mult =>
          have h' : (!m.isTst && decide (c = c') && chk C .opd b r) = true := h
          rw [Bool.and_eq_true] at h'
          obtain ⟨h1, h2⟩ := not_tst h'.1
          have e := of_decide_eq_true h2
          subst e
          refine ⟨h1, (pe_op op_mul pe_int ((hb (F0 := F0) (H0 := H0) hX r).2.1 h'.2)).impW fun σ H Q ⟨env, F, rs, k⟩ => ?_⟩
          refine ⟨env, F, rs, (KR.bind k).imp fun F1 H1 d e1 k1 v r1 => ?_⟩
          cases d with
          | int i =>
            obtain rfl := r1.int
            obtain ⟨z, k2⟩ := KR.need k1
            exact ⟨c, i, rfl, rfl, .inl (small_of z), KE.same e1.sub k2 (.int _)⟩
          | _ => exact k1.elim
        | _ => exact Bool.noConfusion h
      | _ => exact Bool.noConfusion h
    | _ => exact Bool.noConfusion h
  | _ => exact Bool.noConfusion h
theorem se_neg {a : E} (ha : SE a) : SE (.neg a) := by
  refine se_plain fun {X C k Φ cs clsA W F0 H0} hX m x h => ?_
  cases x with
  | UnaryOp op y pos =>
    cases op with
    | USub =>
      obtain ⟨h1, h2⟩ := not_tst (show (!m.isTst && chk C .opd a y) = true from h)
      refine ⟨h1, (pe_un un_neg ((ha (F0 := F0) (H0 := H0) hX y).2.1 h2)).impW fun σ H Q ⟨env, F, rs, k⟩ => ⟨env, F, rs, (KR.bind k).imp fun F1 H1 d e1 k1 v r1 => ?_⟩⟩
      cases d with
      | int i =>
        obtain rfl := r1.int
        exact ⟨i, rfl, KE.same e1.sub k1 (.int _)⟩
      | _ => exact k1.elim
    | _ => exact Bool.noConfusion h
  | _ => exact Bool.noConfusion h
/-- nothing of mine is a set -/
theorem not_set {C : Cfg} {m : Md} {e : E} {x : Expr} (h : chk C m e x = true) : (∀ op, behindInMarks op x = false) ∧ ∀ env v, foldedSetIterable x env v = pure v := by
  cases x with
  | Set es k pos =>
    cases e with
    | isi a tys =>
      cases tys with
      | nil => exact Bool.noConfusion h
      | cons t r => cases r <;> exact Bool.noConfusion h
    | _ => exact Bool.noConfusion h
  | _ => exact ⟨fun _ => rfl, fun _ _ => rfl⟩
theorem cmp_bool (op : CmpOp) (x y : D) : (∃ b, cmpD op x y = .ok (.bool b)) ∨ cmpD op x y = .stuck := by
  have hm : ∀ (r : Res Bool) (f : Bool → Bool), (∀ c, r ≠ .exn c) → (∃ b, r.map (fun b => PyData.bool (f b)) = .ok (.bool b)) ∨ r.map (fun b => PyData.bool (f b)) = .stuck := fun r f hr => by
    cases r with
    | ok b => exact .inl ⟨f b, rfl⟩
    | exn c => exact absurd rfl (hr c)
    | stuck => exact .inr rfl
  have hin : ∀ c, inD x y ≠ .exn c := fun c e => by
    cases y with
    | list ds =>
      have e' : need (inOk x ds) (Res.ok (ds.any fun z => PyData.eqv z x)) = .exn c := e
      cases q : inOk x ds <;> rw [q] at e' <;> cases e'
    | tuple ds =>
      have e' : need (inOk x ds) (Res.ok (ds.any fun z => PyData.eqv z x)) = .exn c := e
      cases q : inOk x ds <;> rw [q] at e' <;> cases e'
    | str t => cases x <;> cases e
    | dict kvs =>
      have e' : (match toKey x with | some k => Res.ok (dictGet kvs k).isSome | none => .stuck) = .exn c := e
      cases q : toKey x <;> rw [q] at e' <;> cases e'
    | _ => cases e
  have his : ∀ c, isD x y ≠ .exn c := fun c e => by
    cases y with
    | bool b => cases x <;> cases e
    | _ => cases e
  cases op with
  | Eq =>
    show (∃ b, need (eqOk x y) (Res.ok (PyData.bool (PyData.eqv x y))) = .ok (.bool b)) ∨ _ = Res.stuck
    cases q : eqOk x y with
    | true => exact .inl ⟨_, rfl⟩
    | false => exact .inr (need_false q)
  | NotEq =>
    show (∃ b, need (eqOk x y) (Res.ok (PyData.bool (!PyData.eqv x y))) = .ok (.bool b)) ∨ _ = Res.stuck
    cases q : eqOk x y with
    | true => exact .inl ⟨_, rfl⟩
    | false => exact .inr (need_false q)
  | Lt => cases x <;> cases y <;> first | exact .inr rfl | exact .inl ⟨_, rfl⟩
  | LtE => cases x <;> cases y <;> first | exact .inr rfl | exact .inl ⟨_, rfl⟩
  | Gt => cases x <;> cases y <;> first | exact .inr rfl | exact .inl ⟨_, rfl⟩
  | GtE => cases x <;> cases y <;> first | exact .inr rfl | exact .inl ⟨_, rfl⟩
  | Is => exact hm _ id his
  | IsNot => exact hm _ (fun b => !b) his
  | In => exact hm _ id hin
  | NotIn => exact hm _ (fun b => !b) hin
theorem se_cmp {op : CmpOp} {a b : E} (ha : SE a) (hb : SE b) : SE (.cmp op a b) := by
  intro X C k Φ cs clsA W F0 H0 hX x
  have key : ∀ m, chk C m (.cmp op a b) x = true → PE X x (tE X.K W F0 H0 (ev Φ cs (.cmp op a b))) ∧ PT X x (tT X.K W F0 H0 (tst Φ cs (.cmp op a b))) := fun m h => by
    cases x with
    | Compare l ops rs' pos =>
      match ops, rs', h with
      | [op'], [r], h =>
        have h' : (decide (op = op') && chk C .opd a l && chk C .opd b r) = true := h
        rw [Bool.and_eq_true, Bool.and_eq_true] at h'
        have e := of_decide_eq_true h'.1.1
        subst e
        refine ⟨(pe_cmpR (cmp_any (W := W) hX.room op) ((ha (F0 := F0) (H0 := H0) hX l).2.1 h'.1.2) ((hb (F0 := F0) (H0 := H0) hX r).2.1 h'.2) ((not_set h'.2).1 op)).impW fun σ H Q ⟨env, F, rs, k⟩ => ?_,
          (pt_cmpR (cmp_any (W := W) hX.room op) ((ha (F0 := F0) (H0 := H0) hX l).2.1 h'.1.2) ((hb (F0 := F0) (H0 := H0) hX r).2.1 h'.2) ((not_set h'.2).1 op)).impW fun σ H Q ⟨env, F, rs, k⟩ => ?_⟩
        · exact ⟨env, F, rs, (KR.bind k).imp fun F1 H1 d e1 k1 v r1 => ⟨env, F1, rs.more e1, (KR.bind k1).imp fun F2 H2 d2 e2 k2 v2 r2 => ⟨F2, d, d2, e2.sub, r1.mono e2, r2, k2⟩⟩⟩
        · refine ⟨env, F, rs, (KR.bind k).imp fun F1 H1 d e1 k1 v r1 => ⟨env, F1, rs.more e1, (KR.bind k1).imp fun F2 H2 d2 e2 k2 v2 r2 => ⟨F2, d, d2, e2.sub, r1.mono e2, r2, ?_⟩⟩⟩
          refine (KR.bind k2).imp fun F3 H3 d3 e3 k3 v3 r3 => ?_
          rcases cmp_bool op d d2 with ⟨bb, q⟩ | q
          · cases d3 with
            | bool b3 =>
              cases r3
              exact ⟨b3, rfl, k3 F3 H3 (Ext.refl e3.sub)⟩
            | _ => exact k3.elim
          · cases d3 with
            | bool b3 =>
              cases r3
              exact ⟨b3, rfl, k3 F3 H3 (Ext.refl e3.sub)⟩
            | _ => exact k3.elim
      | [], _, h => exact Bool.noConfusion h
      | [_], [], h => exact Bool.noConfusion h
      | [_], _ :: _ :: _, h => exact Bool.noConfusion h
      | _ :: _ :: _, _, h => exact Bool.noConfusion h
    | _ => exact Bool.noConfusion h
  exact ⟨fun h => (key _ h).1, fun h => weak (key _ h).1, fun h => (key _ h).2⟩
end MW

set_option maxRecDepth 100000
set_option maxHeartbeats 1000000
/-! Part 2g: more expressions. -/
namespace MW
open PySem PySem.Spec PyProof.Rows L2
open Res
variable [Lam]

theorem se_chain {op op2 : CmpOp} {a b c : E} (ha : SE a) (hb : SE b) (hc : SE c) : SE (.chain op op2 a b c) := by
  intro X C k Φ cs clsA W F0 H0 hX x
  have key : ∀ m, chk C m (.chain op op2 a b c) x = true → PE X x (tE X.K W F0 H0 (ev Φ cs (.chain op op2 a b c))) ∧ PT X x (tT X.K W F0 H0 (tst Φ cs (.chain op op2 a b c))) := fun m h => by
    cases x with
    | Compare l ops rs' pos =>
      match ops, rs', h with
      | [o1, o2], [r, t], h =>
        have h' : (decide (op = o1) && decide (op2 = o2) && chk C .opd a l && chk C .opd b r && chk C .opd c t) = true := h
        rw [Bool.and_eq_true, Bool.and_eq_true, Bool.and_eq_true, Bool.and_eq_true] at h'
        obtain ⟨⟨⟨⟨h1, h2⟩, h3⟩, h4⟩, h5⟩ := h'
        have e := of_decide_eq_true h1
        subst e
        have e := of_decide_eq_true h2
        subst e
        refine ⟨(pe_chain (cmp_any (W := W) hX.room op) (cmp_any (W := W) hX.room op2) ((ha (F0 := F0) (H0 := H0) hX l).2.1 h3) ((hb (F0 := F0) (H0 := H0) hX r).2.1 h4) ((hc (F0 := F0) (H0 := H0) hX t).2.1 h5) ((not_set h5).1 op2)).impW fun σ H Q ⟨env, F, rs, k⟩ => ?_,
          (pt_chain (cmp_any (W := W) hX.room op) (cmp_any (W := W) hX.room op2) ((ha (F0 := F0) (H0 := H0) hX l).2.1 h3) ((hb (F0 := F0) (H0 := H0) hX r).2.1 h4) ((hc (F0 := F0) (H0 := H0) hX t).2.1 h5) ((not_set h5).1 op2)).impW fun σ H Q ⟨env, F, rs, k⟩ => ?_⟩
        · refine ⟨env, F, rs, (KR.bind k).imp fun F1 H1 d e1 k1 v r1 => ⟨env, F1, rs.more e1, (KR.bind k1).imp fun F2 H2 d2 e2 k2 v2 r2 => ⟨F2, d, d2, e2.sub, r1.mono e2, r2, (KR.bind k2).imp fun F3 H3 d3 e3 k3 v3 r3 => ?_⟩⟩⟩
          cases d3 with
          | bool b3 =>
            cases r3
            refine ⟨b3, rfl, ?_⟩
            cases b3 with
            | true =>
              refine iteT ⟨env, F3, ((rs.more e1).more e2).more e3, (KR.bind (f := fun z => cmpD op2 d2 z) k3).imp fun F4 H4 d4 e4 k4 v4 r4 => ⟨F4, d2, d4, e4.sub, (r2.mono e3).mono e4, r4, k4⟩⟩
            | false => exact iteF (KE.same (d := .bool false) e3.sub k3 (.bl _))
          | _ => exact k3.elim
        · refine ⟨env, F, rs, (KR.bind k).imp fun F1 H1 d e1 k1 v r1 => ⟨env, F1, rs.more e1, (KR.bind k1).imp fun F2 H2 d2 e2 k2 v2 r2 => ⟨F2, d, d2, e2.sub, r1.mono e2, r2, (KR.bind k2).imp fun F3 H3 d3 e3 k3 v3 r3 => ?_⟩⟩⟩
          cases d3 with
          | bool b3 =>
            cases r3
            refine ⟨b3, rfl, ?_⟩
            cases b3 with
            | true =>
              refine iteT ⟨env, F3, ((rs.more e1).more e2).more e3, (KR.bind (f := fun z => (cmpD op2 d2 z).bind boolD) k3).imp fun F4 H4 d4 e4 k4 v4 r4 => ⟨F4, d2, d4, e4.sub, (r2.mono e3).mono e4, r4, (KR.bind k4).imp fun F5 H5 d5 e5 k5 v5 r5 => ?_⟩⟩
              cases d5 with
              | bool b5 =>
                cases r5
                exact ⟨b5, rfl, k5 F5 H5 (Ext.refl e5.sub)⟩
              | _ => exact k5.elim
            | false => exact iteF ⟨false, rfl, k3 F3 H3 (Ext.refl e3.sub)⟩
          | _ => exact k3.elim
      | [], _, h => exact Bool.noConfusion h
      | [_], _, h => exact Bool.noConfusion h
      | [_, _], [], h => exact Bool.noConfusion h
      | [_, _], [_], h => exact Bool.noConfusion h
      | [_, _], _ :: _ :: _ :: _, h => exact Bool.noConfusion h
      | _ :: _ :: _ :: _, _, h => exact Bool.noConfusion h
    | _ => exact Bool.noConfusion h
  exact ⟨fun h => (key _ h).1, fun h => weak (key _ h).1, fun h => (key _ h).2⟩

/-! ### and, or, not -/
theorem pw_of {X : Cx} {op : BoolOp} {vs : List Expr} {pos : Pos} {t : TT} (h : PT X (.BoolOp op vs pos) t) : PW X (.BoolOp op vs pos) t := ⟨fun _ pins s σ H Q I w => h.run pins s σ H Q I w⟩
theorem se_and {a b : E} (ha : SE a) (hb : SE b) : SE (.and a b) := by
  intro X C k Φ cs clsA W F0 H0 hX x
  have kv : ∀ m, m.sub = .val → chk C m (.and a b) x = true → PE X x (tE X.K W F0 H0 (ev Φ cs (.and a b))) := fun m hm h => by
    cases x with
    | BoolOp op vs pos =>
      cases op with
      | And =>
        match vs, h with
        | x :: y :: rest, h =>
          have h' : (chk C m.sub a x && (match (generalizing := false) rest with | [] => chk C m.sub b y | _ :: _ => chk C m.sub b (.BoolOp .And (y :: rest) pos))) = true := h
          rw [hm, Bool.and_eq_true] at h'
          have pb : PE X (.BoolOp .And (y :: rest) pos) (tE X.K W F0 H0 (ev Φ cs b)) := by
            cases rest with
            | nil => exact pe_one ((hb (F0 := F0) (H0 := H0) hX y).1 h'.2)
            | cons z r => exact (hb (F0 := F0) (H0 := H0) hX _).1 h'.2
          refine (pe_andT ((ha (F0 := F0) (H0 := H0) hX x).1 h'.1) pb).impW fun σ H Q ⟨env, F, rs, k⟩ => ⟨env, F, rs, (KR.bind k).imp fun F1 H1 d e1 k1 v r1 => ?_⟩
          rcases tru_ok_d (K := X.K) (F := F1) (H := H1) (d := d) rfl with q | ⟨c, q⟩
          · rw [q] at k1; exact k1.elim
          · rw [q] at k1
            refine ⟨c, rpO_tru e1.sub (.inl r1) q, ?_⟩
            cases c with
            | true => exact iteT ⟨env, F1, rs.more e1, k1⟩
            | false => exact iteF (KE.same e1.sub k1 r1)
        | [], h => exact Bool.noConfusion h
        | [_], h => exact Bool.noConfusion h
      | Or => exact Bool.noConfusion h
    | _ => exact Bool.noConfusion h
  refine ⟨kv _ rfl, fun h => weak (kv _ rfl h), fun h => ?_⟩
  cases x with
  | BoolOp op vs pos =>
    cases op with
    | And =>
      match vs, h with
      | x :: y :: rest, h =>
        have h' : (chk C .tst a x && (match (generalizing := false) rest with | [] => chk C .tst b y | _ :: _ => chk C .tst b (.BoolOp .And (y :: rest) pos))) = true := h
        rw [Bool.and_eq_true] at h'
        have pb : PW X (.BoolOp .And (y :: rest) pos) (tT X.K W F0 H0 (tst Φ cs b)) := by
          cases rest with
          | nil => exact pw_and1 ((hb (F0 := F0) (H0 := H0) hX y).2.2 h'.2)
          | cons z r => exact pw_of ((hb (F0 := F0) (H0 := H0) hX _).2.2 h'.2)
        refine (PW.pt (pw_and ((ha (F0 := F0) (H0 := H0) hX x).2.2 h'.1) pb)).impW fun σ H Q ⟨env, F, rs, k⟩ => ⟨env, F, rs, (KR.bind k).imp fun F1 H1 c e1 k1 => ?_⟩
        cases c with
        | true => exact iteT ⟨env, F1, rs.more e1, k1⟩
        | false => exact iteF (k1 F1 H1 (Ext.refl e1.sub))
      | [], h => exact Bool.noConfusion h
      | [_], h => exact Bool.noConfusion h
    | Or => exact Bool.noConfusion h
  | _ => exact Bool.noConfusion h
theorem se_or {a b : E} (ha : SE a) (hb : SE b) : SE (.or a b) := by
  intro X C k Φ cs clsA W F0 H0 hX x
  have kv : ∀ m, m.sub = .val → chk C m (.or a b) x = true → PE X x (tE X.K W F0 H0 (ev Φ cs (.or a b))) := fun m hm h => by
    cases x with
    | BoolOp op vs pos =>
      cases op with
      | Or =>
        match vs, h with
        | x :: y :: rest, h =>
          have h' : (chk C m.sub a x && (match (generalizing := false) rest with | [] => chk C m.sub b y | _ :: _ => chk C m.sub b (.BoolOp .Or (y :: rest) pos))) = true := h
          rw [hm, Bool.and_eq_true] at h'
          have pb : PE X (.BoolOp .Or (y :: rest) pos) (tE X.K W F0 H0 (ev Φ cs b)) := by
            cases rest with
            | nil => exact pe_one ((hb (F0 := F0) (H0 := H0) hX y).1 h'.2)
            | cons z r => exact (hb (F0 := F0) (H0 := H0) hX _).1 h'.2
          refine (pe_orT ((ha (F0 := F0) (H0 := H0) hX x).1 h'.1) pb).impW fun σ H Q ⟨env, F, rs, k⟩ => ⟨env, F, rs, (KR.bind k).imp fun F1 H1 d e1 k1 v r1 => ?_⟩
          rcases tru_ok_d (K := X.K) (F := F1) (H := H1) (d := d) rfl with q | ⟨c, q⟩
          · rw [q] at k1; exact k1.elim
          · rw [q] at k1
            refine ⟨c, rpO_tru e1.sub (.inl r1) q, ?_⟩
            cases c with
            | true => exact iteT (KE.same e1.sub k1 r1)
            | false => exact iteF ⟨env, F1, rs.more e1, k1⟩
        | [], h => exact Bool.noConfusion h
        | [_], h => exact Bool.noConfusion h
      | And => exact Bool.noConfusion h
    | _ => exact Bool.noConfusion h
  refine ⟨kv _ rfl, fun h => weak (kv _ rfl h), fun h => ?_⟩
  cases x with
  | BoolOp op vs pos =>
    cases op with
    | Or =>
      match vs, h with
      | x :: y :: rest, h =>
        have h' : (chk C .tst a x && (match (generalizing := false) rest with | [] => chk C .tst b y | _ :: _ => chk C .tst b (.BoolOp .Or (y :: rest) pos))) = true := h
        rw [Bool.and_eq_true] at h'
        have pb : PW X (.BoolOp .Or (y :: rest) pos) (tT X.K W F0 H0 (tst Φ cs b)) := by
          cases rest with
          | nil => exact pw_or1 ((hb (F0 := F0) (H0 := H0) hX y).2.2 h'.2)
          | cons z r => exact pw_of ((hb (F0 := F0) (H0 := H0) hX _).2.2 h'.2)
        refine (PW.pt (pw_or ((ha (F0 := F0) (H0 := H0) hX x).2.2 h'.1) pb)).impW fun σ H Q ⟨env, F, rs, k⟩ => ⟨env, F, rs, (KR.bind k).imp fun F1 H1 c e1 k1 => ?_⟩
        cases c with
        | true => exact iteT (k1 F1 H1 (Ext.refl e1.sub))
        | false => exact iteF ⟨env, F1, rs.more e1, k1⟩
      | [], h => exact Bool.noConfusion h
      | [_], h => exact Bool.noConfusion h
    | And => exact Bool.noConfusion h
  | _ => exact Bool.noConfusion h
theorem se_not {a : E} (ha : SE a) : SE (.not a) := by
  intro X C k Φ cs clsA W F0 H0 hX x
  have kv : ∀ m, m.sub = .val → chk C m (.not a) x = true → PE X x (tE X.K W F0 H0 (ev Φ cs (.not a))) := fun m hm h => by
    cases x with
    | UnaryOp op y pos =>
      cases op with
      | Not =>
        have h' : chk C m.sub a y = true := h
        rw [hm] at h'
        refine (pe_notT ((ha (F0 := F0) (H0 := H0) hX y).1 h')).impW fun σ H Q ⟨env, F, rs, k⟩ => ⟨env, F, rs, (KR.bind k).imp fun F1 H1 d e1 k1 v r1 => ?_⟩
        rcases tru_ok_d (K := X.K) (F := F1) (H := H1) (d := d) rfl with q | ⟨c, q⟩
        · rw [q] at k1; exact k1.elim
        · rw [q] at k1
          exact ⟨c, rpO_tru e1.sub (.inl r1) q, KE.same (d := .bool (!c)) e1.sub k1 (.bl _)⟩
      | _ => exact Bool.noConfusion h
    | _ => exact Bool.noConfusion h
  refine ⟨kv _ rfl, fun h => weak (kv _ rfl h), fun h => ?_⟩
  cases x with
  | UnaryOp op y pos =>
    cases op with
    | Not =>
      have h' : chk C .tst a y = true := h
      exact (pt_not ((ha (F0 := F0) (H0 := H0) hX y).2.2 h')).impW fun σ H Q ⟨env, F, rs, k⟩ => ⟨env, F, rs, (KR.bind k).imp fun F1 H1 c e1 k1 => k1 F1 H1 (Ext.refl e1.sub)⟩
    | _ => exact Bool.noConfusion h
  | _ => exact Bool.noConfusion h
theorem se_ife {t a b : E} (ht : SE t) (ha : SE a) (hb : SE b) : SE (.ife t a b) := by
  refine se_plain fun {X C k Φ cs clsA W F0 H0} hX m x h => ?_
  cases x with
  | IfExp t' y z pos =>
    have h' : (!m.isTst && chk C .tst t t' && chk C .val a y && chk C .val b z) = true := h
    rw [Bool.and_eq_true, Bool.and_eq_true] at h'
    obtain ⟨h1, h2⟩ := not_tst h'.1.1
    refine ⟨h1, (pe_ifExp ((ht (F0 := F0) (H0 := H0) hX t').2.2 h2) ((ha (F0 := F0) (H0 := H0) hX y).1 h'.1.2) ((hb (F0 := F0) (H0 := H0) hX z).1 h'.2)).impW fun σ H Q ⟨env, F, rs, k⟩ => ⟨env, F, rs, (KR.bind k).imp fun F1 H1 c e1 k1 => ?_⟩⟩
    cases c with
    | true => exact iteT ⟨env, F1, rs.more e1, k1⟩
    | false => exact iteF ⟨env, F1, rs.more e1, k1⟩
  | _ => exact Bool.noConfusion h

/-! ### places, slices -/
theorem plain_ix {C : Cfg} {m : Md} {e : E} {x : Expr} (h : chk C m e x = true) : PlainIx x := by
  intro o i
  cases x with
  | Slice a b c p =>
    cases e with
    | isi a tys =>
      cases tys with
      | nil => exact Bool.noConfusion h
      | cons t r => cases r <;> exact Bool.noConfusion h
    | _ => exact Bool.noConfusion h
  | _ => rfl
theorem ix_not_slice {C : Cfg} {m : Md} {a b : E} {x y : Expr} {pos : Pos} (h : chk C m (.ix a b) (.Subscript x y pos) = true) : chk C .opd a x = true ∧ chk C .val b y = true := by
  have h' : (chk C .opd a x && chk C .val b y) = true := h
  rw [Bool.and_eq_true] at h'
  exact h'
theorem se_ix {a b : E} (ha : SE a) (hb : SE b) : SE (.ix a b) := by
  refine se_truth (fun {X C k Φ cs clsA W F0 H0} hX m x h => ?_) fun Φ cs env => ?_
  · cases x with
    | Subscript x y pos =>
      obtain ⟨h1, h2⟩ := ix_not_slice h
      refine ⟨(pe_ix (ix_any (W := W) hX.room) ((ha (F0 := F0) (H0 := H0) hX x).2.1 h1) ((hb (F0 := F0) (H0 := H0) hX y).1 h2) (plain_ix h2)).impW fun σ H Q ⟨env, F, rs, k⟩ => ?_, fun _ => rfl⟩
      exact ⟨env, F, rs, (KR.bind k).imp fun F1 H1 d e1 k1 v r1 => ⟨env, F1, rs.more e1, (KR.bind k1).imp fun F2 H2 d2 e2 k2 v2 r2 => ⟨F2, d, d2, e2.sub, r1.mono e2, .inl r2, k2⟩⟩⟩
    | _ => exact Bool.noConfusion h
  · show (ev Φ cs a env).bind (fun x => (ev Φ cs b env).bind fun y => (itemD x y).bind truD) = _
    cases h1 : ev Φ cs a env with
    | ok d =>
      cases h2 : ev Φ cs b env with
      | ok d2 => show _ = ((ev Φ cs a env).bind (fun x => (ev Φ cs b env).bind fun y => itemD x y)).bind truD; rw [h1, h2]; rfl
      | exn c => show _ = ((ev Φ cs a env).bind (fun x => (ev Φ cs b env).bind fun y => itemD x y)).bind truD; rw [h1, h2]; rfl
      | stuck => show _ = ((ev Φ cs a env).bind (fun x => (ev Φ cs b env).bind fun y => itemD x y)).bind truD; rw [h1, h2]; rfl
    | exn c => show _ = ((ev Φ cs a env).bind (fun x => (ev Φ cs b env).bind fun y => itemD x y)).bind truD; rw [h1]; rfl
    | stuck => show _ = ((ev Φ cs a env).bind (fun x => (ev Φ cs b env).bind fun y => itemD x y)).bind truD; rw [h1]; rfl
/-- a slice's bound -/
def tP (K : PySem.W.Frag) (W : Nat → Hp → Prop) (F0 H0 : Hp) (g : Env → Res (Option Int)) : TO := fun σ H Q => ∃ env F, RS K F0 H0 F H σ env ∧ KR (fun _ H' o => Q o H') W F H (g env)
theorem po_of {X : Cx} {C : Cfg} {k : Nat} {Φ : Phi} {cs : Nat → Res D} {clsA : Nat → Addr} {W : Nat → Hp → Prop} {F0 H0 : Hp} (hX : XOk X C k Φ cs clsA W) {e : E} (he : SE e) {o : Option Expr}
    (h : (match (generalizing := false) o with | none => e.isAbs | some l => !e.isAbs && chk C .val e l) = true) : PO X o (tP X.K W F0 H0 fun env => optE e.isAbs (ev Φ cs e env)) := by
  cases o with
  | none =>
    refine ⟨fun pins s σ H Q I ⟨env, F, rs, k⟩ => po_none.run pins s σ H Q I ?_⟩
    rw [show e.isAbs = true from h] at k
    exact k F H (Ext.refl rs.ext.sub)
  | some l =>
    have h' : (!e.isAbs && chk C .val e l) = true := h
    rw [Bool.and_eq_true] at h'
    have ha : e.isAbs = false := by simpa using h'.1
    refine ⟨fun pins s σ H Q I ⟨env, F, rs, k⟩ => (po_some ((he (F0 := F0) (H0 := H0) hX l).1 h'.2)).run pins s σ H Q I ?_⟩
    rw [ha] at k
    refine ⟨env, F, rs, (KR.bind (f := optI) k).imp fun F1 H1 d e1 k1 v r1 => ?_⟩
    cases d with
    | int i =>
      cases r1
      exact ⟨i, rfl, k1 F1 H1 (Ext.refl e1.sub)⟩
    | _ => exact k1.elim
theorem se_slc {a lo hi : E} (ha : SE a) (hl : SE lo) (hh : SE hi) : SE (.slc a lo hi) := by
  refine se_plain fun {X C k Φ cs clsA W F0 H0} hX m x h => ?_
  cases x with
  | Subscript x y pos =>
    cases y with
    | Slice lo' hi' st p =>
      cases st with
      | none =>
        have h' : (!m.isTst && chk C .opd a x && (match (generalizing := false) lo' with | none => lo.isAbs | some l => !lo.isAbs && chk C .val lo l) && (match (generalizing := false) hi' with | none => hi.isAbs | some l => !hi.isAbs && chk C .val hi l)) = true := h
        rw [Bool.and_eq_true, Bool.and_eq_true] at h'
        obtain ⟨h1, h2⟩ := not_tst h'.1.1
        refine ⟨h1, (pe_slice (sl_any (W := W)) ((ha (F0 := F0) (H0 := H0) hX x).2.1 h2) (po_of (F0 := F0) (H0 := H0) hX hl h'.1.2) (po_of (F0 := F0) (H0 := H0) hX hh h'.2)).impW fun σ H Q ⟨env, F, rs, k⟩ => ?_⟩
        exact ⟨env, F, rs, (KR.bind k).imp fun F1 H1 d e1 k1 v r1 => ⟨env, F1, rs.more e1, (KR.bind k1).imp fun F2 H2 l e2 k2 => ⟨env, F2, (rs.more e1).more e2, (KR.bind k2).imp fun F3 H3 u e3 k3 => ⟨F3, d, e3.sub, (r1.mono e2).mono e3, k3⟩⟩⟩⟩
      | some _ => exact Bool.noConfusion h
    | _ => exact Bool.noConfusion h
  | _ => exact Bool.noConfusion h

/-! ### arguments -/
theorem star_of {x : Expr} {xs : List Expr} {env : PySem.Env} (h : notStar x = true) : starEach (x :: xs) env = (false, eval x env) :: starEach xs env := by
  cases x with
  | Starred _ _ => exact Bool.noConfusion h
  | _ => rfl
theorem se_rep {a b : E} (ha : SE a) (hb : SE b) : SE (.rep a b) := by
  refine se_plain fun {X C k Φ cs clsA W F0 H0} hX m x h => ?_
  cases x with
  | BinOp l op' r pos =>
    cases l with
    | List xs p0 =>
      match xs, op', h with
      | [x], .Mult, h =>
        have h' : (!m.isTst && chk C .val a x && notStar x && chk C .opd b r) = true := h
        simp only [Bool.and_eq_true] at h'
        obtain ⟨⟨⟨h1, h2⟩, h3⟩, h4⟩ := h'
        have PAx := pa_cons ((ha (F0 := F0) (H0 := H0) hX x).1 h2) (pa_nil (X := X)) (star_of h3)
        refine ⟨by simpa using h1, (pe_op op_rep (pe_lst PAx) ((hb (F0 := F0) (H0 := H0) hX r).2.1 h4)).impW fun σ H Q ⟨env, F, rs, k⟩ => ?_⟩
        refine ⟨env, F, rs, (KR.bind k).imp fun F1 H1 d e1 k1 v r1 => ⟨by show 1 ≤ sizeLine; decide, fun l n => ?_⟩⟩
        have ex : Ext F1 H1 F1 (upd H1 l (.lst [v])) := Ext.fresh e1.sub n
        refine ⟨env, F1, (rs.more e1).more ex, ((KR.bind k1).ext ex).imp fun F2 H2 d2 e2 k2 v2 r2 => ?_⟩
        cases d2 with
        | int j =>
          obtain rfl := r2.int
          obtain ⟨z, k3⟩ := KR.need k2
          rw [Bool.and_eq_true] at z
          have z1 := of_decide_eq_true z.1
          have z2 := of_decide_eq_true z.2
          refine ⟨l, j, [v], rfl, rfl, e2.h.lst upd_same, by omega, by omega, by show 1 * j.toNat ≤ 16777216; omega, fun p np => ?_⟩
          rw [flat_one]
          exact KE.new (d := .list (List.replicate j.toNat d)) e2.sub k3 np (rp_lst e2.sub np (rp_same (r1.mono e2.f) _))
        | _ => exact k2.elim
      | [], _, h => exact Bool.noConfusion h
      | _ :: _ :: _, _, h => exact Bool.noConfusion h
    | _ => exact Bool.noConfusion h
  | _ => exact Bool.noConfusion h
theorem no_star {C : Cfg} {m : Md} {env : PySem.Env} {pos : Pos} : ∀ {es : Es} {xs : List Expr}, chks C m es xs = true → (backTo pos (starEach xs env)).any (·.1) = false
  | .nil, [], _ => rfl
  | .cons e es, x :: xs, h => by
    have h' : (chk C m e x && notStar x && chks C m es xs) = true := h
    rw [Bool.and_eq_true, Bool.and_eq_true] at h'
    rw [star_of h'.1.2]
    exact no_star h'.2
  | .nil, _ :: _, h => Bool.noConfusion h
  | .cons _ _, [], h => Bool.noConfusion h
theorem ses_nil : SEs .nil := by
  intro X C k Φ cs clsA W F0 H0 hX xs
  cases xs with
  | nil =>
    refine ⟨fun _ => pa_nil.impW fun σ H Q ⟨env, F, rs, k⟩ => k F H (Ext.refl rs.ext.sub) [] .nil, fun _ => pa_nil.impW fun σ H Q ⟨env, F, rs, k⟩ => k F H (Ext.refl rs.ext.sub) [] .nil, fun _ => .inl ⟨rfl, rfl⟩⟩
  | cons x r => exact ⟨fun h => Bool.noConfusion h, fun h => Bool.noConfusion h, fun h => Bool.noConfusion h⟩
theorem ses_cons {e : E} {es : Es} (he : SE e) (hs : SEs es) : SEs (.cons e es) := by
  intro X C k Φ cs clsA W F0 H0 hX xs
  cases xs with
  | nil => exact ⟨fun h => Bool.noConfusion h, fun h => Bool.noConfusion h, fun h => Bool.noConfusion h⟩
  | cons x r =>
    have split : ∀ m, chks C m (.cons e es) (x :: r) = true → (chk C m e x = true ∧ notStar x = true) ∧ chks C m es r = true := fun m h => by
      have h' : (chk C m e x && notStar x && chks C m es r) = true := h
      rw [Bool.and_eq_true, Bool.and_eq_true] at h'
      exact h'
    refine ⟨fun h => ?_, fun h => ?_, fun h => ?_⟩
    · obtain ⟨⟨h1, h2⟩, h3⟩ := split _ h
      refine (pa_cons ((he (F0 := F0) (H0 := H0) hX x).1 h1) ((hs (F0 := F0) (H0 := H0) hX r).1 h3) (star_of h2)).impW fun σ H Q ⟨env, F, rs, k⟩ => ?_
      refine ⟨env, F, rs, (KR.bind k).imp fun F1 H1 d e1 k1 v r1 => ⟨env, F1, rs.more e1, (KR.bind k1).imp fun F2 H2 ds e2 k2 vs r2 => ?_⟩⟩
      exact k2 F2 H2 (Ext.refl e2.sub) _ (.cons (r1.mono e2.f) r2)
    · obtain ⟨⟨h1, h2⟩, h3⟩ := split _ h
      refine (pa_cons ((he (F0 := F0) (H0 := H0) hX x).2.1 h1) ((hs (F0 := F0) (H0 := H0) hX r).2.1 h3) (star_of h2)).impW fun σ H Q ⟨env, F, rs, k⟩ => ?_
      refine ⟨env, F, rs, (KR.bind k).imp fun F1 H1 d e1 k1 v r1 => ⟨env, F1, rs.more e1, (KR.bind k1).imp fun F2 H2 ds e2 k2 vs r2 => ?_⟩⟩
      exact k2 F2 H2 (Ext.refl e2.sub) _ (.cons (r1.mono e2) r2)
    · obtain ⟨⟨h1, h2⟩, h3⟩ := split _ h
      exact .inr ⟨x, r, e, es, rfl, rfl, (he (F0 := F0) (H0 := H0) hX x).2.2 h1⟩

/-! ### calls -/
theorem tst_call (Φ : Phi) (cs : Nat → Res D) (f : Nat) (es : Es) (env : Env) : tst Φ cs (.call f es) env = (ev Φ cs (.call f es) env).bind truD := by
  show (evs Φ cs es env).bind (fun ds => (Φ f ds).bind truD) = ((evs Φ cs es env).bind fun ds => Φ f ds).bind truD
  rw [bind_assoc]
theorem tst_blt (Φ : Phi) (cs : Nat → Res D) (b : Blt) (es : Es) (env : Env) : tst Φ cs (.blt b es) env = (ev Φ cs (.blt b es) env).bind truD := by
  show (evs Φ cs es env).bind (fun ds => (bltD b ds).bind truD) = ((evs Φ cs es env).bind fun ds => bltD b ds).bind truD
  rw [bind_assoc]
theorem se_call {f : Nat} {es : Es} (hs : SEs es) : SE (.call f es) := by
  refine se_truth (fun {X C k Φ cs clsA W F0 H0} hX m x h => ?_) fun Φ cs env => tst_call Φ cs f es env
  cases x with
  | Call fn args kws pos =>
    cases fn with
    | Name x p =>
      match args, kws, h with
      | e :: xs, [], h =>
        have h' : (decide (C.fns[f]? = some x) && glB C.sc x && plainN x && chks C .val es (e :: xs)) = true := h
        rw [Bool.and_eq_true, Bool.and_eq_true, Bool.and_eq_true] at h'
        obtain ⟨⟨⟨h1, h2⟩, h3⟩, h4⟩ := h'
        obtain ⟨fi, m1, m2, m3, m4, m5⟩ := hX.fns f x (of_decide_eq_true h1)
        have hst : notStar e = true ∧ (backTo pos (starEach xs X.env)).any (·.1) = false := by
          cases es with
          | nil => exact Bool.noConfusion h4
          | cons e' es' =>
            have h5 : (chk C .val e' e && notStar e && chks C .val es' xs) = true := h4
            rw [Bool.and_eq_true, Bool.and_eq_true] at h5
            exact ⟨h5.1.2, no_star h5.2⟩
        refine ⟨(pe_call m4 hX.room (hX.gl h2) m1 m2 m3 .nil hX.passes ((hs (F0 := F0) (H0 := H0) hX (e :: xs)).1 h4) (plainN_of h3).1 (star_of hst.1) hst.2).impW fun σ H Q ⟨env, F, rs, k⟩ => ?_, fun _ => rfl⟩
        refine ⟨env, F, rs, (KR.bind k).imp fun F1 H1 ds e1 k1 vs r1 => ?_⟩
        show spD X.K clsA fi.ps.length (Φ f) (vs ++ []) H1 Q (EXof clsA W)
        rw [List.append_nil]
        by_cases hl : ds.length = fi.ps.length
        · exact ⟨r1.length.trans hl, F1, ds, e1.sub, r1, (rs.more e1).tab, k1.impX fun c H' q => ⟨c, rfl, rfl, q⟩⟩
        · rw [m5 ds hl] at k1
          exact k1.elim
      | [], _, h => exact Bool.noConfusion h
      | _ :: _, _ :: _, h => exact Bool.noConfusion h
    | _ => exact Bool.noConfusion h
  | _ => exact Bool.noConfusion h
end MW

set_option maxRecDepth 100000
set_option maxHeartbeats 1000000
/-! Part 2h: built-ins as calls, loops' items, comprehensions. -/
namespace MW
open PySem PySem.Spec PyProof.Rows L2
open Res
variable [Lam]

theorem chk_notStar {C : Cfg} {m : Md} {e : E} {x : Expr} (h : chk C m e x = true) : notStar x = true := by
  cases x with
  | Starred a p =>
    cases e with
    | isi a tys =>
      cases tys with
      | nil => exact Bool.noConfusion h
      | cons t r => cases r <;> exact Bool.noConfusion h
    | _ => exact Bool.noConfusion h
  | _ => rfl
theorem chks_first {C : Cfg} {m : Md} {es : Es} {e : Expr} {xs : List Expr} {env : PySem.Env} {pos : Pos} (h : chks C m es (e :: xs) = true) : starEach (e :: xs) env = (false, eval e env) :: starEach xs env ∧ (backTo pos (starEach xs env)).any (·.1) = false := by
  cases es with
  | nil => exact Bool.noConfusion h
  | cons e' es' =>
    have h5 : (chk C m e' e && notStar e && chks C m es' xs) = true := h
    rw [Bool.and_eq_true, Bool.and_eq_true] at h5
    exact ⟨star_of h5.1.2, no_star h5.2⟩
section
variable {X : Cx} {C : Cfg} {k : Nat} {Φ : Phi} {cs : Nat → Res D} {clsA : Nat → Addr} {W : Nat → Hp → Prop} {F0 H0 : Hp}
theorem XOk.no (hX : XOk X C k Φ cs clsA W) {x : Str} (h : bltNames.contains x = true) : X.mg x = none := hX.blt x (by simpa using h)
theorem pe_blt (hX : XOk X C k Φ cs clsA W) {b : Blt} {e : Expr} {xs : List Expr} {p pos : Pos} {t : TA} (hg : glB C.sc (bltName b) = true) (ha : PA X (e :: xs) t) (h1 : starEach (e :: xs) X.env = (false, eval e X.env) :: starEach xs X.env)
    (h2 : (backTo pos (starEach xs X.env)).any (·.1) = false) : PE X (.Call (.Name (bltName b) p) (e :: xs) [] pos) (tCB (rO1 X.K W (bltD b)) t) := by
  cases b with
  | len => exact pe_callB cb_len (hX.gl hg) (hX.no (by decide +kernel)) (by decide +kernel) ha (by decide +kernel) (by decide +kernel) h1 h2
  | min2 => exact pe_callB (cb_min hX.calm) (hX.gl hg) (hX.no (by decide +kernel)) (by decide +kernel) ha (by decide +kernel) (by decide +kernel) h1 h2
  | max2 => exact pe_callB (cb_max hX.calm) (hX.gl hg) (hX.no (by decide +kernel)) (by decide +kernel) ha (by decide +kernel) (by decide +kernel) h1 h2
  | all => exact pe_callB (cb_all hX.calm) (hX.gl hg) (hX.no (by decide +kernel)) (by decide +kernel) ha (by decide +kernel) (by decide +kernel) h1 h2
  | tuple => exact pe_callTy ct_tuple (hX.gl hg) (hX.no (by decide +kernel)) (by decide +kernel) ha (by decide +kernel) (by decide +kernel) h1 h2
  | list => exact pe_callTy (ct_list hX.calm) (hX.gl hg) (hX.no (by decide +kernel)) (by decide +kernel) ha (by decide +kernel) (by decide +kernel) h1 h2
  | int => exact pe_callTy ct_int (hX.gl hg) (hX.no (by decide +kernel)) (by decide +kernel) ha (by decide +kernel) (by decide +kernel) h1 h2
  | sorted => exact pe_callB cb_sorted (hX.gl hg) (hX.no (by decide +kernel)) (by decide +kernel) ha (by decide +kernel) (by decide +kernel) h1 h2
end
theorem se_blt {b : Blt} {es : Es} (hs : SEs es) : SE (.blt b es) := by
  refine se_truth (fun {X C k Φ cs clsA W F0 H0} hX m x h => ?_) fun Φ cs env => tst_blt Φ cs b es env
  cases x with
  | Call fn args kws pos =>
    cases fn with
    | Name x p =>
      match args, kws, h with
      | e :: xs, [], h =>
        have h' : (decide (x = bltName b) && glB C.sc x && chks C .opd es (e :: xs)) = true := h
        rw [Bool.and_eq_true, Bool.and_eq_true] at h'
        obtain ⟨⟨h1, h2⟩, h3⟩ := h'
        have e0 := of_decide_eq_true h1
        subst e0
        obtain ⟨s1, s2⟩ := chks_first (env := X.env) (pos := pos) h3
        refine ⟨(pe_blt (W := W) hX h2 ((hs (F0 := F0) (H0 := H0) hX (e :: xs)).2.1 h3) s1 s2).impW fun σ H Q ⟨env, F, rs, k⟩ => ?_, fun _ => rfl⟩
        exact ⟨env, F, rs, (KR.bind k).imp fun F1 H1 ds e1 k1 vs r1 => ⟨F1, ds, e1.sub, r1, k1⟩⟩
      | [], _, h => exact Bool.noConfusion h
      | _ :: _, _ :: _, h => exact Bool.noConfusion h
    | _ => exact Bool.noConfusion h
  | _ => exact Bool.noConfusion h
theorem se_isi {a : E} {tys : List Ty} (ha : SE a) : SE (.isi a tys) := by
  refine se_truth (fun {X C k Φ cs clsA W F0 H0} hX m x h => ?_) fun Φ cs env => ?_
  · match tys, h with
    | [t], h =>
      cases x with
      | Call fn args kws pos =>
        cases fn with
        | Name x p =>
          cases args with
          | nil => exact Bool.noConfusion h
          | cons y r1 =>
            cases r1 with
            | nil => exact Bool.noConfusion h
            | cons z r2 =>
              cases z with
              | Name T p2 =>
                cases r2 with
                | nil =>
                  cases kws with
                  | nil =>
                      have h' : (decide (x = "isinstance") && glB C.sc x && chk C .opd a y && decide (T = Str.ofString (tyName t)) && glB C.sc T) = true := h
                      rw [Bool.and_eq_true, Bool.and_eq_true, Bool.and_eq_true, Bool.and_eq_true] at h'
                      obtain ⟨⟨⟨⟨h1, h2⟩, h3⟩, h4⟩, h5⟩ := h'
                      have e0 := of_decide_eq_true h1
                      subst e0
                      have e0 := of_decide_eq_true h4
                      subst e0
                      have hT : PE X (.Name (Str.ofString (tyName t)) p2) (tC (.ty (tyName t))) := by
                        cases t with
                        | int => exact pe_bltn (hX.gl h5) (hX.no (by decide +kernel)) (by decide +kernel) rfl (by decide +kernel) (by decide +kernel)
                        | bool => exact pe_bltn (hX.gl h5) (hX.no (by decide +kernel)) (by decide +kernel) rfl (by decide +kernel) (by decide +kernel)
                        | tuple => exact pe_bltn (hX.gl h5) (hX.no (by decide +kernel)) (by decide +kernel) rfl (by decide +kernel) (by decide +kernel)
                        | str => exact pe_bltn (hX.gl h5) (hX.no (by decide +kernel)) (by decide +kernel) rfl (by decide +kernel) (by decide +kernel)
                        | list => exact pe_bltn (hX.gl h5) (hX.no (by decide +kernel)) (by decide +kernel) rfl (by decide +kernel) (by decide +kernel)
                      refine ⟨(pe_callB call_isi (hX.gl h2) (hX.no (by decide +kernel)) (by decide +kernel) (pa_cons ((ha (F0 := F0) (H0 := H0) hX y).2.1 h3) (pa_cons hT pa_nil) (star_of (chk_notStar h3))) (by decide +kernel) (by decide +kernel) (star_of (chk_notStar h3)) rfl).impW fun σ H Q ⟨env, F, rs, k⟩ => ?_, fun _ => rfl⟩
                      refine ⟨env, F, rs, (KR.bind k).imp fun F1 H1 d e1 k1 v r1 => ?_⟩
                      refine ⟨v, .ty (tyName t), _, _, tyB d t, rfl, .ty _, tyx_of e1.sub r1, kit_ty (kit_d d t), ?_⟩
                      have e2 : ([t].any fun t => tyB d t) = tyB d t := by rw [List.any_cons, List.any_nil, Bool.or_false]
                      rw [e2] at k1
                      exact KE.same (d := .bool (tyB d t)) e1.sub k1 (.bl _)
                  | cons _ _ => exact Bool.noConfusion h
                | cons _ _ => exact Bool.noConfusion h
              | _ => exact Bool.noConfusion h
        | _ => exact Bool.noConfusion h
      | _ => exact Bool.noConfusion h
    | [], h => cases x <;> exact Bool.noConfusion h
    | _ :: _ :: _, h => cases x <;> exact Bool.noConfusion h
  · show (ev Φ cs a env).bind (fun x => .ok (tys.any fun t => tyB x t)) = ((ev Φ cs a env).bind (fun x => .ok (.bool (tys.any fun t => tyB x t)))).bind truD
    rw [bind_assoc]; rfl

/-! ### what a loop walks -/
def Walks (K : PySem.W.Frag) (J : It) (F1 B : Hp) (ds : List D) : Prop := ∀ F' H', Same F1 F' → Same F' H' → SameN B H' →
  (∀ i, i < ds.length → J.go i H') ∧ J.stop ds.length H' ∧ ∀ i d x H2, ds[i]? = some d → J.yld i H' x H2 → ∃ F2, Ext F' H' F2 H2 ∧ Rp K F2 x d
section
variable {K : PySem.W.Frag} {F1 B : Hp}
theorem walks_lst {a : Addr} {xs : List V} {ds : List D} (h : SqL K B a xs) (r : RpAll K F1 xs ds) : Walks K (Itl K a) F1 B ds := by
  intro F' H' s1 s2 s3
  have hq : SqL K H' a xs := s3.seq h
  refine ⟨fun i hi => ?_, ⟨xs, hq, Nat.le_of_eq r.length⟩, fun i d x H2 hd y => ?_⟩
  · rw [← r.length] at hi
    exact ⟨xs, xs[i], hq, by simp [hi]⟩
  · obtain ⟨e, y⟩ := y
    subst e
    obtain ⟨v, h1, h2⟩ := r.get hd
    have e2 := y xs hq
    rw [h1] at e2
    cases e2
    exact ⟨F', Ext.refl s2, h2.mono s1⟩
theorem walks_tup {a : Addr} {xs : List V} {ds : List D} (h : SqT K B a xs) (r : RpAll K F1 xs ds) : Walks K (Itt K a) F1 B ds := by
  intro F' H' s1 s2 s3
  have hq : SqT K H' a xs := s3.sqt h
  refine ⟨fun i hi => ?_, ⟨xs, hq, Nat.le_of_eq r.length⟩, fun i d x H2 hd y => ?_⟩
  · rw [← r.length] at hi
    exact ⟨xs, xs[i], hq, by simp [hi]⟩
  · obtain ⟨e, y⟩ := y
    subst e
    obtain ⟨v, h1, h2⟩ := r.get hd
    have e2 := y xs hq
    rw [h1] at e2
    cases e2
    exact ⟨F', Ext.refl s2, h2.mono s1⟩
theorem walks_str (z : Str) : Walks K (Its z) F1 B (z.cps.toList.map chD) := by
  intro F' H' s1 s2 s3
  refine ⟨fun i hi => ?_, ?_, fun i d x H2 hd y => ?_⟩
  · rw [List.length_map, Array.length_toList] at hi
    exact hi
  · show z.cps.size ≤ _
    rw [List.length_map, Array.length_toList]
    exact Nat.le_refl _
  · obtain ⟨e, c, hc, rfl⟩ := y
    subst e
    rw [List.getElem?_map, Array.getElem?_toList, hc] at hd
    cases hd
    exact ⟨F', Ext.refl s2, .str _⟩
theorem walks_range (lo : Int) (n : Nat) : Walks K (Itr lo n) F1 B ((List.range n).map fun i => .int (lo + (i : Nat))) := by
  intro F' H' s1 s2 s3
  refine ⟨fun i hi => ?_, ?_, fun i d x H2 hd y => ?_⟩
  · rw [List.length_map, List.length_range] at hi
    exact hi
  · show n ≤ _
    rw [List.length_map, List.length_range]
    exact Nat.le_refl _
  · obtain ⟨e, y⟩ := y
    subst e
    subst y
    have hi : i < n := by
      have := (List.getElem?_eq_some_iff.mp hd).1
      rwa [List.length_map, List.length_range] at this
    rw [List.getElem?_map, List.getElem?_range hi] at hd
    cases hd
    exact ⟨F', Ext.refl s2, .int _⟩
theorem walks_rev {a : Addr} {xs : List V} {ds : List D} (h : SqL K B a xs) (r : RpAll K F1 xs ds) : Walks K (Itv K a xs.length) F1 B ds.reverse := by
  intro F' H' s1 s2 s3
  have hq : SqL K H' a xs := s3.seq h
  have hl := r.length
  refine ⟨fun i hi => ?_, ?_, fun i d x H2 hd y => ?_⟩
  · rw [List.length_reverse, ← hl] at hi
    exact ⟨hi, xs, xs[xs.length - 1 - i], hq, by simp⟩
  · show xs.length ≤ _
    rw [List.length_reverse]; omega
  · obtain ⟨e, y⟩ := y
    subst e
    have hi : i < ds.length := by
      have := (List.getElem?_eq_some_iff.mp hd).1
      rwa [List.length_reverse] at this
    rw [List.getElem?_reverse hi] at hd
    obtain ⟨v, h1, h2⟩ := r.get hd
    have e2 := y xs hq
    rw [hl, h1] at e2
    cases e2
    exact ⟨F', Ext.refl s2, h2.mono s1⟩
theorem enum_get : ∀ (ds : List D) (n i : Nat) (d : D), (enumFrom n ds)[i]? = some d → ∃ x, ds[i]? = some x ∧ d = .tuple [.int ((n + i : Nat) : Int), x]
  | [], _, _, _, h => by simp [enumFrom] at h
  | x :: r, n, 0, d, h => by
    have h' : some (PyData.tuple [.int n, x]) = some d := h
    cases h'
    exact ⟨x, rfl, rfl⟩
  | x :: r, n, i + 1, d, h => by
    have h' : (enumFrom (n + 1) r)[i]? = some d := h
    obtain ⟨y, h1, h2⟩ := enum_get r (n + 1) i d h'
    refine ⟨y, h1, ?_⟩
    rw [h2]
    have e : n + 1 + i = n + (i + 1) := by omega
    rw [e]
theorem enum_len : ∀ (ds : List D) (n : Nat), (enumFrom n ds).length = ds.length
  | [], _ => rfl
  | x :: r, n => by
    show (enumFrom (n + 1) r).length + 1 = r.length + 1
    rw [enum_len r]
theorem walks_enum {a : Addr} {xs : List V} {ds : List D} (h : SqL K B a xs) (r : RpAll K F1 xs ds) : Walks K (Ite K a) F1 B (enumFrom 0 ds) := by
  intro F' H' s1 s2 s3
  have hq : SqL K H' a xs := s3.seq h
  have hl := r.length
  refine ⟨fun i hi => ?_, ⟨xs, hq, ?_⟩, fun i d x H2 hd y => ?_⟩
  · rw [enum_len, ← hl] at hi
    exact ⟨xs, xs[i], hq, by simp [hi]⟩
  · rw [enum_len, hl]
    exact Nat.le_refl _
  · obtain ⟨T, x', rfl, n, rfl, y⟩ := y
    obtain ⟨z, h1, rfl⟩ := enum_get ds 0 i d hd
    obtain ⟨v, h2, h3⟩ := r.get h1
    have e2 := y xs hq
    rw [h2] at e2
    cases e2
    refine ⟨upd F' T (.tup [.int ((i : Nat) : Int), x']), Ext.add s2 n, ?_⟩
    have e : ((0 + i : Nat) : Int) = ((i : Nat) : Int) := by omega
    rw [e]
    exact rp_tup s2 n (.cons (.int _) (.cons (h3.mono s1) .nil))
theorem walks_enumT {a : Addr} {xs : List V} {ds : List D} (h : SqT K B a xs) (r : RpAll K F1 xs ds) : Walks K (IteT K a) F1 B (enumFrom 0 ds) := by
  intro F' H' s1 s2 s3
  have hq : SqT K H' a xs := s3.sqt h
  have hl := r.length
  refine ⟨fun i hi => ?_, ⟨xs, hq, ?_⟩, fun i d x H2 hd y => ?_⟩
  · rw [enum_len, ← hl] at hi
    exact ⟨xs, xs[i], hq, by simp [hi]⟩
  · rw [enum_len, hl]
    exact Nat.le_refl _
  · obtain ⟨T, x', rfl, n, rfl, y⟩ := y
    obtain ⟨z, h1, rfl⟩ := enum_get ds 0 i d hd
    obtain ⟨v, h2, h3⟩ := r.get h1
    have e2 := y xs hq
    rw [h2] at e2
    cases e2
    refine ⟨upd F' T (.tup [.int ((i : Nat) : Int), x']), Ext.add s2 n, ?_⟩
    have e : ((0 + i : Nat) : Int) = ((i : Nat) : Int) := by omega
    rw [e]
    exact rp_tup s2 n (.cons (.int _) (.cons (h3.mono s1) .nil))
end

/-- strong: the walk stands as long as F stands; weak: as long as H stands -/
def tI (K : PySem.W.Frag) (W : Nat → Hp → Prop) (F0 H0 : Hp) (strong : Bool) (g : Env → Res (List D)) : TI := fun σ H R => ∃ env F, RS K F0 H0 F H σ env ∧
  KR (fun F1 H1 ds => ∀ J, Walks K J F1 (if strong then F1 else H1) ds → R J H1) W F H (g env)
theorem _root_.L2.PI.impW {X : Cx} {tg it : Expr} {w w' : TI} (h : PI X tg it w) (q : ∀ σ H R, w' σ H R → w σ H R) : PI X tg it w' := ⟨fun pins s σ H R I x => h.run pins s σ H R I (q σ H R x)⟩
theorem pi_or {X : Cx} {tg it : Expr} {w w' : TI} (h : PI X tg it w) (h' : PI X tg it w') : PI X tg it (fun σ H R => w σ H R ∨ w' σ H R) := ⟨fun pins s σ H R I x => x.elim (h.run pins s σ H R I) (h'.run pins s σ H R I)⟩
theorem rd_base {F H : Hp} {a : Addr} {u : HO} (b : Bool) (h : Rd F a u) (s : Same F H) : Rd (if b then F else H) a u := by
  cases b with
  | true => exact h
  | false => exact Same.rd s h
theorem sq_base {K : PySem.W.Frag} {F H : Hp} {a : Addr} {u : List V} (b : Bool) (h : SqT K F a u) (s : Same F H) : SqT K (if b then F else H) a u := by
  cases b with
  | true => exact h
  | false => exact Same.sqt s h
/-- an operand of the kind asked -/
def RpM (strong : Bool) (K : PySem.W.Frag) (F H : Hp) (v : V) (d : D) : Prop := if strong then Rp K F v d else RpO K F H v d
theorem RpM.o {strong : Bool} {K : PySem.W.Frag} {F H : Hp} {v : V} {d : D} (h : RpM strong K F H v d) : RpO K F H v d := by
  cases strong with
  | true => exact .inl h
  | false => exact h
theorem RpM.lst {strong : Bool} {K : PySem.W.Frag} {F H : Hp} {v : V} {ds : List D} (s : Same F H) (h : RpM strong K F H v (.list ds)) : ∃ a xs, v = .ref a ∧ SqL K (if strong then F else H) a xs ∧ RpAll K F xs ds := by
  cases strong with
  | true =>
    cases (show Rp K F v (.list ds) from h) with
    | lst h1 h2 => exact ⟨_, _, rfl, h1, h2⟩
  | false => exact RpO.lst s h
theorem RpM.tup {strong : Bool} {K : PySem.W.Frag} {F H : Hp} {v : V} {ds : List D} (s : Same F H) (h : RpM strong K F H v (.tuple ds)) : ∃ a xs, v = .ref a ∧ SqT K (if strong then F else H) a xs ∧ RpAll K F xs ds := by
  obtain ⟨a, xs, h1, h2, h3, h4⟩ := h.o.tup s
  exact ⟨a, xs, h1, sq_base strong h4 s, h3⟩
def tM (strong : Bool) (K : PySem.W.Frag) (W : Nat → Hp → Prop) (F0 H0 : Hp) (g : Env → Res D) : TE := fun σ H Q => ∃ env F, RS K F0 H0 F H σ env ∧ KR (fun F' H' d => ∀ v, RpM strong K F' H' v d → Q v H') W F H (g env)
def mdOf (strong : Bool) : Md := if strong then .val else .opd
theorem pe_m {X : Cx} {C : Cfg} {k : Nat} {Φ : Phi} {cs : Nat → Res D} {clsA : Nat → Addr} {W : Nat → Hp → Prop} {F0 H0 : Hp} (hX : XOk X C k Φ cs clsA W) {e : E} (he : SE e) {x : Expr} (strong : Bool) (h : chk C (mdOf strong) e x = true) : PE X x (tM strong X.K W F0 H0 (ev Φ cs e)) := by
  cases strong with
  | true => exact (he (F0 := F0) (H0 := H0) hX x).1 h
  | false => exact (he (F0 := F0) (H0 := H0) hX x).2.1 h
end MW

set_option maxRecDepth 100000
set_option maxHeartbeats 1000000
/-! Part 2x: three comparisons in a row, slices with a step, len(set(..)), methods. -/
namespace MW
open PySem PySem.Spec PyProof.Rows L2
open Res
variable [Lam]

/-! ### a op1 b op2 c op3 d, as a test -/
section
variable {X : Cx} {a b c d : Expr} {ta tb tc td : TE} {pos : Pos}
def tChain3 (r r' r'' : R2) (ta tb tc td : TE) : TT := fun σ H Q => ta σ H fun x H1 => tb σ H1 fun y H2 => r x y H2 fun z H3 => ∃ k, z = .bl k ∧
  (if k = true then tc σ H3 fun w H4 => r' y w H4 fun z2 H5 => ∃ k2, z2 = .bl k2 ∧ (if k2 = true then td σ H5 fun u H6 => r'' w u H6 fun z3 H7 => ∃ k3, z3 = .bl k3 ∧ Q k3 H7 else Q false H5) else Q false H3)
theorem pt_chain3 {op op' op'' : CmpOp} {r r' r'' : R2} (ho : OpR X (compareOp op) r) (ho' : OpR X (compareOp op') r') (ho'' : OpR X (compareOp op'') r'') (ha : PE X a ta) (hb : PE X b tb) (hc : PE X c tc) (hd : PE X d td)
    (hm : lastMarks [op, op', op''] [b, c, d] = false) : PT X (.Compare a [op, op', op''] [b, c, d] pos) (tChain3 r r' r'' ta tb tc td) := by
  refine ⟨fun pins s σ H Q I h => ?_⟩
  refine isTrue_chain (thn (ha.run pins s σ H _ I h) fun v s1 ⟨x, H1, I1, r1, q1⟩ => test_link (thn (hb.run pins s1 σ H1 _ I1 q1) fun u s2 ⟨y, H2, I2, r2, q2⟩ =>
    thn (ho pins s2 σ H2 x y v u _ I2 r1 r2 q2) fun dd s3 ⟨z, H3, I3, r3, k, e, q3⟩ => ?_)) hm
  subst e
  cases r3
  refine wpAny_truthy_bool ?_
  cases k with
  | false => exact ite_ff ⟨H3, I3, q3⟩
  | true =>
    refine ite_tt (test_link (thn (hc.run pins s3 σ H3 _ I3 q3) fun w' s4 ⟨z', H4, I4, r4, q4⟩ => thn (ho' pins s4 σ H4 y z' u w' _ I4 r2 r4 q4) fun d' s5 ⟨z2, H5, I5, r5, k2, e2, q5⟩ => ?_))
    subst e2
    cases r5
    refine wpAny_truthy_bool ?_
    cases k2 with
    | false => exact ite_ff ⟨H5, I5, q5⟩
    | true =>
      refine ite_tt (test_last (thn (hd.run pins s5 σ H5 _ I5 q5) fun w2 s6 ⟨z6, H6, I6, r6, q6⟩ => thn (ho'' pins s6 σ H6 z' z6 w' w2 _ I6 r4 r6 q6) fun d7 s7 ⟨z7, H7, I7, r7, k7, e7, q7⟩ => ?_))
      subst e7
      cases r7
      exact wpAny_truthy_bool ⟨H7, I7, q7⟩
end
theorem se_chain3 {op op2 op3 : CmpOp} {a b c d : E} (ha : SE a) (hb : SE b) (hc : SE c) (hd : SE d) : SE (.chain3 op op2 op3 a b c d) := by
  intro X C k Φ cs clsA W F0 H0 hX x
  have key : ∀ m, chk C m (.chain3 op op2 op3 a b c d) x = true → m.isTst = true ∧ PT X x (tT X.K W F0 H0 (tst Φ cs (.chain3 op op2 op3 a b c d))) := fun m h => by
    cases x with
    | Compare l ops rs' pos =>
      match ops, rs', h with
      | [o1, o2, o3], [r, t, w], h =>
        have h' : (m.isTst && decide (op = o1) && decide (op2 = o2) && decide (op3 = o3) && chk C .opd a l && chk C .opd b r && chk C .opd c t && chk C .opd d w) = true := h
        simp only [Bool.and_eq_true] at h'
        obtain ⟨⟨⟨⟨⟨⟨⟨h0, h1⟩, h2⟩, h3⟩, h4⟩, h5⟩, h6⟩, h7⟩ := h'
        have e := of_decide_eq_true h1
        subst e
        have e := of_decide_eq_true h2
        subst e
        have e := of_decide_eq_true h3
        subst e
        refine ⟨h0, (pt_chain3 (cmp_any (W := W) hX.room op) (cmp_any (W := W) hX.room op2) (cmp_any (W := W) hX.room op3) ((ha (F0 := F0) (H0 := H0) hX l).2.1 h4) ((hb (F0 := F0) (H0 := H0) hX r).2.1 h5) ((hc (F0 := F0) (H0 := H0) hX t).2.1 h6) ((hd (F0 := F0) (H0 := H0) hX w).2.1 h7) ((not_set h7).1 op3)).impW fun σ H Q ⟨env, F, rs, k⟩ => ?_⟩
        refine ⟨env, F, rs, (KR.bind k).imp fun F1 H1 d1 e1 k1 v r1 => ⟨env, F1, rs.more e1, (KR.bind k1).imp fun F2 H2 d2 e2 k2 v2 r2 => ⟨F2, d1, d2, e2.sub, r1.mono e2, r2, (KR.bind k2).imp fun F3 H3 d3 e3 k3 v3 r3 => ?_⟩⟩⟩
        cases d3 with
        | bool b3 =>
          cases r3
          refine ⟨b3, rfl, ?_⟩
          cases b3 with
          | true =>
            have rs3 := ((rs.more e1).more e2).more e3
            replace k3 : KT W F3 H3 ((ev Φ cs c env).bind fun z => (cmpD op2 d2 z).bind fun r2 => (boolD r2).bind fun k2 => match k2 with
              | true => (ev Φ cs d env).bind fun u => (cmpD op3 z u).bind boolD
              | false => .ok false) Q := k3
            refine iteT ⟨env, F3, rs3, (KR.bind k3).imp fun F4 H4 d4 e4 k4 v4 r4 => ⟨F4, d2, d4, e4.sub, (r2.mono e3).mono e4, r4, (KR.bind k4).imp fun F5 H5 d5 e5 k5 v5 r5 => ?_⟩⟩
            cases d5 with
            | bool b5 =>
              cases r5
              refine ⟨b5, rfl, ?_⟩
              cases b5 with
              | true =>
                replace k5 : KT W F5 H5 ((ev Φ cs d env).bind fun u => (cmpD op3 d4 u).bind boolD) Q := k5
                refine iteT ⟨env, F5, (rs3.more e4).more e5, (KR.bind k5).imp fun F6 H6 d6 e6 k6 v6 r6 => ⟨F6, d4, d6, e6.sub, (r4.mono e5).mono e6, r6, (KR.bind k6).imp fun F7 H7 d7 e7 k7 v7 r7 => ?_⟩⟩
                cases d7 with
                | bool b7 =>
                  cases r7
                  exact ⟨b7, rfl, k7 F7 H7 (Ext.refl e7.sub)⟩
                | _ => exact k7.elim
              | false => exact iteF (k5 F5 H5 (Ext.refl e5.sub))
            | _ => exact k5.elim
          | false => exact iteF (k3 F3 H3 (Ext.refl e3.sub))
        | _ => exact k3.elim
      | [], _, h => exact Bool.noConfusion h
      | [_], _, h => exact Bool.noConfusion h
      | [_, _], _, h => exact Bool.noConfusion h
      | [_, _, _], [], h => exact Bool.noConfusion h
      | [_, _, _], [_], h => exact Bool.noConfusion h
      | [_, _, _], [_, _], h => exact Bool.noConfusion h
      | [_, _, _], _ :: _ :: _ :: _ :: _, h => exact Bool.noConfusion h
      | _ :: _ :: _ :: _ :: _, _, h => exact Bool.noConfusion h
    | _ => exact Bool.noConfusion h
  exact ⟨fun h => Bool.noConfusion (key _ h).1, fun h => Bool.noConfusion (key _ h).1, fun h => (key _ h).2⟩

/-! ### slices with a step, of a tuple -/
def pickV {α : Type} (xs : List α) (c : Int) : List α := (List.range (Builtin.Slice.slicePlaces (Builtin.Slice.sliceAdjust none none c xs.length).1 (Builtin.Slice.sliceAdjust none none c xs.length).2 c)).filterMap fun (k : Nat) => xs[((Builtin.Slice.sliceAdjust none none c xs.length).1 + (k : Int) * c).toNat]?
theorem adj_neg (n : Nat) : Builtin.Slice.sliceAdjust none none (-1) (n : Int) = ((n : Int) - 1, -1) := by
  unfold Builtin.Slice.sliceAdjust; rfl
theorem adj_two (n : Nat) : Builtin.Slice.sliceAdjust none none 2 (n : Int) = (0, (n : Int)) := by
  unfold Builtin.Slice.sliceAdjust; rfl
theorem plc_neg (n : Nat) : Builtin.Slice.slicePlaces ((n : Int) - 1) (-1) (-1) = n := by
  unfold Builtin.Slice.slicePlaces
  rw [if_neg (by decide)]
  by_cases h : 0 < n
  · rw [if_pos (by omega)]
    have e : ((n : Int) - 1 - -1 - 1) / (- -1) = (n : Int) - 1 := by
      rw [show (- -1 : Int) = 1 by decide, Int.ediv_one]; omega
    rw [e]; omega
  · rw [if_neg (by omega)]; omega
theorem plc_two (n : Nat) : Builtin.Slice.slicePlaces 0 (n : Int) 2 = (n + 1) / 2 := by
  unfold Builtin.Slice.slicePlaces
  rw [if_pos (by decide)]
  by_cases h : 0 < n
  · rw [if_pos (by omega)]; omega
  · rw [if_neg (by omega)]; omega
theorem fm_self {α : Type} : ∀ ys : List α, (List.range ys.length).filterMap (fun k => ys[k]?) = ys
  | [] => rfl
  | y :: r => by
    rw [List.length_cons, List.range_succ_eq_map, List.filterMap_cons, List.getElem?_cons_zero]
    simp only [List.filterMap_map]
    have e : ((fun k => (y :: r)[k]?) ∘ Nat.succ) = fun k => r[k]? := by
      funext k
      exact List.getElem?_cons_succ
    rw [e, fm_self r]
theorem fm_congr {α β : Type} {f g : α → Option β} : ∀ {l : List α}, (∀ x ∈ l, f x = g x) → l.filterMap f = l.filterMap g
  | [], _ => rfl
  | x :: r, h => by
    rw [List.filterMap_cons, List.filterMap_cons, h x List.mem_cons_self, fm_congr fun y hy => h y (List.mem_cons_of_mem _ hy)]
theorem pick_neg {α : Type} (xs : List α) : pickV xs (-1) = xs.reverse := by
  unfold pickV
  rw [adj_neg]
  show (List.range (Builtin.Slice.slicePlaces ((xs.length : Int) - 1) (-1) (-1))).filterMap (fun (k : Nat) => xs[((xs.length : Int) - 1 + (k : Int) * -1).toNat]?) = _
  rw [plc_neg]
  have e := fm_self xs.reverse
  rw [List.length_reverse] at e
  refine Eq.trans (fm_congr fun k hk => ?_) e
  have hk' : k < xs.length := List.mem_range.mp hk
  rw [List.getElem?_reverse hk']
  congr 1
  omega
theorem evens_len {α : Type} : ∀ xs : List α, (evens xs).length = (xs.length + 1) / 2
  | [] => by show 0 = (0 + 1) / 2; decide
  | [x] => by show 1 = (1 + 1) / 2; decide
  | x :: y :: r => by
    show (evens r).length + 1 = (r.length + 1 + 1 + 1) / 2
    rw [evens_len r]; omega
theorem evens_get {α : Type} : ∀ (xs : List α) (k : Nat), (evens xs)[k]? = xs[2 * k]?
  | [], k => by simp [evens]
  | [x], 0 => rfl
  | [x], k + 1 => by
    show [x][k + 1]? = [x][2 * (k + 1)]?
    rw [List.getElem?_eq_none (by simp), List.getElem?_eq_none (by simp; omega)]
  | x :: y :: r, 0 => rfl
  | x :: y :: r, k + 1 => by
    show (x :: evens r)[k + 1]? = (x :: y :: r)[2 * k + 2]?
    rw [List.getElem?_cons_succ, List.getElem?_cons_succ, List.getElem?_cons_succ, evens_get r k]
theorem pick_two {α : Type} (xs : List α) : pickV xs 2 = evens xs := by
  unfold pickV
  rw [adj_two]
  show (List.range (Builtin.Slice.slicePlaces 0 (xs.length : Int) 2)).filterMap (fun (k : Nat) => xs[((0 : Int) + (k : Int) * 2).toNat]?) = _
  rw [plc_two]
  have e := fm_self (evens xs)
  rw [evens_len] at e
  refine Eq.trans (fm_congr fun k hk => ?_) e
  rw [evens_get]
  congr 1
  omega
theorem pick_len {α : Type} (xs : List α) (c : Int) (h : c = -1 ∨ c = 2) : (pickV xs c).length ≤ xs.length := by
  rcases h with rfl | rfl
  · rw [pick_neg, List.length_reverse]; exact Nat.le_refl _
  · rw [pick_two, evens_len]; omega
theorem vals_evens : ∀ {xs : List V} {us : List Value}, Vals xs us → Vals (evens xs) (evens us)
  | [], _, .nil => .nil
  | [x], _, .cons r .nil => .cons r .nil
  | x :: y :: _, _, .cons r (.cons _ t) => .cons r (vals_evens t)
theorem rp_evens {K : PySem.W.Frag} {F : Hp} : ∀ {xs : List V} {ds : List D}, RpAll K F xs ds → RpAll K F (evens xs) (evens ds)
  | [], _, .nil => .nil
  | [x], _, .cons r .nil => .cons r .nil
  | x :: y :: _, _, .cons r (.cons _ t) => .cons r (rp_evens t)
section
variable {prog : Program} {w : World} {A : Around} {E : Value → Shared → Prop} {s : Shared}
theorem getItem_tuple_step {t sl : Addr} {items : Array Value} {c : Int} {u : Tok} {Q : Value → Shared → Prop} (ht : IsTup s.heap t items) (hs : s.heap.IsSliceOf sl .none .none (.int c u)) (hc : c = -1 ∨ c = 2)
    (h : Q (.ref s.heap.objs.size) { s with heap := s.heap.push { cls := .type "tuple", data := .seq (pickV items.toList c).toArray } })
    (hsz : items.size ≤ sizeLine) : wpAny (model prog w) A (getItem (.ref t) (.ref sl)) Q E s := by
  have htake : sizeOk (.seq (pickV items.toList c).toArray) := by
    show (pickV items.toList c).toArray.size ≤ sizeLine
    rw [List.size_toArray]
    have h1 := pick_len items.toList c hc
    have h2 : items.toList.length = items.size := Array.length_toList
    exact Nat.le_trans (h2 ▸ h1) hsz
  obtain ⟨os, hos, hcs, hds⟩ := id hs
  have hTs : s.TypeIs (.ref sl) "slice" := ⟨os, hos, hcs⟩
  unfold getItem
  try with_reducible refine wpAny_holding ?_
  first | refine wpAny_bind (wpAny_pure ?_) | skip
  refine wpAny_bind (wpAny_sequenceKey ht.typeIs (by decide) ?_)
  refine wpAny_bind (wpAny_callSpecial?_slot (name := Str.ofString "__getitem__") ht.typeIs PyProof.Rows.slot_tuple_getitem
    (wpAny_call_entry PyProof.Rows.slot_tuple_getitem ht.typeIs entry_tuple_getitem ?_ (args_tuple_getitem _ _)))
  show wpAny _ _ (Builtin.Tuple.tupleItemsOf (.ref t) >>= _) _ _ s
  refine wpAny_bind (tupleItemsOf_ ht ?_)
  refine wpAny_bind (wpAny_typeOf hTs ?_)
  rw [if_pos (by decide)]
  have key : ∀ {Q2 : Int × Int × Nat → Shared → Prop}, Q2 ((Builtin.Slice.sliceAdjust none none c (items.size : Int)).1, c, Builtin.Slice.slicePlaces (Builtin.Slice.sliceAdjust none none c (items.size : Int)).1 (Builtin.Slice.sliceAdjust none none c (items.size : Int)).2 c) s → ∀ {A2 : Around} {E2 : Value → Shared → Prop}, wpAny (model prog w) A2 (Builtin.Slice.sliceApplied (.ref sl) (pure (items.size : Int))) Q2 E2 s := by
    intro Q2 q A2 E2
    unfold Builtin.Slice.sliceApplied Builtin.Slice.sliceFields
    refine wpAny_bind (wpAny_bind (wpAny_field hos hds (x := .none) rfl (wpAny_bind (wpAny_field hos hds (x := .none) rfl (wpAny_bind (wpAny_field hos hds (x := .int c u) rfl (wpAny_pure ?_)))))))
    refine wpAny_bind (slicePart_int ?_)
    show wpAny _ _ (if (c == 0) = true then _ else _) _ _ s
    rw [if_neg (by rcases hc with rfl | rfl <;> decide)]
    refine wpAny_bind (slicePart_none (wpAny_bind (slicePart_none (wpAny_bind (wpAny_pure ?_)))))
    exact wpAny_pure q
  refine wpAny_bind (key ?_)
  have hno : ¬ (((Builtin.Slice.sliceAdjust none none c (items.size : Int)).1 == 0 && c == 1 && Builtin.Slice.slicePlaces (Builtin.Slice.sliceAdjust none none c (items.size : Int)).1 (Builtin.Slice.sliceAdjust none none c (items.size : Int)).2 c == items.size) = true) := by
    intro q
    rw [Bool.and_eq_true, Bool.and_eq_true] at q
    have q1 : c = 1 := eq_of_beq q.1.2
    omega
  show wpAny _ _ (if (((Builtin.Slice.sliceAdjust none none c (items.size : Int)).1 == 0 && c == 1 && Builtin.Slice.slicePlaces (Builtin.Slice.sliceAdjust none none c (items.size : Int)).1 (Builtin.Slice.sliceAdjust none none c (items.size : Int)).2 c == items.size) = true) then _ else _) _ _ s
  rw [if_neg hno]
  have ep : ((List.range (Builtin.Slice.slicePlaces (Builtin.Slice.sliceAdjust none none c (items.size : Int)).1 (Builtin.Slice.sliceAdjust none none c (items.size : Int)).2 c)).filterMap fun (k : Nat) => items[((Builtin.Slice.sliceAdjust none none c (items.size : Int)).1 + (k : Int) * c).toNat]?).toArray = (pickV items.toList c).toArray := by
    unfold pickV
    rw [Array.length_toList]
    congr 1
    refine fm_congr fun k _ => ?_
    rw [Array.getElem?_toList]
  rw [ep]
  first
    | exact wpAny_bind (m := Builtin.Tuple.tupleExact _) (wpAny_newObj_type (wpAny_pure ⟨_, rfl, wpAny_pure h⟩) htake)
    | exact wpAny_bind (m := Builtin.Tuple.tupleExact _) (wpAny_newObj_type (wpAny_bind (wpAny_pure (wpAny_pure ⟨_, rfl, wpAny_pure h⟩))) htake)
    | exact wpAny_bind (wpAny_bind (m := Builtin.Tuple.tupleExact _) (wpAny_newObj_type (wpAny_pure (wpAny_pure ⟨_, rfl, wpAny_pure h⟩)) htake))
    | exact wpAny_bind (wpAny_bind (m := Builtin.Tuple.tupleExact _) (wpAny_newObj_type (wpAny_pure ⟨_, rfl, wpAny_pure h⟩) htake))
end
section
variable {X : Cx}
def tStep (K : PySem.W.Frag) (c : Int) (te : TE) : TE := fun σ H Q => te σ H fun x H1 => ∃ a xs, x = .ref a ∧ SqT K H1 a xs ∧ ∀ p, H1 p = none → Q (.ref p) (upd H1 p (.tup (pickV xs c)))
theorem pe_stepT {e st : Expr} {te : TE} {p3 pos : Pos} {c : Int} (hc : c = -1 ∨ c = 2) {ts : TE} (hst : PE X st ts) (hts : ∀ σ H (Q : VK), (∀ H', H' = H → Q (.int c) H') → ts σ H Q) (he : PE X e te) (hpl : ∀ v w, subscriptTail e (.Slice none none (some st) p3) v w = subscriptTail e (.Slice none none (some st) p3) v w) :
    PE X (.Subscript e (.Slice none none (some st) p3) pos) (tStep X.K c te) := by
  refine ⟨fun pins s σ H Q I h => ?_⟩
  refine Subscript_ (thn (he.run pins s σ H _ I h) fun v s1 ⟨x, H1, I1, r1, q1⟩ => ?_)
  obtain ⟨a, xs, ex, hx, q⟩ := q1
  subst ex
  cases r1
  have hso : PO X (some st) (tPart ts) := po_some hst
  refine wpAny_Slice (thn (po_none.run pins s1 σ H1 (fun o H2 => o = none ∧ H2 = H1) I1 ⟨rfl, rfl⟩) fun vl s2 ⟨l, H2, I2, pl, el, e2⟩ => ?_)
  subst el e2
  refine thn (po_none.run pins s2 σ H2 (fun o H3 => o = none ∧ H3 = H2) I2 ⟨rfl, rfl⟩) fun vu s3 ⟨u, H3, I3, pu, eu, e3⟩ => ?_
  subst eu e3
  refine thn (hso.run pins s3 σ H3 (fun o H4 => o = some c ∧ H4 = H3) I3 (hts _ _ _ fun H' e => ⟨c, rfl, rfl, e⟩)) fun vs s4 ⟨o, H4, I4, ps, eo, e4⟩ => ?_
  subst eo e4
  cases pl
  cases pu
  cases ps with
  | int _ tk =>
    have I5 : Inv X pins σ H4 { s4 with heap := s4.heap.push { cls := .type "slice", data := .fields #[.none, .none, .int c tk] } } := I4.kept (t' := s4.toks) fun b ob q => Heap.get?_push_of_some _ q
    obtain ⟨its, r, ht, hz⟩ := I5.tuple hx
    have hlen := r.length
    show wpAny (model X.prog X.w) X.A (subscriptTail e (.Slice none none (some st) p3) (.ref a) (.ref s4.heap.objs.size)) (EP X pins σ Q) X.xe { s4 with heap := s4.heap.push { cls := .type "slice", data := .fields #[.none, .none, .int c tk] } }
    refine tail_any (ops := [.ref a, .ref s4.heap.objs.size]) (IsTup.typeIs ht) (PyProof.Rows.slot_tuple_getitem.lookup) ?_ (by with_unfolding_all rfl)
    refine getItem_tuple_step ht (Heap.IsSliceOf.new _ .none .none (.int c tk)) hc ?_ (by rw [List.size_toArray]; omega)
    refine ⟨.ref _, _, I5.laid (t' := s4.toks) (o := .tup (pickV xs c)) (fun b ob q => Heap.get?_push_of_some _ q) (Nat.le_refl _) ?_, rfl, q _ (I5.hok.fresh (Nat.le_refl _))⟩
    have hv : Vals (pickV xs c) (pickV its c) := by
      rcases hc with rfl | rfl
      · rw [pick_neg, pick_neg]; exact r.reverse
      · rw [pick_two, pick_two]; exact vals_evens r
    exact ⟨Nat.le_trans (pick_len xs c hc) hz, _, hv, ⟨_, Heap.get?_push_size _ rfl, rfl, _, rfl⟩⟩
end
theorem stepB_of {k : Int} {st : Expr} (h : stepB k st = true) : (k = -1 ∨ k = 2) ∧ ∀ {X : Cx}, ∃ ts : TE, PE X st ts ∧ ∀ σ H (Q : VK), (∀ H', H' = H → Q (.int k) H') → ts σ H Q := by
  unfold stepB at h
  split at h
  · rename_i c j p1 p2
    rw [Bool.and_eq_true] at h
    have e1 := of_decide_eq_true h.1
    have e2 := of_decide_eq_true h.2
    subst e1 e2
    exact ⟨.inl rfl, fun {X} => ⟨_, pe_un un_neg pe_int, fun σ H Q q => ⟨1, rfl, q H rfl⟩⟩⟩
  · rename_i c j p1
    rw [Bool.and_eq_true] at h
    have e1 := of_decide_eq_true h.1
    have e2 := of_decide_eq_true h.2
    subst e1 e2
    exact ⟨.inr rfl, fun {X} => ⟨_, pe_int, fun σ H Q q => q H rfl⟩⟩
  · cases h
theorem se_slc3 {a : E} {j : Int} (ha : SE a) : SE (.slc3 a j) := by
  refine se_plain fun {X C k Φ cs clsA W F0 H0} hX m x h => ?_
  cases x with
  | Subscript x y pos =>
    cases y with
    | Slice lo' hi' st p =>
      cases lo' with
      | none =>
        cases hi' with
        | none =>
          cases st with
          | none => exact Bool.noConfusion h
          | some st =>
            have h' : (!m.isTst && chk C .opd a x && stepB j st) = true := h
            rw [Bool.and_eq_true] at h'
            obtain ⟨h1, h2⟩ := not_tst h'.1
            obtain ⟨hc, hst⟩ := stepB_of h'.2
            obtain ⟨ts, p1, p2⟩ := hst (X := X)
            refine ⟨h1, (pe_stepT hc p1 p2 ((ha (F0 := F0) (H0 := H0) hX x).2.1 h2) fun _ _ => rfl).impW fun σ H Q ⟨env, F, rs, k⟩ => ⟨env, F, rs, (KR.bind k).imp fun F1 H1 d e1 k1 v r1 => ?_⟩⟩
            cases d with
            | tuple ds =>
              obtain ⟨b, xs, rfl, q1, q2, q3⟩ := r1.tup e1.sub
              refine ⟨b, xs, rfl, q1, fun p n => ?_⟩
              rcases hc with rfl | rfl
              · rw [pick_neg]
                exact KE.new (d := .tuple ds.reverse) e1.sub k1 n (rp_tup e1.sub n q2.reverse)
              · rw [pick_two]
                exact KE.new (d := .tuple (evens ds)) e1.sub k1 n (rp_tup e1.sub n (rp_evens q2))
            | _ => exact k1.elim
        | some _ => cases st <;> exact Bool.noConfusion h
      | some _ => cases hi' <;> cases st <;> exact Bool.noConfusion h
    | _ => exact Bool.noConfusion h
  | _ => exact Bool.noConfusion h

/-! ### len(set(xs)) of ints -/
theorem first_met (ns : List Int) : PyProof.Rows.firstMet (fun i => ns.getD i 0) ns.length = dedup ns := by
  unfold PyProof.Rows.firstMet dedup
  have e : (List.range ns.length).map (fun i => ns.getD i 0) = ns := by
    refine List.ext_getElem (by simp) fun i h1 h2 => ?_
    simp [List.getD_eq_getElem?_getD, List.getElem?_eq_getElem h2]
  rw [e]
  rfl
def tLenS (K : PySem.W.Frag) (ta : TE) : TE := fun σ H Q => ta σ H fun x H1 => (∃ (l : Addr) (ns : List Int), x = .ref l ∧ SqL K H1 l (ns.map V.int) ∧ ns.length ≤ 4000 ∧ Q (.int ((dedup ns).length : Nat)) H1) ∨ ∃ (l : Addr) (ts : List Str), x = .ref l ∧ SqL K H1 l (ts.map V.str) ∧ ts.length ≤ 4000 ∧ Q (.int ((dedupS ts).length : Nat)) H1
theorem dedup_le (ns : List Int) : (dedup ns).length ≤ ns.length := by
  rw [← first_met]
  exact PyProof.Rows.firstMet_length_le _ _
theorem pe_lenS {X : Cx} {a : Expr} {ta : TE} {p p2 q pos : Pos} (hg : Gl X "len") (hm : X.mg "len" = none) (hg2 : Gl X "set") (hm2 : X.mg "set" = none) (ha : PE X a ta) (hc : X.calm = true)
    (na : starEach [a] X.env = (false, eval a X.env) :: starEach [] X.env) : PE X (.Call (.Name "len" p) [.Call (.Name "set" p2) [a] [] q] [] pos) (tLenS X.K ta) := by
  refine ⟨fun pins s σ H Q I h => ?_⟩
  refine Call_ (ld_blt I hg hm boot_len ?_)
  refine PyProof.Rows.callWith_builtin1 (PyProof.Rows.args_cons ?_ rfl) rfl rfl
  refine Call_ (ld_blt I hg2 hm2 boot_set ?_)
  refine PyProof.Rows.callWith_type1 (PyProof.Rows.args_cons (thn (ha.run pins s σ H _ I h) fun v s1 ⟨x, H1, I1, r1, q1⟩ => PyProof.Rows.args_nil ?_) na) na rfl
  rcases q1 with ⟨l, ns, rfl, hq, hl, q1⟩ | ⟨l, ts, rfl, hq, hl, q1⟩
  rotate_left
  · cases r1
    exact len_setT I1 hc hq hl q1
  cases r1
  obtain ⟨its, r, pl, hz⟩ := I1.list hq
  have hlen : its.toArray.size = ns.length := by rw [List.size_toArray, ← r.length, List.length_map]
  refine call_set_list (I1.ok.hd hc) pl.isList (by simpa using RZ.intsAre_vals r) (by rw [hlen]; unfold scanBound; omega) fun h' tk hS hk => ?_
  refine PyProof.Rows.args_nil ?_
  rw [hlen, first_met] at hS
  obtain ⟨o, es, ep, t, ho, hex, hd, _, _, _, hf, hn⟩ := hS
  have I2 : Inv X pins σ H1 { s1 with heap := h', toks := tk } := I1.kept fun b o e => hk b o (Heap.lt_size e) e
  have hle := dedup_le ns
  exact call_len_set ho hex hd hf (by rw [hn] <;> omega) ⟨.int (dedup ns).length, H1, I2.tok _, ⟨_, by rw [hn]⟩, q1⟩
theorem se_lenset {a : E} (ha : SE a) : SE (.lenset a) := by
  refine se_plain fun {X C k Φ cs clsA W F0 H0} hX m x h => ?_
  cases x with
  | Call fn args kws pos =>
    cases fn with
    | Name x p =>
      cases args with
      | nil => exact Bool.noConfusion h
      | cons y r1 =>
        cases y with
        | Call fn2 args2 kws2 pos2 =>
          cases fn2 with
          | Name y p2 =>
            match args2, kws2, r1, kws, h with
            | [z], [], [], [], h =>
              have h' : (!m.isTst && decide (x = "len") && decide (y = "set") && glB C.sc x && glB C.sc y && chk C .opd a z) = true := h
              simp only [Bool.and_eq_true] at h'
              obtain ⟨⟨⟨⟨⟨h1, h2⟩, h3⟩, h4⟩, h5⟩, h6⟩ := h'
              have e := of_decide_eq_true h2
              subst e
              have e := of_decide_eq_true h3
              subst e
              refine ⟨by simpa using h1, (pe_lenS (hX.gl h4) (hX.no (by decide +kernel)) (hX.gl h5) (hX.no (by decide +kernel)) ((ha (F0 := F0) (H0 := H0) hX z).2.1 h6) hX.calm (star_of (chk_notStar h6))).impW fun σ H Q ⟨env, F, rs, k⟩ => ⟨env, F, rs, (KR.bind k).imp fun F1 H1 d e1 k1 v r1 => ?_⟩⟩
              cases d with
              | list ds =>
                obtain ⟨b, xs, rfl, q1, q2⟩ := r1.lst e1.sub
                replace k1 : KE X.K W F1 H1 (match intsOf ds with
                  | some is => need (decide (is.length ≤ 4000)) (.ok (.int (dedup is).length))
                  | none => match strsOf ds with
                    | some ss => need (decide (ss.length ≤ 4000)) (.ok (.int (dedupS ss).length))
                    | none => .stuck) Q := k1
                cases z : intsOf ds with
                | none =>
                  rw [z] at k1
                  replace k1 : KE X.K W F1 H1 (match strsOf ds with
                    | some ss => need (decide (ss.length ≤ 4000)) (.ok (.int (dedupS ss).length))
                    | none => .stuck) Q := k1
                  cases z2 : strsOf ds with
                  | none => rw [z2] at k1; exact k1.elim
                  | some ss =>
                    rw [z2] at k1
                    obtain ⟨z1, k2⟩ := KR.need k1
                    obtain ⟨rfl, rfl⟩ := strs_rp z2 q2
                    exact .inr ⟨b, ss, rfl, q1, of_decide_eq_true z1, KE.same (d := .int (dedupS ss).length) e1.sub k2 (.int _)⟩
                | some is =>
                  rw [z] at k1
                  obtain ⟨z1, k2⟩ := KR.need k1
                  obtain ⟨rfl, rfl⟩ := ints_rp z q2
                  exact .inl ⟨b, is, rfl, q1, of_decide_eq_true z1, KE.same (d := .int (dedup is).length) e1.sub k2 (.int _)⟩
              | _ => exact k1.elim
            | [], _, _, _, h => exact Bool.noConfusion h
            | _ :: _ :: _, _, _, _, h => exact Bool.noConfusion h
            | [_], _ :: _, _, _, h => exact Bool.noConfusion h
            | [_], [], _ :: _, _, h => exact Bool.noConfusion h
            | [_], [], [], _ :: _, h => exact Bool.noConfusion h
          | _ => exact Bool.noConfusion h
        | _ => exact Bool.noConfusion h
    | _ => exact Bool.noConfusion h
  | _ => exact Bool.noConfusion h

/-! ### methods: count, index, join -/
section
variable {X : Cx} {W : Nat → Hp → Prop}
def eqS (k : Str) (v : Value) : Bool := match v with
  | .str n _ => n.cps.toList == k.cps.toList
  | _ => false
theorem eqS_gives {k : Str} {t : Tok} : ∀ {us : List Value} {ns : List Str}, Vals (ns.map V.str) us → ∀ y ∈ us, MeetsSeq.EqGives y (.str k t) (eqS k y)
  | _, [], .nil => fun y hy => by cases hy
  | _, n :: ns, .cons r h => fun y hy => by
    obtain ⟨t', rfl⟩ := r
    rcases List.mem_cons.mp hy with e | e
    · rw [e]
      exact SeqRoads2.EqGives.str n k t' t
    · exact eqS_gives h y e
theorem eqS_count {k : Str} : ∀ {us : List Value} {ns : List Str}, Vals (ns.map V.str) us → us.countP (eqS k) = ns.countP fun x => x.cps.toList == k.cps.toList
  | _, [], .nil => rfl
  | _, n :: ns, .cons r h => by
    obtain ⟨t', rfl⟩ := r
    have ih := eqS_count (k := k) h
    rw [List.countP_cons, List.countP_cons, ih] <;> rfl
def rCntS (K : PySem.W.Frag) : V → List V → Hp → VK → Prop := fun x xs H Q => ∃ (p : Addr) (ns : List Str) (k : Str), x = .ref p ∧ xs = [.str k] ∧ SqL K H p (ns.map V.str) ∧ Q (.int (ns.countP (fun x => x.cps.toList == k.cps.toList) : Nat)) H
theorem mt_lcountS : MtR X "list.count" (rCntS X.K) := by
  intro pins s σ H x xs v us Q I rx rxs h
  obtain ⟨p, ns, k, rfl, rfl, hs, q⟩ := h
  cases rx
  obtain ⟨u, rfl, ru⟩ := rxs.one
  obtain ⟨t, rfl⟩ := ru
  obtain ⟨its, rv, ⟨⟨cls, dd, data, sl⟩, n, ho, hc, hdn, hd⟩, hlen⟩ := I.list hs
  simp only at hc hd
  subst hc hd
  refine call_meets PySem.F.slot_list_count ⟨_, ho, rfl⟩ PySem.F.entry_list_count (PySem.F.args_list_count_2 _ _)
    (SeqAt.list_countAt p its.toArray n dd sl (.str k t) (eqS k)) ⟨ho, fun y hy => (eqS_gives rv y (by simpa using hy)).at _ _, ?_⟩
  have ec : its.toArray.toList.countP (eqS k) = ns.countP fun x => x.cps.toList == k.cps.toList := eqS_count rv
  refine ⟨.int (ns.countP (fun x => x.cps.toList == k.cps.toList) : Nat), H, I.tok _, ⟨s.toks, ?_⟩, q⟩
  show Value.int ((its.toArray.toList.countP (eqS k) : Nat) : Int) s.toks = _
  rw [ec]
def rIdx : V → List V → Hp → VK → Prop := fun x xs H Q => ∃ (a b : Str) (k : Nat), x = .str a ∧ xs = [.str b] ∧ Txt.index0 a b = some k ∧ Q (.int (k : Nat)) H
theorem mt_idx : MtR X "str.index" rIdx := by
  intro pins s σ H x xs v us Q I rx rs h
  obtain ⟨a, b, k, rfl, rfl, hk, w⟩ := h
  obtain ⟨t, rfl⟩ := rx
  cases rs with
  | cons r1 rs =>
    cases rs
    obtain ⟨u, rfl⟩ := r1
    cases q : Builtin.Str.occurrences a b 0 a.length 1 with
    | nil =>
      unfold Txt.index0 at hk
      rw [q] at hk
      cases hk
    | cons k' rest =>
      unfold Txt.index0 at hk
      rw [q] at hk
      cases hk
      exact PySem.SC.index q ⟨.int (k : Nat), H, I.tok _, ⟨_, rfl⟩, w⟩
end
theorem tyStr {K : PySem.W.Frag} {x : Str} {H : Hp} : tyV K "str" (.str x) H := rfl
theorem plain_base {o : Expr} {name : Str} {env : PySem.Env} (h : plainO o = true) : attributeBase o name env (eval o env) = eval o env := by
  cases o with
  | Name _ _ => rfl
  | Constant _ _ _ => rfl
  | _ => exact Bool.noConfusion h
theorem se_meth {mt : Mth} {o a : E} (ho : SE o) (ha : SE a) : SE (.meth mt o a) := by
  refine se_plain fun {X C k Φ cs clsA W F0 H0} hX m x h => ?_
  cases x with
  | Call fn args kws pos =>
    cases fn with
    | Attribute o' x apos =>
      match args, kws, h with
      | [v], [], h =>
        have h' : (!m.isTst && decide (x = mthName mt) && plainO o' && decide (apos.endLine = pos.line) && chk C .opd o o' && chk C .opd a v) = true := h
        simp only [Bool.and_eq_true] at h'
        obtain ⟨⟨⟨⟨⟨h1, h2⟩, h3⟩, h4⟩, h5⟩, h6⟩ := h'
        have e := of_decide_eq_true h2
        subst e
        have hl : (apos.endLine == pos.line) = true := by rw [of_decide_eq_true h4]; exact beq_self_eq_true _
        have hst := star_of (xs := []) (env := X.env) (chk_notStar h6)
        have po := (ho (F0 := F0) (H0 := H0) hX o').2.1 h5
        have pa : PA X [v] _ := pa_cons ((ha (F0 := F0) (H0 := H0) hX v).2.1 h6) pa_nil hst
        have hf : ((backTo pos (starEach [v] X.env)).all (fun x => !x.1) && (backToKw pos (keywordEach [] X.env)).all (fun x => x.1.isSome) && decide ([v].length + ([] : List Keyword).length + (if ([] : List Keyword).isEmpty then 0 else 1) < 30)) = true := by rw [hst]; rfl
        refine ⟨by simpa using h1, ?_⟩
        have fin : ∀ {T : String} {r : V → List V → Hp → VK → Prop}, (∀ {F1 H1 F2 H2 : Hp} {d : D} {v1 : V} {Q : VK}, mthOk mt d = true → Same F1 H1 → RpO X.K F1 H1 v1 d → tyV X.K T v1 H1 ∧ (∀ {d2 : D} {v2 : V}, Ext F1 H1 F2 H2 → RpO X.K F2 H2 v2 d2 → KE X.K W F2 H2 (methD mt d d2) Q → r v1 [v2] H2 Q)) →
            ∀ σ H Q, tE X.K W F0 H0 (ev Φ cs (.meth mt o a)) σ H Q → tBM X.K T r (tO X.K W F0 H0 (ev Φ cs o)) (tCons (tO X.K W F0 H0 (ev Φ cs a)) tNil) σ H Q := fun {T r} hr σ H Q ⟨env, F, rs, k⟩ => by
          refine ⟨env, F, rs, (KR.bind k).imp fun F1 H1 d e1 k1 v r1 => ?_⟩
          obtain ⟨z, k2⟩ := KR.need k1
          refine ⟨(hr (F2 := F1) (H2 := H1) (Q := Q) z e1.sub r1).1, env, F1, rs.more e1, (KR.bind k2).imp fun F2 H2 d2 e2 k3 v2 r2 => ?_⟩
          exact (hr (F2 := F2) (H2 := H2) (Q := Q) z e1.sub r1).2 e2 r2 k3
        cases mt with
        | countL =>
          refine (pe_bm (r := fun x xs H Q => rCntI X.K x xs H Q ∨ rCntS X.K x xs H Q) PySem.F.plainAttrs_list PySem.F.slot_list_count PySem.F.type_list_count (fun pins s σ H x xs v us Q I r1 r2 w => w.elim (mt_lcount pins s σ H x xs v us Q I r1 r2) (mt_lcountS pins s σ H x xs v us Q I r1 r2)) po pa (plain_base h3) hf hl hst rfl).impW (fin fun {F1 H1 F2 H2 d v1 Q} z sub r1 => ?_)
          cases d with
          | list ds =>
            obtain ⟨b, xs, rfl, q1, q2⟩ := r1.lst sub
            refine ⟨.inl ⟨rfl, xs, q1⟩, fun {d2 v2} e2 r2 k3 => ?_⟩
            cases d2 with
            | int i =>
              obtain rfl := r2.int
              replace k3 : KE X.K W F2 H2 (match intsOf ds with
                | some is => .ok (.int (is.count i : Nat))
                | none => .stuck) Q := k3
              cases z : intsOf ds with
              | none => rw [z] at k3; exact k3.elim
              | some is =>
                rw [z] at k3
                obtain ⟨rfl, rfl⟩ := ints_rp z q2
                exact .inl ⟨b, is, i, rfl, rfl, e2.h.seq q1, KE.same (d := .int (is.count i : Nat)) e2.sub k3 (.int _)⟩
            | str i =>
              obtain rfl := r2.str
              replace k3 : KE X.K W F2 H2 (match strsOf ds with
                | some ss => .ok (.int (ss.countP fun x => x.cps.toList == i.cps.toList : Nat))
                | none => .stuck) Q := k3
              cases z : strsOf ds with
              | none => rw [z] at k3; exact k3.elim
              | some is =>
                rw [z] at k3
                obtain ⟨rfl, rfl⟩ := strs_rp z q2
                exact .inr ⟨b, is, i, rfl, rfl, e2.h.seq q1, KE.same (d := .int (is.countP (fun x => x.cps.toList == i.cps.toList) : Nat)) e2.sub k3 (.int _)⟩
            | _ => exact k3.elim
          | _ => exact Bool.noConfusion z
        | countS =>
          refine (pe_bm PySem.F.plainAttrs_str PySem.F.slot_str_count PySem.F.type_str_count mt_count po pa (plain_base h3) hf hl hst rfl).impW (fin fun {F1 H1 F2 H2 d v1 Q} z sub r1 => ?_)
          cases d with
          | str x =>
            obtain rfl := r1.str
            refine ⟨tyStr, fun {d2 v2} e2 r2 k3 => ?_⟩
            cases d2 with
            | str y =>
              obtain rfl := r2.str
              exact ⟨x, y, rfl, rfl, KE.same (d := .int (PySem.Txt.count x y)) e2.sub k3 (.int _)⟩
            | _ => exact k3.elim
          | _ => exact Bool.noConfusion z
        | index =>
          refine (pe_bm PySem.F.plainAttrs_str PySem.F.slot_str_index PySem.F.type_str_index mt_idx po pa (plain_base h3) hf hl hst rfl).impW (fin fun {F1 H1 F2 H2 d v1 Q} z sub r1 => ?_)
          cases d with
          | str x =>
            obtain rfl := r1.str
            refine ⟨tyStr, fun {d2 v2} e2 r2 k3 => ?_⟩
            cases d2 with
            | str y =>
              obtain rfl := r2.str
              replace k3 : KE X.K W F2 H2 (match PySem.Txt.index0 x y with
                | some k => .ok (.int (k : Nat))
                | none => .stuck) Q := k3
              cases z : PySem.Txt.index0 x y with
              | none => rw [z] at k3; exact k3.elim
              | some j =>
                rw [z] at k3
                exact ⟨x, y, j, rfl, rfl, z, KE.same (d := .int (j : Nat)) e2.sub k3 (.int _)⟩
            | _ => exact k3.elim
          | _ => exact Bool.noConfusion z
        | join =>
          refine (pe_bm PySem.F.plainAttrs_str PySem.F.slot_str_join PySem.F.type_str_join mt_join po pa (plain_base h3) hf hl hst rfl).impW (fin fun {F1 H1 F2 H2 d v1 Q} z sub r1 => ?_)
          cases d with
          | str x =>
            obtain rfl := r1.str
            refine ⟨tyStr, fun {d2 v2} e2 r2 k3 => ?_⟩
            cases d2 with
            | list ds =>
              obtain ⟨b, xs, rfl, q1, q2⟩ := r2.lst e2.sub
              replace k3 : KE X.K W F2 H2 (match strsOf ds with
                | some ys => need (decide ((ys.map (·.length)).sum + ys.length * x.length ≤ 16777216)) (.ok (.str (PySem.Txt.join x ys)))
                | none => .stuck) Q := k3
              cases z : strsOf ds with
              | none => rw [z] at k3; exact k3.elim
              | some ys =>
                rw [z] at k3
                obtain ⟨z1, k4⟩ := KR.need k3
                obtain ⟨rfl, rfl⟩ := strs_rp z q2
                exact ⟨x, b, ys, rfl, rfl, .inl q1, of_decide_eq_true z1, KE.same (d := .str (PySem.Txt.join x ys)) e2.sub k4 (.str _)⟩
            | _ => exact k3.elim
          | _ => exact Bool.noConfusion z
      | [], _, h => exact Bool.noConfusion h
      | [_], _ :: _, h => exact Bool.noConfusion h
      | _ :: _ :: _, _, h => exact Bool.noConfusion h
    | _ => exact Bool.noConfusion h
  | _ => exact Bool.noConfusion h
end MW

set_option maxRecDepth 100000
set_option maxHeartbeats 2000000
/-! Part 2s: sorted(xs, key=lambda x: ..). -/
namespace MW
open PySem PySem.Spec PyProof.Rows L2
open Res
variable [Lam]
section
variable {X : Cx} {pins : List (Addr × Obj)} {σ : L2.St} {H : Hp} {s : Shared}
abbrev lamF (X : Cx) (params : Arguments) (scope : Scope) (c' : Addr) : NdefX.NF := ⟨"<lambda>", X.env.qual ++ "<lambda>", params, [], scope, [], c'⟩
abbrev lamO (X : Cx) (params : Arguments) (body : Expr) (scope : Scope) (pm : Value) (c' : Addr) (ctv : Value) : Obj := PySem.W.kla_obj "<lambda>" (X.env.qual ++ "<lambda>") params body scope [] pm c' ctv
abbrev arg1 (p : Str) (q : Pos) : Arguments := ⟨[], [⟨p, none, q⟩], none, [], [], none, []⟩
/-- no name is captured -/
theorem clo_nil {cells : List (Str × Addr)} : ∀ {names : List (Str × NameKind)}, (∀ y ∈ names, y.2 ≠ .free) → cloFrom cells names [] = [] := by
  intro names
  induction names with
  | nil => intro _; rfl
  | cons y r ih =>
    intro h
    obtain ⟨n, k⟩ := y
    have h1 : k ≠ .free := h (n, k) List.mem_cons_self
    have h2 := ih fun y hy => h y (List.mem_cons_of_mem _ hy)
    cases k <;> first | exact h2 | exact absurd rfl h1
theorem lam_env0 (I : Inv X pins σ H s) : Env0 X.prog X.w X.K X.mg X.base X.A.in1.in1 X.stack s H := ⟨I.env0.frames, I.env0.mod, I.env0.bs, I.env0.bsz, I.env0.funs, I.env0.frf, I.env0.hok, I.env0.bare⟩
/-- the lambda made: its code object is new, or told by the table -/
theorem lam_make3 {c : Addr} {params : Arguments} {body : Expr} {scope : Scope} {pos : Pos} {E : Value → Shared → Prop} {Q : Value → Shared → Prop} (I : Inv X pins σ H s) (TB : LamX.TabB X.base X.mg c Lam.P) (hcode : X.env.code = .ref c) (hnm : X.env.qual ++ "<lambda>" = Lam.nm) (tab : TabG H) (on : Lam.on = true)
    (hdef : defaultsOf params X.env = ([], [])) (nf : ∀ y ∈ scope.names, y.2 ≠ .free)
    (fin : ∀ (f c' : Addr) (pm ctv : Value) (H1 : Hp) (s' : Shared), Inv X pins σ H1 s' → SameG H H1 → (∀ b o, b ≠ Lam.P → H b = some o → H1 b = some o) → s'.heap.get? f = some (lamO X params body scope pm c' ctv) → H1 f = none → f ∉ frs X.stack → H1 c' = some (LamX.CodeO c' (X.env.qual ++ "<lambda>")) → Q (.ref f) s') :
    wpAny (model X.prog X.w) X.A (eval (.Lambda params body scope pos) X.env) Q E s := by
  obtain ⟨ps, hP, ht, ha⟩ := tab on
  have hcl := clo_nil (cells := X.env.cells) nf
  have hcl2 : closureFor scope X.env = pure (cloFrom X.env.cells scope.names []) := closure_ok fun y hy e => absurd e (nf y hy)
  rw [hcl] at hcl2
  refine PySem.W.kla_eval hdef ?_
  have bP : s.heap.BuiltinsAt X.mg Lam.P := TB.bm.keeps I.bk
  have hP' : s.heap.get? Lam.P = some { cls := .none, data := .fields ps } := I.hok Lam.P _ hP
  have nofr : ∀ f, s.heap.objs.size ≤ f → f ∉ frs X.stack := fun f hf z => by
    rcases List.mem_cons.mp (I.stkSub _ z) with e | e
    · have h1 := I.lt
      rw [← e] at h1
      exact Nat.lt_irrefl _ (Nat.lt_of_lt_of_le h1 hf)
    · exact I.nofs hf e
  cases hc : codeAmong pos ps.toList with
  | none =>
    refine PySem.W.kla_makeFunction (mg := X.mg) (c := c) (P := Lam.P) (ps := ps) hcl2 I.ok.glob (I.mod.glob.keeps I.bk) hcode (TB.code.keeps I.bk) hP' ht hc TB.gP bP fun c' ctv h' tk hx hge hlt hrec htb => ?_
    obtain ⟨c2, oc, vs, t, e2, hoc, hd, hv⟩ := hrec
    cases e2
    have hsz : s.heap.objs.size ≤ h'.objs.size := Nat.le_trans hge (Nat.le_of_lt hlt)
    have nC : H c' = none := I.hok.fresh hge
    have I1 := LamX.inv_table (t' := tk) (more := #[rawInt pos.line, rawInt pos.col, .ref c']) (h' := h'.push (lamO X params body scope ((X.mg "__name__").getD .none) c' ctv)) I hP (fun b o hb e => Heap.get?_push_of_some _ (hx b o hb e)) (Heap.get?_push_of_some _ htb) hge ⟨oc, vs, t, Heap.get?_push_of_some _ hoc, hd, hv⟩
    have nP : Lam.P ≠ c' := ne_of_none hP nC
    have at1 : ∀ b o, b ≠ Lam.P → H b = some o → upd (upd H Lam.P (.tbl (ps ++ #[rawInt pos.line, rawInt pos.col, .ref c']))) c' (LamX.CodeO c' (X.env.qual ++ "<lambda>")) b = some o := fun b o hb e => by
      rw [upd_ne (ne_of_none e nC), upd_ne hb]; exact e
    have atP : upd (upd H Lam.P (.tbl (ps ++ #[rawInt pos.line, rawInt pos.col, .ref c']))) c' (LamX.CodeO c' (X.env.qual ++ "<lambda>")) Lam.P = some (.tbl (ps ++ #[rawInt pos.line, rawInt pos.col, .ref c'])) := by rw [upd_ne nP, upd_same]
    have eL : (ps ++ #[rawInt pos.line, rawInt pos.col, .ref c']).toList = ps.toList ++ [rawInt pos.line, rawInt pos.col, .ref c'] := (by simp)
    refine fin h'.objs.size c' ((X.mg "__name__").getD .none) ctv _ _ I1 ⟨fun b o e n => ?_, fun b qs e => ?_, fun _ _ => ?_⟩ at1 (Heap.get?_push_size _ rfl) ?_ (nofr _ hsz) upd_same
    · refine at1 b o (fun z => ?_) e
      rw [z, hP] at e
      exact n ps (Option.some.inj e).symm
    · by_cases hb : b = Lam.P
      · subst hb
        rw [hP] at e
        cases e
        exact ⟨_, atP⟩
      · exact ⟨#[], by rw [at1 b _ hb e]; simp⟩
    · refine ⟨_, atP, by rw [eL]; exact PySem.TriplesOk_snoc _ _ _ _ ht, fun p' cv hcv => ?_⟩
      rw [eL] at hcv
      rcases LamX.among_app _ ht hcv with z | z
      · obtain ⟨c0, e1, e2⟩ := ha p' cv z
        refine ⟨c0, e1, at1 _ _ (fun z => ?_) e2⟩
        rw [z, hP] at e2
        cases e2
      · exact ⟨c', z, by rw [← hnm]; exact upd_same⟩
    · have n1 : h'.objs.size ≠ c' := Nat.ne_of_gt hlt
      have n2 : h'.objs.size ≠ Lam.P := Nat.ne_of_gt (Nat.lt_of_lt_of_le (Heap.lt_size hP') hsz)
      rw [upd_ne n1, upd_ne n2]
      exact I.hok.fresh hsz
  | some cv =>
    obtain ⟨c', e, hco⟩ := ha pos cv hc
    subst e
    refine PySem.W.kla_makeFunctionHit (mg := X.mg) (c := c) (P := Lam.P) (ps := ps) hcl2 I.ok.glob (I.mod.glob.keeps I.bk) hcode (TB.code.keeps I.bk) hP' ht hc bP fun ctv h' tk hx hsz => ?_
    have I1 : Inv X pins σ H { s with heap := h'.push (lamO X params body scope ((X.mg "__name__").getD .none) c' ctv), toks := tk } := I.kept fun b o e => Heap.get?_push_of_some _ (hx b o e)
    exact fin h'.objs.size c' ((X.mg "__name__").getD .none) ctv H _ I1 (SameG.refl H) (fun b o _ e => e) (Heap.get?_push_size _ rfl) (I.hok.fresh hsz) (nofr _ hsz) (by rw [hnm]; exact hco)
/-- the lambda called, from a built-in -/
theorem lam_call {p : Str} {q : Pos} {body : Expr} {scope : Scope} {pm ctv : Value} {f c' : Addr} {k : Nat} {tb : TE} {Q : VK} {R : Value → Shared → Prop} {E' : Value → Shared → Prop} {x : V} {v : Value} (I : Inv X pins σ H s) (S : NdefX.NScope [p] [p] [] scope) (hp : p = "place" ∨ p = "word")
    (hf : s.heap.get? f = some (lamO X (arg1 p q) body scope pm c' ctv)) (hc : H c' = some (LamX.CodeO c' (X.env.qual ++ "<lambda>"))) (hr : Room k X.A) (hd : X.A.depth + 3 * k + 7 < recursionLimit) (hu : X.A.units + 16 * k + 213 < cLine) (rv : RelV x v)
    (hb : Room k (X.A.in1.in1.deeper (NdefX.envF (lamF X (arg1 p q) scope c') f s.heap.objs.size)) → PE (NdefX.ncx (L2.CX X.prog X.w) X.prog X.w X.K X.mg X.base [p] (lamF X (arg1 p q) scope c') f X.A.in1.in1 X.stack s H fun _ _ _ => False) body tb)
    (ht : tb [some x] H Q) (fin : ∀ u s' y H', Inv X pins σ H' s' → Un (frs X.stack) [] H H' s.heap s'.heap → RelV y u → Q y H' → R u s') : wpAny (model X.prog X.w) X.A.in1.in1 (call (.ref f) [v]) R E' s := by
  have e0 := lam_env0 I
  have hr2 : ∀ env, Room k (X.A.in1.in1.deeper env) := fun env => ⟨hr.hd, by show X.A.depth + 1 + 3 * k + 5 < recursionLimit; omega, by show X.A.units + 1 + 1 + 3 + 16 * k + 200 < cLine; omega⟩
  have rc : codeAny (model X.prog X.w) X.A.in1.in1 (.call (.ref f) ⟨[v], []⟩) (CR (L2.CX X.prog X.w) X.stack X.prog X.w H s Q fun _ _ _ => False) s := by
    refine PySem.W.kla_callFunE (show X.A.depth < recursionLimit by omega) hf rfl S.co S.gen rfl (NdefX.codeO_at I.hok hc) ?_
    have hbind : bindArgs (PySem.W.kla_fn "<lambda>" (X.env.qual ++ "<lambda>") (arg1 p q) body scope [] pm (.ref c') ctv) ⟨[v], []⟩ = pure [(p, v)] := by
      rcases hp with rfl | rfl <;> rfl
    rw [hbind]
    have lim : s.heap.NoLimit := e0.mod.nolimit.keeps fun b o e => (e0.bs b o e).1
    refine wpAny_pure (wpAny_newFunctionEnv S.nocell (fun y hy => S.par y.1 (by rw [List.mem_singleton.mp hy]; exact List.mem_singleton.mpr rfl)) (fun h₁ hns hsb => ⟨lim.fresh _ hsb, ?_⟩) S.kind)
    show codeAny _ _ (.expr body (NdefX.envF (lamF X (arg1 p q) scope c') f s.heap.objs.size)) _ _
    have kp : ∀ b o, s.heap.get? b = some o → h₁.get? b = some o := fun b o e => hsb.extBut b o (Nat.ne_of_lt (Heap.lt_size e)) (Heap.get?_push_of_some _ e)
    have C : NdefX.CellsAt ([] : List (Str × Addr)) [] [] s.heap H := ⟨rfl, fun y c e => (by cases e), fun x y c e => (by cases e), fun i y e => (by simp at e)⟩
    have J : Inv (NdefX.ncx (L2.CX X.prog X.w) X.prog X.w X.K X.mg X.base [p] (lamF X (arg1 p q) scope c') f X.A.in1.in1 X.stack s H fun _ _ _ => False) [] (NdefX.startF [p] [x] []) H { s with heap := h₁, toks := s.toks + [(p, v)].length } :=
      NdefX.inv_startN S hr.hd e0 rfl (.cons rv .nil) C hns kp
    refine PySem.W.kla_codeExpr (wpAny_mono ((hb (hr2 _)).run [] _ _ H Q J ht) (fun u s' hq => ?_) fun e s' hq => hq)
    obtain ⟨w', H', J', rv', q'⟩ := hq
    exact ⟨w', H', J'.os, J'.bare, J'.base, J'.hok, rv', q'⟩
  refine wpAny_call (codeAny_mono rc fun r s' hq => ?_)
  cases r with
  | error e =>
    obtain ⟨_, _, _, _, _, _, _, _, _, _, _, _, z⟩ := (show L2.CX X.prog X.w X.stack H s (fun _ _ _ => False) e s' from hq)
    exact z.elim
  | ok fl =>
    cases fl with
    | ret u =>
      obtain ⟨y, H', os, bare, un, hok, r', q'⟩ := (show CE X.stack X.prog X.w H s Q u s' from hq)
      obtain ⟨y2, H2, I2, r2, q2, e2⟩ := (show EP X pins σ (fun v H'' => Q v H'' ∧ H'' = H') u s' from I.after ⟨y, H', os, bare, un, hok, r', q', rfl⟩)
      subst e2
      exact fin u s' y2 H2 I2 un r2 q2
    | next => exact False.elim hq
    | brk => exact False.elim hq
    | cont => exact False.elim hq
/-- objects of ours are written, one of them is tracked from now on -/
theorem turnedAt {h' : Heap} {t' : Nat} {ch : List Addr} {T : Addr} {ob : HO} (I : Inv X pins σ H s) (k : ∀ b o, b ∉ ch → s.heap.get? b = some o → h'.get? b = some o) (hf : ∀ b ∈ ch, FpOk X pins H b) (hT : T ∈ ch) (new : ObjOk X.prog X.w (upd H T ob) h' T ob) (hTn : ∀ b, ob ≠ .own b) :
    Inv X pins σ (upd H T ob) { s with heap := h', toks := t' } := by
  have hn : H T = none := (hf T hT).1
  have nit : ∀ b u, H b = some u → b ∉ ch := fun b u e z => by
    have q := (hf b z).1
    rw [q] at e; cases e
  refine I.step (g' := s.gens) (d' := s.drawn) (ch := ch) (fun b hb => ⟨(hf b hb).2.2.2.1, (hf b hb).2.1, (hf b hb).2.2.2.2.1, (hf b hb).2.2.2.2.2⟩) (fun b o _ _ hc e _ => k b o hc e) (fun b o _ _ hc e _ => ⟨o.slots, k b o hc e⟩)
    (fun b o hc e n => ?_) (fun b o hc e => ⟨o, k b o hc e⟩) (fun b xs e => ?_) (fun b o u e => ?_) (fun b ps e => ⟨#[], ?_⟩) (fun m hm => ?_) (fun b u e => ?_) I.bare
  · have nb : b ≠ T := fun z => hc (by rw [z]; exact hT)
    rw [upd_ne nb]; exact n
  · rw [upd_ne (ne_of_none e hn)]; exact e
  · rw [upd_ne (ne_of_none e hn)]; exact e
  · rw [upd_ne (ne_of_none e hn), e]; simp
  · obtain ⟨o, es, ep, ho, r⟩ := hm
    exact ⟨o, es, ep, k _ o (fun z => (hf _ z).2.1 rfl) ho, r⟩
  · by_cases hb : b = T
    · subst hb
      rw [upd_same] at e
      cases e
      exact new
    · rw [upd_ne hb] at e
      refine (I.hok b u e).stay (fun c v hc q => k c v ?_ q) (fun d q => by rw [upd_ne (ne_of_none q hn)]; exact q) fun d xs q => by rw [upd_ne (ne_of_none q hn)]; exact q
      rcases hc with z | z
      · rw [z]; exact nit b u e
      · exact nit c _ z
end
section
variable {X : Cx} {pins : List (Addr × Obj)} {σ : L2.St}
abbrev lsO (a : Array Value) (n : Nat) : Obj := PyProof.Rows.seqObj "list" a n
/-- in the midst of the keys' making -/
def KeysAt (X : Cx) (pins : List (Addr × Obj)) (σ : L2.St) (F H : Hp) (f a kS : Addr) (fo : Obj) (e1 : Nat) (kz : List D) (s' : Shared) : Prop :=
  ∃ (H' F' : Hp) (ks : List V) (kA : Array Value) (e : Nat), Inv X pins σ H' s' ∧ Ext F H F' H' ∧ RpAll X.K F' ks kz ∧ Vals ks kA.toList ∧ s'.heap.get? kS = some (lsO kA e) ∧ s'.heap.get? a = some (lsO #[] e1) ∧ s'.heap.get? f = some fo ∧ H' kS = none ∧ H' a = none ∧ H' f = none
theorem fpOk_at {H H' : Hp} {b : Addr} (h : FpOk X pins H b) (n : H' b = none) : FpOk X pins H' b := ⟨n, h.2⟩
theorem mapR_get {g : D → Res D} : ∀ {ds ks : List D}, mapR g ds = .ok ks → ks.length = ds.length ∧ ∀ (i : Nat) (d k : D), ds[i]? = some d → ks[i]? = some k → g d = .ok k
  | [], ks, h => by cases h; exact ⟨rfl, fun i d k q => by simp at q⟩
  | x :: r, ks, h => by
    have h' : (g x).bind (fun y => (mapR g r).bind fun ys => .ok (y :: ys)) = .ok ks := h
    cases q : g x with
    | exn c => rw [q] at h'; cases h'
    | stuck => rw [q] at h'; cases h'
    | ok y =>
      rw [q] at h'
      cases q2 : mapR g r with
      | exn c => rw [q2] at h'; cases h'
      | stuck => rw [q2] at h'; cases h'
      | ok ys =>
        rw [q2] at h'
        cases h'
        obtain ⟨i1, i2⟩ := mapR_get q2
        refine ⟨by rw [List.length_cons, List.length_cons, i1], fun i d k h1 h2 => ?_⟩
        cases i with
        | zero =>
          simp at h1 h2
          subst h1 h2
          exact q
        | succ i =>
          simp at h1 h2
          exact i2 i d k h1 h2
theorem vals_snoc : ∀ {xs : List V} {us : List Value} {x : V} {u : Value}, Vals xs us → RelV x u → Vals (xs ++ [x]) (us ++ [u])
  | [], _, x, u, .nil, r => .cons r .nil
  | _ :: _, _, x, u, .cons a b, r => .cons a (vals_snoc b r)
theorem each_reads {K : PySem.W.Frag} {F H : Hp} {s : Shared} (I : Inv X pins σ H s) (hK : X.K = K) (sub : Same F H) : ∀ {ks : List V} {us : List Value} {kz : List D}, RpAll K F ks kz → Vals ks us → (∀ k ∈ kz, k.canLay0 = true) → PySem.W.EachIs (fun v k => ∃ as, Reads s.heap v k as) us kz
  | _, _, _, .nil, .nil, _ => .nil
  | _, _, _, .cons r t, .cons rv tv, h => by
    subst hK
    obtain ⟨as, q⟩ := Dp.reads I _ _ _ ((r.mono sub).dp (h _ List.mem_cons_self)) rv
    exact .cons ⟨as, q⟩ (each_reads I rfl sub t tv fun k hk => h k (List.mem_cons_of_mem _ hk))
theorem each_back {K : PySem.W.Frag} {F : Hp} : ∀ {us : List Value} {bs : List (D × D)}, PySem.W.EachIs (fun v (b : D × D) => ∃ x : V, RelV x v ∧ Rp K F x b.1) us bs → ∃ xs : List V, Vals xs us ∧ RpAll K F xs (bs.map Prod.fst)
  | _, _, .nil => ⟨[], .nil, .nil⟩
  | _, _, .cons ⟨x, h1, h2⟩ t => by
    obtain ⟨xs, h3, h4⟩ := each_back t
    exact ⟨x :: xs, .cons h1 h3, .cons h2 h4⟩
theorem each_to {K : PySem.W.Frag} {F : Hp} : ∀ {xs : List V} {us : List Value} {ds kz : List D}, Vals xs us → RpAll K F xs ds → kz.length = ds.length → PySem.W.EachIs (fun v (b : D × D) => ∃ x : V, RelV x v ∧ Rp K F x b.1) us (ds.zip kz)
  | [], _, _, _, .nil, .nil, _ => .nil
  | _ :: _, _, _ :: _, [], .cons _ _, .cons _ _, h => by cases h
  | x :: xs, _, _ :: _, k :: kz, .cons r tr, .cons p tp, h => .cons ⟨x, r, p⟩ (each_to tr tp (by simpa using h))
theorem kinds_alike {ks : List D} (h : keyOk ks = true) : PySem.W.AllAlike ks ∧ PySem.W.Sortable ks ∧ ∀ k ∈ ks, k.depth ≤ 1 := by
  unfold keyOk at h
  rw [Bool.and_eq_true, Bool.or_eq_true, Bool.or_eq_true] at h
  have k1 : ∀ k : D, kindK k = 1 → ∃ i, k = .int i := fun k e => by
    unfold kindK at e
    split at e <;> first | exact ⟨_, rfl⟩ | cases e
  have k2 : ∀ k : D, kindK k = 2 → ∃ i, k = .str i := fun k e => by
    unfold kindK at e
    split at e <;> first | exact ⟨_, rfl⟩ | cases e
  have k3 : ∀ k : D, kindK k = 3 → ∃ i t, k = .tuple [.int i, .str t] := fun k e => by
    unfold kindK at e
    split at e <;> first | exact ⟨_, _, rfl⟩ | cases e
  rcases h.1 with (h | h) | h
  · have al : ∀ k ∈ ks, ∃ i, k = PyData.int i := fun k hk => k1 k (of_decide_eq_true (List.all_eq_true.mp h k hk))
    refine ⟨fun d hd d' hd' => ?_, .inr fun d hd => ?_, fun d hd => ?_⟩
    · obtain ⟨i, rfl⟩ := al d hd
      obtain ⟨j, rfl⟩ := al d' hd'
      rfl
    · obtain ⟨i, rfl⟩ := al d hd
      exact ⟨fun z => (by cases z), fun xs z => (by cases z)⟩
    · obtain ⟨i, rfl⟩ := al d hd
      exact Nat.zero_le 1
  · have al : ∀ k ∈ ks, ∃ i, k = PyData.str i := fun k hk => k2 k (of_decide_eq_true (List.all_eq_true.mp h k hk))
    refine ⟨fun d hd d' hd' => ?_, .inr fun d hd => ?_, fun d hd => ?_⟩
    · obtain ⟨i, rfl⟩ := al d hd
      obtain ⟨j, rfl⟩ := al d' hd'
      rfl
    · obtain ⟨i, rfl⟩ := al d hd
      exact ⟨fun z => (by cases z), fun xs z => (by cases z)⟩
    · obtain ⟨i, rfl⟩ := al d hd
      exact Nat.zero_le 1
  · have al : ∀ k ∈ ks, ∃ i t, k = PyData.tuple [.int i, .str t] := fun k hk => k3 k (of_decide_eq_true (List.all_eq_true.mp h k hk))
    refine ⟨fun d hd d' hd' => ?_, .inl fun d hd => ?_, fun d hd => ?_⟩
    · obtain ⟨i, t, rfl⟩ := al d hd
      obtain ⟨j, u, rfl⟩ := al d' hd'
      rfl
    · obtain ⟨i, t, rfl⟩ := al d hd
      exact ⟨_, _, rfl⟩
    · obtain ⟨i, t, rfl⟩ := al d hd
      exact Nat.le_refl 1

theorem rs_one {K : PySem.W.Frag} {F H : Hp} {x : V} {d : D} (sub : Same F H) (r : Rp K F x d) (t : TabF F H) : RS K F H F H [some x] [some (.val d)] where
  ext := Ext.refl sub
  tab0 := t
  len := rfl
  val := fun i e h => by
    match i, h with
    | 0, h => cases h; exact ⟨x, rfl, r⟩
    | i + 1, h => simp at h
  own := fun i e h => by
    match i, h with
    | 0, h => cases h
    | i + 1, h => simp at h
  inj := fun i j d e a h _ _ _ => by
    match i, h with
    | 0, h => cases h
    | i + 1, h => simp at h
theorem noExn_eq {α : Type} {r : Res α} {a : α} (h : noExn r = .ok a) : r = .ok a := by
  cases r with
  | ok b => exact h
  | exn c => cases h
  | stuck => cases h
theorem keys_made {gk : Env → Res D} {F H : Hp} {s : Shared} {p : Str} {q : Pos} {body : Expr} {scope : Scope} {pm ctv : Value} {f c' a kS : Addr} {k e1 : Nat} {xs : List V} {us : List Value} {ds kz : List D} {P : PySem.Fin → Shared → Prop} {E' : Value → Shared → Prop}
    (K0 : KeysAt X pins σ F H f a kS (lamO X (arg1 p q) body scope pm c' ctv) e1 [] s) (fa : FpOk X pins H a) (fk : FpOk X pins H kS) (hka : kS ≠ a) (hkf : kS ≠ f) (haf : a ≠ f) (nfa : a ∉ frs X.stack) (nfk : kS ∉ frs X.stack) (nff : f ∉ frs X.stack) (S : NdefX.NScope [p] [p] [] scope) (hp : p = "place" ∨ p = "word")
    (hc : H c' = some (LamX.CodeO c' (X.env.qual ++ "<lambda>"))) (hr : Room k X.A) (hd : X.A.depth + 3 * k + 7 < recursionLimit) (hu : X.A.units + 16 * k + 213 < cLine) (rv : Vals xs us) (rp : RpAll X.K F xs ds) (hm : mapR (fun d => noExn (gk [some (.val d)])) ds = .ok kz) (hok : keyOk kz = true) (hz : ds.length ≤ sizeLine)
    (hb : ∀ (s1 : Shared) (F1 H1 : Hp), Room k (X.A.in1.in1.deeper (NdefX.envF (lamF X (arg1 p q) scope c') f s1.heap.objs.size)) → PE (NdefX.ncx (L2.CX X.prog X.w) X.prog X.w X.K X.mg X.base [p] (lamF X (arg1 p q) scope c') f X.A.in1.in1 X.stack s1 H1 fun _ _ _ => False) body (tE X.K (fun _ _ => False) F1 H1 gk))
    (tb0 : TabF F H) (fin : ∀ s' H' F' out, Inv X pins σ (upd H' a (.lst out)) s' → Ext F H F' H' → H' a = none → RpAll X.K F' out ((sortP (ds.zip kz)).map Prod.fst) → P (.done (.ret .none)) s') :
    wpAny (model X.prog X.w) X.A.in1.in1 (ksk_rest a (.ref f) false us.toArray e1 (.ref kS)) P E' s := by
  obtain ⟨hkl, hkg⟩ := mapR_get hm
  have hul : us.length = ds.length := by rw [← rv.length, rp.length]
  obtain ⟨al, so, dp⟩ := kinds_alike hok
  have lay : ∀ k ∈ kz, k.canLay0 = true := fun k hk => by
    unfold keyOk at hok
    rw [Bool.and_eq_true] at hok
    exact List.all_eq_true.mp hok.2 k hk
  unfold ksk_rest
  refine wpAny_bind (wpAny_rule ?_)
  rw [List.forIn_toArray]
  refine wpAny_bind (ksk_fold (fun i s' => KeysAt X pins σ F H f a kS (lamO X (arg1 p q) body scope pm c' ctv) e1 (kz.take i) s') us 0 s (by rw [List.take_zero]; exact K0) ?step ?done)
  case step =>
    rintro j u s' hx ⟨H', F', ks, kA, e, I, ex, rk, vk, nk, na, nf, n1, n2, n3⟩
    simp only [Nat.zero_add] at rk ⊢
    have hj : j < us.length := (List.getElem?_eq_some_iff.mp hx).1
    obtain ⟨kd, hkj⟩ : ∃ kd, kz[j]? = some kd := ⟨_, List.getElem?_eq_getElem (by omega)⟩
    obtain ⟨d, hdj⟩ : ∃ d, ds[j]? = some d := ⟨_, List.getElem?_eq_getElem (by omega)⟩
    obtain ⟨x, hxj, rx⟩ := rp.get hdj
    obtain ⟨u', hu', ru⟩ := rv.get hxj
    rw [hx] at hu'
    cases hu'
    have hgd := noExn_eq (hkg j d kd hdj hkj)
    have hlen : kA.size ≤ ds.length := by
      have h1 := rk.length
      have h2 : ks.length = kA.size := by rw [vk.length, Array.length_toList]
      rw [List.length_take] at h1
      omega
    have tb1 : TabF F' H' := tb0.more ex
    refine wpAny_bind (wpAny_attempt (lam_call (Q := fun y H2 => ∃ F2, Ext F' H' F2 H2 ∧ Rp X.K F2 y kd) I S hp nf (ex.h.keep _ _ hc LamX.codeO_ne) hr hd hu ru (hb s' F' H') ⟨[some (.val d)], F', rs_one ex.sub (rx.mono ex.f) tb1, ?_⟩ fun w s2 y H2 I2 un ry ⟨F2, ex2, ry2⟩ => ?_))
    · rw [hgd]
      exact fun F2 H2 e2 v r2 => ⟨F2, e2, r2⟩
    · have keep : ∀ b o, H' b = none → b ∉ frs X.stack → s'.heap.get? b = some o → s2.heap.get? b = some o := fun b o n nf e => un.keep b o e n nf (by simp)
      have free : ∀ b o, s'.heap.get? b = some o → H' b = none → H2 b = none := fun b o e n => un.free b o e n (by simp)
      have nk2 := keep kS _ n1 nfk nk
      have na2 := keep a _ n2 nfa na
      have nf2 := keep f _ n3 nff nf
      have m1 := free kS _ nk n1
      have m2 := free a _ na n2
      have m3 := free f _ nf n3
      have s1 := Heap.SameBut.update s2.heap kS (Obj.mapSeq (·.push w))
      obtain ⟨c2, hc2⟩ : ∃ c2, (s2.heap.update kS (Obj.mapSeq (·.push w))).get? kS = some (lsO (kA.push w) c2) := ⟨_, get?_update_seq nk2 (·.push w)⟩
      have ek : kz.take (j + 1) = kz.take j ++ [kd] := by rw [List.take_add_one, hkj]; simp
      have ea : (kA.push w).toList = kA.toList ++ [w] := by simp
      refine wpAny_bind (listUpdate_at nk2 rfl ?_ (Nat.le_trans hlen hz) (Nat.le_trans (Nat.le_of_eq (Array.size_push ..)) (Nat.succ_le_succ (Nat.le_trans hlen hz))))
      refine wpAny_pure ⟨rfl, H2, F2, ks ++ [y], kA.push w, c2, ?_, ex.trans ex2, ?_, ?_, hc2, (s1.2 a hka.symm).trans na2, (s1.2 f hkf.symm).trans nf2, m1, m2, m3⟩
      · exact I2.turnedL (ch := [kS]) (t' := s2.toks) (fun b o hb e => (s1.2 b (fun z => hb (by simp [z]))).trans e) fun b hb => by
          rw [List.mem_singleton.mp hb]
          exact fpOk_at fk m1
      · rw [ek]
        exact RpAll.append (rk.mono ex2.f) (.cons ry2 .nil)
      · rw [ea]
        exact vals_snoc vk ry
  case done =>
    rintro s' ⟨H', F', ks, kA, e, I, ex, rk, vk, nk, na, nf, n1, n2, n3⟩
    have et : kz.take (0 + us.length) = kz := List.take_of_length_le (by omega)
    rw [et] at rk
    have hk' := each_reads I rfl ex.sub rk vk lay
    have hsz : kA.size = us.length := by
      have h1 := rk.length
      have h2 : ks.length = kA.size := by rw [vk.length, Array.length_toList]
      omega
    refine wpAny_bind (listItems_at nk rfl ?_)
    obtain ⟨G, g1, g2⟩ := restrict s'.heap fun b => decide (b ≠ kS)
    have gk' : ∀ b o, b ≠ kS → s'.heap.get? b = some o → G.get? b = some o := fun b o hb e => by rw [g1 b (decide_eq_true hb)]; exact e
    have gs : ∀ b o, G.get? b = some o → s'.heap.get? b = some o := fun b o e => by
      by_cases hb : b = kS
      · rw [hb, g2 kS (decide_eq_false fun z => z rfl)] at e; cases e
      · rw [g1 b (decide_eq_true hb)] at e; exact e
    refine PySem.W.keyH_end (κ := PySem.W.dataKind s'.heap kz) (h₁ := G) (b := false) (fun b o _ e => gs b o e) (g2 kS (decide_eq_false fun z => z rfl)) nk na hka (PySem.W.SortsAt.data (s := s') hk' al so fun d hd => ?_) hsz (by rw [hul]; exact hz) fun h3 tk3 c k3 n4 => ?_
    · have := dp d hd
      show X.A.units + 1 + 1 + d.depth < cLine
      omega
    · have ko : PySem.W.KeyedOut false kz us (PySem.W.sortVals (PySem.W.dataKind s'.heap kz) false kA.toList us) := ⟨s'.heap, kA.toList, al, rfl, hk'⟩
      have em : (ds.zip kz).map Prod.snd = kz := by rw [List.map_snd_zip]; omega
      have ee := each_to rv (rp.mono ex.f) hkl
      have ko2 : PySem.W.KeyedOut false ((ds.zip kz).map Prod.snd) us (PySem.W.sortVals (PySem.W.dataKind s'.heap kz) false kA.toList us) := by rw [em]; exact ko
      obtain ⟨out, o1, o2⟩ := each_back (PySem.W.keyedOut_each (rev := false) Prod.snd ko2 ee)
      have ol : out.length = us.length := by
        rw [o1.length]
        exact ko.length (by omega)
      refine fin _ H' F' out (turnedAt (ch := [a, kS]) (t' := tk3) (ob := .lst out) I (fun b o hb e => ?_) (fun b hb => ?_) List.mem_cons_self ?_ fun b z => by cases z) ex n2 o2
      · simp only [List.mem_cons, List.not_mem_nil, or_false, not_or] at hb
        exact k3 b o hb.1 (gk' b o hb.2 e)
      · simp only [List.mem_cons, List.not_mem_nil, or_false] at hb
        rcases hb with rfl | rfl
        · exact fpOk_at fa n2
        · exact fpOk_at fk n1
      · exact ⟨by rw [ol, hul]; exact hz, _, c, o1, n4⟩
theorem sorted_made {gk : Env → Res D} {F H : Hp} {s : Shared} {p : Str} {q : Pos} {body : Expr} {scope : Scope} {pm ctv : Value} {f c' l : Addr} {k : Nat} {xs : List V} {ds kz : List D} {Q : VK} (I : Inv X pins σ H s) (hf : s.heap.get? f = some (lamO X (arg1 p q) body scope pm c' ctv)) (nf : H f = none) (nff : f ∉ frs X.stack)
    (S : NdefX.NScope [p] [p] [] scope) (hp : p = "place" ∨ p = "word") (hc : H c' = some (LamX.CodeO c' (X.env.qual ++ "<lambda>"))) (hr : Room k X.A) (hd : X.A.depth + 3 * k + 7 < recursionLimit) (hu : X.A.units + 16 * k + 213 < cLine) (sub : Same F H) (sq : SqL X.K H l xs ∨ SqT X.K H l xs) (rp : RpAll X.K F xs ds)
    (hm : mapR (fun d => noExn (gk [some (.val d)])) ds = .ok kz) (hok : keyOk kz = true) (hz : ds.length ≤ sizeLine)
    (hb : ∀ (s1 : Shared) (F1 H1 : Hp), Room k (X.A.in1.in1.deeper (NdefX.envF (lamF X (arg1 p q) scope c') f s1.heap.objs.size)) → PE (NdefX.ncx (L2.CX X.prog X.w) X.prog X.w X.K X.mg X.base [p] (lamF X (arg1 p q) scope c') f X.A.in1.in1 X.stack s1 H1 fun _ _ _ => False) body (tE X.K (fun _ _ => False) F1 H1 gk))
    (tb0 : TabF F H) (fin : ∀ F' H' v, Ext F H F' H' → Rp X.K F' v (.list ((sortP (ds.zip kz)).map Prod.fst)) → Q v H') : wpAny (model X.prog X.w) X.A (call (.builtin "sorted") [.ref l] [("key", .ref f)]) (EP X pins σ Q) X.xe s := by
  obtain ⟨its, r, T, o, hT, ho, ho1, n, ho2⟩ : ∃ its, Vals xs its ∧ ∃ (T : String) (o : Obj), (T = "list" ∨ T = "tuple") ∧ s.heap.get? l = some o ∧ o.cls = .type T ∧ ∃ n, o.data = .seq its.toArray n := by
    rcases sq with sq | sq
    · obtain ⟨its, r, p, _⟩ := I.list sq
      obtain ⟨o, a1, a2, n, a3⟩ := p.isList
      exact ⟨its, r, "list", o, .inl rfl, a1, a2, n, a3⟩
    · obtain ⟨its, r, p, _⟩ := I.tuple sq
      obtain ⟨o, a1, a2, n, a3⟩ := p
      exact ⟨its, r, "tuple", o, .inr rfl, a1, a2, n, a3⟩
  have hil : its.length = ds.length := by rw [← r.length, rp.length]
  refine call_function_entry_kw kind_sorted plain_sorted entry_sorted (ksk_s1 _ _) ?_
  unfold Builtin.«sorted»
  refine wpAny_bind (m := checkCount "sorted" 1 1 _) (wpAny_pure ?_)
  refine wpAny_bind (wpAny_collect_seq l hT ho ho1 ho2 (fun h' kp => ?_) (by rw [List.size_toArray, hil]; exact hz))
  rw [List.toList_toArray]
  refine wpAny_bind (wpAny_newList ?_ (by rw [hil]; exact hz))
  have I1 : Inv X pins σ H { s with heap := h' } := I.kept (t' := s.toks) kp
  have nofr : ∀ b, h'.objs.size ≤ b → b ∉ frs X.stack := fun b hb z => by
    rcases List.mem_cons.mp (I1.stkSub _ z) with e | e
    · have h1 := I1.lt
      rw [← e] at h1
      exact Nat.lt_irrefl _ (Nat.lt_of_lt_of_le h1 hb)
    · exact I1.nofs hb e
  have ga : (h'.push (lsO its.toArray 0)).get? h'.objs.size = some (lsO its.toArray 0) := Heap.get?_push_size _ rfl
  refine wpAny_bind (wpAny_holding (wpAny_call_entry_kw slot_list_sort ⟨_, ga, rfl⟩ entry_list_sort ?body (ksk_l1 _ _)))
  case body =>
    show wpAny (model X.prog X.w) X.A.in1.in1 (Builtin.«list.sort» ⟨[.ref h'.objs.size], [(Str.ofString "key", .ref f)]⟩) _ _ _
    rw [ksk_t1]
    unfold ksk_tree
    have hz' : its.toArray.size ≤ sizeLine := by rw [List.size_toArray, hil]; exact hz
    obtain ⟨e1, ho1'⟩ : ∃ e1, ((h'.push (lsO its.toArray 0)).update h'.objs.size (Obj.mapSeq fun _ => (#[] : Array Value))).get? h'.objs.size = some (lsO #[] e1) := ⟨_, get?_update_seq ga fun _ => #[]⟩
    refine wpAny_bind (listItems_at ga rfl ?_)
    refine wpAny_bind (listUpdate_at ga rfl ?_ hz' (Nat.zero_le _))
    refine wpAny_bind (seqEpoch_at ho1' rfl ?_)
    refine wpAny_bind (wpAny_newTuple ?_ (by show its.length ≤ _; rw [hil]; exact hz))
    refine wpAny_bind (wpAny_newList ?_ (Nat.zero_le _))
    refine wpAny_holding ?_
    have z1 : ((h'.push (lsO its.toArray 0)).update h'.objs.size (Obj.mapSeq fun _ => (#[] : Array Value))).objs.size = h'.objs.size + 1 := by rw [Heap.size_update, Heap.size_push]
    have z2 : (((h'.push (lsO its.toArray 0)).update h'.objs.size (Obj.mapSeq fun _ => (#[] : Array Value))).push (seqObj "tuple" its.toArray 0)).objs.size = h'.objs.size + 2 := by rw [Heap.size_push, z1]
    have sb := Heap.SameBut.update (h'.push (lsO its.toArray 0)) h'.objs.size (Obj.mapSeq fun _ => (#[] : Array Value))
    have up : ∀ b o, h'.get? b = some o → ((((h'.push (lsO its.toArray 0)).update h'.objs.size (Obj.mapSeq fun _ => (#[] : Array Value))).push (seqObj "tuple" its.toArray 0)).push (seqObj "list" #[] 0)).get? b = some o := fun b o e => Heap.get?_push_of_some _ (Heap.get?_push_of_some _ ((sb.2 b (Nat.ne_of_lt (Heap.lt_size e))).trans (Heap.get?_push_of_some _ e)))
    have I2 : Inv X pins σ H { s with heap := (((h'.push (lsO its.toArray 0)).update h'.objs.size (Obj.mapSeq fun _ => (#[] : Array Value))).push (seqObj "tuple" its.toArray 0)).push (seqObj "list" #[] 0) } := I1.kept (t' := s.toks) up
    have le2 : h'.objs.size ≤ h'.objs.size + 2 := Nat.le_add_right _ _
    have hfl : f < h'.objs.size := Heap.lt_size (kp _ _ hf)
    have fA : FpOk X pins H h'.objs.size := I1.fpOk (Nat.le_refl _) (I1.hok.fresh (Nat.le_refl _))
    have fK : FpOk X pins H (h'.objs.size + 2) := I1.fpOk le2 (I1.hok.fresh le2)
    have gK : ((((h'.push (lsO its.toArray 0)).update h'.objs.size (Obj.mapSeq fun _ => (#[] : Array Value))).push (seqObj "tuple" its.toArray 0)).push (seqObj "list" #[] 0)).get? (h'.objs.size + 2) = some (lsO #[] 0) := by
      have := Heap.get?_push_size (((h'.push (lsO its.toArray 0)).update h'.objs.size (Obj.mapSeq fun _ => (#[] : Array Value))).push (seqObj "tuple" its.toArray 0)) (o := seqObj "list" #[] 0) rfl
      rw [z2] at this
      exact this
    rw [z2]
    refine keys_made (kS := h'.objs.size + 2) (F := F) (H := H) (e1 := e1) (xs := xs) (ds := ds) (kz := kz) ⟨H, F, [], #[], 0, I2, Ext.refl sub, .nil, .nil, gK, Heap.get?_push_of_some _ (Heap.get?_push_of_some _ ho1'), up _ _ (kp _ _ hf), fK.1, fA.1, nf⟩ fA fK (Nat.ne_of_gt (Nat.lt_add_of_pos_right (by decide))) (Nat.ne_of_gt (Nat.lt_of_lt_of_le hfl le2)) (Nat.ne_of_gt hfl) (nofr _ (Nat.le_refl _)) (nofr _ le2) nff S hp hc hr hd hu r rp hm hok hz hb tb0 fun s' H' F' out J ex n ra => ?_
    refine ⟨_, rfl, wpAny_pure ⟨_, rfl, .ref h'.objs.size, _, J, rfl, fin (upd F' h'.objs.size (.lst out)) _ _ (ex.trans (Ext.add ex.sub n)) (rp_lst ex.sub n ra)⟩⟩
end
theorem mapR_no {g : D → Res D} (h : ∀ d c, g d ≠ .exn c) : ∀ (ds : List D) (c : Nat), mapR g ds ≠ .exn c
  | [], c, z => by cases z
  | d :: r, c, z => by
    have z' : (g d).bind (fun x => (mapR g r).bind fun xs => .ok (x :: xs)) = .exn c := z
    cases q : g d with
    | exn e => exact h d e q
    | stuck => rw [q] at z'; cases z'
    | ok y =>
      rw [q] at z'
      cases q2 : mapR g r with
      | exn e => exact mapR_no h r e q2
      | stuck => rw [q2] at z'; cases z'
      | ok ys => rw [q2] at z'; cases z'
theorem noExn_no' {α : Type} (r : Res α) (c : Nat) : noExn r ≠ .exn c := by
  cases r <;> exact fun z => by cases z
theorem seqD_ok {x : D} {ds : List D} (h : seqD x = .ok ds) : x = .list ds ∨ x = .tuple ds := by
  cases x with
  | list e => cases h; exact .inl rfl
  | tuple e => cases h; exact .inr rfl
  | _ => cases h
theorem sortk_split {C : Cfg} {m : Md} {a key : E} {p : Str} {x : Expr} (h : chk C m (.sortk a key p) x = true) : ∃ p1 y qp body scope lp kp pos, x = .Call (.Name "sorted" p1) [y] [⟨some "key", .Lambda (arg1 p qp) body scope lp, kp⟩] pos ∧ m.isTst = false ∧ glB C.sc "sorted" = true ∧ chk C .opd a y = true ∧ notStar y = true ∧ C.lam = true ∧ (p = "place" ∨ p = "word") ∧ NdefX.nscB [p] [p] [] scope = true ∧ chk (C.body p scope) .val key body = true := by
  cases x with
  | Call fn args kws pos =>
    cases fn with
    | Name x p1 =>
      match args, h with
      | [y], h =>
        have h' : (!m.isTst && decide (x = "sorted") && glB C.sc x && chk C .opd a y && notStar y && C.lam && (match (generalizing := false) keyOf kws with
          | some (kn, q, _, body, scope, _) => decide (kn = "key") && decide (q = p) && (decide (p = "place") || decide (p = "word")) && NdefX.nscB [p] [p] [] scope && chk (C.body p scope) .val key body
          | none => false)) = true := h
        simp only [Bool.and_eq_true] at h'
        obtain ⟨⟨⟨⟨⟨⟨h1, h2⟩, h3⟩, h4⟩, h5⟩, h6⟩, h7⟩ := h'
        cases z : keyOf kws with
        | none => rw [z] at h7; exact Bool.noConfusion h7
        | some t =>
          obtain ⟨kn, q, qp, body, scope, lp⟩ := t
          rw [z] at h7
          obtain ⟨kp, rfl⟩ := keyOf_some z
          simp only [Bool.and_eq_true, Bool.or_eq_true, decide_eq_true_eq] at h7
          obtain ⟨⟨⟨⟨g1, g2⟩, g3⟩, g4⟩, g5⟩ := h7
          have e := of_decide_eq_true h2
          subst e g1 g2
          exact ⟨p1, y, qp, body, scope, lp, kp, pos, rfl, by simpa using h1, h3, h4, h5, h6, g3, g4, g5⟩
      | [], h => exact Bool.noConfusion h
      | _ :: _ :: _, h => exact Bool.noConfusion h
    | _ => exact Bool.noConfusion h
  | _ => exact Bool.noConfusion h
theorem se_sortk {a key : E} {p : Str} (ha : SE a) (hk : SE key) : SE (.sortk a key p) := by
  refine se_plain fun {X C k Φ cs clsA W F0 H0} hX m x h => ?_
  obtain ⟨p1, y, qp, body, scope, lp, kp, pos, rfl, h1, h2, h3, h4, h5, h6, h7, h8⟩ := sortk_split h
  refine ⟨h1, ?_⟩
  obtain ⟨on, ⟨c, hcode, TB⟩, hnm, sd, su⟩ := hX.lam h5
  have S := NdefX.nscope_by h7
  have nfree : ∀ y ∈ scope.names, y.2 ≠ .free := fun y hy e => by
    have := S.free y hy e
    cases this
  refine ⟨fun pins s σ H Q I ⟨env, F, rs, kk⟩ => ?_⟩
  refine wpAny_Call_Name_kw (ld_blt I (hX.gl h2) (hX.no (by decide +kernel)) boot_sorted ?_)
  have PAy := pa_cons ((ha (F0 := F0) (H0 := H0) hX y).2.1 h3) (pa_nil (X := X)) (star_of h4)
  refine callWith_kw (thn (PAy.run pos pins s σ H (fun vs H1 => ∃ F1 d v, vs = [v] ∧ Ext F H F1 H1 ∧ RpO X.K F1 H1 v d ∧ KE X.K W F1 H1 (sortkD (fun d => noExn (ev Φ cs key [some (.val d)])) d) Q) I ⟨env, F, rs, (KR.bind kk).imp fun F1 H1 d e1 k1 v r1 => ⟨F1, d, v, rfl, e1, r1, k1⟩⟩) fun us s1 ⟨vs, H1, I1, r1, F1, d, v, e1, ex1, ro, k1⟩ => ?_) (by rw [star_of h4]; rfl) (by rw [star_of h4]; rfl) rfl rfl
  subst e1
  obtain ⟨u, rfl, ru⟩ := r1.one
  have tabF := (rs.more ex1).tab
  show wpAny _ _ (evalAll [(do let v ← eval (.Lambda (arg1 p qp) body scope lp) X.env; standAt pos; pure v)]) _ _ s1
  refine wpAny_evalAll_cons (wpAny_bind (lam_make3 I1 TB hcode hnm tabF.1 on rfl nfree fun f c' pm ctv H2 s2 I2 sg st hf nf nff hco => wpAny_bind (wpAny_standAt (wpAny_pure ?_))))
  refine wpAny_evalAll_nil ?_
  show wpAny _ _ (call (.builtin "sorted") [u] [("key", .ref f)]) _ _ s2
  have ex2 : Ext F1 H1 F1 H2 := ⟨Same.refl F1, sg, fun b o e => st b o (fun z => by rw [z, tabF.2 on] at e; cases e) (ex1.sub b o e), fun b o e => .inl e⟩
  have k2 : KE X.K W F1 H2 (sortkD (fun d => noExn (ev Φ cs key [some (.val d)])) d) Q := KR.ext k1 ex2
  unfold sortkD at k2
  cases z1 : seqD d with
  | exn c => rw [z1] at k2; cases d <;> cases z1
  | stuck => rw [z1] at k2; exact k2.elim
  | ok ds =>
    rw [z1] at k2
    replace k2 : KE X.K W F1 H2 ((mapR (fun d => noExn (ev Φ cs key [some (.val d)])) ds).bind fun ks => need (keyOk ks && fitsZ ds.length) (.ok (.list ((sortP (ds.zip ks)).map Prod.fst)))) Q := k2
    cases z2 : mapR (fun d => noExn (ev Φ cs key [some (.val d)])) ds with
    | exn c => exact absurd z2 (mapR_no (fun d c => noExn_no' _ c) ds c)
    | stuck => rw [z2] at k2; exact k2.elim
    | ok kz =>
      rw [z2] at k2
      obtain ⟨z3, k3⟩ := KR.need (show KR _ W F1 H2 (need (keyOk kz && fitsZ ds.length) (.ok (PyData.list ((sortP (ds.zip kz)).map Prod.fst)))) from k2)
      rw [Bool.and_eq_true] at z3
      obtain ⟨l, xs, rfl, sq, rp⟩ : ∃ l xs, v = .ref l ∧ (SqL X.K H2 l xs ∨ SqT X.K H2 l xs) ∧ RpAll X.K F1 xs ds := by
        have ro2 := ro.mono ex2
        rcases seqD_ok z1 with rfl | rfl
        · obtain ⟨l, xs, e, q1, q2⟩ := ro2.lst ex2.sub
          exact ⟨l, xs, e, .inl q1, q2⟩
        · obtain ⟨l, xs, e, q1, q2, _⟩ := ro2.tup ex2.sub
          exact ⟨l, xs, e, .inr q1, q2⟩
      obtain rfl : u = Value.ref l := ru
      refine sorted_made (F := F1) I2 hf nf nff S h6 hco hX.room sd su ex2.sub sq rp z2 z3.1 (fits_le z3.2) (fun s3 F3 H3 hr3 => ?_) (tabF.more ex2) fun F' H' v' e' r' => k3 F' H' e' v' r'
      refine (hk (F0 := F3) (H0 := H3) (X := NdefX.ncx (L2.CX X.prog X.w) X.prog X.w X.K X.mg X.base [p] (lamF X (arg1 p qp) scope c') f X.A.in1.in1 X.stack s3 H3 fun _ _ _ => False) (C := C.body p scope) (k := k) (clsA := clsA) ⟨rfl, by simp [Cfg.body], rfl, fun x z => Bool.noConfusion z, rfl, hX.fns, hX.csts, hX.blt, hr3, fun z => Bool.noConfusion z, ?_⟩ body).1 h8
      exact Takes.imp (takes_of (E := fun _ _ _ => False) rfl rfl rfl rfl) fun cls d σ H ⟨c, e1, e2, q⟩ => q
end MW

set_option maxRecDepth 100000
set_option maxHeartbeats 1000000
/-! Part 2i: loops' items, comprehensions; all expressions. -/
namespace MW
open PySem PySem.Spec PyProof.Rows L2
open Res
variable [Lam]
section
variable {X : Cx} {C : Cfg} {k : Nat} {Φ : Phi} {cs : Nat → Res D} {clsA : Nat → Addr} {W : Nat → Hp → Prop} {F0 H0 : Hp}
def gI (Φ : Phi) (cs : Nat → Res D) (ik : IK) (ia : Es) (env : Env) : Res (List D) := (evs Φ cs ia env).bind fun ds => iterD ik ds
theorem one_arg {m : Md} {ia : Es} {x : Expr} (h : chks C m ia [x] = true) : ∃ e, ia = .cons e .nil ∧ chk C m e x = true := by
  cases ia with
  | nil => exact Bool.noConfusion h
  | cons e r =>
    have h' : (chk C m e x && notStar x && chks C m r []) = true := h
    rw [Bool.and_eq_true, Bool.and_eq_true] at h'
    cases r with
    | nil => exact ⟨e, rfl, h'.1.1⟩
    | cons _ _ => exact Bool.noConfusion h'.2
theorem two_args {m : Md} {ia : Es} {x y : Expr} (h : chks C m ia [x, y] = true) : ∃ e f, ia = .cons e (.cons f .nil) ∧ chk C m e x = true ∧ chk C m f y = true := by
  cases ia with
  | nil => exact Bool.noConfusion h
  | cons e r =>
    have h' : (chk C m e x && notStar x && chks C m r [y]) = true := h
    rw [Bool.and_eq_true, Bool.and_eq_true] at h'
    obtain ⟨f, rfl, h2⟩ := one_arg h'.2
    exact ⟨e, f, rfl, h'.1.1, h2⟩
/-- KR of one operand's walk -/
theorem gI_one {R : Hp → Hp → List D → Prop} {F H : Hp} {ik : IK} {e : E} {env : Env} (k : KR R W F H (gI Φ cs ik (.cons e .nil) env)) : KR (fun F1 H1 d => KR R W F1 H1 (iterD ik [d])) W F H (ev Φ cs e env) := by
  have e1 : gI Φ cs ik (.cons e .nil) env = (ev Φ cs e env).bind fun d => iterD ik [d] := by
    show (((ev Φ cs e env).bind fun d => (evs Φ cs .nil env).bind fun ds => .ok (d :: ds))).bind (fun ds => iterD ik ds) = _
    rw [bind_assoc]
    rfl
  rw [e1] at k
  exact KR.bind k
theorem RpM.int {strong : Bool} {K : PySem.W.Frag} {F H : Hp} {v : V} {i : Int} (h : RpM strong K F H v (.int i)) : v = .int i := h.o.int
/-- the slots' parts of a PA of operands of the kind asked -/
theorem pa1 {e : E} {x : Expr} {strong : Bool} (hX : XOk X C k Φ cs clsA W) (he : SE e) (h : chk C (mdOf strong) e x = true) : PA X [x] (tCons (tM strong X.K W F0 H0 (ev Φ cs e)) tNil) :=
  pa_cons (pe_m (F0 := F0) (H0 := H0) hX he strong h) pa_nil (star_of (chk_notStar h))
theorem star1 {x : Expr} {m : Md} {e : E} (h : chk C m e x = true) : starEach [x] X.env = [(false, eval x X.env)] := star_of (chk_notStar h)
theorem range_ok {lo hi : Int} {R : Hp → Hp → List D → Prop} {F H : Hp} (k : KR R W F H (rangeD lo hi)) : (-(2 ^ 62) ≤ lo ∧ lo < 2 ^ 62 ∧ -(2 ^ 62) ≤ hi ∧ hi < 2 ^ 62) ∧ KR R W F H (.ok ((List.range (hi - lo).toNat).map fun i => .int (lo + (i : Nat)))) := by
  obtain ⟨z, k⟩ := KR.need k
  simp only [Bool.and_eq_true, decide_eq_true_eq] at z
  exact ⟨⟨z.1.1.1.1, z.1.1.1.2, z.1.1.2, z.1.2⟩, k⟩
/-- all that is ahead of a loop -/
def SIt (ia : Es) : Prop := ∀ e, (ia = .cons e .nil → SE e) ∧ ∀ f, ia = .cons e (.cons f .nil) → SE e ∧ SE f
theorem pi_of {ik : IK} {ia : Es} {tg iter : Expr} {xs : List Expr} {strong : Bool} (hX : XOk X C k Φ cs clsA W) (hs : SIt ia) (ha : itArgs C ik tg iter = some xs) (h : chks C (mdOf strong) ia xs = true) :
    PI X tg iter (tI X.K W F0 H0 strong (gI Φ cs ik ia)) := by
  cases ik with
  | of =>
    cases ha
    obtain ⟨e, rfl, he⟩ := one_arg h
    have pe := pe_m (F0 := F0) (H0 := H0) hX ((hs e).1 rfl) strong he
    refine (pi_or (pi_list pe) (pi_or (pi_tup pe) (pi_str pe))).impW fun σ H R ⟨env, F, rs, k⟩ => ?_
    have k2 := gI_one k
    cases q : ev Φ cs e env with
    | exn c => rw [q] at k2; exact .inl ⟨env, F, rs, by rw [q]; exact k2⟩
    | stuck => rw [q] at k2; exact k2.elim
    | ok d =>
      rw [q] at k2
      cases d with
      | list ds =>
        refine .inl ⟨env, F, rs, ?_⟩
        rw [q]
        refine fun F1 H1 e1 v r1 => ?_
        obtain ⟨a, vs, rfl, h1, h2⟩ := r1.lst e1.sub
        have hH : SqL X.K H1 a vs := by
          cases strong with
          | true => exact e1.sub.seq h1
          | false => exact h1
        exact ⟨a, rfl, ⟨vs, hH⟩, k2 F1 H1 e1 F1 H1 (Ext.refl e1.sub) _ (walks_lst h1 h2)⟩
      | tuple ds =>
        refine .inr (.inl ⟨env, F, rs, ?_⟩)
        rw [q]
        refine fun F1 H1 e1 v r1 => ?_
        obtain ⟨a, vs, rfl, h1, h2⟩ := r1.tup e1.sub
        have hH : SqT X.K H1 a vs := by
          cases strong with
          | true => exact Same.sqt e1.sub h1
          | false => exact h1
        exact ⟨a, rfl, ⟨vs, hH⟩, k2 F1 H1 e1 F1 H1 (Ext.refl e1.sub) _ (walks_tup h1 h2)⟩
      | str z =>
        refine .inr (.inr ⟨env, F, rs, ?_⟩)
        rw [q]
        refine fun F1 H1 e1 v r1 => ?_
        obtain rfl := r1.o.str
        exact ⟨z, rfl, k2 F1 H1 e1 F1 H1 (Ext.refl e1.sub) _ (walks_str z)⟩
      | _ => exact (k2 F H (Ext.refl rs.ext.sub)).elim
  | range =>
    unfold itArgs at ha
    simp only at ha
    split at ha
    · rename_i x p a pos
      split at ha
      · rename_i c
        cases ha
        obtain ⟨rfl, c2⟩ := c
        obtain ⟨e, rfl, he⟩ := one_arg h
        refine (pi_range1 (hX.gl c2) (hX.no (by decide +kernel)) (pa1 (F0 := F0) (H0 := H0) hX ((hs e).1 rfl) he) (star1 he)).impW fun σ H R ⟨env, F, rs, k⟩ => ?_
        refine ⟨env, F, rs, (gI_one k).imp fun F1 H1 d e1 k1 v r1 => ?_⟩
        cases d with
        | int j =>
          obtain rfl := r1.int
          obtain ⟨⟨b1, b2, b3, b4⟩, k2⟩ := range_ok (show KR _ W F1 H1 (rangeD 0 j) from k1)
          have e0 : (j - 0).toNat = j.toNat := by rw [Int.sub_zero]
          rw [e0] at k2
          exact ⟨j, rfl, b3, b4, k2 F1 H1 (Ext.refl e1.sub) _ (walks_range 0 j.toNat)⟩
        | _ => exact k1.elim
      · cases ha
    · rename_i x p a b pos
      split at ha
      · rename_i c
        cases ha
        obtain ⟨rfl, c2⟩ := c
        obtain ⟨e, f, rfl, he, hf⟩ := two_args h
        obtain ⟨se, sf⟩ := (hs e).2 f rfl
        refine (pi_range2 (hX.gl c2) (hX.no (by decide +kernel)) (pa_cons (pe_m (F0 := F0) (H0 := H0) hX se strong he) (pa_cons (pe_m (F0 := F0) (H0 := H0) hX sf strong hf) pa_nil (star_of (chk_notStar hf))) (star_of (chk_notStar he)))
          (by rw [star_of (chk_notStar he), star_of (chk_notStar hf)]; rfl) (star1 hf)).impW fun σ H R ⟨env, F, rs, k⟩ => ?_
        have e1 : gI Φ cs .range (.cons e (.cons f .nil)) env = (ev Φ cs e env).bind fun d => (ev Φ cs f env).bind fun d2 => iterD .range [d, d2] := by
          show (((ev Φ cs e env).bind fun d => ((ev Φ cs f env).bind fun d2 => (evs Φ cs .nil env).bind fun ds => .ok (d2 :: ds)).bind fun ds => .ok (d :: ds))).bind (fun ds => iterD .range ds) = _
          rw [bind_assoc]
          congr 1
          funext d
          rw [bind_assoc, bind_assoc]
          congr 1
        rw [e1] at k
        refine ⟨env, F, rs, (KR.bind k).imp fun F1 H1 d e1 k1 v r1 => ⟨env, F1, rs.more e1, (KR.bind k1).imp fun F2 H2 d2 e2 k2 v2 r2 => ?_⟩⟩
        cases d with
        | int i =>
          cases d2 with
          | int j =>
            obtain rfl := r1.int
            obtain rfl := r2.int
            obtain ⟨⟨b1, b2, b3, b4⟩, k3⟩ := range_ok (show KR _ W F2 H2 (rangeD i j) from k2)
            exact ⟨i, j, rfl, ⟨b1, b2, b3, b4⟩, k3 F2 H2 (Ext.refl e2.sub) _ (walks_range i (j - i).toNat)⟩
          | _ => exact k2.elim
        | _ => exact k2.elim
      · cases ha
    · cases ha
  | enum =>
    unfold itArgs at ha
    simp only at ha
    split at ha
    · rename_i es kk tp x p a pos
      split at ha
      · rename_i c
        cases ha
        obtain ⟨rfl, c2⟩ := c
        obtain ⟨e, rfl, he⟩ := one_arg h
        refine (pi_enumB (hX.gl c2) (hX.no (by decide +kernel)) (pa1 (F0 := F0) (H0 := H0) hX ((hs e).1 rfl) he) (star1 he)).impW fun σ H R ⟨env, F, rs, k⟩ => ?_
        refine ⟨env, F, rs, (gI_one k).imp fun F1 H1 d e1 k1 v r1 => ?_⟩
        cases d with
        | list ds =>
          obtain ⟨a, vs, rfl, h1, h2⟩ := r1.lst e1.sub
          have hH : SqL X.K H1 a vs := by
            cases strong with
            | true => exact e1.sub.seq h1
            | false => exact h1
          exact .inl ⟨a, vs, rfl, hH, k1 F1 H1 (Ext.refl e1.sub) _ (walks_enum h1 h2)⟩
        | tuple ds =>
          obtain ⟨a, vs, rfl, h1, h2⟩ := r1.tup e1.sub
          have hH : SqT X.K H1 a vs := by
            cases strong with
            | true => exact Same.sqt e1.sub h1
            | false => exact h1
          exact .inr ⟨a, vs, rfl, hH, k1 F1 H1 (Ext.refl e1.sub) _ (walks_enumT h1 h2)⟩
        | _ => exact k1.elim
      · cases ha
    · cases ha
  | rev =>
    unfold itArgs at ha
    simp only at ha
    split at ha
    · rename_i x p a pos
      split at ha
      · rename_i c
        cases ha
        obtain ⟨rfl, c2⟩ := c
        obtain ⟨e, rfl, he⟩ := one_arg h
        refine (pi_reversed (hX.gl c2) (hX.no (by decide +kernel)) (pa1 (F0 := F0) (H0 := H0) hX ((hs e).1 rfl) he) (star1 he)).impW fun σ H R ⟨env, F, rs, k⟩ => ?_
        refine ⟨env, F, rs, (gI_one k).imp fun F1 H1 d e1 k1 v r1 => ?_⟩
        cases d with
        | list ds =>
          obtain ⟨a, vs, rfl, h1, h2⟩ := r1.lst e1.sub
          have hH : SqL X.K H1 a vs := by
            cases strong with
            | true => exact e1.sub.seq h1
            | false => exact h1
          exact ⟨a, vs, rfl, hH, k1 F1 H1 (Ext.refl e1.sub) _ (walks_rev h1 h2)⟩
        | _ => exact k1.elim
      · cases ha
    · cases ha
/-- what is walked is no set -/
theorem it_fold {ik : IK} {ia : Es} {tg iter : Expr} {xs : List Expr} {m : Md} (ha : itArgs C ik tg iter = some xs) (h : chks C m ia xs = true) (env : PySem.Env) (v : Value) : foldedSetIterable iter env v = pure v := by
  cases ik with
  | of =>
    cases ha
    obtain ⟨e, rfl, he⟩ := one_arg h
    exact (not_set he).2 env v
  | range =>
    unfold itArgs at ha
    simp only at ha
    split at ha <;> first | rfl | cases ha
  | enum =>
    unfold itArgs at ha
    simp only at ha
    split at ha <;> first | rfl | cases ha
  | rev =>
    unfold itArgs at ha
    simp only at ha
    split at ha <;> first | rfl | cases ha

/-! ### targets -/
/-- all but some slots stay -/
def But (sl : List Nat) (σ σ' : L2.St) : Prop := σ'.length = σ.length ∧ ∀ i : Nat, i ∉ sl → σ'[i]? = σ[i]?
theorem But.trans {a b : List Nat} {σ σ1 σ2 : L2.St} (x : But a σ σ1) (y : But b σ1 σ2) : But (a ++ b) σ σ2 := ⟨y.1.trans x.1, fun i h => by
  rw [List.mem_append, not_or] at h
  rw [y.2 i h.2, x.2 i h.1]⟩
def tG (K : PySem.W.Frag) (F0 H0 : Hp) (sl : List Nat) (g : D → Env → Res Env) : TG := fun v σ H Q => ∃ env F d, RS K F0 H0 F H σ env ∧ Rp K F v d ∧ ∃ env', g d env = .ok env' ∧ ∀ σ', RS K F0 H0 F H σ' env' → But sl σ σ' → Q σ' H
def tGs (K : PySem.W.Frag) (F0 H0 : Hp) (sl : List Nat) (g : List D → Env → Res Env) : TGs := fun vs σ H Q => ∃ env F ds, RS K F0 H0 F H σ env ∧ RpAll K F vs ds ∧ ∃ env', g ds env = .ok env' ∧ ∀ σ', RS K F0 H0 F H σ' env' → But sl σ σ' → Q σ' H
theorem RS.set {K : PySem.W.Frag} {F H : Hp} {σ : L2.St} {env : Env} (r : RS K F0 H0 F H σ env) {i : Nat} {v : V} {d : D} (hi : i < env.length) (h : Rp K F v d) : RS K F0 H0 F H (σ.set i (some v)) (env.set i (some (.val d))) where
  tab0 := r.tab0
  ext := r.ext
  len := by rw [List.length_set, List.length_set]; exact r.len
  val := fun j e q => by
    by_cases hj : i = j
    · subst hj
      rw [List.getElem?_set_self hi] at q
      cases q
      exact ⟨v, by rw [List.getElem?_set_self (by rw [← r.len]; exact hi)], h⟩
    · rw [List.getElem?_set_ne hj] at q ⊢
      exact r.val j e q
  own := fun j e q => by
    by_cases hj : i = j
    · subst hj
      rw [List.getElem?_set_self hi] at q
      cases q
    · rw [List.getElem?_set_ne hj] at q ⊢
      exact r.own j e q
  inj := fun j l e e' a q1 q2 q3 q4 => by
    by_cases hj : i = j
    · subst hj
      rw [List.getElem?_set_self hi] at q1
      cases q1
    · by_cases hl : i = l
      · subst hl
        rw [List.getElem?_set_self hi] at q2
        cases q2
      · rw [List.getElem?_set_ne hj] at q1 q3
        rw [List.getElem?_set_ne hl] at q2 q4
        exact r.inj j l e e' a q1 q2 q3 q4
theorem _root_.L2.PG.impW {tg : Expr} {t t' : TG} (h : PG X tg t) (q : ∀ v σ H Q, t' v σ H Q → t v σ H Q) : PG X tg t' := ⟨fun pins s σ H v u Q I r w => h.run pins s σ H v u Q I r (q v σ H Q w)⟩
theorem _root_.L2.PGs.impW {tg : List Expr} {t t' : TGs} (h : PGs X tg t) (q : ∀ v σ H Q, t' v σ H Q → t v σ H Q) : PGs X tg t' := ⟨fun pins s σ H v u Q I r w => h.run pins s σ H v u Q I r (q v σ H Q w)⟩
theorem asg_each {e : Expr} {es : List Expr} (h : notStar e = true) : (assignEach (e :: es) X.env).map (·.2) = assign e X.env :: (assignEach es X.env).map (·.2) := by
  cases e with
  | Starred _ _ => exact Bool.noConfusion h
  | _ => rfl
theorem asg_each1 {e : Expr} {es : List Expr} (h : notStar e = true) : assignEach (e :: es) X.env = (false, assign e X.env) :: assignEach es X.env := by
  cases e with
  | Starred _ _ => exact Bool.noConfusion h
  | _ => rfl
theorem chkG_notStar {g : G} {x : Expr} (h : chkG C g x = true) : notStar x = true := by
  cases x with
  | Starred a p => cases g <;> exact Bool.noConfusion h
  | _ => rfl
theorem chkGs_each : ∀ {gs : Gs} {es : List Expr}, chkGs C gs es = true → (assignEach es X.env).length = es.length ∧ (assignEach es X.env).findIdx? (·.1) = none
  | .nil, [], _ => ⟨rfl, rfl⟩
  | .cons g gs, e :: es, h => by
    have h' : (chkG C g e && chkGs C gs es) = true := h
    rw [Bool.and_eq_true] at h'
    obtain ⟨a, b⟩ := chkGs_each h'.2
    rw [asg_each1 (chkG_notStar h'.1)]
    refine ⟨by rw [List.length_cons, List.length_cons, a], ?_⟩
    rw [List.findIdx?_cons]
    simp [b]
  | .nil, _ :: _, h => Bool.noConfusion h
  | .cons _ _, [], h => Bool.noConfusion h
theorem gs_len : ∀ {gs : Gs} {ds : List D} {env env' : Env} {es : List Expr}, chkGs C gs es = true → bindGs gs ds env = .ok env' → ds.length = es.length
  | .nil, [], _, _, [], _, _ => rfl
  | .cons g gs, d :: ds, env, env', e :: es, h, q => by
    have h' : (chkG C g e && chkGs C gs es) = true := h
    rw [Bool.and_eq_true] at h'
    have q' : (bindG g d env).bind (fun env1 => bindGs gs ds env1) = .ok env' := q
    cases z : bindG g d env with
    | ok env1 =>
      rw [z] at q'
      rw [List.length_cons, List.length_cons, gs_len h'.2 q']
    | exn c => rw [z] at q'; cases q'
    | stuck => rw [z] at q'; cases q'
  | .nil, _ :: _, _, _, _, _, q => by cases q
  | .nil, [], _, _, _ :: _, h, _ => Bool.noConfusion h
  | .cons _ _, [], _, _, _, _, q => by cases q
  | .cons _ _, _ :: _, _, _, [], h, _ => Bool.noConfusion h
mutual
theorem pg_ok (hX : XOk X C k Φ cs clsA W) : ∀ (g : G) (x : Expr), chkG C g x = true → PG X x (tG X.K F0 H0 (slotsG g) (bindG g))
  | .name i, x, h => by
    cases x with
    | Name x pos =>
      have h' : (decide (C.N[i]? = some x) && C.asn x) = true := h
      rw [Bool.and_eq_true] at h'
      obtain ⟨a1, a2⟩ := hX.asn x h'.2
      refine (pg_name (i := i) (by rw [hX.N]; exact hX.nd) (by rw [hX.N]; exact of_decide_eq_true h'.1) a1 a2).impW fun v σ H Q ⟨env, F, d, rs, r, env', e, q⟩ => ?_
      have e' : need (decide (i < env.length)) (.ok (env.set i (some (.val d)))) = .ok env' := e
      by_cases hi : i < env.length
      · rw [decide_eq_true hi] at e'
        cases e'
        exact q _ (rs.set hi r) ⟨List.length_set, fun j hj => List.getElem?_set_ne (fun z => hj (by rw [z]; exact List.mem_singleton_self _))⟩
      · rw [decide_eq_false hi] at e'
        cases e'
    | _ => exact Bool.noConfusion h
  | .tup gs, x, h => by
    cases x with
    | Tuple es j pos =>
      have h' : chkGs C gs es = true := h
      refine (pg_tup (n := es.length) hX.calm (pgs_ok hX gs es h') (chkGs_each h').1 (chkGs_each h').2).impW fun v σ H Q ⟨env, F, d, rs, r, env', e, q⟩ => ?_
      cases d with
      | tuple ds =>
        cases r with
        | tup r1 r2 =>
          refine ⟨_, _, rfl, Same.sqt rs.ext.sub r1, ?_, env, F, ds, rs, r2, env', e, q⟩
          rw [r2.length]
          exact gs_len h' e
      | _ => cases e
    | _ => exact Bool.noConfusion h
theorem pgs_ok (hX : XOk X C k Φ cs clsA W) : ∀ (gs : Gs) (xs : List Expr), chkGs C gs xs = true → PGs X xs (tGs X.K F0 H0 (slotsGs gs) (bindGs gs))
  | .nil, xs, h => by
    cases xs with
    | nil =>
      refine pgs_nil.impW fun v σ H Q ⟨env, F, d, rs, r, env', e, q⟩ => ?_
      cases d with
      | nil =>
        cases r
        cases e
        exact ⟨rfl, q _ rs ⟨rfl, fun _ _ => rfl⟩⟩
      | cons _ _ => cases e
    | cons _ _ => exact Bool.noConfusion h
  | .cons g gs, xs, h => by
    cases xs with
    | nil => exact Bool.noConfusion h
    | cons x xs =>
      have h' : (chkG C g x && chkGs C gs xs) = true := h
      rw [Bool.and_eq_true] at h'
      refine (pgs_cons (pg_ok hX g x h'.1) (pgs_ok hX gs xs h'.2) (asg_each (chkG_notStar h'.1))).impW fun v σ H Q ⟨env, F, d, rs, r, env', e, q⟩ => ?_
      cases d with
      | nil => cases e
      | cons d ds =>
        cases r with
        | cons r1 r2 =>
          have e' : (bindG g d env).bind (fun env1 => bindGs gs ds env1) = .ok env' := e
          cases z : bindG g d env with
          | ok env1 =>
            rw [z] at e'
            exact ⟨_, _, rfl, env, F, d, rs, r1, env1, z, fun σ' rs' b' => ⟨env1, F, ds, rs', r2, env', e', fun σ2 rs2 b2 => q σ2 rs2 (b'.trans b2)⟩⟩
          | exn c => rw [z] at e'; cases e'
          | stuck => rw [z] at e'; cases e'
end
end
end MW

set_option maxRecDepth 100000
set_option maxHeartbeats 1000000
/-! Part 2j: comprehensions; all expressions. -/
namespace MW
open PySem PySem.Spec PyProof.Rows L2
open Res
variable [Lam]

theorem wipeE_length (env : Env) : ∀ vs : List Nat, (wipeE env vs).length = env.length
  | [] => rfl
  | v :: vs => by unfold wipeE; rw [List.length_set, wipeE_length env vs]
theorem wipeE_some {env : Env} {i : Nat} {x : Slot} : ∀ {vs : List Nat}, (wipeE env vs)[i]? = some (some x) → env[i]? = some (some x) ∧ i ∉ vs
  | [], h => ⟨h, by simp⟩
  | v :: vs, h => by
    unfold wipeE at h
    by_cases hi : v = i
    · subst hi
      by_cases hv : v < (wipeE env vs).length
      · rw [List.getElem?_set_self hv] at h; cases h
      · rw [List.getElem?_eq_none (by simpa using hv)] at h; cases h
    · rw [List.getElem?_set_ne hi] at h
      obtain ⟨h1, h2⟩ := wipeE_some h
      exact ⟨h1, by simp only [List.mem_cons, not_or]; exact ⟨fun e => hi e.symm, h2⟩⟩
theorem wipe_in {σ : L2.St} {i : Nat} : ∀ {vs : List Nat}, i ∈ vs → i < σ.length → (wipe σ vs)[i]? = some none
  | [], h, _ => by cases h
  | v :: vs, h, hl => by
    unfold wipe
    by_cases e : v = i
    · subst e
      rw [List.getElem?_set_self (by rw [wipe_length]; exact hl)]
    · rw [List.getElem?_set_ne e]
      rcases List.mem_cons.mp h with z | z
      · exact absurd z.symm e
      · exact wipe_in z hl
theorem wipe_eq {σ σ' : L2.St} {vs : List Nat} (hl : σ'.length = σ.length) (h : ∀ i : Nat, i ∉ vs → σ'[i]? = σ[i]?) : wipe σ' vs = wipe σ vs := by
  refine List.ext_getElem? fun i => ?_
  by_cases hi : i ∈ vs
  · by_cases hz : i < σ.length
    · rw [wipe_in hi hz, wipe_in hi (by rw [hl]; exact hz)]
    · rw [List.getElem?_eq_none (by rw [wipe_length, hl]; omega), List.getElem?_eq_none (by rw [wipe_length]; omega)]
  · rw [wipe_out hi, wipe_out hi, h i hi]
theorem RS.wipe {K : PySem.W.Frag} {F0 H0 F H : Hp} {σ : L2.St} {env : Env} (r : RS K F0 H0 F H σ env) (vs : List Nat) : RS K F0 H0 F H (L2.wipe σ vs) (wipeE env vs) where
  ext := r.ext
  tab0 := r.tab0
  len := by rw [wipeE_length, wipe_length]; exact r.len
  val := fun i d h => by
    obtain ⟨h1, h2⟩ := wipeE_some h
    obtain ⟨v, h3, h4⟩ := r.val i d h1
    exact ⟨v, by rw [wipe_out h2]; exact h3, h4⟩
  own := fun i d h => by
    obtain ⟨h1, h2⟩ := wipeE_some h
    obtain ⟨a, h3, h4⟩ := r.own i d h1
    exact ⟨a, by rw [wipe_out h2]; exact h3, h4⟩
  inj := fun i j d e a h1 h2 h3 h4 => by
    obtain ⟨q1, q2⟩ := wipeE_some h1
    obtain ⟨q3, q4⟩ := wipeE_some h2
    rw [wipe_out q2] at h3
    rw [wipe_out q4] at h4
    exact r.inj i j d e a q1 q3 h3 h4

/-! ### the turns of a comprehension -/
def oneMore (o : Option D) : List D := match o with
  | some x => [x]
  | none => []
theorem compL_snoc (turn : D → Res (Option D)) : ∀ (xs : List D) (d : D) (o : Option D) (r : List D), compL turn xs = .ok r → turn d = .ok o → compL turn (xs ++ [d]) = .ok (r ++ oneMore o)
  | [], d, o, r, h, q => by
    cases h
    show (turn d).bind (fun o => (compL turn []).bind fun r => .ok (addO o r)) = _
    rw [q]
    cases o <;> rfl
  | x :: xs, d, o, r, h, q => by
    have h' : (turn x).bind (fun o => (compL turn xs).bind fun r => .ok (addO o r)) = .ok r := h
    show (turn x).bind (fun o => (compL turn (xs ++ [d])).bind fun r => .ok (addO o r)) = _
    cases z : turn x with
    | ok o' =>
      rw [z] at h'
      cases z2 : compL turn xs with
      | ok r' =>
        have h2 : Res.ok (addO o' r') = .ok r := by
          have h3 : (compL turn xs).bind (fun r => .ok (addO o' r)) = .ok r := h'
          rw [z2] at h3
          exact h3
        cases h2
        show (compL turn (xs ++ [d])).bind (fun r => .ok (addO o' r)) = _
        rw [compL_snoc turn xs d o r' z2 q]
        cases o' <;> rfl
      | exn c =>
        have h3 : (compL turn xs).bind (fun r => .ok (addO o' r)) = .ok r := h'
        rw [z2] at h3; cases h3
      | stuck =>
        have h3 : (compL turn xs).bind (fun r => .ok (addO o' r)) = .ok r := h'
        rw [z2] at h3; cases h3
    | exn c => rw [z] at h'; cases h'
    | stuck => rw [z] at h'; cases h'
theorem compL_each (turn : D → Res (Option D)) : ∀ (xs : List D) (r : List D), compL turn xs = .ok r → ∀ (i : Nat) (d : D), xs[i]? = some d → ∃ o, turn d = .ok o
  | [], _, _, i, d, h => by simp at h
  | x :: xs, r, h, i, d, hd => by
    have h' : (turn x).bind (fun o => (compL turn xs).bind fun r => .ok (addO o r)) = .ok r := h
    cases z : turn x with
    | ok o' =>
      rw [z] at h'
      cases z2 : compL turn xs with
      | ok r' =>
        cases i with
        | zero => cases hd; exact ⟨o', z⟩
        | succ i => exact compL_each turn xs r' z2 i d hd
      | exn c =>
        have h3 : (compL turn xs).bind (fun r => .ok (addO o' r)) = .ok r := h'
        rw [z2] at h3; cases h3
      | stuck =>
        have h3 : (compL turn xs).bind (fun r => .ok (addO o' r)) = .ok r := h'
        rw [z2] at h3; cases h3
    | exn c => rw [z] at h'; cases h'
    | stuck => rw [z] at h'; cases h'
theorem compL_le (turn : D → Res (Option D)) (xs : List D) : ∀ (n : Nat) (r : List D), compL turn xs = .ok r → ∃ r', compL turn (xs.take n) = .ok r' ∧ r'.length ≤ r.length ∧ (n ≥ xs.length → r' = r)
  | 0, r, h => by
    refine ⟨[], by rw [List.take_zero]; rfl, Nat.zero_le _, fun hn => ?_⟩
    cases xs with
    | nil => cases h; rfl
    | cons _ _ => simp at hn
  | n + 1, r, h => by
    cases xs with
    | nil => cases h; exact ⟨[], rfl, Nat.le_refl _, fun _ => rfl⟩
    | cons x xs =>
      have h' : (turn x).bind (fun o => (compL turn xs).bind fun r => .ok (addO o r)) = .ok r := h
      cases z : turn x with
      | ok o' =>
        rw [z] at h'
        cases z2 : compL turn xs with
        | ok r' =>
          have h2 : Res.ok (addO o' r') = .ok r := by
            have h3 : (compL turn xs).bind (fun r => .ok (addO o' r)) = .ok r := h'
            rw [z2] at h3
            exact h3
          cases h2
          obtain ⟨q, q1, q2, q3⟩ := compL_le turn xs n r' z2
          refine ⟨addO o' q, ?_, ?_, fun hn => ?_⟩
          · show (turn x).bind (fun o => (compL turn (xs.take n)).bind fun r => .ok (addO o r)) = _
            rw [z, q1]; rfl
          · cases o' with
            | some _ => exact Nat.succ_le_succ q2
            | none => exact q2
          · rw [q3 (by simp at hn; omega)]
        | exn c =>
          have h3 : (compL turn xs).bind (fun r => .ok (addO o' r)) = .ok r := h'
          rw [z2] at h3; cases h3
        | stuck =>
          have h3 : (compL turn xs).bind (fun r => .ok (addO o' r)) = .ok r := h'
          rw [z2] at h3; cases h3
      | exn c => rw [z] at h'; cases h'
      | stuck => rw [z] at h'; cases h'
theorem noExn_ok {α : Type} {r : Res α} {a : α} (h : noExn r = .ok a) : r = .ok a := by
  cases r with
  | ok b => exact h
  | exn c => cases h
  | stuck => cases h
theorem noExn_no {α : Type} (r : Res α) (c : Nat) : noExn r ≠ .exn c := by
  cases r with
  | ok b => intro h; cases h
  | exn c => intro h; cases h
  | stuck => intro h; cases h
theorem compL_no {turn : D → Res (Option D)} (ht : ∀ d c, turn d ≠ .exn c) : ∀ (xs : List D) (c : Nat), compL turn xs ≠ .exn c
  | [], c, h => by cases h
  | x :: xs, c, h => by
    have h' : (turn x).bind (fun o => (compL turn xs).bind fun r => .ok (addO o r)) = .exn c := h
    cases z : turn x with
    | ok o' =>
      rw [z] at h'
      have h3 : (compL turn xs).bind (fun r => .ok (addO o' r)) = .exn c := h'
      cases z2 : compL turn xs with
      | ok r' => rw [z2] at h3; cases h3
      | exn c' => exact compL_no ht xs c' z2
      | stuck => rw [z2] at h3; cases h3
    | exn c' => exact ht x c' z
    | stuck => rw [z] at h'; cases h'

section
variable {X : Cx} {C : Cfg} {k : Nat} {Φ : Phi} {cs : Nat → Res D} {clsA : Nat → Addr} {W : Nat → Hp → Prop} {F0 H0 : Hp}
abbrev turnOf (Φ : Phi) (cs : Nat → Res D) (elt : E) (g : G) (cond : Es) (own : List (Str × Nat)) (env : Env) (d : D) : Res (Option D) :=
  noExn ((bindG g d (wipeE env (own.map (·.2)))).bind fun env' => (tsts Φ cs cond env').bind fun k => match k with
    | true => (ev Φ cs elt env').bind fun v => .ok (some v)
    | false => .ok none)
/-- the condition of a comprehension, in its block -/
theorem pts_ok {Y : Cx} {C' : Cfg} (hY : XOk Y C' k Φ cs clsA (fun _ _ => False)) {cond : Es} (hs : SEs cond) {ifs : List Expr}
    (h : (match (generalizing := false) ifs with | [] => chks C' .tst cond [] | [c] => chks C' .tst cond [c] | _ => false) = true) : PTs Y ifs (tT Y.K (fun _ _ => False) F0 H0 (tsts Φ cs cond)) := by
  match ifs, h with
  | [], h =>
    rcases (hs (F0 := F0) (H0 := H0) hY []).2.2 h with ⟨_, rfl⟩ | ⟨x, r, e, r', q, _⟩
    · exact ⟨fun pins s σ H Q I ⟨env, F, rs, k⟩ => pts_nil.run pins s σ H Q I (k F H (Ext.refl rs.ext.sub))⟩
    · cases q
  | [c], h =>
    rcases (hs (F0 := F0) (H0 := H0) hY [c]).2.2 h with ⟨q, _⟩ | ⟨x, r, e, r', q, rfl, pt⟩
    · cases q
    · cases q
      exact ⟨fun pins s σ H Q I w => (pts_one pt).run pins s σ H Q I w⟩
  | _ :: _ :: _, h => exact Bool.noConfusion h
/-- the reading of a comprehension -/
theorem lc_read {ik : IK} {ia : Es} {elt : E} {g : G} {cond : Es} {own : List (Str × Nat)} {σ : L2.St} {H : Hp} {Q : VK} {K : PySem.W.Frag} {env : Env} {F : Hp} (hsl : (slotsG g).all (fun i => decide (i ∈ own.map (·.2))) = true) (rs : RS K F0 H0 F H σ env)
    (kk : KR (fun F1 H1 ds => KR (fun F2 H2 r => r.length ≤ sizeLine ∧ ∀ p F3 H3, Ext F1 H1 F3 H3 → H1 p = none → F3 p = none → (∃ acc, H3 p = some (.lst acc) ∧ RpAll K F3 acc r) → Q (.ref p) H3) W F1 H1 (compL (turnOf Φ cs elt g cond own env) ds)) W F H (gI Φ cs ik ia env)) :
    tLc (tI K W F0 H0 false (gI Φ cs ik ia)) (tG K F0 H0 (slotsG g) (bindG g)) (tT K (fun _ _ => False) F0 H0 (tsts Φ cs cond)) (tE K (fun _ _ => False) F0 H0 (ev Φ cs elt)) (own.map (·.2)) σ H Q := by
  refine ⟨env, F, rs, kk.imp fun F1 H1 ds e1 k1 J wk D hD => ?_⟩
  -- the answer of all turns
  obtain ⟨outs, ho⟩ : ∃ outs, compL (turnOf Φ cs elt g cond own env) ds = .ok outs := by
    cases z : compL (turnOf Φ cs elt g cond own env) ds with
    | ok r => exact ⟨r, rfl⟩
    | exn c => exact absurd z (compL_no (fun d c => noExn_no _ c) ds c)
    | stuck => rw [z] at k1; exact k1.elim
  rw [ho] at k1
  refine ⟨fun i m H' => m = ds.length - i ∧ i ≤ ds.length ∧ ∃ F' acc out, Ext F1 H1 F' H' ∧ F' D = none ∧ H' D = some (.lst acc) ∧ compL (turnOf Φ cs elt g cond own env) (ds.take i) = .ok out ∧ RpAll K F' acc out,
    ⟨ds.length, by simp, Nat.zero_le _, F1, [], [], Ext.fresh e1.sub hD, e1.sub.free hD, upd_same, by rw [List.take_zero]; rfl, .nil⟩, ?_⟩
  rintro i m H' ⟨rfl, hi, F', acc, out, ex, fD, hD', hc, ra⟩
  obtain ⟨w1, w2, w3⟩ := wk F' H' ex.f ex.sub ex.h.keep
  by_cases hlt : i < ds.length
  · have hd : ds[i]? = some ds[i] := by simp [hlt]
    obtain ⟨o, ht⟩ := compL_each _ ds outs ho i _ hd
    have hnext := compL_snoc _ _ _ o out hc ht
    have htk : ds.take i ++ [ds[i]] = ds.take (i + 1) := by rw [List.take_add_one, hd]; rfl
    rw [htk] at hnext
    obtain ⟨r', hr1, hr2, _⟩ := compL_le _ ds (i + 1) outs ho
    rw [hnext] at hr1
    cases hr1
    refine .inr ⟨w1 i hlt, fun H2 => ∃ F2 acc2, Ext F1 H1 F2 H2 ∧ F2 D = none ∧ H2 D = some (.lst acc2) ∧ RpAll K F2 acc2 (out ++ oneMore o), fun H2 ⟨F2, acc2, q1, q2, q3, q4⟩ => ⟨ds.length - (i + 1), by omega, rfl, hlt, F2, acc2, _, q1, q2, q3, hnext, q4⟩, fun x H2 y => ?_⟩
    obtain ⟨F2, ex2, rx⟩ := w3 i _ x H2 hd y
    have rs2 : RS K F0 H0 F2 H2 σ env := (rs.more (e1.trans ex)).more ex2
    have ht' := noExn_ok ht
    -- the target
    cases z1 : bindG g ds[i] (wipeE env (own.map (·.2))) with
    | exn c => rw [z1] at ht'; cases ht'
    | stuck => rw [z1] at ht'; cases ht'
    | ok env' =>
      rw [z1] at ht'
      replace ht' : (tsts Φ cs cond env').bind (fun k => match k with | true => (ev Φ cs elt env').bind fun v => .ok (some v) | false => .ok none) = .ok o := ht'
      have stay : ∀ {F3 H3 : Hp}, Ext F2 H2 F3 H3 → F3 D = none ∧ H3 D = some (.lst acc) := fun {F3 H3} e3 => by
        have h2 : H2 D = some (.lst acc) := ex2.h.lst hD'
        have f2 : F2 D = none := by
          cases q : F2 D with
          | none => rfl
          | some o =>
            rcases ex2.new D o q with z | z
            · rw [fD] at z; cases z
            · rw [hD'] at z; cases z
        refine ⟨?_, e3.h.lst h2⟩
        cases q : F3 D with
        | none => rfl
        | some o =>
          rcases e3.new D o q with z | z
          · rw [f2] at z; cases z
          · rw [h2] at z; cases z
      refine ⟨_, F2, _, rs2.wipe (own.map (·.2)), rx, env', z1, fun σ2 rs3 but => ⟨?_, ?_⟩⟩
      · -- the slots outside stay
        have hsub : ∀ j, j ∈ slotsG g → j ∈ own.map (·.2) := fun j hj => by
          have := List.all_eq_true.mp hsl j hj
          exact of_decide_eq_true this
        have e0 : wipe σ2 (own.map (·.2)) = wipe (wipe σ (own.map (·.2))) (own.map (·.2)) := wipe_eq but.1 fun j hj => but.2 j fun z => hj (hsub j z)
        rw [e0]
        exact wipe_eq (wipe_length _ _) fun j hj => wipe_out hj
      · refine ⟨env', F2, rs3, ?_⟩
        cases z2 : tsts Φ cs cond env' with
        | exn c => rw [z2] at ht'; cases ht'
        | stuck => rw [z2] at ht'; cases ht'
        | ok b =>
          rw [z2] at ht'
          refine fun F3 H3 e3 => ?_
          cases b with
          | false =>
            replace ht' : Res.ok none = Res.ok o := ht'
            cases ht'
            obtain ⟨f3, h3⟩ := stay e3
            refine iteF ⟨F3, acc, (ex.trans ex2).trans e3, f3, h3, ?_⟩
            show RpAll K F3 acc (out ++ [])
            rw [List.append_nil]
            exact (ra.mono ex2.f).mono e3.f
          | true =>
            replace ht' : (ev Φ cs elt env').bind (fun v => .ok (some v)) = .ok o := ht'
            refine iteT ⟨env', F3, rs3.more e3, ?_⟩
            cases z3 : ev Φ cs elt env' with
            | exn c => rw [z3] at ht'; cases ht'
            | stuck => rw [z3] at ht'; cases ht'
            | ok dv =>
              rw [z3] at ht'
              cases ht'
              refine fun F4 H4 e4 v rv => ?_
              obtain ⟨f4, h4⟩ := stay (e3.trans e4)
              have hz : acc.length < sizeLine := by
                have h1 := ra.length
                have h2 : (out ++ oneMore (some dv)).length = out.length + 1 := by
                  rw [List.length_append]; rfl
                have h3 : outs.length ≤ sizeLine := (k1 F1 H1 (Ext.refl e1.sub)).1
                omega
              refine ⟨acc, h4, hz, F4, acc ++ [v], ?_, f4, upd_same, RpAll.append (((ra.mono ex2.f).mono e3.f).mono e4.f) (.cons rv .nil)⟩
              have ex4 := ((ex.trans ex2).trans e3).trans e4
              refine ⟨ex4.f, ⟨fun b u q nt => ?_, fun b ps q => ?_, fun t => (ex4.h.ok t).put h4 (fun _ z => by cases z) (fun _ z => by cases z) fun _ z => by cases z⟩, fun b u q => ?_, ex4.new⟩
              · rw [upd_ne (ne_of_none q hD)]
                exact ex4.h.keep b u q nt
              · rw [upd_ne (ne_of_none q hD)]
                exact ex4.h.tb b ps q
              · rw [upd_ne (ne_of_none q f4)]
                exact ex4.sub b u q
  · have e : i = ds.length := by omega
    subst e
    rw [List.take_length, ho] at hc
    cases hc
    exact .inl ⟨w2, (k1 F1 H1 (Ext.refl e1.sub)).2 D F' H' ex hD fD ⟨acc, hD', ra⟩⟩
/-- the list of a comprehension, laid for good -/
theorem lc_done {K : PySem.W.Frag} {F1 H1 F3 H3 : Hp} {p : Addr} {acc : List V} {r : List D} {Q : VK} (e1 : Same F1 H1) (ex : Ext F1 H1 F3 H3) (n : H1 p = none) (f3 : F3 p = none) (h3 : H3 p = some (.lst acc)) (ra : RpAll K F3 acc r)
    (q : KE K W F1 H1 (.ok (PyData.list r)) Q) : Q (.ref p) H3 := by
  refine q (upd F3 p (.lst acc)) H3 ⟨ex.f.trans (same_upd f3), ex.h, fun b u z => ?_, fun b u z => ?_⟩ _ (.lst (.inl upd_rd) (ra.mono (same_upd f3)))
  · by_cases hb : b = p
    · subst hb; rw [upd_same] at z; cases z; exact h3
    · rw [upd_ne hb] at z; exact ex.sub b u z
  · by_cases hb : b = p
    · subst hb; exact .inr n
    · rw [upd_ne hb] at z; exact ex.new b u z
theorem comp_split {elt elt' : E} {g : G} {ik : IK} {ia cond : Es} {own : List (Str × Nat)} {m : Md} {x : Expr} (h : chk C m (.comp elt g ik ia cond own) x = true) :
    ∃ el tg iter ifs scope pos xs, x = .ListComp el [⟨tg, iter, ifs, 0⟩] scope pos ∧ blkC C.N C.sc scope own = true ∧ chkG (C.inner scope) g tg = true ∧ (slotsG g).all (fun i => decide (i ∈ own.map (·.2))) = true ∧ itArgs C ik tg iter = some xs ∧ chks C .opd ia xs = true ∧
      (match (generalizing := false) ifs with | [] => chks (C.inner scope) .tst cond [] | [c] => chks (C.inner scope) .tst cond [c] | _ => false) = true ∧ chk (C.inner scope) .val elt el = true := by
  cases x with
  | ListComp el gs scope pos =>
    match gs, h with
    | [⟨tg, iter, ifs, n⟩], h =>
      by_cases hn : n = 0
      · subst hn
        have h' : (blkC C.N C.sc scope own && chkG (C.inner scope) g tg && (slotsG g).all (fun i => decide (i ∈ own.map (·.2))) && (match (generalizing := false) itArgs C ik tg iter with | some xs => chks C .opd ia xs | none => false) &&
          (match (generalizing := false) ifs with | [] => chks (C.inner scope) .tst cond [] | [c] => chks (C.inner scope) .tst cond [c] | _ => false) && chk (C.inner scope) .val elt el) = true := h
        rw [Bool.and_eq_true, Bool.and_eq_true, Bool.and_eq_true, Bool.and_eq_true, Bool.and_eq_true] at h'
        obtain ⟨⟨⟨⟨⟨h1, h2⟩, h3⟩, h4⟩, h5⟩, h6⟩ := h'
        cases q : itArgs C ik tg iter with
        | none => rw [q] at h4; exact Bool.noConfusion h4
        | some xs =>
          rw [q] at h4
          exact ⟨el, tg, iter, ifs, scope, pos, xs, rfl, h1, h2, h3, q, h4, h5, h6⟩
      · have h' : chk C m (.comp elt g ik ia cond own) (.ListComp el [⟨tg, iter, ifs, n⟩] scope pos) = false := by
          unfold chk
          split <;> first | rfl | (rename_i q; cases q; exact absurd rfl hn) | (simp_all)
        rw [h'] at h
        exact Bool.noConfusion h
    | [], h => exact Bool.noConfusion h
    | ⟨t1, i1, f1, n1⟩ :: g2 :: r, h =>
      have h' : chk C m (.comp elt g ik ia cond own) (.ListComp el (⟨t1, i1, f1, n1⟩ :: g2 :: r) scope pos) = false := by
        unfold chk
        split <;> first | rfl | (rename_i q; cases q) | (simp_all)
      rw [h'] at h
      exact Bool.noConfusion h
  | _ => exact Bool.noConfusion h
/-- what stands ahead of the reading of a comprehension -/
theorem comp_kk {elt : E} {g : G} {ik : IK} {ia cond : Es} {own : List (Str × Nat)} {K : PySem.W.Frag} {F H : Hp} {env : Env} {Q : VK} (k : KE K W F H (ev Φ cs (.comp elt g ik ia cond own) env) Q) :
    KR (fun F1 H1 ds => KR (fun F2 H2 r => r.length ≤ sizeLine ∧ ∀ p F3 H3, Ext F1 H1 F3 H3 → H1 p = none → F3 p = none → (∃ acc, H3 p = some (.lst acc) ∧ RpAll K F3 acc r) → Q (.ref p) H3) W F1 H1 (compL (turnOf Φ cs elt g cond own env) ds)) W F H (gI Φ cs ik ia env) := by
  have e0 : ev Φ cs (.comp elt g ik ia cond own) env = (gI Φ cs ik ia env).bind fun xs => (compL (turnOf Φ cs elt g cond own env) xs).bind fun r => need (fitsZ r.length) (.ok (PyData.list r)) := by
    show (evs Φ cs ia env).bind (fun ds => (iterD ik ds).bind fun xs => (compL (turnOf Φ cs elt g cond own env) xs).bind fun r => need (fitsZ r.length) (.ok (PyData.list r))) = _
    unfold gI
    rw [bind_assoc]
  rw [e0] at k
  refine (KR.bind k).imp fun F1 H1 ds e1 k1 => ?_
  cases z : compL (turnOf Φ cs elt g cond own env) ds with
  | exn c => rw [z] at k1; exact k1
  | stuck => rw [z] at k1; exact k1.elim
  | ok r =>
    rw [z] at k1
    obtain ⟨hz, k2⟩ := KR.need (show KR _ W F1 H1 (need (fitsZ r.length) (.ok (PyData.list r))) from k1)
    exact fun F2 H2 e2 => ⟨fits_le hz, fun p F3 H3 ex n f3 ⟨acc, h3, ra⟩ => lc_done e1.sub ex n f3 h3 ra k2⟩
theorem tst_comp (elt : E) (g : G) (ik : IK) (ia cond : Es) (own : List (Str × Nat)) (env : Env) : tst Φ cs (.comp elt g ik ia cond own) env = (ev Φ cs (.comp elt g ik ia cond own) env).bind truD := by
  show (evs Φ cs ia env).bind (fun ds => (iterD ik ds).bind fun xs => (compL (turnOf Φ cs elt g cond own env) xs).bind fun r => need (fitsZ r.length) (.ok (!r.isEmpty))) =
    ((evs Φ cs ia env).bind (fun ds => (iterD ik ds).bind fun xs => (compL (turnOf Φ cs elt g cond own env) xs).bind fun r => need (fitsZ r.length) (.ok (PyData.list r)))).bind truD
  rw [bind_assoc]
  congr 1
  funext ds
  rw [bind_assoc]
  congr 1
  funext xs
  rw [bind_assoc]
  congr 1
  funext r
  cases fitsZ r.length <;> rfl
end
theorem se_comp {elt : E} {g : G} {ik : IK} {ia cond : Es} {own : List (Str × Nat)} (he : SE elt) (hi : SIt ia) (hc : SEs cond) : SE (.comp elt g ik ia cond own) := by
  refine se_truth (fun {X C k Φ cs clsA W F0 H0} hX m x h => ?_) fun Φ cs env => tst_comp elt g ik ia cond own env
  obtain ⟨el, tg, iter, ifs, scope, pos, xs, rfl, h1, h2, h3, h4, h5, h6, h7⟩ := comp_split (elt' := elt) h
  refine ⟨(pe_lc hX.calm (by rw [hX.N]; exact hX.nd) (pi_of (F0 := F0) (H0 := H0) (strong := false) hX hi h4 h5) (blkOk_by (by rw [hX.N, hX.sc]; exact h1))
    (fun s H A cl fp => pg_ok (F0 := F0) (H0 := H0) (hX.inner scope s H A cl fp) g tg h2) (fun s H A cl fp => pts_ok (F0 := F0) (H0 := H0) (hX.inner scope s H A cl fp) hc h6)
    (fun s H A cl fp => (he (F0 := F0) (H0 := H0) (hX.inner scope s H A cl fp) el).1 h7) (fun v => it_fold h4 h5 X.env v)).impW fun σ H Q ⟨env, F, rs, k⟩ => lc_read h3 rs (comp_kk k), fun _ => rfl⟩
theorem se_none {e : E} (h : ∀ C m x, chk C m e x = false) : SE e := by
  intro X C k Φ cs clsA W F0 H0 hX x
  exact ⟨fun q => by rw [h] at q; exact Bool.noConfusion q, fun q => by rw [h] at q; exact Bool.noConfusion q, fun q => by rw [h] at q; exact Bool.noConfusion q⟩
mutual
theorem se_all : ∀ e : E, SE e
  | .var i => se_var i
  | .own i => se_own i
  | .cst c => se_cst c
  | .glob j => se_glob j
  | .tup es => se_tup (ses_all es)
  | .lst es => se_lst (ses_all es)
  | .dic0 => se_dic0
  | .bin _ a b => se_bin (se_all a) (se_all b)
  | .mulL _ b => se_mulL (se_all b)
  | .neg a => se_neg (se_all a)
  | .cmp _ a b => se_cmp (se_all a) (se_all b)
  | .chain _ _ a b c => se_chain (se_all a) (se_all b) (se_all c)
  | .and a b => se_and (se_all a) (se_all b)
  | .or a b => se_or (se_all a) (se_all b)
  | .not a => se_not (se_all a)
  | .ife t a b => se_ife (se_all t) (se_all a) (se_all b)
  | .ix a b => se_ix (se_all a) (se_all b)
  | .slc a lo hi => se_slc (se_all a) (se_all lo) (se_all hi)
  | .abs => se_none fun C m x => by cases x <;> rfl
  | .slc3 a _ => se_slc3 (se_all a)
  | .chain3 _ _ _ a b c d => se_chain3 (se_all a) (se_all b) (se_all c) (se_all d)
  | .call _ es => se_call (ses_all es)
  | .blt _ es => se_blt (ses_all es)
  | .isi a tys => se_isi (se_all a)
  | .lenset a => se_lenset (se_all a)
  | .rep a b => se_rep (se_all a) (se_all b)
  | .sortk a key p => se_sortk (se_all a) (se_all key)
  | .comp elt g ik ia cond own => se_comp (se_all elt) (sit_all ia) (ses_all cond)
  | .meth _ o a => se_meth (se_all o) (se_all a)
theorem ses_all : ∀ es : Es, SEs es
  | .nil => ses_nil
  | .cons e es => ses_cons (se_all e) (ses_all es)
theorem sit_all : ∀ es : Es, SIt es
  | .nil => fun e => ⟨fun h => (by cases h), fun f h => (by cases h)⟩
  | .cons e .nil => fun e' => ⟨fun h => (by cases h; exact se_all e), fun f h => (by cases h)⟩
  | .cons e (.cons f .nil) => fun e' => ⟨fun h => (by cases h), fun f' h => (by cases h; exact ⟨se_all e, se_all f⟩)⟩
  | .cons _ (.cons _ (.cons _ _)) => fun e => ⟨fun h => (by cases h), fun f h => (by cases h)⟩
end
end MW

set_option maxRecDepth 100000
set_option maxHeartbeats 1000000
/-! Part 2k: statements. -/
namespace MW
open PySem PySem.Spec PyProof.Rows L2
open Res
variable [Lam]

section
variable (K : PySem.W.Frag) (W : Nat → Hp → Prop) (F0 H0 : Hp)
def KS (D : Ends) (F : Hp) (r : Res Fl) : Prop := match r with
  | .ok (.next env') => ∀ σ' F' H', RS K F0 H0 F' H' σ' env' → Same F F' → D.nx σ' H'
  | .ok (.ret d) => ∀ v F' H', Ext F0 H0 F' H' → Same F F' → Rp K F' v d → D.rt v H'
  | .ok (.brk env') => ∀ σ' F' H', RS K F0 H0 F' H' σ' env' → Same F F' → D.bk σ' H'
  | .ok (.cnt env') => ∀ σ' F' H', RS K F0 H0 F' H' σ' env' → Same F F' → D.ct σ' H'
  | .exn c => ∀ F' H', Ext F0 H0 F' H' → Same F F' → W c H'
  | .stuck => False
def tS (g : Env → Res Fl) : TS := fun D σ H => ∃ env F, RS K F0 H0 F H σ env ∧ KS K W F0 H0 D F (g env)
end
section
variable {K : PySem.W.Frag} {W : Nat → Hp → Prop} {F0 H0 F H : Hp} {Dn : Ends} {σ : L2.St} {env : Env}
theorem KS.mono {F1 : Hp} {r : Res Fl} (k : KS K W F0 H0 Dn F r) (s : Same F F1) : KS K W F0 H0 Dn F1 r := by
  cases r with
  | ok f =>
    cases f with
    | next env' => exact fun σ' F' H' a b => k σ' F' H' a (s.trans b)
    | ret d => exact fun v F' H' a b c => k v F' H' a (s.trans b) c
    | brk env' => exact fun σ' F' H' a b => k σ' F' H' a (s.trans b)
    | cnt env' => exact fun σ' F' H' a b => k σ' F' H' a (s.trans b)
  | exn c => exact fun F' H' a b => k F' H' a (s.trans b)
  | stuck => exact k
theorem KS.bind {α : Type} {r : Res α} {f : α → Res Fl} (rs : RS K F0 H0 F H σ env) (k : KS K W F0 H0 Dn F (r.bind f)) : KR (fun F1 _ a => KS K W F0 H0 Dn F1 (f a)) W F H r := by
  cases r with
  | ok a => exact fun F1 H1 e1 => KS.mono k e1.f
  | exn c => exact fun F1 H1 e1 => k F1 H1 (rs.ext.trans e1) e1.f
  | stuck => exact k
theorem KS.need {b : Bool} {r : Res Fl} (k : KS K W F0 H0 Dn F (need b r)) : b = true ∧ KS K W F0 H0 Dn F r := by
  cases b with
  | true => exact ⟨rfl, k⟩
  | false => exact k.elim
theorem KS.no {C : Prop} (k : KS K W F0 H0 Dn F .stuck) : C := False.elim k
/-- a fresh object that may be written yet, in a slot -/
theorem RS.setOwn {i : Nat} {p : Addr} {o : HO} {d : D} (r : RS K F0 H0 F H σ env) (hi : i < env.length) (n : H p = none) (h : OwnAt K F (upd H p o) p d) (nt : ∀ ps, o ≠ .tbl ps := by intro _ z; cases z) : RS K F0 H0 F (upd H p o) (σ.set i (some (.ref p))) (env.set i (some (.own d))) := by
  have r2 := r.more (Ext.fresh (o := o) r.ext.sub n nt)
  have hl : i < σ.length := by rw [← r.len]; exact hi
  refine ⟨r2.ext, r2.tab0, by rw [List.length_set, List.length_set]; exact r.len, fun j e q => ?_, fun j e q => ?_, fun j l e e' a q1 q2 q3 q4 => ?_⟩
  · by_cases hj : i = j
    · subst hj
      rw [List.getElem?_set_self hi] at q
      cases q
    · rw [List.getElem?_set_ne hj] at q ⊢
      exact r2.val j e q
  · by_cases hj : i = j
    · subst hj
      rw [List.getElem?_set_self hi] at q
      cases q
      exact ⟨p, by rw [List.getElem?_set_self hl], r.ext.sub.free n, r.ext.h.free n, h⟩
    · rw [List.getElem?_set_ne hj] at q ⊢
      exact r2.own j e q
  · have old : ∀ (m : Nat) (x : D) (b : Addr), i ≠ m → (env.set i (some (.own d)))[m]? = some (some (Slot.own x)) → (σ.set i (some (.ref p)))[m]? = some (some (.ref b)) → b ≠ p := fun m x b hm z1 z2 => by
      rw [List.getElem?_set_ne hm] at z1 z2
      obtain ⟨b', y1, _, _, y2⟩ := r.own m x z1
      rw [y1] at z2
      cases z2
      obtain ⟨o', y3⟩ := y2.tracked
      exact ne_of_none y3 n
    by_cases hj : i = j
    · by_cases hl2 : i = l
      · rw [← hj, ← hl2]
      · subst hj
        rw [List.getElem?_set_self hl] at q3
        cases q3
        exact absurd rfl (old l e' p hl2 q2 q4)
    · by_cases hl2 : i = l
      · subst hl2
        rw [List.getElem?_set_self hl] at q4
        cases q4
        exact absurd rfl (old j e p hj q1 q3)
      · rw [List.getElem?_set_ne hj] at q1 q3
        rw [List.getElem?_set_ne hl2] at q2 q4
        exact r.inj j l e e' a q1 q2 q3 q4
/-- what may be written is written -/
theorem RS.write {i : Nat} {a : Addr} {o : HO} {d d' : D} (r : RS K F0 H0 F H σ env) (hi : env[i]? = some (some (Slot.own d))) (ha : σ[i]? = some (some (.ref a))) (h : OwnAt K F (upd H a o) a d') (nt : ∀ ps, o ≠ .tbl ps := by intro _ z; cases z) : RS K F0 H0 F (upd H a o) σ (env.set i (some (.own d'))) := by
  obtain ⟨a', y1, y2, y3, y4⟩ := r.own i d hi
  rw [ha] at y1
  cases y1
  have hlt : i < env.length := (List.getElem?_eq_some_iff.mp hi).1
  have put : TabG H → TabG (upd H a o) := fun t => by
    rcases y4 with ⟨xs, ds, p1, p2, p3⟩ | ⟨xs, ds, p1, p2, p3⟩
    · exact t.put p2 (fun _ z => by cases z) (fun _ z => by cases z) nt
    · exact t.put p2 (fun _ z => by cases z) (fun _ z => by cases z) nt
  refine ⟨⟨r.ext.f, ⟨fun b u q n => ?_, fun b ps q => ?_, fun t => put (r.ext.h.ok t)⟩, fun b u q => ?_, r.ext.new⟩, r.tab0, by rw [List.length_set]; exact r.len, fun j e q => ?_, fun j e q => ?_, fun j l e e' b q1 q2 q3 q4 => ?_⟩
  · rw [upd_ne (ne_of_none q y3)]; exact r.ext.h.keep b u q n
  · rw [upd_ne (ne_of_none q y3)]; exact r.ext.h.tb b ps q
  · rw [upd_ne (ne_of_none q y2)]; exact r.ext.sub b u q
  · by_cases hj : i = j
    · subst hj
      rw [List.getElem?_set_self hlt] at q
      cases q
    · rw [List.getElem?_set_ne hj] at q
      exact r.val j e q
  · by_cases hj : i = j
    · subst hj
      rw [List.getElem?_set_self hlt] at q
      cases q
      exact ⟨a, ha, y2, y3, h⟩
    · rw [List.getElem?_set_ne hj] at q
      obtain ⟨b, z1, z2, z3, z4⟩ := r.own j e q
      refine ⟨b, z1, z2, z3, ?_⟩
      have hb : b ≠ a := fun z => hj (r.inj i j d e a hi q ha (by rw [← z]; exact z1))
      rcases z4 with ⟨xs, ds, p1, p2, p3⟩ | ⟨xs, ds, p1, p2, p3⟩
      · exact .inl ⟨xs, ds, p1, by rw [upd_ne hb]; exact p2, p3⟩
      · exact .inr ⟨xs, ds, p1, by rw [upd_ne hb]; exact p2, p3⟩
  · have back : ∀ (m : Nat) (x : D), (env.set i (some (.own d')))[m]? = some (some (Slot.own x)) → ∃ x', env[m]? = some (some (Slot.own x')) := fun m x z => by
      by_cases hm : i = m
      · subst hm; exact ⟨d, hi⟩
      · rw [List.getElem?_set_ne hm] at z; exact ⟨x, z⟩
    obtain ⟨x1, w1⟩ := back j e q1
    obtain ⟨x2, w2⟩ := back l e' q2
    exact r.inj j l x1 x2 b w1 w2 q3 q4
/-- what may be written is let be -/
theorem RS.freeze {i : Nat} {d : D} (r : RS K F0 H0 F H σ env) (hi : env[i]? = some (some (Slot.own d))) : ∃ F', RS K F0 H0 F' H σ (env.set i (some (.val d))) ∧ Same F F' := by
  obtain ⟨a, y1, y2, y3, y4⟩ := r.own i d hi
  obtain ⟨o, ho⟩ := y4.tracked
  have hlt : i < env.length := (List.getElem?_eq_some_iff.mp hi).1
  have sF : Same F (upd F a o) := same_upd y2
  refine ⟨upd F a o, ⟨⟨r.ext.f.trans sF, r.ext.h, fun b u q => ?_, fun b u q => ?_⟩, r.tab0, by rw [List.length_set]; exact r.len, fun j e q => ?_, fun j e q => ?_, fun j l e e' b q1 q2 q3 q4 => ?_⟩, sF⟩
  · by_cases hb : b = a
    · subst hb; rw [upd_same] at q; cases q; exact ho
    · rw [upd_ne hb] at q; exact r.ext.sub b u q
  · by_cases hb : b = a
    · subst hb; exact .inr y3
    · rw [upd_ne hb] at q; exact r.ext.new b u q
  · by_cases hj : i = j
    · subst hj
      rw [List.getElem?_set_self hlt] at q
      cases q
      refine ⟨_, y1, ?_⟩
      rcases y4 with ⟨xs, ds, rfl, p2, p3⟩ | ⟨xs, ds, rfl, p2, p3⟩
      · rw [p2] at ho; cases ho
        exact .lst (.inl upd_rd) (p3.mono sF)
      · rw [p2] at ho; cases ho
        exact .dic upd_same (p3.mono sF)
    · rw [List.getElem?_set_ne hj] at q
      obtain ⟨v, z1, z2⟩ := r.val j e q
      exact ⟨v, z1, z2.mono sF⟩
  · by_cases hj : i = j
    · subst hj
      rw [List.getElem?_set_self hlt] at q
      cases q
    · rw [List.getElem?_set_ne hj] at q
      obtain ⟨b, z1, z2, z3, z4⟩ := r.own j e q
      have hb : b ≠ a := fun z => hj (r.inj i j d e a hi q y1 (by rw [← z]; exact z1))
      refine ⟨b, z1, by rw [upd_ne hb]; exact z2, z3, ?_⟩
      rcases z4 with ⟨xs, ds, p1, p2, p3⟩ | ⟨xs, ds, p1, p2, p3⟩
      · exact .inl ⟨xs, ds, p1, p2, p3.mono sF⟩
      · exact .inr ⟨xs, ds, p1, p2, p3.mono sF⟩
  · by_cases hj : i = j
    · subst hj
      rw [List.getElem?_set_self hlt] at q1
      cases q1
    · by_cases hl : i = l
      · subst hl
        rw [List.getElem?_set_self hlt] at q2
        cases q2
      · rw [List.getElem?_set_ne hj] at q1
        rw [List.getElem?_set_ne hl] at q2
        exact r.inj j l e e' b q1 q2 q3 q4
end

/-! ### what stands around statements -/
/-- the exception classes, as a try asks of them -/
structure TryOk (K : PySem.W.Frag) (mg : Str → Option Value) (clsN : List Str) (clsA : Nat → Addr) : Prop where
  nm : ∀ c x, clsN[c]? = some x → mg x = some (.ref (clsA c))
  exc : ∀ c, c < clsN.length → ExcC K (clsA c)
  self : ∀ c, c < clsN.length → PySem.W.exmOne K (.ref (clsA c)) (.ref (clsA c)) = some true
  top : ∀ c, c < clsN.length → ∃ wa, mg "WordError" = some (.ref wa) ∧ PySem.W.exmOne K (.ref (clsA c)) (.ref wa) = some true
  one : ∀ c, c < clsN.length → PySem.W.kitOne K (.ref (clsA c)) (.ref (clsA c)) = some true ∧ PySem.W.kitOne K (.ref (clsA c)) (.type "ValueError") = some true
  oth : ∀ c c2 c3, c < clsN.length → c2 < clsN.length → c3 < clsN.length → c2 ≠ c → c3 ≠ c → PySem.W.kitAny K (.ref (clsA c)) [.ref (clsA c2), .ref (clsA c3)] = some false
  ve : 0 < clsN.length → mg "ValueError" = none
theorem try_nil {K : PySem.W.Frag} {mg : Str → Option Value} {clsA : Nat → Addr} : TryOk K mg [] clsA := ⟨fun c x h => by simp at h, fun c h => absurd h (Nat.not_lt_zero c), fun c h => absurd h (Nat.not_lt_zero c), fun c h => absurd h (Nat.not_lt_zero c), fun c h => absurd h (Nat.not_lt_zero c), fun c _ _ h => absurd h (Nat.not_lt_zero c), fun h => absurd h (Nat.not_lt_zero 0)⟩
structure SOk (X : Cx) (C : Cfg) (k : Nat) (Φ : Phi) (cs : Nat → Res D) (clsN : List Str) (clsA : Nat → Addr) (W : Nat → Hp → Prop) : Prop where
  x : XOk X C k Φ cs clsA W
  own : PassesOwn (model X.prog X.w) X.A X.env X.xe
  cls : ∀ c x, clsN[c]? = some x → ∀ X' : Cx, X'.K = X.K → X'.mg = X.mg → Gl X' x → ∀ (m : Str) (j : Nat) (p p2 pos : Pos), PMk X' (.Call (.Name x p) [.Constant (.str m) j p2] [] pos) (fun _ H Q => Q (.ref (clsA c)) none H)
  stk : X.stack = X.env :: X.outer
  frm : X.env.frame = some X.env.locals
  tr : TryOk X.K X.mg clsN clsA

section
variable {X : Cx} {C : Cfg} {k : Nat} {Φ : Phi} {cs : Nat → Res D} {clsN : List Str} {clsA : Nat → Addr} {W : Nat → Hp → Prop} {F0 H0 : Hp}
theorem _root_.L2.PS.impW {st : Stmt} {t t' : TS} (h : PS X st t) (q : ∀ D σ H, t' D σ H → t D σ H) : PS X st t' := ⟨fun pins s σ H D I w => h.run pins s σ H D I (q D σ H w)⟩
theorem _root_.L2.PSs.impW {st : List Stmt} {t t' : TS} (h : PSs X st t) (q : ∀ D σ H, t' D σ H → t D σ H) : PSs X st t' := ⟨fun pins s σ H D I w => h.run pins s σ H D I (q D σ H w)⟩
def isComp : E → Bool
  | .comp _ _ _ _ _ _ => true
  | _ => false
theorem no_swap {m : Md} {e : E} {x : Expr} {t : Option Expr} {l : Nat} {env : PySem.Env} (h : chk C m e x = true) (hc : isComp e = false) : swapsWith x t l env = pure false := by
  cases x with
  | ListComp a b c d =>
    cases e with
    | isi a tys =>
      cases tys with
      | nil => exact Bool.noConfusion h
      | cons t r => cases r <;> exact Bool.noConfusion h
    | comp _ _ _ _ _ _ => exact Bool.noConfusion hc
    | _ => exact Bool.noConfusion h
  | SetComp a b c d =>
    cases e with
    | isi a tys =>
      cases tys with
      | nil => exact Bool.noConfusion h
      | cons t r => cases r <;> exact Bool.noConfusion h
    | _ => exact Bool.noConfusion h
  | DictComp a b c d f =>
    cases e with
    | isi a tys =>
      cases tys with
      | nil => exact Bool.noConfusion h
      | cons t r => cases r <;> exact Bool.noConfusion h
    | _ => exact Bool.noConfusion h
  | _ => rfl
theorem asg_read {i : Nat} {e : E} {D : Ends} {σ : L2.St} {H F : Hp} {env : Env} {K : PySem.W.Frag} (rs : RS K F0 H0 F H σ env) (k : KS K W F0 H0 D F (ex Φ cs (.asg i e) env)) : tAsg (tE K W F0 H0 (ev Φ cs e)) (gName i) D σ H := by
  refine ⟨env, F, rs, (KS.bind rs k).imp fun F1 H1 d e1 k1 v r1 => ?_⟩
  replace k1 : KS K W F0 H0 D F1 ((need (decide (i < env.length)) (.ok (env.set i (some (.val d))))).bind fun env' => .ok (.next env')) := k1
  by_cases hi : i < env.length
  · rw [decide_eq_true hi] at k1
    exact k1 _ F1 H1 ((rs.more e1).set hi r1) (Same.refl F1)
  · rw [decide_eq_false hi] at k1
    exact KS.no k1
theorem ps_asg_ok (h : SOk X C k Φ cs clsN clsA W) {i : Nat} {e : E} {st : Stmt} (q : chkS C clsN (.asg i e) st = true) : PS X st (tS X.K W F0 H0 (ex Φ cs (.asg i e))) := by
  cases st with
  | Assign ts v pos =>
    cases ts with
    | nil => exact Bool.noConfusion q
    | cons t r =>
      cases t with
      | Name x px =>
        cases r with
        | cons _ _ => exact Bool.noConfusion q
        | nil =>
            have q' : (decide (C.N[i]? = some x) && C.asn x && chk C .val e v) = true := q
            rw [Bool.and_eq_true, Bool.and_eq_true] at q'
            obtain ⟨⟨q1, q2⟩, q3⟩ := q'
            obtain ⟨a1, a2⟩ := h.x.asn x q2
            have hN : X.N.Nodup := by rw [h.x.N]; exact h.x.nd
            have hi : X.N[i]? = some x := by rw [h.x.N]; exact of_decide_eq_true q1
            have pe := (se_all e (F0 := F0) (H0 := H0) h.x v).1 q3
            by_cases hc : isComp e = true
            · cases e with
              | comp elt g ik ia cond own =>
                obtain ⟨el, tg, iter, ifs, scope, cpos, xs, rfl, h1, h2, h3, h4, h5, h6, h7⟩ := comp_split (elt' := elt) q3
                have sw : ∀ l, swapsWith (.ListComp el [⟨tg, iter, ifs, 0⟩] scope cpos) (some (.Name x px)) l X.env = pure (X.env.blockKind == .function && X.env.kindOf x == some .local && px.line == (Expr.ListComp el [⟨tg, iter, ifs, 0⟩] scope cpos).pos.line
                    && !(scope.names.any fun (n, k) => n == x && (k == .local || k == .cell))) := fun l => rfl
                cases z : (X.env.blockKind == .function && X.env.kindOf x == some .local && px.line == (Expr.ListComp el [⟨tg, iter, ifs, 0⟩] scope cpos).pos.line && !(scope.names.any fun (n, k) => n == x && (k == .local || k == .cell))) with
                | true =>
                  have hl : X.env.scope.names.lookup x = some .local := by
                    rw [Bool.and_eq_true, Bool.and_eq_true, Bool.and_eq_true] at z
                    have := z.1.1.2
                    exact eq_of_beq this
                  exact (ps_setLc (i := i) h.x.calm hN hi hl (by rw [sw, z]) (pi_of (F0 := F0) (H0 := H0) (strong := false) h.x (sit_all ia) h4 h5) (blkOk_by (by rw [h.x.N, h.x.sc]; exact h1))
                    (fun s H A cl fp => pg_ok (F0 := F0) (H0 := H0) (h.x.inner scope s H A cl fp) g tg h2) (fun s H A cl fp => pts_ok (F0 := F0) (H0 := H0) (h.x.inner scope s H A cl fp) (ses_all cond) h6)
                    (fun s H A cl fp => (se_all elt (F0 := F0) (H0 := H0) (h.x.inner scope s H A cl fp) el).1 h7) (fun v => it_fold h4 h5 X.env v)).impW fun D σ H ⟨env, F, rs, k⟩ => by
                      obtain ⟨env2, F2, rs2, k2⟩ := asg_read (e := .comp elt g ik ia cond own) rs k
                      exact lc_read h3 rs2 (comp_kk k2)
                | false => exact (ps_set hN hi a1 pe (by rw [sw, z]) a2).impW fun D σ H ⟨env, F, rs, k⟩ => asg_read rs k
              | _ => exact Bool.noConfusion hc
            · exact (ps_set hN hi a1 pe (no_swap q3 (by simpa using hc)) a2).impW fun D σ H ⟨env, F, rs, k⟩ => asg_read rs k
      | _ => cases r <;> exact Bool.noConfusion q
  | _ => exact Bool.noConfusion q
end
end MW

set_option maxRecDepth 100000
set_option maxHeartbeats 1000000
/-! Part 2l: more statements. -/
namespace MW
open PySem PySem.Spec PyProof.Rows L2
open Res
variable [Lam]
section
variable {X : Cx} {C : Cfg} {k : Nat} {Φ : Phi} {cs : Nat → Res D} {clsN : List Str} {clsA : Nat → Addr} {W : Nat → Hp → Prop} {F0 H0 : Hp}

theorem ps_asgO_ok (h : SOk X C k Φ cs clsN clsA W) {i : Nat} {e : E} {st : Stmt} (q : chkS C clsN (.asgO i e) st = true) : PS X st (tS X.K W F0 H0 (ex Φ cs (.asgO i e))) := by
  cases st with
  | Assign ts v pos =>
    cases ts with
    | nil => exact Bool.noConfusion q
    | cons t r =>
      cases t with
      | Name x px =>
        cases r with
        | cons _ _ => exact Bool.noConfusion q
        | nil =>
          have q' : (decide (C.N[i]? = some x) && C.asn x && chk C .val e v && (match (generalizing := false) e with | .lst _ => true | .bin .Add _ _ => true | .dic0 => true | _ => false)) = true := q
          rw [Bool.and_eq_true, Bool.and_eq_true, Bool.and_eq_true] at q'
          obtain ⟨⟨⟨q1, q2⟩, q3⟩, q4⟩ := q'
          obtain ⟨a1, a2⟩ := h.x.asn x q2
          have hN : X.N.Nodup := by rw [h.x.N]; exact h.x.nd
          have hi : X.N[i]? = some x := by rw [h.x.N]; exact of_decide_eq_true q1
          cases e with
          | lst es =>
            cases v with
            | List xs lp =>
              obtain ⟨_, h2⟩ := not_tst (show (!Md.val.isTst && chks C .val es xs) = true from q3)
              refine (ps_set hN hi a1 (pe_lst ((ses_all es (F0 := F0) (H0 := H0) h.x xs).1 h2)) rfl a2).impW fun Dn σ H ⟨env, F, rs, k⟩ => ?_
              have e0 : ex Φ cs (.asgO i (.lst es)) env = (evs Φ cs es env).bind fun ds => (need (fitsZ ds.length) (.ok (PyData.list ds))).bind fun d => need (isOwnable d && decide (i < env.length)) (.ok (Fl.next (env.set i (some (Slot.own d))))) := by
                show ((evs Φ cs es env).bind fun ds => need (fitsZ ds.length) (.ok (PyData.list ds))).bind (fun d => need (isOwnable d && decide (i < env.length)) (.ok (Fl.next (env.set i (some (Slot.own d)))))) = _
                rw [bind_assoc]
              rw [e0] at k
              refine ⟨env, F, rs, (KS.bind rs k).imp fun F1 H1 ds e1 k1 vs r1 => ?_⟩
              cases z : fitsZ ds.length with
              | false => rw [z] at k1; exact KS.no k1
              | true =>
                rw [z] at k1
                obtain ⟨hi2, k2⟩ := KS.need (show KS X.K W F0 H0 Dn F1 (need (isOwnable (.list ds) && decide (i < env.length)) (.ok (Fl.next (env.set i (some (.own (.list ds))))))) from k1)
                have hlt : i < env.length := by
                  rw [Bool.and_eq_true] at hi2
                  exact of_decide_eq_true hi2.2
                exact ⟨by rw [r1.length]; exact fits_le z, fun p n => k2 _ F1 _ ((rs.more e1).setOwn hlt n (.inl ⟨vs, ds, rfl, upd_same, r1⟩)) (Same.refl F1)⟩
            | _ => exact Bool.noConfusion q3
          | dic0 =>
            cases v with
            | Dict ks vs dp =>
              cases ks with
              | nil =>
                cases vs with
                | nil =>
                  refine (ps_set hN hi a1 pe_dnewK rfl a2).impW fun Dn σ H ⟨env, F, rs, k⟩ p n => ?_
                  obtain ⟨hi2, k2⟩ := KS.need (show KS X.K W F0 H0 Dn F (need (isOwnable (.dict []) && decide (i < env.length)) (.ok (Fl.next (env.set i (some (.own (.dict []))))))) from k)
                  have hlt : i < env.length := by
                    rw [Bool.and_eq_true] at hi2
                    exact of_decide_eq_true hi2.2
                  exact k2 _ F _ (rs.setOwn hlt n (.inr ⟨[], [], rfl, upd_same, .nil⟩)) (Same.refl F)
                | cons _ _ => exact Bool.noConfusion q3
              | cons _ _ => exact Bool.noConfusion q3
            | _ => exact Bool.noConfusion q3
          | bin op a b =>
            cases op with
            | Add =>
              cases v with
              | BinOp l op' rr bp =>
                have h' : (!Md.val.isTst && decide (Operator.Add = op') && chk C .opd a l && chk C .opd b rr) = true := q3
                rw [Bool.and_eq_true, Bool.and_eq_true] at h'
                obtain ⟨_, h2⟩ := not_tst h'.1.1
                have e := of_decide_eq_true h2
                subst e
                refine (ps_set hN hi a1 (pe_op op_catR ((se_all a (F0 := F0) (H0 := H0) h.x l).2.1 h'.1.2) ((se_all b (F0 := F0) (H0 := H0) h.x rr).2.1 h'.2)) rfl a2).impW fun Dn σ H ⟨env, F, rs, k⟩ => ?_
                have e0 : ex Φ cs (.asgO i (.bin .Add a b)) env = (ev Φ cs a env).bind fun x => (ev Φ cs b env).bind fun y => (opD .Add x y).bind fun d => need (isOwnable d && decide (i < env.length)) (.ok (Fl.next (env.set i (some (Slot.own d))))) := by
                  show ((ev Φ cs a env).bind fun x => (ev Φ cs b env).bind fun y => opD .Add x y).bind (fun d => need (isOwnable d && decide (i < env.length)) (.ok (Fl.next (env.set i (some (Slot.own d)))))) = _
                  rw [bind_assoc]
                  congr 1
                  funext d
                  rw [bind_assoc]
                rw [e0] at k
                refine ⟨env, F, rs, (KS.bind rs k).imp fun F1 H1 d e1 k1 v1 r1 => ⟨env, F1, rs.more e1, (KS.bind (rs.more e1) k1).imp fun F2 H2 d2 e2 k2 v2 r2 => ?_⟩⟩
                cases d with
                | list as =>
                  cases d2 with
                  | list bs =>
                    replace k2 : KS X.K W F0 H0 Dn F2 ((need (fitsZ (as.length + bs.length)) (.ok (PyData.list (as ++ bs)))).bind fun d => need (isOwnable d && decide (i < env.length)) (.ok (Fl.next (env.set i (some (Slot.own d)))))) := k2
                    obtain ⟨p1, xs1, rfl, g1, g2⟩ := (r1.mono e2).lst e2.sub
                    obtain ⟨p2, xs2, rfl, g3, g4⟩ := r2.lst e2.sub
                    cases z : fitsZ (as.length + bs.length) with
                    | false => rw [z] at k2; exact KS.no k2
                    | true =>
                      rw [z] at k2
                      obtain ⟨hi2, k3⟩ := KS.need (show KS X.K W F0 H0 Dn F2 (need (isOwnable (.list (as ++ bs)) && decide (i < env.length)) (.ok (Fl.next (env.set i (some (.own (.list (as ++ bs)))))))) from k2)
                      have hlt : i < env.length := by
                        rw [Bool.and_eq_true] at hi2
                        exact of_decide_eq_true hi2.2
                      exact ⟨p1, p2, xs1, xs2, rfl, rfl, g1, g3, by rw [g2.length, g4.length]; exact fits_le z, fun p n => k3 _ F2 _ (((rs.more e1).more e2).setOwn hlt n (.inl ⟨_, _, rfl, upd_same, g2.append g4⟩)) (Same.refl F2)⟩
                  | _ => exact KS.no k2
                | int _ =>
                  cases d2 with
                  | int _ => exact KS.no k2
                  | _ => exact KS.no k2
                | str a =>
                  cases d2 with
                  | str b =>
                    replace k2 : KS X.K W F0 H0 Dn F2 ((need (fitsZ (a.length + b.length)) (.ok (PyData.str (a ++ b)))).bind fun d => need (isOwnable d && decide (i < env.length)) (.ok (Fl.next (env.set i (some (Slot.own d)))))) := k2
                    cases z : fitsZ (a.length + b.length) <;> (rw [z] at k2; exact KS.no k2)
                  | _ => exact KS.no k2
                | tuple a =>
                  cases d2 with
                  | tuple b =>
                    replace k2 : KS X.K W F0 H0 Dn F2 ((need (fitsZ (a.length + b.length)) (.ok (PyData.tuple (a ++ b)))).bind fun d => need (isOwnable d && decide (i < env.length)) (.ok (Fl.next (env.set i (some (Slot.own d)))))) := k2
                    cases z : fitsZ (a.length + b.length) <;> (rw [z] at k2; exact KS.no k2)
                  | _ => exact KS.no k2
                | _ => exact KS.no k2
              | _ => exact Bool.noConfusion q3
            | _ => exact Bool.noConfusion q4
          | _ => exact Bool.noConfusion q4
      | _ => cases r <;> exact Bool.noConfusion q
  | _ => exact Bool.noConfusion q
mutual
theorem bindG_no : ∀ (g : G) (d : D) (env : Env) (c : Nat), bindG g d env ≠ .exn c
  | .name i, d, env, c, h => by
    have h' : need (decide (i < env.length)) (Res.ok (env.set i (some (.val d)))) = .exn c := h
    cases z : decide (i < env.length) <;> rw [z] at h' <;> cases h'
  | .tup gs, d, env, c, h => by
    cases d with
    | tuple ds => exact bindGs_no gs ds env c h
    | _ => cases h
theorem bindGs_no : ∀ (gs : Gs) (ds : List D) (env : Env) (c : Nat), bindGs gs ds env ≠ .exn c
  | .nil, [], env, c, h => by cases h
  | .nil, _ :: _, env, c, h => by cases h
  | .cons g gs, [], env, c, h => by cases h
  | .cons g gs, d :: ds, env, c, h => by
    have h' : (bindG g d env).bind (fun env' => bindGs gs ds env') = .exn c := h
    cases z : bindG g d env with
    | ok env' => rw [z] at h'; exact bindGs_no gs ds env' c h'
    | exn c' => exact bindG_no g d env c' z
    | stuck => rw [z] at h'; cases h'
end
theorem swapped_none {tg : Expr} {vs : List Expr} {k2 : Nat} {pt2 : Pos} {env : PySem.Env} (h : oneCell env.scope tg = true) : swappedStores [tg] (.Tuple vs k2 pt2) env = pure none := by
  unfold oneCell at h
  split at h
  · rename_i x px y py kt pt
    rw [Bool.or_eq_true] at h
    unfold swappedStores
    dsimp only
    split
    · rfl
    · split
      · rfl
      · rw [if_pos]
        rw [Bool.or_eq_true]
        left
        have hne : ∀ z : Str, env.scope.names.lookup z ≠ some .local → (env.kindOf z == some NameKind.local) = false := fun z hz => by
          refine beq_eq_false_iff_ne.mpr hz
        rcases h with h | h
        · have h1 := hne x (of_decide_eq_true h)
          simp only [List.filterMap_cons, List.filterMap_nil, h1, Bool.false_and, Bool.false_eq_true, if_false]
          split <;> simp_all
        · have h1 := hne y (of_decide_eq_true h)
          simp only [List.filterMap_cons, List.filterMap_nil, h1, Bool.false_and, Bool.false_eq_true, if_false]
          split <;> simp_all
  · cases h
theorem ps_asgT_ok (h : SOk X C k Φ cs clsN clsA W) {g : G} {e : E} {st : Stmt} (q : chkS C clsN (.asgT g e) st = true) : PS X st (tS X.K W F0 H0 (ex Φ cs (.asgT g e))) := by
  cases st with
  | Assign ts v pos =>
    match ts, q with
    | [tg], q =>
      have q' : (isTup tg && (!isTup v || oneCell C.sc tg) && chkG C g tg && chk C .val e v) = true := q
      rw [Bool.and_eq_true, Bool.and_eq_true, Bool.and_eq_true] at q'
      obtain ⟨⟨⟨q1, q2⟩, q3⟩, q4⟩ := q'
      cases tg with
      | Tuple es j tp =>
        have hw : swappedStores [.Tuple es j tp] v X.env = pure none := by
          cases v with
          | Tuple _ _ _ =>
            have q3 : oneCell X.env.scope (.Tuple es j tp) = true := by
              rw [h.x.sc]
              simpa [isTup] using q2
            exact swapped_none q3
          | _ => rfl
        have hs : swapsWithSole [.Tuple es j tp] v pos.line X.env = pure false := by
          cases v <;> rfl
        refine (ps_asg ((se_all e (F0 := F0) (H0 := H0) h.x v).1 q4) (pg_ok (F0 := F0) (H0 := H0) h.x g _ q3) hs hw rfl).impW fun Dn σ H ⟨env, F, rs, k⟩ => ?_
        refine ⟨env, F, rs, (KS.bind rs k).imp fun F1 H1 d e1 k1 v1 r1 => ?_⟩
        cases z : bindG g d env with
        | exn c => 
          exact absurd z (bindG_no g d env c)
        | stuck => rw [z] at k1; exact KS.no k1
        | ok env' =>
          rw [z] at k1
          exact ⟨env, F1, d, rs.more e1, r1, env', z, fun σ' rs' _ => k1 σ' F1 H1 rs' (Same.refl F1)⟩
      | _ => exact Bool.noConfusion q1
    | [], q => exact Bool.noConfusion q
    | _ :: _ :: _, q => exact Bool.noConfusion q
  | _ => exact Bool.noConfusion q
end
end MW

set_option maxRecDepth 100000
set_option maxHeartbeats 1000000
/-! Part 2m: the rest of the statements. -/
namespace MW
open PySem PySem.Spec PyProof.Rows L2
open Res
variable [Lam]
section
variable {X : Cx} {C : Cfg} {k : Nat} {Φ : Phi} {cs : Nat → Res D} {clsN : List Str} {clsA : Nat → Addr} {W : Nat → Hp → Prop} {F0 H0 : Hp}
theorem setV_ok {env : Env} {i : Nat} {d : D} {Dn : Ends} {F : Hp} {K : PySem.W.Frag} {f : Env → Res Fl} (k : KS K W F0 H0 Dn F ((setV env i d).bind f)) : i < env.length ∧ KS K W F0 H0 Dn F (f (env.set i (some (.val d)))) := by
  by_cases hi : i < env.length
  · have e : setV env i d = .ok (env.set i (some (.val d))) := need_true (decide_eq_true hi)
    rw [e] at k
    exact ⟨hi, k⟩
  · have e : setV env i d = .stuck := need_false (decide_eq_false hi)
    rw [e] at k
    exact KS.no k
theorem swapped_ok {x y : Str} {px py pt : Pos} {kt k2 : Nat} {a b : Expr} {pt2 : Pos} {env : PySem.Env} (hk : env.scope.kind = .function) (hx : env.scope.names.lookup x = some .local) (hy : env.scope.names.lookup y = some .local) (hxy : x ≠ y) (hl : px.line = py.line)
    (ha : notStar a = true) (hb : notStar b = true) (h1 : (foldedForSure 8 a && foldedForSure 8 b) = false) (h2 : (constantsAlone 8 a && constantsAlone 8 b) = false) :
    swappedStores [.Tuple [.Name x px, .Name y py] kt pt] (.Tuple [a, b] k2 pt2) env = pure (some [x, y]) := by
  have hbk : env.blockKind = .function := by unfold Env.blockKind; rw [hk]; rfl
  have kx : env.kindOf x = some .local := hx
  have ky : env.kindOf y = some .local := hy
  have c1 : (env.kindOf x == some NameKind.local && px.line == px.line) = true := by rw [kx]; simp
  have c2 : (env.kindOf y == some NameKind.local && py.line == px.line) = true := by rw [ky, hl]; simp
  have hdup : ([x, y] : List Str).eraseDups = [x, y] := by
    have : (y == x) = false := beq_eq_false_iff_ne.mpr (Ne.symm hxy)
    simp [List.eraseDups_cons, this]
  unfold swappedStores
  dsimp only [List.length_cons, List.length_nil]
  rw [if_neg (by rw [hbk]; decide)]
  rw [if_neg (by
    cases a with
    | Starred _ _ => exact Bool.noConfusion ha
    | _ => cases b with
      | Starred _ _ => exact Bool.noConfusion hb
      | _ => exact Bool.false_ne_true)]
  simp only [List.filterMap_cons, List.filterMap_nil, List.head?_cons, Option.map_some, Option.getD_some, Expr.pos, c1, c2, if_true, hdup]
  rw [if_neg (show ¬ ([x, y].length != 0 + 1 + 1 || [x, y].length != [x, y].length) = true from Bool.false_ne_true)]
  rw [if_neg (by rw [List.all_cons, List.all_cons, List.all_nil, Bool.and_true, h1]; exact Bool.false_ne_true)]
  rw [if_neg (by rw [List.all_cons, List.all_cons, List.all_nil, Bool.and_true, h2]; exact Bool.false_ne_true)]
theorem ps_par_ok (h : SOk X C k Φ cs clsN clsA W) (hkd : C.sc.kind = .function) {i j : Nat} {a b : E} {st : Stmt} (q : chkS C clsN (.par i j a b) st = true) : PS X st (tS X.K W F0 H0 (ex Φ cs (.par i j a b))) := by
  unfold chkS at q
  split at q <;> first | (exact Bool.noConfusion q) | skip
  all_goals try (rename_i e1; cases e1)
  rename_i x px y py kt pt v u k2 pt2 pos
  simp only [Bool.and_eq_true, decide_eq_true_eq, Bool.not_eq_true'] at q
  obtain ⟨⟨⟨⟨⟨⟨⟨⟨⟨⟨⟨⟨q1, q2⟩, q3⟩, q4⟩, q5⟩, q6⟩, q7⟩, q8⟩, q9⟩, q10⟩, q11⟩, q12⟩, q13⟩ := q
  have hx : X.env.scope.names.lookup x = some .local := by rw [h.x.sc]; exact q4
  have hy : X.env.scope.names.lookup y = some .local := by rw [h.x.sc]; exact q5
  have hkd' : X.env.scope.kind = .function := by rw [h.x.sc]; exact hkd
  refine (ps_par h.x.calm (by rw [h.x.N]; exact h.x.nd) (by rw [h.x.N]; exact q1) (by rw [h.x.N]; exact q2) q3 hx hy (pa_cons ((se_all a (F0 := F0) (H0 := H0) h.x v).1 q12) (pa_cons ((se_all b (F0 := F0) (H0 := H0) h.x u).1 q13) pa_nil (star_of q9)) (star_of q8))
    (swapped_ok hkd' hx hy q6 q7 q8 q9 q10 q11) rfl).impW fun Dn σ H ⟨env, F, rs, k⟩ => ?_
  refine ⟨env, F, rs, (KS.bind rs k).imp fun F1 H1 d e1 k1 v1 r1 => ⟨env, F1, rs.more e1, (KS.bind (rs.more e1) k1).imp fun F2 H2 d2 e2 k2 v2 r2 => ?_⟩⟩
  obtain ⟨z1, k3⟩ := setV_ok k2
  obtain ⟨z2, k4⟩ := setV_ok k3
  exact ⟨v1, v2, rfl, k4 _ F2 H2 ((((rs.more e1).more e2).set z1 (r1.mono e2.f)).set z2 r2) (Same.refl F2)⟩
theorem pe_slot (h : SOk X C k Φ cs clsN clsA W) {i : Nat} {x : Str} {pos : Pos} (q : varB C i x = true) : PE X (.Name x pos) (tVar i) := h.x.var q
theorem ps_app_ok (h : SOk X C k Φ cs clsN clsA W) {i : Nat} {e : E} {st : Stmt} (q : chkS C clsN (.app i e) st = true) : PS X st (tS X.K W F0 H0 (ex Φ cs (.app i e))) := by
  cases st with
  | Expr v pos =>
    cases v with
    | Call fn args kws cpos =>
      cases fn with
      | Attribute o m apos =>
        cases o with
        | Name x px =>
          match args, kws, q with
          | [v], [], q =>
            have q' : (varB C i x && decide (m = "append") && decide (apos.endLine = cpos.line) && chk C .val e v && notStar v) = true := q
            rw [Bool.and_eq_true, Bool.and_eq_true, Bool.and_eq_true, Bool.and_eq_true] at q'
            obtain ⟨⟨⟨⟨q1, q2⟩, q3⟩, q4⟩, q5⟩ := q'
            have e0 := of_decide_eq_true q2
            subst e0
            refine (ps_expr (pe_bm PySem.F.plainAttrs_list PySem.F.slot_list_append PySem.F.type_list_append mt_append (h.x.var (pos := px) q1) (pa_cons ((se_all e (F0 := F0) (H0 := H0) h.x v).1 q4) pa_nil (star_of q5)) rfl (by rw [star_of q5]; rfl) (by rw [of_decide_eq_true q3]; exact beq_self_eq_true _) (star_of q5) rfl) rfl).impW fun Dn σ H ⟨env, F, rs, k⟩ => ?_
            replace k : KS X.K W F0 H0 Dn F (match env[i]? with
              | some (some (.own (.list ds))) => (ev Φ cs e env).bind fun d => need (decide (ds.length < sizeLine)) (.ok (Fl.next (env.set i (some (.own (.list (ds ++ [d])))))))
              | _ => .stuck) := k
            split at k
            · rename_i ds hs
              obtain ⟨a, y1, y2, y3, y4⟩ := rs.own i _ hs
              have hl : ∃ xs, H a = some (.lst xs) ∧ RpAll X.K F xs ds := by
                rcases y4 with ⟨xs, ds', p1, p2, p3⟩ | ⟨_, _, p1, _⟩
                · cases p1; exact ⟨xs, p2, p3⟩
                · cases p1
              obtain ⟨xs, p2, p3⟩ := hl
              refine ⟨_, y1, .inl ⟨rfl, xs, SqL.of p2⟩, env, F, rs, (KS.bind rs k).imp fun F1 H1 d e1 k1 v1 r1 => ?_⟩
              obtain ⟨z, k2⟩ := KS.need k1
              have p4 : H1 a = some (.lst xs) := e1.h.lst p2
              refine ⟨a, xs, v1, rfl, rfl, p4, by rw [p3.length]; exact of_decide_eq_true z, ?_⟩
              exact k2 _ F1 _ ((rs.more e1).write hs y1 (.inl ⟨_, _, rfl, upd_same, (p3.mono e1.f).append (.cons r1 .nil)⟩)) (Same.refl F1)
            · exact KS.no k
          | [], _, q => exact Bool.noConfusion q
          | [_], _ :: _, q => exact Bool.noConfusion q
          | _ :: _ :: _, _, q => exact Bool.noConfusion q
        | _ => exact Bool.noConfusion q
      | _ => exact Bool.noConfusion q
    | _ => exact Bool.noConfusion q
  | _ => exact Bool.noConfusion q
/-- a list that is just laid -/
def tF (K : PySem.W.Frag) (W : Nat → Hp → Prop) (F0 H0 : Hp) (g : Env → Res D) : TE := fun σ H Q => ∃ env F, RS K F0 H0 F H σ env ∧ KR (fun F' H' d => ∀ p acc ds F2 H2, d = PyData.list ds → Ext F' H' F2 H2 → H2 p = some (.lst acc) → RpAll K F2 acc ds → Q (.ref p) H2) W F H (g env)
theorem pe_laid (hX : XOk X C k Φ cs clsA W) {e : E} {v : Expr} (q : chk C .val e v = true) (he : (match (generalizing := false) e with | .lst _ => true | .comp _ _ _ _ _ _ => true | _ => false) = true) : PE X v (tF X.K W F0 H0 (ev Φ cs e)) := by
  cases e with
  | lst es =>
    cases v with
    | List xs pos =>
      obtain ⟨_, h2⟩ := not_tst (show (!Md.val.isTst && chks C .val es xs) = true from q)
      refine (pe_lst ((ses_all es (F0 := F0) (H0 := H0) hX xs).1 h2)).impW fun σ H Q ⟨env, F, rs, k⟩ => ⟨env, F, rs, (KR.bind k).imp fun F1 H1 ds e1 k1 vs r1 => ?_⟩
      obtain ⟨z, k2⟩ := KR.need k1
      exact ⟨by rw [r1.length]; exact fits_le z, fun p n => k2 F1 H1 (Ext.refl e1.sub) p vs ds F1 _ rfl (Ext.fresh e1.sub n) upd_same r1⟩
    | _ => exact Bool.noConfusion q
  | comp elt g ik ia cond own =>
    obtain ⟨el, tg, iter, ifs, scope, cpos, xs, rfl, h1, h2, h3, h4, h5, h6, h7⟩ := comp_split (elt' := elt) q
    refine (pe_lc hX.calm (by rw [hX.N]; exact hX.nd) (pi_of (F0 := F0) (H0 := H0) (strong := false) hX (sit_all ia) h4 h5) (blkOk_by (by rw [hX.N, hX.sc]; exact h1))
      (fun s H A cl fp => pg_ok (F0 := F0) (H0 := H0) (hX.inner scope s H A cl fp) g tg h2) (fun s H A cl fp => pts_ok (F0 := F0) (H0 := H0) (hX.inner scope s H A cl fp) (ses_all cond) h6)
      (fun s H A cl fp => (se_all elt (F0 := F0) (H0 := H0) (hX.inner scope s H A cl fp) el).1 h7) (fun v => it_fold h4 h5 X.env v)).impW fun σ H Q ⟨env, F, rs, k⟩ => lc_read h3 rs ?_
    have e0 : ev Φ cs (.comp elt g ik ia cond own) env = (gI Φ cs ik ia env).bind fun xs => (compL (turnOf Φ cs elt g cond own env) xs).bind fun r => need (fitsZ r.length) (.ok (PyData.list r)) := by
      show (evs Φ cs ia env).bind (fun ds => (iterD ik ds).bind fun xs => (compL (turnOf Φ cs elt g cond own env) xs).bind fun r => need (fitsZ r.length) (.ok (PyData.list r))) = _
      unfold gI
      rw [bind_assoc]
    rw [e0] at k
    refine (KR.bind k).imp fun F1 H1 ds e1 k1 => ?_
    cases z : compL (turnOf Φ cs elt g cond own env) ds with
    | exn c => rw [z] at k1; exact k1
    | stuck => rw [z] at k1; exact k1.elim
    | ok r =>
      rw [z] at k1
      obtain ⟨hz, k2⟩ := KR.need (show KR _ W F1 H1 (need (fitsZ r.length) (.ok (PyData.list r))) from k1)
      exact fun F2 H2 e2 => ⟨fits_le hz, fun p F3 H3 ex n f3 ⟨acc, h3, ra⟩ => k2 F1 H1 (Ext.refl e1.sub) p acc r F3 H3 rfl ex h3 ra⟩
  | _ => exact Bool.noConfusion he
theorem ps_ext_ok (h : SOk X C k Φ cs clsN clsA W) {i : Nat} {e : E} {st : Stmt} (q : chkS C clsN (.ext i e) st = true) : PS X st (tS X.K W F0 H0 (ex Φ cs (.ext i e))) := by
  cases st with
  | Expr v pos =>
    cases v with
    | Call fn args kws cpos =>
      cases fn with
      | Attribute o m apos =>
        cases o with
        | Name x px =>
          match args, kws, q with
          | [v], [], q =>
            have q' : (varB C i x && decide (m = "extend") && decide (apos.endLine = cpos.line) && chk C .val e v && notStar v && (match (generalizing := false) e with | .lst _ => true | .comp _ _ _ _ _ _ => true | _ => false)) = true := q
            rw [Bool.and_eq_true, Bool.and_eq_true, Bool.and_eq_true, Bool.and_eq_true, Bool.and_eq_true] at q'
            obtain ⟨⟨⟨⟨⟨q1, q2⟩, q3⟩, q4⟩, q5⟩, q6⟩ := q'
            have e0 := of_decide_eq_true q2
            subst e0
            refine (ps_expr (pe_bm PySem.F.plainAttrs_list PySem.F.slot_list_extend PySem.F.type_list_extend mt_extend (h.x.var (pos := px) q1) (pa_cons (pe_laid (F0 := F0) (H0 := H0) h.x q4 q6) pa_nil (star_of q5)) rfl (by rw [star_of q5]; rfl) (by rw [of_decide_eq_true q3]; exact beq_self_eq_true _) (star_of q5) rfl) rfl).impW fun Dn σ H ⟨env, F, rs, k⟩ => ?_
            replace k : KS X.K W F0 H0 Dn F (match env[i]? with
              | some (some (.own (.list ds))) => (ev Φ cs e env).bind fun d => match d with
                | .list xs => need (fitsZ (ds.length + xs.length)) (.ok (Fl.next (env.set i (some (.own (.list (ds ++ xs)))))))
                | _ => .stuck
              | _ => .stuck) := k
            split at k
            · rename_i ds hs
              obtain ⟨a, y1, y2, y3, y4⟩ := rs.own i _ hs
              have hl : ∃ xs, H a = some (.lst xs) ∧ RpAll X.K F xs ds := by
                rcases y4 with ⟨xs, ds', p1, p2, p3⟩ | ⟨_, _, p1, _⟩
                · cases p1; exact ⟨xs, p2, p3⟩
                · cases p1
              obtain ⟨xs, p2, p3⟩ := hl
              refine ⟨_, y1, .inl ⟨rfl, xs, SqL.of p2⟩, env, F, rs, (KS.bind rs k).imp fun F1 H1 d e1 k1 p acc bs F2 H2 hd e2 hp ra => ?_⟩
              subst hd
              obtain ⟨z, k2⟩ := KS.need (show KS X.K W F0 H0 Dn F1 (need (fitsZ (ds.length + bs.length)) (.ok (Fl.next (env.set i (some (.own (.list (ds ++ bs)))))))) from k1)
              have p4 : H2 a = some (.lst xs) := e2.h.lst (e1.h.lst p2)
              refine ⟨a, p, xs, acc, rfl, rfl, p4, hp, by rw [p3.length, ra.length]; exact fits_le z, ?_⟩
              exact (KS.mono k2 e2.f) _ F2 _ (((rs.more e1).more e2).write hs y1 (.inl ⟨_, _, rfl, upd_same, ((p3.mono e1.f).mono e2.f).append ra⟩)) (Same.refl F2)
            · exact KS.no k
          | [], _, q => exact Bool.noConfusion q
          | [_], _ :: _, q => exact Bool.noConfusion q
          | _ :: _ :: _, _, q => exact Bool.noConfusion q
        | _ => exact Bool.noConfusion q
      | _ => exact Bool.noConfusion q
    | _ => exact Bool.noConfusion q
  | _ => exact Bool.noConfusion q
theorem ps_put_ok (h : SOk X C k Φ cs clsN clsA W) {i : Nat} {kx e : E} {st : Stmt} (q : chkS C clsN (.put i kx e) st = true) : PS X st (tS X.K W F0 H0 (ex Φ cs (.put i kx e))) := by
  cases st with
  | Assign ts v pos =>
    cases ts with
    | nil => exact Bool.noConfusion q
    | cons t r =>
      cases t with
      | Subscript o k' sp =>
        cases o with
        | Name x px =>
          cases r with
          | cons _ _ => exact Bool.noConfusion q
          | nil =>
            have q' : (varB C i x && chk C .val kx k' && chk C .val e v) = true := q
            rw [Bool.and_eq_true, Bool.and_eq_true] at q'
            obtain ⟨⟨q1, q2⟩, q3⟩ := q'
            have hsw : swapsWith v (some (.Subscript (.Name x px) k' sp)) pos.line X.env = pure false := by cases v <;> rfl
            refine (ps_dput (hu_of h.x.room) (h.x.var (pos := px) q1) ((se_all kx (F0 := F0) (H0 := H0) h.x k').1 q2) ((se_all e (F0 := F0) (H0 := H0) h.x v).1 q3) hsw).impW fun Dn σ H ⟨env, F, rs, k⟩ => ?_
            replace k : KS X.K W F0 H0 Dn F (match env[i]? with
              | some (some (.own (.dict kvs))) => (ev Φ cs e env).bind fun d => (ev Φ cs kx env).bind fun kd => match toKey kd with
                | some q => need (decide (kvs.length < sizeLine)) (.ok (Fl.next (env.set i (some (.own (.dict (dictPut kvs q d)))))))
                | none => .stuck
              | _ => .stuck) := k
            split at k
            · rename_i ds hs
              obtain ⟨a, y1, y2, y3, y4⟩ := rs.own i _ hs
              have hl : ∃ xs, H a = some (.dK xs) ∧ RpKV X.K F xs ds := by
                rcases y4 with ⟨_, _, p1, _⟩ | ⟨xs, ds', p1, p2, p3⟩
                · cases p1
                · cases p1; exact ⟨xs, p2, p3⟩
              obtain ⟨xs, p2, p3⟩ := hl
              refine ⟨env, F, rs, (KS.bind rs k).imp fun F1 H1 d e1 k1 v1 r1 => ⟨_, y1, env, F1, rs.more e1, (KS.bind (rs.more e1) k1).imp fun F2 H2 kd e2 k2 v2 r2 => ?_⟩⟩
              cases z : toKey kd with
              | none => rw [z] at k2; exact KS.no k2
              | some key =>
                rw [z] at k2
                obtain ⟨hz, k3⟩ := KS.need (show KS X.K W F0 H0 Dn F2 (need (decide (ds.length < sizeLine)) (.ok (Fl.next (env.set i (some (.own (.dict (dictPut ds key d)))))))) from k2)
                obtain rfl := toKey_kV (F := F2) (H := H2) (.inl r2) z
                have p4 : H2 a = some (.dK xs) := e2.h.dK (e1.h.dK p2)
                refine ⟨a, _, rfl, DPut.k (v := v1) p4 (by rw [p3.length]; exact of_decide_eq_true hz), ?_⟩
                exact k3 _ F2 _ (((rs.more e1).more e2).write hs y1 (.inr ⟨_, _, rfl, upd_same, kv_put (r1.mono e2.f) ((p3.mono e1.f).mono e2.f)⟩)) (Same.refl F2)
            · exact KS.no k
        | _ => cases r <;> exact Bool.noConfusion q
      | _ => cases r <;> exact Bool.noConfusion q
  | _ => exact Bool.noConfusion q
theorem ps_ret_ok (h : SOk X C k Φ cs clsN clsA W) {e : E} {st : Stmt} (q : chkS C clsN (.ret e) st = true) : PS X st (tS X.K W F0 H0 (ex Φ cs (.ret e))) := by
  cases st with
  | Return v pos =>
    cases v with
    | some x =>
      have q' : chk C .val e x = true := q
      refine (ps_ret ((se_all e (F0 := F0) (H0 := H0) h.x x).1 q')).impW fun Dn σ H ⟨env, F, rs, k⟩ => ⟨env, F, rs, (KS.bind rs k).imp fun F1 H1 d e1 k1 v r1 => ?_⟩
      exact k1 v F1 H1 (rs.ext.trans e1) (Same.refl F1) r1
    | none => exact Bool.noConfusion q
  | _ => exact Bool.noConfusion q
theorem ps_expr_ok (h : SOk X C k Φ cs clsN clsA W) {e : E} {st : Stmt} (q : chkS C clsN (.expr e) st = true) : PS X st (tS X.K W F0 H0 (ex Φ cs (.expr e))) := by
  cases st with
  | Expr v pos =>
    cases v with
    | Call f xs ks p =>
      have q' : chk C .val e (.Call f xs ks p) = true := q
      refine (ps_expr ((se_all e (F0 := F0) (H0 := H0) h.x _).1 q') rfl).impW fun Dn σ H ⟨env, F, rs, k⟩ => ⟨env, F, rs, (KS.bind rs k).imp fun F1 H1 d e1 k1 v r1 => ?_⟩
      exact k1 σ F1 H1 (rs.more e1) (Same.refl F1)
    | _ => exact Bool.noConfusion q
  | _ => exact Bool.noConfusion q
theorem ps_raise_ok (h : SOk X C k Φ cs clsN clsA W) {c : Nat} {st : Stmt} (q : chkS C clsN (.raise c) st = true) : PS X st (tS X.K W F0 H0 (ex Φ cs (.raise c))) := by
  unfold chkS at q
  split at q <;> first | (exact Bool.noConfusion q) | skip
  all_goals try (rename_i e1; cases e1)
  rename_i x px sm j p2 p3 p4
  rw [Bool.and_eq_true] at q
  exact (ps_raise h.x.calm h.x.takes (h.cls c x (of_decide_eq_true q.1) X rfl rfl (h.x.gl q.2) _ _ _ _ _)).impW fun Dn σ H ⟨env, F, rs, k⟩ => ⟨c, rfl, rfl, k F H rs.ext (Same.refl F)⟩
end
end MW

set_option maxRecDepth 100000
set_option maxHeartbeats 1000000
/-! Part 2y: try. -/
namespace MW
open PySem PySem.Spec PyProof.Rows L2
open Res
variable [Lam]
/-- isinstance(e, (c1, c2)), e the exception that the suite holds -/
def rIsET (K : PySem.W.Frag) (Dc a : Addr) : List V → Hp → VK → Prop := fun xs H Q => ∃ (tp : Addr) (cs : List V) (us : List Value) (b : Bool), xs = [.ref a, .ref tp] ∧ H tp = some (.tup cs) ∧ Paired ClsV cs us ∧ PySem.W.kitAny K (.ref Dc) us = some b ∧ Q (.bl b) H
theorem call_isET {X : Cx} {a Dc : Addr} {oe : Obj} {pn : List (Addr × Obj)} (C : ExcC X.K Dc) (hz : Zc (.ref Dc) none oe) (hf : ∃ vs, oe.data = .fields vs) : CallR (X.suite a ((a, oe) :: pn)) (.builtin "isinstance") (rIsET X.K Dc a) := by
  intro pins s σ H xs us Q I r h
  obtain ⟨tp, cs, ws, b, rfl, hT, k, e, q⟩ := h
  obtain ⟨u1, u2, rfl, r1, r2⟩ := vals2 r
  cases (show u2 = Value.ref tp from r2)
  cases (show u1 = Value.ref a from r1)
  obtain ⟨hget, _⟩ := I.pin (a, oe) (List.mem_append.mpr (.inl List.mem_cons_self))
  obtain ⟨vs, hv⟩ := hf
  have J : PySem.W.InstAt s.heap a oe Dc none := by
    obtain ⟨oc, od, oda, osl⟩ := oe
    obtain ⟨h1, h2⟩ := hz
    dsimp only at h1 h2 hv
    subst h1 h2 hv
    exact ⟨hget, rfl, rfl, trivial⟩
  obtain ⟨_, its, rv, o, h1, h2, n, h3⟩ := (show ObjOk X.prog X.w H s.heap tp (.tup cs) from I.hok tp _ hT)
  have e3 := ClsV.all k rv
  subst e3
  obtain ⟨oc, od, dt, sl⟩ := o
  simp only at h2 h3
  subst h2 h3
  exact PySem.W.kia_tup (PySem.W.handS_kitx_exc C.hg C.hk C.hs C.hd C.ha C.hn C.ht C.hm) I.kIn J h1 e (fun z => nomatch z) fun tk => ⟨.bl b, H, I.tok tk, rfl, q⟩
theorem RS.one {K : PySem.W.Frag} {F0 H0 F H : Hp} {σ : L2.St} {n i : Nat} {v : V} {d : D} (e : Ext F0 H0 F H) (t0 : TabF F0 H0) (hl : σ.length = n) (hi : i < n) (hv : σ[i]? = some (some v)) (r : Rp K F v d) : RS K F0 H0 F H σ ((List.replicate n none).set i (some (.val d))) where
  ext := e
  tab0 := t0
  len := by rw [List.length_set, List.length_replicate, hl]
  val := fun j x h => by
    by_cases hj : i = j
    · subst hj
      rw [List.getElem?_set_self (by rw [List.length_replicate]; exact hi)] at h
      cases h
      exact ⟨v, hv, r⟩
    · rw [List.getElem?_set_ne hj, List.getElem?_replicate] at h
      split at h <;> cases h
  own := fun j x h => by
    by_cases hj : i = j
    · subst hj
      rw [List.getElem?_set_self (by rw [List.length_replicate]; exact hi)] at h
      cases h
    · rw [List.getElem?_set_ne hj, List.getElem?_replicate] at h
      split at h <;> cases h
  inj := fun j l x y a h _ _ _ => by
    by_cases hj : i = j
    · subst hj
      rw [List.getElem?_set_self (by rw [List.length_replicate]; exact hi)] at h
      cases h
    · rw [List.getElem?_set_ne hj, List.getElem?_replicate] at h
      split at h <;> cases h
theorem _root_.L2.PS.impI {X : Cx} {st : Stmt} {t t' : TS} (h : PS X st t) (q : ∀ D σ H, σ.length = X.N.length → t' D σ H → t D σ H) : PS X st t' := ⟨fun pins s σ H D I w => h.run pins s σ H D I (q D σ H I.len w)⟩
section
variable {X : Cx} {C : Cfg} {k : Nat} {Φ : Phi} {cs : Nat → Res D} {clsN : List Str} {clsA : Nat → Addr} {W : Nat → Hp → Prop} {F0 H0 : Hp}
/-- what the body wishes of an exception -/
def wB (X : Cx) (clsA : Nat → Addr) (W0 : WX) : Nat → Hp → Prop := fun c H => ∀ σ : L2.St, σ.length = X.N.length → W0 (.ref (clsA c)) none σ H
theorem SOk.tr' (h : SOk X C k Φ cs clsN clsA W) {pn : List (Addr × Obj)} {xe : Value → Shared → Prop} {W0 : WX} (tk : Takes (X.tr pn xe) W0) (ow : PassesOwn (model X.prog X.w) X.A X.env xe) : SOk (X.tr pn xe) C k Φ cs clsN clsA (wB X clsA W0) where
  x := ⟨h.x.N, h.x.nd, h.x.sc, h.x.asn, h.x.calm, h.x.fns, h.x.csts, h.x.blt, h.x.room, h.x.lam, fun u s' ⟨a, B, sI, pins, σ, H, cls, d, e, I, nb, up, sky, na, os, ag, w⟩ => tk u s' ⟨a, B, sI, pins, σ, H, cls, d, e, I, nb, up, sky, na, os, ag, by
    obtain ⟨c, rfl, rfl, q⟩ := w
    exact q σ I.len⟩⟩
  own := ow
  cls := fun c x q X' e1 e2 => h.cls c x q X' e1 e2
  stk := h.stk
  frm := h.frm
  tr := h.tr
/-- the reading of the body -/
abbrev tBody (X : Cx) (clsA : Nat → Addr) (F0 H0 : Hp) (g : Env → Res Fl) : WX → TS := fun W0 => tS X.K (wB X clsA W0) F0 H0 g
theorem ps_try_setT (h : SOk X C k Φ cs clsN clsA W) {b : Ss} {c i : Nat} {body : List Stmt} {x y : Str} {np py pv pc pos pos' : Pos} {jc : Nat} {ca : Addr} (hi : C.N[i]? = some y) (ha : C.asn y = true) (hx : Names X x (.ref ca)) (hm : PySem.W.exmOne X.K (.ref (clsA c)) (.ref ca) = some true)
    (hb : ∀ (W0 : WX) (pn : List (Addr × Obj)) (xe : Value → Shared → Prop), Takes (X.tr pn xe) W0 → PassesOwn (model X.prog X.w) X.A X.env xe → PSs (X.tr pn xe) body (tBody X clsA F0 H0 (exs Φ cs b) W0)) :
    PS X (.Try body [.ExceptHandler (some (.Name x np)) none [.Assign [.Name y py] (.Constant (.bool true) jc pv) pc] pos'] [] [] pos) (tS X.K W F0 H0 (ex Φ cs (.try_ b c i .setT))) := by
  obtain ⟨a1, a2⟩ := h.x.asn y ha
  have hN : X.N.Nodup := by rw [h.x.N]; exact h.x.nd
  have hi' : X.N[i]? = some y := by rw [h.x.N]; exact hi
  refine (ps_try_only (c := .ref ca) (Wout := WXof clsA W) (tb := tBody X clsA F0 H0 (exs Φ cs b)) (ts := fun _ _ _ => tAsg (tC (.bl true)) (gName i)) h.stk h.frm hx h.x.takes hb fun a oe cls d pn _ _ => pss_one (ps_set (X := X.suite a ((a, oe) :: pn)) hN hi' a1 pe_bl rfl a2)).impI fun Dn σ H hl ⟨env, F, rs, k⟩ => ⟨env, F, rs, ?_⟩
  have k' : KS X.K W F0 H0 Dn F (handD c i .setT env.length (exs Φ cs b env)) := k
  cases z : exs Φ cs b env with
  | ok f =>
    rw [z] at k'
    cases f <;> exact k'
  | stuck => rw [z] at k'; exact k'
  | exn c' =>
    rw [z] at k'
    obtain ⟨hc, k2⟩ := KS.need k'
    obtain ⟨hn, k3⟩ := KS.need k2
    have e0 := of_decide_eq_true hc
    subst e0
    have hl2 := of_decide_eq_true hn
    intro F' H' e' s' σ' l'
    refine ⟨true, hm, fun _ a ha => ?_, fun q => nomatch q⟩
    refine k3 _ F' H' (RS.one e' rs.tab0 ?_ hl2 (v := .bl true) ?_ (.bl true)) s'
    · rw [List.length_set, l', ← hl, rs.len]
    · exact List.getElem?_set_self (by rw [l', ← hl, ← rs.len]; exact hl2)
theorem ps_try_retT (h : SOk X C k Φ cs clsN clsA W) {b : Ss} {c i : Nat} {body : List Stmt} {x : Str} {np pv pc pos pos' : Pos} {jc : Nat} {ca : Addr} (hx : Names X x (.ref ca)) (hm : PySem.W.exmOne X.K (.ref (clsA c)) (.ref ca) = some true)
    (hb : ∀ (W0 : WX) (pn : List (Addr × Obj)) (xe : Value → Shared → Prop), Takes (X.tr pn xe) W0 → PassesOwn (model X.prog X.w) X.A X.env xe → PSs (X.tr pn xe) body (tBody X clsA F0 H0 (exs Φ cs b) W0)) :
    PS X (.Try body [.ExceptHandler (some (.Name x np)) none [.Return (some (.Constant (.bool true) jc pv)) pc] pos'] [] [] pos) (tS X.K W F0 H0 (ex Φ cs (.try_ b c i .retT))) := by
  refine (ps_try_only (c := .ref ca) (Wout := WXof clsA W) (tb := tBody X clsA F0 H0 (exs Φ cs b)) (ts := fun _ _ _ => tRet (tC (.bl true))) h.stk h.frm hx h.x.takes hb fun a oe cls d pn _ _ => pss_one (ps_ret (X := X.suite a ((a, oe) :: pn)) pe_bl)).impI fun Dn σ H hl ⟨env, F, rs, k⟩ => ⟨env, F, rs, ?_⟩
  have k' : KS X.K W F0 H0 Dn F (handD c i .retT env.length (exs Φ cs b env)) := k
  cases z : exs Φ cs b env with
  | ok f =>
    rw [z] at k'
    cases f <;> exact k'
  | stuck => rw [z] at k'; exact k'
  | exn c' =>
    rw [z] at k'
    obtain ⟨hc, k2⟩ := KS.need k'
    have e0 := of_decide_eq_true hc
    subst e0
    intro F' H' e' s' σ' l'
    exact ⟨true, hm, fun _ a ha => k2 _ F' H' e' s' (.bl true), fun q => nomatch q⟩
/-- the clause's own test, as a value -/
theorem pe_exIs (h : SOk X C k Φ cs clsN clsA W) {c c2 c3 j : Nat} {n : Str} {v : Expr} (hc : c < clsN.length) (h2 : c2 ≠ c) (h3 : c3 ≠ c) (hj : X.N[j]? = some n) (hn : X.env.scope.names.lookup n = some .local) (q : exIs C.sc clsN c c2 c3 n v = true) {a : Addr} {oe : Obj} {pn : List (Addr × Obj)} (hz : Zc (.ref (clsA c)) none oe) (hf : ∃ vs, oe.data = .fields vs) :
    PE (X.suite a ((a, oe) :: pn)) v (fun σ H Q => σ[j]? = some (some (.ref a)) ∧ ∀ p, H p = none → Q (.bl true) (upd H p (.tup [.ref (clsA c2), .ref (clsA c3)]))) ∧ (∀ t l env, swapsWith v t l env = pure false) ∧ PT (X.suite a ((a, oe) :: pn)) v (fun σ H Q => σ[j]? = some (some (.ref a)) ∧ ∀ p, H p = none → Q true (upd H p (.tup [.ref (clsA c2), .ref (clsA c3)]))) := by
  unfold exIs at q
  split at q
  · rename_i i1 q1 n1 q2 A q3 q4 i2 q5 n2 q6 B q7 C' q8 q9 q10 q11 q12 i3 q13 n3 q14 V q15 q16 q17
    simp only [Bool.and_eq_true, decide_eq_true_eq] at q
    obtain ⟨⟨⟨⟨⟨⟨⟨rfl, rfl⟩, rfl⟩, ⟨⟨rfl, rfl⟩, rfl⟩⟩, ⟨⟨cA, cB⟩, cC⟩⟩, ⟨⟨rfl, gI⟩, gV⟩⟩, ⟨⟨gA, gB⟩, gC⟩⟩, ⟨⟨⟨pn', pA⟩, pB⟩, pC⟩⟩ := q
    have l2 : c2 < clsN.length := (List.getElem?_eq_some_iff.mp cB).1
    have l3 : c3 < clsN.length := (List.getElem?_eq_some_iff.mp cC).1
    have mA := h.tr.nm c A cA
    have mB := h.tr.nm c2 B cB
    have mC := h.tr.nm c3 C' cC
    have mV := h.tr.ve (Nat.lt_of_le_of_lt (Nat.zero_le _) hc)
    have mI : X.mg "isinstance" = none := h.x.no (by decide +kernel)
    have EC := h.tr.exc c hc
    have hv : Vis X.env.scope n3 := .inl hn
    have PV : ∀ pos, PE (X.suite a ((a, oe) :: pn)) (.Name n3 pos) (tVar j) := fun pos => pe_var (X := X.suite a ((a, oe) :: pn)) hj hv (plainN_of pn').1 (plainN_of pn').2
    have PA' : ∀ pos, PE (X.suite a ((a, oe) :: pn)) (.Name A pos) (tC (.ref (clsA c))) := fun pos => pe_glob (X := X.suite a ((a, oe) :: pn)) (h.x.gl gA) mA rfl (plainN_of pA).1
    have PB : ∀ pos, PE (X.suite a ((a, oe) :: pn)) (.Name B pos) (tC (.ref (clsA c2))) := fun pos => pe_glob (X := X.suite a ((a, oe) :: pn)) (h.x.gl gB) mB rfl (plainN_of pB).1
    have PC : ∀ pos, PE (X.suite a ((a, oe) :: pn)) (.Name C' pos) (tC (.ref (clsA c3))) := fun pos => pe_glob (X := X.suite a ((a, oe) :: pn)) (h.x.gl gC) mC rfl (plainN_of pC).1
    have PVE : ∀ pos, PE (X.suite a ((a, oe) :: pn)) (.Name "ValueError" pos) (tC (.ty "ValueError")) := fun pos => pe_bltn (X := X.suite a ((a, oe) :: pn)) (h.x.gl gV) mV (by decide +kernel) rfl (by decide +kernel) (by decide +kernel)
    have E1 := fun p p1 p2 pos => pe_callB (X := X.suite a ((a, oe) :: pn)) (p := p) (pos := pos) (call_isE EC hz hf) (h.x.gl gI) mI (by decide +kernel) (pa_cons (PV p1) (pa_cons (PA' p2) pa_nil)) (by decide +kernel) (by decide +kernel)
    have E2 := fun p p1 p2 p3 p4 kk pos => pe_callB (X := X.suite a ((a, oe) :: pn)) (p := p) (pos := pos) (call_isET EC hz hf) (h.x.gl gI) mI (by decide +kernel) (pa_cons (PV p1) (pa_cons (pe_tup (x1 := kk) (pos := p4) (pa_cons (PB p2) (pa_cons (PC p3) pa_nil))) pa_nil)) (by decide +kernel) (by decide +kernel)
    have E3 := fun p p1 p2 pos => pe_callB (X := X.suite a ((a, oe) :: pn)) (p := p) (pos := pos) (call_isE EC hz hf) (h.x.gl gI) mI (by decide +kernel) (pa_cons (PV p1) (pa_cons (PVE p2) pa_nil)) (by decide +kernel) (by decide +kernel)
    refine ⟨(pe_and (E1 _ _ _ _) (pe_and (pe_not (E2 _ _ _ _ _ _ _)) (pe_one (E3 _ _ _ _)))).impW fun σ H Q ⟨hs, hq⟩ => ?_, fun _ _ _ => rfl, ?_⟩
    · refine ⟨_, hs, _, _, true, rfl, fun u r => r, (h.tr.one c hc).1, true, rfl, iteT ?_⟩
      refine ⟨_, hs, show 2 ≤ sizeLine by decide, fun p np => ⟨p, _, _, false, rfl, upd_same, .cons (.own _) (.cons (.own _) .nil), h.tr.oth c c2 c3 hc l2 l3 h2 h3, false, rfl, true, rfl, iteT ?_⟩⟩
      exact ⟨_, hs, _, _, true, rfl, fun u r => r, (h.tr.one c hc).2, hq p np⟩
    · refine (PW.pt (pw_and (pt_truth (E1 _ _ _ _) fun _ => rfl) (pw_and (pt_not (pt_truth (E2 _ _ _ _ _ _ _) fun _ => rfl)) (pw_and1 (pt_truth (E3 _ _ _ _) fun _ => rfl))))).impW fun σ H Q ⟨hs, hq⟩ => ?_
      refine ⟨_, hs, _, _, true, rfl, fun u r => r, (h.tr.one c hc).1, true, rfl, iteT ?_⟩
      refine ⟨_, hs, show 2 ≤ sizeLine by decide, fun p np => ⟨p, _, _, false, rfl, upd_same, .cons (.own _) (.cons (.own _) .nil), h.tr.oth c c2 c3 hc l2 l3 h2 h3, false, rfl, iteT ?_⟩⟩
      exact ⟨_, hs, _, _, true, rfl, fun u r => r, (h.tr.one c hc).2, true, rfl, hq p np⟩
  · cases q
theorem ps_try_isT (h : SOk X C k Φ cs clsN clsA W) {b : Ss} {c c2 c3 i j : Nat} {body : List Stmt} {x y n : Str} {v : Expr} {np py pc pos pos' : Pos} {ca : Addr} (hi : C.N[i]? = some y) (ha : C.asn y = true) (hj : C.N[j]? = some n) (hn : C.sc.names.lookup n = some .local) (hij : i ≠ j) (hcl : c < clsN.length) (n2 : c2 ≠ c) (n3 : c3 ≠ c) (hv : exIs C.sc clsN c c2 c3 n v = true)
    (hx : Names X x (.ref ca)) (hm : PySem.W.exmOne X.K (.ref (clsA c)) (.ref ca) = some true)
    (hb : ∀ (W0 : WX) (pn : List (Addr × Obj)) (xe : Value → Shared → Prop), Takes (X.tr pn xe) W0 → PassesOwn (model X.prog X.w) X.A X.env xe → PSs (X.tr pn xe) body (tBody X clsA F0 H0 (exs Φ cs b) W0)) :
    PS X (.Try body [.ExceptHandler (some (.Name x np)) (some n) [.Assign [.Name y py] v pc] pos'] [] [] pos) (tS X.K W F0 H0 (ex Φ cs (.try_ b c i (.isT c2 c3 j)))) := by
  obtain ⟨a1, a2⟩ := h.x.asn y ha
  have hN : X.N.Nodup := by rw [h.x.N]; exact h.x.nd
  have hi' : X.N[i]? = some y := by rw [h.x.N]; exact hi
  have hj' : X.N[j]? = some n := by rw [h.x.N]; exact hj
  have hn' : X.env.scope.names.lookup n = some .local := by rw [h.x.sc]; exact hn
  let ts : Addr → Value → Option Addr → TS := fun a cls d Dn σ H => cls = .ref (clsA c) ∧ d = none ∧ σ[j]? = some (some (.ref a)) ∧ ∀ p, H p = none → Dn.nx (σ.set i (some (.bl true))) (upd H p (.tup [.ref (clsA c2), .ref (clsA c3)]))
  have su : ∀ (a : Addr) (oe : Obj) (cls : Value) (d : Option Addr) (pn : List (Addr × Obj)), Zc cls d oe → (∃ vs, oe.data = .fields vs) → PSs (X.suite a ((a, oe) :: pn)) [.Assign [.Name y py] v pc] (ts a cls d) := fun a oe cls d pn hz hf => ⟨fun pins s σ H Dn I w => by
    obtain ⟨rfl, rfl, w1, w2⟩ := w
    have P := pe_exIs h hcl n2 n3 hj' hn' hv (pn := pn) (a := a) hz hf
    exact (pss_one (ps_set (X := X.suite a ((a, oe) :: pn)) hN hi' a1 P.1 (P.2.1 _ _ _) a2)).run pins s σ H Dn I ⟨w1, w2⟩⟩
  refine (ps_try_as (c := .ref ca) (i := j) (Wout := WXof clsA W) (tb := tBody X clsA F0 H0 (exs Φ cs b)) (ts := ts) h.stk h.frm hN hj' hn' hx h.x.takes hb su).impI fun Dn σ H hl ⟨env, F, rs, k⟩ => ⟨env, F, rs, ?_⟩
  have k' : KS X.K W F0 H0 Dn F (handD c i (.isT c2 c3 j) env.length (exs Φ cs b env)) := k
  cases z : exs Φ cs b env with
  | ok f =>
    rw [z] at k'
    cases f <;> exact k'
  | stuck => rw [z] at k'; exact k'
  | exn c' =>
    rw [z] at k'
    obtain ⟨hc, k2⟩ := KS.need k'
    obtain ⟨hn, k3⟩ := KS.need k2
    have e0 := of_decide_eq_true hc
    subst e0
    have hl2 := of_decide_eq_true hn
    intro F' H' e' s' σ' l'
    have jl : j < σ'.length := by rw [l']; exact (List.getElem?_eq_some_iff.mp hj').1
    have il : i < σ'.length := by rw [l']; exact (List.getElem?_eq_some_iff.mp hi').1
    refine ⟨true, hm, fun _ a ha => ⟨rfl, rfl, List.getElem?_set_self jl, fun p np => ?_⟩, fun q => nomatch q⟩
    refine k3 _ F' _ (RS.one (e'.trans (Ext.fresh e'.sub np)) rs.tab0 ?_ hl2 (v := .bl true) ?_ (.bl true)) s'
    · rw [List.length_set, List.length_set, List.length_set, l', ← hl, rs.len]
    · rw [List.getElem?_set_ne (Ne.symm hij)]
      exact List.getElem?_set_self (by rw [List.length_set]; exact il)
theorem ps_try_nonI (h : SOk X C k Φ cs clsN clsA W) {b : Ss} {c c2 c3 i j : Nat} {body : List Stmt} {x y n : Str} {v : Expr} {np py pv pc pi pos pos' : Pos} {jc : Nat} {ca : Addr} (hi : C.N[i]? = some y) (ha : C.asn y = true) (hj : C.N[j]? = some n) (hn : C.sc.names.lookup n = some .local) (hij : i ≠ j) (hcl : c < clsN.length) (n2 : c2 ≠ c) (n3 : c3 ≠ c) (hv : exIs C.sc clsN c c2 c3 n v = true)
    (hx : Names X x (.ref ca)) (hm : PySem.W.exmOne X.K (.ref (clsA c)) (.ref ca) = some true)
    (hb : ∀ (W0 : WX) (pn : List (Addr × Obj)) (xe : Value → Shared → Prop), Takes (X.tr pn xe) W0 → PassesOwn (model X.prog X.w) X.A X.env xe → PSs (X.tr pn xe) body (tBody X clsA F0 H0 (exs Φ cs b) W0)) :
    PS X (.Try body [.ExceptHandler (some (.Name x np)) (some n) [.If v [.Assign [.Name y py] (.Constant .none jc pv) pc] [] pi] pos'] [] [] pos) (tS X.K W F0 H0 (ex Φ cs (.try_ b c i (.nonI c2 c3 j)))) := by
  obtain ⟨a1, a2⟩ := h.x.asn y ha
  have hN : X.N.Nodup := by rw [h.x.N]; exact h.x.nd
  have hi' : X.N[i]? = some y := by rw [h.x.N]; exact hi
  have hj' : X.N[j]? = some n := by rw [h.x.N]; exact hj
  have hn' : X.env.scope.names.lookup n = some .local := by rw [h.x.sc]; exact hn
  let ts : Addr → Value → Option Addr → TS := fun a cls d Dn σ H => cls = .ref (clsA c) ∧ d = none ∧ σ[j]? = some (some (.ref a)) ∧ ∀ p, H p = none → Dn.nx (σ.set i (some .non)) (upd H p (.tup [.ref (clsA c2), .ref (clsA c3)]))
  have su : ∀ (a : Addr) (oe : Obj) (cls : Value) (d : Option Addr) (pn : List (Addr × Obj)), Zc cls d oe → (∃ vs, oe.data = .fields vs) → PSs (X.suite a ((a, oe) :: pn)) [.If v [.Assign [.Name y py] (.Constant .none jc pv) pc] [] pi] (ts a cls d) := fun a oe cls d pn hz hf => ⟨fun pins s σ H Dn I w => by
    obtain ⟨rfl, rfl, w1, w2⟩ := w
    have P := pe_exIs h hcl n2 n3 hj' hn' hv (pn := pn) (a := a) hz hf
    exact (pss_one (ps_if (X := X.suite a ((a, oe) :: pn)) P.2.2 (pss_one (ps_set (X := X.suite a ((a, oe) :: pn)) hN hi' a1 pe_non rfl a2)) pss_nil)).run pins s σ H Dn I ⟨w1, fun p np => iteT (w2 p np)⟩⟩
  refine (ps_try_as (c := .ref ca) (i := j) (Wout := WXof clsA W) (tb := tBody X clsA F0 H0 (exs Φ cs b)) (ts := ts) h.stk h.frm hN hj' hn' hx h.x.takes hb su).impI fun Dn σ H hl ⟨env, F, rs, k⟩ => ⟨env, F, rs, ?_⟩
  have k' : KS X.K W F0 H0 Dn F (handD c i (.nonI c2 c3 j) env.length (exs Φ cs b env)) := k
  cases z : exs Φ cs b env with
  | ok f =>
    rw [z] at k'
    cases f <;> exact k'
  | stuck => rw [z] at k'; exact k'
  | exn c' =>
    rw [z] at k'
    obtain ⟨hc, k2⟩ := KS.need k'
    obtain ⟨hn, k3⟩ := KS.need k2
    have e0 := of_decide_eq_true hc
    subst e0
    have hl2 := of_decide_eq_true hn
    intro F' H' e' s' σ' l'
    have jl : j < σ'.length := by rw [l']; exact (List.getElem?_eq_some_iff.mp hj').1
    have il : i < σ'.length := by rw [l']; exact (List.getElem?_eq_some_iff.mp hi').1
    refine ⟨true, hm, fun _ a ha => ⟨rfl, rfl, List.getElem?_set_self jl, fun p np => ?_⟩, fun q => nomatch q⟩
    refine k3 _ F' _ (RS.one (e'.trans (Ext.fresh e'.sub np)) rs.tab0 ?_ hl2 (v := .non) ?_ .non) s'
    · rw [List.length_set, List.length_set, List.length_set, l', ← hl, rs.len]
    · rw [List.getElem?_set_ne (Ne.symm hij)]
      exact List.getElem?_set_self (by rw [List.length_set]; exact il)
theorem ps_try_ok (h : SOk X C k Φ cs clsN clsA W) {b : Ss} {c i : Nat} {hd : Hd} {st : Stmt} (q : chkS C clsN (.try_ b c i hd) st = true)
    (hb : ∀ (body : List Stmt), chkSs C clsN b body = true → ∀ (Y : Cx) (W' : Nat → Hp → Prop), SOk Y C k Φ cs clsN clsA W' → PSs Y body (tS Y.K W' F0 H0 (exs Φ cs b))) : PS X st (tS X.K W F0 H0 (ex Φ cs (.try_ b c i hd))) := by
  unfold chkS at q
  split at q <;> first | (exact Bool.noConfusion q) | skip
  all_goals try (rename_i e1; cases e1)
  rename_i body x px nm suite p2 p3
  rw [Bool.and_eq_true, Bool.and_eq_true, Bool.and_eq_true, Bool.and_eq_true] at q
  obtain ⟨⟨⟨⟨q1, q2⟩, q3⟩, q4⟩, q5⟩ := q
  rw [Bool.and_eq_true] at q3
  have hcl := of_decide_eq_true q4
  have HB : ∀ (W0 : WX) (pn : List (Addr × Obj)) (xe : Value → Shared → Prop), Takes (X.tr pn xe) W0 → PassesOwn (model X.prog X.w) X.A X.env xe → PSs (X.tr pn xe) body (tBody X clsA F0 H0 (exs Φ cs b) W0) := fun W0 pn xe tk ow => hb body q1 (X.tr pn xe) _ (h.tr' tk ow)
  have HC : ∃ ca, Names X x (.ref ca) ∧ PySem.W.exmOne X.K (.ref (clsA c)) (.ref ca) = some true := by
    rw [Bool.or_eq_true] at q2
    rcases q2 with q2 | q2
    · exact ⟨clsA c, ⟨h.x.gl q3.1, (plainN_of q3.2).1, .inl (h.tr.nm c x (of_decide_eq_true q2))⟩, h.tr.self c hcl⟩
    · obtain ⟨wa, m1, m2⟩ := h.tr.top c hcl
      have e0 := of_decide_eq_true q2
      subst e0
      exact ⟨wa, ⟨h.x.gl q3.1, (plainN_of q3.2).1, .inl m1⟩, m2⟩
  obtain ⟨ca, hN, hM⟩ := HC
  unfold chkH at q5
  split at q5
  · rw [Bool.and_eq_true] at q5
    exact ps_try_setT h (of_decide_eq_true q5.1) q5.2 hN hM HB
  · exact ps_try_retT h hN hM HB
  · simp only [Bool.and_eq_true, decide_eq_true_eq] at q5
    obtain ⟨⟨⟨g1, g2⟩, ⟨g3, g4⟩, g5⟩, ⟨g6, g7⟩, g8⟩ := q5
    exact ps_try_isT h g1 g2 g3 g4 g5 hcl g6 g7 g8 hN hM HB
  · simp only [Bool.and_eq_true, decide_eq_true_eq] at q5
    obtain ⟨⟨⟨g1, g2⟩, ⟨g3, g4⟩, g5⟩, ⟨g6, g7⟩, g8⟩ := q5
    exact ps_try_nonI h g1 g2 g3 g4 g5 hcl g6 g7 g8 hN hM HB
  · exact Bool.noConfusion q5
end
end MW

set_option maxRecDepth 100000
set_option maxHeartbeats 1000000
/-! Part 2n: loops, blocks, defs. -/
namespace MW
open PySem PySem.Spec PyProof.Rows L2
open Res
variable [Lam]
section
variable {X : Cx} {C : Cfg} {k : Nat} {Φ : Phi} {cs : Nat → Res D} {clsN : List Str} {clsA : Nat → Addr} {W : Nat → Hp → Prop} {F0 H0 : Hp}
theorem ps_ite_ok {t : E} {a b : Ss} {t' : Expr} {a' b' : List Stmt} {pos : Pos} (ht : PT X t' (tT X.K W F0 H0 (tst Φ cs t))) (ha : PSs X a' (tS X.K W F0 H0 (exs Φ cs a))) (hb : PSs X b' (tS X.K W F0 H0 (exs Φ cs b))) : PS X (.If t' a' b' pos) (tS X.K W F0 H0 (ex Φ cs (.ite t a b))) := by
  refine (ps_if ht ha hb).impW fun Dn σ H ⟨env, F, rs, k⟩ => ⟨env, F, rs, (KS.bind rs k).imp fun F1 H1 c e1 k1 => ?_⟩
  cases c with
  | true => exact iteT ⟨env, F1, rs.more e1, k1⟩
  | false => exact iteF ⟨env, F1, rs.more e1, k1⟩
theorem ps_whl_ok {t : E} {b : Ss} {t' : Expr} {b' : List Stmt} {pos : Pos} (hp : PassesOwn (model X.prog X.w) X.A X.env X.xe) (ht : PT X t' (tT X.K W F0 H0 (tst Φ cs t))) (hb : PSs X b' (tS X.K W F0 H0 (exs Φ cs b))) : PS X (.While t' b' [] pos) (tS X.K W F0 H0 (ex Φ cs (.whl t b))) := by
  refine (ps_while hp ht hb).impW fun Dn σ H ⟨env, F, rs, k⟩ => ?_
  refine ⟨fun m σ H => ∃ env F, RS X.K F0 H0 F H σ env ∧ KS X.K W F0 H0 Dn F (whileL (tst Φ cs t) (exs Φ cs b) m env), ⟨wmax, env, F, rs, k⟩, ?_⟩
  rintro m σ H ⟨env, F, rs, k⟩
  cases m with
  | zero => exact KS.no k
  | succ n =>
    refine ⟨env, F, rs, (KS.bind rs k).imp fun F1 H1 c e1 k1 => ?_⟩
    cases c with
    | false => exact iteF (k1 σ F1 H1 (rs.more e1) (Same.refl F1))
    | true =>
      refine iteT ⟨fun σ' H' => ∃ env F, RS X.K F0 H0 F H' σ' env ∧ KS X.K W F0 H0 Dn F (whileL (tst Φ cs t) (exs Φ cs b) n env), fun σ' H' q => ⟨n, Nat.lt_succ_self n, q⟩, env, F1, rs.more e1, ?_⟩
      replace k1 : KS X.K W F0 H0 Dn F1 ((exs Φ cs b env).bind fun f => match f with
        | .next env' => whileL (tst Φ cs t) (exs Φ cs b) n env'
        | .cnt env' => whileL (tst Φ cs t) (exs Φ cs b) n env'
        | .brk env' => .ok (.next env')
        | .ret d => .ok (.ret d)) := k1
      cases z : exs Φ cs b env with
      | ok f =>
        rw [z] at k1
        cases f with
        | next env' => exact fun σ' F' H' rs' s' => ⟨env', F', rs', KS.mono k1 s'⟩
        | cnt env' => exact fun σ' F' H' rs' s' => ⟨env', F', rs', KS.mono k1 s'⟩
        | brk env' => exact k1
        | ret d => exact k1
      | exn c => rw [z] at k1; exact k1
      | stuck => rw [z] at k1; exact k1
theorem ps_for_ok {g : G} {ik : IK} {ia : Es} {b : Ss} {tg iter : Expr} {b' : List Stmt} {pos : Pos} (hp : PassesOwn (model X.prog X.w) X.A X.env X.xe) (hc : X.calm = true) (hi : PI X tg iter (tI X.K W F0 H0 true (gI Φ cs ik ia))) (hg : PG X tg (tG X.K F0 H0 (slotsG g) (bindG g)))
    (hb : PSs X b' (tS X.K W F0 H0 (exs Φ cs b))) (hs : ∀ x, foldedSetIterable iter X.env x = pure x) : PS X (.For tg iter b' [] pos) (tS X.K W F0 H0 (ex Φ cs (.for g ik ia b))) := by
  refine (ps_for hp hc hi hg hb hs).impW fun Dn σ H ⟨env, F, rs, k⟩ => ?_
  have e0 : ex Φ cs (.for g ik ia b) env = (gI Φ cs ik ia env).bind fun xs => forL (bindG g) (exs Φ cs b) xs env := by
    show (evs Φ cs ia env).bind (fun ds => (iterD ik ds).bind fun xs => forL (bindG g) (exs Φ cs b) xs env) = _
    unfold gI
    rw [bind_assoc]
  rw [e0] at k
  refine ⟨env, F, rs, (KS.bind rs k).imp fun F1 H1 ds e1 k1 J wk => ?_⟩
  refine ⟨fun i m σ H => m = ds.length - i ∧ i ≤ ds.length ∧ ∃ env F, RS X.K F0 H0 F H σ env ∧ Same F1 F ∧ KS X.K W F0 H0 Dn F (forL (bindG g) (exs Φ cs b) (ds.drop i) env), ⟨ds.length, by simp, Nat.zero_le _, env, F1, rs.more e1, Same.refl F1, k1⟩, ?_⟩
  rintro i m σ H ⟨rfl, hle, env, F, rs, sF, k⟩
  obtain ⟨w1, w2, w3⟩ := wk F H sF rs.ext.sub (sameN_of (sF.trans rs.ext.sub))
  by_cases hlt : i < ds.length
  · have hd : ds[i]? = some ds[i] := by simp [hlt]
    rw [List.drop_eq_getElem_cons hlt] at k
    refine .inr ⟨w1 i hlt, fun σ' H' => ∃ env F, RS X.K F0 H0 F H' σ' env ∧ Same F1 F ∧ KS X.K W F0 H0 Dn F (forL (bindG g) (exs Φ cs b) (ds.drop (i + 1)) env), fun σ' H' q => ⟨ds.length - (i + 1), by omega, rfl, hlt, q⟩, fun x H' y => ?_⟩
    obtain ⟨F2, ex2, rx⟩ := w3 i _ x H' hd y
    replace k : KS X.K W F0 H0 Dn F ((bindG g ds[i] env).bind fun env' => (exs Φ cs b env').bind fun f => match f with
      | .next env' => forL (bindG g) (exs Φ cs b) (ds.drop (i + 1)) env'
      | .cnt env' => forL (bindG g) (exs Φ cs b) (ds.drop (i + 1)) env'
      | .brk env' => .ok (.next env')
      | .ret d => .ok (.ret d)) := k
    cases z1 : bindG g ds[i] env with
    | exn c => exact absurd z1 (bindG_no g _ env c)
    | stuck => rw [z1] at k; exact KS.no k
    | ok env' =>
      rw [z1] at k
      refine ⟨env, F2, _, rs.more ex2, rx, env', z1, fun σ' rs' _ => ⟨env', F2, rs', ?_⟩⟩
      have k2 := KS.mono k ex2.f
      replace k2 : KS X.K W F0 H0 Dn F2 ((exs Φ cs b env').bind fun f => match f with
        | .next env' => forL (bindG g) (exs Φ cs b) (ds.drop (i + 1)) env'
        | .cnt env' => forL (bindG g) (exs Φ cs b) (ds.drop (i + 1)) env'
        | .brk env' => .ok (.next env')
        | .ret d => .ok (.ret d)) := k2
      have sF2 : Same F1 F2 := sF.trans ex2.f
      cases z : exs Φ cs b env' with
      | ok f =>
        rw [z] at k2
        cases f with
        | next env2 => exact fun σ2 F3 H3 rs3 s3 => ⟨env2, F3, rs3, sF2.trans s3, KS.mono k2 s3⟩
        | cnt env2 => exact fun σ2 F3 H3 rs3 s3 => ⟨env2, F3, rs3, sF2.trans s3, KS.mono k2 s3⟩
        | brk env2 => exact k2
        | ret d => exact k2
      | exn c => rw [z] at k2; exact k2
      | stuck => rw [z] at k2; exact k2
  · have e : i = ds.length := by omega
    subst e
    rw [List.drop_length] at k
    exact .inl ⟨w2, k σ F H rs (Same.refl F)⟩
theorem for_split {g : G} {ik : IK} {ia : Es} {b : Ss} {st : Stmt} (q : chkS C clsN (.for g ik ia b) st = true) : ∃ tg iter b' pos xs, st = .For tg iter b' [] pos ∧ chkG C g tg = true ∧ itArgs C ik tg iter = some xs ∧ chks C .val ia xs = true ∧ chkSs C clsN b b' = true := by
  cases st with
  | For tg iter b' els pos =>
    cases els with
    | nil =>
      have q' : (chkG C g tg && (match (generalizing := false) itArgs C ik tg iter with | some xs => chks C .val ia xs | none => false) && chkSs C clsN b b') = true := q
      rw [Bool.and_eq_true, Bool.and_eq_true] at q'
      obtain ⟨⟨q1, q2⟩, q3⟩ := q'
      cases z : itArgs C ik tg iter with
      | none => rw [z] at q2; exact Bool.noConfusion q2
      | some xs => rw [z] at q2; exact ⟨tg, iter, b', pos, xs, rfl, q1, z, q2, q3⟩
    | cons _ _ => exact Bool.noConfusion q
  | _ => exact Bool.noConfusion q
theorem seq_read {s : S} {r : Ss} {Dn : Ends} {σ : L2.St} {H : Hp} {K : PySem.W.Frag} (h : tS K W F0 H0 (exs Φ cs (.cons s r)) Dn σ H) : tSeq (tS K W F0 H0 (ex Φ cs s)) (tS K W F0 H0 (exs Φ cs r)) Dn σ H := by
  obtain ⟨env, F, rs, k⟩ := h
  refine ⟨env, F, rs, ?_⟩
  replace k : KS K W F0 H0 Dn F ((ex Φ cs s env).bind fun f => match f with
    | .next env' => exs Φ cs r env'
    | f => .ok f) := k
  cases z : ex Φ cs s env with
  | ok f =>
    rw [z] at k
    cases f with
    | next env' => exact fun σ' F' H' rs' s' => ⟨env', F', rs', KS.mono k s'⟩
    | cnt env' => exact k
    | brk env' => exact k
    | ret d => exact k
  | exn c => rw [z] at k; exact k
  | stuck => rw [z] at k; exact k
theorem frz_read {i : Nat} {r : Ss} {Dn : Ends} {σ : L2.St} {H : Hp} {K : PySem.W.Frag} (h : tS K W F0 H0 (exs Φ cs (.cons (.frz i) r)) Dn σ H) : tS K W F0 H0 (exs Φ cs r) Dn σ H := by
  obtain ⟨env, F, rs, k⟩ := h
  replace k : KS K W F0 H0 Dn F ((match env[i]? with
    | some (some (.own d)) => Res.ok (Fl.next (env.set i (some (.val d))))
    | _ => .ok (.next env)).bind fun f => match f with
    | .next env' => exs Φ cs r env'
    | f => .ok f) := k
  split at k
  · rename_i d hd
    obtain ⟨F', rs', s'⟩ := rs.freeze hd
    exact ⟨_, F', rs', KS.mono k s'⟩
  · exact ⟨env, F, rs, k⟩
mutual
theorem st_ok (hkd : C.sc.kind = .function) : ∀ (s : S) (st : Stmt), chkS C clsN s st = true → ∀ (X : Cx) (W : Nat → Hp → Prop), SOk X C k Φ cs clsN clsA W → PS X st (tS X.K W F0 H0 (ex Φ cs s))
  | .asg i e, st, q, X, W, h => ps_asg_ok h q
  | .asgO i e, st, q, X, W, h => ps_asgO_ok h q
  | .asgT g e, st, q, X, W, h => ps_asgT_ok h q
  | .par i j a b, st, q, X, W, h => ps_par_ok h hkd q
  | .app i e, st, q, X, W, h => ps_app_ok h q
  | .ext i e, st, q, X, W, h => ps_ext_ok h q
  | .put i a b, st, q, X, W, h => ps_put_ok h q
  | .frz i, st, q, X, W, h => by cases st <;> exact Bool.noConfusion q
  | .ret e, st, q, X, W, h => ps_ret_ok h q
  | .ite t a b, st, q, X, W, h => by
    cases st with
    | If t' a' b' pos =>
      have q' : (chk C .tst t t' && chkSs C clsN a a' && chkSs C clsN b b') = true := q
      rw [Bool.and_eq_true, Bool.and_eq_true] at q'
      exact ps_ite_ok ((se_all t (F0 := F0) (H0 := H0) h.x t').2.2 q'.1.1) (ss_ok hkd a a' q'.1.2 X W h) (ss_ok hkd b b' q'.2 X W h)
    | _ => exact Bool.noConfusion q
  | .whl t b, st, q, X, W, h => by
    cases st with
    | While t' b' els pos =>
      cases els with
      | nil =>
        have q' : (chk C .tst t t' && chkSs C clsN b b') = true := q
        rw [Bool.and_eq_true] at q'
        exact ps_whl_ok h.own ((se_all t (F0 := F0) (H0 := H0) h.x t').2.2 q'.1) (ss_ok hkd b b' q'.2 X W h)
      | cons _ _ => exact Bool.noConfusion q
    | _ => exact Bool.noConfusion q
  | .for g ik ia b, st, q, X, W, h => by
    obtain ⟨tg, iter, b', pos, xs, rfl, q1, q2, q3, q4⟩ := for_split q
    exact ps_for_ok h.own h.x.calm (pi_of (F0 := F0) (H0 := H0) (strong := true) h.x (sit_all ia) q2 q3) (pg_ok (F0 := F0) (H0 := H0) h.x g tg q1) (ss_ok hkd b b' q4 X W h) (fun v => it_fold q2 q3 X.env v)
  | .brk, st, q, X, W, h => by
    cases st with
    | Break pos => exact ps_break.impW fun Dn σ H ⟨env, F, rs, k⟩ => k σ F H rs (Same.refl F)
    | _ => exact Bool.noConfusion q
  | .cnt, st, q, X, W, h => by
    cases st with
    | Continue pos => exact ps_continue.impW fun Dn σ H ⟨env, F, rs, k⟩ => k σ F H rs (Same.refl F)
    | _ => exact Bool.noConfusion q
  | .pass, st, q, X, W, h => by
    cases st with
    | Pass pos => exact ps_pass.impW fun Dn σ H ⟨env, F, rs, k⟩ => k σ F H rs (Same.refl F)
    | _ => exact Bool.noConfusion q
  | .expr e, st, q, X, W, h => ps_expr_ok h q
  | .raise c, st, q, X, W, h => ps_raise_ok h q
  | .halt, st, q, X, W, h => ⟨fun _ _ _ _ _ _ z => by obtain ⟨_, _, _, k⟩ := z; exact k.elim⟩
  | .try_ b c i hd, st, q, X, W, h => ps_try_ok h q fun body q1 Y W' hY => ss_ok hkd b body q1 Y W' hY
theorem ss_ok (hkd : C.sc.kind = .function) : ∀ (b : Ss) (sts : List Stmt), chkSs C clsN b sts = true → ∀ (X : Cx) (W : Nat → Hp → Prop), SOk X C k Φ cs clsN clsA W → PSs X sts (tS X.K W F0 H0 (exs Φ cs b))
  | .nil, sts, q, X, W, h => by
    cases sts with
    | nil => exact pss_nil.impW fun Dn σ H ⟨env, F, rs, k⟩ => k σ F H rs (Same.refl F)
    | cons _ _ => exact Bool.noConfusion q
  | .cons s r, sts, q, X, W, h => by
    by_cases hf : ∃ i, s = .frz i
    · obtain ⟨i, rfl⟩ := hf
      have q' : chkSs C clsN r sts = true := by
        cases sts <;> exact q
      exact (ss_ok hkd r sts q' X W h).impW fun Dn σ H w => frz_read w
    · cases sts with
      | nil =>
        cases s with
        | frz i => exact absurd ⟨i, rfl⟩ hf
        | _ => exact Bool.noConfusion q
      | cons st sts =>
        have q' : (chkS C clsN s st && chkSs C clsN r sts) = true := by
          cases s with
          | frz i => exact absurd ⟨i, rfl⟩ hf
          | _ => exact q
        rw [Bool.and_eq_true] at q'
        exact (pss_cons (st_ok hkd s st q'.1 X W h) (ss_ok hkd r sts q'.2 X W h)).impW fun Dn σ H w => seq_read w
end
end

/-! ### a def -/
theorem RS.start {K : PySem.W.Frag} {F H : Hp} {N : List Str} {vs : List V} {ds : List D} (s : Same F H) (r : RpAll K F vs ds) (t : TabF F H) : RS K F H F H (L2.start N vs) (startE N.length ds) where
  tab0 := t
  ext := Ext.refl s
  len := by
    unfold startE L2.start
    rw [List.length_append, List.length_append, List.length_map, List.length_map, List.length_replicate, List.length_replicate, r.length]
  val := fun i d h => by
    unfold startE at h
    unfold L2.start
    by_cases hi : i < ds.length
    · rw [List.getElem?_append_left (by rw [List.length_map]; exact hi), List.getElem?_map] at h
      rw [List.getElem?_append_left (by rw [List.length_map, r.length]; exact hi), List.getElem?_map]
      cases q : ds[i]? with
      | none => rw [q] at h; cases h
      | some d' =>
        rw [q] at h
        cases h
        obtain ⟨y, h1, h2⟩ := r.get q
        exact ⟨y, by rw [h1]; rfl, h2⟩
    · rw [List.getElem?_append_right (by rw [List.length_map]; omega), List.getElem?_replicate] at h
      split at h <;> cases h
  own := fun i d h => by
    unfold startE at h
    by_cases hi : i < ds.length
    · rw [List.getElem?_append_left (by rw [List.length_map]; exact hi), List.getElem?_map] at h
      cases q : ds[i]? with
      | none => rw [q] at h; cases h
      | some d' => rw [q] at h; cases h
    · rw [List.getElem?_append_right (by rw [List.length_map]; omega), List.getElem?_replicate] at h
      split at h <;> cases h
  inj := fun i j d e a h _ _ _ => by
    unfold startE at h
    by_cases hi : i < ds.length
    · rw [List.getElem?_append_left (by rw [List.length_map]; exact hi), List.getElem?_map] at h
      cases q : ds[i]? with
      | none => rw [q] at h; cases h
      | some d' => rw [q] at h; cases h
    · rw [List.getElem?_append_right (by rw [List.length_map]; omega), List.getElem?_replicate] at h
      split at h <;> cases h
/-- the module's facts that every body uses -/
structure GOk (P : Program) (w : World) (K : PySem.W.Frag) (mg : Str → Option Value) (base : Heap) (k : Nat) (Φ : Phi) (cs : Nat → Res D) (fns csts clsN : List Str) (clsA : Nat → Addr) : Prop where
  fns : ∀ i x, fns[i]? = some x → ∃ fi : FI, mg x = some (.ref fi.f) ∧ PySem.W.keepIn K (.ref fi.f) = true ∧ Binds K fi.fd fi.ps [] ∧
    FnOk P w K mg base (L2.CX P w) k fi.f fi.fd fi.ps (spD K clsA fi.ps.length (Φ i)) ∧ ∀ ds : List D, ds.length ≠ fi.ps.length → Φ i ds = .stuck
  csts : ∀ i x, csts[i]? = some x → ∃ d v u, cs i = .ok d ∧ mg x = some u ∧ RelV v u ∧ ∀ F, Rp K F v d
  blt : ∀ x ∈ bltNames, mg x = none
  cls : ∀ c x, clsN[c]? = some x → ∀ X : Cx, X.K = K → X.mg = mg → Gl X x → ∀ (m : Str) (j : Nat) (p p2 pos : Pos), PMk X (.Call (.Name x p) [.Constant (.str m) j p2] [] pos) (fun _ H Q => Q (.ref (clsA c)) none H)
  tr : TryOk K mg clsN clsA
theorem okY {P : Program} {w : World} {K : PySem.W.Frag} {mg : Str → Option Value} {base : Heap} {k : Nat} {x qual : Str} {st : Stmt} {f : Addr} {fd : FuncData} {N ps : List Str} {sp : Sp} (F : Fun K x qual st f fd) (S : FnScope N ps (defScope st)) (len : ∀ vs H Q E, sp vs H Q E → vs.length = ps.length)
    (hbody : ∀ (cdv : Value) (A : Around) (outer : List PySem.Env) (s : Shared) (H : Hp) (vs : List V) (Q : VK) (E : XK), fd.code = cdv → Room (k + 1) A → Room k (A.deeper (envOfC qual (defScope st) s.heap.objs.size f cdv)) → sp vs H Q E → ∃ t, PSs (cxOf (L2.CX P w) P w K mg base N qual (defScope st) f cdv A outer s H E) (defBody st) t ∧ t { nx := fun _ H' => Q .non H', rt := Q } (L2.start N vs) H) :
    FnOk P w K mg base (L2.CX P w) (k + 1) f fd ps sp := by
  obtain ⟨oc, od, kV, doc, pm, an, cdv, ct, osl, rfl, lk, hcd⟩ := F.ex
  exact ⟨len, fun A outer s H args us vs Q E hr e0 hb r hsp => LamX.run_ofS lk hcd S hr e0 hb r (len _ _ _ _ hsp) fun hr' => hbody cdv A outer s H vs Q E rfl hr hr' hsp⟩
theorem def_ok {P : Program} {w : World} {K : PySem.W.Frag} {mg : Str → Option Value} {base : Heap} {k : Nat} {Φ : Phi} {cs : Nat → Res D} {fns csts clsN : List Str} {clsA : Nat → Addr} (G : GOk P w K mg base k Φ cs fns csts clsN clsA)
    {x qual : Str} {st : Stmt} {f : Addr} {fd : FuncData} {N ps : List Str} {b : Ss} {lam : Bool} (F : Fun K x qual st f fd) (S : FnScope N ps (defScope st)) (hb : chkSs ⟨N, defScope st, locB (defScope st), fns, csts, lam⟩ clsN b (defBody st) = true)
    (hlam : lam = true → Lam.on = true ∧ (∃ c, fd.code = .ref c ∧ LamX.TabB base mg c Lam.P) ∧ qual ++ ".<locals>." ++ "<lambda>" = Lam.nm) :
    FnOk P w K mg base (L2.CX P w) (k + 1) f fd ps (spD K clsA ps.length (runF Φ cs N.length ps.length b)) := by
  refine okY F S (fun vs H Q E h => h.1) fun cdv A outer s H vs Q E hcd hrA hr h => ?_
  obtain ⟨hl, F1, ds, sub, ra, tb, k1⟩ := h
  obtain ⟨hz, k2⟩ := KR.need k1
  refine ⟨tS K (fun c H' => E (.ref (clsA c)) none H') F1 H (exs Φ cs b), ?_, startE N.length ds, F1, RS.start sub ra tb, ?_⟩
  · refine ss_ok (k := k) (C := ⟨N, defScope st, locB (defScope st), fns, csts, lam⟩) (clsN := clsN) (clsA := clsA) S.kind b _ hb _ _ ⟨⟨rfl, S.nd, rfl, fun x q => ⟨locB_of q, .inl rfl⟩, rfl, G.fns, G.csts, G.blt, hr, fun z => ?_, ?_⟩, ?_, fun c x q X' e1 e2 hg => G.cls c x q X' e1 e2 hg, rfl, rfl, G.tr⟩
    · obtain ⟨l1, ⟨c, l2, l3⟩, l4⟩ := hlam z
      refine ⟨l1, ⟨c, hcd.symm.trans l2, l3⟩, l4, ?_, ?_⟩
      · have := hrA.dp
        show A.depth + 1 + 3 * k + 7 < recursionLimit
        omega
      · have := hrA.un
        show A.units + 3 + 16 * k + 213 < cLine
        omega
    · exact Takes.imp (takes_of (E := E) rfl rfl rfl rfl) fun cls d σ H ⟨c, e1, e2, q⟩ => by subst e1 e2; exact q
    · exact passes_of rfl
  · have k3 : KE K (fun c H' => E (.ref (clsA c)) none H') F1 H ((exs Φ cs b (startE N.length ds)).bind fun f => match f with
      | .next _ => .ok .none
      | .ret d => .ok d
      | _ => .stuck) Q := k2
    cases z : exs Φ cs b (startE N.length ds) with
    | ok fl =>
      rw [z] at k3
      cases fl with
      | next env' => exact fun σ' F' H' rs' s' => k3 F' H' rs'.ext .non .non
      | ret d => exact fun v F' H' e' s' r' => k3 F' H' e' v r'
      | brk env' => exact k3.elim
      | cnt env' => exact k3.elim
    | exn c => rw [z] at k3; exact fun F' H' e _ => k3 F' H' e
    | stuck => rw [z] at k3; exact k3.elim
end MW

set_option maxRecDepth 100000
set_option maxHeartbeats 1000000
/-! Part 2o: a table of defs; the end. -/
namespace MW
open PySem PySem.Spec PyProof.Rows L2
open Res
variable [Lam]
theorem kit_two {K : PySem.W.Frag} {t a b : Value} (h1 : PySem.W.kitOne K t a = some false) (h2 : PySem.W.kitOne K t b = some false) : PySem.W.kitAny K t [a, b] = some false := by
  unfold PySem.W.kitAny
  rw [h1]
  unfold PySem.W.kitAny
  rw [h2]
  rfl
structure Def where
  name : Str
  ps : List Str
  N : List Str
  st : Stmt
  b : Ss
  lam : Bool
  /-- a meaning that is proved by hand -/
  ext : Option (Nat → List D → Res D)
def Def.sem (d : Def) (cs : Nat → Res D) (k : Nat) (Φ : Phi) : List D → Res D := match d.ext with
  | some g => g k
  | none => runF Φ cs d.N.length d.ps.length d.b
theorem sem_none {d : Def} {cs : Nat → Res D} {k : Nat} {Φ : Phi} (h : d.ext = none) : d.sem cs k Φ = runF Φ cs d.N.length d.ps.length d.b := by
  unfold Def.sem
  rw [h]
def semT (tbl : List Def) (cs : Nat → Res D) (k i : Nat) (Φ : Phi) (ds : List D) : Res D := match tbl[i]? with
  | some d => d.sem cs k Φ ds
  | none => .stuck
def nodupB : List Str → Bool
  | [] => true
  | x :: r => !(r.contains x) && nodupB r
theorem nodupB_of : ∀ {l : List Str}, nodupB l = true → l.Nodup
  | [], _ => List.nodup_nil
  | x :: r, h => by
    unfold nodupB at h
    rw [Bool.and_eq_true] at h
    exact List.nodup_cons.mpr ⟨fun z => by
      have := h.1
      rw [List.contains_iff_mem.mpr z] at this
      exact Bool.noConfusion this, nodupB_of h.2⟩
def scopeB (N ps : List Str) (sc : Scope) : Bool :=
  decide (sc.kind = .function) && !sc.isCoroutine && !sc.isGenerator && nodupB N && decide (N.take ps.length = ps) && (ps.all fun x => locB sc x) && (sc.names.all fun y => decide (y.2 ≠ .free))
theorem scopeB_of {N ps : List Str} {sc : Scope} (h : scopeB N ps sc = true) : FnScope N ps sc := by
  unfold scopeB at h
  simp only [Bool.and_eq_true, decide_eq_true_eq, List.all_eq_true, Bool.not_eq_true'] at h
  obtain ⟨⟨⟨⟨⟨⟨h1, h2⟩, h3⟩, h4⟩, h5⟩, h6⟩, h7⟩ := h
  exact ⟨h1, h2, h3, nodupB_of h4, h5, fun x hx => locB_of (h6 x hx), fun y hy => h7 y hy⟩
/-- all that is looked at in the text alone -/
def tblB (tbl : List Def) (csts clsN : List Str) : Bool := tbl.all fun d => d.ext.isSome || (scopeB d.N d.ps (defScope d.st) && chkSs ⟨d.N, defScope d.st, locB (defScope d.st), tbl.map (·.name), csts, d.lam⟩ clsN d.b (defBody d.st))
/-- a def as it stands behind the top -/
structure DefAt (K : PySem.W.Frag) (mg : Str → Option Value) (base : Heap) (d : Def) (f : Addr) (fd : FuncData) : Prop where
  lam : d.lam = true → Lam.on = true ∧ (∃ c, fd.code = .ref c ∧ LamX.TabB base mg c Lam.P) ∧ d.name ++ ".<locals>." ++ "<lambda>" = Lam.nm
  mg : mg d.name = some (.ref f)
  F : Fun K d.name d.name d.st f fd
  binds : Binds K fd d.ps []
theorem runF_len {Φ : Phi} {cs : Nat → Res D} {n np : Nat} {b : Ss} {ds : List D} (h : ds.length ≠ np) : runF Φ cs n np b ds = .stuck := need_false (decide_eq_false h)
theorem tbl_ok {P : Program} {w : World} {K : PySem.W.Frag} {mg : Str → Option Value} {base : Heap} {cs : Nat → Res D} {tbl : List Def} {csts clsN : List Str} {clsA : Nat → Addr} (hB : tblB tbl csts clsN = true)
    (hD : ∀ (i : Nat) (d : Def), tbl[i]? = some d → ∃ f fd, DefAt K mg base d f fd) (hc : ∀ (i : Nat) (x : Str), csts[i]? = some x → ∃ d v u, cs i = .ok d ∧ mg x = some u ∧ RelV v u ∧ ∀ F, Rp K F v d) (hb : ∀ x ∈ bltNames, mg x = none)
    (hx : ∀ (c : Nat) (x : Str), clsN[c]? = some x → ∀ X : Cx, X.K = K → X.mg = mg → Gl X x → ∀ (m : Str) (j : Nat) (p p2 pos : Pos), PMk X (.Call (.Name x p) [.Constant (.str m) j p2] [] pos) (fun _ H Q => Q (.ref (clsA c)) none H)) (ht : TryOk K mg clsN clsA)
    (hE : ∀ (i : Nat) (d : Def) (g : Nat → List D → Res D), tbl[i]? = some d → d.ext = some g → ∀ (f : Addr) (fd : FuncData), DefAt K mg base d f fd → ∀ k, FnOk P w K mg base (L2.CX P w) (k + 1) f fd d.ps (spD K clsA d.ps.length (g k)) ∧ ∀ ds : List D, ds.length ≠ d.ps.length → g k ds = .stuck) :
    ∀ k, GOk P w K mg base k (callN (semT tbl cs) k) cs (tbl.map (·.name)) csts clsN clsA := by
  have get : ∀ (i : Nat) (x : Str), (tbl.map (·.name))[i]? = some x → ∃ d, tbl[i]? = some d ∧ d.name = x := fun i x h => by
    rw [List.getElem?_map] at h
    cases q : tbl[i]? with
    | none => rw [q] at h; cases h
    | some d => rw [q] at h; cases h; exact ⟨d, rfl, rfl⟩
  intro k
  induction k with
  | zero =>
    refine ⟨fun i x h => ?_, hc, hb, hx, ht⟩
    obtain ⟨d, h1, rfl⟩ := get i x h
    obtain ⟨f, fd, A⟩ := hD i d h1
    refine ⟨⟨f, fd, d.ps⟩, A.mg, A.F.kp, A.binds, ⟨fun vs H Q E q => q.1, fun A outer s H args us vs Q E _ _ _ _ q => ?_⟩, fun ds _ => rfl⟩
    obtain ⟨_, F, ds, _, _, _, q⟩ := q
    exact q.elim
  | succ k ih =>
    refine ⟨fun i x h => ?_, hc, hb, hx, ht⟩
    obtain ⟨d, h1, rfl⟩ := get i x h
    obtain ⟨f, fd, A⟩ := hD i d h1
    have hB' : (d.ext.isSome || (scopeB d.N d.ps (defScope d.st) && chkSs ⟨d.N, defScope d.st, locB (defScope d.st), tbl.map (·.name), csts, d.lam⟩ clsN d.b (defBody d.st))) = true := List.all_eq_true.mp hB d (List.mem_of_getElem? h1)
    have e0 : callN (semT tbl cs) (k + 1) i = d.sem cs k (callN (semT tbl cs) k) := by
      funext ds
      show semT tbl cs k i (callN (semT tbl cs) k) ds = _
      unfold semT
      rw [h1]
    cases qe : d.ext with
    | some g =>
      have e : callN (semT tbl cs) (k + 1) i = g k := by
        rw [e0]
        unfold Def.sem
        rw [qe]
      obtain ⟨x1, x2⟩ := hE i d g h1 qe f fd A k
      refine ⟨⟨f, fd, d.ps⟩, A.mg, A.F.kp, A.binds, ?_, fun ds q => ?_⟩
      · rw [e]; exact x1
      · rw [e]; exact x2 ds q
    | none =>
      rw [qe] at hB'
      have hB' : (scopeB d.N d.ps (defScope d.st) && chkSs ⟨d.N, defScope d.st, locB (defScope d.st), tbl.map (·.name), csts, d.lam⟩ clsN d.b (defBody d.st)) = true := hB'
      rw [Bool.and_eq_true] at hB'
      have e : callN (semT tbl cs) (k + 1) i = runF (callN (semT tbl cs) k) cs d.N.length d.ps.length d.b := by
        rw [e0]
        unfold Def.sem
        rw [qe]
      refine ⟨⟨f, fd, d.ps⟩, A.mg, A.F.kp, A.binds, ?_, fun ds q => ?_⟩
      · rw [e]
        exact def_ok ih A.F (scopeB_of hB'.1) hB'.2 A.lam
      · rw [e]
        exact runF_len q
/-- a def of the table as it is called from outside -/
theorem fn_ok {P : Program} {w : World} {K : PySem.W.Frag} {mg : Str → Option Value} {base : Heap} {cs : Nat → Res D} {tbl : List Def} {csts clsN : List Str} {clsA : Nat → Addr} {k i : Nat} {d : Def} {f : Addr} {fd : FuncData} (T : GOk P w K mg base k (callN (semT tbl cs) k) cs (tbl.map (·.name)) csts clsN clsA) (hB : tblB tbl csts clsN = true) (h1 : tbl[i]? = some d) (A : DefAt K mg base d f fd) (qe : d.ext = none := by rfl) : FnOk P w K mg base (L2.CX P w) (k + 1) f fd d.ps (spD K clsA d.ps.length (callN (semT tbl cs) (k + 1) i)) := by
  have hB' : (d.ext.isSome || (scopeB d.N d.ps (defScope d.st) && chkSs ⟨d.N, defScope d.st, locB (defScope d.st), tbl.map (·.name), csts, d.lam⟩ clsN d.b (defBody d.st))) = true := List.all_eq_true.mp hB d (List.mem_of_getElem? h1)
  rw [qe] at hB'
  have hB' : (scopeB d.N d.ps (defScope d.st) && chkSs ⟨d.N, defScope d.st, locB (defScope d.st), tbl.map (·.name), csts, d.lam⟩ clsN d.b (defBody d.st)) = true := hB'
  rw [Bool.and_eq_true] at hB'
  have e : callN (semT tbl cs) (k + 1) i = runF (callN (semT tbl cs) k) cs d.N.length d.ps.length d.b := by
    funext ds
    show (match tbl[i]? with | some d => d.sem cs k (callN (semT tbl cs) k) ds | none => .stuck) = _
    rw [h1]
    exact congrFun (sem_none qe) ds
  rw [e]
  exact def_ok T A.F (scopeB_of hB'.1) hB'.2 A.lam
theorem no_ext {P : Program} {w : World} {K : PySem.W.Frag} {mg : Str → Option Value} {base : Heap} {tbl : List Def} {clsA : Nat → Addr} (h : (tbl.all fun d => d.ext.isNone) = true) : ∀ (i : Nat) (d : Def) (g : Nat → List D → Res D), tbl[i]? = some d → d.ext = some g → ∀ (f : Addr) (fd : FuncData), DefAt K mg base d f fd → ∀ k, FnOk P w K mg base (L2.CX P w) (k + 1) f fd d.ps (spD K clsA d.ps.length (g k)) ∧ ∀ ds : List D, ds.length ≠ d.ps.length → g k ds = .stuck := fun i d g h1 h2 => by
  have := List.all_eq_true.mp h d (List.mem_of_getElem? h1)
  rw [h2] at this
  cases this
/-- all but the table -/
def cutT (H : Hp) : Hp := fun b => if Lam.on = true ∧ b = Lam.P then none else H b
theorem cutT_same (H : Hp) : Same (cutT H) H := fun b o e => by
  unfold cutT at e
  split at e
  · cases e
  · exact e
theorem cutT_no {H : Hp} (on : Lam.on = true) : cutT H Lam.P = none := if_pos ⟨on, rfl⟩
theorem cutT_at {H : Hp} {b : Addr} {o : HO} (t : TabG H) (h : H b = some o) (n : ∀ ps, o ≠ .tbl ps) : cutT H b = some o := by
  unfold cutT
  rw [if_neg]
  · exact h
  · rintro ⟨on, rfl⟩
    obtain ⟨ps, e, _⟩ := t on
    rw [h] at e
    exact n ps (Option.some.inj e)
theorem cutT_seq {K : PySem.W.Frag} {H : Hp} {a : Addr} {xs : List V} (t : TabG H) (h : SqL K H a xs) : SqL K (cutT H) a xs := by
  rcases h with h | h
  · rcases h with h | ⟨o, h⟩
    · exact .inl (.inl (cutT_at t h fun _ z => by cases z))
    · exact .inl (.inr ⟨o, cutT_at t h fun _ z => by cases z⟩)
  · exact .inr h
/-- the law's own promise -/
theorem law_sp {K : PySem.W.Frag} {clsA : Nat → Addr} {g : List D → Res D} {H : Hp} {a : Addr} {ns : List Int} (h : g [.list (ns.map .int)] = .ok (.bool true)) (hS : SqL K H a (ns.map V.int)) (tb : TabG H) : spD K clsA 1 g [.ref a] H (fun v _ => v = .bl true) fun _ _ _ => False :=
  ⟨rfl, cutT H, [.list (ns.map .int)], cutT_same H, .cons (.lst (cutT_seq tb hS) (rp_ints ns)) .nil, ⟨tb, cutT_no⟩, by
    rw [h]
    exact fun F' H' e v r => by cases r; rfl⟩
/-- a promise without exceptions, whatever the classes -/
def spL (K : PySem.W.Frag) (n : Nat) (g : List D → Res D) : Sp := fun vs H Q E => ∀ cA : Nat → Addr, spD K cA n g vs H Q E
theorem fn_imp {P : Program} {w : World} {K : PySem.W.Frag} {mg : Str → Option Value} {base : Heap} {CX : CXT} {k : Nat} {f : Addr} {fd : FuncData} {ps : List Str} {sp sp' : Sp} (h : FnOk P w K mg base CX k f fd ps sp) (i : ∀ vs H Q E, sp' vs H Q E → sp vs H Q E) : FnOk P w K mg base CX k f fd ps sp' :=
  ⟨fun vs H Q E q => h.1 vs H Q E (i _ _ _ _ q), fun A outer s H args us vs Q E a b c d q => h.2 A outer s H args us vs Q E a b c d (i _ _ _ _ q)⟩
theorem cx_no {P : Program} {w : World} {H : Hp} {s : Shared} {e : Value} {s' : Shared} (h : L2.CX P w [] H s (fun _ _ _ => False) e s') : False := by
  obtain ⟨_, _, _, _, _, _, _, _, _, _, _, _, z⟩ := h
  exact z
end MW

set_option maxRecDepth 100000
/-! Part 3a: the evaluator's equations, for rewriting. -/
namespace MW
open PySem PySem.Spec PyProof.Rows L2
open Res
/-- no code is made within -/
instance (priority := low) lam0 : Lam := ⟨"", 0, false⟩
theorem tab0 (H : Hp) : TabG H := fun z => Bool.noConfusion z
section
variable {α β : Type} {Φ : Phi} {cs : Nat → Res D} {env : Env}
theorem b_ok (a : α) (f : α → Res β) : (Res.ok a).bind f = f a := rfl
theorem b_stuck (f : α → Res β) : (Res.stuck : Res α).bind f = .stuck := rfl
theorem b_exn (c : Nat) (f : α → Res β) : (Res.exn c : Res α).bind f = .exn c := rfl
theorem n_t (x : Res α) : need true x = x := rfl
theorem n_f (x : Res α) : need false x = .stuck := rfl
theorem m_ok (f : α → β) (a : α) : (Res.ok a).map f = .ok (f a) := rfl
theorem rv0 (d : D) (r : Env) : rdV (some (.val d) :: r) 0 = .ok d := rfl
theorem rvs (x : Option Slot) (r : Env) (i : Nat) : rdV (x :: r) (i + 1) = rdV r i := rfl
theorem ro0 (d : D) (r : Env) : rdO (some (.val d) :: r) 0 = .ok d := rfl
theorem ro0' (d : D) (r : Env) : rdO (some (.own d) :: r) 0 = .ok d := rfl
theorem ros (x : Option Slot) (r : Env) (i : Nat) : rdO (x :: r) (i + 1) = rdO r i := rfl
theorem sv (env : Env) (i : Nat) (d : D) (h : i < env.length) : setV env i d = .ok (env.set i (some (.val d))) := need_true (decide_eq_true h)
theorem sv0 (x : Option Slot) (r : Env) (d : D) : setV (x :: r) 0 d = .ok (some (.val d) :: r) := rfl
theorem svs (x : Option Slot) (r : Env) (i : Nat) (d : D) : setV (x :: r) (i + 1) d = (setV r i d).bind fun r' => .ok (x :: r') := by
  unfold setV
  by_cases h : i < r.length
  · rw [decide_eq_true h, decide_eq_true (show i + 1 < (x :: r).length by rw [List.length_cons]; omega)]; rfl
  · rw [decide_eq_false h, decide_eq_false (show ¬ i + 1 < (x :: r).length by rw [List.length_cons]; omega)]; rfl
theorem e_var (i : Nat) : ev Φ cs (.var i) env = rdV env i := rfl
theorem e_own (i : Nat) : ev Φ cs (.own i) env = rdO env i := rfl
theorem e_int (i : Int) : ev Φ cs (.cst (.int i)) env = .ok (.int i) := rfl
theorem e_str (i : Str) : ev Φ cs (.cst (.str i)) env = .ok (.str i) := rfl
theorem e_bool (i : Bool) : ev Φ cs (.cst (.bool i)) env = .ok (.bool i) := rfl
theorem e_none : ev Φ cs (.cst .none) env = .ok .none := rfl
theorem e_glob (k : Nat) : ev Φ cs (.glob k) env = cs k := rfl
theorem e_tup (es : Es) : ev Φ cs (.tup es) env = (evs Φ cs es env).bind fun ds => need (fitsZ ds.length) (.ok (.tuple ds)) := rfl
theorem e_lst (es : Es) : ev Φ cs (.lst es) env = (evs Φ cs es env).bind fun ds => need (fitsZ ds.length) (.ok (.list ds)) := rfl
theorem e_dic0 : ev Φ cs .dic0 env = .ok (.dict []) := rfl
theorem e_bin (op : Operator) (a b : E) : ev Φ cs (.bin op a b) env = (ev Φ cs a env).bind fun x => (ev Φ cs b env).bind fun y => opD op x y := rfl
theorem e_neg (a : E) (i : Int) (h : ev Φ cs a env = .ok (.int i)) : ev Φ cs (.neg a) env = .ok (.int (-i)) := by
  show (ev Φ cs a env).bind _ = _
  rw [h]; rfl
theorem e_mulL (c : Int) (b : E) (j : Int) (h : ev Φ cs b env = .ok (.int j)) (hc : small64 c = true) : ev Φ cs (.mulL c b) env = .ok (.int (c * j)) := by
  show (ev Φ cs b env).bind _ = _
  rw [h]
  exact need_true hc
theorem e_cmp (op : CmpOp) (a b : E) : ev Φ cs (.cmp op a b) env = (ev Φ cs a env).bind fun x => (ev Φ cs b env).bind fun y => cmpD op x y := rfl
def andR (x : D) (r : Res D) (k : Bool) : Res D := match k with
  | true => r
  | false => .ok x
def orR (x : D) (r : Res D) (k : Bool) : Res D := match k with
  | true => .ok x
  | false => r
theorem andR_t (x : D) (r : Res D) : andR x r true = r := rfl
theorem andR_f (x : D) (r : Res D) : andR x r false = .ok x := rfl
theorem orR_t (x : D) (r : Res D) : orR x r true = .ok x := rfl
theorem orR_f (x : D) (r : Res D) : orR x r false = r := rfl
theorem e_and (a b : E) : ev Φ cs (.and a b) env = (ev Φ cs a env).bind fun x => (truD x).bind fun k => andR x (ev Φ cs b env) k := by
  show (ev Φ cs a env).bind _ = _
  congr 1
theorem e_or (a b : E) : ev Φ cs (.or a b) env = (ev Φ cs a env).bind fun x => (truD x).bind fun k => orR x (ev Φ cs b env) k := by
  show (ev Φ cs a env).bind _ = _
  congr 1
theorem e_not (a : E) : ev Φ cs (.not a) env = (ev Φ cs a env).bind fun x => (truD x).bind fun k => .ok (.bool (!k)) := rfl
def ifR {α : Type} (a b : Res α) (k : Bool) : Res α := match k with
  | true => a
  | false => b
theorem ifR_t {α : Type} (a b : Res α) : ifR a b true = a := rfl
theorem ifR_f {α : Type} (a b : Res α) : ifR a b false = b := rfl
theorem e_ife (t a b : E) : ev Φ cs (.ife t a b) env = (tst Φ cs t env).bind fun k => ifR (ev Φ cs a env) (ev Φ cs b env) k := by
  show (tst Φ cs t env).bind _ = _
  congr 1
theorem e_ix (a b : E) : ev Φ cs (.ix a b) env = (ev Φ cs a env).bind fun x => (ev Φ cs b env).bind fun y => itemD x y := rfl
theorem e_slc (a lo hi : E) : ev Φ cs (.slc a lo hi) env = (ev Φ cs a env).bind fun x => (optE lo.isAbs (ev Φ cs lo env)).bind fun l => (optE hi.isAbs (ev Φ cs hi env)).bind fun h => sliceD x l h := rfl
theorem o_t (r : Res D) : optE true r = .ok none := rfl
theorem o_f (r : Res D) : optE false r = r.bind optI := rfl
theorem oi (i : Int) : optI (.int i) = .ok (some i) := rfl
theorem e_call (f : Nat) (es : Es) : ev Φ cs (.call f es) env = (evs Φ cs es env).bind fun ds => Φ f ds := rfl
theorem e_blt (b : Blt) (es : Es) : ev Φ cs (.blt b es) env = (evs Φ cs es env).bind fun ds => bltD b ds := rfl
theorem e_isi (a : E) (t : Ty) : ev Φ cs (.isi a [t]) env = (ev Φ cs a env).bind fun x => .ok (.bool (tyB x t)) := by
  show (ev Φ cs a env).bind _ = _
  congr 1
  funext x
  rw [List.any_cons, List.any_nil, Bool.or_false]
theorem e_comp (elt : E) (g : G) (ik : IK) (ia cond : Es) (own : List (Str × Nat)) : ev Φ cs (.comp elt g ik ia cond own) env = (evs Φ cs ia env).bind fun ds => (iterD ik ds).bind fun xs => (compL (turnOf Φ cs elt g cond own env) xs).bind fun r => need (fitsZ r.length) (.ok (.list r)) := rfl
theorem s_nil : evs Φ cs .nil env = .ok [] := rfl
theorem s_cons (e : E) (es : Es) : evs Φ cs (.cons e es) env = (ev Φ cs e env).bind fun d => (evs Φ cs es env).bind fun ds => .ok (d :: ds) := rfl
def andT (r : Res Bool) (k : Bool) : Res Bool := match k with
  | true => r
  | false => .ok false
def orT (r : Res Bool) (k : Bool) : Res Bool := match k with
  | true => .ok true
  | false => r
theorem andT_t (r : Res Bool) : andT r true = r := rfl
theorem andT_f (r : Res Bool) : andT r false = .ok false := rfl
theorem orT_t (r : Res Bool) : orT r true = .ok true := rfl
theorem orT_f (r : Res Bool) : orT r false = r := rfl
theorem t_and (a b : E) : tst Φ cs (.and a b) env = (tst Φ cs a env).bind fun k => andT (tst Φ cs b env) k := by
  show (tst Φ cs a env).bind _ = _
  congr 1
theorem t_or (a b : E) : tst Φ cs (.or a b) env = (tst Φ cs a env).bind fun k => orT (tst Φ cs b env) k := by
  show (tst Φ cs a env).bind _ = _
  congr 1
theorem t_not (a : E) : tst Φ cs (.not a) env = (tst Φ cs a env).bind fun k => .ok (!k) := rfl
theorem t_cmp (op : CmpOp) (a b : E) : tst Φ cs (.cmp op a b) env = (ev Φ cs a env).bind fun x => (ev Φ cs b env).bind fun y => (cmpD op x y).bind boolD := rfl
theorem t_var (i : Nat) : tst Φ cs (.var i) env = (rdV env i).bind truD := rfl
theorem t_own (i : Nat) : tst Φ cs (.own i) env = (rdO env i).bind truD := rfl
theorem t_call (f : Nat) (es : Es) : tst Φ cs (.call f es) env = (evs Φ cs es env).bind fun ds => (Φ f ds).bind truD := rfl
theorem t_blt (b : Blt) (es : Es) : tst Φ cs (.blt b es) env = (evs Φ cs es env).bind fun ds => (bltD b ds).bind truD := rfl
theorem t_isi (a : E) (t : Ty) : tst Φ cs (.isi a [t]) env = (ev Φ cs a env).bind fun x => .ok (tyB x t) := by
  show (ev Φ cs a env).bind _ = _
  congr 1
  funext x
  rw [List.any_cons, List.any_nil, Bool.or_false]
theorem t_ix (a b : E) : tst Φ cs (.ix a b) env = (ev Φ cs a env).bind fun x => (ev Φ cs b env).bind fun y => (itemD x y).bind truD := rfl
theorem ts_nil : tsts Φ cs .nil env = .ok true := rfl
theorem ts_cons (e : E) (es : Es) : tsts Φ cs (.cons e es) env = tst Φ cs e env := rfl
theorem bd (b : Bool) : boolD (.bool b) = .ok b := rfl
theorem tr_b (b : Bool) : truD (.bool b) = .ok b := rfl
theorem tr_n : truD .none = .ok false := rfl
theorem tr_l (ds : List D) : truD (.list ds) = .ok (!ds.isEmpty) := rfl
theorem tr_t (ds : List D) : truD (.tuple ds) = .ok (!ds.isEmpty) := rfl
theorem a_ii (i j : Int) : opD .Add (.int i) (.int j) = .ok (.int (i + j)) := rfl
theorem a_ss (i j : Str) : opD .Add (.str i) (.str j) = need (fitsZ (i.length + j.length)) (.ok (.str (i ++ j))) := rfl
theorem a_ll (i j : List D) : opD .Add (.list i) (.list j) = need (fitsZ (i.length + j.length)) (.ok (.list (i ++ j))) := rfl
theorem a_tt (i j : List D) : opD .Add (.tuple i) (.tuple j) = need (fitsZ (i.length + j.length)) (.ok (.tuple (i ++ j))) := rfl
theorem s_ii (i j : Int) : opD .Sub (.int i) (.int j) = .ok (.int (i - j)) := rfl
theorem m_ii (i j : Int) : opD .Mult (.int i) (.int j) = need (small64 j || small64 i) (.ok (.int (i * j))) := rfl
theorem r_ii (i j : Int) : opD .Mod (.int i) (.int j) = need (decide (0 < j)) (.ok (.int (i % j))) := rfl
theorem d_ii (i j : Int) : opD .FloorDiv (.int i) (.int j) = need (decide (0 < j) && decide (j < 1073741824)) (.ok (.int (i / j))) := rfl
theorem c_eq (x y : D) : cmpD .Eq x y = eqD x y := rfl
theorem c_ne (x y : D) : cmpD .NotEq x y = neD x y := rfl
theorem c_lt (i j : Int) : cmpD .Lt (.int i) (.int j) = .ok (.bool (decide (i < j))) := rfl
theorem c_le (i j : Int) : cmpD .LtE (.int i) (.int j) = .ok (.bool (decide (i ≤ j))) := rfl
theorem c_gt (i j : Int) : cmpD .Gt (.int i) (.int j) = .ok (.bool (decide (j < i))) := rfl
theorem c_ge (i j : Int) : cmpD .GtE (.int i) (.int j) = .ok (.bool (decide (j ≤ i))) := rfl
theorem c_is (x y : D) : cmpD .Is x y = (isD x y).map .bool := rfl
theorem c_isn (x y : D) : cmpD .IsNot x y = (isD x y).map fun b => .bool (!b) := rfl
theorem c_in (x y : D) : cmpD .In x y = (inD x y).map .bool := rfl
theorem c_nin (x y : D) : cmpD .NotIn x y = (inD x y).map fun b => .bool (!b) := rfl
theorem is_n (x : D) : isD x .none = .ok (isNone x) := rfl
theorem is_b (a b : Bool) : isD (.bool a) (.bool b) = .ok (decide (a = b)) := rfl
theorem eq_ii (i j : Int) : eqD (.int i) (.int j) = .ok (.bool (decide (i = j))) := by
  show Res.ok (PyData.bool (i == j)) = _
  rw [Bool.beq_eq_decide_eq]
theorem ne_ii (i j : Int) : neD (.int i) (.int j) = .ok (.bool (!decide (i = j))) := by
  show Res.ok (PyData.bool (!(i == j))) = _
  rw [Bool.beq_eq_decide_eq]
theorem eq_bb (i j : Bool) : eqD (.bool i) (.bool j) = .ok (.bool (i == j)) := rfl
theorem ne_bb (i j : Bool) : neD (.bool i) (.bool j) = .ok (.bool (!(i == j))) := rfl
def nxt (f : Fl) (g : Env → Res Fl) : Res Fl := match f with
  | .next env => g env
  | f => .ok f
theorem nxt_n (env : Env) (g : Env → Res Fl) : nxt (.next env) g = g env := rfl
theorem nxt_r (d : D) (g : Env → Res Fl) : nxt (.ret d) g = .ok (.ret d) := rfl
theorem nxt_b (env : Env) (g : Env → Res Fl) : nxt (.brk env) g = .ok (.brk env) := rfl
theorem nxt_c (env : Env) (g : Env → Res Fl) : nxt (.cnt env) g = .ok (.cnt env) := rfl
theorem x_nil : exs Φ cs .nil env = .ok (.next env) := rfl
theorem x_cons (s : S) (r : Ss) : exs Φ cs (.cons s r) env = (ex Φ cs s env).bind fun f => nxt f (exs Φ cs r) := by
  show (ex Φ cs s env).bind _ = _
  congr 1
theorem x_asg (i : Nat) (e : E) : ex Φ cs (.asg i e) env = (ev Φ cs e env).bind fun d => (setV env i d).bind fun env' => .ok (.next env') := rfl
theorem x_asgO (i : Nat) (e : E) (h : i < env.length) : ex Φ cs (.asgO i e) env = (ev Φ cs e env).bind fun d => need (isOwnable d) (.ok (.next (env.set i (some (.own d))))) := by
  show (ev Φ cs e env).bind _ = _
  congr 1
  funext d
  rw [decide_eq_true h, Bool.and_true]
theorem x_asgT (g : G) (e : E) : ex Φ cs (.asgT g e) env = (ev Φ cs e env).bind fun d => (bindG g d env).bind fun env' => .ok (.next env') := rfl
theorem x_par (i j : Nat) (a b : E) : ex Φ cs (.par i j a b) env = (ev Φ cs a env).bind fun x => (ev Φ cs b env).bind fun y => (setV env i x).bind fun e1 => (setV e1 j y).bind fun e2 => .ok (.next e2) := rfl
theorem x_app (i : Nat) (e : E) (ds : List D) (h : env[i]? = some (some (.own (.list ds)))) : ex Φ cs (.app i e) env = (ev Φ cs e env).bind fun d => need (decide (ds.length < sizeLine)) (.ok (.next (env.set i (some (.own (.list (ds ++ [d]))))))) := by
  show (match env[i]? with | some (some (.own (.list ds))) => _ | _ => _) = _
  rw [h]
theorem x_ext (i : Nat) (e : E) (ds xs : List D) (h : env[i]? = some (some (.own (.list ds)))) (he : ev Φ cs e env = .ok (.list xs)) : ex Φ cs (.ext i e) env = need (fitsZ (ds.length + xs.length)) (.ok (.next (env.set i (some (.own (.list (ds ++ xs))))))) := by
  show (match env[i]? with | some (some (.own (.list ds))) => _ | _ => _) = _
  rw [h]
  show (ev Φ cs e env).bind _ = _
  rw [he]; rfl
theorem x_ret (e : E) : ex Φ cs (.ret e) env = (ev Φ cs e env).bind fun d => .ok (.ret d) := rfl
theorem x_ite (t : E) (a b : Ss) : ex Φ cs (.ite t a b) env = (tst Φ cs t env).bind fun k => ifR (exs Φ cs a env) (exs Φ cs b env) k := by
  show (tst Φ cs t env).bind _ = _
  congr 1
theorem x_whl (t : E) (b : Ss) : ex Φ cs (.whl t b) env = whileL (tst Φ cs t) (exs Φ cs b) wmax env := rfl
theorem x_for (g : G) (ik : IK) (ia : Es) (b : Ss) : ex Φ cs (.for g ik ia b) env = (evs Φ cs ia env).bind fun ds => (iterD ik ds).bind fun xs => forL (bindG g) (exs Φ cs b) xs env := rfl
theorem x_brk : ex Φ cs .brk env = .ok (.brk env) := rfl
theorem x_cnt : ex Φ cs .cnt env = .ok (.cnt env) := rfl
theorem x_raise (c : Nat) : ex Φ cs (.raise c) env = .exn c := rfl
theorem x_expr (e : E) : ex Φ cs (.expr e) env = (ev Φ cs e env).bind fun _ => .ok (.next env) := rfl
def turnK (k : Fl) (g : Env → Res Fl) : Res Fl := match k with
  | .next env' => g env'
  | .cnt env' => g env'
  | .brk env' => .ok (.next env')
  | .ret d => .ok (.ret d)
theorem tk_n (env : Env) (g : Env → Res Fl) : turnK (.next env) g = g env := rfl
theorem tk_c (env : Env) (g : Env → Res Fl) : turnK (.cnt env) g = g env := rfl
theorem tk_b (env : Env) (g : Env → Res Fl) : turnK (.brk env) g = .ok (.next env) := rfl
theorem tk_r (d : D) (g : Env → Res Fl) : turnK (.ret d) g = .ok (.ret d) := rfl
theorem for_nil (g : D → Env → Res Env) (b : Env → Res Fl) (env : Env) : forL g b [] env = .ok (.next env) := rfl
theorem for_cons (g : D → Env → Res Env) (b : Env → Res Fl) (d : D) (ds : List D) (env : Env) : forL g b (d :: ds) env = (g d env).bind fun env' => (b env').bind fun f => turnK f (forL g b ds) := by
  show (g d env).bind _ = _
  congr 1
theorem whl_s (t : Env → Res Bool) (b : Env → Res Fl) (n : Nat) (env : Env) : whileL t b (n + 1) env = (t env).bind fun k => ifR ((b env).bind fun f => turnK f (whileL t b n)) (.ok (.next env)) k := by
  show (t env).bind _ = _
  congr 1
  funext k
  cases k with
  | false => rfl
  | true =>
    show (b env).bind _ = _
    congr 1
theorem g_name (i : Nat) (d : D) : bindG (.name i) d env = setV env i d := rfl
theorem g_tup (gs : Gs) (ds : List D) : bindG (.tup gs) (.tuple ds) env = bindGs gs ds env := rfl
theorem gs_nil : bindGs .nil [] env = .ok env := rfl
theorem gs_cons (g : G) (gs : Gs) (d : D) (ds : List D) : bindGs (.cons g gs) (d :: ds) env = (bindG g d env).bind fun env' => bindGs gs ds env' := rfl
theorem rF (n np : Nat) (b : Ss) (ds : List D) (h : ds.length = np) : runF Φ cs n np b ds = (exs Φ cs b (startE n ds)).bind fun f => match f with
    | .next _ => .ok .none
    | .ret d => .ok d
    | _ => .stuck := need_true (decide_eq_true h)
/-- a body that returns -/
theorem rF_ret (n np : Nat) (b : Ss) (ds : List D) (d : D) (h : ds.length = np) (q : exs Φ cs b (startE n ds) = .ok (.ret d)) : runF Φ cs n np b ds = .ok d := by
  rw [rF n np b ds h, q]; rfl
theorem rF_exn (n np : Nat) (b : Ss) (ds : List D) (c : Nat) (h : ds.length = np) (q : exs Φ cs b (startE n ds) = .exn c) : runF Φ cs n np b ds = .exn c := by
  rw [rF n np b ds h, q]; rfl
end
end MW

set_option maxRecDepth 100000
/-! Part 3b: more equations; all of them as one row. -/
namespace MW
open PySem PySem.Spec PyProof.Rows L2
open Res
section
variable {α β : Type} {Φ : Phi} {cs : Nat → Res D} {env : Env}
theorem x_try (b : Ss) (c i : Nat) (h : Hd) : ex Φ cs (.try_ b c i h) env = handD c i h env.length (exs Φ cs b env) := rfl
theorem hn_ok (c i : Nat) (h : Hd) (n : Nat) (f : Fl) : handD c i h n (.ok f) = .ok f := rfl
def negK (x : D) : Res D := match x with
  | .int i => .ok (.int (-i))
  | _ => .stuck
def mulK (c : Int) (y : D) : Res D := match y with
  | .int j => need (small64 c) (.ok (.int (c * j)))
  | _ => .stuck
theorem negK_i (i : Int) : negK (.int i) = .ok (.int (-i)) := rfl
theorem mulK_i (c i : Int) : mulK c (.int i) = need (small64 c) (.ok (.int (c * i))) := rfl
theorem e_neg' (a : E) : ev Φ cs (.neg a) env = (ev Φ cs a env).bind negK := by
  show (ev Φ cs a env).bind _ = _
  congr 1
theorem e_mulL' (c : Int) (b : E) : ev Φ cs (.mulL c b) env = (ev Φ cs b env).bind (mulK c) := by
  show (ev Φ cs b env).bind _ = _
  congr 1
def appK (s : Option (Option Slot)) (r : Res D) (env : Env) (i : Nat) : Res Fl := match s with
  | some (some (.own (.list ds))) => r.bind fun d => need (decide (ds.length < sizeLine)) (.ok (.next (env.set i (some (.own (.list (ds ++ [d])))))))
  | _ => .stuck
theorem x_app' (i : Nat) (e : E) : ex Φ cs (.app i e) env = appK env[i]? (ev Φ cs e env) env i := rfl
theorem appK_o (ds : List D) (r : Res D) (env : Env) (i : Nat) : appK (some (some (.own (.list ds)))) r env i = r.bind fun d => need (decide (ds.length < sizeLine)) (.ok (.next (env.set i (some (.own (.list (ds ++ [d]))))))) := rfl
def extK2 (ds : List D) (env : Env) (i : Nat) (d : D) : Res Fl := match d with
  | .list xs => need (fitsZ (ds.length + xs.length)) (.ok (.next (env.set i (some (.own (.list (ds ++ xs)))))))
  | _ => .stuck
def extK (s : Option (Option Slot)) (r : Res D) (env : Env) (i : Nat) : Res Fl := match s with
  | some (some (.own (.list ds))) => r.bind (extK2 ds env i)
  | _ => .stuck
theorem x_ext' (i : Nat) (e : E) : ex Φ cs (.ext i e) env = extK env[i]? (ev Φ cs e env) env i := by
  show (match env[i]? with | some (some (.own (.list ds))) => _ | _ => _) = _
  unfold extK
  split <;> try rfl
theorem extK_o (ds : List D) (r : Res D) (env : Env) (i : Nat) : extK (some (some (.own (.list ds)))) r env i = r.bind (extK2 ds env i) := rfl
theorem extK2_l (ds xs : List D) (env : Env) (i : Nat) : extK2 ds env i (.list xs) = need (fitsZ (ds.length + xs.length)) (.ok (.next (env.set i (some (.own (.list (ds ++ xs))))))) := rfl
def putK2 (kvs : List (D × D)) (env : Env) (i : Nat) (d kd : D) : Res Fl := match toKey kd with
  | some q => need (decide (kvs.length < sizeLine)) (.ok (.next (env.set i (some (.own (.dict (dictPut kvs q d)))))))
  | none => .stuck
def putK (s : Option (Option Slot)) (v k : Res D) (env : Env) (i : Nat) : Res Fl := match s with
  | some (some (.own (.dict kvs))) => v.bind fun d => k.bind fun kd => putK2 kvs env i d kd
  | _ => .stuck
theorem x_put' (i : Nat) (k v : E) : ex Φ cs (.put i k v) env = putK env[i]? (ev Φ cs v env) (ev Φ cs k env) env i := rfl
theorem putK_o (kvs : List (D × D)) (v k : Res D) (env : Env) (i : Nat) : putK (some (some (.own (.dict kvs)))) v k env i = v.bind fun d => k.bind fun kd => putK2 kvs env i d kd := rfl
theorem putK2_s (kvs : List (D × D)) (env : Env) (i : Nat) (d : D) (s : Str) : putK2 kvs env i d (.str s) = need (decide (kvs.length < sizeLine)) (.ok (.next (env.set i (some (.own (.dict (dictPut kvs (.inr s) d))))))) := rfl
theorem putK2_i (kvs : List (D × D)) (env : Env) (i : Nat) (d : D) (s : Int) : putK2 kvs env i d (.int s) = need (decide (kvs.length < sizeLine)) (.ok (.next (env.set i (some (.own (.dict (dictPut kvs (.inl s) d))))))) := rfl
def frzK (s : Option (Option Slot)) (env : Env) (i : Nat) : Res Fl := match s with
  | some (some (.own d)) => .ok (.next (env.set i (some (.val d))))
  | _ => .ok (.next env)
theorem x_frz' (i : Nat) : ex Φ cs (.frz i) env = frzK env[i]? env i := rfl
theorem frzK_o (d : D) (env : Env) (i : Nat) : frzK (some (some (.own d))) env i = .ok (.next (env.set i (some (.val d)))) := rfl
theorem frzK_v (d : D) (env : Env) (i : Nat) : frzK (some (some (.val d))) env i = .ok (.next env) := rfl
theorem x_asgO' (i : Nat) (e : E) : ex Φ cs (.asgO i e) env = (ev Φ cs e env).bind fun d => need (isOwnable d && decide (i < env.length)) (.ok (.next (env.set i (some (.own d))))) := rfl
theorem x_pass : ex Φ cs .pass env = .ok (.next env) := rfl
theorem ow_l (ds : List D) : isOwnable (.list ds) = true := rfl
theorem ow_d (ds : List (D × D)) : isOwnable (.dict ds) = true := rfl
theorem e_chain (op op2 : CmpOp) (a b c : E) : ev Φ cs (.chain op op2 a b c) env = (ev Φ cs a env).bind fun x => (ev Φ cs b env).bind fun y => (cmpD op x y).bind fun r => (boolD r).bind fun k => ifR ((ev Φ cs c env).bind fun z => cmpD op2 y z) (.ok (.bool false)) k := by
  show (ev Φ cs a env).bind _ = _
  congr 1
theorem t_chain (op op2 : CmpOp) (a b c : E) : tst Φ cs (.chain op op2 a b c) env = (ev Φ cs a env).bind fun x => (ev Φ cs b env).bind fun y => (cmpD op x y).bind fun r => (boolD r).bind fun k => ifR ((ev Φ cs c env).bind fun z => (cmpD op2 y z).bind boolD) (.ok false) k := by
  show (ev Φ cs a env).bind _ = _
  congr 1
theorem t_ife (t a b : E) : tst Φ cs (.ife t a b) env = (tst Φ cs t env).bind fun k => ifR (tst Φ cs a env) (tst Φ cs b env) k := by
  show (tst Φ cs t env).bind _ = _
  congr 1
theorem t_comp (elt : E) (g : G) (ik : IK) (ia cond : Es) (own : List (Str × Nat)) : tst Φ cs (.comp elt g ik ia cond own) env = (evs Φ cs ia env).bind fun ds => (iterD ik ds).bind fun xs => (compL (turnOf Φ cs elt g cond own env) xs).bind fun r => need (fitsZ r.length) (.ok (!r.isEmpty)) := rfl
theorem t_chain3 (op op2 op3 : CmpOp) (a b c d : E) : tst Φ cs (.chain3 op op2 op3 a b c d) env = (ev Φ cs a env).bind fun x => (ev Φ cs b env).bind fun y => (cmpD op x y).bind fun r => (boolD r).bind fun k => ifR ((ev Φ cs c env).bind fun z => (cmpD op2 y z).bind fun r2 => (boolD r2).bind fun k2 => ifR ((ev Φ cs d env).bind fun u => (cmpD op3 z u).bind boolD) (.ok false) k2) (.ok false) k := by
  show (ev Φ cs a env).bind _ = _
  congr 1
theorem e_slc3 (a : E) (k : Int) : ev Φ cs (.slc3 a k) env = (ev Φ cs a env).bind fun x => stepD x k := rfl
theorem e_rep (a b : E) : ev Φ cs (.rep a b) env = (ev Φ cs a env).bind fun x => (ev Φ cs b env).bind fun y => repD x y := rfl
theorem e_sortk (a key : E) (p : Str) : ev Φ cs (.sortk a key p) env = (ev Φ cs a env).bind fun x => sortkD (fun d => noExn (ev Φ cs key [some (.val d)])) x := rfl
theorem e_lenset (a : E) : ev Φ cs (.lenset a) env = (ev Φ cs a env).bind fun x => lensetD x := rfl
theorem e_meth (m : Mth) (o a : E) : ev Φ cs (.meth m o a) env = (ev Φ cs o env).bind fun x => need (mthOk m x) ((ev Φ cs a env).bind fun y => methD m x y) := rfl
theorem st_rev (ds : List D) : stepD (.tuple ds) (-1) = .ok (.tuple ds.reverse) := rfl
theorem st_two (ds : List D) : stepD (.tuple ds) 2 = .ok (.tuple (evens ds)) := rfl
theorem mo_l (ds : List D) : mthOk .countL (.list ds) = true := rfl
theorem mo_s (x : Str) : mthOk .countS (.str x) = true := rfl
theorem mo_i (x : Str) : mthOk .index (.str x) = true := rfl
theorem mo_j (x : Str) : mthOk .join (.str x) = true := rfl
theorem md_l (ds : List D) (a : D) : methD .countL (.list ds) a = countD ds a := rfl
theorem md_s (x y : Str) : methD .countS (.str x) (.str y) = .ok (.int (PySem.Txt.count x y)) := rfl
theorem md_i (x y : Str) : methD .index (.str x) (.str y) = indexD x y := rfl
theorem md_j (x : Str) (ds : List D) : methD .join (.str x) (.list ds) = joinD x ds := rfl
theorem bl_ls (s : Str) : bltD .list [.str s] = need (fitsZ s.length) (.ok (.list (s.cps.toList.map chD))) := rfl
theorem tr_i (i : Int) : truD (.int i) = .ok (i != 0) := rfl
theorem tr_s (s : Str) : truD (.str s) = need (fitsZ s.length) (.ok (s.length != 0)) := rfl
theorem tr_d (kvs : List (D × D)) : truD (.dict kvs) = .ok (!kvs.isEmpty) := rfl
theorem i_l (ds : List D) (j : Int) : itemD (.list ds) (.int j) = ixD ds j := rfl
theorem i_t (ds : List D) (j : Int) : itemD (.tuple ds) (.int j) = ixD ds j := rfl
theorem i_d (kvs : List (D × D)) (s : Str) : itemD (.dict kvs) (.str s) = optR (dictGet kvs (.inr s)) := rfl
theorem i_di (kvs : List (D × D)) (s : Int) : itemD (.dict kvs) (.int s) = optR (dictGet kvs (.inl s)) := rfl
theorem opt_s (d : D) : optR (some d) = .ok d := rfl
theorem ixNat (ds : List D) (j : Nat) (d : D) (h : ds[j]? = some d) : ixD ds (j : Int) = .ok d := by
  have hj : j < ds.length := (List.getElem?_eq_some_iff.mp h).1
  unfold ixD atI
  have e : ixN ds.length (j : Int) = some j := by
    unfold ixN
    rw [if_pos (by omega), if_pos (by omega), Int.toNat_natCast]
  rw [e]
  show (match ds[j]? with | some d => Res.ok d | none => .stuck) = _
  rw [h]
theorem ix0 (d : D) (ds : List D) : ixD (d :: ds) 0 = .ok d := ixNat _ 0 d rfl
theorem ix1 (d e : D) (ds : List D) : ixD (d :: e :: ds) 1 = .ok e := ixNat _ 1 e rfl
theorem ix2 (d e f : D) (ds : List D) : ixD (d :: e :: f :: ds) 2 = .ok f := ixNat _ 2 f rfl
theorem sl_l (ds : List D) (lo hi : Option Int) : sliceD (.list ds) lo hi = .ok (.list (cutD ds lo hi)) := rfl
theorem sl_t (ds : List D) (lo hi : Option Int) : sliceD (.tuple ds) lo hi = .ok (.tuple (cutD ds lo hi)) := rfl
theorem sl_s (s : Str) (lo hi : Option Int) : sliceD (.str s) lo hi = need (fitsZ s.length) (.ok (.str (cutStr s lo hi))) := rfl
theorem l_l (ds : List D) : lenD (.list ds) = .ok (.int ds.length) := rfl
theorem l_t (ds : List D) : lenD (.tuple ds) = .ok (.int ds.length) := rfl
theorem l_s (s : Str) : lenD (.str s) = need (fitsZ s.length) (.ok (.int s.length)) := rfl
theorem l_d (kvs : List (D × D)) : lenD (.dict kvs) = .ok (.int kvs.length) := rfl
theorem bl_len (x : D) : bltD .len [x] = lenD x := rfl
theorem bl_min (i j : Int) : bltD .min2 [.int i, .int j] = .ok (.int (if j < i then j else i)) := rfl
theorem bl_max (i j : Int) : bltD .max2 [.int i, .int j] = .ok (.int (if j > i then j else i)) := rfl
theorem bl_tl (ds : List D) : bltD .tuple [.list ds] = .ok (.tuple ds) := rfl
theorem bl_tt (ds : List D) : bltD .tuple [.tuple ds] = .ok (.tuple ds) := rfl
theorem bl_ll (ds : List D) : bltD .list [.list ds] = .ok (.list ds) := rfl
theorem bl_lt (ds : List D) : bltD .list [.tuple ds] = .ok (.list ds) := rfl
theorem bl_so (ds : List D) : bltD .sorted [.list ds] = sortedD ds := rfl
theorem bl_ib (b : Bool) : bltD .int [.bool b] = .ok (.int (if b then 1 else 0)) := rfl
theorem bl_all (ds : List D) : bltD .all [.list ds] = (allB ds).bind fun b => .ok (.bool b) := rfl
theorem it_l (ds : List D) : iterD .of [.list ds] = .ok ds := rfl
theorem it_t (ds : List D) : iterD .of [.tuple ds] = .ok ds := rfl
theorem it_s (s : Str) : iterD .of [.str s] = .ok (s.cps.toList.map chD) := rfl
theorem it_r1 (j : Int) : iterD .range [.int j] = rangeD 0 j := id rfl
theorem it_r2 (i j : Int) : iterD .range [.int i, .int j] = rangeD i j := id rfl
theorem it_e (ds : List D) : iterD .enum [.list ds] = .ok (enumFrom 0 ds) := rfl
theorem it_rev (ds : List D) : iterD .rev [.list ds] = .ok ds.reverse := rfl
theorem ty_ss (s : Str) : tyB (.str s) .str = true := rfl
theorem ty_st (s : Str) : tyB (.str s) .tuple = false := rfl
theorem ty_tt (s : List D) : tyB (.tuple s) .tuple = true := rfl
theorem ty_ts (s : List D) : tyB (.tuple s) .str = false := rfl
theorem ty_it (s : Int) : tyB (.int s) .tuple = false := rfl
theorem ty_ii (s : Int) : tyB (.int s) .int = true := rfl
theorem ab_a : E.isAbs .abs = true := rfl
theorem ab_c (c : Const) : E.isAbs (.cst c) = false := rfl
theorem ab_v (i : Nat) : E.isAbs (.var i) = false := rfl
theorem ab_b (op : Operator) (a b : E) : E.isAbs (.bin op a b) = false := rfl
theorem ab_n (a : E) : E.isAbs (.neg a) = false := rfl
theorem ab_bl (b : Blt) (es : Es) : E.isAbs (.blt b es) = false := rfl
theorem ab_ca (b : Nat) (es : Es) : E.isAbs (.call b es) = false := rfl
theorem ab_ix (a b : E) : E.isAbs (.ix a b) = false := rfl
theorem ab_mu (c : Int) (a : E) : E.isAbs (.mulL c a) = false := rfl
theorem is_s (s : Str) : isNone (.str s) = false := rfl
theorem is_nn : isNone .none = true := rfl
theorem is_t (s : List D) : isNone (.tuple s) = false := rfl
theorem is_l (s : List D) : isNone (.list s) = false := rfl
theorem is_i (s : Int) : isNone (.int s) = false := rfl
theorem is_bl (s : Bool) : isNone (.bool s) = false := rfl
theorem in_d (s : Str) (kvs : List (D × D)) : inD (.str s) (.dict kvs) = .ok (dictGet kvs (.inr s)).isSome := rfl
/-- one turn of a comprehension -/
theorem turn_eq (elt : E) (g : G) (cond : Es) (own : List (Str × Nat)) (d : D) : turnOf Φ cs elt g cond own env d = noExn ((bindG g d (wipeE env (own.map (·.2)))).bind fun env' => (tsts Φ cs cond env').bind fun k => ifR ((ev Φ cs elt env').bind fun v => .ok (some v)) (.ok none) k) := by
  unfold turnOf
  congr 1
theorem wi_nil : wipeE env [] = env := rfl
theorem wi_cons (v : Nat) (vs : List Nat) : wipeE env (v :: vs) = (wipeE env vs).set v none := rfl
theorem nx_ok (a : α) : noExn (Res.ok a) = .ok a := rfl
theorem cl_nil (t : D → Res (Option D)) : compL t [] = .ok [] := rfl
theorem cl_cons (t : D → Res (Option D)) (d : D) (ds : List D) : compL t (d :: ds) = (t d).bind fun o => (compL t ds).bind fun r => .ok (addO o r) := rfl
/-- a comprehension whose turns tell something each -/
theorem cl_map {γ : Type} (t : D → Res (Option D)) (f : γ → D) (g : γ → D) (xs : List γ) (h : ∀ x ∈ xs, t (f x) = .ok (some (g x))) : compL t (xs.map f) = .ok (xs.map g) := by
  induction xs with
  | nil => rfl
  | cons x r ih =>
    show compL t (f x :: r.map f) = _
    rw [cl_cons, h x List.mem_cons_self, b_ok, ih fun y hy => h y (List.mem_cons_of_mem _ hy), b_ok]
    rfl
/-- with a condition -/
theorem cl_filt {γ : Type} (t : D → Res (Option D)) (f : γ → D) (p : γ → Bool) (g : γ → D) (xs : List γ) (h : ∀ x ∈ xs, t (f x) = .ok (if p x then some (g x) else none)) : compL t (xs.map f) = .ok ((xs.filter p).map g) := by
  induction xs with
  | nil => rfl
  | cons x r ih =>
    show compL t (f x :: r.map f) = _
    rw [cl_cons, h x List.mem_cons_self, b_ok, ih fun y hy => h y (List.mem_cons_of_mem _ hy), b_ok, List.filter_cons]
    cases p x <;> rfl
theorem stE0 (n : Nat) : startE n [] = List.replicate n none := rfl
theorem fl_ret (d : D) : (match Fl.ret d with | .next _ => Res.ok PyData.none | .ret d => .ok d | _ => .stuck) = .ok d := rfl
def finK (f : Fl) : Res D := match f with
  | .next _ => .ok .none
  | .ret d => .ok d
  | _ => .stuck
theorem rF' (n np : Nat) (b : Ss) (ds : List D) : runF Φ cs n np b ds = need (decide (ds.length = np)) ((exs Φ cs b (startE n ds)).bind finK) := by
  unfold runF
  congr 1
theorem fk_r (d : D) : finK (.ret d) = .ok d := rfl
theorem fk_n (env : Env) : finK (.next env) = .ok .none := rfl
theorem stE (n : Nat) (ds : List D) : startE n ds = ds.map (fun d => some (.val d)) ++ List.replicate (n - ds.length) none := rfl
theorem addO_s (x : D) (r : List D) : addO (some x) r = x :: r := rfl
theorem addO_n (r : List D) : addO none r = r := rfl
theorem fz (n : Nat) (h : n ≤ 16777216) : fitsZ n = true := decide_eq_true h
theorem sm (i : Int) (h1 : -(2 ^ 64) < i) (h2 : i < 2 ^ 64) : small64 i = true := by
  unfold small64
  rw [decide_eq_true h1, decide_eq_true h2]; rfl
/-- a range from 0 -/
theorem rg0 (n : Nat) (h : n ≤ 16777216) : rangeD 0 n = .ok ((List.range n).map fun i => .int (i : Nat)) := by
  unfold rangeD
  have e : ((n : Int) - 0).toNat = n := by omega
  rw [e, decide_eq_true (show (-(2 ^ 62) : Int) ≤ 0 by decide), decide_eq_true (show (0 : Int) < 2 ^ 62 by decide), decide_eq_true (show (-(2 ^ 62) : Int) ≤ (n : Int) by omega), decide_eq_true (show (n : Int) < 2 ^ 62 by omega), fz n h]
  show Res.ok _ = _
  congr 2
  funext i
  rw [Int.zero_add]
end
end MW

set_option maxRecDepth 100000
/-! Part 4a: words, makers, places, in plain Lean. -/
namespace MW
open PySem PySem.Spec PyProof.Rows L2
open Res
def ofL (l : List Nat) : Str := ⟨l.toArray⟩
theorem ofL_inj {a b : List Nat} (h : ofL a = ofL b) : a = b := by
  have e : a.toArray = b.toArray := congrArg Str.cps h
  simpa using e
theorem ofL_len (a : List Nat) : (ofL a).length = a.length := rfl
theorem ofL_app (a b : List Nat) : ofL a ++ ofL b = ofL (a ++ b) := by
  show Str.mk (a.toArray ++ b.toArray) = _
  rw [List.append_toArray]
  rfl
theorem ofL_cps (a : List Nat) : (ofL a).cps.toList = a := rfl
theorem ofL_of (s : Str) : ofL s.cps.toList = s := rfl
theorem cut_l (a : List Nat) (lo hi : Option Int) : cutStr (ofL a) lo hi = ofL (cutD a lo hi) := rfl
theorem cut_h {α : Type} (c : α) (r : List α) : cutD (c :: r) none (some 1) = [c] := by
  unfold cutD
  rw [show HT.sIx (c :: r).length 0 none = 0 from rfl, show HT.sIx (c :: r).length (c :: r).length (some 1) = min 1 (c :: r).length from HT.sIx_nat _ _ 1]
  rw [List.length_cons, show min 1 (r.length + 1) - 0 = 1 by omega]
  rfl
theorem cut_h0 {α : Type} : cutD ([] : List α) none (some 1) = [] := rfl
theorem cut_t {α : Type} (c : α) (r : List α) : cutD (c :: r) (some 1) none = r := by
  unfold cutD
  rw [show HT.sIx (c :: r).length (c :: r).length none = (c :: r).length from rfl, show HT.sIx (c :: r).length 0 (some 1) = min 1 (c :: r).length from HT.sIx_nat _ _ 1]
  rw [List.length_cons, show min 1 (r.length + 1) = 1 by omega]
  show List.take _ r = r
  rw [List.take_of_length_le (by omega)]
/-- a sign of a leaf -/
def Sg (s : Str) : Prop := ∃ c : Nat, s = ofL [c] ∧ 33 ≤ c ∧ c < 127
theorem Sg.ok {s : Str} (h : Sg s) : PyData.strOk s = true := by
  obtain ⟨c, rfl, h1, h2⟩ := h
  unfold PyData.strOk
  simp [ofL]
  omega
theorem Sg.cut {s : Str} (h : Sg s) : cutStr s none (some 1) = s := by
  obtain ⟨c, rfl, _, _⟩ := h
  rw [cut_l, cut_h]
theorem Sg.len {s : Str} (h : Sg s) : s.length = 1 := by
  obtain ⟨c, rfl, _, _⟩ := h
  rfl

inductive Wd where
  | lf (s : Str)
  | ap (f a : Wd)
  deriving DecidableEq
namespace Wd
def toD : Wd → D
  | .lf s => .str s
  | .ap f a => .tuple [f.toD, a.toD]
/-- how many leaves -/
def size : Wd → Nat
  | .lf _ => 1
  | .ap f a => f.size + a.size
def dep : Wd → Nat
  | .lf _ => 0
  | .ap f a => max f.dep a.dep + 1
def hd : Wd → Str
  | .lf s => s
  | .ap f _ => f.hd
def args : Wd → List Wd
  | .lf _ => []
  | .ap f a => f.args ++ [a]
def All (P : Str → Prop) : Wd → Prop
  | .lf s => P s
  | .ap f a => f.All P ∧ a.All P
def lvs : Wd → List Str
  | .lf s => [s]
  | .ap f a => f.lvs ++ a.lvs
theorem All.mono {P Q : Str → Prop} (h : ∀ s, P s → Q s) : ∀ {w : Wd}, w.All P → w.All Q
  | .lf s, q => h s q
  | .ap _ _, q => ⟨All.mono h q.1, All.mono h q.2⟩
theorem size_pos : ∀ w : Wd, 0 < w.size
  | .lf _ => Nat.one_pos
  | .ap f a => by have := f.size_pos; show 0 < f.size + a.size; omega
theorem dep_lt : ∀ w : Wd, w.dep < w.size
  | .lf _ => Nat.one_pos
  | .ap f a => by
    have h1 := f.dep_lt
    have h2 := a.dep_lt
    have h3 := f.size_pos
    have h4 := a.size_pos
    show max f.dep a.dep + 1 < f.size + a.size
    omega
theorem args_le : ∀ w : Wd, w.args.length ≤ w.dep
  | .lf _ => Nat.le_refl 0
  | .ap f a => by
    have h1 := f.args_le
    show (f.args ++ [a]).length ≤ max f.dep a.dep + 1
    rw [List.length_append, List.length_singleton]
    omega
theorem args_dep : ∀ (w : Wd) (x : Wd), x ∈ w.args → x.dep < w.dep
  | .lf _, x, h => by cases h
  | .ap f a, x, h => by
    show x.dep < max f.dep a.dep + 1
    rcases List.mem_append.mp h with h | h
    · have := f.args_dep x h; omega
    · rw [List.mem_singleton.mp h]; omega
theorem hd_all {P : Str → Prop} : ∀ {w : Wd}, w.All P → P w.hd
  | .lf _, h => h
  | .ap f _, h => hd_all (w := f) h.1
theorem args_all {P : Str → Prop} : ∀ {w : Wd}, w.All P → ∀ x ∈ w.args, x.All P
  | .lf _, _, _, h => by cases h
  | .ap _ _, h, x, hx => by
    rcases List.mem_append.mp hx with q | q
    · exact args_all h.1 x q
    · rw [List.mem_singleton.mp q]; exact h.2
theorem toD_dep : ∀ w : Wd, w.toD.depth = w.dep
  | .lf _ => rfl
  | .ap f a => by
    show max f.toD.depth (max a.toD.depth 0) + 1 = max f.dep a.dep + 1
    rw [toD_dep f, toD_dep a, Nat.max_zero]
theorem toD_ok : ∀ {w : Wd}, w.All Sg → w.toD.canLay0 = true
  | .lf _, h => h.ok
  | .ap f a, h => by
    show (f.toD.canLay0 && (a.toD.canLay0 && true)) = true
    rw [toD_ok h.1, toD_ok h.2]; rfl
theorem toD_eqv : ∀ w v : Wd, PyData.eqv w.toD v.toD = decide (w = v)
  | .lf s, .lf t => by
    show (s == t) = _
    by_cases h : s = t
    · rw [h, decide_eq_true rfl, beq_self_eq_true]
    · rw [decide_eq_false (fun e => h (Wd.lf.inj e))]
      exact beq_eq_false_iff_ne.mpr h
  | .lf s, .ap f a => by rw [decide_eq_false (fun e => by cases e)]; rfl
  | .ap f a, .lf s => by rw [decide_eq_false (fun e => by cases e)]; rfl
  | .ap f a, .ap g b => by
    show (PyData.eqv f.toD g.toD && (PyData.eqv a.toD b.toD && true)) = _
    rw [toD_eqv f g, toD_eqv a b, Bool.and_true]
    by_cases h1 : f = g
    · by_cases h2 : a = b
      · rw [h1, h2]; simp
      · rw [decide_eq_false h2, Bool.and_false, decide_eq_false (fun e => h2 (Wd.ap.inj e).2)]
    · rw [decide_eq_false h1, Bool.false_and, decide_eq_false (fun e => h1 (Wd.ap.inj e).1)]
theorem eqD_w {w v : Wd} (hw : w.All Sg) (hv : v.All Sg) (h : w.dep ≤ 150) : eqD w.toD v.toD = .ok (.bool (decide (w = v))) := by
  unfold eqD eqOk
  rw [toD_ok hw, toD_ok hv, toD_dep, decide_eq_true (show w.dep ≤ lim from h), toD_eqv]
  rfl
theorem neD_w {w v : Wd} (hw : w.All Sg) (hv : v.All Sg) (h : w.dep ≤ 150) : neD w.toD v.toD = .ok (.bool (!decide (w = v))) := by
  unfold neD eqOk
  rw [toD_ok hw, toD_ok hv, toD_dep, decide_eq_true (show w.dep ≤ lim from h), toD_eqv]
  rfl
theorem toD_inj {w v : Wd} (h : w.toD = v.toD) : w = v := by
  have e := toD_eqv w v
  have e2 := toD_eqv v v
  rw [h, e2, decide_eq_true rfl] at e
  exact of_decide_eq_true e.symm
theorem noneF (w : Wd) : isNone w.toD = false := by cases w <;> rfl
end Wd

/-- a deed -/
inductive Dd where
  | v (i : Nat)
  | p (a b : Dd)
namespace Dd
def toD : Dd → D
  | .v i => .int (i : Nat)
  | .p a b => .tuple [a.toD, b.toD]
def bd (n : Nat) : Dd → Prop
  | .v i => i < n
  | .p a b => a.bd n ∧ b.bd n
def size : Dd → Nat
  | .v _ => 1
  | .p a b => a.size + b.size
def dep : Dd → Nat
  | .v _ => 0
  | .p a b => max a.dep b.dep + 1
/-- done with things -/
def act (bs : List Wd) : Dd → Wd
  | .v i => bs.getD i (.lf (ofL []))
  | .p a b => .ap (a.act bs) (b.act bs)
theorem size_pos : ∀ w : Dd, 0 < w.size
  | .v _ => Nat.one_pos
  | .p f a => by have := f.size_pos; show 0 < f.size + a.size; omega
theorem dep_lt : ∀ w : Dd, w.dep < w.size
  | .v _ => Nat.one_pos
  | .p f a => by
    have h1 := f.dep_lt
    have h2 := a.dep_lt
    have h3 := f.size_pos
    have h4 := a.size_pos
    show max f.dep a.dep + 1 < f.size + a.size
    omega
theorem act_all {P : Str → Prop} {bs : List Wd} (hb : ∀ x ∈ bs, x.All P) : ∀ {d : Dd}, d.bd bs.length → (d.act bs).All P
  | .v i, h => by
    have e : bs.getD i (.lf (ofL [])) = bs[i] := by rw [List.getD_eq_getElem?_getD, List.getElem?_eq_getElem h]; rfl
    show (bs.getD i (.lf (ofL []))).All P
    rw [e]
    exact hb _ (List.getElem_mem h)
  | .p a b, h => ⟨act_all hb h.1, act_all hb h.2⟩
theorem act_dep {bs : List Wd} {n : Nat} (hb : ∀ x ∈ bs, x.dep ≤ n) : ∀ {d : Dd}, d.bd bs.length → (d.act bs).dep ≤ n + d.dep
  | .v i, h => by
    have e : bs.getD i (.lf (ofL [])) = bs[i] := by rw [List.getD_eq_getElem?_getD, List.getElem?_eq_getElem h]; rfl
    show (bs.getD i (.lf (ofL []))).dep ≤ _
    rw [e]
    have := hb _ (List.getElem_mem h)
    omega
  | .p a b, h => by
    have h1 := act_dep hb h.1
    have h2 := act_dep hb h.2
    show max (a.act bs).dep (b.act bs).dep + 1 ≤ n + (max a.dep b.dep + 1)
    omega
theorem act_size {bs : List Wd} {n : Nat} (hb : ∀ x ∈ bs, x.size ≤ n) : ∀ {d : Dd}, d.bd bs.length → (d.act bs).size ≤ n * d.size
  | .v i, h => by
    have e : bs.getD i (.lf (ofL [])) = bs[i] := by rw [List.getD_eq_getElem?_getD, List.getElem?_eq_getElem h]; rfl
    show (bs.getD i (.lf (ofL []))).size ≤ n * 1
    rw [e, Nat.mul_one]
    exact hb _ (List.getElem_mem h)
  | .p a b, h => by
    have h1 := act_size hb h.1
    have h2 := act_size hb h.2
    show (a.act bs).size + (b.act bs).size ≤ n * (a.size + b.size)
    rw [Nat.mul_add]
    omega
end Dd

structure Mk where
  nm : Str
  many : Nat
  deed : Dd
def Mk.toD (m : Mk) : D := .tuple [.str m.nm, .int (m.many : Nat), m.deed.toD]
def msD (ms : List Mk) : D := .tuple (ms.map Mk.toD)
/-- a maker's name: a great letter -/
def Gt (s : Str) : Prop := ∃ c : Nat, s = ofL [c] ∧ 65 ≤ c ∧ c ≤ 90
theorem Gt.sg {s : Str} (h : Gt s) : Sg s := by
  obtain ⟨c, e, h1, h2⟩ := h
  exact ⟨c, e, by omega, by omega⟩
structure MkOk (m : Mk) : Prop where
  nm : Gt m.nm
  lo : 1 ≤ m.many
  hi : m.many ≤ 4
  bd : m.deed.bd m.many
  sz : m.deed.size ≤ 4
structure MsOk (ms : List Mk) : Prop where
  ok : ∀ m ∈ ms, MkOk m
  nd : (ms.map Mk.nm).Nodup
  lo : 1 ≤ ms.length
  hi : ms.length ≤ 5
def fnd (ms : List Mk) (s : Str) : Option Mk := ms.find? fun m => m.nm == s
def bkD (ms : List Mk) : D := .dict (ms.map fun m => (.str m.nm, .tuple [.int (m.many : Nat), m.deed.toD]))
theorem fnd_mem {ms : List Mk} {s : Str} {m : Mk} (h : fnd ms s = some m) : m ∈ ms ∧ m.nm = s := ⟨List.mem_of_find?_eq_some h, by simpa using List.find?_some h⟩
theorem get_bk : ∀ (ms : List Mk) (s : Str), dictGet (ms.map fun m => (.str m.nm, .tuple [.int (m.many : Nat), m.deed.toD])) (.inr s) = (fnd ms s).map fun m => .tuple [.int (m.many : Nat), m.deed.toD]
  | [], s => rfl
  | m :: r, s => by
    show (if (Sum.inr m.nm : Key) = .inr s then some _ else dictGet _ _) = (List.find? _ (m :: r)).map _
    rw [List.find?_cons]
    by_cases h : m.nm = s
    · rw [if_pos (by rw [h]), h, beq_self_eq_true]; rfl
    · rw [if_neg (fun e => h (Sum.inr.inj e)), beq_eq_false_iff_ne.mpr h]
      exact get_bk r s
/-- the deed that is done here, if any -/
def can (ms : List Mk) (w : Wd) : Option Mk := match fnd ms w.hd with
  | some m => if m.many = w.args.length then some m else none
  | none => none
def canB (ms : List Mk) (w : Wd) : Bool := (can ms w).isSome
theorem can_spec {ms : List Mk} {w : Wd} {m : Mk} (h : can ms w = some m) : m ∈ ms ∧ m.nm = w.hd ∧ m.many = w.args.length := by
  unfold can at h
  cases q : fnd ms w.hd with
  | none => rw [q] at h; cases h
  | some m' =>
    rw [q] at h
    dsimp only at h
    by_cases e : m'.many = w.args.length
    · rw [if_pos e] at h
      cases h
      exact ⟨(fnd_mem q).1, (fnd_mem q).2, e⟩
    · rw [if_neg e] at h; cases h
theorem can_lf {ms : List Mk} (h : MsOk ms) (s : Str) : can ms (.lf s) = none := by
  cases q : can ms (.lf s) with
  | none => rfl
  | some m =>
    have ⟨a, _, c⟩ := can_spec q
    have d := (h.ok m a).lo
    rw [c] at d
    exact absurd d (show ¬ 1 ≤ 0 by decide)
/-- places: true leads into the first part -/
abbrev Pl := List Bool
def plL (p : Pl) : List Nat := p.map fun b => if b then 102 else 98
def plS (p : Pl) : Str := ofL (plL p)
theorem plS_inj {p q : Pl} (h : plS p = plS q) : p = q := by
  have e := ofL_inj h
  exact (List.map_inj_right (fun a b z => by cases a <;> cases b <;> first | rfl | cases z)).mp e
theorem plL_app (p q : Pl) : plL (p ++ q) = plL p ++ plL q := List.map_append
theorem plS_app (p q : Pl) : plS p ++ plS q = plS (p ++ q) := by
  unfold plS
  rw [ofL_app, plL_app]
theorem plS_len (p : Pl) : (plS p).length = p.length := by
  show (plL p).toArray.size = _
  rw [List.size_toArray, plL, List.length_map]
theorem plS_ok (p : Pl) (h : p.length ≤ 1000) : PyData.strOk (plS p) = true := by
  unfold PyData.strOk
  have e : (plS p).cps.toList = plL p := rfl
  simp only [plS, ofL, plL]
  simp
def own (ms : List Mk) (w : Wd) : List Pl := match can ms w with
  | some _ => [[]]
  | none => []
def plcs (ms : List Mk) : Wd → List Pl
  | .lf s => own ms (.lf s)
  | .ap f a => own ms (.ap f a) ++ (plcs ms f).map (true :: ·) ++ (plcs ms a).map (false :: ·)
def fst (ms : List Mk) : Wd → Option Pl
  | .lf s => match can ms (.lf s) with
    | some _ => some []
    | none => none
  | .ap f a => match can ms (.ap f a) with
    | some _ => some []
    | none => match fst ms f with
      | some p => some (true :: p)
      | none => match fst ms a with
        | some p => some (false :: p)
        | none => none
theorem fst_none (ms : List Mk) : ∀ w : Wd, fst ms w = none ↔ plcs ms w = []
  | .lf s => by
    unfold fst plcs own
    cases can ms (.lf s) <;> simp
  | .ap f a => by
    have h1 := fst_none ms f
    have h2 := fst_none ms a
    unfold fst plcs own
    cases can ms (.ap f a) with
    | some m => simp
    | none =>
      cases q1 : fst ms f with
      | some p =>
        have : plcs ms f ≠ [] := fun e => by rw [h1.mpr e] at q1; cases q1
        simp [this]
      | none =>
        cases q2 : fst ms a with
        | some p =>
          have : plcs ms a ≠ [] := fun e => by rw [h2.mpr e] at q2; cases q2
          simp [this]
        | none => simp [h1.mp q1, h2.mp q2]
theorem plcs_len (ms : List Mk) : ∀ w : Wd, (plcs ms w).length + 1 ≤ w.size + w.size
  | .lf s => by
    unfold plcs own
    cases can ms (.lf s) <;> simp [Wd.size]
  | .ap f a => by
    have h1 := plcs_len ms f
    have h2 := plcs_len ms a
    have h3 := f.size_pos
    unfold plcs own
    show _ + 1 ≤ (f.size + a.size) + (f.size + a.size)
    cases can ms (.ap f a) <;> simp
    · omega
    · omega
theorem plcs_dep (ms : List Mk) : ∀ (w : Wd) (p : Pl), p ∈ plcs ms w → p.length ≤ w.dep
  | .lf s, p, h => by
    unfold plcs own at h
    cases q : can ms (.lf s) <;> rw [q] at h
    · cases h
    · rw [List.mem_singleton.mp h]; exact Nat.le_refl 0
  | .ap f a, p, h => by
    unfold plcs own at h
    show p.length ≤ max f.dep a.dep + 1
    rw [List.append_assoc] at h
    rcases List.mem_append.mp h with h | h
    · cases q : can ms (.ap f a) <;> rw [q] at h
      · cases h
      · rw [List.mem_singleton.mp h]; exact Nat.zero_le _
    · rcases List.mem_append.mp h with h | h
      · obtain ⟨r, h1, rfl⟩ := List.mem_map.mp h
        have := plcs_dep ms f r h1
        rw [List.length_cons]; omega
      · obtain ⟨r, h1, rfl⟩ := List.mem_map.mp h
        have := plcs_dep ms a r h1
        rw [List.length_cons]; omega
theorem fst_dep (ms : List Mk) : ∀ (w : Wd) (p : Pl), fst ms w = some p → p.length ≤ w.dep
  | .lf s, p, h => by
    unfold fst at h
    cases q : can ms (.lf s) <;> rw [q] at h <;> cases h
    exact Nat.le_refl 0
  | .ap f a, p, h => by
    have h1 := fst_dep ms f
    have h2 := fst_dep ms a
    unfold fst at h
    show p.length ≤ max f.dep a.dep + 1
    cases q : can ms (.ap f a) <;> rw [q] at h
    · dsimp only at h
      cases q1 : fst ms f with
      | some r =>
        rw [q1] at h; cases h
        have := h1 r q1
        rw [List.length_cons]; omega
      | none =>
        rw [q1] at h
        dsimp only at h
        cases q2 : fst ms a with
        | some r =>
          rw [q2] at h; cases h
          have := h2 r q2
          rw [List.length_cons]; omega
        | none => rw [q2] at h; cases h
    · cases h; exact Nat.zero_le _
/-! sorting -/
theorem strsOf_map (xs : List Str) : strsOf (xs.map .str) = some xs := by
  induction xs with
  | nil => rfl
  | cons x r ih =>
    show (strsOf (r.map .str)).map (x :: ·) = _
    rw [ih]; rfl
theorem sorted_str (xs : List Str) : sortedD (xs.map .str) = .ok (.list ((sortS xs).map .str)) := by
  unfold sortedD
  rw [strsOf_map]
theorem lt_irr (a : List Nat) : ltCps a a = false := by
  induction a with
  | nil => rfl
  | cons x r ih => show (decide (x < x) || (x == x && ltCps r r)) = false; simp [ih]
theorem lt_tri : ∀ a b : List Nat, ltCps a b = false → ltCps b a = false → a = b
  | [], [], _, _ => rfl
  | [], _ :: _, h, _ => by cases h
  | _ :: _, [], _, h => by cases h
  | x :: r, y :: t, h1, h2 => by
    unfold ltCps at h1 h2
    simp at h1 h2
    have e : x = y := by omega
    subst e
    rw [lt_tri r t (by simpa using h1) (by simpa using h2)]
theorem lt_asym : ∀ a b : List Nat, ltCps a b = true → ltCps b a = false
  | [], [], h => by cases h
  | [], _ :: _, _ => rfl
  | _ :: _, [], h => by cases h
  | x :: r, y :: t, h => by
    unfold ltCps at h ⊢
    simp at h ⊢
    rcases h with h | ⟨h, q⟩
    · exact ⟨by omega, fun e => by omega⟩
    · exact ⟨by omega, fun _ => lt_asym r t q⟩
theorem lt_trans : ∀ a b c : List Nat, ltCps a b = true → ltCps b c = true → ltCps a c = true
  | [], [], _, h, _ => by cases h
  | [], _ :: _, [], _, h => by cases h
  | [], _ :: _, _ :: _, _, _ => rfl
  | _ :: _, [], _, h, _ => by cases h
  | _ :: _, _ :: _, [], _, h => by cases h
  | x :: r, y :: t, z :: u, h1, h2 => by
    unfold ltCps at h1 h2 ⊢
    simp at h1 h2 ⊢
    rcases h1 with h1 | ⟨h1, q1⟩ <;> rcases h2 with h2 | ⟨h2, q2⟩
    · left; omega
    · left; omega
    · left; omega
    · right; exact ⟨by omega, lt_trans r t u q1 q2⟩
abbrev ltS (x y : Str) : Bool := ltCps x.cps.toList y.cps.toList
theorem ltS_tri (x y : Str) (h1 : ltS x y = false) (h2 : ltS y x = false) : x = y := by
  have := lt_tri _ _ h1 h2
  rw [← ofL_of x, ← ofL_of y, this]
theorem ins_comm (x y : Str) : ∀ l : List Str, insS x (insS y l) = insS y (insS x l)
  | [] => by
    show (if ltS y x then _ else _) = (if ltS x y then _ else _)
    cases h1 : ltS y x with
    | true =>
      rw [show ltS x y = false from lt_asym _ _ h1]; rfl
    | false =>
      cases h2 : ltS x y with
      | true => rfl
      | false => rw [ltS_tri x y h2 h1]
  | z :: r => by
    have ih := ins_comm x y r
    show insS x (if ltS z y then _ else _) = insS y (if ltS z x then _ else _)
    cases hy : ltS z y with
    | true =>
      cases hx : ltS z x with
      | true =>
        show (if ltS z x then _ else _) = (if ltS z y then _ else _)
        rw [hx, hy]
        show z :: insS x (insS y r) = z :: insS y (insS x r)
        rw [ih]
      | false =>
        show (if ltS z x then _ else _) = (if ltS x y then _ else _)
        have hxy : ltS x y = true := by
          cases q : ltS x z with
          | true => exact lt_trans _ _ _ q hy
          | false => rw [ltS_tri x z q hx]; exact hy
        rw [hx, hxy]
        show x :: z :: insS y r = x :: (if ltS z y then _ else _)
        rw [hy]; rfl
    | false =>
      cases hx : ltS z x with
      | true =>
        show (if ltS y x then _ else _) = (if ltS z y then _ else _)
        have hyx : ltS y x = true := by
          cases q : ltS y z with
          | true => exact lt_trans _ _ _ q hx
          | false => rw [ltS_tri y z q hy]; exact hx
        rw [hy, hyx]
        show y :: (if ltS z x then _ else _) = y :: z :: insS x r
        rw [hx]; rfl
      | false =>
        show (if ltS y x then _ else _) = (if ltS x y then _ else _)
        cases h1 : ltS y x with
        | true =>
          rw [show ltS x y = false from lt_asym _ _ h1]
          show y :: (if ltS z x then _ else _) = y :: x :: z :: r
          rw [hx]; rfl
        | false =>
          cases h2 : ltS x y with
          | true =>
            show x :: y :: z :: r = x :: (if ltS z y then _ else _)
            rw [hy]; rfl
          | false => rw [ltS_tri x y h2 h1]
theorem sort_perm {a b : List Str} (h : a.Perm b) : sortS a = sortS b := by
  induction h with
  | nil => rfl
  | cons x _ ih => show insS x (sortS _) = insS x (sortS _); rw [ih]
  | swap x y l => exact ins_comm y x (sortS l)
  | trans _ _ i1 i2 => exact i1.trans i2
theorem ins_is (x : Str) : ∀ l : List Str, (insS x l).Perm (x :: l)
  | [] => List.Perm.refl _
  | y :: r => by
    show (if ltS y x then _ else _ : List Str).Perm _
    cases ltS y x with
    | true => exact ((ins_is x r).cons y).trans (List.Perm.swap x y r)
    | false => exact List.Perm.refl _
theorem sort_is : ∀ l : List Str, (sortS l).Perm l
  | [] => List.Perm.refl _
  | x :: r => (ins_is x (sortS r)).trans ((sort_is r).cons x)
theorem sort_len (l : List Str) : (sortS l).length = l.length := (sort_is l).length_eq
def plsS (ms : List Mk) (w : Wd) : List Str := sortS ((plcs ms w).map plS)
end MW

set_option maxRecDepth 100000
/-! Part 4b: steps, runs, in plain Lean. -/
namespace MW
open PySem PySem.Spec PyProof.Rows L2
open Res
def stp (ms : List Mk) : Wd → Pl → Option Wd
  | w, [] => (can ms w).map fun m => m.deed.act w.args
  | .ap f a, true :: p => (stp ms f p).map fun f' => .ap f' a
  | .ap f a, false :: p => (stp ms a p).map fun a' => .ap f a'
  | .lf _, _ :: _ => none
theorem stp_nil (ms : List Mk) (w : Wd) : stp ms w [] = (can ms w).map fun m => m.deed.act w.args := by
  cases w <;> rfl
theorem mem_plcs (ms : List Mk) : ∀ (w : Wd) (p : Pl), p ∈ plcs ms w ↔ (stp ms w p).isSome = true
  | .lf s, p => by
    unfold plcs own
    cases p with
    | nil => rw [stp_nil]; cases can ms (.lf s) <;> simp
    | cons b r => cases can ms (.lf s) <;> simp [stp]
  | .ap f a, p => by
    have h1 := mem_plcs ms f
    have h2 := mem_plcs ms a
    unfold plcs own
    cases p with
    | nil => rw [stp_nil]; cases can ms (.ap f a) <;> simp
    | cons b r =>
      cases b with
      | true =>
        show _ ↔ ((stp ms f r).map fun f' => Wd.ap f' a).isSome = true
        rw [Option.isSome_map, ← h1 r]
        cases can ms (.ap f a) <;> simp
      | false =>
        show _ ↔ ((stp ms a r).map fun f' => Wd.ap f f').isSome = true
        rw [Option.isSome_map, ← h2 r]
        cases can ms (.ap f a) <;> simp
theorem fst_mem (ms : List Mk) : ∀ (w : Wd) (p : Pl), fst ms w = some p → p ∈ plcs ms w
  | .lf s, p, h => by
    unfold fst at h
    unfold plcs own
    cases q : can ms (.lf s) <;> rw [q] at h <;> cases h
    exact List.mem_singleton.mpr rfl
  | .ap f a, p, h => by
    have h1 := fst_mem ms f
    have h2 := fst_mem ms a
    unfold fst at h
    unfold plcs own
    cases q : can ms (.ap f a) <;> rw [q] at h
    · dsimp only at h
      cases q1 : fst ms f with
      | some r =>
        rw [q1] at h; cases h
        simp [h1 r q1]
      | none =>
        rw [q1] at h
        dsimp only at h
        cases q2 : fst ms a with
        | some r =>
          rw [q2] at h; cases h
          simp [h2 r q2]
        | none => rw [q2] at h; cases h
    · cases h; simp
/-- what a step keeps -/
theorem stp_all {P : Str → Prop} {ms : List Mk} (hm : ∀ m ∈ ms, MkOk m) : ∀ {w : Wd} {p : Pl} {w' : Wd}, w.All P → stp ms w p = some w' → w'.All P
  | w, [], w', h, e => by
    rw [stp_nil] at e
    cases q : can ms w with
    | none => rw [q] at e; cases e
    | some m =>
      rw [q] at e; cases e
      have ⟨a, _, c⟩ := can_spec q
      exact Dd.act_all (Wd.args_all h) (c ▸ (hm m a).bd)
  | .lf s, _ :: _, _, _, e => by simp [stp] at e
  | .ap f a, true :: p, w', h, e => by
    have e' : (stp ms f p).map (fun f' => Wd.ap f' a) = some w' := e
    cases q : stp ms f p with
    | none => rw [q] at e'; cases e'
    | some f' => rw [q] at e'; cases e'; exact ⟨stp_all hm h.1 q, h.2⟩
  | .ap f a, false :: p, w', h, e => by
    have e' : (stp ms a p).map (fun f' => Wd.ap f f') = some w' := e
    cases q : stp ms a p with
    | none => rw [q] at e'; cases e'
    | some f' => rw [q] at e'; cases e'; exact ⟨h.1, stp_all hm h.2 q⟩
theorem stp_dep {ms : List Mk} (hm : ∀ m ∈ ms, MkOk m) : ∀ {w : Wd} {p : Pl} {w' : Wd}, stp ms w p = some w' → w'.dep ≤ w.dep + 2
  | w, [], w', e => by
    rw [stp_nil] at e
    cases q : can ms w with
    | none => rw [q] at e; cases e
    | some m =>
      rw [q] at e; cases e
      have ⟨a, _, c⟩ := can_spec q
      have o := hm m a
      have h1 := Dd.act_dep (bs := w.args) (n := w.dep - 1) (fun x hx => by have := w.args_dep x hx; omega) (c ▸ o.bd)
      have h2 := m.deed.dep_lt
      have h3 := o.sz
      have h4 := w.args_le
      have h5 := o.lo
      show (m.deed.act w.args).dep ≤ w.dep + 2
      omega
  | .lf s, _ :: _, _, e => by simp [stp] at e
  | .ap f a, true :: p, w', e => by
    have e' : (stp ms f p).map (fun f' => Wd.ap f' a) = some w' := e
    cases q : stp ms f p with
    | none => rw [q] at e'; cases e'
    | some f' =>
      rw [q] at e'; cases e'
      have := stp_dep hm q
      show max f'.dep a.dep + 1 ≤ max f.dep a.dep + 1 + 2
      omega
  | .ap f a, false :: p, w', e => by
    have e' : (stp ms a p).map (fun f' => Wd.ap f f') = some w' := e
    cases q : stp ms a p with
    | none => rw [q] at e'; cases e'
    | some f' =>
      rw [q] at e'; cases e'
      have := stp_dep hm q
      show max f.dep f'.dep + 1 ≤ max f.dep a.dep + 1 + 2
      omega
theorem args_size : ∀ (w : Wd) (x : Wd), x ∈ w.args → x.size ≤ w.size
  | .lf _, x, h => by cases h
  | .ap f a, x, h => by
    show x.size ≤ f.size + a.size
    rcases List.mem_append.mp h with h | h
    · have := args_size f x h; omega
    · rw [List.mem_singleton.mp h]; omega
theorem stp_size {ms : List Mk} (hm : ∀ m ∈ ms, MkOk m) : ∀ {w : Wd} {p : Pl} {w' : Wd}, stp ms w p = some w' → w'.size ≤ w.size * 4
  | w, [], w', e => by
    rw [stp_nil] at e
    cases q : can ms w with
    | none => rw [q] at e; cases e
    | some m =>
      rw [q] at e; cases e
      have ⟨a, _, c⟩ := can_spec q
      have o := hm m a
      have h1 := Dd.act_size (bs := w.args) (n := w.size) (fun x hx => args_size w x hx) (c ▸ o.bd)
      exact Nat.le_trans h1 (Nat.mul_le_mul (Nat.le_refl _) o.sz)
  | .lf s, _ :: _, _, e => by simp [stp] at e
  | .ap f a, true :: p, w', e => by
    have e' : (stp ms f p).map (fun f' => Wd.ap f' a) = some w' := e
    cases q : stp ms f p with
    | none => rw [q] at e'; cases e'
    | some f' =>
      rw [q] at e'; cases e'
      have := stp_size hm q
      show f'.size + a.size ≤ (f.size + a.size) * 4
      omega
  | .ap f a, false :: p, w', e => by
    have e' : (stp ms a p).map (fun f' => Wd.ap f f') = some w' := e
    cases q : stp ms a p with
    | none => rw [q] at e'; cases e'
    | some f' =>
      rw [q] at e'; cases e'
      have := stp_size hm q
      show f.size + f'.size ≤ (f.size + a.size) * 4
      omega
theorem stp_len {ms : List Mk} {w : Wd} {p : Pl} {w' : Wd} (h : stp ms w p = some w') : p.length ≤ w.dep := plcs_dep ms w p ((mem_plcs ms w p).mpr (by rw [h]; rfl))
/-- first steps -/
def nx (ms : List Mk) (w : Wd) : Option Wd := (fst ms w).bind (stp ms w)
theorem nx_none {ms : List Mk} {w : Wd} : nx ms w = none ↔ fst ms w = none := by
  unfold nx
  cases q : fst ms w with
  | none => simp
  | some p =>
    have h := (mem_plcs ms w p).mp (fst_mem ms w p q)
    show stp ms w p = none ↔ _
    cases z : stp ms w p with
    | none => rw [z] at h; cases h
    | some _ => simp
theorem nx_some {ms : List Mk} {w : Wd} {p : Pl} (h : fst ms w = some p) : ∃ w', stp ms w p = some w' ∧ nx ms w = some w' := by
  have q := (mem_plcs ms w p).mp (fst_mem ms w p h)
  cases z : stp ms w p with
  | none => rw [z] at q; cases q
  | some w' => exact ⟨w', rfl, by unfold nx; rw [h]; exact z⟩
def runL (ms : List Mk) : Nat → Wd → List Wd
  | 0, w => [w]
  | n + 1, w => match nx ms w with
    | none => [w]
    | some w' => w :: runL ms n w'
theorem runL_none {ms : List Mk} {w : Wd} (h : nx ms w = none) (n : Nat) : runL ms n w = [w] := by
  cases n with
  | zero => rfl
  | succ n => unfold runL; rw [h]
theorem runL_some {ms : List Mk} {w w' : Wd} (h : nx ms w = some w') (n : Nat) : runL ms (n + 1) w = w :: runL ms n w' := by
  show (match nx ms w with | none => [w] | some w' => w :: runL ms n w') = _
  rw [h]
theorem runL_ne (ms : List Mk) (n : Nat) (w : Wd) : ∃ r, runL ms n w = w :: r := by
  cases n with
  | zero => exact ⟨[], rfl⟩
  | succ n =>
    cases h : nx ms w with
    | none => exact ⟨[], runL_none h _⟩
    | some w' => exact ⟨_, runL_some h n⟩
theorem runL_len (ms : List Mk) : ∀ (n : Nat) (w : Wd), (runL ms n w).length ≤ n + 1
  | 0, w => Nat.le_refl _
  | n + 1, w => by
    cases h : nx ms w with
    | none => rw [runL_none h]; simp
    | some w' => rw [runL_some h]; have := runL_len ms n w'; rw [List.length_cons]; omega
theorem runL_ok {P : Str → Prop} {ms : List Mk} (hm : ∀ m ∈ ms, MkOk m) : ∀ (n : Nat) (w : Wd), w.All P → ∀ x ∈ runL ms n w, x.All P ∧ x.dep ≤ w.dep + 2 * n ∧ x.size ≤ w.size * 4 ^ n
  | 0, w, h, x, hx => by
    rw [List.mem_singleton.mp hx]
    exact ⟨h, by omega, by omega⟩
  | n + 1, w, h, x, hx => by
    cases q : nx ms w with
    | none =>
      rw [runL_none q, List.mem_singleton] at hx
      rw [hx]
      refine ⟨h, by omega, ?_⟩
      exact Nat.le_mul_of_pos_right _ (Nat.pow_pos (by decide))
    | some w' =>
      rw [runL_some q] at hx
      obtain ⟨p, _, s⟩ : ∃ p, fst ms w = some p ∧ stp ms w p = some w' := by
        unfold nx at q
        cases z : fst ms w with
        | none => rw [z] at q; cases q
        | some p => rw [z] at q; exact ⟨p, rfl, q⟩
      rcases List.mem_cons.mp hx with rfl | hx
      · refine ⟨h, by omega, ?_⟩
        exact Nat.le_mul_of_pos_right _ (Nat.pow_pos (by decide))
      · have ⟨a, b, c⟩ := runL_ok hm n w' (stp_all hm h s) x hx
        have d := stp_dep hm s
        have e := stp_size hm s
        refine ⟨a, by omega, Nat.le_trans c ?_⟩
        rw [Nat.pow_succ, Nat.mul_comm (4 ^ n) 4, ← Nat.mul_assoc]
        exact Nat.mul_le_mul_right _ e
theorem runL_take (ms : List Mk) : ∀ (n m : Nat) (w : Wd), n ≤ m → runL ms n w = (runL ms m w).take (n + 1)
  | 0, m, w, _ => by
    obtain ⟨r, e⟩ := runL_ne ms m w
    rw [e]; rfl
  | n + 1, m, w, h => by
    obtain ⟨m, rfl⟩ : ∃ i, m = i + 1 := ⟨m - 1, by omega⟩
    cases q : nx ms w with
    | none => rw [runL_none q, runL_none q]; rfl
    | some w' => rw [runL_some q, runL_some q, List.take_succ_cons, runL_take ms n m w' (by omega)]
theorem runL_drop (ms : List Mk) : ∀ (m n : Nat) (w x : Wd), (runL ms m w)[n]? = some x → (runL ms m w).drop n = runL ms (m - n) x
  | m, 0, w, x, h => by
    obtain ⟨r, e⟩ := runL_ne ms m w
    rw [e] at h
    cases h
    rfl
  | 0, n + 1, w, x, h => by cases h
  | m + 1, n + 1, w, x, h => by
    cases q : nx ms w with
    | none => rw [runL_none q] at h; cases h
    | some w' =>
      rw [runL_some q] at h ⊢
      rw [List.drop_succ_cons, show m + 1 - (n + 1) = m - n by omega]
      exact runL_drop ms m n w' x h
/-- the word behind -/
theorem runL_next (ms : List Mk) : ∀ (m n : Nat) (w x : Wd), (runL ms m w)[n]? = some x → (nx ms x = none ∧ n + 1 = (runL ms m w).length) ∨ (n = m ∧ n + 1 = (runL ms m w).length) ∨ ∃ y, nx ms x = some y ∧ (runL ms m w)[n + 1]? = some y := by
  intro m n w x h
  have d := runL_drop ms m n w x h
  have hn : n < (runL ms m w).length := (List.getElem?_eq_some_iff.mp h).1
  have hl := runL_len ms m w
  have dl : (runL ms m w).length - n = (runL ms (m - n) x).length := by rw [← d, List.length_drop]
  by_cases e : m - n = 0
  · rw [e] at dl
    have : (runL ms 0 x).length = 1 := rfl
    exact .inr (.inl ⟨by omega, by omega⟩)
  · obtain ⟨k, hk⟩ : ∃ i, m - n = i + 1 := ⟨m - n - 1, by omega⟩
    rw [hk] at d dl
    cases q : nx ms x with
    | none =>
      rw [runL_none q] at dl
      have : [x].length = 1 := rfl
      exact .inl ⟨rfl, by omega⟩
    | some y =>
      refine .inr (.inr ⟨y, rfl, ?_⟩)
      rw [runL_some q] at d
      have g : ((runL ms m w).drop n)[1]? = (runL ms m w)[n + 1]? := by rw [List.getElem?_drop]
      rw [← g, d]
      obtain ⟨r, e⟩ := runL_ne ms k y
      rw [e]; rfl
def lastW (l : List Wd) (w : Wd) : Wd := l.getLastD w
def restL (ms : List Mk) (n : Nat) (w : Wd) : Option Wd := match fst ms (lastW (runL ms n w) w) with
  | some _ => none
  | none => some (lastW (runL ms n w) w)
theorem last_eq {l : List Wd} {w : Wd} (h : l ≠ []) : ∃ r, l = r ++ [lastW l w] := by
  refine ⟨l.dropLast, ?_⟩
  unfold lastW
  rw [List.getLastD_eq_getLast?, List.getLast?_eq_some_getLast h, Option.getD_some, List.dropLast_concat_getLast]
theorem eqv_wds : ∀ (a b : List Wd), PyData.eqvAll (a.map Wd.toD) (b.map Wd.toD) = decide (a = b)
  | [], [] => rfl
  | [], _ :: _ => rfl
  | _ :: _, [] => rfl
  | x :: r, y :: t => by
    show (PyData.eqv x.toD y.toD && PyData.eqvAll (r.map Wd.toD) (t.map Wd.toD)) = _
    rw [Wd.toD_eqv, eqv_wds r t]
    by_cases h1 : x = y <;> by_cases h2 : r = t <;> simp [h1, h2]
theorem lay_wds : ∀ (a : List Wd), (∀ x ∈ a, x.All Sg) → PyData.canLayAll0 (a.map Wd.toD) = true
  | [], _ => rfl
  | x :: r, h => by
    show (x.toD.canLay0 && PyData.canLayAll0 (r.map Wd.toD)) = true
    rw [Wd.toD_ok (h x List.mem_cons_self), lay_wds r fun y hy => h y (List.mem_cons_of_mem _ hy)]; rfl
theorem dep_wds {n : Nat} : ∀ (a : List Wd), (∀ x ∈ a, x.dep ≤ n) → PyData.depthAll (a.map Wd.toD) ≤ n
  | [], _ => Nat.zero_le _
  | x :: r, h => by
    show max x.toD.depth (PyData.depthAll (r.map Wd.toD)) ≤ n
    rw [Wd.toD_dep]
    have := h x List.mem_cons_self
    have := dep_wds r fun y hy => h y (List.mem_cons_of_mem _ hy)
    omega
theorem ne_wds {a b : List Wd} (ha : ∀ x ∈ a, x.All Sg) (hb : ∀ x ∈ b, x.All Sg) (hd : ∀ x ∈ a, x.dep ≤ 149) : neD (.tuple (a.map Wd.toD)) (.tuple (b.map Wd.toD)) = .ok (.bool (!decide (a = b))) := by
  unfold neD eqOk
  have la : (PyData.tuple (a.map Wd.toD)).canLay0 = true := lay_wds a ha
  have lb : (PyData.tuple (b.map Wd.toD)).canLay0 = true := lay_wds b hb
  have d : (PyData.tuple (a.map Wd.toD)).depth ≤ lim := by
    show PyData.depthAll (a.map Wd.toD) + 1 ≤ 150
    have := dep_wds a hd
    omega
  rw [la, lb, decide_eq_true d]
  show Res.ok (PyData.bool (!PyData.eqvAll (a.map Wd.toD) (b.map Wd.toD))) = _
  rw [eqv_wds]
theorem ixLast (l : List D) (d : D) : ixD (l ++ [d]) (-1) = .ok d := by
  unfold ixD atI ixN
  rw [if_neg (by decide), if_pos (by rw [List.length_append, List.length_singleton]; omega)]
  have e : (-1 + ((l ++ [d]).length : Int)).toNat = l.length := by rw [List.length_append, List.length_singleton]; omega
  show (match (l ++ [d])[(-1 + ((l ++ [d]).length : Int)).toNat]? with | some d => Res.ok d | none => .stuck) = _
  rw [e, List.getElem?_append_right (Nat.le_refl _), Nat.sub_self]
  rfl
end MW

set_option maxRecDepth 100000
/-! Part 4c: several steps at once. -/
namespace MW
open PySem PySem.Spec PyProof.Rows L2
open Res
def undr (b : Bool) (S : List Pl) : List Pl := (S.filter fun p => p.head? == some b).map List.tail
def onc (ms : List Mk) : Wd → List Pl → Option Wd
  | .lf s, _ => some (.lf s)
  | .ap f a, S => match onc ms f (undr true S), onc ms a (undr false S) with
    | some f', some a' => if [] ∈ S then (can ms (.ap f' a')).map fun m => m.deed.act (Wd.ap f' a').args else some (.ap f' a')
    | _, _ => none
theorem onc_ap {ms : List Mk} {f a f' a' : Wd} {S : List Pl} (h1 : onc ms f (undr true S) = some f') (h2 : onc ms a (undr false S) = some a') : onc ms (.ap f a) S = if [] ∈ S then (can ms (.ap f' a')).map fun m => m.deed.act (Wd.ap f' a').args else some (.ap f' a') := by
  show (match onc ms f (undr true S), onc ms a (undr false S) with | some f', some a' => _ | _, _ => _) = _
  rw [h1, h2]
theorem onc_inv {ms : List Mk} {f a w' : Wd} {S : List Pl} (h : onc ms (.ap f a) S = some w') : ∃ f' a', onc ms f (undr true S) = some f' ∧ onc ms a (undr false S) = some a' ∧ (([] ∈ S ∧ ∃ m, can ms (.ap f' a') = some m ∧ w' = m.deed.act (Wd.ap f' a').args) ∨ ([] ∉ S ∧ w' = .ap f' a')) := by
  unfold onc at h
  cases h1 : onc ms f (undr true S) with
  | none => rw [h1] at h; cases h
  | some f' =>
    cases h2 : onc ms a (undr false S) with
    | none => rw [h1, h2] at h; cases h
    | some a' =>
      rw [h1, h2] at h
      dsimp only at h
      refine ⟨f', a', rfl, rfl, ?_⟩
      by_cases e : [] ∈ S
      · rw [if_pos e] at h
        cases q : can ms (.ap f' a') with
        | none => rw [q] at h; cases h
        | some m => rw [q] at h; cases h; exact .inl ⟨e, m, rfl, rfl⟩
      · rw [if_neg e] at h
        cases h
        exact .inr ⟨e, rfl⟩
theorem act_ok {P : Str → Prop} {ms : List Mk} (hm : ∀ m ∈ ms, MkOk m) {w : Wd} {m : Mk} (hw : w.All P) (h : can ms w = some m) : (m.deed.act w.args).All P ∧ (m.deed.act w.args).dep ≤ w.dep + 2 := by
  have e : stp ms w [] = some (m.deed.act w.args) := by rw [stp_nil, h]; rfl
  exact ⟨stp_all hm hw e, stp_dep hm e⟩
theorem onc_all {P : Str → Prop} {ms : List Mk} (hm : ∀ m ∈ ms, MkOk m) : ∀ {w : Wd} {S : List Pl} {w' : Wd}, w.All P → onc ms w S = some w' → w'.All P
  | .lf s, S, w', h, e => by cases e; exact h
  | .ap f a, S, w', h, e => by
    obtain ⟨f', a', h1, h2, h3⟩ := onc_inv e
    have i1 := onc_all hm h.1 h1
    have i2 := onc_all hm h.2 h2
    rcases h3 with ⟨_, m, q, rfl⟩ | ⟨_, rfl⟩
    · exact (act_ok (P := P) (w := .ap f' a') hm ⟨i1, i2⟩ q).1
    · exact ⟨i1, i2⟩
theorem onc_dep {ms : List Mk} (hm : ∀ m ∈ ms, MkOk m) : ∀ {w : Wd} {S : List Pl} {w' : Wd}, onc ms w S = some w' → w'.dep ≤ 3 * w.dep
  | .lf s, S, w', e => by cases e; exact Nat.zero_le _
  | .ap f a, S, w', e => by
    obtain ⟨f', a', h1, h2, h3⟩ := onc_inv e
    have i1 := onc_dep hm h1
    have i2 := onc_dep hm h2
    show w'.dep ≤ 3 * (max f.dep a.dep + 1)
    rcases h3 with ⟨_, m, q, rfl⟩ | ⟨_, rfl⟩
    · have e : stp ms (.ap f' a') [] = some (m.deed.act (Wd.ap f' a').args) := by rw [stp_nil, q]; rfl
      have z : (m.deed.act (Wd.ap f' a').args).dep ≤ max f'.dep a'.dep + 1 + 2 := stp_dep hm e
      omega
    · show max f'.dep a'.dep + 1 ≤ _
      omega
theorem undr_nil (b : Bool) : undr b [] = [] := rfl
theorem onc_nil (ms : List Mk) : ∀ w : Wd, onc ms w [] = some w
  | .lf s => rfl
  | .ap f a => by
    rw [onc_ap (f' := f) (a' := a) (by rw [undr_nil]; exact onc_nil ms f) (by rw [undr_nil]; exact onc_nil ms a), if_neg (by simp)]
theorem undr_one (b c : Bool) (p : Pl) : undr b [c :: p] = if b = c then [p] else [] := by
  cases b <;> cases c <;> rfl
theorem onc_one (ms : List Mk) (hm : MsOk ms) : ∀ (w : Wd) (p : Pl), p ∈ plcs ms w → onc ms w [p] = stp ms w p
  | .lf s, p, h => by
    unfold plcs own at h
    rw [can_lf hm] at h
    cases h
  | .ap f a, [], h => by
    rw [onc_ap (f' := f) (a' := a) (onc_nil ms f) (onc_nil ms a), if_pos (by simp), stp_nil]
  | .ap f a, true :: p, h => by
    have z := (mem_plcs ms _ _).mp h
    have e : stp ms (.ap f a) (true :: p) = (stp ms f p).map fun f' => .ap f' a := rfl
    rw [e] at z ⊢
    cases q : stp ms f p with
    | none => rw [q] at z; cases z
    | some f' =>
      have i := onc_one ms hm f p ((mem_plcs ms f p).mpr (by rw [q]; rfl))
      rw [onc_ap (f' := f') (a' := a) (by rw [← q]; exact i) (onc_nil ms a), if_neg (by simp)]
      rfl
  | .ap f a, false :: p, h => by
    have z := (mem_plcs ms _ _).mp h
    have e : stp ms (.ap f a) (false :: p) = (stp ms a p).map fun f' => .ap f f' := rfl
    rw [e] at z ⊢
    cases q : stp ms a p with
    | none => rw [q] at z; cases z
    | some f' =>
      have i := onc_one ms hm a p ((mem_plcs ms a p).mpr (by rw [q]; rfl))
      rw [onc_ap (f' := f) (a' := f') (onc_nil ms f) (by rw [← q]; exact i), if_neg (by simp)]
      rfl
/-- none leads into the other -/
def apart : Pl → Pl → Bool
  | b :: p, c :: q => b != c || apart p q
  | _, _ => false
theorem apart_comm : ∀ p q : Pl, apart p q = apart q p
  | [], [] => rfl
  | [], _ :: _ => rfl
  | _ :: _, [] => rfl
  | b :: p, c :: q => by
    show (b != c || apart p q) = (c != b || apart q p)
    rw [apart_comm p q]
    cases b <;> cases c <;> rfl
theorem apart_two (ms : List Mk) (hm : MsOk ms) : ∀ (w : Wd) (p q : Pl), p ∈ plcs ms w → q ∈ plcs ms w → apart p q = true → ∃ w1 w2 w', stp ms w p = some w1 ∧ stp ms w1 q = some w' ∧ stp ms w q = some w2 ∧ stp ms w2 p = some w' ∧ onc ms w [p, q] = some w'
  | .lf s, p, q, h, _, _ => by
    unfold plcs own at h
    rw [can_lf hm] at h
    cases h
  | .ap f a, [], q, _, _, z => by cases z
  | .ap f a, b :: p, [], _, _, z => by cases z
  | .ap f a, b :: p, c :: q, hp, hq, z => by
    have zp := (mem_plcs ms _ _).mp hp
    have zq := (mem_plcs ms _ _).mp hq
    cases b with
    | true =>
      have ep : stp ms (.ap f a) (true :: p) = (stp ms f p).map fun f' => .ap f' a := rfl
      rw [ep, Option.isSome_map] at zp
      have mp := (mem_plcs ms f p).mpr zp
      cases c with
      | true =>
        have eq : stp ms (.ap f a) (true :: q) = (stp ms f q).map fun f' => .ap f' a := rfl
        rw [eq, Option.isSome_map] at zq
        have mq := (mem_plcs ms f q).mpr zq
        obtain ⟨w1, w2, w', a1, a2, a3, a4, a5⟩ := apart_two ms hm f p q mp mq (by simpa [apart] using z)
        refine ⟨.ap w1 a, .ap w2 a, .ap w' a, by rw [ep, a1]; rfl, ?_, by rw [eq, a3]; rfl, ?_, ?_⟩
        · show (stp ms w1 q).map _ = _
          rw [a2]; rfl
        · show (stp ms w2 p).map _ = _
          rw [a4]; rfl
        · rw [onc_ap (f' := w') (a' := a) a5 (onc_nil ms a), if_neg (by simp)]
      | false =>
        have eq : stp ms (.ap f a) (false :: q) = (stp ms a q).map fun f' => .ap f f' := rfl
        rw [eq, Option.isSome_map] at zq
        have mq := (mem_plcs ms a q).mpr zq
        cases s1 : stp ms f p with
        | none => rw [s1] at zp; cases zp
        | some f' =>
          cases s2 : stp ms a q with
          | none => rw [s2] at zq; cases zq
          | some a' =>
            refine ⟨.ap f' a, .ap f a', .ap f' a', by rw [ep, s1]; rfl, ?_, by rw [eq, s2]; rfl, ?_, ?_⟩
            · show (stp ms a q).map _ = _
              rw [s2]; rfl
            · show (stp ms f p).map _ = _
              rw [s1]; rfl
            · rw [onc_ap (f' := f') (a' := a') ((onc_one ms hm f p mp).trans s1) ((onc_one ms hm a q mq).trans s2), if_neg (by simp)]
    | false =>
      have ep : stp ms (.ap f a) (false :: p) = (stp ms a p).map fun f' => .ap f f' := rfl
      rw [ep, Option.isSome_map] at zp
      have mp := (mem_plcs ms a p).mpr zp
      cases c with
      | false =>
        have eq : stp ms (.ap f a) (false :: q) = (stp ms a q).map fun f' => .ap f f' := rfl
        rw [eq, Option.isSome_map] at zq
        have mq := (mem_plcs ms a q).mpr zq
        obtain ⟨w1, w2, w', a1, a2, a3, a4, a5⟩ := apart_two ms hm a p q mp mq (by simpa [apart] using z)
        refine ⟨.ap f w1, .ap f w2, .ap f w', by rw [ep, a1]; rfl, ?_, by rw [eq, a3]; rfl, ?_, ?_⟩
        · show (stp ms w1 q).map _ = _
          rw [a2]; rfl
        · show (stp ms w2 p).map _ = _
          rw [a4]; rfl
        · rw [onc_ap (f' := f) (a' := w') (onc_nil ms f) a5, if_neg (by simp)]
      | true =>
        have eq : stp ms (.ap f a) (true :: q) = (stp ms f q).map fun f' => .ap f' a := rfl
        rw [eq, Option.isSome_map] at zq
        have mq := (mem_plcs ms f q).mpr zq
        cases s1 : stp ms a p with
        | none => rw [s1] at zp; cases zp
        | some a' =>
          cases s2 : stp ms f q with
          | none => rw [s2] at zq; cases zq
          | some f' =>
            refine ⟨.ap f a', .ap f' a, .ap f' a', by rw [ep, s1]; rfl, ?_, by rw [eq, s2]; rfl, ?_, ?_⟩
            · show (stp ms f q).map _ = _
              rw [s2]; rfl
            · show (stp ms a p).map _ = _
              rw [s1]; rfl
            · rw [onc_ap (f' := f') (a' := a') ((onc_one ms hm f q mq).trans s2) ((onc_one ms hm a p mp).trans s1), if_neg (by simp)]
/-- as the law asks it -/
theorem apart_take : ∀ p q : Pl, apart p q = !decide (p.take (min p.length q.length) = q.take (min p.length q.length))
  | [], q => by simp [apart]
  | b :: p, [] => by simp [apart]
  | b :: p, c :: q => by
    have ih := apart_take p q
    show (b != c || apart p q) = _
    rw [ih, List.length_cons, List.length_cons, Nat.succ_min_succ, List.take_succ_cons, List.take_succ_cons]
    cases b <;> cases c <;> simp
end MW

set_option maxRecDepth 100000
/-! Part 4d: steps side by side; one end. -/
namespace MW
open PySem PySem.Spec PyProof.Rows L2
open Res
inductive Par (ms : List Mk) : Wd → Wd → Prop
  | lf (s : Str) : Par ms (.lf s) (.lf s)
  | ap {f f' a a' : Wd} : Par ms f f' → Par ms a a' → Par ms (.ap f a) (.ap f' a')
  | act {f f' a a' : Wd} {m : Mk} : Par ms f f' → Par ms a a' → can ms (.ap f a) = some m → Par ms (.ap f a) (m.deed.act (f'.args ++ [a']))
theorem Par.refl (ms : List Mk) : ∀ w : Wd, Par ms w w
  | .lf s => .lf s
  | .ap f a => .ap (Par.refl ms f) (Par.refl ms a)
/-- two rows, word by word -/
inductive Par2 (ms : List Mk) : List Wd → List Wd → Prop
  | nil : Par2 ms [] []
  | cons {a b : Wd} {as bs : List Wd} : Par ms a b → Par2 ms as bs → Par2 ms (a :: as) (b :: bs)
theorem Par2.length {ms : List Mk} {as bs : List Wd} (h : Par2 ms as bs) : as.length = bs.length := by
  induction h with
  | nil => rfl
  | cons _ _ ih => rw [List.length_cons, List.length_cons, ih]
theorem Par2.append {ms : List Mk} {as bs cs ds : List Wd} (h : Par2 ms as bs) (q : Par2 ms cs ds) : Par2 ms (as ++ cs) (bs ++ ds) := by
  induction h with
  | nil => exact q
  | cons x _ ih => exact .cons x ih
theorem Par2.get {ms : List Mk} {as bs : List Wd} (h : Par2 ms as bs) (d : Wd) : ∀ i, i < as.length → Par ms (as.getD i d) (bs.getD i d) := by
  induction h with
  | nil => intro i hi; cases hi
  | cons x _ ih =>
    intro i hi
    cases i with
    | zero => exact x
    | succ i => exact ih i (by rw [List.length_cons] at hi; omega)
theorem act_par {ms : List Mk} {as bs : List Wd} (h : Par2 ms as bs) : ∀ {d : Dd}, d.bd as.length → Par ms (d.act as) (d.act bs)
  | .v i, hb => h.get _ i hb
  | .p a b, hb => .ap (act_par h hb.1) (act_par h hb.2)
/-- too few things behind a maker: it stays -/
def Few (ms : List Mk) (f : Wd) : Prop := ∀ m, fnd ms f.hd = some m → f.args.length < m.many
theorem can_fnd {ms : List Mk} {w : Wd} {m : Mk} (h : can ms w = some m) : fnd ms w.hd = some m ∧ m.many = w.args.length := by
  unfold can at h
  cases q : fnd ms w.hd with
  | none => rw [q] at h; cases h
  | some m' =>
    rw [q] at h
    dsimp only at h
    by_cases e : m'.many = w.args.length
    · rw [if_pos e] at h; cases h; exact ⟨rfl, e⟩
    · rw [if_neg e] at h; cases h
theorem can_of {ms : List Mk} {w : Wd} {m : Mk} (h : fnd ms w.hd = some m) (e : m.many = w.args.length) : can ms w = some m := by
  unfold can
  rw [h]
  dsimp only
  rw [if_pos e]
theorem can_few {ms : List Mk} {f a : Wd} {m : Mk} (h : can ms (.ap f a) = some m) : Few ms f := by
  have ⟨h1, h2⟩ := can_fnd h
  intro m' q
  have h1' : fnd ms f.hd = some m := h1
  have e : m' = m := Option.some.inj (q.symm.trans h1')
  rw [e]
  have : m.many = (f.args ++ [a]).length := h2
  rw [List.length_append, List.length_singleton] at this
  omega
theorem par_few {ms : List Mk} {f f' : Wd} (h : Par ms f f') : Few ms f → f'.hd = f.hd ∧ Par2 ms f.args f'.args := by
  induction h with
  | lf s => exact fun _ => ⟨rfl, .nil⟩
  | @ap g g' b b' h1 h2 i1 _ =>
    intro fw
    have fg : Few ms g := fun m q => by
      have : (g.args ++ [b]).length < m.many := fw m q
      rw [List.length_append, List.length_singleton] at this
      omega
    have ⟨e, r⟩ := i1 fg
    exact ⟨e, r.append (.cons h2 .nil)⟩
  | @act g g' b b' m h1 h2 hc _ _ =>
    intro fw
    have ⟨q1, q2⟩ := can_fnd hc
    have := fw m q1
    omega
theorem par_can {ms : List Mk} {f f' a a' : Wd} {m : Mk} (h : can ms (.ap f a) = some m) (hf : Par ms f f') (ha : Par ms a a') : can ms (.ap f' a') = some m ∧ Par2 ms (f.args ++ [a]) (f'.args ++ [a']) := by
  have ⟨e, r⟩ := par_few hf (can_few h)
  have ⟨q1, q2⟩ := can_fnd h
  refine ⟨can_of (show fnd ms f'.hd = some m by rw [e]; exact q1) ?_, r.append (.cons ha .nil)⟩
  have z : m.many = (f.args ++ [a]).length := q2
  show m.many = (f'.args ++ [a']).length
  rw [List.length_append, List.length_singleton] at z ⊢
  rw [z, r.length]
def dev (ms : List Mk) : Wd → Wd
  | .lf s => .lf s
  | .ap f a => match can ms (.ap f a) with
    | some m => m.deed.act ((dev ms f).args ++ [dev ms a])
    | none => .ap (dev ms f) (dev ms a)
theorem tri {ms : List Mk} (hm : ∀ m ∈ ms, MkOk m) {w v : Wd} (h : Par ms w v) : Par ms v (dev ms w) := by
  induction h with
  | lf s => exact .lf s
  | @ap f f' a a' h1 h2 i1 i2 =>
    unfold dev
    cases q : can ms (.ap f a) with
    | none => exact .ap i1 i2
    | some m =>
      have ⟨q', _⟩ := par_can q h1 h2
      exact .act i1 i2 q'
  | @act f f' a a' m h1 h2 hc i1 i2 =>
    unfold dev
    rw [hc]
    have ⟨q', _⟩ := par_can hc h1 h2
    have ⟨_, r⟩ := par_can q' i1 i2
    have ⟨ha, _, hl⟩ := can_spec q'
    exact act_par r (by
      have hl' : m.many = (f'.args ++ [a']).length := hl
      rw [← hl']
      exact (hm m ha).bd)
inductive Pars (ms : List Mk) : Wd → Wd → Prop
  | refl (w : Wd) : Pars ms w w
  | step {a b c : Wd} : Par ms a b → Pars ms b c → Pars ms a c
theorem Pars.trans {ms : List Mk} {a b c : Wd} (h : Pars ms a b) (q : Pars ms b c) : Pars ms a c := by
  induction h with
  | refl => exact q
  | step x _ ih => exact .step x (ih q)
theorem Pars.one {ms : List Mk} {a b : Wd} (h : Par ms a b) : Pars ms a b := .step h (.refl b)
theorem strip {ms : List Mk} (hm : ∀ m ∈ ms, MkOk m) {w b : Wd} (h : Pars ms w b) : ∀ {a : Wd}, Par ms w a → ∃ c, Pars ms a c ∧ Par ms b c := by
  induction h with
  | refl w => exact fun {a} q => ⟨a, .refl a, q⟩
  | @step w b1 b x _ ih =>
    intro a q
    obtain ⟨c, h1, h2⟩ := ih (tri hm x)
    exact ⟨c, .step (tri hm q) h1, h2⟩
theorem conf {ms : List Mk} (hm : ∀ m ∈ ms, MkOk m) {w a : Wd} (h : Pars ms w a) : ∀ {b : Wd}, Pars ms w b → ∃ c, Pars ms a c ∧ Pars ms b c := by
  induction h with
  | refl w => exact fun {b} q => ⟨b, q, .refl b⟩
  | @step w a1 a x _ ih =>
    intro b q
    obtain ⟨c, h1, h2⟩ := strip hm q x
    obtain ⟨d, h3, h4⟩ := ih h1
    exact ⟨d, h3, .step h2 h4⟩
theorem par_end {ms : List Mk} {w v : Wd} (h : Par ms w v) : plcs ms w = [] → v = w := by
  induction h with
  | lf s => exact fun _ => rfl
  | @ap f f' a a' _ _ i1 i2 =>
    intro e
    unfold plcs at e
    rw [List.append_eq_nil_iff, List.append_eq_nil_iff, List.map_eq_nil_iff, List.map_eq_nil_iff] at e
    rw [i1 e.1.2, i2 e.2]
  | @act f f' a a' m _ _ hc _ _ =>
    intro e
    unfold plcs own at e
    rw [hc] at e
    simp at e
theorem pars_end {ms : List Mk} {w v : Wd} (h : Pars ms w v) (e : plcs ms w = []) : v = w := by
  induction h with
  | refl => rfl
  | step x _ ih =>
    have q := par_end x e
    subst q
    exact ih e
theorem one_end {ms : List Mk} (hm : ∀ m ∈ ms, MkOk m) {w a b : Wd} (h1 : Pars ms w a) (h2 : Pars ms w b) (ha : plcs ms a = []) (hb : plcs ms b = []) : a = b := by
  obtain ⟨c, q1, q2⟩ := conf hm h1 h2
  rw [← pars_end q1 ha, ← pars_end q2 hb]
theorem stp_par {ms : List Mk} (hm : MsOk ms) : ∀ {w : Wd} {p : Pl} {w' : Wd}, stp ms w p = some w' → Par ms w w'
  | w, [], w', e => by
    rw [stp_nil] at e
    cases q : can ms w with
    | none => rw [q] at e; cases e
    | some m =>
      rw [q] at e
      cases w with
      | lf s => rw [can_lf hm] at q; cases q
      | ap f a =>
        have e' : m.deed.act (f.args ++ [a]) = w' := Option.some.inj e
        rw [← e']
        exact .act (.refl ms f) (.refl ms a) q
  | .lf s, _ :: _, _, e => by simp [stp] at e
  | .ap f a, true :: p, w', e => by
    have e' : (stp ms f p).map (fun f' => Wd.ap f' a) = some w' := e
    cases q : stp ms f p with
    | none => rw [q] at e'; cases e'
    | some f' => rw [q] at e'; cases e'; exact .ap (stp_par hm q) (.refl ms a)
  | .ap f a, false :: p, w', e => by
    have e' : (stp ms a p).map (fun f' => Wd.ap f f') = some w' := e
    cases q : stp ms a p with
    | none => rw [q] at e'; cases e'
    | some f' => rw [q] at e'; cases e'; exact .ap (.refl ms f) (stp_par hm q)
theorem onc_par {ms : List Mk} : ∀ {w : Wd} {S : List Pl} {w' : Wd}, (∀ p ∈ S, p ∈ plcs ms w) → onc ms w S = some w' → Par ms w w'
  | .lf s, S, w', _, e => by cases e; exact .lf s
  | .ap f a, S, w', hS, e => by
    obtain ⟨f', a', h1, h2, h3⟩ := onc_inv e
    have sub : ∀ (b : Bool) (p : Pl), p ∈ undr b S → (b :: p) ∈ S := fun b p h => by
      unfold undr at h
      obtain ⟨q, z1, rfl⟩ := List.mem_map.mp h
      obtain ⟨z2, z3⟩ := List.mem_filter.mp z1
      cases q with
      | nil => simp at z3
      | cons c r =>
        have : c = b := by simpa using z3
        rw [← this]
        exact z2
    have i1 := onc_par (ms := ms) (w := f) (S := undr true S) (fun p hp => by
      have := (mem_plcs ms _ _).mp (hS _ (sub true p hp))
      have e : stp ms (.ap f a) (true :: p) = (stp ms f p).map fun f' => .ap f' a := rfl
      rw [e, Option.isSome_map] at this
      exact (mem_plcs ms f p).mpr this) h1
    have i2 := onc_par (ms := ms) (w := a) (S := undr false S) (fun p hp => by
      have := (mem_plcs ms _ _).mp (hS _ (sub false p hp))
      have e : stp ms (.ap f a) (false :: p) = (stp ms a p).map fun f' => .ap f f' := rfl
      rw [e, Option.isSome_map] at this
      exact (mem_plcs ms a p).mpr this) h2
    rcases h3 with ⟨z, m, q, rfl⟩ | ⟨_, rfl⟩
    · have c0 := (mem_plcs ms _ _).mp (hS _ z)
      rw [stp_nil, Option.isSome_map] at c0
      obtain ⟨m0, hm0⟩ := Option.isSome_iff_exists.mp c0
      have ⟨q', _⟩ := par_can hm0 i1 i2
      rw [q'] at q
      cases q
      exact .act i1 i2 hm0
    · exact .ap i1 i2
theorem runL_par {ms : List Mk} (hm : MsOk ms) : ∀ (n : Nat) (w : Wd), ∀ x ∈ runL ms n w, Pars ms w x
  | 0, w, x, hx => by rw [List.mem_singleton.mp hx]; exact .refl w
  | n + 1, w, x, hx => by
    cases q : nx ms w with
    | none => rw [runL_none q, List.mem_singleton] at hx; rw [hx]; exact .refl w
    | some w' =>
      rw [runL_some q] at hx
      rcases List.mem_cons.mp hx with rfl | hx
      · exact .refl _
      · unfold nx at q
        cases z : fst ms w with
        | none => rw [z] at q; cases q
        | some p =>
          rw [z] at q
          exact .step (stp_par hm q) (runL_par hm n w' x hx)
end MW

set_option maxRecDepth 100000
/-! Part 4e: head steps. -/
namespace MW
open PySem PySem.Spec PyProof.Rows L2
open Res
def hpl (ms : List Mk) (w : Wd) : Option Pl := match fnd ms w.hd with
  | some m => if m.many ≤ w.args.length then some (List.replicate (w.args.length - m.many) true) else none
  | none => none
theorem hpl_lf {ms : List Mk} (hm : MsOk ms) (s : Str) : hpl ms (.lf s) = none := by
  unfold hpl
  cases q : fnd ms (Wd.lf s).hd with
  | none => rfl
  | some m =>
    have o := (hm.ok m (fnd_mem q).1).lo
    dsimp only
    rw [if_neg]
    show ¬ m.many ≤ 0
    omega
theorem hpl_can {ms : List Mk} {f a : Wd} {m : Mk} (h : can ms (.ap f a) = some m) : hpl ms (.ap f a) = some [] ∧ hpl ms f = none := by
  have ⟨h1, h2⟩ := can_fnd h
  constructor
  · unfold hpl
    rw [h1]
    dsimp only
    rw [if_pos (by omega), h2, Nat.sub_self]
    rfl
  · have fw := can_few h m h1
    unfold hpl
    rw [show fnd ms f.hd = some m from h1]
    dsimp only
    rw [if_neg (by omega)]
theorem hpl_ap {ms : List Mk} {f a : Wd} (h : can ms (.ap f a) = none) : hpl ms (.ap f a) = (hpl ms f).map (true :: ·) := by
  unfold can at h
  unfold hpl
  have e : (Wd.ap f a).hd = f.hd := rfl
  have l : (Wd.ap f a).args.length = f.args.length + 1 := by
    show (f.args ++ [a]).length = _
    rw [List.length_append, List.length_singleton]
  rw [e] at h ⊢
  rw [l] at h ⊢
  cases q : fnd ms f.hd with
  | none => rfl
  | some m =>
    rw [q] at h
    dsimp only at h ⊢
    by_cases z : m.many = f.args.length + 1
    · rw [if_pos z] at h; cases h
    · by_cases y : m.many ≤ f.args.length
      · rw [if_pos (by omega), if_pos y, show f.args.length + 1 - m.many = (f.args.length - m.many) + 1 by omega, List.replicate_succ]
        rfl
      · rw [if_neg (by omega), if_neg y]; rfl
theorem hpl_mem {ms : List Mk} (hm : MsOk ms) : ∀ {w : Wd} {p : Pl}, hpl ms w = some p → ∃ w', stp ms w p = some w'
  | .lf s, p, h => by rw [hpl_lf hm] at h; cases h
  | .ap f a, p, h => by
    cases q : can ms (.ap f a) with
    | some m =>
      rw [(hpl_can q).1] at h
      cases h
      exact ⟨_, by rw [stp_nil, q]; rfl⟩
    | none =>
      rw [hpl_ap q] at h
      cases z : hpl ms f with
      | none => rw [z] at h; cases h
      | some r =>
        rw [z] at h
        cases h
        obtain ⟨f', e⟩ := hpl_mem hm z
        exact ⟨.ap f' a, by show (stp ms f r).map _ = _; rw [e]; rfl⟩
/-- the only place that leads into first parts alone -/
theorem hpl_only {ms : List Mk} (hm : MsOk ms) : ∀ w : Wd, (plcs ms w).filter (fun p => p.all id) = (hpl ms w).toList
  | .lf s => by
    rw [hpl_lf hm]
    unfold plcs own
    rw [can_lf hm]; rfl
  | .ap f a => by
    have i := hpl_only hm f
    unfold plcs own
    have e2 : ((plcs ms a).map (false :: ·)).filter (fun p => p.all id) = [] := by
      rw [List.filter_eq_nil_iff]
      intro p hp
      obtain ⟨r, _, rfl⟩ := List.mem_map.mp hp
      simp
    have e1 : ((plcs ms f).map (true :: ·)).filter (fun p => p.all id) = (hpl ms f).toList.map (true :: ·) := by
      rw [← i, List.filter_map]
      congr 1
    cases q : can ms (.ap f a) with
    | some m =>
      have ⟨h1, h2⟩ := hpl_can q
      rw [h1]
      rw [h2] at e1
      dsimp only
      rw [List.filter_append, List.filter_append, e1, e2]
      rfl
    | none =>
      rw [hpl_ap q]
      dsimp only
      rw [List.nil_append, List.filter_append, e1, e2]
      cases hpl ms f <;> rfl
def hnx (ms : List Mk) (w : Wd) : Option Wd := (hpl ms w).bind (stp ms w)
theorem hnx_none {ms : List Mk} (hm : MsOk ms) {w : Wd} : hnx ms w = none ↔ hpl ms w = none := by
  unfold hnx
  cases q : hpl ms w with
  | none => simp
  | some p =>
    obtain ⟨w', h⟩ := hpl_mem hm q
    show stp ms w p = none ↔ _
    rw [h]; simp
theorem hnx_some {ms : List Mk} (hm : MsOk ms) {w : Wd} {p : Pl} (h : hpl ms w = some p) : ∃ w', stp ms w p = some w' ∧ hnx ms w = some w' := by
  obtain ⟨w', q⟩ := hpl_mem hm h
  exact ⟨w', q, by unfold hnx; rw [h]; exact q⟩
def hdL (ms : List Mk) : Nat → Wd → List Wd
  | 0, w => [w]
  | n + 1, w => match hnx ms w with
    | none => [w]
    | some w' => w :: hdL ms n w'
theorem hdL_none {ms : List Mk} {w : Wd} (h : hnx ms w = none) (n : Nat) : hdL ms n w = [w] := by
  cases n with
  | zero => rfl
  | succ n => unfold hdL; rw [h]
theorem hdL_some {ms : List Mk} {w w' : Wd} (h : hnx ms w = some w') (n : Nat) : hdL ms (n + 1) w = w :: hdL ms n w' := by
  show (match hnx ms w with | none => [w] | some w' => w :: hdL ms n w') = _
  rw [h]
theorem hdL_ne (ms : List Mk) (n : Nat) (w : Wd) : ∃ r, hdL ms n w = w :: r := by
  cases n with
  | zero => exact ⟨[], rfl⟩
  | succ n =>
    cases h : hnx ms w with
    | none => exact ⟨[], hdL_none h _⟩
    | some w' => exact ⟨_, hdL_some h n⟩
theorem hdL_len (ms : List Mk) : ∀ (n : Nat) (w : Wd), (hdL ms n w).length ≤ n + 1
  | 0, w => Nat.le_refl _
  | n + 1, w => by
    cases h : hnx ms w with
    | none => rw [hdL_none h]; simp
    | some w' => rw [hdL_some h]; have := hdL_len ms n w'; rw [List.length_cons]; omega
theorem hdL_ok {P : Str → Prop} {ms : List Mk} (hm : ∀ m ∈ ms, MkOk m) : ∀ (n : Nat) (w : Wd), w.All P → ∀ x ∈ hdL ms n w, x.All P ∧ x.dep ≤ w.dep + 2 * n ∧ x.size ≤ w.size * 4 ^ n
  | 0, w, h, x, hx => by
    rw [List.mem_singleton.mp hx]
    exact ⟨h, by omega, by omega⟩
  | n + 1, w, h, x, hx => by
    cases q : hnx ms w with
    | none =>
      rw [hdL_none q, List.mem_singleton] at hx
      rw [hx]
      refine ⟨h, by omega, ?_⟩
      exact Nat.le_mul_of_pos_right _ (Nat.pow_pos (by decide))
    | some w' =>
      rw [hdL_some q] at hx
      obtain ⟨p, _, s⟩ : ∃ p, hpl ms w = some p ∧ stp ms w p = some w' := by
        unfold hnx at q
        cases z : hpl ms w with
        | none => rw [z] at q; cases q
        | some p => rw [z] at q; exact ⟨p, rfl, q⟩
      rcases List.mem_cons.mp hx with rfl | hx
      · refine ⟨h, by omega, ?_⟩
        exact Nat.le_mul_of_pos_right _ (Nat.pow_pos (by decide))
      · have ⟨a, b, c⟩ := hdL_ok hm n w' (stp_all hm h s) x hx
        have d := stp_dep hm s
        have e := stp_size hm s
        refine ⟨a, by omega, Nat.le_trans c ?_⟩
        rw [Nat.pow_succ, Nat.mul_comm (4 ^ n) 4, ← Nat.mul_assoc]
        exact Nat.mul_le_mul_right _ e
theorem hdL_take (ms : List Mk) : ∀ (n m : Nat) (w : Wd), n ≤ m → hdL ms n w = (hdL ms m w).take (n + 1)
  | 0, m, w, _ => by
    obtain ⟨r, e⟩ := hdL_ne ms m w
    rw [e]; rfl
  | n + 1, m, w, h => by
    obtain ⟨m, rfl⟩ : ∃ i, m = i + 1 := ⟨m - 1, by omega⟩
    cases q : hnx ms w with
    | none => rw [hdL_none q, hdL_none q]; rfl
    | some w' => rw [hdL_some q, hdL_some q, List.take_succ_cons, hdL_take ms n m w' (by omega)]
theorem hdL_drop (ms : List Mk) : ∀ (m n : Nat) (w x : Wd), (hdL ms m w)[n]? = some x → (hdL ms m w).drop n = hdL ms (m - n) x
  | m, 0, w, x, h => by
    obtain ⟨r, e⟩ := hdL_ne ms m w
    rw [e] at h
    cases h
    rfl
  | 0, n + 1, w, x, h => by cases h
  | m + 1, n + 1, w, x, h => by
    cases q : hnx ms w with
    | none => rw [hdL_none q] at h; cases h
    | some w' =>
      rw [hdL_some q] at h ⊢
      rw [List.drop_succ_cons, show m + 1 - (n + 1) = m - n by omega]
      exact hdL_drop ms m n w' x h
/-- the word behind -/
theorem hdL_next (ms : List Mk) : ∀ (m n : Nat) (w x : Wd), (hdL ms m w)[n]? = some x → (hnx ms x = none ∧ n + 1 = (hdL ms m w).length) ∨ (n = m ∧ n + 1 = (hdL ms m w).length) ∨ ∃ y, hnx ms x = some y ∧ (hdL ms m w)[n + 1]? = some y := by
  intro m n w x h
  have d := hdL_drop ms m n w x h
  have hn : n < (hdL ms m w).length := (List.getElem?_eq_some_iff.mp h).1
  have hl := hdL_len ms m w
  have dl : (hdL ms m w).length - n = (hdL ms (m - n) x).length := by rw [← d, List.length_drop]
  by_cases e : m - n = 0
  · rw [e] at dl
    have : (hdL ms 0 x).length = 1 := rfl
    exact .inr (.inl ⟨by omega, by omega⟩)
  · obtain ⟨k, hk⟩ : ∃ i, m - n = i + 1 := ⟨m - n - 1, by omega⟩
    rw [hk] at d dl
    cases q : hnx ms x with
    | none =>
      rw [hdL_none q] at dl
      have : [x].length = 1 := rfl
      exact .inl ⟨rfl, by omega⟩
    | some y =>
      refine .inr (.inr ⟨y, rfl, ?_⟩)
      rw [hdL_some q] at d
      have g : ((hdL ms m w).drop n)[1]? = (hdL ms m w)[n + 1]? := by rw [List.getElem?_drop]
      rw [← g, d]
      obtain ⟨r, e⟩ := hdL_ne ms k y
      rw [e]; rfl

/-- a thing more behind -/
theorem hnx_ap {ms : List Mk} {w w' : Wd} (q : Wd) (h : hnx ms w = some w') : hnx ms (.ap w q) = some (.ap w' q) := by
  unfold hnx at h
  cases z : hpl ms w with
  | none => rw [z] at h; cases h
  | some p =>
    rw [z] at h
    have h' : stp ms w p = some w' := h
    have c : can ms (.ap w q) = none := by
      cases y : can ms (.ap w q) with
      | none => rfl
      | some m => rw [(hpl_can y).2] at z; cases z
    unfold hnx
    rw [hpl_ap c, z]
    show (stp ms w p).map _ = _
    rw [h']; rfl
theorem hdL_ap (ms : List Mk) (q : Wd) : ∀ (n : Nat) (w : Wd), (hdL ms n (.ap w q)).take (hdL ms n w).length = (hdL ms n w).map fun x => .ap x q
  | 0, w => rfl
  | n + 1, w => by
    cases h : hnx ms w with
    | none =>
      rw [hdL_none h]
      obtain ⟨r, e⟩ := hdL_ne ms (n + 1) (.ap w q)
      rw [e]; rfl
    | some w' =>
      rw [hdL_some h, hdL_some (hnx_ap q h), List.length_cons, List.take_succ_cons, hdL_ap ms q n w']
      rfl
end MW

set_option maxRecDepth 100000
/-! Part 4f: a word whose head steps go on for ever never rests. -/
namespace MW
open PySem PySem.Spec PyProof.Rows L2
open Res
def cost (ns : List Nat) : Dd → Nat
  | .v i => ns.getD i 0
  | .p a b => cost ns a + cost ns b
mutual
inductive ParN (ms : List Mk) : Nat → Wd → Wd → Prop
  | lf (s : Str) : ParN ms 0 (.lf s) (.lf s)
  | ap {n k : Nat} {f f' a a' : Wd} : ParN ms n f f' → ParN ms k a a' → ParN ms (n + k) (.ap f a) (.ap f' a')
  | act {f a : Wd} {m : Mk} {ns : List Nat} {xs : List Wd} : can ms (.ap f a) = some m → ParL ms ns (f.args ++ [a]) xs → ParN ms (1 + cost ns m.deed) (.ap f a) (m.deed.act xs)
inductive ParL (ms : List Mk) : List Nat → List Wd → List Wd → Prop
  | nil : ParL ms [] [] []
  | cons {n : Nat} {ns : List Nat} {x y : Wd} {xs ys : List Wd} : ParN ms n x y → ParL ms ns xs ys → ParL ms (n :: ns) (x :: xs) (y :: ys)
end
theorem ParN.refl (ms : List Mk) : ∀ w : Wd, ParN ms 0 w w
  | .lf s => .lf s
  | .ap f a => .ap (n := 0) (k := 0) (ParN.refl ms f) (ParN.refl ms a)
theorem ParL.refl (ms : List Mk) : ∀ xs : List Wd, ∃ ns, ParL ms ns xs xs
  | [] => ⟨[], .nil⟩
  | x :: r => let ⟨ns, h⟩ := ParL.refl ms r; ⟨0 :: ns, .cons (ParN.refl ms x) h⟩
theorem ParL.append {ms : List Mk} : ∀ {ns : List Nat} {xs ys : List Wd} {ks : List Nat} {us vs : List Wd}, ParL ms ns xs ys → ParL ms ks us vs → ParL ms (ns ++ ks) (xs ++ us) (ys ++ vs)
  | _, _, _, _, _, _, .nil, q => q
  | _, _, _, _, _, _, .cons h r, q => .cons h (ParL.append r q)
theorem ParL.len {ms : List Mk} : ∀ {ns : List Nat} {xs ys : List Wd}, ParL ms ns xs ys → xs.length = ys.length
  | _, _, _, .nil => rfl
  | _, _, _, .cons _ r => by rw [List.length_cons, List.length_cons, ParL.len r]
theorem ParL.get {ms : List Mk} (d : Wd) : ∀ {ns : List Nat} {xs ys : List Wd}, ParL ms ns xs ys → ∀ i, i < xs.length → ParN ms (ns.getD i 0) (xs.getD i d) (ys.getD i d)
  | _, _, _, .nil, i, hi => by cases hi
  | _, _, _, .cons h r, 0, _ => h
  | _, _, _, .cons h r, i + 1, hi => ParL.get d r i (by rw [List.length_cons] at hi; omega)
theorem act_parN {ms : List Mk} {ns : List Nat} {xs ys : List Wd} (h : ParL ms ns xs ys) : ∀ {d : Dd}, d.bd xs.length → ParN ms (cost ns d) (d.act xs) (d.act ys)
  | .v i, hb => h.get _ i hb
  | .p a b, hb => .ap (act_parN h hb.1) (act_parN h hb.2)
theorem parN_few {ms : List Mk} : ∀ {f f' : Wd} {n : Nat}, ParN ms n f f' → Few ms f → f'.hd = f.hd ∧ ∃ ns, ParL ms ns f.args f'.args
  | _, _, _, .lf s, _ => ⟨rfl, [], .nil⟩
  | _, _, _, .ap (f := g) (a := b) h1 h2, fw => by
    have fg : Few ms g := fun m q => by
      have : (g.args ++ [b]).length < m.many := fw m q
      rw [List.length_append, List.length_singleton] at this
      omega
    have ⟨e, ns, r⟩ := parN_few h1 fg
    exact ⟨e, _, r.append (.cons h2 .nil)⟩
  | _, _, _, .act hc _, fw => by
    have ⟨q1, q2⟩ := can_fnd hc
    have := fw _ q1
    omega
theorem stp_parN {ms : List Mk} (hm : MsOk ms) : ∀ {w : Wd} {p : Pl} {w' : Wd}, stp ms w p = some w' → ∃ n, ParN ms n w w'
  | w, [], w', e => by
    rw [stp_nil] at e
    cases q : can ms w with
    | none => rw [q] at e; cases e
    | some m =>
      rw [q] at e
      cases w with
      | lf s => rw [can_lf hm] at q; cases q
      | ap f a =>
        have e' : m.deed.act (f.args ++ [a]) = w' := Option.some.inj e
        rw [← e']
        obtain ⟨ns, h⟩ := ParL.refl ms (f.args ++ [a])
        exact ⟨_, .act q h⟩
  | .lf s, _ :: _, _, e => by simp [stp] at e
  | .ap f a, true :: p, w', e => by
    have e' : (stp ms f p).map (fun f' => Wd.ap f' a) = some w' := e
    cases q : stp ms f p with
    | none => rw [q] at e'; cases e'
    | some f' =>
      rw [q] at e'; cases e'
      obtain ⟨n, h⟩ := stp_parN hm q
      exact ⟨_, .ap h (ParN.refl ms a)⟩
  | .ap f a, false :: p, w', e => by
    have e' : (stp ms a p).map (fun f' => Wd.ap f f') = some w' := e
    cases q : stp ms a p with
    | none => rw [q] at e'; cases e'
    | some f' =>
      rw [q] at e'; cases e'
      obtain ⟨n, h⟩ := stp_parN hm q
      exact ⟨_, .ap (ParN.refl ms f) h⟩
theorem hnx_can {ms : List Mk} {f a : Wd} {m : Mk} (h : can ms (.ap f a) = some m) : hnx ms (.ap f a) = some (m.deed.act (f.args ++ [a])) := by
  unfold hnx
  rw [(hpl_can h).1]
  show stp ms (.ap f a) [] = _
  rw [stp_nil, h]
  rfl
theorem hnx_not {ms : List Mk} {f a : Wd} (h : can ms (.ap f a) = none) : hnx ms (.ap f a) = (hnx ms f).map fun f' => .ap f' a := by
  unfold hnx
  rw [hpl_ap h]
  cases q : hpl ms f with
  | none => rfl
  | some p => rfl
theorem hnx_lf {ms : List Mk} (hm : MsOk ms) (s : Str) : hnx ms (.lf s) = none := (hnx_none hm).mpr (hpl_lf hm s)
/-- a head step ahead of steps side by side -/
theorem head_par {ms : List Mk} (hm : MsOk ms) : ∀ {w v w1 : Wd} {n : Nat}, ParN ms n w v → hnx ms w = some w1 → (∃ n', n' < n ∧ ParN ms n' w1 v) ∨ ∃ v1 n', hnx ms v = some v1 ∧ ParN ms n' w1 v1
  | _, _, _, _, .lf s, h => by rw [hnx_lf hm] at h; cases h
  | _, _, w1, _, .ap (n := n) (k := k) (f := f) (f' := f') (a := a) (a' := a') h1 h2, h => by
    cases q : can ms (.ap f a) with
    | some m =>
      rw [hnx_can q] at h
      cases h
      have ⟨e, ns, r⟩ := parN_few h1 (can_few q)
      have ⟨c1, c2⟩ := can_fnd q
      have R := r.append (.cons h2 .nil)
      have q' : can ms (.ap f' a') = some m := by
        refine can_of (show fnd ms f'.hd = some m by rw [e]; exact c1) ?_
        have z : m.many = (f.args ++ [a]).length := c2
        show m.many = (f'.args ++ [a']).length
        rw [z, R.len]
      have ⟨ha, _, hl⟩ := can_spec q
      exact .inr ⟨_, _, hnx_can q', act_parN R (by
        have hl' : m.many = (f.args ++ [a]).length := hl
        rw [← hl']
        exact (hm.ok m ha).bd)⟩
    | none =>
      rw [hnx_not q] at h
      cases z : hnx ms f with
      | none => rw [z] at h; cases h
      | some f1 =>
        rw [z] at h
        cases h
        rcases head_par hm h1 z with ⟨n', l, g⟩ | ⟨f2, n', g1, g2⟩
        · exact .inl ⟨n' + k, by omega, .ap g h2⟩
        · exact .inr ⟨.ap f2 a', n' + k, hnx_ap a' g1, .ap g2 h2⟩
  | _, _, w1, _, .act (f := f) (a := a) (m := m) (ns := ns) (xs := xs) hc hp, h => by
    rw [hnx_can hc] at h
    cases h
    have ⟨ha, _, hl⟩ := can_spec hc
    exact .inl ⟨cost ns m.deed, by omega, act_parN hp (by
      have hl' : m.many = (f.args ++ [a]).length := hl
      rw [← hl']
      exact (hm.ok m ha).bd)⟩
/-- k head steps are there -/
def Has (ms : List Mk) : Nat → Wd → Prop
  | 0, _ => True
  | k + 1, w => ∃ w', hnx ms w = some w' ∧ Has ms k w'
def Inf (ms : List Mk) (w : Wd) : Prop := ∀ k, Has ms k w
theorem Has.le {ms : List Mk} : ∀ {k j : Nat} {w : Wd}, j ≤ k → Has ms k w → Has ms j w
  | _, 0, _, _, _ => trivial
  | 0, j + 1, _, h, _ => by omega
  | k + 1, j + 1, _, h, ⟨w', e, q⟩ => ⟨w', e, Has.le (by omega) q⟩
theorem Inf.next {ms : List Mk} {w w' : Wd} (h : Inf ms w) (e : hnx ms w = some w') : Inf ms w' := fun k => by
  obtain ⟨w2, e2, q⟩ := h (k + 1)
  rw [e] at e2
  cases e2
  exact q
theorem inf_has {ms : List Mk} (hm : MsOk ms) : ∀ (k n : Nat) (w v : Wd), Inf ms w → ParN ms n w v → Has ms k v := by
  intro k
  induction k with
  | zero => intro _ _ _ _ _; trivial
  | succ k ih =>
    intro n
    induction n using Nat.strongRecOn with
    | _ n jh =>
      intro w v hi hp
      obtain ⟨w1, e, _⟩ := hi 1
      rcases head_par hm hp e with ⟨n', l, g⟩ | ⟨v1, n', g1, g2⟩
      · exact jh n' l w1 v (hi.next e) g
      · exact ⟨v1, g1, ih n' w1 v1 (hi.next e) g2⟩
theorem inf_step {ms : List Mk} (hm : MsOk ms) {w v : Wd} {p : Pl} (h : Inf ms w) (e : stp ms w p = some v) : Inf ms v := by
  obtain ⟨n, q⟩ := stp_parN hm e
  exact fun k => inf_has hm k n w v h q
theorem inf_place {ms : List Mk} (hm : MsOk ms) {w : Wd} (h : Inf ms w) : plcs ms w ≠ [] := fun e => by
  obtain ⟨w', q, _⟩ := h 1
  cases z : hpl ms w with
  | none => rw [(hnx_none hm).mpr z] at q; cases q
  | some p =>
    have := hpl_only hm w
    rw [e, z] at this
    cases this
theorem has_ap {ms : List Mk} (a : Wd) : ∀ {k : Nat} {w : Wd}, Has ms k w → Has ms k (.ap w a)
  | 0, _, _ => trivial
  | k + 1, w, ⟨w', e, q⟩ => ⟨.ap w' a, hnx_ap a e, has_ap a q⟩
/-- so many head steps lead there -/
def Led (ms : List Mk) : Nat → Wd → Wd → Prop
  | 0, w, v => w = v
  | k + 1, w, v => ∃ w', hnx ms w = some w' ∧ Led ms k w' v
theorem Led.has {ms : List Mk} : ∀ {j k : Nat} {w v : Wd}, Led ms j w v → Has ms k v → Has ms (j + k) w
  | 0, k, w, v, e, h => by
    have e' : w = v := e
    rw [e', Nat.zero_add]; exact h
  | j + 1, k, w, v, ⟨w', e, q⟩, h => by
    rw [Nat.add_right_comm]
    exact ⟨w', e, Led.has q h⟩
theorem round_inf {ms : List Mk} {u u' : Wd} {j : Nat} (l : Led ms (j + 1) u u') (b : ∀ k, Has ms k u → Has ms k u') : Inf ms u := by
  intro k
  induction k with
  | zero => trivial
  | succ k ih =>
    have := l.has (b k ih)
    exact this.le (by omega)
theorem led_inf {ms : List Mk} {u v : Wd} {j : Nat} (l : Led ms j u v) (h : Inf ms v) : Inf ms u := fun k => (l.has (h k)).le (by omega)
theorem hdL_led (ms : List Mk) : ∀ (n i d : Nat) (w x y : Wd), (hdL ms n w)[i]? = some x → (hdL ms n w)[i + d]? = some y → Led ms d x y
  | n, i, 0, w, x, y, h1, h2 => by
    rw [Nat.add_zero, h1] at h2
    cases h2
    rfl
  | n, i, d + 1, w, x, y, h1, h2 => by
    have hl := (List.getElem?_eq_some_iff.mp h2).1
    rcases hdL_next ms n i w x h1 with ⟨_, q⟩ | ⟨_, q⟩ | ⟨z, q1, q2⟩
    · omega
    · omega
    · refine ⟨z, q1, hdL_led ms n (i + 1) d w z y q2 ?_⟩
      rw [show i + 1 + d = i + (d + 1) by omega]
      exact h2
end MW

set_option maxRecDepth 100000
/-! Part 4g: more of several steps at once. -/
namespace MW
open PySem PySem.Spec PyProof.Rows L2
open Res
theorem mem_undr {b : Bool} {S : List Pl} {p : Pl} : p ∈ undr b S ↔ (b :: p) ∈ S := by
  unfold undr
  rw [List.mem_map]
  constructor
  · rintro ⟨q, h1, rfl⟩
    obtain ⟨h2, h3⟩ := List.mem_filter.mp h1
    cases q with
    | nil => simp at h3
    | cons c r =>
      have : c = b := by simpa using h3
      rw [← this]
      exact h2
  · intro h
    exact ⟨b :: p, List.mem_filter.mpr ⟨h, by simp⟩, rfl⟩
theorem onc_congr (ms : List Mk) : ∀ (w : Wd) {S S' : List Pl}, (∀ p, p ∈ S ↔ p ∈ S') → onc ms w S = onc ms w S'
  | .lf s, S, S', h => rfl
  | .ap f a, S, S', h => by
    have e1 := onc_congr ms f (S := undr true S) (S' := undr true S') fun p => by rw [mem_undr, mem_undr]; exact h _
    have e2 := onc_congr ms a (S := undr false S) (S' := undr false S') fun p => by rw [mem_undr, mem_undr]; exact h _
    unfold onc
    rw [e1, e2]
    by_cases hn : [] ∈ S
    · have hn' := (h []).mp hn
      simp only [if_pos hn, if_pos hn']
    · have hn' : ¬ [] ∈ S' := fun z => hn ((h []).mpr z)
      simp only [if_neg hn, if_neg hn']
theorem plcs_ap {ms : List Mk} {f a : Wd} {b : Bool} {p : Pl} : (b :: p) ∈ plcs ms (.ap f a) ↔ p ∈ plcs ms (if b then f else a) := by
  rw [mem_plcs, mem_plcs]
  cases b with
  | true =>
    show ((stp ms f p).map fun f' => Wd.ap f' a).isSome = true ↔ (stp ms f p).isSome = true
    rw [Option.isSome_map]
  | false =>
    show ((stp ms a p).map fun f' => Wd.ap f f').isSome = true ↔ (stp ms a p).isSome = true
    rw [Option.isSome_map]
theorem plcs_nil {ms : List Mk} {w : Wd} : [] ∈ plcs ms w ↔ (can ms w).isSome = true := by
  rw [mem_plcs, stp_nil, Option.isSome_map]
theorem onc_some {ms : List Mk} : ∀ {w : Wd} {S : List Pl}, (∀ p ∈ S, p ∈ plcs ms w) → ∃ w', onc ms w S = some w'
  | .lf s, S, h => ⟨_, rfl⟩
  | .ap f a, S, h => by
    have h1 : ∀ p ∈ undr true S, p ∈ plcs ms f := fun p hp => (plcs_ap (b := true)).mp (h _ (mem_undr.mp hp))
    have h2 : ∀ p ∈ undr false S, p ∈ plcs ms a := fun p hp => (plcs_ap (b := false)).mp (h _ (mem_undr.mp hp))
    obtain ⟨f', e1⟩ := onc_some h1
    obtain ⟨a', e2⟩ := onc_some h2
    rw [onc_ap e1 e2]
    by_cases hn : [] ∈ S
    · rw [if_pos hn]
      have := plcs_nil.mp (h _ hn)
      obtain ⟨m, hm⟩ := Option.isSome_iff_exists.mp this
      rw [(par_can hm (onc_par h1 e1) (onc_par h2 e2)).1]
      exact ⟨_, rfl⟩
    · rw [if_neg hn]
      exact ⟨_, rfl⟩
/-- the sorted places, as places -/
theorem pls_ex (ms : List Mk) (w : Wd) : ∃ S : List Pl, plsS ms w = S.map plS ∧ ∀ p, p ∈ S ↔ p ∈ plcs ms w := by
  have all : ∀ l : List Str, (∀ s ∈ l, ∃ p ∈ plcs ms w, s = plS p) → ∃ S : List Pl, l = S.map plS ∧ ∀ p ∈ S, p ∈ plcs ms w := by
    intro l
    induction l with
    | nil => intro _; exact ⟨[], rfl, fun p h => by cases h⟩
    | cons s r ih =>
      intro h
      obtain ⟨S, e, q⟩ := ih fun x hx => h x (List.mem_cons_of_mem _ hx)
      obtain ⟨p, hp, rfl⟩ := h s List.mem_cons_self
      refine ⟨p :: S, by rw [e]; rfl, fun x hx => ?_⟩
      rcases List.mem_cons.mp hx with rfl | hx
      · exact hp
      · exact q x hx
  obtain ⟨S, e, q⟩ := all (plsS ms w) fun s hs => by
    have := (sort_is _).mem_iff.mp hs
    obtain ⟨p, h1, rfl⟩ := List.mem_map.mp this
    exact ⟨p, h1, rfl⟩
  refine ⟨S, e, fun p => ⟨q p, fun hp => ?_⟩⟩
  have : plS p ∈ plsS ms w := (sort_is _).mem_iff.mpr (List.mem_map_of_mem hp)
  rw [e] at this
  obtain ⟨p', h1, h2⟩ := List.mem_map.mp this
  rw [← plS_inj h2]
  exact h1
theorem onc_own {ms : List Mk} {f a : Wd} {m : Mk} (h : can ms (.ap f a) = some m) : onc ms (.ap f a) [[]] = some (m.deed.act (Wd.ap f a).args) := by
  have e1 : onc ms f (undr true [[]]) = some f := onc_nil ms f
  have e2 : onc ms a (undr false [[]]) = some a := onc_nil ms a
  rw [onc_ap e1 e2, if_pos (by simp), h]; rfl
theorem undr_map (b c : Bool) (S : List Pl) : undr b (S.map (c :: ·)) = if b = c then S else [] := by
  unfold undr
  induction S with
  | nil => by_cases h : b = c <;> simp [h]
  | cons p r ih =>
    rw [List.map_cons, List.filter_cons]
    by_cases h : b = c
    · subst h
      simp only [List.head?_cons, beq_self_eq_true, if_true, List.map_cons, List.tail_cons]
      rw [if_pos rfl] at ih
      rw [ih]
    · have : ((some c : Option Bool) == some b) = false := by
        rw [beq_eq_false_iff_ne]
        intro e
        exact h (Option.some.inj e).symm
      simp only [List.head?_cons, this, Bool.false_eq_true, if_false]
      rw [ih, if_neg h, if_neg h]
theorem onc_in {ms : List Mk} {w w' : Wd} {S : List Pl} (a : Wd) (h : onc ms w S = some w') : onc ms (.ap w a) (S.map (true :: ·)) = some (.ap w' a) := by
  have e1 : onc ms w (undr true (S.map (true :: ·))) = some w' := by rw [undr_map, if_pos rfl]; exact h
  have e2 : onc ms a (undr false (S.map (true :: ·))) = some a := by rw [undr_map, if_neg (by decide)]; exact onc_nil ms a
  rw [onc_ap e1 e2, if_neg fun z => by
    obtain ⟨_, _, q⟩ := List.mem_map.mp z
    cases q]
/-! ### how great a word becomes by steps at once -/
theorem pow_le {a b : Nat} (h : a ≤ b) : 4 ^ a ≤ 4 ^ b := Nat.pow_le_pow_right (by decide) h
theorem few_down {ms : List Mk} {f a : Wd} (h : Few ms (.ap f a)) : Few ms f := fun m hm => by
  have := h m hm
  have e : (Wd.ap f a).args.length = f.args.length + 1 := by
    show (f.args ++ [a]).length = _
    rw [List.length_append, List.length_singleton]
  omega
theorem few_not {ms : List Mk} {w : Wd} (h : Few ms w) : can ms w = none := by
  cases q : can ms w with
  | none => rfl
  | some m =>
    obtain ⟨h1, h2⟩ := can_fnd q
    have := h m h1
    omega
theorem onc_great {ms : List Mk} (hm : ∀ m ∈ ms, MkOk m) : ∀ {w : Wd} {S : List Pl} {w' : Wd}, (∀ p ∈ S, p ∈ plcs ms w) → onc ms w S = some w' → w'.size ≤ 4 ^ (w.size - 1) ∧ (Few ms w → ∀ x ∈ w'.args, x.size ≤ 4 ^ (w.size - 2))
  | .lf s, S, w', h, e => by
    cases e
    exact ⟨Nat.le_refl _, fun _ x hx => by cases hx⟩
  | .ap f a, S, w', h, e => by
    have h1 : ∀ p ∈ undr true S, p ∈ plcs ms f := fun p hp => (plcs_ap (b := true)).mp (h _ (mem_undr.mp hp))
    have h2 : ∀ p ∈ undr false S, p ∈ plcs ms a := fun p hp => (plcs_ap (b := false)).mp (h _ (mem_undr.mp hp))
    obtain ⟨f', a', e1, e2, e3⟩ := onc_inv e
    have ⟨i1, j1⟩ := onc_great hm h1 e1
    have ⟨i2, _⟩ := onc_great hm h2 e2
    have pf := f.size_pos
    have pa := a.size_pos
    have es : (Wd.ap f a).size = f.size + a.size := rfl
    have args : Few ms f → ∀ x ∈ (Wd.ap f' a').args, x.size ≤ 4 ^ (f.size + a.size - 2) := fun hf x hx => by
      have hx' : x ∈ f'.args ++ [a'] := hx
      rcases List.mem_append.mp hx' with q | q
      · exact Nat.le_trans (j1 hf x q) (pow_le (by omega))
      · rw [List.mem_singleton.mp q]
        exact Nat.le_trans i2 (pow_le (by omega))
    have e4 : 4 ^ (f.size + a.size - 1) = 4 ^ (f.size + a.size - 2) * 4 := by
      rw [← Nat.pow_succ]
      congr 1
      omega
    rw [es]
    rcases e3 with ⟨en, m, q, rfl⟩ | ⟨en, rfl⟩
    · obtain ⟨m0, q0⟩ := Option.isSome_iff_exists.mp (plcs_nil.mp (h _ en))
      have hf := can_few q0
      have ⟨hm1, _, hm3⟩ := can_spec q
      have o := hm m hm1
      have z := Dd.act_size (bs := (Wd.ap f' a').args) (args hf) (d := m.deed) (hm3 ▸ o.bd)
      refine ⟨?_, fun hF => ?_⟩
      · rw [e4]
        exact Nat.le_trans z (Nat.mul_le_mul_left _ o.sz)
      · rw [few_not hF] at q0
        cases q0
    · refine ⟨?_, fun hF => args (few_down hF)⟩
      show f'.size + a'.size ≤ _
      have z1 : f'.size ≤ 4 ^ (f.size + a.size - 2) := Nat.le_trans i1 (pow_le (by omega))
      have z2 : a'.size ≤ 4 ^ (f.size + a.size - 2) := Nat.le_trans i2 (pow_le (by omega))
      rw [e4]
      omega
/-! ### first steps to a rest -/
def Gos (ms : List Mk) : Nat → Wd → Wd → Prop
  | 0, w, e => w = e
  | n + 1, w, e => ∃ w', nx ms w = some w' ∧ Gos ms n w' e
theorem last_cons (w x : Wd) (r : List Wd) : lastW (w :: x :: r) w = lastW (x :: r) x := by
  unfold lastW
  rw [List.getLastD_eq_getLast?, List.getLastD_eq_getLast?, List.getLast?_cons_cons]
  cases q : (x :: r).getLast? with
  | none => rw [List.getLast?_eq_none_iff] at q; cases q
  | some z => rfl
theorem rest_succ {ms : List Mk} {w w' : Wd} (h : nx ms w = some w') (n : Nat) : restL ms (n + 1) w = restL ms n w' := by
  unfold restL
  rw [runL_some h]
  obtain ⟨r, e⟩ := runL_ne ms n w'
  rw [e, last_cons]
theorem rest_none {ms : List Mk} {w : Wd} (h : nx ms w = none) (n : Nat) : restL ms n w = some w := by
  unfold restL
  rw [runL_none h]
  show (match fst ms w with | some _ => none | none => some w) = some w
  rw [nx_none.mp h]
theorem rest_gos {ms : List Mk} : ∀ {n : Nat} {w e : Wd}, restL ms n w = some e → ∃ m, m ≤ n ∧ Gos ms m w e ∧ nx ms e = none
  | 0, w, e, h => by
    unfold restL at h
    have h' : (match fst ms w with | some _ => none | none => some w) = some e := h
    cases q : fst ms w with
    | none =>
      rw [q] at h'
      cases h'
      exact ⟨0, Nat.le_refl _, rfl, nx_none.mpr q⟩
    | some p => rw [q] at h'; cases h'
  | n + 1, w, e, h => by
    cases q : nx ms w with
    | none =>
      rw [rest_none q] at h
      cases h
      exact ⟨0, Nat.zero_le _, rfl, q⟩
    | some w' =>
      rw [rest_succ q] at h
      obtain ⟨m, h1, h2, h3⟩ := rest_gos h
      exact ⟨m + 1, by omega, ⟨w', q, h2⟩, h3⟩
theorem gos_rest {ms : List Mk} {e : Wd} (he : nx ms e = none) : ∀ {m n : Nat} {w : Wd}, m ≤ n → Gos ms m w e → restL ms n w = some e
  | 0, n, w, _, h => by
    cases (show w = e from h)
    exact rest_none he n
  | m + 1, 0, w, h, _ => by omega
  | m + 1, n + 1, w, h, ⟨w', q, g⟩ => by
    rw [rest_succ q]
    exact gos_rest he (by omega) g
theorem nx_ap {ms : List Mk} {f a : Wd} (h : can ms (.ap f a) = none) : nx ms (.ap f a) = match nx ms f with
    | some f' => some (.ap f' a)
    | none => (nx ms a).map (.ap f) := by
  unfold nx
  have e : fst ms (.ap f a) = match fst ms f with
    | some p => some (true :: p)
    | none => (fst ms a).map (false :: ·) := by
    rw [fst, h]
    cases fst ms f with
    | some p => rfl
    | none => cases fst ms a <;> rfl
  rw [e]
  cases q1 : fst ms f with
  | some p =>
    show stp ms (.ap f a) (true :: p) = match stp ms f p with | some f' => some (Wd.ap f' a) | none => (((fst ms a).bind (stp ms a)).map (Wd.ap f))
    show (stp ms f p).map (fun f' => Wd.ap f' a) = _
    have := (mem_plcs ms f p).mp (fst_mem ms f p q1)
    obtain ⟨f', e⟩ := Option.isSome_iff_exists.mp this
    rw [e]; rfl
  | none =>
    cases q2 : fst ms a with
    | some p =>
      show stp ms (.ap f a) (false :: p) = (stp ms a p).map (Wd.ap f)
      rfl
    | none => rfl
theorem rest_pars {ms : List Mk} (hm : MsOk ms) : ∀ {n : Nat} {w e : Wd}, Gos ms n w e → Pars ms w e
  | 0, w, e, h => by cases (show w = e from h); exact .refl _
  | n + 1, w, e, ⟨w', q, g⟩ => by
    unfold nx at q
    cases z : fst ms w with
    | none => rw [z] at q; cases q
    | some p =>
      rw [z] at q
      exact .step (stp_par hm q) (rest_pars hm g)
/-- a head that is no maker acts nowhere -/
theorem can_letter {ms : List Mk} {w : Wd} (h : fnd ms w.hd = none) : can ms w = none := by
  unfold can
  rw [h]
theorem gos_in {ms : List Mk} {s : Str} (hs : fnd ms s = none) : ∀ {n : Nat} {w e : Wd}, Gos ms n w e → Gos ms n (.ap (.lf s) w) (.ap (.lf s) e)
  | 0, w, e, h => by cases (show w = e from h); rfl
  | n + 1, w, e, ⟨w', q, g⟩ => by
    refine ⟨.ap (.lf s) w', ?_, gos_in hs g⟩
    rw [nx_ap (can_letter hs)]
    have e0 : nx ms (.lf s) = none := by
      rw [nx_none, fst, can_letter (w := .lf s) hs]
    rw [e0, q]; rfl
theorem nx_in {ms : List Mk} {s : Str} (hs : fnd ms s = none) {e : Wd} (he : nx ms e = none) : nx ms (.ap (.lf s) e) = none := by
  rw [nx_ap (can_letter hs)]
  have e0 : nx ms (.lf s) = none := by
    rw [nx_none, fst, can_letter (w := .lf s) hs]
  rw [e0, he]; rfl
theorem gos_trans {ms : List Mk} : ∀ {m n : Nat} {a b c : Wd}, Gos ms m a b → Gos ms n b c → Gos ms (m + n) a c
  | 0, n, a, b, c, h, g => by cases (show a = b from h); rw [Nat.zero_add]; exact g
  | m + 1, n, a, b, c, ⟨w', q, h⟩, g => by
    rw [Nat.add_right_comm]
    exact ⟨w', q, gos_trans h g⟩
theorem gos_left {ms : List Mk} {s : Str} (hs : fnd ms s = none) (v : Wd) : ∀ {n : Nat} {w e : Wd}, Gos ms n w e → Gos ms n (.ap (.ap (.lf s) w) v) (.ap (.ap (.lf s) e) v)
  | 0, w, e, h => by cases (show w = e from h); rfl
  | n + 1, w, e, ⟨w', q, g⟩ => by
    refine ⟨.ap (.ap (.lf s) w') v, ?_, gos_left hs v g⟩
    rw [nx_ap (can_letter hs), nx_ap (can_letter (w := .ap (.lf s) w) hs)]
    have e0 : nx ms (.lf s) = none := by
      rw [nx_none, fst, can_letter (w := .lf s) hs]
    rw [e0, q]; rfl
theorem gos_right {ms : List Mk} {s : Str} (hs : fnd ms s = none) {u : Wd} (hu : nx ms u = none) : ∀ {n : Nat} {w e : Wd}, Gos ms n w e → Gos ms n (.ap (.ap (.lf s) u) w) (.ap (.ap (.lf s) u) e)
  | 0, w, e, h => by cases (show w = e from h); rfl
  | n + 1, w, e, ⟨w', q, g⟩ => by
    refine ⟨.ap (.ap (.lf s) u) w', ?_, gos_right hs hu g⟩
    rw [nx_ap (can_letter hs), nx_in hs hu, q]; rfl
theorem nx_two {ms : List Mk} {s : Str} (hs : fnd ms s = none) {u e : Wd} (hu : nx ms u = none) (he : nx ms e = none) : nx ms (.ap (.ap (.lf s) u) e) = none := by
  rw [nx_ap (can_letter hs), nx_in hs hu, he]; rfl
/-- small letters are no makers -/
theorem fnd_small {ms : List Mk} (hm : MsOk ms) (c : Nat) (hc : 91 ≤ c) : fnd ms (ofL [c]) = none := by
  unfold fnd
  rw [List.find?_eq_none]
  intro m h e
  have e' : m.nm = ofL [c] := eq_of_beq e
  obtain ⟨x, h1, _, h3⟩ := (hm.ok m h).nm
  rw [h1] at e'
  have := ofL_inj e'
  simp at this
  omega
end MW

set_option maxRecDepth 100000
/-! Part 4h: things put in for letters. -/
namespace MW
open PySem PySem.Spec PyProof.Rows L2
open Res
def put (s : Str) (t : Wd) : Wd → Wd
  | .lf x => if x = s then t else .lf x
  | .ap f a => .ap (put s t f) (put s t a)
theorem put_self (s : Str) : ∀ w : Wd, put s (.lf s) w = w
  | .lf x => by
    unfold put
    by_cases h : x = s
    · rw [if_pos h, h]
    · rw [if_neg h]
  | .ap f a => by
    show Wd.ap _ _ = _
    rw [put_self s f, put_self s a]
theorem put_not {s : Str} {t : Wd} : ∀ {w : Wd}, s ∉ w.lvs → put s t w = w
  | .lf x, h => by
    unfold put
    rw [if_neg fun e => h (by rw [e]; exact List.mem_singleton.mpr rfl)]
  | .ap f a, h => by
    have h' : s ∉ f.lvs ++ a.lvs := h
    rw [List.mem_append, not_or] at h'
    show Wd.ap _ _ = _
    rw [put_not h'.1, put_not h'.2]
theorem put_gone {s : Str} {t : Wd} (ht : s ∉ t.lvs) : ∀ w : Wd, s ∉ (put s t w).lvs
  | .lf x => by
    unfold put
    by_cases h : x = s
    · rw [if_pos h]; exact ht
    · rw [if_neg h]
      intro z
      exact h (List.mem_singleton.mp z).symm
  | .ap f a => by
    show s ∉ (put s t f).lvs ++ (put s t a).lvs
    rw [List.mem_append, not_or]
    exact ⟨put_gone ht f, put_gone ht a⟩
theorem put_two {s u : Str} {t o : Wd} (h : s ≠ u) (ho : s ∉ o.lvs) : ∀ w : Wd, put u o (put s t w) = put s (put u o t) (put u o w)
  | .lf x => by
    by_cases h1 : x = s
    · have h2 : x ≠ u := h1 ▸ h
      show put u o (if x = s then t else .lf x) = put s (put u o t) (if x = u then o else .lf x)
      rw [if_pos h1, if_neg h2]
      show _ = if x = s then _ else _
      rw [if_pos h1]
    · by_cases h2 : x = u
      · show put u o (if x = s then t else .lf x) = put s (put u o t) (if x = u then o else .lf x)
        rw [if_neg h1, if_pos h2, put_not ho]
        show (if x = u then o else .lf x) = o
        rw [if_pos h2]
      · show put u o (if x = s then t else .lf x) = put s (put u o t) (if x = u then o else .lf x)
        rw [if_neg h1, if_neg h2]
        show (if x = u then o else .lf x) = if x = s then _ else .lf x
        rw [if_neg h1, if_neg h2]
  | .ap f a => by
    show Wd.ap _ _ = Wd.ap _ _
    rw [put_two h ho f, put_two h ho a]
theorem put_all {P : Str → Prop} {s : Str} {t : Wd} (ht : t.All P) : ∀ {w : Wd}, w.All P → (put s t w).All P
  | .lf x, h => by
    unfold put
    by_cases q : x = s
    · rw [if_pos q]; exact ht
    · rw [if_neg q]; exact h
  | .ap f a, h => ⟨put_all ht h.1, put_all ht h.2⟩
theorem put_dep (s : Str) (t : Wd) : ∀ w : Wd, (put s t w).dep ≤ w.dep + t.dep
  | .lf x => by
    unfold put
    by_cases q : x = s
    · rw [if_pos q]; exact Nat.le_add_left _ _
    · rw [if_neg q]; exact Nat.zero_le _
  | .ap f a => by
    have h1 := put_dep s t f
    have h2 := put_dep s t a
    show max _ _ + 1 ≤ max f.dep a.dep + 1 + t.dep
    omega
theorem put_size (s : Str) (t : Wd) : ∀ w : Wd, ((put s t w).size : Int) = (w.size : Int) + ((w.lvs.countP fun x => x.cps.toList == s.cps.toList : Nat) : Int) * ((t.size : Int) - 1)
  | .lf x => by
    unfold put
    by_cases q : x = s
    · rw [if_pos q]
      have e : ((Wd.lf x).lvs.countP fun x => x.cps.toList == s.cps.toList) = 1 := by
        show [x].countP _ = 1
        rw [q]; simp
      rw [e]
      show (t.size : Int) = 1 + 1 * ((t.size : Int) - 1)
      omega
    · rw [if_neg q]
      have e : ((Wd.lf x).lvs.countP fun x => x.cps.toList == s.cps.toList) = 0 := by
        show [x].countP _ = 0
        have : (x.cps.toList == s.cps.toList) = false := by
          rw [beq_eq_false_iff_ne]
          intro e
          exact q (by rw [← ofL_of x, ← ofL_of s, e])
        rw [List.countP_cons, this]; rfl
      rw [e]
      show (1 : Int) = 1 + 0 * ((t.size : Int) - 1)
      omega
  | .ap f a => by
    have h1 := put_size s t f
    have h2 := put_size s t a
    have e : ((Wd.ap f a).lvs.countP fun x => x.cps.toList == s.cps.toList) = (f.lvs.countP fun x => x.cps.toList == s.cps.toList) + (a.lvs.countP fun x => x.cps.toList == s.cps.toList) := by
      show (f.lvs ++ a.lvs).countP _ = _
      rw [List.countP_append]
    rw [e]
    show (((put s t f).size + (put s t a).size : Nat) : Int) = ((f.size + a.size : Nat) : Int) + _
    rw [Int.natCast_add, Int.natCast_add, Int.natCast_add, Int.add_mul, h1, h2]
    omega
theorem put_hd {s : Str} {t : Wd} : ∀ {w : Wd}, w.hd ≠ s → (put s t w).hd = w.hd ∧ (put s t w).args = w.args.map (put s t)
  | .lf x, h => by
    unfold put
    rw [if_neg (show ¬ x = s from h)]
    exact ⟨rfl, rfl⟩
  | .ap f a, h => by
    have ⟨h1, h2⟩ := put_hd (w := f) (t := t) h
    refine ⟨h1, ?_⟩
    show (put s t f).args ++ [put s t a] = (f.args ++ [a]).map (put s t)
    rw [h2, List.map_append]; rfl
theorem put_act {s : Str} {t : Wd} {bs : List Wd} : ∀ {d : Dd}, d.bd bs.length → put s t (d.act bs) = d.act (bs.map (put s t))
  | .v i, h => by
    have h' : i < bs.length := h
    show put s t (bs.getD i (.lf (ofL []))) = (bs.map (put s t)).getD i (.lf (ofL []))
    rw [List.getD_eq_getElem?_getD, List.getD_eq_getElem?_getD, List.getElem?_map, List.getElem?_eq_getElem h']
    rfl
  | .p a b, h => by
    show Wd.ap _ _ = Wd.ap _ _
    rw [put_act h.1, put_act h.2]
theorem put_can {ms : List Mk} {s : Str} {t : Wd} (hs : fnd ms s = none) {w : Wd} {m : Mk} (h : can ms w = some m) : can ms (put s t w) = some m ∧ (put s t w).args = w.args.map (put s t) := by
  obtain ⟨h1, h2⟩ := can_fnd h
  have hne : w.hd ≠ s := fun e => by rw [e, hs] at h1; cases h1
  obtain ⟨g1, g2⟩ := put_hd (t := t) hne
  refine ⟨can_of (by rw [g1]; exact h1) (by rw [g2, List.length_map]; exact h2), g2⟩
theorem put_stp {ms : List Mk} (hm : ∀ m ∈ ms, MkOk m) {s : Str} {t : Wd} (hs : fnd ms s = none) : ∀ {p : Pl} {w w' : Wd}, stp ms w p = some w' → stp ms (put s t w) p = some (put s t w')
  | [], w, w', h => by
    rw [stp_nil] at h
    cases q : can ms w with
    | none => rw [q] at h; cases h
    | some m =>
      rw [q] at h
      have e : m.deed.act w.args = w' := Option.some.inj h
      obtain ⟨g1, g2⟩ := put_can (t := t) hs q
      have ⟨k1, _, k3⟩ := can_spec q
      rw [stp_nil, g1, ← e]
      show some (m.deed.act (put s t w).args) = _
      rw [g2, put_act (k3 ▸ (hm m k1).bd)]
  | b :: p, .lf x, w', h => by simp [stp] at h
  | true :: p, .ap f a, w', h => by
    have h' : (stp ms f p).map (fun f' => Wd.ap f' a) = some w' := h
    cases q : stp ms f p with
    | none => rw [q] at h'; cases h'
    | some f' =>
      rw [q] at h'
      cases h'
      show (stp ms (put s t f) p).map (fun f' => Wd.ap f' (put s t a)) = _
      rw [put_stp hm hs q]; rfl
  | false :: p, .ap f a, w', h => by
    have h' : (stp ms a p).map (fun f' => Wd.ap f f') = some w' := h
    cases q : stp ms a p with
    | none => rw [q] at h'; cases h'
    | some f' =>
      rw [q] at h'
      cases h'
      show (stp ms (put s t a) p).map (fun f' => Wd.ap (put s t f) f') = _
      rw [put_stp hm hs q]; rfl
theorem put_plcs {ms : List Mk} (hm : ∀ m ∈ ms, MkOk m) {s : Str} {t : Wd} (hs : fnd ms s = none) {w : Wd} {p : Pl} (h : p ∈ plcs ms w) : p ∈ plcs ms (put s t w) := by
  obtain ⟨w', e⟩ := Option.isSome_iff_exists.mp ((mem_plcs ms w p).mp h)
  rw [mem_plcs, put_stp hm hs e]; rfl
theorem put_onc {ms : List Mk} (hm : ∀ m ∈ ms, MkOk m) {s : Str} {t : Wd} (hs : fnd ms s = none) : ∀ {w : Wd} {S : List Pl} {w' : Wd}, (∀ p ∈ S, p ∈ plcs ms w) → onc ms w S = some w' → onc ms (put s t w) S = some (put s t w')
  | .lf x, S, w', hS, h => by
    cases h
    have e : S = [] := by
      cases S with
      | nil => rfl
      | cons p r =>
        have := hS p List.mem_cons_self
        rw [mem_plcs] at this
        cases p with
        | nil =>
          rw [stp_nil] at this
          cases q : can ms (.lf x) with
          | none => rw [q] at this; cases this
          | some m =>
            have ⟨k1, _, k3⟩ := can_spec q
            have := (hm m k1).lo
            have e : m.many = 0 := k3
            omega
        | cons b p => simp [stp] at this
    rw [e, onc_nil]
  | .ap f a, S, w', hS, h => by
    have h1 : ∀ p ∈ undr true S, p ∈ plcs ms f := fun p hp => (plcs_ap (b := true)).mp (hS _ (mem_undr.mp hp))
    have h2 : ∀ p ∈ undr false S, p ∈ plcs ms a := fun p hp => (plcs_ap (b := false)).mp (hS _ (mem_undr.mp hp))
    obtain ⟨f', a', e1, e2, e3⟩ := onc_inv h
    have i1 := put_onc hm hs (t := t) h1 e1
    have i2 := put_onc hm hs (t := t) h2 e2
    show onc ms (.ap (put s t f) (put s t a)) S = _
    rw [onc_ap i1 i2]
    rcases e3 with ⟨en, m, q, rfl⟩ | ⟨en, rfl⟩
    · rw [if_pos en]
      obtain ⟨g1, g2⟩ := put_can (t := t) hs q
      have ⟨k1, _, k3⟩ := can_spec q
      show (can ms (put s t (.ap f' a'))).map (fun m => m.deed.act (put s t (.ap f' a')).args) = _
      rw [g1]
      show some (m.deed.act (put s t (.ap f' a')).args) = _
      rw [g2, put_act (k3 ▸ (hm m k1).bd)]
    · rw [if_neg en]; rfl
theorem lvs_all {P : Str → Prop} : ∀ {w : Wd}, w.All P → ∀ s ∈ w.lvs, P s
  | .lf x, h, s, hs => by rw [List.mem_singleton.mp hs]; exact h
  | .ap f a, h, s, hs => by
    rcases List.mem_append.mp (show s ∈ f.lvs ++ a.lvs from hs) with q | q
    · exact lvs_all h.1 s q
    · exact lvs_all h.2 s q
end MW

set_option maxRecDepth 100000
/-! Part 4i: letters taken out. -/
namespace MW
open PySem PySem.Spec PyProof.Rows L2
open Res
abbrev cS : Wd := .lf (ofL [83])
abbrev cK : Wd := .lf (ofL [75])
abbrev cI : Wd := .lf (ofL [73])
def mS : Mk := ⟨ofL [83], 3, .p (.p (.v 0) (.v 2)) (.p (.v 1) (.v 2))⟩
def mK : Mk := ⟨ofL [75], 2, .v 0⟩
def mI : Mk := ⟨ofL [73], 1, .v 0⟩
/-- whether a word is one without a letter with the letter behind -/
def behB (s : Str) : Wd → Bool
  | .lf _ => false
  | .ap f a => decide (a = .lf s) && decide (s ∉ f.lvs)
def tko (s : Str) : Wd → Wd
  | .lf x => if x = s then cI else .ap cK (.lf x)
  | .ap f a => if s ∉ (Wd.ap f a).lvs then .ap cK (.ap f a) else if behB s (.ap f a) then f else .ap (.ap cS (tko s f)) (tko s a)
def bck (s : Str) : Wd → Pl → List Pl
  | .lf x, p => [p]
  | .ap f a, p => if s ∉ (Wd.ap f a).lvs then [p] else if behB s (.ap f a) then [] else p :: (bck s f (p ++ [true]) ++ bck s a (p ++ [false]))
/-- steps at places, one behind the other -/
def led (ms : List Mk) : Wd → List Pl → Option Wd
  | w, [] => some w
  | w, p :: r => (stp ms w p).bind fun w' => led ms w' r
theorem led_app (ms : List Mk) : ∀ (ps qs : List Pl) (w : Wd), led ms w (ps ++ qs) = (led ms w ps).bind fun w' => led ms w' qs
  | [], qs, w => rfl
  | p :: ps, qs, w => by
    show (stp ms w p).bind (fun w' => led ms w' (ps ++ qs)) = ((stp ms w p).bind fun w' => led ms w' ps).bind _
    cases stp ms w p with
    | none => rfl
    | some w' => exact led_app ms ps qs w'
/-- further in -/
theorem led_in (ms : List Mk) (b : Bool) (x : Wd) : ∀ (ps : List Pl) (w : Wd), led ms (if b then .ap w x else .ap x w) (ps.map (b :: ·)) = (led ms w ps).map fun w' => if b then .ap w' x else .ap x w'
  | [], w => rfl
  | p :: ps, w => by
    cases b with
    | true =>
      show (stp ms (.ap w x) (true :: p)).bind (fun w' => led ms w' (ps.map (true :: ·))) = ((stp ms w p).bind fun w' => led ms w' ps).map _
      have e : stp ms (.ap w x) (true :: p) = (stp ms w p).map fun f' => Wd.ap f' x := rfl
      rw [e]
      cases stp ms w p with
      | none => rfl
      | some w' => exact led_in ms true x ps w'
    | false =>
      show (stp ms (.ap x w) (false :: p)).bind (fun w' => led ms w' (ps.map (false :: ·))) = ((stp ms w p).bind fun w' => led ms w' ps).map _
      have e : stp ms (.ap x w) (false :: p) = (stp ms w p).map fun f' => Wd.ap x f' := rfl
      rw [e]
      cases stp ms w p with
      | none => rfl
      | some w' => exact led_in ms false x ps w'
theorem bck_pre (s : Str) : ∀ (w : Wd) (p q : Pl), bck s w (p ++ q) = (bck s w q).map (p ++ ·)
  | .lf x, p, q => rfl
  | .ap f a, p, q => by
    unfold bck
    split
    · rfl
    · split
      · rfl
      · rw [List.map_cons, List.map_append, List.append_assoc, List.append_assoc, bck_pre s f p (q ++ [true]), bck_pre s a p (q ++ [false])]
theorem bck_cons (s : Str) (w : Wd) (b : Bool) : bck s w [b] = (bck s w []).map (b :: ·) := by
  have := bck_pre s w [b] []
  rw [List.append_nil] at this
  exact this
structure Ski (ms : List Mk) : Prop where
  s : fnd ms (ofL [83]) = some mS
  k : fnd ms (ofL [75]) = some mK
  i : fnd ms (ofL [73]) = some mI
theorem can_K {ms : List Mk} (h : Ski ms) (x t : Wd) : stp ms (.ap (.ap cK x) t) [] = some x := by
  have c : can ms (.ap (.ap cK x) t) = some mK := can_of h.k rfl
  rw [stp_nil, c]; rfl
theorem can_I {ms : List Mk} (h : Ski ms) (t : Wd) : stp ms (.ap cI t) [] = some t := by
  have c : can ms (.ap cI t) = some mI := can_of h.i rfl
  rw [stp_nil, c]; rfl
theorem can_S {ms : List Mk} (h : Ski ms) (x y t : Wd) : stp ms (.ap (.ap (.ap cS x) y) t) [] = some (.ap (.ap x t) (.ap y t)) := by
  have c : can ms (.ap (.ap (.ap cS x) y) t) = some mS := can_of h.s rfl
  rw [stp_nil, c]; rfl
theorem led_one {ms : List Mk} {w w' : Wd} {p : Pl} (h : stp ms w p = some w') : led ms w [p] = some w' := by
  show (stp ms w p).bind (fun w' => some w') = _
  rw [h]; rfl
/-- the told steps lead to the word with the thing put in -/
theorem out_led {ms : List Mk} (h : Ski ms) (s : Str) (t : Wd) : ∀ w : Wd, led ms (.ap (tko s w) t) (bck s w []) = some (put s t w)
  | .lf x => by
    unfold tko put bck
    by_cases e : x = s
    · rw [if_pos e, if_pos e]
      exact led_one (can_I h t)
    · rw [if_neg e, if_neg e]
      exact led_one (can_K h _ t)
  | .ap f a => by
    by_cases e : s ∉ (Wd.ap f a).lvs
    · unfold tko bck
      rw [if_pos e, if_pos e, put_not e]
      exact led_one (can_K h _ t)
    · by_cases b : behB s (.ap f a) = true
      · unfold tko bck
        rw [if_neg e, if_pos b, if_neg e, if_pos b]
        have b' : (decide (a = .lf s) && decide (s ∉ f.lvs)) = true := b
        rw [Bool.and_eq_true] at b'
        have e1 : a = .lf s := of_decide_eq_true b'.1
        have e2 : s ∉ f.lvs := of_decide_eq_true b'.2
        show some (Wd.ap f t) = some (Wd.ap (put s t f) (put s t a))
        rw [put_not e2, e1]
        show _ = some (Wd.ap f (if s = s then t else .lf s))
        rw [if_pos rfl]
      · have i1 := out_led h s t f
        have i2 := out_led h s t a
        have et : tko s (.ap f a) = .ap (.ap cS (tko s f)) (tko s a) := by
          rw [tko, if_neg e, if_neg b]
        have eb : bck s (.ap f a) [] = [] :: (bck s f [true] ++ bck s a [false]) := by
          rw [bck, if_neg e, if_neg b]; rfl
        rw [et, eb]
        show (stp ms (.ap (.ap (.ap cS (tko s f)) (tko s a)) t) []).bind (fun w' => led ms w' (bck s f [true] ++ bck s a [false])) = _
        rw [can_S h]
        show led ms (.ap (.ap (tko s f) t) (.ap (tko s a) t)) (bck s f [true] ++ bck s a [false]) = _
        rw [led_app, bck_cons, bck_cons]
        have j1 := led_in ms true (.ap (tko s a) t) (bck s f []) (.ap (tko s f) t)
        rw [i1] at j1
        have j1' : led ms (.ap (.ap (tko s f) t) (.ap (tko s a) t)) ((bck s f []).map (true :: ·)) = some (.ap (put s t f) (.ap (tko s a) t)) := j1
        rw [j1']
        have j2 := led_in ms false (put s t f) (bck s a []) (.ap (tko s a) t)
        rw [i2] at j2
        exact j2
theorem tko_lvs (s : Str) (hs : s ≠ ofL [83] ∧ s ≠ ofL [75] ∧ s ≠ ofL [73]) : ∀ (w : Wd) (x : Str), x ∈ (tko s w).lvs → x ≠ s ∧ (x ∈ w.lvs ∨ x = ofL [83] ∨ x = ofL [75] ∨ x = ofL [73])
  | .lf y, x, h => by
    unfold tko at h
    by_cases e : y = s
    · rw [if_pos e] at h
      have h' : x = ofL [73] := List.mem_singleton.mp h
      rw [h']
      exact ⟨fun z => hs.2.2 z.symm, .inr (.inr (.inr rfl))⟩
    · rw [if_neg e] at h
      have h' : x ∈ [ofL [75]] ++ [y] := h
      rcases List.mem_append.mp h' with q | q
      · rw [List.mem_singleton.mp q]
        exact ⟨fun z => hs.2.1 z.symm, .inr (.inr (.inl rfl))⟩
      · rw [List.mem_singleton.mp q]
        exact ⟨e, .inl (List.mem_singleton.mpr rfl)⟩
  | .ap f a, x, h => by
    by_cases e : s ∉ (Wd.ap f a).lvs
    · rw [tko, if_pos e] at h
      have h' : x ∈ [ofL [75]] ++ (Wd.ap f a).lvs := h
      rcases List.mem_append.mp h' with q | q
      · rw [List.mem_singleton.mp q]
        exact ⟨fun z => hs.2.1 z.symm, .inr (.inr (.inl rfl))⟩
      · exact ⟨fun z => e (z ▸ q), .inl q⟩
    · by_cases b : behB s (.ap f a) = true
      · rw [tko, if_neg e, if_pos b] at h
        have b' : (decide (a = .lf s) && decide (s ∉ f.lvs)) = true := b
        rw [Bool.and_eq_true] at b'
        have e2 : s ∉ f.lvs := of_decide_eq_true b'.2
        exact ⟨fun z => e2 (z ▸ h), .inl (List.mem_append.mpr (.inl h))⟩
      · rw [tko, if_neg e, if_neg b] at h
        have h' : x ∈ ([ofL [83]] ++ (tko s f).lvs) ++ (tko s a).lvs := h
        rcases List.mem_append.mp h' with q | q
        · rcases List.mem_append.mp q with q | q
          · rw [List.mem_singleton.mp q]
            exact ⟨fun z => hs.1 z.symm, .inr (.inl rfl)⟩
          · have ⟨i1, i2⟩ := tko_lvs s hs f x q
            exact ⟨i1, i2.imp (fun z => List.mem_append.mpr (.inl z)) id⟩
        · have ⟨i1, i2⟩ := tko_lvs s hs a x q
          exact ⟨i1, i2.imp (fun z => List.mem_append.mpr (.inr z)) id⟩
theorem tko_all (s : Str) : ∀ {w : Wd}, w.All Sg → (tko s w).All Sg
  | .lf y, h => by
    unfold tko
    by_cases e : y = s
    · rw [if_pos e]; exact ⟨73, rfl, by decide, by decide⟩
    · rw [if_neg e]; exact ⟨⟨75, rfl, by decide, by decide⟩, h⟩
  | .ap f a, h => by
    rw [tko]
    split
    · exact ⟨⟨75, rfl, by decide, by decide⟩, h⟩
    · split
      · exact h.1
      · exact ⟨⟨⟨83, rfl, by decide, by decide⟩, tko_all s h.1⟩, tko_all s h.2⟩
theorem tko_dep (s : Str) : ∀ w : Wd, (tko s w).dep ≤ 2 * w.dep + 1
  | .lf y => by
    unfold tko
    by_cases e : y = s
    · rw [if_pos e]; exact Nat.zero_le _
    · rw [if_neg e]; exact Nat.le_refl _
  | .ap f a => by
    have h1 := tko_dep s f
    have h2 := tko_dep s a
    rw [tko]
    show _ ≤ 2 * (max f.dep a.dep + 1) + 1
    split
    · show max 0 (max f.dep a.dep + 1) + 1 ≤ _; omega
    · split
      · omega
      · show max (max 0 (tko s f).dep + 1) (tko s a).dep + 1 ≤ _; omega
theorem tko_size (s : Str) : ∀ w : Wd, (tko s w).size ≤ 2 * w.size + (w.size - 1)
  | .lf y => by
    unfold tko
    by_cases e : y = s
    · rw [if_pos e]; show 1 ≤ 2 * 1 + 0; decide
    · rw [if_neg e]; show 2 ≤ 2 * 1 + 0; decide
  | .ap f a => by
    have h1 := tko_size s f
    have h2 := tko_size s a
    have p1 := f.size_pos
    have p2 := a.size_pos
    rw [tko]
    show _ ≤ 2 * (f.size + a.size) + (f.size + a.size - 1)
    split
    · show 1 + (f.size + a.size) ≤ _; omega
    · split
      · omega
      · show 1 + (tko s f).size + (tko s a).size ≤ _; omega
theorem bck_len (s : Str) : ∀ (w : Wd) (p : Pl), (bck s w p).length ≤ 2 * w.size - 1
  | .lf x, p => by show 1 ≤ 2 * 1 - 1; decide
  | .ap f a, p => by
    have h1 := bck_len s f (p ++ [true])
    have h2 := bck_len s a (p ++ [false])
    have p1 := f.size_pos
    have p2 := a.size_pos
    rw [bck]
    show _ ≤ 2 * (f.size + a.size) - 1
    split
    · show 1 ≤ _; omega
    · split
      · exact Nat.zero_le _
      · rw [List.length_cons, List.length_append]; omega
theorem bck_dep (s : Str) : ∀ (w : Wd) (p q : Pl), q ∈ bck s w p → q.length ≤ p.length + w.dep
  | .lf x, p, q, h => by rw [List.mem_singleton.mp h]; omega
  | .ap f a, p, q, h => by
    rw [bck] at h
    show q.length ≤ p.length + (max f.dep a.dep + 1)
    split at h
    · rw [List.mem_singleton.mp h]; omega
    · split at h
      · cases h
      · rcases List.mem_cons.mp h with rfl | h
        · omega
        · rcases List.mem_append.mp h with h | h
          · have := bck_dep s f _ q h
            rw [List.length_append, List.length_singleton] at this
            omega
          · have := bck_dep s a _ q h
            rw [List.length_append, List.length_singleton] at this
            omega
/-- all words on the way are small -/
def Sml (ms : List Mk) (N : Nat) : Wd → List Pl → Prop
  | w, [] => w.size ≤ N
  | w, p :: r => w.size ≤ N ∧ ∀ w', stp ms w p = some w' → Sml ms N w' r
theorem Sml.mono {ms : List Mk} {N M : Nat} (h : N ≤ M) : ∀ {ps : List Pl} {w : Wd}, Sml ms N w ps → Sml ms M w ps
  | [], w, q => Nat.le_trans q h
  | p :: r, w, q => ⟨Nat.le_trans q.1 h, fun w' e => Sml.mono h (q.2 w' e)⟩
theorem Sml.app {ms : List Mk} {N : Nat} {qs : List Pl} : ∀ {ps : List Pl} {w : Wd}, Sml ms N w ps → (∀ w', led ms w ps = some w' → Sml ms N w' qs) → Sml ms N w (ps ++ qs)
  | [], w, _, h => h w rfl
  | p :: r, w, q, h => ⟨q.1, fun w' e => Sml.app (q.2 w' e) fun w2 e2 => h w2 (by
    show (stp ms w p).bind (fun w' => led ms w' r) = some w2
    rw [e]; exact e2)⟩
theorem Sml.inT {ms : List Mk} {N : Nat} (x : Wd) : ∀ {ps : List Pl} {w : Wd}, Sml ms N w ps → Sml ms (N + x.size) (.ap w x) (ps.map (true :: ·))
  | [], w, q => by
    show w.size + x.size ≤ _
    have q' : w.size ≤ N := q
    omega
  | p :: r, w, q => by
    refine ⟨by show w.size + x.size ≤ _; have := q.1; omega, fun w' e => ?_⟩
    have e' : (stp ms w p).map (fun f' => Wd.ap f' x) = some w' := e
    cases z : stp ms w p with
    | none => rw [z] at e'; cases e'
    | some f' =>
      rw [z] at e'
      cases e'
      exact Sml.inT x (q.2 f' z)
theorem Sml.inF {ms : List Mk} {N : Nat} (x : Wd) : ∀ {ps : List Pl} {w : Wd}, Sml ms N w ps → Sml ms (x.size + N) (.ap x w) (ps.map (false :: ·))
  | [], w, q => by
    show x.size + w.size ≤ _
    have q' : w.size ≤ N := q
    omega
  | p :: r, w, q => by
    refine ⟨by show x.size + w.size ≤ _; have := q.1; omega, fun w' e => ?_⟩
    have e' : (stp ms w p).map (fun f' => Wd.ap x f') = some w' := e
    cases z : stp ms w p with
    | none => rw [z] at e'; cases e'
    | some f' =>
      rw [z] at e'
      cases e'
      exact Sml.inF x (q.2 f' z)
theorem put_le (s : Str) (t : Wd) : ∀ w : Wd, (put s t w).size ≤ t.size * w.size
  | .lf x => by
    have := t.size_pos
    unfold put
    by_cases q : x = s
    · rw [if_pos q]; show t.size ≤ t.size * 1; omega
    · rw [if_neg q]; show 1 ≤ t.size * 1; omega
  | .ap f a => by
    have h1 := put_le s t f
    have h2 := put_le s t a
    show _ + _ ≤ t.size * (f.size + a.size)
    rw [Nat.mul_add]
    omega
theorem out_small {ms : List Mk} (h : Ski ms) (s : Str) (t : Wd) : ∀ w : Wd, Sml ms ((3 + t.size) * w.size) (.ap (tko s w) t) (bck s w [])
  | .lf x => by
    have e : tko s (.lf x) = if x = s then cI else .ap cK (.lf x) := rfl
    rw [e]
    refine ⟨?_, fun w' q => ?_⟩
    · split
      · show 1 + t.size ≤ (3 + t.size) * 1; omega
      · show 2 + t.size ≤ (3 + t.size) * 1; omega
    · show w'.size ≤ (3 + t.size) * 1
      split at q
      · rw [can_I h] at q; cases q; omega
      · rw [can_K h] at q; cases q; show 1 ≤ _; omega
  | .ap f a => by
    have i1 := out_small h s t f
    have i2 := out_small h s t a
    have z1 := tko_size s f
    have z2 := tko_size s a
    have p1 := f.size_pos
    have p2 := a.size_pos
    have pt := t.size_pos
    have eN : (3 + t.size) * (Wd.ap f a).size = (3 + t.size) * f.size + (3 + t.size) * a.size := by
      show (3 + t.size) * (f.size + a.size) = _
      rw [Nat.mul_add]
    have m1 : (3 + t.size) * f.size = 3 * f.size + t.size * f.size := Nat.add_mul _ _ _
    have m2 : (3 + t.size) * a.size = 3 * a.size + t.size * a.size := Nat.add_mul _ _ _
    have n1 : t.size ≤ t.size * f.size := Nat.le_mul_of_pos_right _ p1
    have n2 : t.size ≤ t.size * a.size := Nat.le_mul_of_pos_right _ p2
    rw [eN]
    by_cases e : s ∉ (Wd.ap f a).lvs
    · have et : tko s (.ap f a) = .ap cK (.ap f a) := by rw [tko, if_pos e]
      have eb : bck s (.ap f a) [] = [[]] := by rw [bck, if_pos e]
      rw [et, eb]
      refine ⟨by show 1 + (f.size + a.size) + t.size ≤ _; omega, fun w' q => ?_⟩
      rw [can_K h] at q
      cases q
      show f.size + a.size ≤ _
      omega
    · by_cases b : behB s (.ap f a) = true
      · have et : tko s (.ap f a) = f := by rw [tko, if_neg e, if_pos b]
        have eb : bck s (.ap f a) [] = [] := by rw [bck, if_neg e, if_pos b]
        rw [et, eb]
        show f.size + t.size ≤ _
        omega
      · have et : tko s (.ap f a) = .ap (.ap cS (tko s f)) (tko s a) := by rw [tko, if_neg e, if_neg b]
        have eb : bck s (.ap f a) [] = [] :: (bck s f [true] ++ bck s a [false]) := by rw [bck, if_neg e, if_neg b]; rfl
        rw [et, eb]
        refine ⟨by show 1 + (tko s f).size + (tko s a).size + t.size ≤ _; omega, fun w' q => ?_⟩
        rw [can_S h] at q
        cases q
        rw [bck_cons, bck_cons]
        refine Sml.app ((Sml.inT (.ap (tko s a) t) i1).mono ?_) fun w' q => ?_
        · show (3 + t.size) * f.size + ((tko s a).size + t.size) ≤ _
          omega
        · have j1 := led_in ms true (.ap (tko s a) t) (bck s f []) (.ap (tko s f) t)
          rw [out_led h s t f] at j1
          have j1' : led ms (.ap (.ap (tko s f) t) (.ap (tko s a) t)) ((bck s f []).map (true :: ·)) = some (.ap (put s t f) (.ap (tko s a) t)) := j1
          rw [j1'] at q
          cases q
          refine (Sml.inF (put s t f) i2).mono ?_
          have := put_le s t f
          omega
end MW

set_option maxRecDepth 100000
/-! Part 9: texts of words. -/
namespace MW
open PySem PySem.Spec PyProof.Rows L2
open Res
def isAp : Wd → Bool
  | .ap _ _ => true
  | .lf _ => false
def txt : Wd → List Nat
  | .lf s => s.cps.toList
  | .ap f a => txt f ++ (if isAp a = true then 40 :: (txt a ++ [41]) else txt a)
/-- what is found, with its depth, and one more part behind it -/
def addP (fo : Option (Wd × Nat)) (p : Wd) (i : Nat) : Wd × Nat := match fo with
  | none => (p, i)
  | some (f, d) => (.ap f p, max d i + 1)
/-- the loop of the reading, at the rest of the text; none: it is refused -/
def lop : Nat → Nat → Option (Wd × Nat) → List Nat → Option (Option (Wd × Nat) × List Nat)
  | 0, _, _, _ => none
  | _ + 1, _, fo, [] => some (fo, [])
  | n + 1, br, fo, c :: r =>
    if c = 41 then some (fo, c :: r)
    else if c = 40 then
      (if 60 < br + 1 then none else match lop n (br + 1) none r with
        | some (some (p, i), d :: r') => if d = 41 then (if 60 < (addP fo p i).2 then none else lop n br (some (addP fo p i)) r') else none
        | _ => none)
    else if 60 < (addP fo (.lf (ofL [c])) 0).2 then none else lop n br (some (addP fo (.lf (ofL [c])) 0)) r
theorem lop_len : ∀ (n br : Nat) (fo fo' : Option (Wd × Nat)) (r r' : List Nat), lop n br fo r = some (fo', r') → r'.length ≤ r.length
  | 0, br, fo, fo', r, r', h => by cases h
  | n + 1, br, fo, fo', [], r', h => by
    unfold lop at h
    cases h; exact Nat.le_refl _
  | n + 1, br, fo, fo', c :: r, r', h => by
    unfold lop at h
    split at h
    · cases h; exact Nat.le_refl _
    · split at h
      · split at h
        · cases h
        · split at h
          · rename_i p i d r2 q
            split at h
            · split at h
              · cases h
              · have h1 := lop_len n _ _ _ _ _ q
                have h2 := lop_len n _ _ _ _ _ h
                rw [List.length_cons] at h1 ⊢
                omega
            · cases h
          · cases h
      · split at h
        · cases h
        · have h2 := lop_len n _ _ _ _ _ h
          rw [List.length_cons]
          omega
theorem lop_fuel : ∀ (n m br : Nat) (fo : Option (Wd × Nat)) (r : List Nat), r.length < n → r.length < m → lop n br fo r = lop m br fo r
  | 0, m, br, fo, r, h, _ => absurd h (Nat.not_lt_zero _)
  | n + 1, 0, br, fo, r, _, h => absurd h (Nat.not_lt_zero _)
  | n + 1, m + 1, br, fo, [], _, _ => by unfold lop; rfl
  | n + 1, m + 1, br, fo, c :: r, h1, h2 => by
    rw [List.length_cons] at h1 h2
    have e1 := lop_fuel n m (br + 1) none r (by omega) (by omega)
    have e2 := fun fo => lop_fuel n m br fo r (by omega) (by omega)
    unfold lop
    rw [e1, e2]
    split
    · rfl
    · split
      · split
        · rfl
        · split
          · rename_i p i d r2 q
            have l := lop_len m _ _ _ _ _ q
            rw [List.length_cons] at l
            rw [lop_fuel n m br (some (addP fo p i)) r2 (by omega) (by omega)]
          · rfl
      · rfl
def lopL (br : Nat) (fo : Option (Wd × Nat)) (r : List Nat) : Option (Option (Wd × Nat) × List Nat) := lop (r.length + 1) br fo r
theorem lopL_nil (br : Nat) (fo : Option (Wd × Nat)) : lopL br fo [] = some (fo, []) := rfl
theorem lopL_shut (br : Nat) (fo : Option (Wd × Nat)) (r : List Nat) : lopL br fo (41 :: r) = some (fo, 41 :: r) := by
  unfold lopL lop
  rw [if_pos rfl]
theorem lopL_lf (br : Nat) (fo : Option (Wd × Nat)) (c : Nat) (r : List Nat) (h1 : c ≠ 41) (h2 : c ≠ 40) : lopL br fo (c :: r) = if 60 < (addP fo (.lf (ofL [c])) 0).2 then none else lopL br (some (addP fo (.lf (ofL [c])) 0)) r := by
  unfold lopL
  rw [lop, if_neg h1, if_neg h2, List.length_cons]
theorem lopL_open (br : Nat) (fo : Option (Wd × Nat)) (r : List Nat) : lopL br fo (40 :: r) = if 60 < br + 1 then none else match lopL (br + 1) none r with
    | some (some (p, i), d :: r') => if d = 41 then (if 60 < (addP fo p i).2 then none else lopL br (some (addP fo p i)) r') else none
    | _ => none := by
  unfold lopL
  rw [lop, if_neg (by decide), if_pos rfl]
  split
  · rfl
  · rw [List.length_cons]
    split
    · rename_i p i d r2 q
      have l := lop_len _ _ _ _ _ _ q
      rw [List.length_cons] at l
      rw [lop_fuel _ (r2.length + 1) br (some (addP fo p i)) r2 (by omega) (by omega)]
    · rfl
/-- a leaf is one sign, no bracket -/
def Nb (s : Str) : Prop := ∃ c, s = ofL [c] ∧ c ≠ 40 ∧ c ≠ 41
theorem lop_txt : ∀ (w : Wd) (br : Nat) (r : List Nat), w.All Nb → br + w.dep ≤ 60 → lopL br none (txt w ++ r) = lopL br (some (w, w.dep)) r
  | .lf s, br, r, hw, hd => by
    obtain ⟨c, rfl, h1, h2⟩ := hw
    show lopL br none (c :: r) = _
    rw [lopL_lf br none c r h2 h1]
    rfl
  | .ap f a, br, r, hw, hd => by
    have hd' : br + (max f.dep a.dep + 1) ≤ 60 := hd
    have e : txt (.ap f a) ++ r = txt f ++ ((if isAp a = true then 40 :: (txt a ++ [41]) else txt a) ++ r) := List.append_assoc _ _ _
    rw [e, lop_txt f br _ hw.1 (by omega)]
    cases a with
    | lf s =>
      obtain ⟨c, rfl, h1, h2⟩ := hw.2
      show lopL br (some (f, f.dep)) (c :: r) = _
      rw [lopL_lf br _ c r h2 h1]
      have q : (addP (some (f, f.dep)) (.lf (ofL [c])) 0) = (Wd.ap f (.lf (ofL [c])), (Wd.ap f (.lf (ofL [c]))).dep) := rfl
      rw [q, if_neg (show ¬ 60 < (Wd.ap f (.lf (ofL [c]))).dep by
        show ¬ 60 < max f.dep (Wd.lf (ofL [c])).dep + 1
        omega)]
    | ap x y =>
      have e2 : (if isAp (.ap x y) = true then 40 :: (txt (.ap x y) ++ [41]) else txt (.ap x y)) ++ r = 40 :: (txt (.ap x y) ++ (41 :: r)) := by
        show 40 :: (txt (.ap x y) ++ [41]) ++ r = _
        rw [List.cons_append, List.append_assoc]; rfl
      rw [e2, lopL_open, if_neg (by omega), lop_txt (.ap x y) (br + 1) (41 :: r) hw.2 (by omega), lopL_shut]
      dsimp only
      rw [if_pos rfl]
      have q : (addP (some (f, f.dep)) (.ap x y) (Wd.ap x y).dep) = (Wd.ap f (.ap x y), (Wd.ap f (.ap x y)).dep) := rfl
      rw [q, if_neg (show ¬ 60 < (Wd.ap f (.ap x y)).dep by
        show ¬ 60 < max f.dep (Wd.ap x y).dep + 1
        omega)]
/-! ### what texts look like -/
theorem txt_head : ∀ {w : Wd}, w.All Nb → ∃ c r, txt w = c :: r ∧ c ≠ 40 ∧ c ≠ 41
  | .lf s, h => by
    obtain ⟨c, rfl, h1, h2⟩ := h
    exact ⟨c, [], rfl, h1, h2⟩
  | .ap f a, h => by
    obtain ⟨c, r, e, h1, h2⟩ := txt_head h.1
    exact ⟨c, r ++ _, by show txt f ++ _ = _; rw [e]; rfl, h1, h2⟩
theorem txt_last : ∀ {w : Wd}, w.All Nb → ∃ c r, txt w = r ++ [c] ∧ c ≠ 40 ∧ (isAp w = false → c ≠ 41)
  | .lf s, h => by
    obtain ⟨c, rfl, h1, h2⟩ := h
    exact ⟨c, [], rfl, h1, fun _ => h2⟩
  | .ap f (.lf s), h => by
    obtain ⟨c, rfl, h1, h2⟩ := h.2
    exact ⟨c, txt f, rfl, h1, fun q => by cases q⟩
  | .ap f (.ap x y), h => ⟨41, txt f ++ 40 :: txt (.ap x y), by
      show txt f ++ 40 :: (txt (.ap x y) ++ [41]) = _
      rw [List.append_assoc]; rfl, by decide, fun q => by cases q⟩
theorem txt_bal : ∀ {w : Wd}, w.All Nb → (txt w).count 40 = (txt w).count 41
  | .lf s, h => by
    obtain ⟨c, rfl, h1, h2⟩ := h
    show [c].count 40 = [c].count 41
    rw [List.count_cons, List.count_cons, List.count_nil, List.count_nil, if_neg (by simpa using h1), if_neg (by simpa using h2)]
  | .ap f a, h => by
    have h1 := txt_bal h.1
    have h2 := txt_bal h.2
    unfold txt
    rw [List.count_append, List.count_append, h1]
    split
    · rw [List.count_cons, List.count_cons, List.count_append, List.count_append, h2]
      simp
    · rw [h2]
theorem txt_mem : ∀ {w : Wd}, w.All Nb → ∀ c ∈ txt w, c = 40 ∨ c = 41 ∨ ofL [c] ∈ w.lvs
  | .lf s, h, c, hc => by
    obtain ⟨d, rfl, h1, h2⟩ := h
    rw [show txt (.lf (ofL [d])) = [d] from rfl, List.mem_singleton] at hc
    subst hc
    exact .inr (.inr List.mem_cons_self)
  | .ap f a, h, c, hc => by
    unfold txt at hc
    rcases List.mem_append.mp hc with q | q
    · rcases txt_mem h.1 c q with z | z | z
      · exact .inl z
      · exact .inr (.inl z)
      · exact .inr (.inr (List.mem_append_left _ z))
    · have key : c ∈ txt a → c = 40 ∨ c = 41 ∨ ofL [c] ∈ (Wd.ap f a).lvs := fun q => by
        rcases txt_mem h.2 c q with z | z | z
        · exact .inl z
        · exact .inr (.inl z)
        · exact .inr (.inr (List.mem_append_right _ z))
      split at q
      · rcases List.mem_cons.mp q with z | z
        · exact .inl z
        · rcases List.mem_append.mp z with z | z
          · exact key z
          · exact .inr (.inl (List.mem_singleton.mp z))
      · exact key q
theorem txt_signs : ∀ {w : Wd}, w.All Nb → ((txt w).filter fun c => !(c == 40 || c == 41)).map (fun c => ofL [c]) = w.lvs
  | .lf s, h => by
    obtain ⟨c, rfl, h1, h2⟩ := h
    show (([c].filter _).map _) = [ofL [c]]
    rw [List.filter_cons_of_pos (by simp [h1, h2])]; rfl
  | .ap f a, h => by
    have h1 := txt_signs h.1
    have h2 := txt_signs h.2
    unfold txt
    rw [List.filter_append, List.map_append, h1]
    show _ = f.lvs ++ a.lvs
    congr 1
    split
    · rw [List.filter_cons_of_neg (by decide), List.filter_append, List.map_append, h2, List.filter_cons_of_neg (by decide)]
      simp
    · exact h2
theorem snoc_inj {α : Type} {a b : List α} {c d : α} (h : a ++ [c] = b ++ [d]) : a = b ∧ c = d := by
  have := List.append_inj' h rfl
  exact ⟨this.1, List.singleton_inj.mp this.2⟩
theorem txt_pair (f x y : Wd) : txt (.ap f (.ap x y)) = (txt f ++ 40 :: txt (.ap x y)) ++ [41] := by
  show txt f ++ 40 :: (txt (.ap x y) ++ [41]) = _
  rw [List.append_assoc]; rfl
theorem txt_no2 : ∀ {w : Wd}, w.All Nb → ∀ u : List Nat, txt w ≠ u ++ [40, 41]
  | .lf s, h, u, e => by
    obtain ⟨c, rfl, h1, h2⟩ := h
    have l := congrArg List.length e
    rw [show txt (.lf (ofL [c])) = [c] from rfl, List.length_append] at l
    simp at l
  | .ap f (.lf s), h, u, e => by
    obtain ⟨c, rfl, h1, h2⟩ := h.2
    have e' : txt f ++ [c] = (u ++ [40]) ++ [41] := by rw [List.append_assoc]; exact e
    exact h2 (snoc_inj e').2
  | .ap f (.ap x y), h, u, e => by
    obtain ⟨c, r, q, h1, _⟩ := txt_last h.2
    have e' : (txt f ++ 40 :: txt (.ap x y)) ++ [41] = (u ++ [40]) ++ [41] := by
      rw [← txt_pair, List.append_assoc]; exact e
    have e2 := (snoc_inj e').1
    rw [q] at e2
    have e3 : (txt f ++ 40 :: r) ++ [c] = u ++ [40] := by rw [List.append_assoc]; exact e2
    exact h1 (snoc_inj e3).2
theorem txt_no3 : ∀ {w : Wd}, w.All Nb → ∀ (u : List Nat) (d : Nat), d ≠ 41 → txt w ≠ u ++ [40, d, 41]
  | .lf s, h, u, d, hd, e => by
    obtain ⟨c, rfl, h1, h2⟩ := h
    have l := congrArg List.length e
    rw [show txt (.lf (ofL [c])) = [c] from rfl, List.length_append] at l
    simp at l
  | .ap f (.lf s), h, u, d, hd, e => by
    obtain ⟨c, rfl, h1, h2⟩ := h.2
    have e' : txt f ++ [c] = (u ++ [40, d]) ++ [41] := by rw [List.append_assoc]; exact e
    exact h2 (snoc_inj e').2
  | .ap f (.ap x (.lf s)), h, u, d, hd, e => by
    obtain ⟨c, rfl, h1, h2⟩ := h.2.2
    obtain ⟨b, r, q, h3, _⟩ := txt_last h.2.1
    have e' : (txt f ++ 40 :: txt (.ap x (.lf (ofL [c])))) ++ [41] = (u ++ [40, d]) ++ [41] := by
      rw [← txt_pair, List.append_assoc]; exact e
    have e2 : txt f ++ 40 :: (txt x ++ [c]) = u ++ [40, d] := (snoc_inj e').1
    have e3 : (txt f ++ 40 :: txt x) ++ [c] = (u ++ [40]) ++ [d] := by rw [List.append_assoc, List.append_assoc]; exact e2
    have e4 := (snoc_inj e3).1
    rw [q] at e4
    have e5 : (txt f ++ 40 :: r) ++ [b] = u ++ [40] := by rw [List.append_assoc]; exact e4
    exact h3 (snoc_inj e5).2
  | .ap f (.ap x (.ap y z)), h, u, d, hd, e => by
    have e' : (txt f ++ 40 :: txt (.ap x (.ap y z))) ++ [41] = (u ++ [40, d]) ++ [41] := by
      rw [← txt_pair, List.append_assoc]; exact e
    have e2 : txt f ++ 40 :: txt (.ap x (.ap y z)) = u ++ [40, d] := (snoc_inj e').1
    rw [txt_pair] at e2
    have e3 : (txt f ++ 40 :: (txt x ++ 40 :: txt (.ap y z))) ++ [41] = (u ++ [40]) ++ [d] := by rw [List.append_assoc, List.append_assoc]; exact e2
    exact hd (snoc_inj e3).2.symm
/-- two opening brackets, one at another -/
def twoO : List Nat → Bool
  | [] => false
  | c :: r => (c == 40 && r.head? == some 40) || twoO r
theorem twoO_app : ∀ a b : List Nat, twoO (a ++ b) = (twoO a || twoO b || (a.getLast? == some 40 && b.head? == some 40))
  | [], b => by simp [twoO]
  | [c], b => by
    show ((c == 40 && b.head? == some 40) || twoO b) = _
    simp only [twoO, List.head?_nil, List.getLast?_singleton]
    rw [show ((none : Option Nat) == some 40) = false from rfl, Bool.and_false, Bool.or_false, Bool.false_or, Bool.or_comm]
    rfl
  | c :: d :: r, b => by
    have ih := twoO_app (d :: r) b
    show ((c == 40 && (some d == some 40)) || twoO (d :: r ++ b)) = (((c == 40 && (some d == some 40)) || twoO (d :: r)) || twoO b || ((c :: d :: r).getLast? == some 40 && b.head? == some 40))
    rw [ih, List.getLast?_cons_cons, Bool.or_assoc, Bool.or_assoc, Bool.or_assoc]
theorem txt_two : ∀ {w : Wd}, w.All Nb → twoO (txt w) = false
  | .lf s, h => by
    obtain ⟨c, rfl, h1, h2⟩ := h
    show ((c == 40 && (none == some 40)) || false) = false
    simp
  | .ap f (.lf s), h => by
    obtain ⟨c, rfl, h1, h2⟩ := h.2
    show twoO (txt f ++ [c]) = false
    rw [twoO_app, txt_two h.1]
    simp [twoO, h1]
  | .ap f (.ap x y), h => by
    obtain ⟨c, r, q, h1, _⟩ := txt_last h.1
    obtain ⟨b, r2, q2, h2, _⟩ := txt_head h.2
    show twoO (txt f ++ 40 :: (txt (.ap x y) ++ [41])) = false
    have l : (txt f).getLast? = some c := by rw [q, List.getLast?_concat]
    have i2 : twoO (txt (.ap x y) ++ [41]) = false := by
      rw [twoO_app, txt_two h.2]
      simp [twoO]
    rw [twoO_app, txt_two h.1, l]
    unfold twoO
    rw [i2, q2]
    simp [h1, h2]
/-! ### reading -/
def gdB (ms : List Mk) (s : Str) : Bool := (s.cps.toList.length == 1 && s.cps.toList.all fun c => decide (97 ≤ c ∧ c ≤ 122)) || decide (s ∈ ms.map Mk.nm)
def isWd (ms : List Mk) (w : Wd) : Bool := w.lvs.all (gdB ms) && decide (w.size ≤ 60)
def rd (ms : List Mk) (t : List Nat) : Option Wd := match lopL 0 none t with
  | some (some (w, _), []) => if (isWd ms w && decide (txt w = t)) = true then some w else none
  | _ => none
theorem all_lvs {P : Str → Prop} : ∀ {w : Wd}, (∀ s ∈ w.lvs, P s) → w.All P
  | .lf s, h => h s List.mem_cons_self
  | .ap f a, h => ⟨all_lvs fun s q => h s (List.mem_append_left _ q), all_lvs fun s q => h s (List.mem_append_right _ q)⟩
theorem gd_nb {ms : List Mk} (hm : ∀ m ∈ ms, MkOk m) {s : Str} (h : gdB ms s = true) : Nb s := by
  unfold gdB at h
  rw [Bool.or_eq_true] at h
  rcases h with h | h
  · rw [Bool.and_eq_true] at h
    have h1 : s.cps.toList.length = 1 := beq_iff_eq.mp h.1
    obtain ⟨c, e⟩ := List.length_eq_one_iff.mp h1
    have h2 := List.all_eq_true.mp h.2 c (by rw [e]; exact List.mem_cons_self)
    have h3 := of_decide_eq_true h2
    refine ⟨c, ?_, by omega, by omega⟩
    rw [← ofL_of s, e]
  · obtain ⟨m, h1, rfl⟩ := List.mem_map.mp (of_decide_eq_true h)
    obtain ⟨c, e, h2, h3⟩ := (hm m h1).nm
    exact ⟨c, e, by omega, by omega⟩
theorem isWd_nb {ms : List Mk} (hm : ∀ m ∈ ms, MkOk m) {w : Wd} (h : isWd ms w = true) : w.All Nb := by
  unfold isWd at h
  rw [Bool.and_eq_true] at h
  exact all_lvs fun s q => gd_nb hm (List.all_eq_true.mp h.1 s q)
theorem rd_txt {ms : List Mk} (hm : ∀ m ∈ ms, MkOk m) {w : Wd} (h : isWd ms w = true) (hd : w.dep ≤ 60) : rd ms (txt w) = some w := by
  have e := lop_txt w 0 [] (isWd_nb hm h) (by omega)
  rw [List.append_nil, lopL_nil] at e
  unfold rd
  rw [e]
  dsimp only
  rw [h, decide_eq_true rfl]
  rfl
theorem rd_some {ms : List Mk} {t : List Nat} {w : Wd} (h : rd ms t = some w) : isWd ms w = true ∧ txt w = t := by
  unfold rd at h
  split at h
  · split at h
    · rename_i q
      cases h
      rw [Bool.and_eq_true] at q
      exact ⟨q.1, of_decide_eq_true q.2⟩
    · cases h
  · cases h
theorem rd_none {ms : List Mk} (hm : ∀ m ∈ ms, MkOk m) {t : List Nat} (h : ∀ w : Wd, isWd ms w = true → w.All Nb → txt w ≠ t) : rd ms t = none := by
  cases q : rd ms t with
  | none => rfl
  | some w =>
    obtain ⟨a, b⟩ := rd_some q
    exact absurd b (h w a (isWd_nb hm a))
end MW

set_option maxRecDepth 100000
/-! Part 4k: steps one behind the other, the innermost first; sets of places. -/
namespace MW
open PySem PySem.Spec PyProof.Rows L2
open Res
def seqS (ms : List Mk) : Wd → List Pl → Option Wd
  | w, [] => some w
  | w, p :: r => (stp ms w p).bind fun w' => seqS ms w' r
theorem seq_app (ms : List Mk) : ∀ (L M : List Pl) (w : Wd), seqS ms w (L ++ M) = (seqS ms w L).bind fun w' => seqS ms w' M
  | [], M, w => rfl
  | p :: r, M, w => by
    show (stp ms w p).bind (fun w' => seqS ms w' (r ++ M)) = ((stp ms w p).bind fun w' => seqS ms w' r).bind _
    cases stp ms w p with
    | none => rfl
    | some w' => exact seq_app ms r M w'
theorem undr_cons (b c : Bool) (p : Pl) (r : List Pl) : undr b ((c :: p) :: r) = if c = b then p :: undr b r else undr b r := by
  unfold undr
  rw [List.filter_cons]
  by_cases h : c = b
  · subst h
    rw [if_pos rfl, if_pos (by simp)]; rfl
  · rw [if_neg h, if_neg (by simp [h])]
theorem undr_app (b : Bool) (L M : List Pl) : undr b (L ++ M) = undr b L ++ undr b M := by
  unfold undr
  rw [List.filter_append, List.map_append]
theorem undr_end (b : Bool) (L : List Pl) : undr b (L ++ [[]]) = undr b L := by
  rw [undr_app]
  show undr b L ++ [] = _
  rw [List.append_nil]
theorem undr_front (b : Bool) (L : List Pl) : undr b ([] :: L) = undr b L := rfl
theorem seq_ap (ms : List Mk) : ∀ (L : List Pl) {f a f' a' : Wd}, [] ∉ L → seqS ms f (undr true L) = some f' → seqS ms a (undr false L) = some a' → seqS ms (.ap f a) L = some (.ap f' a')
  | [], f, a, f', a', _, h1, h2 => by cases h1; cases h2; rfl
  | [] :: r, f, a, f', a', hn, h1, h2 => absurd List.mem_cons_self hn
  | (true :: p) :: r, f, a, f', a', hn, h1, h2 => by
    rw [undr_cons, if_pos rfl] at h1
    rw [undr_cons, if_neg (by decide)] at h2
    have h1' : (stp ms f p).bind (fun w' => seqS ms w' (undr true r)) = some f' := h1
    cases q : stp ms f p with
    | none => rw [q] at h1'; cases h1'
    | some f1 =>
      rw [q] at h1'
      show ((stp ms f p).map fun f' => Wd.ap f' a).bind _ = _
      rw [q]
      exact seq_ap ms r (fun h => hn (List.mem_cons_of_mem _ h)) h1' h2
  | (false :: p) :: r, f, a, f', a', hn, h1, h2 => by
    rw [undr_cons, if_neg (by decide)] at h1
    rw [undr_cons, if_pos rfl] at h2
    have h2' : (stp ms a p).bind (fun w' => seqS ms w' (undr false r)) = some a' := h2
    cases q : stp ms a p with
    | none => rw [q] at h2'; cases h2'
    | some f1 =>
      rw [q] at h2'
      show ((stp ms a p).map fun f' => Wd.ap f f').bind _ = _
      rw [q]
      exact seq_ap ms r (fun h => hn (List.mem_cons_of_mem _ h)) h1 h2'
def Down (L : List Pl) : Prop := L.Pairwise fun p q => q.length ≤ p.length
theorem down_undr {b : Bool} : ∀ {L : List Pl}, Down L → Down (undr b L)
  | [], _ => List.Pairwise.nil
  | [] :: r, h => down_undr (L := r) (List.pairwise_cons.mp h).2
  | (c :: p) :: r, h => by
    obtain ⟨h1, h2⟩ := List.pairwise_cons.mp h
    rw [undr_cons]
    split
    · rename_i e
      subst e
      refine List.pairwise_cons.mpr ⟨fun q hq => ?_, down_undr h2⟩
      have := h1 _ (mem_undr.mp hq)
      simpa using this
    · exact down_undr h2
theorem nodup_undr {b : Bool} : ∀ {L : List Pl}, L.Nodup → (undr b L).Nodup
  | [], _ => List.nodup_nil
  | [] :: r, h => nodup_undr (L := r) (List.nodup_cons.mp h).2
  | (c :: p) :: r, h => by
    obtain ⟨h1, h2⟩ := List.nodup_cons.mp h
    rw [undr_cons]
    split
    · rename_i e
      subst e
      exact List.nodup_cons.mpr ⟨fun q => h1 (mem_undr.mp q), nodup_undr h2⟩
    · exact nodup_undr h2
theorem down_last : ∀ {L : List Pl}, L.Nodup → Down L → [] ∈ L → ∃ M, L = M ++ [[]] ∧ [] ∉ M
  | p :: r, nd, dn, h => by
    obtain ⟨n1, n2⟩ := List.nodup_cons.mp nd
    obtain ⟨d1, d2⟩ := List.pairwise_cons.mp dn
    by_cases e : p = []
    · subst e
      cases r with
      | nil => exact ⟨[], rfl, by simp⟩
      | cons q t =>
        have := d1 q List.mem_cons_self
        have e : q = [] := List.eq_nil_of_length_eq_zero (by simpa using this)
        exact absurd (e ▸ List.mem_cons_self) n1
    · rcases List.mem_cons.mp h with z | z
      · exact absurd z.symm e
      · obtain ⟨M, e1, e2⟩ := down_last n2 d2 z
        exact ⟨p :: M, by rw [e1]; rfl, fun q => by
          rcases List.mem_cons.mp q with q | q
          · exact e q.symm
          · exact e2 q⟩
theorem seq_onc {ms : List Mk} (hm : MsOk ms) : ∀ (w : Wd) (L : List Pl), L.Nodup → Down L → (∀ p ∈ L, p ∈ plcs ms w) → seqS ms w L = onc ms w L
  | .lf s, L, nd, dn, hp => by
    have e : L = [] := by
      cases L with
      | nil => rfl
      | cons p r =>
        have := hp p List.mem_cons_self
        unfold plcs own at this
        rw [can_lf hm] at this
        cases this
    subst e
    rfl
  | .ap f a, L, nd, dn, hp => by
    have p1 : ∀ p ∈ undr true L, p ∈ plcs ms f := fun p h => by
      have := plcs_ap.mp (hp _ (mem_undr.mp h))
      exact this
    have p2 : ∀ p ∈ undr false L, p ∈ plcs ms a := fun p h => by
      have := plcs_ap.mp (hp _ (mem_undr.mp h))
      exact this
    obtain ⟨f', o1⟩ := onc_some p1
    obtain ⟨a', o2⟩ := onc_some p2
    have i1 := (seq_onc hm f _ (nodup_undr nd) (down_undr dn) p1).trans o1
    have i2 := (seq_onc hm a _ (nodup_undr nd) (down_undr dn) p2).trans o2
    rw [onc_ap o1 o2]
    by_cases h : [] ∈ L
    · obtain ⟨M, rfl, hM⟩ := down_last nd dn h
      rw [undr_end] at i1 i2
      rw [if_pos h, seq_app, seq_ap ms M hM i1 i2]
      show (stp ms (.ap f' a') []).bind (fun w' => some w') = _
      rw [stp_nil]
      cases can ms (.ap f' a') <;> rfl
    · rw [if_neg h, seq_ap ms L h i1 i2]
/-- what steps at once lead to is what some places lead to -/
theorem par_onc {ms : List Mk} {v u : Wd} (h : Par ms v u) : ∃ S, (∀ p ∈ S, p ∈ plcs ms v) ∧ onc ms v S = some u := by
  have both : ∀ {f a : Wd} {S1 S2 : List Pl}, (∀ p ∈ S1, p ∈ plcs ms f) → (∀ p ∈ S2, p ∈ plcs ms a) → ∀ p ∈ S1.map (true :: ·) ++ S2.map (false :: ·), p ∈ plcs ms (.ap f a) := fun {f a S1 S2} h1 h2 p hp => by
    rcases List.mem_append.mp hp with q | q
    · obtain ⟨r, hr, rfl⟩ := List.mem_map.mp q
      exact plcs_ap.mpr (h1 r hr)
    · obtain ⟨r, hr, rfl⟩ := List.mem_map.mp q
      exact plcs_ap.mpr (h2 r hr)
  have u1 : ∀ S1 S2 : List Pl, undr true (S1.map (true :: ·) ++ S2.map (false :: ·)) = S1 := fun S1 S2 => by
    rw [undr_app, undr_map, undr_map, if_pos rfl, if_neg (by decide), List.append_nil]
  have u2 : ∀ S1 S2 : List Pl, undr false (S1.map (true :: ·) ++ S2.map (false :: ·)) = S2 := fun S1 S2 => by
    rw [undr_app, undr_map, undr_map, if_neg (by decide), if_pos rfl]; rfl
  have nn : ∀ S1 S2 : List Pl, [] ∉ S1.map (true :: ·) ++ S2.map (false :: ·) := fun S1 S2 q => by
    rcases List.mem_append.mp q with q | q
    · obtain ⟨r, _, e⟩ := List.mem_map.mp q
      cases e
    · obtain ⟨r, _, e⟩ := List.mem_map.mp q
      cases e
  induction h with
  | lf s => exact ⟨[], fun p hp => by (cases hp), rfl⟩
  | @ap f f' a a' h1 h2 i1 i2 =>
    obtain ⟨S1, p1, o1⟩ := i1
    obtain ⟨S2, p2, o2⟩ := i2
    refine ⟨S1.map (true :: ·) ++ S2.map (false :: ·), both p1 p2, ?_⟩
    rw [onc_ap (by rw [u1]; exact o1) (by rw [u2]; exact o2), if_neg (nn S1 S2)]
  | @act f f' a a' m h1 h2 hc i1 i2 =>
    obtain ⟨S1, p1, o1⟩ := i1
    obtain ⟨S2, p2, o2⟩ := i2
    refine ⟨[] :: (S1.map (true :: ·) ++ S2.map (false :: ·)), fun p hp => ?_, ?_⟩
    · rcases List.mem_cons.mp hp with rfl | hp
      · exact plcs_nil.mpr (by rw [hc]; rfl)
      · exact both p1 p2 p hp
    · rw [onc_ap (f' := f') (a' := a') (by rw [undr_front, u1]; exact o1) (by rw [undr_front, u2]; exact o2), if_pos List.mem_cons_self]
      obtain ⟨q, _⟩ := par_can hc h1 h2
      rw [q]; rfl
theorem dev_ap (ms : List Mk) (f a : Wd) : dev ms (.ap f a) = match can ms (.ap f a) with
    | some m => m.deed.act ((dev ms f).args ++ [dev ms a])
    | none => .ap (dev ms f) (dev ms a) := rfl
theorem onc_dev {ms : List Mk} (hm : ∀ m ∈ ms, MkOk m) : ∀ w : Wd, onc ms w (plcs ms w) = some (dev ms w)
  | .lf s => rfl
  | .ap f a => by
    have h1 := onc_dev hm f
    have h2 := onc_dev hm a
    have q1 : onc ms f (undr true (plcs ms (.ap f a))) = some (dev ms f) := by
      rw [← h1]
      exact onc_congr ms f fun p => by rw [mem_undr, plcs_ap]; exact Iff.rfl
    have q2 : onc ms a (undr false (plcs ms (.ap f a))) = some (dev ms a) := by
      rw [← h2]
      exact onc_congr ms a fun p => by rw [mem_undr, plcs_ap]; exact Iff.rfl
    rw [onc_ap q1 q2, dev_ap]
    cases q : can ms (.ap f a) with
    | none =>
      rw [if_neg]
      intro h
      have := plcs_nil.mp h
      rw [q] at this
      cases this
    | some m =>
      rw [if_pos (plcs_nil.mpr (by rw [q]; rfl))]
      obtain ⟨z, _⟩ := par_can q (tri hm (Par.refl ms f)) (tri hm (Par.refl ms a))
      rw [z]; rfl
/-- behind some steps at once, all that could be done at once is come to by some -/
theorem comes_ex {ms : List Mk} (hm : ∀ m ∈ ms, MkOk m) {w v W : Wd} {S A : List Pl} (hS : ∀ p ∈ S, p ∈ plcs ms w) (h : onc ms w S = some v) (hA : ∀ p, p ∈ A ↔ p ∈ plcs ms w) (hW : onc ms w A = some W) : ∃ R, (∀ p ∈ R, p ∈ plcs ms v) ∧ onc ms v R = some W := by
  have e : W = dev ms w := by
    rw [onc_congr ms w hA, onc_dev hm] at hW
    exact (Option.some.inj hW).symm
  subst e
  exact par_onc (tri hm (onc_par hS h))
/-! ### a number tells some of a list -/
def pickN {α : Type} : Nat → List α → List α
  | _, [] => []
  | n, x :: r => if n % 2 = 1 then x :: pickN (n / 2) r else pickN (n / 2) r
theorem pickN_mem {α : Type} : ∀ (l : List α) (n : Nat) (x : α), x ∈ pickN n l → x ∈ l
  | [], _, _, h => by cases h
  | y :: r, n, x, h => by
    unfold pickN at h
    split at h
    · rcases List.mem_cons.mp h with h | h
      · rw [h]; exact List.mem_cons_self
      · exact List.mem_cons_of_mem _ (pickN_mem r _ x h)
    · exact List.mem_cons_of_mem _ (pickN_mem r _ x h)
theorem pickN_len {α : Type} : ∀ (l : List α) (n : Nat), (pickN n l).length ≤ l.length
  | [], _ => Nat.le_refl _
  | y :: r, n => by
    have := pickN_len r (n / 2)
    unfold pickN
    split
    · simp only [List.length_cons]; omega
    · simp only [List.length_cons]; omega
theorem pickN_ex {α : Type} [DecidableEq α] (S : List α) : ∀ (l : List α), l.Nodup → ∃ n, n < 2 ^ l.length ∧ ∀ x ∈ l, (x ∈ pickN n l ↔ x ∈ S)
  | [], _ => ⟨0, Nat.one_pos, fun x h => by (cases h)⟩
  | y :: r, nd => by
    obtain ⟨n1, n2⟩ := List.nodup_cons.mp nd
    obtain ⟨n, h1, h2⟩ := pickN_ex S r n2
    by_cases hy : y ∈ S
    · refine ⟨2 * n + 1, by rw [List.length_cons, Nat.pow_succ]; omega, fun x hx => ?_⟩
      have e : pickN (2 * n + 1) (y :: r) = y :: pickN n r := by
        show (if (2 * n + 1) % 2 = 1 then _ else _) = _
        rw [if_pos (by omega), show (2 * n + 1) / 2 = n by omega]
      rw [e]
      rcases List.mem_cons.mp hx with rfl | hx
      · exact ⟨fun _ => hy, fun _ => List.mem_cons_self⟩
      · rw [← h2 x hx]
        refine ⟨fun h => ?_, fun h => List.mem_cons_of_mem _ h⟩
        rcases List.mem_cons.mp h with e | h
        · exact absurd (e ▸ hx) n1
        · exact h
    · refine ⟨2 * n, by rw [List.length_cons, Nat.pow_succ]; omega, fun x hx => ?_⟩
      have e : pickN (2 * n) (y :: r) = pickN n r := by
        show (if (2 * n) % 2 = 1 then _ else _) = _
        rw [if_neg (by omega), show 2 * n / 2 = n by omega]
      rw [e]
      rcases List.mem_cons.mp hx with rfl | hx
      · exact ⟨fun h => absurd (pickN_mem r n x h) n1, fun h => absurd h hy⟩
      · exact h2 x hx
theorem nodup_inj {α β : Type} {f : α → β} (hf : ∀ x y, f x = f y → x = y) : ∀ {l : List α}, l.Nodup → (l.map f).Nodup
  | [], _ => List.nodup_nil
  | x :: r, h => by
    obtain ⟨h1, h2⟩ := List.nodup_cons.mp h
    refine List.nodup_cons.mpr ⟨fun q => ?_, nodup_inj hf h2⟩
    obtain ⟨y, hy, e⟩ := List.mem_map.mp q
    exact h1 (hf y x e ▸ hy)
theorem plcs_nodup (ms : List Mk) : ∀ w : Wd, (plcs ms w).Nodup
  | .lf s => by
    unfold plcs own
    cases can ms (.lf s) <;> simp
  | .ap f a => by
    have h1 := plcs_nodup ms f
    have h2 := plcs_nodup ms a
    unfold plcs
    refine List.nodup_append.mpr ⟨List.nodup_append.mpr ⟨?_, ?_, ?_⟩, ?_, ?_⟩
    · unfold own
      cases can ms (.ap f a) <;> simp
    · exact nodup_inj (fun x y e => (List.cons.inj e).2) h1
    · intro x hx y hy e
      subst e
      obtain ⟨r, _, rfl⟩ := List.mem_map.mp hy
      unfold own at hx
      cases q : can ms (.ap f a) <;> rw [q] at hx <;> simp at hx
    · exact nodup_inj (fun x y e => (List.cons.inj e).2) h2
    · intro x hx y hy e
      subst e
      obtain ⟨r, _, rfl⟩ := List.mem_map.mp hy
      rcases List.mem_append.mp hx with z | z
      · unfold own at z
        cases q : can ms (.ap f a) <;> rw [q] at z <;> simp at z
      · obtain ⟨t, _, e⟩ := List.mem_map.mp z
        cases e
end MW

set_option maxRecDepth 100000
/-! Part 4l: how great words become by first steps. -/
namespace MW
open PySem PySem.Spec PyProof.Rows L2
open Res
/-- the greatest thing that stands behind something -/
def bfl : Wd → Nat
  | .lf _ => 0
  | .ap f a => max (max (bfl f) (bfl a)) a.size
theorem bfl_lt : ∀ w : Wd, bfl w < w.size
  | .lf _ => Nat.one_pos
  | .ap f a => by
    have h1 := bfl_lt f
    have h2 := bfl_lt a
    have h3 := f.size_pos
    have h4 := a.size_pos
    show max (max (bfl f) (bfl a)) a.size < f.size + a.size
    omega
theorem bfl_args : ∀ {w x : Wd}, x ∈ w.args → x.size ≤ bfl w ∧ bfl x ≤ bfl w
  | .ap f a, x, h => by
    show x.size ≤ max (max (bfl f) (bfl a)) a.size ∧ bfl x ≤ max (max (bfl f) (bfl a)) a.size
    rcases List.mem_append.mp h with h | h
    · have := bfl_args (w := f) h
      omega
    · rw [List.mem_singleton.mp h]
      omega
theorem act_bfl {bs : List Wd} {b : Nat} (hb : ∀ x ∈ bs, x.size ≤ b ∧ bfl x ≤ b) : ∀ {d : Dd}, d.bd bs.length → bfl (d.act bs) ≤ b * d.size ∧ (d.act bs).size ≤ b * d.size ∧ (∀ f a, d = .p f a → bfl (d.act bs) ≤ b * (d.size - 1))
  | .v i, h => by
    have e : bs.getD i (.lf (ofL [])) = bs[i] := by rw [List.getD_eq_getElem?_getD, List.getElem?_eq_getElem h]; rfl
    have := hb _ (List.getElem_mem h)
    refine ⟨?_, ?_, fun f a q => by cases q⟩
    · show bfl (bs.getD i (.lf (ofL []))) ≤ b * 1
      rw [e]; omega
    · show (bs.getD i (.lf (ofL []))).size ≤ b * 1
      rw [e]; omega
  | .p f a, h => by
    obtain ⟨f1, f2, f3⟩ := act_bfl hb (d := f) h.1
    obtain ⟨a1, a2, a3⟩ := act_bfl hb (d := a) h.2
    have p1 := f.size_pos
    have p2 := a.size_pos
    have key : bfl (Dd.act bs (.p f a)) ≤ b * (f.size + a.size - 1) := by
      show max (max (bfl (f.act bs)) (bfl (a.act bs))) (a.act bs).size ≤ _
      have g1 : b * f.size ≤ b * (f.size + a.size - 1) := Nat.mul_le_mul_left b (by omega)
      have g2 : b * a.size ≤ b * (f.size + a.size - 1) := Nat.mul_le_mul_left b (by omega)
      omega
    refine ⟨Nat.le_trans key (Nat.mul_le_mul_left b (Nat.sub_le _ _)), ?_, fun _ _ _ => key⟩
    show (f.act bs).size + (a.act bs).size ≤ b * (f.size + a.size)
    rw [Nat.mul_add]
    omega
/-- the greatest thing that may yet be taken -/
def live (ms : List Mk) (b : Nat) : Wd → Prop
  | .lf _ => True
  | .ap f a => bfl (.ap f a) ≤ b ∨ (Few ms (.ap f a) ∧ live ms b f ∧ live ms b a)
theorem live_bfl {ms : List Mk} {b : Nat} : ∀ {w : Wd}, bfl w ≤ b → live ms b w
  | .lf _, _ => True.intro
  | .ap f a, h => .inl h
theorem live_mono {ms : List Mk} {b c : Nat} (h : b ≤ c) : ∀ {w : Wd}, live ms b w → live ms c w
  | .lf _, _ => True.intro
  | .ap f a, q => by
    rcases q with q | ⟨q1, q2, q3⟩
    · exact .inl (Nat.le_trans q h)
    · exact .inr ⟨q1, live_mono h q2, live_mono h q3⟩
theorem nx_of {ms : List Mk} {w : Wd} {p : Pl} {w' : Wd} (h1 : fst ms w = some p) (h2 : stp ms w p = some w') : nx ms w = some w' := by
  unfold nx
  rw [h1]
  exact h2
theorem few_ap {ms : List Mk} {f a : Wd} (h : ¬ Few ms (.ap f a)) (hc : can ms (.ap f a) = none) : ¬ Few ms f := by
  intro q
  apply h
  intro m hm
  have e : fnd ms f.hd = some m := hm
  have l := q m e
  have e2 : (Wd.ap f a).args.length = f.args.length + 1 := by
    show (f.args ++ [a]).length = _
    rw [List.length_append]; rfl
  rw [e2]
  by_cases z : m.many = f.args.length + 1
  · have : can ms (.ap f a) = some m := can_of hm (by rw [e2]; exact z)
    rw [this] at hc; cases hc
  · omega
theorem not_few {ms : List Mk} (hm : MsOk ms) (s : Str) : Few ms (.lf s) := fun m h => by
  have := (hm.ok m (fnd_mem h).1).lo
  show 0 < m.many
  omega
/-- a step at the spine -/
theorem grow_spine {ms : List Mk} (hm : MsOk ms) {b : Nat} : ∀ {w w' : Wd}, bfl w ≤ b → ¬ Few ms w → nx ms w = some w' → bfl w' ≤ 3 * b ∧ w'.size ≤ w.size + 3 * b
  | .lf s, w', _, nf, _ => absurd (not_few hm s) nf
  | .ap f a, w', hb, nf, h => by
    have hb' : max (max (bfl f) (bfl a)) a.size ≤ b := hb
    cases q : can ms (.ap f a) with
    | some m =>
      have e0 : fst ms (.ap f a) = some [] := by unfold fst; rw [q]
      have e1 : stp ms (.ap f a) [] = some (m.deed.act (Wd.ap f a).args) := by rw [stp_nil, q]; rfl
      rw [nx_of e0 e1] at h
      cases h
      obtain ⟨c1, _, c3⟩ := can_spec q
      have o := hm.ok m c1
      have sz := o.sz
      have bd := o.bd
      rw [c3] at bd
      obtain ⟨g1, g2, g3⟩ := act_bfl (b := b) (fun x hx => by have := bfl_args hx; exact ⟨Nat.le_trans this.1 hb, Nat.le_trans this.2 hb⟩) bd
      have s1 : (m.deed.act (Wd.ap f a).args).size ≤ b * 4 := Nat.le_trans g2 (Nat.mul_le_mul_left b sz)
      refine ⟨?_, ?_⟩
      · cases qd : m.deed with
        | v i =>
          rw [qd] at g1
          have : bfl (Dd.act (Wd.ap f a).args (.v i)) ≤ b * 1 := g1
          omega
        | p x y =>
          rw [qd] at g3 sz
          have := g3 x y rfl
          have k : b * ((Dd.p x y).size - 1) ≤ b * 3 := Nat.mul_le_mul_left b (by omega)
          omega
      · -- the redex itself goes
        have ha := hb'
        cases qd : m.deed with
        | v i =>
          rw [qd] at g2
          have : (Dd.act (Wd.ap f a).args (.v i)).size ≤ b * 1 := g2
          show _ ≤ f.size + a.size + 3 * b
          omega
        | p x y =>
          -- four copies at most, one of which was there
          have big : ∃ t ∈ (Wd.ap f a).args, (m.deed.act (Wd.ap f a).args).size ≤ t.size * 4 := by
            have : ∀ (ts : List Wd), ts ≠ [] → ∃ t ∈ ts, ∀ x ∈ ts, x.size ≤ t.size := fun ts => by
              induction ts with
              | nil => intro h; exact absurd rfl h
              | cons t r ih =>
                intro _
                cases r with
                | nil => exact ⟨t, List.mem_cons_self, fun x hx => by rw [List.mem_singleton.mp hx]; exact Nat.le_refl _⟩
                | cons u v =>
                  obtain ⟨z, z1, z2⟩ := ih (by simp)
                  by_cases hz : z.size ≤ t.size
                  · exact ⟨t, List.mem_cons_self, fun x hx => by
                      rcases List.mem_cons.mp hx with rfl | hx
                      · exact Nat.le_refl _
                      · exact Nat.le_trans (z2 x hx) hz⟩
                  · exact ⟨z, List.mem_cons_of_mem _ z1, fun x hx => by
                      rcases List.mem_cons.mp hx with rfl | hx
                      · omega
                      · exact z2 x hx⟩
            obtain ⟨t, t1, t2⟩ := this (Wd.ap f a).args (by show f.args ++ [a] ≠ []; simp)
            refine ⟨t, t1, ?_⟩
            exact Nat.le_trans (Dd.act_size t2 bd) (Nat.mul_le_mul_left _ o.sz)
          obtain ⟨t, t1, t2⟩ := big
          rw [qd] at t2
          have z1 := (bfl_args t1).1
          have z2 : t.size ≤ (Wd.ap f a).size := args_size _ _ t1
          have z3 : t.size ≤ b := Nat.le_trans z1 hb
          show _ ≤ (Wd.ap f a).size + 3 * b
          omega
    | none =>
      have nf' := few_ap nf q
      rw [nx_ap q] at h
      cases q2 : nx ms f with
      | none =>
        -- a spine that can act is not at rest
        exfalso
        have key : ∀ {g : Wd}, ¬ Few ms g → nx ms g ≠ none := fun {g} => by
          induction g with
          | lf s => intro h; exact absurd (not_few hm s) h
          | ap f1 a1 i1 _ =>
            intro h z
            cases q3 : can ms (.ap f1 a1) with
            | some m =>
              have e0 : fst ms (.ap f1 a1) = some [] := by unfold fst; rw [q3]
              rw [nx_none, e0] at z
              cases z
            | none =>
              rw [nx_ap q3] at z
              cases q4 : nx ms f1 with
              | none => exact i1 (few_ap h q3) q4
              | some f2 => rw [q4] at z; cases z
        exact key nf' q2
      | some f' =>
        rw [q2] at h
        cases h
        obtain ⟨i1, i2⟩ := grow_spine hm (b := b) (w := f) (by omega) nf' q2
        refine ⟨?_, ?_⟩
        · show max (max (bfl f') (bfl a)) a.size ≤ 3 * b
          omega
        · show f'.size + a.size ≤ f.size + a.size + 3 * b
          omega
theorem grow_one {ms : List Mk} (hm : MsOk ms) {b : Nat} : ∀ {w w' : Wd}, live ms b w → nx ms w = some w' → live ms (3 * b) w' ∧ w'.size ≤ w.size + 3 * b
  | .lf s, w', _, h => by
    have : fst ms (.lf s) = none := by unfold fst; rw [can_lf hm]
    have z : nx ms (.lf s) = none := nx_none.mpr this
    rw [z] at h; cases h
  | .ap f a, w', hl, h => by
    by_cases fw : Few ms (.ap f a)
    · have hlf : live ms b f ∧ live ms b a := by
        rcases hl with hl | ⟨_, h1, h2⟩
        · have hl' : max (max (bfl f) (bfl a)) a.size ≤ b := hl
          exact ⟨live_bfl (by omega), live_bfl (by omega)⟩
        · exact ⟨h1, h2⟩
      have q := few_not fw
      rw [nx_ap q] at h
      cases q2 : nx ms f with
      | some f' =>
        rw [q2] at h
        cases h
        obtain ⟨i1, i2⟩ := grow_one hm hlf.1 q2
        have fwf := few_down fw
        obtain ⟨p, hp⟩ : ∃ p, fst ms f = some p := by
          cases z : fst ms f with
          | none => rw [nx_none.mpr z] at q2; cases q2
          | some p => exact ⟨p, rfl⟩
        have st : stp ms f p = some f' := by
          unfold nx at q2
          rw [hp] at q2
          exact q2
        obtain ⟨e1, e2⟩ := par_few (stp_par hm st) fwf
        have fw' : Few ms (.ap f' a) := fun m hm' => by
          have hm2 : fnd ms f'.hd = some m := hm'
          rw [e1] at hm2
          have := fw m hm2
          have l1 : (Wd.ap f a).args.length = f.args.length + 1 := by
            show (f.args ++ [a]).length = _
            rw [List.length_append]; rfl
          have l2 : (Wd.ap f' a).args.length = f'.args.length + 1 := by
            show (f'.args ++ [a]).length = _
            rw [List.length_append]; rfl
          rw [l1] at this
          rw [l2, ← e2.length]
          exact this
        refine ⟨.inr ⟨fw', i1, live_mono (by omega) hlf.2⟩, ?_⟩
        show f'.size + a.size ≤ f.size + a.size + 3 * b
        omega
      | none =>
        rw [q2] at h
        cases q3 : nx ms a with
        | none => rw [q3] at h; cases h
        | some a' =>
          rw [q3] at h
          cases h
          obtain ⟨i1, i2⟩ := grow_one hm hlf.2 q3
          have fw' : Few ms (.ap f a') := fun m hm' => by
            have := fw m hm'
            have l1 : (Wd.ap f a).args.length = (Wd.ap f a').args.length := by
              show (f.args ++ [a]).length = (f.args ++ [a']).length
              rw [List.length_append, List.length_append]; rfl
            rw [← l1]
            exact this
          refine ⟨.inr ⟨fw', live_mono (by omega) hlf.1, i1⟩, ?_⟩
          show f.size + a'.size ≤ f.size + a.size + 3 * b
          omega
    · rcases hl with hl | ⟨z, _⟩
      · obtain ⟨i1, i2⟩ := grow_spine hm hl fw h
        exact ⟨live_bfl i1, i2⟩
      · exact absurd z fw
theorem grow_gos {ms : List Mk} (hm : MsOk ms) : ∀ {n b : Nat} {w e : Wd}, live ms b w → Gos ms n w e → 2 * e.size + 3 * b ≤ 2 * w.size + 3 * b * 3 ^ n
  | 0, b, w, e, _, h => by
    have h' : e = w ∨ w = e := by
      first
        | exact .inl h
        | exact .inr h
    rcases h' with rfl | rfl <;> simp
  | n + 1, b, w, e, hl, h => by
    obtain ⟨w', h1, h2⟩ := h
    obtain ⟨i1, i2⟩ := grow_one hm hl h1
    have ih := grow_gos hm (b := 3 * b) i1 h2
    have e3 : 3 * b * 3 ^ (n + 1) = 3 * (3 * b) * 3 ^ n := by
      rw [Nat.pow_succ, Nat.mul_comm (3 ^ n) 3, ← Nat.mul_assoc, Nat.mul_comm (3 * b) 3]
    rw [e3]
    omega
end MW

set_option maxRecDepth 100000
/-! Part 4m: marked makers; what is left of places behind steps at others. -/
namespace MW
open PySem PySem.Spec PyProof.Rows L2
open Res
/-- a sign, without a mark -/
def um1 (s : Str) : Str := ofL (s.cps.toList.take 1)
def mk1 (s : Str) : Bool := s.cps.toList.getLast? == some 33
def mark1 (s : Str) : Str := ofL (s.cps.toList.take 1 ++ [33])
def um : Wd → Wd
  | .lf s => .lf (um1 s)
  | .ap f a => .ap (um f) (um a)
/-- a sign that is no mark -/
def Al (s : Str) : Prop := ∃ c : Nat, s = ofL [c] ∧ 65 ≤ c ∧ c < 127
theorem Al.sg {s : Str} (h : Al s) : Sg s := by
  obtain ⟨c, e, h1, h2⟩ := h
  exact ⟨c, e, by omega, by omega⟩
theorem Al.um {s : Str} (h : Al s) : um1 s = s := by
  obtain ⟨c, rfl, h1, h2⟩ := h
  rfl
theorem Al.mk {s : Str} (h : Al s) : mk1 s = false := by
  obtain ⟨c, rfl, h1, h2⟩ := h
  show (some c == some 33) = false
  simp; omega
theorem Al.umm {s : Str} (h : Al s) : um1 (mark1 s) = s := by
  obtain ⟨c, rfl, h1, h2⟩ := h
  rfl
theorem Al.mkm {s : Str} (h : Al s) : mk1 (mark1 s) = true := by
  obtain ⟨c, rfl, h1, h2⟩ := h
  rfl
theorem Al.mm {s : Str} (h : Al s) : mark1 (mark1 s) = mark1 s := by
  obtain ⟨c, rfl, h1, h2⟩ := h
  rfl
theorem um_hd : ∀ w : Wd, (um w).hd = um1 w.hd
  | .lf s => rfl
  | .ap f a => um_hd f
theorem um_args : ∀ w : Wd, (um w).args = w.args.map um
  | .lf s => rfl
  | .ap f a => by
    show (um f).args ++ [um a] = (f.args ++ [a]).map um
    rw [um_args f, List.map_append]; rfl
theorem um_len (w : Wd) : (um w).args.length = w.args.length := by rw [um_args, List.length_map]
theorem ap_len (f a : Wd) : (Wd.ap f a).args.length = f.args.length + 1 := by
  show (f.args ++ [a]).length = _
  rw [List.length_append]; rfl
theorem act_map (g : Wd → Wd) (hg : ∀ f a, g (.ap f a) = .ap (g f) (g a)) (bs : List Wd) : ∀ {d : Dd}, d.bd bs.length → g (d.act bs) = d.act (bs.map g)
  | .v i, h => by
    show g (bs.getD i (.lf (ofL []))) = (bs.map g).getD i (.lf (ofL []))
    rw [List.getD_eq_getElem?_getD, List.getElem?_eq_getElem h, List.getD_eq_getElem?_getD, List.getElem?_map, List.getElem?_eq_getElem h]; rfl
  | .p a b, h => by
    show g (.ap (a.act bs) (b.act bs)) = .ap (a.act (bs.map g)) (b.act (bs.map g))
    rw [hg, act_map g hg bs h.1, act_map g hg bs h.2]
theorem um_act {bs : List Wd} {d : Dd} (h : d.bd bs.length) : um (d.act bs) = d.act (bs.map um) := act_map um (fun _ _ => rfl) bs h
theorem um_al : ∀ {w : Wd}, w.All Al → um w = w
  | .lf s, h => by show Wd.lf (um1 s) = _; rw [Al.um h]
  | .ap f a, h => by show Wd.ap (um f) (um a) = _; rw [um_al h.1, um_al h.2]
/-- a marked maker that can act -/
def mcan (ms : List Mk) (w : Wd) : Option Mk := if mk1 w.hd = true then can ms (um w) else none
def mp (ms : List Mk) : Wd → List Pl
  | .lf _ => []
  | .ap f a => (if (mcan ms (.ap f a)).isSome = true then [[]] else []) ++ (mp ms f).map (true :: ·) ++ (mp ms a).map (false :: ·)
/-- steps at once in a marked word -/
def oncM (ms : List Mk) : Wd → List Pl → Option Wd
  | .lf s, _ => some (.lf s)
  | .ap f a, S => match oncM ms f (undr true S), oncM ms a (undr false S) with
    | some f', some a' => if [] ∈ S then (can ms (um (.ap f' a'))).map fun m => m.deed.act (Wd.ap f' a').args else some (.ap f' a')
    | _, _ => none
theorem oncM_ap {ms : List Mk} {f a f' a' : Wd} {S : List Pl} (h1 : oncM ms f (undr true S) = some f') (h2 : oncM ms a (undr false S) = some a') : oncM ms (.ap f a) S = if [] ∈ S then (can ms (um (.ap f' a'))).map fun m => m.deed.act (Wd.ap f' a').args else some (.ap f' a') := by
  show (match oncM ms f (undr true S), oncM ms a (undr false S) with | some f', some a' => _ | _, _ => _) = _
  rw [h1, h2]
/-- all marked makers act -/
def dm (ms : List Mk) : Wd → Wd
  | .lf s => .lf (um1 s)
  | .ap f a => match mcan ms (.ap f a) with
    | some m => m.deed.act (Wd.ap (dm ms f) (dm ms a)).args
    | none => .ap (dm ms f) (dm ms a)
theorem dm_some {ms : List Mk} {f a : Wd} {m : Mk} (h : mcan ms (.ap f a) = some m) : dm ms (.ap f a) = m.deed.act (Wd.ap (dm ms f) (dm ms a)).args := by
  show (match mcan ms (.ap f a) with | some m => _ | none => _) = _
  rw [h]
theorem dm_none {ms : List Mk} {f a : Wd} (h : mcan ms (.ap f a) = none) : dm ms (.ap f a) = .ap (dm ms f) (dm ms a) := by
  show (match mcan ms (.ap f a) with | some m => _ | none => _) = _
  rw [h]
def mkw : Wd → List Pl → Bool → Wd
  | .lf s, _, b => .lf (if b = true then mark1 s else s)
  | .ap f a, S, b => .ap (mkw f (undr true S) (b || decide ([] ∈ S))) (mkw a (undr false S) false)
/-- each marked maker has its things, with k more behind -/
def sat (ms : List Mk) : Wd → Nat → Prop
  | .lf s, k => mk1 s = true → ∃ m, fnd ms (um1 s) = some m ∧ m.many ≤ k
  | .ap f a, k => sat ms f (k + 1) ∧ sat ms a 0
theorem sat_mono {ms : List Mk} : ∀ {w : Wd} {k j : Nat}, k ≤ j → sat ms w k → sat ms w j
  | .lf s, k, j, h, q => fun z => by
    obtain ⟨m, h1, h2⟩ := q z
    exact ⟨m, h1, by omega⟩
  | .ap f a, k, j, h, q => ⟨sat_mono (by omega) q.1, q.2⟩
theorem sat_hd {ms : List Mk} : ∀ {w : Wd} {k : Nat}, sat ms w k → mk1 w.hd = true → ∃ m, fnd ms (um1 w.hd) = some m ∧ m.many ≤ w.args.length + k
  | .lf s, k, h, q => by
    obtain ⟨m, h1, h2⟩ := h q
    exact ⟨m, h1, by show m.many ≤ 0 + k; omega⟩
  | .ap f a, k, h, q => by
    obtain ⟨m, h1, h2⟩ := sat_hd (w := f) h.1 q
    exact ⟨m, h1, by rw [ap_len]; omega⟩
theorem sat_args {ms : List Mk} : ∀ {w : Wd} {k : Nat}, sat ms w k → ∀ x ∈ w.args, sat ms x 0
  | .lf s, k, _, x, hx => by cases hx
  | .ap f a, k, h, x, hx => by
    rcases List.mem_append.mp hx with q | q
    · exact sat_args h.1 x q
    · rw [List.mem_singleton.mp q]; exact h.2
theorem act_at {bs : List Wd} {i : Nat} (h : i < bs.length) : Dd.act bs (.v i) = bs[i] := by
  show bs.getD i (.lf (ofL [])) = bs[i]
  rw [List.getD_eq_getElem?_getD, List.getElem?_eq_getElem h]; rfl
theorem sat_act {ms : List Mk} {bs : List Wd} (hb : ∀ x ∈ bs, sat ms x 0) : ∀ {d : Dd} {k : Nat}, d.bd bs.length → sat ms (d.act bs) k
  | .v i, k, h => by
    rw [act_at h]
    exact sat_mono (Nat.zero_le _) (hb _ (List.getElem_mem h))
  | .p a b, k, h => ⟨sat_act hb h.1, sat_act hb h.2⟩
theorem mcan_sat {ms : List Mk} {f a : Wd} (h : sat ms f 0) : mcan ms (.ap f a) = none := by
  unfold mcan
  by_cases q : mk1 (Wd.ap f a).hd = true
  · rw [if_pos q]
    obtain ⟨m, h1, h2⟩ := sat_hd h q
    cases z : can ms (um (.ap f a)) with
    | none => rfl
    | some m' =>
      obtain ⟨c1, c2⟩ := can_fnd z
      rw [um_hd] at c1
      have : m = m' := Option.some.inj (h1.symm.trans c1)
      subst this
      rw [um_len, ap_len] at c2
      omega
  · rw [if_neg q]
theorem dm_act {ms : List Mk} {bs : List Wd} (hb : ∀ x ∈ bs, sat ms x 0) : ∀ {d : Dd}, d.bd bs.length → dm ms (d.act bs) = d.act (bs.map (dm ms))
  | .v i, h => by
    rw [act_at h, act_at (by rw [List.length_map]; exact h), List.getElem_map]
    rfl
  | .p a b, h => by
    show dm ms (.ap (a.act bs) (b.act bs)) = .ap (a.act (bs.map (dm ms))) (b.act (bs.map (dm ms)))
    rw [dm_none (mcan_sat (sat_act hb h.1)), dm_act hb h.1, dm_act hb h.2]
/-- the head has too few things, or no mark -/
def Fm (ms : List Mk) (f : Wd) : Prop := mk1 f.hd = true → ∀ m, fnd ms (um1 f.hd) = some m → f.args.length < m.many
theorem mcan_fm {ms : List Mk} {f : Wd} (h : Fm ms f) : mcan ms f = none := by
  unfold mcan
  by_cases q : mk1 f.hd = true
  · rw [if_pos q]
    cases z : can ms (um f) with
    | none => rfl
    | some m =>
      obtain ⟨c1, c2⟩ := can_fnd z
      rw [um_hd] at c1
      have := h q m c1
      rw [um_len] at c2
      omega
  · rw [if_neg q]
theorem dm_fm {ms : List Mk} : ∀ {f : Wd}, Fm ms f → (dm ms f).args = f.args.map (dm ms) ∧ (dm ms f).hd = um1 f.hd
  | .lf s, _ => ⟨rfl, rfl⟩
  | .ap f a, h => by
    have hf : Fm ms f := fun q m hm => by
      have := h q m hm
      rw [ap_len] at this
      omega
    obtain ⟨i1, i2⟩ := dm_fm hf
    rw [dm_none (mcan_fm h)]
    refine ⟨?_, i2⟩
    show (dm ms f).args ++ [dm ms a] = (f.args ++ [a]).map (dm ms)
    rw [i1, List.map_append]; rfl
/-! ### how deep marked makers lie in one another -/
def nd (ms : List Mk) : Wd → Nat
  | .lf _ => 0
  | .ap f a => max (nd ms f) (nd ms a) + if (mcan ms (.ap f a)).isSome = true then 1 else 0
def ndS : Wd → List Pl → Nat
  | .lf _, _ => 0
  | .ap f a, S => max (ndS f (undr true S)) (ndS a (undr false S)) + if [] ∈ S then 1 else 0
theorem nd_args {ms : List Mk} : ∀ {w x : Wd}, x ∈ w.args → nd ms x ≤ nd ms w
  | .ap f a, x, h => by
    have k : max (nd ms f) (nd ms a) ≤ nd ms (.ap f a) := Nat.le_add_right _ _
    rcases List.mem_append.mp h with q | q
    · have := nd_args (ms := ms) (w := f) q
      omega
    · rw [List.mem_singleton.mp q]
      omega
theorem nd_act {ms : List Mk} {bs : List Wd} {n : Nat} (hb : ∀ x ∈ bs, sat ms x 0) (hn : ∀ x ∈ bs, nd ms x ≤ n) : ∀ {d : Dd}, d.bd bs.length → nd ms (d.act bs) ≤ n
  | .v i, h => by
    rw [act_at h]
    exact hn _ (List.getElem_mem h)
  | .p a b, h => by
    show max (nd ms (a.act bs)) (nd ms (b.act bs)) + (if (mcan ms (.ap (a.act bs) (b.act bs))).isSome = true then 1 else 0) ≤ n
    rw [mcan_sat (sat_act hb h.1)]
    have h1 := nd_act hb hn h.1
    have h2 := nd_act hb hn h.2
    show max _ _ + 0 ≤ n
    omega
theorem own_nil {ms : List Mk} {f a : Wd} : [] ∈ plcs ms (.ap f a) ↔ ∃ m, can ms (.ap f a) = some m := by
  rw [mem_plcs, stp_nil]
  cases can ms (.ap f a) with
  | none => exact ⟨fun h => (by cases h), fun ⟨m, h⟩ => (by cases h)⟩
  | some m => exact ⟨fun _ => ⟨m, rfl⟩, fun _ => rfl⟩
/-- the head thing: what marks do, and what is left of them -/
theorem mark_main {ms : List Mk} (hm : MsOk ms) : ∀ (w : Wd) (S M : List Pl) (b : Bool), w.All Al → (∀ p ∈ S, p ∈ plcs ms w) → (∀ p ∈ M, p ∈ plcs ms w) → (∀ p ∈ S, p ∉ M) → (b = true → ∃ m, fnd ms w.hd = some m ∧ w.args.length < m.many) →
    ∃ v, oncM ms (mkw w S b) M = some v ∧ onc ms w M = some (um v) ∧ onc ms w (S ++ M) = some (dm ms v) ∧ nd ms v ≤ ndS w S ∧ (∀ k, (b = true → ∃ m, fnd ms w.hd = some m ∧ m.many ≤ w.args.length + k) → sat ms v k) ∧ (Few ms w → v.args.length = w.args.length ∧ um1 v.hd = w.hd ∧ mk1 v.hd = b)
  | .lf s, S, M, b, hw, hS, hM, hd, hb => by
    have ha : Al s := hw
    refine ⟨.lf (if b = true then mark1 s else s), rfl, ?_, ?_, Nat.le_refl _, fun k hk => ?_, fun _ => ⟨rfl, ?_, ?_⟩⟩
    · show some (Wd.lf s) = some (.lf (um1 (if b = true then mark1 s else s)))
      cases b
      · rw [if_neg (by decide), ha.um]
      · rw [if_pos rfl, ha.umm]
    · show some (Wd.lf s) = some (.lf (um1 (if b = true then mark1 s else s)))
      cases b
      · rw [if_neg (by decide), ha.um]
      · rw [if_pos rfl, ha.umm]
    · intro q
      cases b
      · rw [if_neg (by decide), ha.mk] at q; cases q
      · obtain ⟨m, h1, h2⟩ := hk rfl
        refine ⟨m, ?_, ?_⟩
        · rw [if_pos rfl, ha.umm]; exact h1
        · have : m.many ≤ 0 + k := h2
          omega
    · show um1 (if b = true then mark1 s else s) = s
      cases b
      · rw [if_neg (by decide), ha.um]
      · rw [if_pos rfl, ha.umm]
    · show mk1 (if b = true then mark1 s else s) = b
      cases b
      · rw [if_neg (by decide), ha.mk]
      · rw [if_pos rfl, ha.mkm]
  | .ap f a, S, M, b, hw, hS, hM, hd, hb => by
    have pS : ∀ c, ∀ p ∈ undr c S, (c :: p) ∈ plcs ms (.ap f a) := fun c p hp => hS _ (mem_undr.mp hp)
    have pM : ∀ c, ∀ p ∈ undr c M, (c :: p) ∈ plcs ms (.ap f a) := fun c p hp => hM _ (mem_undr.mp hp)
    have dj : ∀ c, ∀ p ∈ undr c S, p ∉ undr c M := fun c p hp q => hd _ (mem_undr.mp hp) (mem_undr.mp q)
    have hbf : (b || decide ([] ∈ S)) = true → ∃ m, fnd ms f.hd = some m ∧ f.args.length < m.many := fun q => by
      rcases Bool.or_eq_true _ _ ▸ q with q | q
      · obtain ⟨m, h1, h2⟩ := hb q
        rw [ap_len] at h2
        exact ⟨m, h1, by omega⟩
      · obtain ⟨m, h1⟩ := own_nil.mp (hS _ (of_decide_eq_true q))
        obtain ⟨c1, c2⟩ := can_fnd h1
        rw [ap_len] at c2
        exact ⟨m, c1, by omega⟩
    obtain ⟨vf, f1, f2, f3, f4, f5, f6⟩ := mark_main hm f (undr true S) (undr true M) (b || decide ([] ∈ S)) hw.1 (fun p hp => (plcs_ap (b := true)).mp (pS true p hp)) (fun p hp => (plcs_ap (b := true)).mp (pM true p hp)) (dj true) hbf
    obtain ⟨va, a1, a2, a3, a4, a5, a6⟩ := mark_main hm a (undr false S) (undr false M) false hw.2 (fun p hp => (plcs_ap (b := false)).mp (pS false p hp)) (fun p hp => (plcs_ap (b := false)).mp (pM false p hp)) (dj false) (fun q => by cases q)
    have sva : sat ms va 0 := a5 0 fun q => by cases q
    have e1 : mkw (.ap f a) S b = .ap (mkw f (undr true S) (b || decide ([] ∈ S))) (mkw a (undr false S) false) := rfl
    rw [← undr_app] at f3 a3
    -- where the head's maker can act
    have few : ∀ {m : Mk}, can ms (.ap f a) = some m → Few ms f := fun {m} h m' hm' => by
      obtain ⟨c1, c2⟩ := can_fnd h
      have : m = m' := Option.some.inj (c1.symm.trans hm')
      subst this
      rw [ap_len] at c2
      omega
    have mfm : (b || decide ([] ∈ S)) = true → Few ms f → Fm ms vf := fun q hf _ m hm' => by
      obtain ⟨g1, g2, _⟩ := f6 hf
      rw [g2] at hm'
      rw [g1]
      exact hf m hm'
    have canv : ∀ {m : Mk}, can ms (.ap f a) = some m → can ms (um (.ap vf va)) = some m := fun {m} h => by
      obtain ⟨c1, c2⟩ := can_fnd h
      obtain ⟨g1, g2, _⟩ := f6 (few h)
      refine can_of ?_ ?_
      · rw [um_hd]
        show fnd ms (um1 vf.hd) = _
        rw [g2]; exact c1
      · rw [um_len, ap_len, g1]
        rw [ap_len] at c2
        exact c2
    have cand : ∀ {m : Mk}, can ms (.ap f a) = some m → Fm ms vf → can ms (.ap (dm ms vf) (dm ms va)) = some m := fun {m} h q => by
      obtain ⟨c1, c2⟩ := can_fnd h
      obtain ⟨g1, g2, _⟩ := f6 (few h)
      obtain ⟨d1, d2⟩ := dm_fm q
      refine can_of ?_ ?_
      · show fnd ms (dm ms vf).hd = _
        rw [d2, g2]; exact c1
      · rw [ap_len, d1, List.length_map, g1]
        rw [ap_len] at c2
        exact c2
    by_cases nM : [] ∈ M
    · obtain ⟨m, cm⟩ := own_nil.mp (hM _ nM)
      have nS : [] ∉ S := fun q => hd _ q nM
      obtain ⟨c1, c2⟩ := can_fnd cm
      have b0 : b = false := by
        cases b with
        | false => rfl
        | true =>
          obtain ⟨m', h1, h2⟩ := hb rfl
          have : m = m' := Option.some.inj (c1.symm.trans h1)
          subst this
          omega
      have bf : (b || decide ([] ∈ S)) = false := by rw [b0, decide_eq_false nS]; rfl
      have hf := few cm
      obtain ⟨g1, g2, g3⟩ := f6 hf
      rw [bf] at g3
      have fm : Fm ms vf := fun q => by rw [g3] at q; cases q
      have svf : sat ms vf 1 := f5 1 fun q => by rw [bf] at q; cases q
      have sap : sat ms (.ap vf va) 0 := ⟨svf, sva⟩
      have om := hm.ok m (can_spec cm).1
      have bd : m.deed.bd (Wd.ap vf va).args.length := by
        have := om.bd
        rw [c2, ap_len] at this
        rw [ap_len, g1]
        exact this
      obtain ⟨d1, d2⟩ := dm_fm fm
      refine ⟨m.deed.act (Wd.ap vf va).args, ?_, ?_, ?_, ?_, fun k _ => sat_act (sat_args sap) bd, fun q => ?_⟩
      · rw [e1, oncM_ap f1 a1, if_pos nM, canv cm]; rfl
      · rw [onc_ap f2 a2, if_pos nM, um_act bd, ← um_args]
        have := canv cm
        show Option.map (fun m => m.deed.act (um (.ap vf va)).args) (can ms (um (.ap vf va))) = _
        rw [this]; rfl
      · rw [onc_ap f3 a3, if_pos (List.mem_append_right _ nM), cand cm fm, dm_act (sat_args sap) bd]
        show some (m.deed.act ((dm ms vf).args ++ [dm ms va])) = some (m.deed.act ((vf.args ++ [va]).map (dm ms)))
        rw [d1, List.map_append]; rfl
      · refine nd_act (sat_args sap) (fun x hx => ?_) bd
        show nd ms x ≤ max (ndS f (undr true S)) (ndS a (undr false S)) + if [] ∈ S then 1 else 0
        rw [if_neg nS]
        rcases List.mem_append.mp hx with q | q
        · have := nd_args (ms := ms) q
          omega
        · rw [List.mem_singleton.mp q]
          omega
      · have := few_not q
        rw [cm] at this; cases this
    · by_cases nS : [] ∈ S
      · obtain ⟨m, cm⟩ := own_nil.mp (hS _ nS)
        obtain ⟨c1, c2⟩ := can_fnd cm
        have bf : (b || decide ([] ∈ S)) = true := by rw [decide_eq_true nS, Bool.or_true]
        have hf := few cm
        obtain ⟨g1, g2, g3⟩ := f6 hf
        rw [bf] at g3
        have fm := mfm bf hf
        have mc : mcan ms (.ap vf va) = some m := by
          unfold mcan
          rw [if_pos (show mk1 (Wd.ap vf va).hd = true from g3)]
          exact canv cm
        refine ⟨.ap vf va, ?_, ?_, ?_, ?_, fun k hk => ⟨f5 (k + 1) fun _ => ⟨m, c1, ?_⟩, sva⟩, fun q => ?_⟩
        · rw [e1, oncM_ap f1 a1, if_neg nM]
        · rw [onc_ap f2 a2, if_neg nM]; rfl
        · rw [onc_ap f3 a3, if_pos (List.mem_append_left _ nS), cand cm fm, dm_some mc]; rfl
        · show max (nd ms vf) (nd ms va) + (if (mcan ms (.ap vf va)).isSome = true then 1 else 0) ≤ max (ndS f (undr true S)) (ndS a (undr false S)) + if [] ∈ S then 1 else 0
          rw [mc, if_pos nS, if_pos (show (some m).isSome = true from rfl)]
          omega
        · rw [ap_len] at c2; omega
        · have := few_not q
          rw [cm] at this; cases this
      · have bf : (b || decide ([] ∈ S)) = b := by rw [decide_eq_false nS, Bool.or_false]
        have mc : mcan ms (.ap vf va) = none := by
          cases qb : b with
          | false =>
            exact mcan_sat (f5 0 fun q => by rw [bf, qb] at q; cases q)
          | true =>
            obtain ⟨m, h1, h2⟩ := hb qb
            have hf : Few ms f := fun m' hm' => by
              have : m = m' := Option.some.inj (h1.symm.trans hm')
              subst this
              rw [ap_len] at h2
              omega
            obtain ⟨g1, g2, g3⟩ := f6 hf
            refine mcan_fm fun q m' hm' => ?_
            have hm2 : fnd ms (um1 vf.hd) = some m' := hm'
            rw [g2] at hm2
            have : m = m' := Option.some.inj (h1.symm.trans hm2)
            subst this
            rw [ap_len, g1]
            rw [ap_len] at h2
            exact h2
        have nSM : [] ∉ S ++ M := fun q => by
          rcases List.mem_append.mp q with q | q
          · exact nS q
          · exact nM q
        refine ⟨.ap vf va, ?_, ?_, ?_, ?_, fun k hk => ⟨f5 (k + 1) fun q => ?_, sva⟩, fun q => ?_⟩
        · rw [e1, oncM_ap f1 a1, if_neg nM]
        · rw [onc_ap f2 a2, if_neg nM]; rfl
        · rw [onc_ap f3 a3, if_neg nSM, dm_none mc]
        · show max (nd ms vf) (nd ms va) + (if (mcan ms (.ap vf va)).isSome = true then 1 else 0) ≤ max (ndS f (undr true S)) (ndS a (undr false S)) + if [] ∈ S then 1 else 0
          rw [mc, if_neg nS]
          show max _ _ + 0 ≤ _
          omega
        · rw [bf] at q
          obtain ⟨m, h1, h2⟩ := hk q
          rw [ap_len] at h2
          exact ⟨m, h1, by omega⟩
        · obtain ⟨g1, g2, g3⟩ := f6 (few_down q)
          refine ⟨by rw [ap_len, ap_len, g1], g2, ?_⟩
          rw [bf] at g3
          exact g3
/-! ### what is left, as places -/
theorem undr_same (b : Bool) : ∀ L : List Pl, undr b (L.map (b :: ·)) = L
  | [] => rfl
  | p :: r => by rw [List.map_cons, undr_cons, if_pos rfl, undr_same b r]
theorem undr_other {b c : Bool} (h : c ≠ b) : ∀ L : List Pl, undr b (L.map (c :: ·)) = []
  | [] => rfl
  | p :: r => by rw [List.map_cons, undr_cons, if_neg h, undr_other h r]
theorem mp_ap (ms : List Mk) (f a : Wd) : mp ms (.ap f a) = (if (mcan ms (.ap f a)).isSome = true then [[]] else []) ++ (mp ms f).map (true :: ·) ++ (mp ms a).map (false :: ·) := rfl
theorem mp_true (ms : List Mk) (f a : Wd) : undr true (mp ms (.ap f a)) = mp ms f := by
  rw [mp_ap, undr_app, undr_app, undr_same, undr_other (by decide)]
  split <;> simp [undr]
theorem mp_false (ms : List Mk) (f a : Wd) : undr false (mp ms (.ap f a)) = mp ms a := by
  rw [mp_ap, undr_app, undr_app, undr_same, undr_other (by decide)]
  split <;> simp [undr]
theorem mp_nil (ms : List Mk) (f a : Wd) : [] ∈ mp ms (.ap f a) ↔ (mcan ms (.ap f a)).isSome = true := by
  unfold mp
  rw [List.mem_append, List.mem_append]
  constructor
  · rintro ((h | h) | h)
    · by_cases q : (mcan ms (.ap f a)).isSome = true
      · exact q
      · rw [if_neg q] at h; cases h
    · obtain ⟨x, _, e⟩ := List.mem_map.mp h
      cases e
    · obtain ⟨x, _, e⟩ := List.mem_map.mp h
      cases e
  · intro q
    rw [if_pos q]
    exact .inl (.inl List.mem_cons_self)
theorem mcan_inv {ms : List Mk} {w : Wd} {m : Mk} (h : mcan ms w = some m) : mk1 w.hd = true ∧ can ms (um w) = some m := by
  unfold mcan at h
  by_cases q : mk1 w.hd = true
  · rw [if_pos q] at h; exact ⟨q, h⟩
  · rw [if_neg q] at h; cases h
theorem mcan_fm2 {ms : List Mk} {f a : Wd} {m : Mk} (h : mcan ms (.ap f a) = some m) : Fm ms f := fun q m' hm' => by
  obtain ⟨h1, h2⟩ := mcan_inv h
  obtain ⟨c1, c2⟩ := can_fnd h2
  rw [um_hd] at c1
  have c1' : fnd ms (um1 f.hd) = some m := c1
  have : m = m' := Option.some.inj (c1'.symm.trans hm')
  subst this
  rw [um_len, ap_len] at c2
  omega
theorem mp_onc (ms : List Mk) : ∀ v : Wd, onc ms (um v) (mp ms v) = some (dm ms v)
  | .lf s => rfl
  | .ap f a => by
    have h1 := mp_onc ms f
    have h2 := mp_onc ms a
    rw [← mp_true ms f a] at h1
    rw [← mp_false ms f a] at h2
    show onc ms (.ap (um f) (um a)) _ = _
    rw [onc_ap h1 h2]
    cases q : mcan ms (.ap f a) with
    | none =>
      rw [if_neg (by rw [mp_nil, q]; decide), dm_none q]
    | some m =>
      rw [if_pos (by rw [mp_nil, q]; rfl), dm_some q]
      obtain ⟨d1, d2⟩ := dm_fm (mcan_fm2 q)
      obtain ⟨c1, c2⟩ := can_fnd (mcan_inv q).2
      have : can ms (.ap (dm ms f) (dm ms a)) = some m := by
        refine can_of ?_ ?_
        · show fnd ms (dm ms f).hd = _
          rw [d2]
          rw [um_hd] at c1
          exact c1
        · rw [ap_len, d1, List.length_map]
          rw [um_len, ap_len] at c2
          exact c2
      rw [this]; rfl
theorem mp_sub (ms : List Mk) : ∀ (v : Wd) (p : Pl), p ∈ mp ms v → p ∈ plcs ms (um v)
  | .lf s, p, h => by cases h
  | .ap f a, [], h => by
    rw [mp_nil] at h
    cases q : mcan ms (.ap f a) with
    | none => rw [q] at h; cases h
    | some m => exact own_nil.mpr ⟨m, (mcan_inv q).2⟩
  | .ap f a, true :: p, h => by
    have : p ∈ undr true (mp ms (.ap f a)) := mem_undr.mpr h
    rw [mp_true] at this
    exact (plcs_ap (b := true)).mpr (mp_sub ms f p this)
  | .ap f a, false :: p, h => by
    have : p ∈ undr false (mp ms (.ap f a)) := mem_undr.mpr h
    rw [mp_false] at this
    exact (plcs_ap (b := false)).mpr (mp_sub ms a p this)
theorem mp_nodup (ms : List Mk) : ∀ v : Wd, (mp ms v).Nodup
  | .lf s => List.nodup_nil
  | .ap f a => by
    have h1 := mp_nodup ms f
    have h2 := mp_nodup ms a
    unfold mp
    refine List.nodup_append.mpr ⟨List.nodup_append.mpr ⟨?_, nodup_inj (fun x y e => (List.cons.inj e).2) h1, ?_⟩, nodup_inj (fun x y e => (List.cons.inj e).2) h2, ?_⟩
    · split <;> simp
    · intro x hx y hy e
      subst e
      obtain ⟨r, _, rfl⟩ := List.mem_map.mp hy
      split at hx <;> simp at hx
    · intro x hx y hy e
      subst e
      obtain ⟨r, _, rfl⟩ := List.mem_map.mp hy
      rcases List.mem_append.mp hx with z | z
      · split at z <;> simp at z
      · obtain ⟨t, _, e⟩ := List.mem_map.mp z
        cases e
theorem mp_nd (ms : List Mk) : ∀ v : Wd, ndS (um v) (mp ms v) = nd ms v
  | .lf s => rfl
  | .ap f a => by
    show max (ndS (um f) (undr true (mp ms (.ap f a)))) (ndS (um a) (undr false (mp ms (.ap f a)))) + (if [] ∈ mp ms (.ap f a) then 1 else 0) = max (nd ms f) (nd ms a) + if (mcan ms (.ap f a)).isSome = true then 1 else 0
    rw [mp_true, mp_false, mp_nd ms f, mp_nd ms a]
    congr 1
    by_cases q : (mcan ms (.ap f a)).isSome = true
    · rw [if_pos q, if_pos ((mp_nil ms f a).mpr q)]
    · rw [if_neg q, if_neg fun z => q ((mp_nil ms f a).mp z)]
theorem mp_len (ms : List Mk) : ∀ v : Wd, (mp ms v).length + 1 ≤ v.size
  | .lf s => Nat.le_refl 1
  | .ap f a => by
    have h1 := mp_len ms f
    have h2 := mp_len ms a
    unfold mp
    rw [List.length_append, List.length_append, List.length_map, List.length_map]
    show _ ≤ f.size + a.size
    split
    · rw [List.length_singleton]; omega
    · rw [List.length_nil]; omega
theorem ndS_mono : ∀ {w : Wd} {S S' : List Pl}, (∀ p ∈ S, p ∈ S') → ndS w S ≤ ndS w S'
  | .lf s, S, S', h => Nat.le_refl _
  | .ap f a, S, S', h => by
    have h1 := ndS_mono (w := f) (S := undr true S) (S' := undr true S') fun p hp => mem_undr.mpr (h _ (mem_undr.mp hp))
    have h2 := ndS_mono (w := a) (S := undr false S) (S' := undr false S') fun p hp => mem_undr.mpr (h _ (mem_undr.mp hp))
    show max _ _ + (if [] ∈ S then 1 else 0) ≤ max _ _ + (if [] ∈ S' then 1 else 0)
    by_cases q : [] ∈ S
    · rw [if_pos q, if_pos (h _ q)]; omega
    · rw [if_neg q]; omega
theorem ndS_nil : ∀ w : Wd, ndS w [] = 0
  | .lf s => rfl
  | .ap f a => by
    show max (ndS f []) (ndS a []) + 0 = 0
    rw [ndS_nil f, ndS_nil a]; rfl
theorem ndS_one : ∀ (w : Wd) (p : Pl), ndS w [p] ≤ 1
  | .lf s, p => Nat.zero_le _
  | .ap f a, [] => by
    show max (ndS f (undr true [[]])) (ndS a (undr false [[]])) + (if [] ∈ [[]] then 1 else 0) ≤ 1
    rw [show undr true [[]] = [] from rfl, show undr false [[]] = [] from rfl, ndS_nil, ndS_nil, if_pos (List.mem_singleton.mpr rfl)]
    exact Nat.le_refl _
  | .ap f a, true :: p => by
    show max (ndS f (undr true [true :: p])) (ndS a (undr false [true :: p])) + (if [] ∈ [true :: p] then 1 else 0) ≤ 1
    rw [undr_one, undr_one, if_pos rfl, if_neg (by decide), ndS_nil, if_neg (by simp)]
    have := ndS_one f p
    omega
  | .ap f a, false :: p => by
    show max (ndS f (undr true [false :: p])) (ndS a (undr false [false :: p])) + (if [] ∈ [false :: p] then 1 else 0) ≤ 1
    rw [undr_one, undr_one, if_pos rfl, if_neg (by decide), ndS_nil, if_neg (by simp)]
    have := ndS_one a p
    omega
theorem onc_dep2 {ms : List Mk} (hm : ∀ m ∈ ms, MkOk m) : ∀ {w : Wd} {S : List Pl} {w' : Wd}, onc ms w S = some w' → w'.dep ≤ w.dep + 2 * ndS w S
  | .lf s, S, w', h => by cases h; exact Nat.le_refl _
  | .ap f a, S, w', h => by
    obtain ⟨f', a', h1, h2, h3⟩ := onc_inv h
    have d1 := onc_dep2 hm h1
    have d2 := onc_dep2 hm h2
    show w'.dep ≤ (max f.dep a.dep + 1) + 2 * (max (ndS f (undr true S)) (ndS a (undr false S)) + if [] ∈ S then 1 else 0)
    rcases h3 with ⟨e, m, q, rfl⟩ | ⟨e, rfl⟩
    · rw [if_pos e]
      obtain ⟨c1, _, c3⟩ := can_spec q
      have o := hm m c1
      have bd := o.bd
      rw [c3] at bd
      have sz := o.sz
      have dd := m.deed.dep_lt
      have := Dd.act_dep (bs := (Wd.ap f' a').args) (n := max f'.dep a'.dep) (fun x hx => by
        have := Wd.args_dep _ x hx
        have : x.dep < max f'.dep a'.dep + 1 := this
        omega) bd
      omega
    · rw [if_neg e]
      show max f'.dep a'.dep + 1 ≤ _
      omega
theorem onc_size2 {ms : List Mk} (hm : ∀ m ∈ ms, MkOk m) : ∀ {w : Wd} {S : List Pl} {w' : Wd}, onc ms w S = some w' → w'.size ≤ w.size * 4 ^ ndS w S
  | .lf s, S, w', h => by cases h; exact Nat.le_refl _
  | .ap f a, S, w', h => by
    obtain ⟨f', a', h1, h2, h3⟩ := onc_inv h
    have d1 := onc_size2 hm h1
    have d2 := onc_size2 hm h2
    have p1 : 4 ^ ndS f (undr true S) ≤ 4 ^ max (ndS f (undr true S)) (ndS a (undr false S)) := Nat.pow_le_pow_right (by decide) (Nat.le_max_left _ _)
    have p2 : 4 ^ ndS a (undr false S) ≤ 4 ^ max (ndS f (undr true S)) (ndS a (undr false S)) := Nat.pow_le_pow_right (by decide) (Nat.le_max_right _ _)
    have q1 := Nat.le_trans d1 (Nat.mul_le_mul_left f.size p1)
    have q2 := Nat.le_trans d2 (Nat.mul_le_mul_left a.size p2)
    show w'.size ≤ (f.size + a.size) * 4 ^ (max (ndS f (undr true S)) (ndS a (undr false S)) + if [] ∈ S then 1 else 0)
    obtain ⟨N, hN⟩ : ∃ N, N = 4 ^ max (ndS f (undr true S)) (ndS a (undr false S)) := ⟨_, rfl⟩
    rw [← hN] at q1 q2
    rcases h3 with ⟨e, m, q, rfl⟩ | ⟨e, rfl⟩
    · rw [if_pos e, Nat.pow_succ, ← hN]
      obtain ⟨c1, _, c3⟩ := can_spec q
      have o := hm m c1
      have bd := o.bd
      rw [c3] at bd
      have t := Dd.act_size (bs := (Wd.ap f' a').args) (n := (f.size + a.size) * N) (fun x hx => by
        have s1 := args_size _ x hx
        have s2 : x.size ≤ f'.size + a'.size := s1
        rw [Nat.add_mul]
        omega) bd
      rw [← Nat.mul_assoc]
      exact Nat.le_trans t (Nat.mul_le_mul_left _ o.sz)
    · rw [if_neg e, Nat.add_zero, ← hN, Nat.add_mul]
      show f'.size + a'.size ≤ _
      omega
/-! ### marking one by one -/
def mh : Wd → Wd
  | .lf s => .lf (mark1 s)
  | .ap f a => .ap (mh f) a
def mkAt : Wd → Pl → Wd
  | w, [] => mh w
  | .ap f a, true :: p => .ap (mkAt f p) a
  | .ap f a, false :: p => .ap f (mkAt a p)
  | .lf s, _ :: _ => .lf s
theorem mh_mkw : ∀ {w : Wd} {S : List Pl} {b : Bool}, w.All Al → mh (mkw w S b) = mkw w S true
  | .lf s, S, b, h => by
    have ha : Al s := h
    show Wd.lf (mark1 (if b = true then mark1 s else s)) = .lf (mark1 s)
    cases b
    · rfl
    · rw [if_pos rfl, ha.mm]
  | .ap f a, S, b, h => by
    show Wd.ap (mh (mkw f (undr true S) (b || decide ([] ∈ S)))) (mkw a (undr false S) false) = .ap (mkw f (undr true S) (true || decide ([] ∈ S))) (mkw a (undr false S) false)
    rw [mh_mkw h.1, Bool.true_or]
theorem mkAt_mkw {ms : List Mk} (hm : MsOk ms) : ∀ {w : Wd} {p : Pl} {S : List Pl} {b : Bool}, w.All Al → p ∈ plcs ms w → mkAt (mkw w S b) p = mkw w (p :: S) b
  | .lf s, p, S, b, _, hp => by
    have : p ∈ own ms (.lf s) := hp
    unfold own at this
    rw [can_lf hm] at this
    cases this
  | .ap f a, [], S, b, h, hp => by
    show Wd.ap (mh (mkw f (undr true S) (b || decide ([] ∈ S)))) (mkw a (undr false S) false) = .ap (mkw f (undr true ([] :: S)) (b || decide ([] ∈ [] :: S))) (mkw a (undr false ([] :: S)) false)
    rw [mh_mkw h.1, undr_front, undr_front, decide_eq_true List.mem_cons_self, Bool.or_true]
  | .ap f a, true :: p, S, b, h, hp => by
    show Wd.ap (mkAt (mkw f (undr true S) (b || decide ([] ∈ S))) p) (mkw a (undr false S) false) = .ap (mkw f (undr true ((true :: p) :: S)) (b || decide ([] ∈ (true :: p) :: S))) (mkw a (undr false ((true :: p) :: S)) false)
    rw [undr_cons, if_pos rfl, undr_cons, if_neg (by decide), mkAt_mkw hm h.1 ((plcs_ap (b := true)).mp hp)]
    congr 3
    simp
  | .ap f a, false :: p, S, b, h, hp => by
    show Wd.ap (mkw f (undr true S) (b || decide ([] ∈ S))) (mkAt (mkw a (undr false S) false) p) = .ap (mkw f (undr true ((false :: p) :: S)) (b || decide ([] ∈ (false :: p) :: S))) (mkw a (undr false ((false :: p) :: S)) false)
    rw [undr_cons, if_neg (by decide), undr_cons, if_pos rfl, mkAt_mkw hm h.2 ((plcs_ap (b := false)).mp hp)]
    congr 3
    simp
theorem mkw_nil : ∀ w : Wd, mkw w [] false = w
  | .lf s => rfl
  | .ap f a => by
    show Wd.ap (mkw f (undr true []) (false || decide ([] ∈ ([] : List Pl)))) (mkw a (undr false []) false) = _
    rw [undr_nil, undr_nil, show (false || decide ([] ∈ ([] : List Pl))) = false from rfl, mkw_nil f, mkw_nil a]
/-- a leaf that may be marked -/
def Am (s : Str) : Prop := ∃ c : Nat, 65 ≤ c ∧ c < 127 ∧ (s = ofL [c] ∨ s = ofL [c, 33])
theorem mkw_all : ∀ {w : Wd} {S : List Pl} {b : Bool}, w.All Al → (mkw w S b).All Am
  | .lf s, S, b, h => by
    obtain ⟨c, rfl, h1, h2⟩ := h
    cases b
    · exact ⟨c, h1, h2, .inl rfl⟩
    · exact ⟨c, h1, h2, .inr rfl⟩
  | .ap f a, S, b, h => ⟨mkw_all h.1, mkw_all h.2⟩
theorem mkw_dep : ∀ (w : Wd) (S : List Pl) (b : Bool), (mkw w S b).dep = w.dep
  | .lf s, S, b => rfl
  | .ap f a, S, b => by
    show max (mkw f _ _).dep (mkw a _ _).dep + 1 = max f.dep a.dep + 1
    rw [mkw_dep f, mkw_dep a]
theorem um_dep : ∀ w : Wd, (um w).dep = w.dep
  | .lf s => rfl
  | .ap f a => by
    show max (um f).dep (um a).dep + 1 = max f.dep a.dep + 1
    rw [um_dep f, um_dep a]
theorem um_size : ∀ w : Wd, (um w).size = w.size
  | .lf s => rfl
  | .ap f a => by
    show (um f).size + (um a).size = f.size + a.size
    rw [um_size f, um_size a]
/-- the marks of one way that are no places of the other -/
def nots (S M : List Pl) : List Pl := (S.filter fun p => decide (p ∉ M)).reverse
theorem mem_nots {S M : List Pl} {p : Pl} : p ∈ nots S M ↔ p ∈ S ∧ p ∉ M := by
  unfold nots
  rw [List.mem_reverse, List.mem_filter]
  simp
structure Gd (ms : List Mk) (w : Wd) (S : List Pl) : Prop where
  sub : ∀ p ∈ S, p ∈ plcs ms w
  nd : S.Nodup
  one : ndS w S ≤ 1
  len : S.length ≤ w.size
theorem left_ok {ms : List Mk} (hm : MsOk ms) {w : Wd} {S M : List Pl} (hw : w.All Al) (hS : Gd ms w S) (hM : Gd ms w M) : ∃ v, oncM ms (mkw w (nots S M) false) M = some v ∧ onc ms w M = some (um v) ∧ Gd ms (um v) (mp ms v) ∧ onc ms (um v) (mp ms v) = onc ms w (S ++ M) := by
  obtain ⟨v, h1, h2, h3, h4, _, _⟩ := mark_main hm w (nots S M) M false hw (fun p hp => hS.sub p (mem_nots.mp hp).1) hM.sub (fun p hp => (mem_nots.mp hp).2) (fun q => by cases q)
  refine ⟨v, h1, h2, ⟨mp_sub ms v, mp_nodup ms v, ?_, by rw [um_size]; have := mp_len ms v; omega⟩, ?_⟩
  · rw [mp_nd]
    have := ndS_mono (w := w) (S := nots S M) (S' := S) fun p hp => (mem_nots.mp hp).1
    have := hS.one
    omega
  · rw [mp_onc, ← h3]
    refine onc_congr ms w fun p => ?_
    rw [List.mem_append, List.mem_append, mem_nots]
    constructor
    · rintro (h | h)
      · exact .inl h.1
      · exact .inr h
    · rintro (h | h)
      · by_cases q : p ∈ M
        · exact .inr q
        · exact .inl ⟨h, q⟩
      · exact .inr h
theorem Gd.one' {ms : List Mk} {w : Wd} {p : Pl} (h : p ∈ plcs ms w) : Gd ms w [p] := ⟨fun q hq => by rw [List.mem_singleton.mp hq]; exact h, by simp, ndS_one w p, w.size_pos⟩
/-- sets of places, one behind the other -/
def Chain (ms : List Mk) : Wd → List (List Pl) → Wd → Prop
  | w, [], e => w = e
  | w, R :: rs, e => Gd ms w R ∧ ∃ w', onc ms w R = some w' ∧ Chain ms w' rs e
/-- ways, step by step, none of whose words is too great -/
def Way (ms : List Mk) (D Z : Nat) : Wd → List Pl → Wd → Prop
  | w, [], e => w = e
  | w, p :: r, e => w.dep ≤ D ∧ w.size ≤ Z ∧ ∃ w', stp ms w p = some w' ∧ Way ms D Z w' r e
theorem way_app {ms : List Mk} {D Z : Nat} : ∀ {L M : List Pl} {w u e : Wd}, Way ms D Z w L u → Way ms D Z u M e → Way ms D Z w (L ++ M) e
  | [], M, w, u, e, h1, h2 => by cases h1; exact h2
  | p :: r, M, w, u, e, ⟨a, b, w', c, d⟩, h2 => ⟨a, b, w', c, way_app d h2⟩
theorem way_pre {ms : List Mk} (hm : MsOk ms) {D Z : Nat} {w e : Wd} {L : List Pl} (nd : L.Nodup) (dn : Down L) (sub : ∀ p ∈ L, p ∈ plcs ms w) (one : ndS w L ≤ 1) (hd : w.dep + 2 ≤ D) (hz : w.size * 4 ≤ Z) (h : onc ms w L = some e) : ∀ (r T : List Pl), L = T ++ r → ∃ u, onc ms w T = some u ∧ Way ms D Z u r e
  | [], T, q => by
    rw [List.append_nil] at q
    subst q
    exact ⟨e, h, rfl⟩
  | p :: r, T, q => by
    obtain ⟨u', h1, h2⟩ := way_pre hm nd dn sub one hd hz h r (T ++ [p]) (by rw [List.append_assoc]; exact q)
    have s1 : (T ++ [p]).Sublist L := by
      rw [q]
      exact (List.Sublist.refl T).append (List.Sublist.cons_cons p (List.nil_sublist r))
    have s0 : T.Sublist L := (List.sublist_append_left T [p]).trans s1
    have sT : ∀ x ∈ T, x ∈ plcs ms w := fun x hx => sub x (s0.subset hx)
    obtain ⟨u, hu⟩ := onc_some sT
    refine ⟨u, hu, ?_, ?_, u', ?_, h2⟩
    · have := onc_dep2 hm.ok hu
      have := ndS_mono (w := w) (S := T) (S' := L) fun x hx => s0.subset hx
      omega
    · have a := onc_size2 hm.ok hu
      have := ndS_mono (w := w) (S := T) (S' := L) fun x hx => s0.subset hx
      have b : 4 ^ ndS w T ≤ 4 ^ 1 := Nat.pow_le_pow_right (by decide) (by omega)
      have c := Nat.mul_le_mul_left w.size b
      omega
    · have e1 := seq_onc hm w (T ++ [p]) (nd.sublist s1) (dn.sublist s1) fun x hx => sub x (s1.subset hx)
      have e0 := seq_onc hm w T (nd.sublist s0) (dn.sublist s0) sT
      rw [seq_app, e0, hu, h1] at e1
      have e2 : (stp ms u p).bind (fun w' => some w') = some u' := e1
      cases z : stp ms u p with
      | none => rw [z] at e2; cases e2
      | some x => rw [z] at e2; exact e2
theorem way_onc {ms : List Mk} (hm : MsOk ms) {D Z : Nat} {w e : Wd} {S L : List Pl} (hS : Gd ms w S) (pm : L.Perm S) (dn : Down L) (hd : w.dep + 2 ≤ D) (hz : w.size * 4 ≤ Z) (h : onc ms w S = some e) : Way ms D Z w L e := by
  have h' : onc ms w L = some e := by
    rw [← h]
    exact onc_congr ms w fun p => pm.mem_iff
  obtain ⟨u, h1, h2⟩ := way_pre hm (pm.nodup_iff.mpr hS.nd) dn (fun p hp => hS.sub p (pm.mem_iff.mp hp)) (by
    have := ndS_mono (w := w) (S := L) (S' := S) fun p hp => pm.mem_iff.mp hp
    have := hS.one
    omega) hd hz h' L [] rfl
  rw [onc_nil] at h1
  cases h1
  exact h2
theorem way_seq {ms : List Mk} {D Z : Nat} : ∀ {L : List Pl} {w e : Wd}, Way ms D Z w L e → seqS ms w L = some e
  | [], w, e, h => by cases h; rfl
  | p :: r, w, e, ⟨_, _, w', h1, h2⟩ => by
    show (stp ms w p).bind (fun w' => seqS ms w' r) = _
    rw [h1]
    exact way_seq h2
theorem chain_ok {ms : List Mk} {P : Str → Prop} (hm : MsOk ms) : ∀ {rs : List (List Pl)} {X E : Wd}, X.All P → Chain ms X rs E → E.All P ∧ E.dep ≤ X.dep + 2 * rs.length ∧ E.size ≤ X.size * 4 ^ rs.length
  | [], X, E, h, c => by cases c; exact ⟨h, by omega, by rw [List.length_nil, Nat.pow_zero, Nat.mul_one]; exact Nat.le_refl _⟩
  | R :: rs, X, E, h, ⟨g, X', o, c⟩ => by
    obtain ⟨i1, i2, i3⟩ := chain_ok hm (onc_all hm.ok h o) c
    have d := onc_dep2 hm.ok o
    have z := onc_size2 hm.ok o
    have one := g.one
    have b : 4 ^ ndS X R ≤ 4 ^ 1 := Nat.pow_le_pow_right (by decide) one
    have z2 : X'.size ≤ X.size * 4 := Nat.le_trans z (Nat.mul_le_mul_left _ b)
    refine ⟨i1, by rw [List.length_cons]; omega, ?_⟩
    rw [List.length_cons, Nat.pow_succ, Nat.mul_comm (4 ^ rs.length) 4, ← Nat.mul_assoc]
    exact Nat.le_trans i3 (Nat.mul_le_mul_right _ z2)
end MW

set_option maxRecDepth 100000
set_option maxHeartbeats 1000000
/-! Part 10: kinds; functions that are proved by hand: what they may write. -/
namespace MW
open PySem PySem.Spec PyProof.Rows L2
open Res
/-- kinds -/
inductive Kd where
  | o (i : Int)
  | p (a b : Kd)
  deriving DecidableEq
namespace Kd
def toD : Kd → D
  | .o i => .int i
  | .p a b => .tuple [a.toD, b.toD]
def dep : Kd → Nat
  | .o _ => 0
  | .p a b => max a.dep b.dep + 1
end Kd
abbrev Kn := List (Int × Kd)
def knD (σ : Kn) : List (D × D) := σ.map fun q => (.int q.1, q.2.toD)
def fitL : Kd → Kd → Kn → Bool × Kn
  | .p a b, .p c d, σ => match fitL a c σ with
    | (true, σ1) => fitL b d σ1
    | (false, σ1) => (false, σ1)
  | .p _ _, .o _, σ => (false, σ)
  | .o i, x, σ => match σ.lookup i with
    | some y => (decide (y = x), σ)
    | none => (true, σ ++ [(i, x)])
namespace Kd
def size : Kd → Nat
  | .o _ => 1
  | .p a b => a.size + b.size
theorem lay : ∀ x : Kd, x.toD.canLay0 = true
  | .o i => rfl
  | .p a b => by
    show (a.toD.canLay0 && (b.toD.canLay0 && true)) = true
    rw [lay a, lay b]; rfl
theorem depD : ∀ x : Kd, x.toD.depth = x.dep
  | .o i => rfl
  | .p a b => by
    show max a.toD.depth (max b.toD.depth 0) + 1 = max a.dep b.dep + 1
    rw [depD a, depD b]
    omega
theorem eqv : ∀ x y : Kd, PyData.eqv x.toD y.toD = decide (x = y)
  | .o i, .o j => by
    show ((i : Int) == j) = _
    by_cases h : i = j
    · subst h; simp
    · rw [decide_eq_false fun e => h (by injection e)]
      simpa using h
  | .o i, .p c d => (decide_eq_false fun e => by cases e).symm
  | .p a b, .o j => (decide_eq_false fun e => by cases e).symm
  | .p a b, .p c d => by
    show (PyData.eqv a.toD c.toD && (PyData.eqv b.toD d.toD && true)) = _
    rw [eqv a c, eqv b d, Bool.and_true]
    by_cases h1 : a = c
    · by_cases h2 : b = d
      · rw [h1, h2]; simp
      · rw [decide_eq_false h2, Bool.and_false, decide_eq_false fun e => h2 (by injection e)]
    · rw [decide_eq_false h1, Bool.false_and, decide_eq_false fun e => h1 (by injection e)]
theorem eqD_k (x y : Kd) (h : y.dep ≤ 150) : eqD x.toD y.toD = .ok (.bool (decide (x = y))) := by
  unfold eqD eqOk
  rw [lay, lay, depD y, decide_eq_true (show y.dep ≤ lim from h), Bool.or_true, eqv]; rfl
end Kd
theorem fit_len : ∀ (x y : Kd) (σ : Kn), (fitL x y σ).2.length ≤ σ.length + x.size
  | .p a b, .p c d, σ => by
    have h1 := fit_len a c σ
    show (match fitL a c σ with | (true, σ1) => fitL b d σ1 | (false, σ1) => (false, σ1)).2.length ≤ σ.length + (a.size + b.size)
    generalize fitL a c σ = r at *
    obtain ⟨b1, σ1⟩ := r
    cases b1 with
    | true =>
      have h2 := fit_len b d σ1
      have h1' : σ1.length ≤ σ.length + a.size := h1
      show (fitL b d σ1).2.length ≤ _
      omega
    | false =>
      have h1' : σ1.length ≤ σ.length + a.size := h1
      show σ1.length ≤ _
      omega
  | .p a b, .o j, σ => Nat.le_add_right _ _
  | .o i, y, σ => by
    have e : fitL (.o i) y σ = match σ.lookup i with
      | some z => (decide (z = y), σ)
      | none => (true, σ ++ [(i, y)]) := by cases y <;> rfl
    rw [e]
    cases σ.lookup i with
    | some z => exact Nat.le_add_right _ _
    | none =>
      show (σ ++ [(i, y)]).length ≤ _
      rw [List.length_append]; exact Nat.le_refl _
theorem kn_get (i : Int) : ∀ σ : Kn, dictGet (knD σ) (.inl i) = (σ.lookup i).map Kd.toD
  | [] => rfl
  | (j, z) :: r => by
    show (if (Sum.inl j : Key) = .inl i then some z.toD else dictGet (knD r) (.inl i)) = _
    rw [List.lookup_cons, kn_get i r]
    by_cases h : j = i
    · subst h
      rw [if_pos rfl]
      simp
    · rw [if_neg fun e => h (by injection e)]
      have : (i == j) = false := by simpa using fun e => h e.symm
      rw [this]
theorem kn_put (i : Int) (y : Kd) (σ : Kn) (h : σ.lookup i = none) : dictPut (knD σ) (.inl i) y.toD = knD (σ ++ [(i, y)]) := by
  unfold dictPut
  rw [kn_get, h]
  show knD σ ++ [_] = _
  unfold knD
  rw [List.map_append]; rfl
section
variable [Lam]
/-- without what stands at a -/
def drop (H : Hp) (a : Addr) : Hp := fun c => if c = a then none else H c
theorem drop_ne {H : Hp} {a c : Addr} (h : c ≠ a) : drop H a c = H c := if_neg h
theorem drop_at (H : Hp) (a : Addr) : drop H a a = none := if_pos rfl
theorem drop_upd (H : Hp) (a : Addr) (o : HO) : drop (upd H a o) a = drop H a := by
  funext c
  by_cases h : c = a
  · subst h; rw [drop_at, drop_at]
  · rw [drop_ne h, drop_ne h, upd_ne h]
theorem drop_same {F H : Hp} {a : Addr} (s : Same F (drop H a)) : Same F H := fun b o h => by
  have := s b o h
  unfold drop at this
  split at this
  · cases this
  · exact this
theorem same_drop {F H : Hp} {a : Addr} (s : Same F H) (n : F a = none) : Same F (drop H a) := fun b o h => by
  by_cases e : b = a
  · subst e; rw [n] at h; cases h
  · rw [drop_ne e]; exact s b o h
theorem tab_drop {H : Hp} {a : Addr} {kvs : List (Key × V)} (h : H a = some (.dK kvs)) : TabG (drop H a) ↔ TabG H := by
  constructor
  · intro t on
    obtain ⟨ps, h1, h2, h3⟩ := t on
    have n : Lam.P ≠ a := fun e => by rw [e, drop_at] at h1; cases h1
    rw [drop_ne n] at h1
    refine ⟨ps, h1, h2, fun pos cv q => ?_⟩
    obtain ⟨c, e1, e2⟩ := h3 pos cv q
    have n : c ≠ a := fun e => by rw [e, drop_at] at e2; cases e2
    rw [drop_ne n] at e2
    exact ⟨c, e1, e2⟩
  · intro t on
    obtain ⟨ps, h1, h2, h3⟩ := t on
    have n : Lam.P ≠ a := fun e => by rw [e, h] at h1; cases h1
    refine ⟨ps, by rw [drop_ne n]; exact h1, h2, fun pos cv q => ?_⟩
    obtain ⟨c, e1, e2⟩ := h3 pos cv q
    have n : c ≠ a := fun e => by rw [e, h] at e2; cases e2
    exact ⟨c, e1, by rw [drop_ne n]; exact e2⟩
theorem ext_drop {F H F' H' : Hp} {a : Addr} {kvs : List (Key × V)} (e : Ext F H F' H') (h : H a = some (.dK kvs)) (n : F a = none) : Ext F (drop H a) F' (drop H' a) ∧ H' a = some (.dK kvs) ∧ F' a = none := by
  have h' := e.h.dK h
  have n' : F' a = none := by
    cases q : F' a with
    | none => rfl
    | some o =>
      rcases e.new a o q with z | z
      · rw [n] at z; cases z
      · rw [h] at z; cases z
  refine ⟨⟨e.f, ⟨fun b o hb nt => ?_, fun b ps hb => ?_, fun t => (tab_drop h').mpr (e.h.ok ((tab_drop h).mp t))⟩, same_drop e.sub n', fun b o hb => ?_⟩, h', n'⟩
  · have nb : b ≠ a := fun z => by rw [z, drop_at] at hb; cases hb
    rw [drop_ne nb] at hb ⊢
    exact e.h.keep b o hb nt
  · have nb : b ≠ a := fun z => by rw [z, drop_at] at hb; cases hb
    rw [drop_ne nb] at hb ⊢
    exact e.h.tb b ps hb
  · rcases e.new b o hb with z | z
    · exact .inl z
    · refine .inr ?_
      unfold drop
      split
      · rfl
      · exact z
def spFits (K : PySem.W.Frag) (k : Nat) : Sp := fun vs H Q _ => ∃ F v1 v2 a kvs x y σ, vs = [v1, v2, .ref a] ∧ Same F H ∧ Rp K F v1 (Kd.toD x) ∧ Rp K F v2 (Kd.toD y) ∧ F a = none ∧ H a = some (.dK kvs) ∧ RpKV K F kvs (knD σ) ∧ x.dep < k ∧ y.dep ≤ 100 ∧ σ.length + x.size ≤ 1000000 ∧
  ∀ F' kvs' H', Ext F (drop H a) F' (drop H' a) → F' a = none → H' a = some (.dK kvs') → RpKV K F' kvs' (knD (fitL x y σ).2) → Q (.bl (fitL x y σ).1) H'
theorem passN {P : Program} {w : World} {X : Cx} : Passes (L2.CX P w) X (fun _ _ _ => False) := fun _ _ _ _ _ _ _ h => by
  obtain ⟨_, _, _, _, _, _, _, _, _, _, _, _, h⟩ := h
  exact h.elim
/-- a kind, of data -/
def kdOf : D → Option Kd
  | .int i => some (.o i)
  | .tuple [a, b] => match kdOf a, kdOf b with
    | some x, some y => some (.p x y)
    | _, _ => none
  | _ => none
theorem kd_of : ∀ x : Kd, kdOf x.toD = some x
  | .o i => rfl
  | .p a b => by
    show (match kdOf a.toD, kdOf b.toD with | some x, some y => some (Kd.p x y) | _, _ => none) = _
    rw [kd_of a, kd_of b]
/-- comes_of -/
def comesK (k : Nat) (o1 o2 : Option Kd) : Res D := match o1, o2 with
  | some x, some y => need (decide (x.dep < k) && decide (y.dep ≤ 100) && decide (x.size ≤ 1000000)) (.ok (.bool (fitL x y []).1))
  | _, _ => .stuck
def comesG (k : Nat) (ds : List D) : Res D := match ds with
  | [d1, d2] => comesK k (kdOf d1) (kdOf d2)
  | _ => .stuck
theorem kd_to : ∀ (d : D) (x : Kd), kdOf d = some x → x.toD = d
  | .int i, x, h => by
    rw [kdOf] at h
    cases h; rfl
  | .tuple [a, b], x, h => by
    rw [kdOf] at h
    cases q1 : kdOf a with
    | none => rw [q1] at h; cases h
    | some u =>
      cases q2 : kdOf b with
      | none => rw [q1, q2] at h; cases h
      | some v =>
        rw [q1, q2] at h
        cases h
        show PyData.tuple [u.toD, v.toD] = _
        rw [kd_to a u q1, kd_to b v q2]
  | .none, x, h => by simp [kdOf] at h
  | .bool _, x, h => by simp [kdOf] at h
  | .str _, x, h => by simp [kdOf] at h
  | .list _, x, h => by simp [kdOf] at h
  | .dict _, x, h => by simp [kdOf] at h
  | .tuple [], x, h => by simp [kdOf] at h
  | .tuple [_], x, h => by simp [kdOf] at h
  | .tuple (_ :: _ :: _ :: _), x, h => by simp [kdOf] at h
theorem ext_undrop {F H F' H' : Hp} {p : Addr} {o : HO} (n : H p = none) (e : Ext F (drop (upd H p o) p) F' (drop H' p)) : Ext F H F' H' := by
  have eq : drop (upd H p o) p = H := by
    rw [drop_upd]
    funext c
    by_cases h : c = p
    · rw [h, drop_at, n]
    · exact drop_ne h
  rw [eq] at e
  have up : ∀ {b : Addr} {u : HO}, drop H' p b = some u → H' b = some u := fun {b u} h => by
    by_cases z : b = p
    · rw [z, drop_at] at h; cases h
    · rw [drop_ne z] at h; exact h
  refine ⟨e.f, ⟨fun b u hb nt => up (e.h.keep b u hb nt), fun b ps hb => ?_, fun t on => ?_⟩, drop_same e.sub, e.new⟩
  · obtain ⟨m, q⟩ := e.h.tb b ps hb
    exact ⟨m, up q⟩
  · obtain ⟨ps, h1, h2, h3⟩ := e.h.ok t on
    refine ⟨ps, up h1, h2, fun pos cv q => ?_⟩
    obtain ⟨c, e1, e2⟩ := h3 pos cv q
    exact ⟨c, e1, up e2⟩
end
/-! ### matching -/
def Kd.sub (s : Int → Kd) : Kd → Kd
  | .o i => s i
  | .p a b => .p (a.sub s) (b.sub s)
def Kd.occ (i : Int) : Kd → Prop
  | .o j => j = i
  | .p a b => a.occ i ∨ b.occ i
/-- a substitution keeps what is known -/
def Kp (s : Int → Kd) (σ : Kn) : Prop := ∀ i x, σ.lookup i = some x → s i = x
theorem sub_congr {s t : Int → Kd} : ∀ {x : Kd}, (∀ i, x.occ i → s i = t i) → x.sub s = x.sub t
  | .o i, h => h i rfl
  | .p a b, h => by
    show Kd.p _ _ = Kd.p _ _
    rw [sub_congr fun i q => h i (.inl q), sub_congr fun i q => h i (.inr q)]
theorem look_app {σ : Kn} {i : Int} {y : Kd} (h : σ.lookup i = none) (j : Int) : (σ ++ [(i, y)]).lookup j = if j = i then some y else σ.lookup j := by
  rw [List.lookup_append]
  by_cases e : j = i
  · subst e
    rw [h, if_pos rfl]
    simp [List.lookup]
  · rw [if_neg e]
    have : (j == i) = false := by simpa using e
    cases q : σ.lookup j <;> simp [List.lookup, this]
/-- what matching finds: it goes on from what is known; all of it is kept, and it is right -/
theorem fit_spec : ∀ (x y : Kd) (σ : Kn), (∀ i z, σ.lookup i = some z → (fitL x y σ).2.lookup i = some z) ∧
    ((fitL x y σ).1 = true → (∀ i, x.occ i → ((fitL x y σ).2.lookup i).isSome = true) ∧ ∀ s, Kp s (fitL x y σ).2 → x.sub s = y) ∧
    ∀ s, Kp s σ → x.sub s = y → (fitL x y σ).1 = true ∧ Kp s (fitL x y σ).2
  | .o i, y, σ => by
    have e : fitL (.o i) y σ = match σ.lookup i with
      | some z => (decide (z = y), σ)
      | none => (true, σ ++ [(i, y)]) := by cases y <;> rfl
    rw [e]
    cases q : σ.lookup i with
    | some z =>
      refine ⟨fun j z h => h, fun h => ⟨fun j hj => ?_, fun s hs => ?_⟩, fun s hs h => ⟨?_, hs⟩⟩
      · have : i = j := hj
        rw [← this, q]; rfl
      · show s i = y
        rw [hs i z q]
        exact of_decide_eq_true h
      · have h' : s i = y := h
        rw [hs i z q] at h'
        exact decide_eq_true h'
    | none =>
      refine ⟨fun j z h => ?_, fun _ => ⟨fun j hj => ?_, fun s hs => ?_⟩, fun s hs h => ⟨rfl, fun j z hz => ?_⟩⟩
      · show (σ ++ [(i, y)]).lookup j = some z
        rw [look_app q, if_neg fun e => by rw [e, q] at h; cases h]
        exact h
      · have : i = j := hj
        show ((σ ++ [(i, y)]).lookup j).isSome = true
        rw [look_app q, if_pos this.symm]; rfl
      · exact hs i y (by show (σ ++ [(i, y)]).lookup i = some y; rw [look_app q, if_pos rfl])
      · have hz' : (σ ++ [(i, y)]).lookup j = some z := hz
        rw [look_app q] at hz'
        by_cases e : j = i
        · rw [if_pos e] at hz'
          cases hz'
          rw [e]; exact h
        · rw [if_neg e] at hz'
          exact hs j z hz'
  | .p a b, .o j, σ => ⟨fun i z h => h, fun h => (by cases h), fun s hs h => (by cases h)⟩
  | .p a b, .p c d, σ => by
    obtain ⟨i1, i2, i3⟩ := fit_spec a c σ
    have e : fitL (.p a b) (.p c d) σ = match fitL a c σ with
      | (true, σ1) => fitL b d σ1
      | (false, σ1) => (false, σ1) := rfl
    rw [e]
    generalize fitL a c σ = r at *
    obtain ⟨b1, σ1⟩ := r
    cases b1 with
    | false =>
      refine ⟨i1, fun h => (by cases h), fun s hs h => ?_⟩
      injection h with h1 h2
      have := (i3 s hs h1).1
      cases this
    | true =>
      obtain ⟨j1, j2, j3⟩ := fit_spec b d σ1
      obtain ⟨k1, k2⟩ := i2 rfl
      refine ⟨fun i z h => j1 i z (i1 i z h), fun h => ⟨fun i hi => ?_, fun s hs => ?_⟩, fun s hs h => ?_⟩
      · rcases hi with hi | hi
        · have := k1 i hi
          cases q : σ1.lookup i with
          | none =>
            have k : (σ1.lookup i).isSome = true := this
            rw [q] at k; cases k
          | some z =>
            show ((fitL b d σ1).2.lookup i).isSome = true
            rw [j1 i z q]; rfl
        · exact (j2 h).1 i hi
      · show Kd.p (a.sub s) (b.sub s) = _
        rw [k2 s (fun i x hx => hs i x (j1 i x hx)), (j2 h).2 s hs]
      · injection h with h1 h2
        obtain ⟨_, m2⟩ := i3 s hs h1
        exact j3 s m2 h2
/-- comes_of: with kinds put for the open numbers -/
theorem comes_iff (x y : Kd) : (fitL x y []).1 = true ↔ ∃ s, x.sub s = y := by
  obtain ⟨_, h2, h3⟩ := fit_spec x y []
  constructor
  · intro h
    refine ⟨fun i => ((fitL x y []).2.lookup i).getD (.o 0), (h2 h).2 _ fun i z hz => ?_⟩
    show ((fitL x y []).2.lookup i).getD (.o 0) = z
    rw [hz]; rfl
  · rintro ⟨s, h⟩
    exact (h3 s (fun i x hx => by cases hx) h).1
/-! ### numbers as they come first -/
def pos (i : Int) : List Int → Option Nat
  | [] => none
  | j :: r => if j = i then some 0 else (pos i r).map (· + 1)
def shpL : Kd → List Int → Kd × List Int
  | .o i, l => match pos i l with
    | some n => (.o (n : Nat), l)
    | none => (.o (l.length : Nat), l ++ [i])
  | .p a b, l => (.p (shpL a l).1 (shpL b (shpL a l).2).1, (shpL b (shpL a l).2).2)
def shp (x : Kd) : Kd := (shpL x []).1
theorem pos_some : ∀ {i : Int} {l : List Int} {n : Nat}, pos i l = some n → l[n]? = some i
  | i, j :: r, n, h => by
    unfold pos at h
    split at h
    · rename_i e
      cases h
      rw [e]; rfl
    · cases q : pos i r with
      | none => rw [q] at h; cases h
      | some m =>
        rw [q] at h
        cases h
        show (j :: r)[m + 1]? = some i
        rw [List.getElem?_cons_succ]
        exact pos_some q
theorem pos_none : ∀ {i : Int} {l : List Int}, pos i l = none → i ∉ l
  | i, [], _ => by simp
  | i, j :: r, h => by
    unfold pos at h
    split at h
    · cases h
    · rename_i e
      cases q : pos i r with
      | none =>
        intro m
        rcases List.mem_cons.mp m with m | m
        · exact e m.symm
        · exact pos_none q m
      | some m => rw [q] at h; cases h
/-- the list only grows, and leads back -/
theorem shp_back : ∀ (x : Kd) (l : List Int), (∃ m, (shpL x l).2 = l ++ m) ∧ ∀ s : Int → Kd, (∀ n i, (shpL x l).2[n]? = some i → s (n : Nat) = .o i) → (shpL x l).1.sub s = x
  | .o i, l => by
    unfold shpL
    cases q : pos i l with
    | some n => exact ⟨⟨[], (List.append_nil l).symm⟩, fun s hs => hs n i (pos_some q)⟩
    | none => exact ⟨⟨[i], rfl⟩, fun s hs => hs l.length i (by show (l ++ [i])[l.length]? = some i; simp)⟩
  | .p a b, l => by
    obtain ⟨⟨m1, e1⟩, h1⟩ := shp_back a l
    obtain ⟨⟨m2, e2⟩, h2⟩ := shp_back b (shpL a l).2
    refine ⟨⟨m1 ++ m2, ?_⟩, fun s hs => ?_⟩
    · show (shpL b (shpL a l).2).2 = _
      rw [e2, e1, List.append_assoc]
    · have hs' : ∀ (n : Nat) (i : Int), (shpL b (shpL a l).2).2[n]? = some i → s (n : Nat) = .o i := hs
      show Kd.p ((shpL a l).1.sub s) ((shpL b (shpL a l).2).1.sub s) = _
      rw [h2 s hs', h1 s fun n i q => hs' n i (by
        rw [e2]
        have : n < (shpL a l).2.length := (List.getElem?_eq_some_iff.mp q).1
        rw [List.getElem?_append_left this]
        exact q)]
/-- other numbers, one for one, change nothing -/
theorem pos_map {r : Int → Int} {i : Int} : ∀ {l : List Int}, (∀ j ∈ l, r j = r i → j = i) → pos (r i) (l.map r) = pos i l
  | [], _ => rfl
  | j :: t, h => by
    show (if r j = r i then some 0 else (pos (r i) (t.map r)).map (· + 1)) = if j = i then some 0 else (pos i t).map (· + 1)
    rw [pos_map fun k hk => h k (List.mem_cons_of_mem _ hk)]
    by_cases e : j = i
    · rw [if_pos e, if_pos (by rw [e])]
    · rw [if_neg e, if_neg fun q => e (h j List.mem_cons_self q)]
theorem shp_in : ∀ (x : Kd) (l : List Int) (i : Int), i ∈ (shpL x l).2 → i ∈ l ∨ x.occ i
  | .o j, l, i, h => by
    unfold shpL at h
    cases q : pos j l with
    | some n => rw [q] at h; exact .inl h
    | none =>
      rw [q] at h
      rcases List.mem_append.mp h with z | z
      · exact .inl z
      · exact .inr (List.mem_singleton.mp z).symm
  | .p a b, l, i, h => by
    rcases shp_in b (shpL a l).2 i h with z | z
    · rcases shp_in a l i z with y | y
      · exact .inl y
      · exact .inr (.inl y)
    · exact .inr (.inr z)
theorem shp_map {r : Int → Int} {s : Int → Kd} : ∀ (x : Kd) (l : List Int), (∀ i, x.occ i → s i = .o (r i)) → (∀ i j, (i ∈ l ∨ x.occ i) → (j ∈ l ∨ x.occ j) → r i = r j → i = j) → shpL (x.sub s) (l.map r) = ((shpL x l).1, (shpL x l).2.map r)
  | .o i, l, hs, hr => by
    have e : (Kd.o i).sub s = .o (r i) := hs i rfl
    rw [e]
    unfold shpL
    rw [pos_map fun j hj q => hr j i (.inl hj) (.inr rfl) q]
    cases pos i l with
    | some n => rfl
    | none =>
      dsimp only
      rw [List.length_map, List.map_append]; rfl
  | .p a b, l, hs, hr => by
    have h1 := shp_map a l (fun i q => hs i (.inl q)) fun i j hi hj => hr i j (hi.imp id .inl) (hj.imp id .inl)
    have h2 := shp_map b (shpL a l).2 (fun i q => hs i (.inr q)) fun i j hi hj => by
      refine hr i j ?_ ?_
      · rcases hi with z | z
        · exact (shp_in a l i z).imp id .inl
        · exact .inr (.inr z)
      · rcases hj with z | z
        · exact (shp_in a l j z).imp id .inl
        · exact .inr (.inr z)
    show (Kd.p (shpL (a.sub s) (l.map r)).1 (shpL (b.sub s) (shpL (a.sub s) (l.map r)).2).1, (shpL (b.sub s) (shpL (a.sub s) (l.map r)).2).2) = (Kd.p (shpL a l).1 (shpL b (shpL a l).2).1, (shpL b (shpL a l).2).2.map r)
    rw [h1]
    dsimp only
    rw [h2]
theorem shp_map0 {r : Int → Int} {s : Int → Kd} (x : Kd) (hs : ∀ i, x.occ i → s i = .o (r i)) (hr : ∀ i j, x.occ i → x.occ j → r i = r j → i = j) : shp (x.sub s) = shp x := by
  have := shp_map x [] hs fun i j hi hj => hr i j (hi.resolve_left (by simp)) (hj.resolve_left (by simp))
  unfold shp
  rw [show ([] : List Int) = ([] : List Int).map r from rfl, this]
  rfl
theorem shp_sub (x : Kd) : ∃ s, (shp x).sub s = x := by
  obtain ⟨_, h⟩ := shp_back x []
  refine ⟨fun n => match (shpL x []).2[n.toNat]? with
    | some i => .o i
    | none => .o 0, h _ fun n i q => ?_⟩
  show (match (shpL x []).2[((n : Nat) : Int).toNat]? with | some i => Kd.o i | none => .o 0) = .o i
  rw [Int.toNat_natCast, q]
/-- each comes of the other: one with other numbers -/
theorem mutual_shp {x y : Kd} {s t : Int → Kd} (h1 : x.sub s = y) (h2 : y.sub t = x) : shp y = shp x := by
  have key : ∀ (z : Kd), (z.sub s).sub t = z → ∀ i, z.occ i → (s i).sub t = .o i := fun z => by
    induction z with
    | o j => intro h i hi; have e : j = i := hi; subst e; exact h
    | p a b ia ib =>
      intro h i hi
      have h' : Kd.p ((a.sub s).sub t) ((b.sub s).sub t) = .p a b := h
      injection h' with e1 e2
      rcases hi with hi | hi
      · exact ia e1 i hi
      · exact ib e2 i hi
  have k := key x (by rw [h1, h2])
  have leaf : ∀ z : Kd, ∀ i, z.sub t = .o i → ∃ j, z = .o j := fun z i h => by
    cases z with
    | o j => exact ⟨j, rfl⟩
    | p a b => cases h
  rw [← h1]
  refine shp_map0 (r := fun i => match s i with | .o j => j | .p _ _ => 0) x (fun i hi => ?_) fun i j hi hj e => ?_
  · obtain ⟨j, q⟩ := leaf _ i (k i hi)
    show s i = .o (match s i with | .o j => j | .p _ _ => 0)
    rw [q]
  · obtain ⟨u, q1⟩ := leaf _ i (k i hi)
    obtain ⟨v, q2⟩ := leaf _ j (k j hj)
    have a := k i hi
    have b := k j hj
    have e' : (match s i with | .o j => j | .p _ _ => 0) = (match s j with | .o j => j | .p _ _ => (0 : Int)) := e
    rw [q1, q2] at e'
    have e2 : u = v := e'
    rw [q1] at a
    rw [q2, ← e2, a] at b
    injection b
end MW

set_option maxHeartbeats 4000000
namespace MW
open PySem PySem.Spec PyProof.Rows L2
open Res
def topS (i : Nat) : Stmt := PySem.Challenge.pw_makerword_k26_whole_what_comes_of_what.main.body.getD i (.Pass ⟨0, 0, 0, 0⟩)
abbrev s_fits : Stmt := topS 1
abbrev s_comes : Stmt := topS 2
abbrev s_shape : Stmt := topS 8
section
variable [Lam] {P : Program} {w : World} {K : PySem.W.Frag} {mg : Str → Option Value} {base : Heap}
theorem scF : FnScope ["one", "other", "known"] ["one", "other", "known"] (defScope s_fits) := ⟨rfl, rfl, rfl, by decide +kernel, rfl, by decide +kernel, by decide +kernel⟩
theorem ok_fits {f : Addr} {fd : FuncData} (F : Fun K "fits" "fits" s_fits f fd) (mf : mg "fits" = some (.ref f)) (bn : Binds K fd ["one", "other", "known"] []) (ni : mg "isinstance" = none) (nt : mg "tuple" = none) : ∀ k, FnOk P w K mg base (L2.CX P w) k f fd ["one", "other", "known"] (spFits K k)
  | 0 => ⟨fun vs H Q E h => by obtain ⟨_, _, _, _, _, _, _, _, rfl, _⟩ := h; rfl, fun A outer s H args us vs Q E _ _ _ _ q => by
      obtain ⟨_, _, _, _, _, _, _, _, _, _, _, _, _, _, _, h, _⟩ := q
      exact absurd h (Nat.not_lt_zero _)⟩
  | k + 1 => by
    have IH := ok_fits F mf bn ni nt k
    refine okY F scF (fun vs H Q E h => by obtain ⟨_, _, _, _, _, _, _, _, rfl, _⟩ := h; rfl) fun cdv A outer s H vs Q E hcd hrA hr h => ?_
    obtain ⟨F0, v1, v2, a, kvs, x, y, σ, rfl, s0, r1, r2, fa, ha, rk, hd, hy, hsz, kQ⟩ := h
    refine ⟨_, pss_cons (ps_if (pt_val (pe_callB call_isi rfl ni (by decide +kernel) (pa_cons (pv 0) (pa_cons (pe_bltn (v := .ty "tuple") (u := .type "tuple") rfl nt (by decide +kernel) rfl (by decide +kernel) (by decide +kernel)) pa_nil))))
      (pss_one (ps_ret (pe_and (pe_callB call_isi rfl ni (by decide +kernel) (pa_cons (pv 1) (pa_cons (pe_bltn (v := .ty "tuple") (u := .type "tuple") rfl nt (by decide +kernel) rfl (by decide +kernel) (by decide +kernel)) pa_nil)))
        (pe_and (pe_call IH hr rfl mf F.kp bn .nil passN (pa_cons (pe_ix ix_tup (pv 0) pe_int (fun _ _ => rfl)) (pa_cons (pe_ix ix_tup (pv 1) pe_int (fun _ _ => rfl)) (pa_cons (pv 2) pa_nil))))
          (pe_one (pe_call IH hr rfl mf F.kp bn .nil passN (pa_cons (pe_ix ix_tup (pv 0) pe_int (fun _ _ => rfl)) (pa_cons (pe_ix ix_tup (pv 1) pe_int (fun _ _ => rfl)) (pa_cons (pv 2) pa_nil))))))))) pss_nil)
      (pss_one (ps_ret (pe_cmpR (op_eqW (W := fun _ _ => False) hr) (pe_dsetd (pv 2) (pv 0) (pv 1) ⟨rfl, rfl, rfl, rfl⟩) (pv 1) (nomark _)))), ?_⟩
    cases x with
    | p xa xb =>
      have hd' : max xa.dep xb.dep + 1 < k + 1 := hd
      cases id r1 with
      | tup hs ra =>
        cases ra with
        | cons q1 ra =>
          cases ra with
          | cons q2 ra =>
            cases ra
            refine ⟨_, rfl, ⟨_, .ty "tuple", _, _, tyB (Kd.p xa xb).toD .tuple, rfl, .ty _, tyx_of s0 (.inl r1), kit_ty (kit_d (Kd.p xa xb).toD .tuple), ?_⟩⟩
            refine ⟨_, rfl, iteT ?_⟩
            refine ⟨_, rfl, ⟨_, .ty "tuple", _, _, tyB y.toD .tuple, rfl, .ty _, tyx_of s0 (.inl r2), kit_ty (kit_d y.toD .tuple), ?_⟩⟩
            refine ⟨_, rfl, ?_⟩
            cases y with
            | o j =>
              refine iteF ?_
              exact kQ F0 kvs H (Ext.refl (same_drop s0 fa)) fa ha rk
            | p ya yb =>
              refine iteT ?_
              have hy' : max ya.dep yb.dep + 1 ≤ 100 := hy
              cases id r2 with
              | tup hs2 rb =>
                cases rb with
                | cons p1 rb =>
                  cases rb with
                  | cons p2 rb =>
                    cases rb
                    have hsz' : σ.length + (xa.size + xb.size) ≤ 1000000 := hsz
                    have lf := fit_len xa ya σ
                    refine ⟨_, rfl, _, _, _, _, rfl, rfl, Same.sqt s0 hs, rfl, _, rfl, _, _, _, _, rfl, rfl, Same.sqt s0 hs2, rfl, _, rfl, F0, _, _, a, kvs, xa, ya, σ, rfl, s0, q1, p1, fa, ha, rk, by omega, by omega, by omega, fun F1 kvs1 H1 e1 n1 h1 rk1 => ?_⟩
                    have e : fitL (.p xa xb) (.p ya yb) σ = match fitL xa ya σ with
                      | (true, σ1) => fitL xb yb σ1
                      | (false, σ1) => (false, σ1) := rfl
                    rw [e] at kQ
                    generalize fitL xa ya σ = r at *
                    obtain ⟨b1, σ1⟩ := r
                    have lf' : σ1.length ≤ σ.length + xa.size := lf
                    have s1 : Same F1 H1 := drop_same e1.sub
                    cases b1 with
                    | false =>
                      refine ⟨_, rfl, iteF ?_⟩
                      exact kQ F1 kvs1 H1 e1 n1 h1 rk1
                    | true =>
                      refine ⟨_, rfl, iteT ?_⟩
                      refine ⟨_, rfl, _, _, _, _, rfl, rfl, Same.sqt s1 (Same.sqt e1.f hs), rfl, _, rfl, _, _, _, _, rfl, rfl, Same.sqt s1 (Same.sqt e1.f hs2), rfl, _, rfl, F1, _, _, a, kvs1, xb, yb, σ1, rfl, s1, q2.mono e1.f, p2.mono e1.f, n1, h1, rk1, by omega, by omega, by omega, fun F2 kvs2 H2 e2 n2 h2 rk2 => ?_⟩
                      exact kQ F2 kvs2 H2 (e1.trans e2) n2 h2 rk2
    | o i =>
      cases id r1
      have hsz' : σ.length + 1 ≤ 1000000 := hsz
      have lk : kvs.length = σ.length := by
        rw [rk.length]
        unfold knD
        rw [List.length_map]
      refine ⟨_, rfl, ⟨_, .ty "tuple", _, _, tyB (Kd.o i).toD .tuple, rfl, .ty _, tyx_of s0 (.inl r1), kit_ty (kit_d (Kd.o i).toD .tuple), ?_⟩⟩
      refine ⟨_, rfl, iteF ?_⟩
      have g := kv_get (.inl i) rk
      rw [kn_get] at g
      have e : fitL (.o i) y σ = match σ.lookup i with
        | some z => (decide (z = y), σ)
        | none => (true, σ ++ [(i, y)]) := by cases y <;> rfl
      rw [e] at kQ
      refine ⟨_, rfl, a, rfl, .inl ⟨kvs, .inl ha⟩, _, rfl, _, rfl, kvs, .inl i, ha, rfl, (show kvs.length < 16777216 by omega), fun v hv => ?_, fun hn => ?_⟩
      · rcases g with ⟨g1, _⟩ | ⟨v', d', g1, g2, g3⟩
        · rw [g1] at hv; cases hv
        · rw [g1] at hv
          cases hv
          cases q : σ.lookup i with
          | none => rw [q] at g2; cases g2
          | some z =>
            rw [q] at g2 kQ
            cases g2
            refine ⟨_, rfl, F0, z.toD, y.toD, s0, .inl g3, .inl r2, ?_⟩
            rw [Kd.eqD_k z y (by omega)]
            intro F1 H1 e1 u ru
            cases ru
            obtain ⟨e2, h2, n2⟩ := ext_drop e1 ha fa
            exact kQ F1 kvs H1 e2 n2 h2 (rk.mono e1.f)
      · rcases g with ⟨_, g2⟩ | ⟨v', d', g1, g2, g3⟩
        · have q : σ.lookup i = none := by
            cases q : σ.lookup i with
            | none => rfl
            | some z => rw [q] at g2; cases g2
          rw [q] at kQ
          have su : Same F0 (upd H a (.dK (L2.putK kvs (Sum.inl i) v2))) := fun b o hb => by
            rw [upd_ne (ne_of_none hb fa)]
            exact s0 b o hb
          refine ⟨_, rfl, F0, y.toD, y.toD, su, .inl r2, .inl r2, ?_⟩
          rw [Kd.eqD_k y y (by omega), decide_eq_true rfl]
          intro F1 H1 e1 u ru
          cases ru
          obtain ⟨e2, h2, n2⟩ := ext_drop e1 upd_same fa
          rw [drop_upd] at e2
          refine kQ F1 _ H1 e2 n2 h2 ?_
          have := kv_put (q := .inl i) r2 rk
          rw [kn_put i y σ q] at this
          exact this.mono e1.f
        · rw [g1] at hn; cases hn
end

section
variable [Lam] {P : Program} {w : World} {K : PySem.W.Frag} {mg : Str → Option Value} {base : Heap} {clsA : Nat → Addr}
theorem scC : FnScope ["one", "other"] ["one", "other"] (defScope s_comes) := ⟨rfl, rfl, rfl, by decide +kernel, rfl, by decide +kernel, by decide +kernel⟩
theorem comes_len (k : Nat) (ds : List D) (h : ds.length ≠ 2) : comesG k ds = .stuck := by
  match ds, h with
  | [], _ => rfl
  | [_], _ => rfl
  | [_, _], h => exact absurd rfl h
  | _ :: _ :: _ :: _, _ => rfl
theorem ok_comes {f fc : Addr} {fd fdc : FuncData} (F : Fun K "fits" "fits" s_fits f fd) (mf : mg "fits" = some (.ref f)) (bn : Binds K fd ["one", "other", "known"] []) (ni : mg "isinstance" = none) (nt : mg "tuple" = none) (FC : Fun K "comes_of" "comes_of" s_comes fc fdc) (k : Nat) : FnOk P w K mg base (L2.CX P w) (k + 1) fc fdc ["one", "other"] (spD K clsA 2 (comesG k)) := by
  have IH := ok_fits (P := P) (w := w) (base := base) F mf bn ni nt k
  refine okY FC scC (fun vs H Q E h => h.1) fun cdv A outer s H vs Q E hcd hrA hr h => ?_
  obtain ⟨hl, F0, ds, s0, ra, tb, kQ⟩ := h
  match vs, ra with
  | [v1, v2], .cons r1 (.cons r2 .nil) =>
    rename_i d1 d2
    cases q1 : kdOf d1 with
    | none =>
      have : comesG k [d1, d2] = .stuck := by show comesK k (kdOf d1) (kdOf d2) = _; rw [q1]; rfl
      rw [this] at kQ
      exact kQ.elim
    | some x =>
      cases q2 : kdOf d2 with
      | none =>
        have : comesG k [d1, d2] = .stuck := by show comesK k (kdOf d1) (kdOf d2) = _; rw [q1, q2]; rfl
        rw [this] at kQ
        exact kQ.elim
      | some y =>
        have e : comesG k [d1, d2] = need (decide (x.dep < k) && decide (y.dep ≤ 100) && decide (x.size ≤ 1000000)) (.ok (.bool (fitL x y []).1)) := by show comesK k (kdOf d1) (kdOf d2) = _; rw [q1, q2]; rfl
        rw [e] at kQ
        obtain ⟨hb, kQ⟩ := KR.need kQ
        rw [Bool.and_eq_true, Bool.and_eq_true, decide_eq_true_iff, decide_eq_true_iff, decide_eq_true_iff] at hb
        obtain ⟨⟨b1, b2⟩, b3⟩ := hb
        rw [← kd_to d1 x q1] at r1
        rw [← kd_to d2 y q2] at r2
        refine ⟨_, pss_one (ps_ret (pe_call IH hr rfl mf F.kp bn .nil passN (pa_cons (pv 0) (pa_cons (pv 1) (pa_cons pe_dnewK pa_nil))))), ?_⟩
        refine ⟨_, rfl, _, rfl, fun p np => ?_⟩
        have su : Same F0 (upd H p (.dK [])) := s0.trans (same_upd np)
        refine ⟨F0, v1, v2, p, [], x, y, [], rfl, su, r1, r2, s0.free np, upd_same, .nil, b1, b2, by rw [List.length_nil]; omega, fun F' kvs' H' e1 n1 h1 rk1 => ?_⟩
        exact kQ F' H' (ext_undrop np e1) _ (.bl _)
end

open NdefX LamX
section
variable [Lam] {P : Program} {w : World} {K : PySem.W.Frag} {mg : Str → Option Value} {base : Heap} {clsA : Nat → Addr}
/-- the def within -/
abbrev s_anew : Stmt := (defBody s_shape).getD 1 (.Pass ⟨0, 0, 0, 0⟩)
/-- what is seen, with its numbers -/
def seenF : Nat → List Int → List (D × D)
  | _, [] => []
  | n, i :: r => (.int i, .int (n : Nat)) :: seenF (n + 1) r
def spAnew (K : PySem.W.Frag) (k : Nat) (mk : Addr → NF) (f c' : Addr) : List (Option V) → Sp := fun ws vs H Q _ => ∃ F v1 a kvs x l, vs = [v1] ∧ ws = [some (.ref a), some (.ref f)] ∧ Same F H ∧ Rp K F v1 (Kd.toD x) ∧ F a = none ∧ H a = some (.dK kvs) ∧ RpKV K F kvs (seenF 0 l) ∧ H f = some (FnO f (mk c')) ∧ H c' = some (LamX.CodeO c' (mk c').qual) ∧ x.dep < k ∧ l.length + x.size ≤ 1000000 ∧ TabF F H ∧
  ∀ F' kvs' H' v', Ext F (drop H a) F' (drop H' a) → F' a = none → H' a = some (.dK kvs') → RpKV K F' kvs' (seenF 0 (shpL x l).2) → Rp K F' v' (shpL x l).1.toD → Q v' H'
theorem scA : NScope ["one", "seen", "_law_anew"] ["one"] ["seen", "_law_anew"] (C8.fnScope s_anew) := by
  constructor <;> first | rfl | decide +kernel
theorem seen_get (i : Int) : ∀ (l : List Int) (n : Nat), dictGet (seenF n l) (.inl i) = (pos i l).map fun m => .int ((n + m : Nat) : Int)
  | [], n => rfl
  | j :: r, n => by
    show (if (Sum.inl j : Key) = .inl i then some (PyData.int (n : Nat)) else dictGet (seenF (n + 1) r) (.inl i)) = ((if j = i then some 0 else (pos i r).map (· + 1)) : Option Nat).map _
    by_cases h : j = i
    · rw [if_pos (by rw [h]), if_pos h]; rfl
    · rw [if_neg fun e => h (by injection e), if_neg h, seen_get i r (n + 1), Option.map_map]
      congr 1
      funext m
      show PyData.int ((n + 1 + m : Nat) : Int) = .int ((n + (m + 1) : Nat) : Int)
      congr 2
      omega
theorem seen_app : ∀ (l : List Int) (n : Nat) (i : Int), seenF n (l ++ [i]) = seenF n l ++ [(.int i, .int ((n + l.length : Nat) : Int))]
  | [], n, i => rfl
  | j :: r, n, i => by
    show (PyData.int j, PyData.int (n : Nat)) :: seenF (n + 1) (r ++ [i]) = _
    rw [seen_app r (n + 1) i, List.length_cons, show n + (r.length + 1) = n + 1 + r.length by omega]
    rfl
end
open NdefX LamX
section
variable [Lam] {P : Program} {w : World} {K : PySem.W.Frag} {mg : Str → Option Value} {base : Heap} {clsA : Nat → Addr}
theorem shp_len : ∀ (x : Kd) (l : List Int), (shpL x l).2.length ≤ l.length + x.size
  | .o i, l => by
    unfold shpL
    cases pos i l with
    | some n => exact Nat.le_add_right _ _
    | none =>
      show (l ++ [i]).length ≤ _
      rw [List.length_append]; exact Nat.le_refl _
  | .p a b, l => by
    have h1 := shp_len a l
    have h2 := shp_len b (shpL a l).2
    show (shpL b (shpL a l).2).2.length ≤ l.length + (a.size + b.size)
    omega
theorem drop_new {H : Hp} {a p : Addr} {o : HO} (n : p ≠ a) : drop (upd H p o) a = upd (drop H a) p o := by
  funext c
  by_cases h : c = a
  · subst h
    rw [drop_at, upd_ne n.symm, drop_at]
  · rw [drop_ne h]
    by_cases e : c = p
    · subst e; rw [upd_same, upd_same]
    · rw [upd_ne e, upd_ne e, drop_ne h]
theorem ok_anew {q : Str} {cl : List (Str × Addr)} (ni : mg "isinstance" = none) (nt : mg "tuple" = none) (nl : mg "len" = none) : ∀ k f c', NOk P w K mg base (L2.CX P w) k f (NF.of s_anew "_law_anew" q cl c') ["one"] ["seen", "_law_anew"] (spAnew K k (NF.of s_anew "_law_anew" q cl) f c')
  | 0, f, c' => ⟨fun ws vs H Q E h => by obtain ⟨_, _, _, _, _, _, rfl, _⟩ := h; rfl, fun A outer s H us vs ws Q E _ _ _ _ _ _ h => by
      obtain ⟨_, _, _, _, _, _, _, _, _, _, _, _, _, _, _, h, _⟩ := h
      exact absurd h (Nat.not_lt_zero _)⟩
  | k + 1, f, c' => by
    have IH := ok_anew ni nt nl (q := q) (cl := cl) k
    refine nok_of (N := ["one", "seen", "_law_anew"]) scA (fun doc pm ctv us hl => ?_) (fun ws vs H Q E h => by obtain ⟨_, _, _, _, _, _, rfl, _⟩ := h; rfl) fun A outer s H vs ws Q E hr hf hc hw h => ?_
    · match us, hl with
      | [u], _ => rfl
    · obtain ⟨F0, v1, a, kvs, x, l, rfl, rfl, s0, r1, fa, ha, rk, hff, hcc, hd, hsz, tb, kQ⟩ := h
      refine ⟨_, pss_cons (ps_if (pt_val (pe_callB call_isi rfl ni (by decide +kernel) (pa_cons (pv 0) (pa_cons (pe_bltn (v := .ty "tuple") (u := .type "tuple") rfl nt (by decide +kernel) rfl (by decide +kernel) (by decide +kernel)) pa_nil))))
        (pss_one (ps_ret (pe_tup (pa_cons (pe_calln (i := 2) (js := [1, 2]) IH (fun _ => rfl) (fun _ => Caps.self (F := NF.of s_anew "_law_anew" q cl c') scA rfl rfl rfl) hr (Nat.le_refl _) passN rfl (.inr (.inr rfl)) (pa_cons (pe_ix ix_tup (pv 0) pe_int (fun _ _ => rfl)) pa_nil)) (pa_cons (pe_calln (i := 2) (js := [1, 2]) IH (fun _ => rfl) (fun _ => Caps.self (F := NF.of s_anew "_law_anew" q cl c') scA rfl rfl rfl) hr (Nat.le_refl _) passN rfl (.inr (.inr rfl)) (pa_cons (pe_ix ix_tup (pv 0) pe_int (fun _ _ => rfl)) pa_nil)) pa_nil))))) pss_nil)
        (pss_one (ps_ret (pe_dsetd (pv 1) (pv 0) (pe_callB call_lenD rfl nl PySem.boot_len (pa_cons (pv 1) pa_nil)) ⟨rfl, rfl, rfl, rfl⟩))), ?_⟩
      have nfa : f ≠ a := fun e => by rw [e, ha] at hff; cases hff
      have nca : c' ≠ a := fun e => by rw [e, ha] at hcc; cases hcc
      have keepF : ∀ {F1 H1 : Hp}, Ext F0 (drop H a) F1 (drop H1 a) → H1 f = some (FnO f (NF.of s_anew "_law_anew" q cl c')) ∧ H1 c' = some (CodeO c' q) := fun {F1 H1} e => by
        have h1 := e.h.keep f _ (by rw [drop_ne nfa]; exact hff) (fun ps z => fnO_ne ps z)
        have h2 := e.h.keep c' _ (by rw [drop_ne nca]; exact hcc) (fun ps z => by cases z)
        rw [drop_ne nfa] at h1
        rw [drop_ne nca] at h2
        exact ⟨h1, h2⟩
      cases x with
      | p xa xb =>
        have hd' : max xa.dep xb.dep + 1 < k + 1 := hd
        have hsz' : l.length + (xa.size + xb.size) ≤ 1000000 := hsz
        cases id r1 with
        | tup hs ra =>
          cases ra with
          | cons q1 ra =>
            cases ra with
            | cons q2 ra =>
              cases ra
              refine ⟨_, rfl, ⟨_, .ty "tuple", _, _, tyB (Kd.p xa xb).toD .tuple, rfl, .ty _, tyx_of s0 (.inl r1), kit_ty (kit_d (Kd.p xa xb).toD .tuple), ?_⟩⟩
              refine ⟨_, rfl, iteT ?_⟩
              refine ⟨f, c', rfl, hff, _, rfl, _, _, _, _, rfl, rfl, Same.sqt s0 hs, rfl, hff, hcc, F0, _, a, kvs, xa, l, rfl, rfl, s0, q1, fa, ha, rk, hff, hcc, by omega, by omega, tb, fun F1 kvs1 H1 u1 e1 n1 h1 rk1 ru1 => ?_⟩
              have s1 : Same F1 H1 := drop_same e1.sub
              have lf := shp_len xa l
              have tb1 : TabF F1 H1 := by
                have t0 : TabF F0 (drop H a) := ⟨(tab_drop ha).mpr tb.1, tb.2⟩
                have t1 := t0.more e1
                exact ⟨(tab_drop h1).mp t1.1, t1.2⟩
              refine ⟨f, c', rfl, (keepF e1).1, _, rfl, _, _, _, _, rfl, rfl, Same.sqt s1 (Same.sqt e1.f hs), rfl, (keepF e1).1, (keepF e1).2, F1, _, a, kvs1, xb, (shpL xa l).2, rfl, rfl, s1, q2.mono e1.f, n1, h1, rk1, (keepF e1).1, (keepF e1).2, by omega, by omega, tb1, fun F2 kvs2 H2 u2 e2 n2 h2 rk2 ru2 => ⟨show 2 ≤ 16777216 by decide, fun p np => ?_⟩⟩
              have npa : p ≠ a := fun e => by rw [e, h2] at np; cases np
              have n3 : drop H2 a p = none := by rw [drop_ne npa]; exact np
              have e3 := Ext.add (o := .tup [u1, u2]) e2.sub n3
              rw [← drop_new npa] at e3
              have fp : F2 p = none := e2.sub.free n3
              refine kQ (upd F2 p (.tup [u1, u2])) kvs2 _ (.ref p) (e1.trans (e2.trans e3)) (by rw [upd_ne npa.symm]; exact n2) (by rw [upd_ne npa.symm]; exact h2) (rk2.mono e3.f) ?_
              exact .tup (.inl (.inl upd_same)) (.cons ((ru1.mono e2.f).mono e3.f) (.cons (ru2.mono e3.f) .nil))
      | o i =>
        cases id r1
        have hsz' : l.length + 1 ≤ 1000000 := hsz
        have lk : kvs.length = l.length := by
          rw [rk.length]
          have : ∀ (l : List Int) (n : Nat), (seenF n l).length = l.length := fun l => by
            induction l with
            | nil => intro n; rfl
            | cons j r ih => intro n; show (seenF (n + 1) r).length + 1 = _; rw [ih]; rfl
          exact this l 0
        refine ⟨_, rfl, ⟨_, .ty "tuple", _, _, tyB (Kd.o i).toD .tuple, rfl, .ty _, tyx_of s0 (.inl r1), kit_ty (kit_d (Kd.o i).toD .tuple), ?_⟩⟩
        refine ⟨_, rfl, iteF ?_⟩
        have g := kv_get (.inl i) rk
        rw [seen_get] at g
        have e : shpL (.o i) l = match pos i l with
          | some n => (.o (n : Nat), l)
          | none => (.o (l.length : Nat), l ++ [i]) := rfl
        rw [e] at kQ
        refine ⟨_, rfl, a, rfl, .inl ⟨kvs, .inl ha⟩, _, rfl, _, rfl, a, kvs, rfl, ha, kvs, .inl i, ha, rfl, (show kvs.length < 16777216 by omega), fun v hv => ?_, fun hn => ?_⟩
        · rcases g with ⟨g1, _⟩ | ⟨v', d', g1, g2, g3⟩
          · rw [g1] at hv; cases hv
          · rw [g1] at hv
            cases hv
            cases z : pos i l with
            | none => rw [z] at g2; cases g2
            | some n =>
              rw [z] at g2 kQ
              cases g2
              have g4 : Rp K F0 v (.int ((0 + n : Nat) : Int)) := g3
              rw [Nat.zero_add] at g4
              exact kQ F0 kvs H v (Ext.refl (same_drop s0 fa)) fa ha rk g4
        · rcases g with ⟨_, g2⟩ | ⟨v', d', g1, g2, g3⟩
          · have z : pos i l = none := by
              cases z : pos i l with
              | none => rfl
              | some m => rw [z] at g2; cases g2
            rw [z] at kQ
            have e2 : Ext F0 (drop H a) F0 (drop (upd H a (.dK (L2.putK kvs (Sum.inl i) (.int (kvs.length : Nat))))) a) := by
              rw [drop_upd]
              exact Ext.refl (same_drop s0 fa)
            refine kQ F0 _ _ _ e2 fa upd_same ?_ (by rw [lk]; exact .int _)
            have := kv_put (q := .inl i) (Rp.int (K := K) (F := F0) (kvs.length : Nat)) rk
            have ep : dictPut (seenF 0 l) (.inl i) (.int (kvs.length : Nat)) = seenF 0 (l ++ [i]) := by
              unfold dictPut
              rw [seen_get, z, seen_app, Nat.zero_add, lk]
              rfl
            rw [ep] at this
            exact this
          · rw [g1] at hn; cases hn
end

open NdefX LamX
section
variable [Lam] {X : Cx} {pins : List (Addr × Obj)} {σ : L2.St} {H : Hp} {s : Shared}
/-- a def within a def is made: its code object is new, or told by the table -/
theorem ndef_make3 {c : Addr} {name : Str} {params : Arguments} {body : List Stmt} {scope : Scope} {pos : Pos} {E : Value → Shared → Prop} {Q : Value → Shared → Prop} (I : Inv X pins σ H s) (TB : LamX.TabB X.base X.mg c Lam.P) (hcode : X.env.code = .ref c) (hnm : X.env.qual ++ name = Lam.nm) (tab : TabG H) (on : Lam.on = true)
    (hfree : ∀ y ∈ scope.names, y.2 = .free → ∃ c, X.env.cells.lookup y.1 = some c)
    (fin : ∀ (f c' : Addr) (H1 : Hp) (s' : Shared), Inv X pins σ H1 s' → SameG H H1 → (∀ b o, b ≠ Lam.P → H b = some o → H1 b = some o) → H f = none → H1 f = some (FnO f ⟨name, X.env.qual ++ name, params, body, scope, cloFrom X.env.cells scope.names [], c'⟩) → H1 c' = some (CodeO c' (X.env.qual ++ name)) → Q (.ref f) s') :
    wpAny (model X.prog X.w) X.A (makeFunction name (X.env.qual ++ name) params (.stmts body) scope X.env [] [] [] pos pos.line) Q E s := by
  obtain ⟨ps, hP, ht, ha⟩ := tab on
  have bP : s.heap.BuiltinsAt X.mg Lam.P := TB.bm.keeps I.bk
  have hP' : s.heap.get? Lam.P = some { cls := .none, data := .fields ps } := I.hok Lam.P _ hP
  cases hc : codeAmong pos ps.toList with
  | none =>
    refine PySem.W.makeFunction_K (mg := X.mg) (c := c) (P := Lam.P) (ps := ps) (closure_ok hfree) I.ok.glob (I.mod.glob.keeps I.bk) hcode (TB.code.keeps I.bk) hP' ht hc TB.gP bP fun c' ctv doc h' tk hx hge hlt hrec htb => ?_
    obtain ⟨c2, oc, vs, t, e2, hoc, hd, hv⟩ := hrec
    cases e2
    have hsz : s.heap.objs.size ≤ h'.objs.size := Nat.le_trans hge (Nat.le_of_lt hlt)
    have nC : H c' = none := I.hok.fresh hge
    have I1 := LamX.inv_table (t' := tk) (more := #[rawInt pos.line, rawInt pos.col, .ref c']) (h' := h') I hP (fun b o hb e => hx b o hb e) htb hge ⟨oc, vs, t, hoc, hd, hv⟩
    have I2 := inv_fn (F := ⟨name, X.env.qual ++ name, params, body, scope, cloFrom X.env.cells scope.names [], c'⟩) (t' := tk) (doc := doc) (pm := (X.mg "__name__").getD .none) (ctv := ctv) I1 rfl
    have nF := I1.hok.fresh (Nat.le_refl _)
    have nF0 : H h'.objs.size = none := I.hok.fresh hsz
    have nP : Lam.P ≠ c' := ne_of_none hP nC
    have fP : Lam.P ≠ h'.objs.size := ne_of_none hP nF0
    have fC : c' ≠ h'.objs.size := Nat.ne_of_lt hlt
    have at1 : ∀ b o, b ≠ Lam.P → H b = some o → upd (upd (upd H Lam.P (.tbl (ps ++ #[rawInt pos.line, rawInt pos.col, .ref c']))) c' (LamX.CodeO c' (X.env.qual ++ name))) h'.objs.size (FnO h'.objs.size ⟨name, X.env.qual ++ name, params, body, scope, cloFrom X.env.cells scope.names [], c'⟩) b = some o := fun b o hb e => by
      rw [upd_ne (ne_of_none e nF0), upd_ne (ne_of_none e nC), upd_ne hb]; exact e
    have atP : upd (upd (upd H Lam.P (.tbl (ps ++ #[rawInt pos.line, rawInt pos.col, .ref c']))) c' (LamX.CodeO c' (X.env.qual ++ name))) h'.objs.size (FnO h'.objs.size ⟨name, X.env.qual ++ name, params, body, scope, cloFrom X.env.cells scope.names [], c'⟩) Lam.P = some (.tbl (ps ++ #[rawInt pos.line, rawInt pos.col, .ref c'])) := by rw [upd_ne fP, upd_ne nP, upd_same]
    have atC : upd (upd (upd H Lam.P (.tbl (ps ++ #[rawInt pos.line, rawInt pos.col, .ref c']))) c' (LamX.CodeO c' (X.env.qual ++ name))) h'.objs.size (FnO h'.objs.size ⟨name, X.env.qual ++ name, params, body, scope, cloFrom X.env.cells scope.names [], c'⟩) c' = some (LamX.CodeO c' (X.env.qual ++ name)) := by rw [upd_ne fC, upd_same]
    have eL : (ps ++ #[rawInt pos.line, rawInt pos.col, .ref c']).toList = ps.toList ++ [rawInt pos.line, rawInt pos.col, .ref c'] := (by simp)
    refine fin h'.objs.size c' _ _ I2 ⟨fun b o e n => ?_, fun b qs e => ?_, fun _ _ => ?_⟩ at1 nF0 upd_same atC
    · refine at1 b o (fun z => ?_) e
      rw [z, hP] at e
      exact n ps (Option.some.inj e).symm
    · by_cases hb : b = Lam.P
      · subst hb
        rw [hP] at e
        cases e
        exact ⟨_, atP⟩
      · exact ⟨#[], by rw [at1 b _ hb e]; simp⟩
    · refine ⟨_, atP, by rw [eL]; exact PySem.TriplesOk_snoc _ _ _ _ ht, fun p' cv hcv => ?_⟩
      rw [eL] at hcv
      rcases LamX.among_app _ ht hcv with z | z
      · obtain ⟨c0, e1, e2⟩ := ha p' cv z
        refine ⟨c0, e1, at1 _ _ (fun z => ?_) e2⟩
        rw [z, hP] at e2
        cases e2
      · exact ⟨c', z, by rw [← hnm]; exact atC⟩
  | some cv =>
    obtain ⟨c', e, hco⟩ := ha pos cv hc
    subst e
    refine PySem.W.makeFunction_hit (mg := X.mg) (c := c) (P := Lam.P) (ps := ps) (closure_ok hfree) I.ok.glob (I.mod.glob.keeps I.bk) hcode (TB.code.keeps I.bk) hP' ht hc bP fun ctv doc h' tk hx hsz => ?_
    have I1 : Inv X pins σ H { s with heap := h', toks := tk } := I.kept hx
    have I2 := inv_fn (F := ⟨name, X.env.qual ++ name, params, body, scope, cloFrom X.env.cells scope.names [], c'⟩) (t' := tk) (doc := doc) (pm := (X.mg "__name__").getD .none) (ctv := ctv) I1 rfl
    have nF : H h'.objs.size = none := I1.hok.fresh (Nat.le_refl _)
    exact fin h'.objs.size c' _ _ I2 (SameG.of fun b o e => by rw [upd_ne (ne_of_none e nF)]; exact e) (fun b o _ e => by rw [upd_ne (ne_of_none e nF)]; exact e) nF upd_same (by rw [upd_ne (ne_of_none hco nF), hnm]; exact hco)
end
section
variable [Lam] {X : Cx}
def tNdef3 (i : Nat) (mk : Addr → NF) : TS := fun D σ H => TabG H ∧ ∀ (f c' : Addr) (H1 : Hp), SameG H H1 → (∀ b o, b ≠ Lam.P → H b = some o → H1 b = some o) → H f = none → H1 f = some (FnO f (mk c')) → H1 c' = some (CodeO c' (mk c').qual) → D.nx (σ.set i (some (.ref f))) H1
theorem ps_ndef3 {st : Stmt} {c : Addr} {name : Str} {pos : Pos} {i : Nat} (hst : st = .FunctionDef name (C8.fnArgs st) (C8.fnBody st) [] none [] (C8.fnScope st) none name pos) (on : Lam.on = true) (TB : TabB X.base X.mg c Lam.P) (hcode : X.env.code = .ref c) (hnm : X.env.qual ++ name = Lam.nm)
    (free : ∀ y ∈ (C8.fnScope st).names, y.2 = .free → X.env.scope.names.lookup y.1 = some .cell ∨ X.env.scope.names.lookup y.1 = some .free) (d0 : (C8.fnArgs st).defaults = []) (k0 : (C8.fnArgs st).kw_defaults = []) (an : annTrees (C8.fnArgs st) none X.env = [])
    (nd : X.N.Nodup) (hi : X.N[i]? = some name) (hl : Loc X.env.scope name) (hf : X.fn name = true ∨ X.env.scope.names.lookup name = some .local) :
    PS X st (tNdef3 i (NF.of st name (X.env.qual ++ name) (cloFrom X.env.cells (C8.fnScope st).names []))) := by
  rw [hst]
  refine ⟨fun pins s σ H D I h => ?_⟩
  obtain ⟨tab, h⟩ := h
  have hq : qualnameIn X.env name name = X.env.qual ++ name := by
    have z : X.env.kindOf name = some .local ∨ X.env.kindOf name = some .cell := hl
    unfold qualnameIn
    rcases z with k | k <;> rw [k] <;> first | rfl | exact if_neg (by decide)
  refine PySem.W.nestDef_K d0 k0 an ?_
  rw [hq]
  have cells : ∀ y ∈ (C8.fnScope st).names, y.2 = .free → ∃ c, X.env.cells.lookup y.1 = some c := fun y hy e => by
    rcases free y hy e with z | z
    · exact I.ok.has _ (.inl z)
    · exact I.ok.has _ (.inr z)
  refine ndef_make3 I TB hcode hnm tab on cells fun f c' H1 s' I1 sg sk f0 f1 c1 => ?_
  exact store_ok I1 nd hi hl (v := .ref f) rfl (fun s'' J => ⟨_, H1, J, h f c' H1 sg sk f0 f1 c1⟩) hf
end

open NdefX LamX
section
variable [Lam] {P : Program} {w : World} {K : PySem.W.Frag} {mg : Str → Option Value} {base : Heap} {clsA : Nat → Addr}
theorem ext_join {F H H1 F' H' : Hp} {p : Addr} {o : HO} {kvs kvs' : List (Key × V)} (sg : SameG (upd H p o) H1) (n : H p = none) (h1 : H1 p = some (.dK kvs)) (h' : H' p = some (.dK kvs')) (t : TabG H) (e : Ext F (drop H1 p) F' (drop H' p)) : Ext F H F' H' := by
  have ne : ∀ {b : Addr} {u : HO}, H b = some u → b ≠ p := fun h => ne_of_none h n
  have sg0 : SameG H (upd H p o) := SameG.of fun b u q => by rw [upd_ne (ne q)]; exact q
  have up : ∀ {b : Addr} {u : HO}, drop H' p b = some u → H' b = some u := fun {b u} h => by
    by_cases z : b = p
    · rw [z, drop_at] at h; cases h
    · rw [drop_ne z] at h; exact h
  refine ⟨e.f, ⟨fun b u hb nt => ?_, fun b ps hb => ?_, fun t => (tab_drop h').mp (e.h.ok ((tab_drop h1).mpr (sg.ok (sg0.ok t))))⟩, drop_same e.sub, fun a u ha => ?_⟩
  · have q := sg.keep b u (sg0.keep b u hb nt) nt
    exact up (e.h.keep b u (by rw [drop_ne (ne hb)]; exact q) nt)
  · obtain ⟨m1, q1⟩ := sg0.tb b ps hb
    obtain ⟨m2, q2⟩ := sg.tb b _ q1
    obtain ⟨m3, q3⟩ := e.h.tb b _ (by rw [drop_ne (ne hb)]; exact q2)
    exact ⟨m1 ++ m2 ++ m3, by rw [up q3]; simp [Array.append_assoc]⟩
  · rcases e.new a u ha with z | z
    · exact .inl z
    · refine .inr ?_
      cases q : H a with
      | none => rfl
      | some v =>
        rw [drop_ne (ne q)] at z
        rw [(sg0.trans sg).free z] at q
        cases q
theorem scS : FnScope ["kind", "seen", "_law_anew"] ["kind"] (defScope s_shape) := ⟨rfl, rfl, rfl, by decide +kernel, rfl, by decide +kernel, by decide +kernel⟩
theorem freeS : ∀ y ∈ (C8.fnScope s_anew).names, y.2 = .free → (defScope s_shape).names.lookup y.1 = some .cell ∨ (defScope s_shape).names.lookup y.1 = some .free := by decide +kernel
theorem inS : ∀ y ∈ (["seen", "_law_anew"] : List Str), (y, NameKind.free) ∈ (C8.fnScope s_anew).names := by decide +kernel
def shapeK (k : Nat) (o : Option Kd) : Res D := match o with
  | some x => need (decide (x.dep < k) && decide (x.size ≤ 1000000)) (.ok (shp x).toD)
  | none => .stuck
def shapeG (k : Nat) (ds : List D) : Res D := match ds with
  | [d] => shapeK k (kdOf d)
  | _ => .stuck
theorem shape_len (k : Nat) (ds : List D) (h : ds.length ≠ 1) : shapeG k ds = .stuck := by
  match ds, h with
  | [], _ => rfl
  | [_], h => exact absurd rfl h
  | _ :: _ :: _, _ => rfl
theorem ok_shape {f0 : Addr} {fd : FuncData} (F : Fun K "_law_shape" "_law_shape" s_shape f0 fd) (ni : mg "isinstance" = none) (nt : mg "tuple" = none) (nl : mg "len" = none) (on : Lam.on = true) (hcd : ∃ c, fd.code = .ref c ∧ LamX.TabB base mg c Lam.P) (hnm : "_law_shape" ++ ".<locals>." ++ "_law_anew" = Lam.nm) (k : Nat) : FnOk P w K mg base (L2.CX P w) (k + 1) f0 fd ["kind"] (spD K clsA 1 (shapeG k)) := by
  refine okY F scS (fun vs H Q E h => h.1) fun cdv A outer s H vs Q E hcd' hrA hr h => ?_
  obtain ⟨c, hc1, TB⟩ := hcd
  obtain ⟨hl, F0, ds, s0, ra, tb, kQ⟩ := h
  match vs, ra with
  | [v1], .cons r1 .nil =>
    rename_i d1
    cases q1 : kdOf d1 with
    | none =>
      have : shapeG k [d1] = .stuck := by show shapeK k (kdOf d1) = _; rw [q1]; rfl
      rw [this] at kQ
      exact kQ.elim
    | some x =>
      have e : shapeG k [d1] = need (decide (x.dep < k) && decide (x.size ≤ 1000000)) (.ok (shp x).toD) := by show shapeK k (kdOf d1) = _; rw [q1]; rfl
      rw [e] at kQ
      obtain ⟨hb, kQ⟩ := KR.need kQ
      rw [Bool.and_eq_true, decide_eq_true_iff, decide_eq_true_iff] at hb
      obtain ⟨b1, b2⟩ := hb
      rw [← kd_to d1 x q1] at r1
      refine ⟨_, pss_cons (ps_set (i := 1) scS.nd rfl (Or.inr rfl) pe_dnewK) (pss_cons (ps_ndef3 (i := 2) rfl on TB (hcd'.symm.trans hc1) hnm freeS rfl rfl rfl scS.nd rfl (.inr rfl) (.inl rfl)) (pss_one (ps_ret (pe_calln (i := 2) (js := [1, 2]) (fun f c' => ok_anew (q := "_law_shape" ++ ".<locals>." ++ "_law_anew") (cl := cloFrom (cxOf (L2.CX P w) P w K mg base ["kind", "seen", "_law_anew"] "_law_shape" (defScope s_shape) f0 cdv A outer s H E).env.cells (C8.fnScope s_anew).names []) ni nt nl k f c') (fun _ => rfl) (fun ok => Caps.made ok freeS inS rfl) hr (Nat.le_refl _) passN rfl (.inr (.inl rfl)) (pa_cons (pv 0) pa_nil))))), ?_⟩
      intro p np
      have su : Same F0 (upd H p (.dK [])) := s0.trans (same_upd np)
      have t1 : TabG (upd H p (.dK [])) := (SameG.of (same_upd np)).ok tb.1
      refine ⟨t1, fun f c' H1 sg sk f0' f1 c1 => ?_⟩
      have h1 : H1 p = some (.dK []) := sg.dK upd_same
      have s1 : Same F0 H1 := fun b o hb => by
        exact sk b o (fun z => by rw [z, tb.2 on] at hb; cases hb) (su b o hb)
      refine ⟨f, c', rfl, f1, _, rfl, f1, c1, F0, v1, p, [], x, [], rfl, rfl, s1, r1, s0.free np, h1, .nil, f1, c1, b1, by rw [List.length_nil]; omega, ⟨sg.ok t1, tb.2⟩, fun F' kvs' H' v' e1 n1 h2 rk1 rv => ?_⟩
      exact kQ F' H' (ext_join sg np h1 h2 tb.1 e1) v' rv
end

section
variable [Lam] {P : Program} {w : World} {K : PySem.W.Frag} {mg : Str → Option Value} {base : Heap} {clsA : Nat → Addr}
theorem ok_stuck {x q : Str} {st : Stmt} {f : Addr} {fd : FuncData} {ps : List Str} {k : Nat} (F : Fun K x q st f fd) : FnOk P w K mg base (L2.CX P w) (k + 1) f fd ps (spD K clsA ps.length fun _ => .stuck) :=
  ⟨fun vs H Q E q => q.1, fun A outer s H args us vs Q E _ _ _ _ q => by
    obtain ⟨_, F, ds, _, _, _, q⟩ := q
    exact q.elim⟩
/-- one name, one def -/
theorem code_at {x q : Str} {st st' : Stmt} {f f' : Addr} {fd fd' : FuncData} (F : Fun K x q st f fd) (m : mg x = some (.ref f)) (F' : Fun K x q st' f' fd') (m' : mg x = some (.ref f')) : fd'.code = fd.code := by
  rw [m] at m'
  cases m'
  obtain ⟨_, _, _, _, _, _, _, _, _, _, l, _⟩ := F.ex
  obtain ⟨_, _, _, _, _, _, _, _, _, _, l', _⟩ := F'.ex
  rw [l] at l'
  cases l'
  rfl
end

abbrev i_f_fits : Nat := 0
abbrev i_f_comes_of : Nat := 1
abbrev i_l_cell : Nat := 2
abbrev i_l_mix : Nat := 3
abbrev i_l_kind : Nat := 4
abbrev i_l_with : Nat := 5
abbrev i_l_shape : Nat := 6
abbrev i_f_law : Nat := 7
def b_l_cell : Ss :=
    (.cons (.ite (.cmp .Lt (.var 1) (.blt .len (.cons (.var 0) .nil))) (.cons (.ret (.ix (.var 0) (.var 1))) .nil) .nil)
    (.cons (.ret (.cst (.int 0))) .nil))
def b_l_mix : Ss :=
    (.cons (.asg 3 (.bin .Mod (.bin .Mult (.var 0) (.cst (.int 48271))) (.var 1)))
    (.cons (.ret (.bin .Mod (.bin .Mod (.bin .Mult (.var 3) (.bin .Add (.var 3) (.cst (.int 7)))) (.var 1)) (.var 2))) .nil))
def b_l_kind : Ss :=
    (.cons (.ite (.cmp .Lt (.var 1) (.cst (.int 2))) (.cons (.ret (.call i_l_mix (.cons (.var 0) (.cons (.cst (.int 9491)) (.cons (.cst (.int 4)) .nil))))) .nil) .nil)
    (.cons (.asg 2 (.bin .Add (.cst (.int 1)) (.call i_l_mix (.cons (.var 0) (.cons (.cst (.int 9479)) (.cons (.bin .Sub (.var 1) (.cst (.int 1))) .nil))))))
    (.cons (.ret (.tup (.cons (.call i_l_kind (.cons (.bin .Add (.bin .Mult (.var 0) (.cst (.int 3))) (.cst (.int 1))) (.cons (.var 2) .nil))) (.cons (.call i_l_kind (.cons (.bin .Add (.bin .Mult (.var 0) (.cst (.int 5))) (.cst (.int 2))) (.cons (.bin .Sub (.var 1) (.var 2)) .nil))) .nil)))) .nil)))
def b_l_with : Ss :=
    (.cons (.ite (.isi (.var 0) [.tuple]) (.cons (.ret (.tup (.cons (.call i_l_with (.cons (.ix (.var 0) (.cst (.int 0))) (.cons (.var 1) .nil))) (.cons (.call i_l_with (.cons (.ix (.var 0) (.cst (.int 1))) (.cons (.var 1) .nil))) .nil)))) .nil) .nil)
    (.cons (.ret (.ix (.var 1) (.var 0))) .nil))
def b_f_law_2 : Ss :=
    (.cons (.ite (.or (.cmp .IsNot (.call i_f_comes_of (.cons (.var 6) (.cons (.var 6) .nil))) (.cst (.bool true))) (.cmp .IsNot (.call i_f_comes_of (.cons (.cst (.int 5)) (.cons (.var 6) .nil))) (.cst (.bool true)))) (.cons (.ret (.cst (.bool false))) .nil) .nil) .nil)
def b_f_law_1 : Ss :=
    (.cons (.asg 2 (.bin .Add (.call i_l_cell (.cons (.var 0) (.cons (.bin .Mod (.var 1) (.cst (.int 9))) .nil))) (.mulL (83) (.var 1))))
      (.cons (.asg 3 (.call i_l_kind (.cons (.var 2) (.cons (.bin .Add (.cst (.int 1)) (.call i_l_mix (.cons (.var 2) (.cons (.cst (.int 9473)) (.cons (.cst (.int 6)) .nil))))) .nil))))
      (.cons (.asg 4 (.call i_l_with (.cons (.var 3) (.cons (.comp (.call i_l_kind (.cons (.bin .Add (.var 2) (.mulL (7) (.var 8))) (.cons (.bin .Add (.cst (.int 1)) (.call i_l_mix (.cons (.bin .Add (.var 2) (.var 8)) (.cons (.cst (.int 9467)) (.cons (.cst (.int 3)) .nil))))) .nil))) (.name 8) .range (.cons (.cst (.int 4)) .nil) .nil [("n", 8)]) .nil))))
      (.cons (.asg 5 (.call i_l_with (.cons (.var 4) (.cons (.comp (.call i_l_kind (.cons (.bin .Add (.var 2) (.mulL (11) (.var 8))) (.cons (.bin .Add (.cst (.int 1)) (.call i_l_mix (.cons (.bin .Add (.var 2) (.var 8)) (.cons (.cst (.int 9463)) (.cons (.cst (.int 2)) .nil))))) .nil))) (.name 8) .range (.cons (.cst (.int 4)) .nil) .nil [("n", 8)]) .nil))))
      (.cons (.for (.name 6) .of (.cons (.tup (.cons (.var 3) (.cons (.var 4) (.cons (.var 5) .nil)))) .nil) b_f_law_2)
      (.cons (.ite (.or (.cmp .IsNot (.call i_f_comes_of (.cons (.var 3) (.cons (.var 4) .nil))) (.cst (.bool true))) (.or (.cmp .IsNot (.call i_f_comes_of (.cons (.var 4) (.cons (.var 5) .nil))) (.cst (.bool true))) (.cmp .IsNot (.call i_f_comes_of (.cons (.var 3) (.cons (.var 5) .nil))) (.cst (.bool true))))) (.cons (.ret (.cst (.bool false))) .nil) .nil)
      (.cons (.ite (.cmp .NotEq (.call i_f_comes_of (.cons (.var 4) (.cons (.var 3) .nil))) (.cmp .Eq (.call i_l_shape (.cons (.var 4) .nil)) (.call i_l_shape (.cons (.var 3) .nil)))) (.cons (.ret (.cst (.bool false))) .nil) .nil)
      (.cons (.asg 7 (.call i_l_kind (.cons (.bin .Add (.var 2) (.cst (.int 3))) (.cons (.bin .Add (.cst (.int 1)) (.call i_l_mix (.cons (.var 2) (.cons (.cst (.int 9461)) (.cons (.cst (.int 6)) .nil))))) .nil))))
      (.cons (.ite (.and (.call i_f_comes_of (.cons (.var 3) (.cons (.var 7) .nil))) (.and (.call i_f_comes_of (.cons (.var 7) (.cons (.var 3) .nil))) (.cmp .NotEq (.call i_l_shape (.cons (.var 3) .nil)) (.call i_l_shape (.cons (.var 7) .nil))))) (.cons (.ret (.cst (.bool false))) .nil) .nil)
      (.cons (.ite (.cmp .NotEq (.call i_f_comes_of (.cons (.tup (.cons (.var 3) (.cons (.var 3) .nil))) (.cons (.tup (.cons (.var 4) (.cons (.var 7) .nil))) .nil))) (.cmp .Eq (.var 4) (.var 7))) (.cons (.ret (.cst (.bool false))) .nil) .nil) .nil))))))))))
def b_f_law : Ss :=
    (.cons (.for (.name 1) .range (.cons (.cst (.int 16)) .nil) b_f_law_1)
    (.cons (.ret (.cst (.bool true))) .nil))
def tbl : List Def := [
  ⟨"fits", ["one", "other", "known"], ["one", "other", "known"], topS 1, .nil, false, some (fun _ _ => .stuck)⟩,
  ⟨"comes_of", ["one", "other"], ["one", "other"], topS 2, .nil, false, some (comesG)⟩,
  ⟨"_law_cell", ["script", "k"], ["script", "k"], topS 4, b_l_cell, false, none⟩,
  ⟨"_law_mix", ["cell", "prime", "many"], ["cell", "prime", "many", "blend"], topS 5, b_l_mix, false, none⟩,
  ⟨"_law_kind", ["cell", "size"], ["cell", "size", "front"], topS 6, b_l_kind, false, none⟩,
  ⟨"_law_with", ["kind", "put"], ["kind", "put"], topS 7, b_l_with, false, none⟩,
  ⟨"_law_shape", ["kind"], ["kind"], topS 8, .nil, false, some (shapeG)⟩,
  ⟨"law", ["script"], ["script", "k", "cell", "one", "two", "three", "kind", "other", "n"], topS 9, b_f_law, false, none⟩]
def clsN : List Str := []
def cstN : List Str := []
set_option maxHeartbeats 4000000 in
theorem tbl_chk : tblB tbl cstN clsN = true := by decide +kernel
def cs : Nat → Res D := fun _ => .stuck
def clsA : Nat → Addr := fun _ => 0
abbrev T := semT tbl cs
theorem c_f_comes_of (k : Nat) : callN T (k + 1) i_f_comes_of = comesG k := rfl
theorem c_l_cell (k : Nat) : callN T (k + 1) i_l_cell = runF (callN T k) cs 2 2 b_l_cell := rfl
theorem c_l_mix (k : Nat) : callN T (k + 1) i_l_mix = runF (callN T k) cs 4 3 b_l_mix := rfl
theorem c_l_kind (k : Nat) : callN T (k + 1) i_l_kind = runF (callN T k) cs 3 2 b_l_kind := rfl
theorem c_l_with (k : Nat) : callN T (k + 1) i_l_with = runF (callN T k) cs 2 2 b_l_with := rfl
theorem c_l_shape (k : Nat) : callN T (k + 1) i_l_shape = shapeG k := rfl
theorem c_f_law (k : Nat) : callN T (k + 1) i_f_law = runF (callN T k) cs 9 1 b_f_law := rfl
local macro_rules | `(tactic| walk_at "ev") => `(tactic| simp -implicitDefEqProofs only [rF', stE, x_cons, x_nil, x_asg, x_asgO', x_asgT, x_par, x_app', x_ext', x_put', x_frz', x_ret, x_ite, x_for, x_brk, x_cnt, x_pass, x_raise, x_expr, nxt_n, nxt_r, nxt_b, nxt_c, tk_n, tk_c, tk_b, tk_r, e_var, e_own, e_int, e_str, e_bool, e_none, e_tup, e_lst, e_dic0, e_bin, e_neg', e_mulL', e_cmp, e_chain, e_and, e_or, e_not, e_ife, e_ix, e_slc, e_glob, e_slc3, e_lenset, e_rep, e_meth, st_rev, st_two, mo_l, mo_s, mo_i, mo_j, md_l, md_s, md_i, md_j, e_call, e_blt, e_isi, e_comp, s_nil, s_cons, t_and, t_or, t_not, t_cmp, t_chain, t_chain3, t_var, t_own, t_call, t_blt, t_isi, t_ix, t_ife, t_comp, ts_nil, ts_cons, andT_t, andT_f, orT_t, orT_f, andR_t, andR_f, orR_t, orR_f, ifR_t, ifR_f, bd, tr_b, tr_n, tr_l, tr_t, tr_i, tr_d, a_ii, a_ss, a_ll, a_tt, s_ii, m_ii, r_ii, d_ii, c_eq, c_ne, c_lt, c_le, c_gt, c_ge, c_is, c_isn, c_in, c_nin, is_n, is_b, eq_ii, ne_ii, eq_bb, ne_bb, b_ok, b_stuck, b_exn, n_t, m_ok, rv0, rvs, ro0, ro0', ros, sv0, svs, o_t, o_f, oi, negK_i, mulK_i, appK_o, extK_o, extK2_l, putK_o, putK2_s, putK2_i, frzK_o, frzK_v, ow_l, ow_d, i_l, i_t, i_d, i_di, opt_s, ix0, ix1, ix2, sl_l, sl_t, l_l, l_t, l_d, bl_len, bl_min, bl_max, bl_tl, bl_tt, bl_ll, bl_lt, bl_ls, bl_so, bl_ib, bl_all, it_l, it_t, it_s, it_r1, it_r2, it_e, it_rev, ty_ss, ty_st, ty_tt, ty_ts, ty_it, ty_ii, ab_a, ab_c, ab_v, ab_b, ab_n, ab_bl, ab_ca, ab_ix, ab_mu, is_s, is_nn, is_t, is_l, is_i, is_bl, in_d, g_name, g_tup, gs_nil, gs_cons, fk_r, fk_n, List.map_cons, List.map_nil, List.length_cons, List.length_nil, List.getElem?_cons_zero, List.getElem?_cons_succ, List.set_cons_zero, List.set_cons_succ, List.cons_append, List.nil_append, List.replicate_succ, List.replicate_zero, Nat.reduceAdd, Nat.reduceSub, Nat.reduceLT, Nat.reduceEqDiff, decide_true, decide_false, Bool.true_and, Bool.and_true, Bool.true_or, Bool.or_true, Bool.false_and, Bool.and_false, Bool.not_true, Bool.not_false, List.length_map, List.length_append, fz, Nat.reduceLeDiff, Nat.zero_add, beq_self_eq_true, *])
local macro_rules | `(tactic| walk_at "evf") => `(tactic| simp -implicitDefEqProofs only [for_cons, for_nil, rF', stE, x_cons, x_nil, x_asg, x_asgO', x_asgT, x_par, x_app', x_ext', x_put', x_frz', x_ret, x_ite, x_for, x_brk, x_cnt, x_pass, x_raise, x_expr, nxt_n, nxt_r, nxt_b, nxt_c, tk_n, tk_c, tk_b, tk_r, e_var, e_own, e_int, e_str, e_bool, e_none, e_tup, e_lst, e_dic0, e_bin, e_neg', e_mulL', e_cmp, e_chain, e_and, e_or, e_not, e_ife, e_ix, e_slc, e_glob, e_slc3, e_lenset, e_rep, e_meth, st_rev, st_two, mo_l, mo_s, mo_i, mo_j, md_l, md_s, md_i, md_j, e_call, e_blt, e_isi, e_comp, s_nil, s_cons, t_and, t_or, t_not, t_cmp, t_chain, t_chain3, t_var, t_own, t_call, t_blt, t_isi, t_ix, t_ife, t_comp, ts_nil, ts_cons, andT_t, andT_f, orT_t, orT_f, andR_t, andR_f, orR_t, orR_f, ifR_t, ifR_f, bd, tr_b, tr_n, tr_l, tr_t, tr_i, tr_d, a_ii, a_ss, a_ll, a_tt, s_ii, m_ii, r_ii, d_ii, c_eq, c_ne, c_lt, c_le, c_gt, c_ge, c_is, c_isn, c_in, c_nin, is_n, is_b, eq_ii, ne_ii, eq_bb, ne_bb, b_ok, b_stuck, b_exn, n_t, m_ok, rv0, rvs, ro0, ro0', ros, sv0, svs, o_t, o_f, oi, negK_i, mulK_i, appK_o, extK_o, extK2_l, putK_o, putK2_s, putK2_i, frzK_o, frzK_v, ow_l, ow_d, i_l, i_t, i_d, i_di, opt_s, ix0, ix1, ix2, sl_l, sl_t, l_l, l_t, l_d, bl_len, bl_min, bl_max, bl_tl, bl_tt, bl_ll, bl_lt, bl_ls, bl_so, bl_ib, bl_all, it_l, it_t, it_s, it_r1, it_r2, it_e, it_rev, ty_ss, ty_st, ty_tt, ty_ts, ty_it, ty_ii, ab_a, ab_c, ab_v, ab_b, ab_n, ab_bl, ab_ca, ab_ix, ab_mu, is_s, is_nn, is_t, is_l, is_i, is_bl, in_d, g_name, g_tup, gs_nil, gs_cons, fk_r, fk_n, List.map_cons, List.map_nil, List.length_cons, List.length_nil, List.getElem?_cons_zero, List.getElem?_cons_succ, List.set_cons_zero, List.set_cons_succ, List.cons_append, List.nil_append, List.replicate_succ, List.replicate_zero, Nat.reduceAdd, Nat.reduceSub, Nat.reduceLT, Nat.reduceEqDiff, decide_true, decide_false, Bool.true_and, Bool.and_true, Bool.true_or, Bool.or_true, Bool.false_and, Bool.and_false, Bool.not_true, Bool.not_false, List.length_map, List.length_append, fz, Nat.reduceLeDiff, Nat.zero_add, beq_self_eq_true, *])
local macro_rules | `(tactic| walk_at "evn") => `(tactic| simp -implicitDefEqProofs only [rF', stE, x_cons, x_nil, x_asg, x_asgO', x_asgT, x_par, x_app', x_ext', x_put', x_frz', x_ret, x_ite, x_brk, x_cnt, x_pass, x_raise, x_expr, nxt_n, nxt_r, nxt_b, nxt_c, tk_n, tk_c, tk_b, tk_r, e_var, e_own, e_int, e_str, e_bool, e_none, e_tup, e_lst, e_dic0, e_bin, e_neg', e_mulL', e_cmp, e_chain, e_and, e_or, e_not, e_ife, e_ix, e_slc, e_glob, e_slc3, e_lenset, e_rep, e_meth, st_rev, st_two, mo_l, mo_s, mo_i, mo_j, md_l, md_s, md_i, md_j, e_call, e_blt, e_isi, e_comp, s_nil, s_cons, t_and, t_or, t_not, t_cmp, t_chain, t_chain3, t_var, t_own, t_call, t_blt, t_isi, t_ix, t_ife, t_comp, ts_nil, ts_cons, andT_t, andT_f, orT_t, orT_f, andR_t, andR_f, orR_t, orR_f, ifR_t, ifR_f, bd, tr_b, tr_n, tr_l, tr_t, tr_i, tr_d, a_ii, a_ss, a_ll, a_tt, s_ii, m_ii, r_ii, d_ii, c_eq, c_ne, c_lt, c_le, c_gt, c_ge, c_is, c_isn, c_in, c_nin, is_n, is_b, eq_ii, ne_ii, eq_bb, ne_bb, b_ok, b_stuck, b_exn, n_t, m_ok, rv0, rvs, ro0, ro0', ros, sv0, svs, o_t, o_f, oi, negK_i, mulK_i, appK_o, extK_o, extK2_l, putK_o, putK2_s, putK2_i, frzK_o, frzK_v, ow_l, ow_d, i_l, i_t, i_d, i_di, opt_s, ix0, ix1, ix2, sl_l, sl_t, l_l, l_t, l_d, bl_len, bl_min, bl_max, bl_tl, bl_tt, bl_ll, bl_lt, bl_ls, bl_so, bl_ib, bl_all, it_l, it_t, it_s, it_e, it_rev, ty_ss, ty_st, ty_tt, ty_ts, ty_it, ty_ii, ab_a, ab_c, ab_v, ab_b, ab_n, ab_bl, ab_ca, ab_ix, ab_mu, is_s, is_nn, is_t, is_l, is_i, is_bl, in_d, g_name, g_tup, gs_nil, gs_cons, fk_r, fk_n, List.map_cons, List.map_nil, List.length_cons, List.length_nil, List.getElem?_cons_zero, List.getElem?_cons_succ, List.set_cons_zero, List.set_cons_succ, List.cons_append, List.nil_append, List.replicate_succ, List.replicate_zero, Nat.reduceAdd, Nat.reduceSub, Nat.reduceLT, Nat.reduceEqDiff, decide_true, decide_false, Bool.true_and, Bool.and_true, Bool.true_or, Bool.or_true, Bool.false_and, Bool.and_false, Bool.not_true, Bool.not_false, List.length_map, List.length_append, fz, Nat.reduceLeDiff, Nat.zero_add, beq_self_eq_true, *])

def mixZ (c p m : Int) : Int := (c * 48271 % p) * ((c * 48271 % p) + 7) % p % m
theorem mix_lo (c p m : Int) (hm : 0 < m) : 0 ≤ mixZ c p m := Int.emod_nonneg _ (Int.ne_of_gt hm)
theorem mix_hi (c p m : Int) (hm : 0 < m) : mixZ c p m < m := Int.emod_lt_of_pos _ hm
theorem mix_eq (k : Nat) (c p m : Int) (hk : 1 ≤ k) (hp : 0 < p) (hp2 : p < 2 ^ 63) (hm : 0 < m) : callN T k i_l_mix [.int c, .int p, .int m] = .ok (.int (mixZ c p m)) := by
  obtain ⟨k, rfl⟩ : ∃ j, k = j + 1 := ⟨k - 1, by omega⟩
  have h1 := Int.emod_lt_of_pos (c * 48271) hp
  have h2 := Int.emod_nonneg (c * 48271) (Int.ne_of_gt hp)
  have z : small64 (c * 48271 % p + 7) = true := sm _ (by omega) (by omega)
  have z2 : small64 48271 = true := by decide
  rw [c_l_mix]
  unfold b_l_mix
  walk_at "ev"
  rfl

def cellZ (ns : List Int) (k : Nat) : Int := ns.getD k 0
theorem cell_eq (k : Nat) (ns : List Int) (j : Nat) (hk : 1 ≤ k) : callN T k i_l_cell [.list (ns.map .int), .int (j : Nat)] = .ok (.int (cellZ ns j)) := by
  obtain ⟨k, rfl⟩ : ∃ i, k = i + 1 := ⟨k - 1, by omega⟩
  rw [c_l_cell]
  unfold b_l_cell
  by_cases h : j < ns.length
  · have e : decide ((j : Int) < (ns.length : Int)) = true := decide_eq_true (by omega)
    have q : ixD (ns.map .int) (j : Int) = .ok (.int (cellZ ns j)) := ixNat _ j _ (by
      rw [List.getElem?_map, List.getElem?_eq_getElem h]
      show some (PyData.int ns[j]) = some (PyData.int (ns.getD j 0))
      rw [List.getD_eq_getElem?_getD, List.getElem?_eq_getElem h]; rfl)
    walk_at "ev"
  · have e : decide ((j : Int) < (ns.length : Int)) = false := decide_eq_false (by omega)
    have q : cellZ ns j = 0 := by
      unfold cellZ
      rw [List.getD_eq_getElem?_getD, List.getElem?_eq_none (by omega)]; rfl
    walk_at "ev"

theorem ix_str (l : List Nat) (j : Nat) (c : Nat) (h : l[j]? = some c) (hl : l.length ≤ 16777216) : itemD (.str (ofL l)) (.int (j : Nat)) = .ok (.str (ofL [c])) := by
  have hj : j < l.length := (List.getElem?_eq_some_iff.mp h).1
  show need (fitsZ l.toArray.size) (match atI l (j : Int) with | some c => .ok (chD c) | none => .stuck) = _
  have e : atI l (j : Int) = some c := by
    unfold atI ixN
    rw [if_pos (by omega), if_pos (by omega), Int.toNat_natCast]
    exact h
  rw [e, List.size_toArray, fz _ hl]
  rfl
theorem eq_ss {a b : Str} (ha : PyData.strOk a = true) (hb : PyData.strOk b = true) : eqD (.str a) (.str b) = .ok (.bool (decide (a = b))) := by
  unfold eqD eqOk
  show need ((PyData.strOk a && PyData.strOk b) && _) (Res.ok (PyData.bool (a == b))) = _
  rw [ha, hb]
  show Res.ok (PyData.bool (a == b)) = _
  rw [Bool.beq_eq_decide_eq]
theorem ne_ss {a b : Str} (ha : PyData.strOk a = true) (hb : PyData.strOk b = true) : neD (.str a) (.str b) = .ok (.bool (!decide (a = b))) := by
  unfold neD eqOk
  show need ((PyData.strOk a && PyData.strOk b) && _) (Res.ok (PyData.bool (!(a == b)))) = _
  rw [ha, hb]
  show Res.ok (PyData.bool (!(a == b))) = _
  rw [Bool.beq_eq_decide_eq]
theorem lay_strs : ∀ (ss : List Str), (∀ s ∈ ss, PyData.strOk s = true) → PyData.canLayAll0 (ss.map .str) = true
  | [], _ => rfl
  | s :: r, h => by
    show (PyData.strOk s && PyData.canLayAll0 (r.map .str)) = true
    rw [h s List.mem_cons_self, lay_strs r fun x hx => h x (List.mem_cons_of_mem _ hx)]; rfl
theorem dep_strs : ∀ (ss : List Str), PyData.depthAll (ss.map .str) = 0
  | [] => rfl
  | s :: r => by
    show max 0 (PyData.depthAll (r.map .str)) = 0
    rw [dep_strs r]; rfl
theorem any_strs (s : Str) : ∀ ss : List Str, ((ss.map PyData.str).any fun z => PyData.eqv z (.str s)) = decide (s ∈ ss)
  | [] => by simp
  | x :: r => by
    rw [List.map_cons, List.any_cons, any_strs s r]
    show ((x == s) || _) = _
    by_cases h : x = s
    · rw [h, beq_self_eq_true]; simp
    · rw [beq_eq_false_iff_ne.mpr h]
      have h' : ¬ s = x := fun e => h e.symm
      simp [h']
theorem in_strs {s : Str} {ss : List Str} (h1 : PyData.strOk s = true) (h2 : ∀ x ∈ ss, PyData.strOk x = true) : inD (.str s) (.list (ss.map .str)) = .ok (decide (s ∈ ss)) := by
  show need (inOk (.str s) (ss.map .str)) _ = _
  have e : inOk (.str s) (ss.map .str) = true := by
    unfold inOk
    show ((PyData.strOk s && PyData.canLayAll0 (ss.map .str)) && (decide (0 ≤ lim) || _)) = true
    rw [h1, lay_strs ss h2]; rfl
  rw [e, any_strs]
  rfl
theorem in_strsT {s : Str} {ss : List Str} (h1 : PyData.strOk s = true) (h2 : ∀ x ∈ ss, PyData.strOk x = true) : inD (.str s) (.tuple (ss.map .str)) = .ok (decide (s ∈ ss)) := by
  show need (inOk (.str s) (ss.map .str)) _ = _
  have e : inOk (.str s) (ss.map .str) = true := by
    unfold inOk
    show ((PyData.strOk s && PyData.canLayAll0 (ss.map .str)) && (decide (0 ≤ lim) || _)) = true
    rw [h1, lay_strs ss h2]; rfl
  rw [e, any_strs]
  rfl
theorem natOf {z : Int} (h : 0 ≤ z) : ∃ n : Nat, z = (n : Int) := ⟨z.toNat, by omega⟩
theorem can_find {ms : List Mk} (w : Wd) (hn : (ms.map Mk.nm).Nodup) : can ms w = ms.find? fun m => decide (m.nm = w.hd) && decide (m.many = w.args.length) := by
  unfold can fnd
  induction ms with
  | nil => rfl
  | cons m r ih =>
    rw [List.map_cons, List.nodup_cons] at hn
    rw [List.find?_cons, List.find?_cons]
    by_cases h : m.nm = w.hd
    · rw [h, beq_self_eq_true, decide_eq_true rfl, Bool.true_and]
      by_cases e : m.many = w.args.length
      · rw [decide_eq_true e]
        show (if m.many = w.args.length then some m else none) = some m
        rw [if_pos e]
      · rw [decide_eq_false e]
        show (if m.many = w.args.length then some m else none) = List.find? _ r
        rw [if_neg e]
        exact (List.find?_eq_none.mpr fun m' hm' => by
          have : m'.nm ≠ w.hd := fun q => hn.1 (by rw [h, ← q]; exact List.mem_map_of_mem hm')
          simp [this]).symm
    · rw [beq_eq_false_iff_ne.mpr h, decide_eq_false h, Bool.false_and]
      exact ih hn.2
theorem ok_nil : PyData.strOk (ofL []) = true := plS_ok [] (by decide)
theorem ok_f : PyData.strOk (ofL [102]) = true := plS_ok [true] (by decide)
theorem ok_b : PyData.strOk (ofL [98]) = true := plS_ok [false] (by decide)
theorem eq_ff : eqD (.str (ofL [102])) (.str (ofL [102])) = .ok (.bool true) := by
  rw [eq_ss ok_f ok_f, decide_eq_true rfl]
theorem eq_bf : eqD (.str (ofL [98])) (.str (ofL [102])) = .ok (.bool false) := by
  rw [eq_ss ok_b ok_f, decide_eq_false fun e => by have := ofL_inj e; cases this]
theorem eq_fb : eqD (.str (ofL [102])) (.str (ofL [98])) = .ok (.bool false) := by
  rw [eq_ss ok_f ok_b, decide_eq_false fun e => by have := ofL_inj e; cases this]
theorem eq_b2 : eqD (.str (ofL [98])) (.str (ofL [98])) = .ok (.bool true) := by
  rw [eq_ss ok_b ok_b, decide_eq_true rfl]
theorem fnd_of : ∀ {ms : List Mk} {m : Mk}, (ms.map Mk.nm).Nodup → m ∈ ms → fnd ms m.nm = some m
  | [], _, _, h => by cases h
  | m' :: r, m, nd, h => by
    rw [List.map_cons, List.nodup_cons] at nd
    show List.find? _ (m' :: r) = _
    rw [List.find?_cons]
    rcases List.mem_cons.mp h with rfl | h
    · rw [beq_self_eq_true]
    · have n : m'.nm ≠ m.nm := fun e => nd.1 (e ▸ List.mem_map_of_mem h)
      rw [beq_eq_false_iff_ne.mpr n]
      exact fnd_of nd.2 h

def Goes (sc : D) (n : Nat) (x : Res Fl) : Prop := ∃ r' : List (Option Slot), r'.length = n ∧ (x = .ok (.next (some (.val sc) :: r')) ∨ x = .ok (.cnt (some (.val sc) :: r')))
theorem for_inv {g : D → Env → Res Env} {b : Env → Res Fl} (I : Env → Prop) : ∀ (ds : List D), (∀ d ∈ ds, ∀ env, I env → ∃ env1 env2, g d env = .ok env1 ∧ (b env1 = .ok (.next env2) ∨ b env1 = .ok (.cnt env2)) ∧ I env2) → ∀ env, I env → ∃ env', forL g b ds env = .ok (.next env') ∧ I env'
  | [], _, env, h => ⟨env, rfl, h⟩
  | d :: r, H, env, h => by
    obtain ⟨e1, e2, a, c, i⟩ := H d List.mem_cons_self env h
    obtain ⟨e3, f, i3⟩ := for_inv I r (fun d' h' => H d' (List.mem_cons_of_mem _ h')) e2 i
    rcases c with c | c
    · exact ⟨e3, by rw [for_cons, a, b_ok, c, b_ok, tk_n, f], i3⟩
    · exact ⟨e3, by rw [for_cons, a, b_ok, c, b_ok, tk_c, f], i3⟩
theorem x_for_range {Φ : Phi} {env : Env} (g : G) (ia : Es) (b : Ss) (n : Nat) (h : evs Φ cs ia env = .ok [.int (n : Nat)]) (hn : n ≤ 16777216) : ex Φ cs (.for g .range ia b) env = forL (bindG g) (exs Φ cs b) ((List.range n).map fun i => .int (i : Nat)) env := by
  rw [x_for, h, b_ok, it_r1, rg0 n hn, b_ok]
/-- the law's own loop over a range: each turn goes on -/
theorem law_loop {Φ : Phi} {sc : D} (m n : Nat) (b : Ss) (hn : n ≤ 1000) (H : ∀ j < n, ∀ r : List (Option Slot), r.length = m → Goes sc (m + 1) (exs Φ cs b (some (.val sc) :: some (.val (.int (j : Nat))) :: r))) (r : List (Option Slot)) (hr : r.length = m + 1) : ∃ r', r'.length = m + 1 ∧ ex Φ cs (.for (.name 1) .range (.cons (.cst (.int (n : Nat))) .nil) b) (some (.val sc) :: r) = .ok (.next (some (.val sc) :: r')) := by
  have E : evs Φ cs (.cons (.cst (.int (n : Nat))) .nil) (some (.val sc) :: r) = .ok [.int (n : Nat)] := rfl
  rw [x_for_range _ _ _ n E (by omega)]
  obtain ⟨env', h1, r', h2, rfl⟩ := for_inv (g := bindG (.name 1)) (b := exs Φ cs b) (fun env => ∃ r : List (Option Slot), r.length = m + 1 ∧ env = some (.val sc) :: r) ((List.range n).map fun i => .int (i : Nat)) (fun d hd env he => by
    obtain ⟨j, hj, rfl⟩ := List.mem_map.mp hd
    obtain ⟨r, hr, rfl⟩ := he
    match r, hr with
    | x :: r, hr =>
      obtain ⟨r', l, e⟩ := H j (List.mem_range.mp hj) r (by rw [List.length_cons] at hr; omega)
      exact ⟨_, _, rfl, e, r', l, rfl⟩) _ ⟨r, hr, rfl⟩
  exact ⟨r', h2, h1⟩
/-- the whole law: a loop, then True -/
theorem law_run {k : Nat} {ns : List Int} (N n : Nat) (b : Ss) (hN : 2 ≤ N) (hn : n ≤ 1000) (H : ∀ j < n, ∀ r : List (Option Slot), r.length = N - 2 → Goes (.list (ns.map .int)) (N - 1) (exs (callN T k) cs b (some (.val (.list (ns.map .int))) :: some (.val (.int (j : Nat))) :: r))) : runF (callN T k) cs N 1 (.cons (.for (.name 1) .range (.cons (.cst (.int (n : Nat))) .nil) b) (.cons (.ret (.cst (.bool true))) .nil)) [.list (ns.map .int)] = .ok (.bool true) := by
  obtain ⟨m, rfl⟩ : ∃ m, N = m + 2 := ⟨N - 2, by omega⟩
  obtain ⟨r', l, e⟩ := law_loop (Φ := callN T k) (sc := .list (ns.map .int)) m n b hn H (List.replicate (m + 1) none) (by rw [List.length_replicate])
  have st : startE (m + 2) [PyData.list (ns.map .int)] = some (.val (.list (ns.map .int))) :: List.replicate (m + 1) none := by
    rw [stE]
    rfl
  have f : exs (callN T k) cs (.cons (.ret (.cst (.bool true))) .nil) (some (.val (.list (ns.map .int))) :: r') = .ok (.ret (.bool true)) := by
    rw [x_cons, x_ret, e_bool, b_ok, b_ok, nxt_r]
  rw [rF', st, x_cons, e, b_ok, nxt_n, f, b_ok, fk_r]
  rfl
theorem lay_t {ss : List Str} (h : ∀ s ∈ ss, PyData.strOk s = true) : (PyData.tuple (ss.map .str)).canLay0 = true := lay_strs ss h
theorem eqv_strs : ∀ ss : List Str, PyData.eqvAll (ss.map .str) (ss.map .str) = true
  | [] => rfl
  | s :: r => by
    show ((s == s) && PyData.eqvAll (r.map .str) (r.map .str)) = true
    rw [beq_self_eq_true, eqv_strs r]; rfl
theorem ne_strs {ss : List Str} (h : ∀ s ∈ ss, PyData.strOk s = true) : neD (.tuple (ss.map .str)) (.tuple (ss.map .str)) = .ok (.bool false) := by
  unfold neD eqOk
  have d : (PyData.tuple (ss.map .str)).depth ≤ lim := by
    show PyData.depthAll (ss.map .str) + 1 ≤ 150
    rw [dep_strs]; decide
  rw [lay_t h, decide_eq_true d]
  show Res.ok (PyData.bool (!PyData.eqvAll (ss.map .str) (ss.map .str))) = _
  rw [eqv_strs]; rfl
theorem eq_nil {ss : List Str} (h : ∀ s ∈ ss, PyData.strOk s = true) : eqD (.list (ss.map .str)) (.list []) = .ok (.bool ss.isEmpty) := by
  unfold eqD eqOk
  have l : (PyData.list (ss.map .str)).canLay0 = true := lay_strs ss h
  have d : (PyData.list (ss.map .str)).depth ≤ lim := by
    show PyData.depthAll (ss.map .str) + 1 ≤ 150
    rw [dep_strs]; decide
  rw [l, decide_eq_true d]
  cases ss <;> rfl
theorem x_for_of {Φ : Phi} {env : Env} (g : G) (ia : Es) (b : Ss) (x : D) (xs : List D) (h : evs Φ cs ia env = .ok [x]) (hx : iterD .of [x] = .ok xs) : ex Φ cs (.for g .of ia b) env = forL (bindG g) (exs Φ cs b) xs env := by
  rw [x_for, h, b_ok, hx, b_ok]

def Kd.in4 (x : Kd) : Prop := ∀ i, x.occ i → 0 ≤ i ∧ i < 4
theorem sub_sub (s t : Int → Kd) : ∀ x : Kd, (x.sub s).sub t = x.sub fun i => (s i).sub t
  | .o i => rfl
  | .p a b => by
    show Kd.p _ _ = Kd.p _ _
    rw [sub_sub s t a, sub_sub s t b]
theorem sub_id : ∀ x : Kd, x.sub .o = x
  | .o i => rfl
  | .p a b => by
    show Kd.p _ _ = Kd.p _ _
    rw [sub_id a, sub_id b]
theorem sub_occ {s : Int → Kd} : ∀ {x : Kd} {j : Int}, (x.sub s).occ j → ∃ i, x.occ i ∧ (s i).occ j
  | .o i, j, h => ⟨i, rfl, h⟩
  | .p a b, j, h => by
    rcases h with h | h
    · obtain ⟨i, h1, h2⟩ := sub_occ h
      exact ⟨i, .inl h1, h2⟩
    · obtain ⟨i, h1, h2⟩ := sub_occ h
      exact ⟨i, .inr h1, h2⟩
theorem sub_size {s : Int → Kd} {m : Nat} : ∀ {x : Kd}, (∀ i, x.occ i → (s i).size ≤ m) → (x.sub s).size ≤ x.size * m
  | .o i, h => by
    show (s i).size ≤ 1 * m
    rw [Nat.one_mul]
    exact h i rfl
  | .p a b, h => by
    have h1 := sub_size (x := a) fun i q => h i (.inl q)
    have h2 := sub_size (x := b) fun i q => h i (.inr q)
    show (a.sub s).size + (b.sub s).size ≤ (a.size + b.size) * m
    rw [Nat.add_mul]
    omega
theorem dep_size : ∀ x : Kd, x.dep < x.size
  | .o i => Nat.one_pos
  | .p a b => by
    have h1 := dep_size a
    have h2 := dep_size b
    show max a.dep b.dep + 1 < a.size + b.size
    omega
theorem pos_app {i : Int} {n : Nat} : ∀ {l m : List Int}, pos i l = some n → pos i (l ++ m) = some n
  | j :: r, m, h => by
    unfold pos at h
    show (if j = i then some 0 else (pos i (r ++ m)).map (· + 1)) = some n
    split at h
    · rename_i e; rw [if_pos e]; exact h
    · rename_i e
      rw [if_neg e]
      cases q : pos i r with
      | none => rw [q] at h; cases h
      | some k =>
        rw [q] at h
        rw [pos_app q]; exact h
theorem pos_new {i : Int} : ∀ {l m : List Int}, pos i l = none → pos i (l ++ i :: m) = some l.length
  | [], m, h => if_pos rfl
  | j :: r, m, h => by
    unfold pos at h
    show (if j = i then some 0 else (pos i (r ++ i :: m)).map (· + 1)) = some (r.length + 1)
    split at h
    · cases h
    · rename_i e
      rw [if_neg e]
      cases q : pos i r with
      | none => rw [pos_new q]; rfl
      | some k => rw [q] at h; cases h
theorem shp_fwd : ∀ (x : Kd) (l m : List Int), (shpL x l).1 = x.sub fun i => .o (((pos i ((shpL x l).2 ++ m)).getD 0 : Nat) : Int)
  | .o i, l, m => by
    unfold shpL
    cases q : pos i l with
    | some n =>
      show Kd.o _ = Kd.o _
      rw [pos_app q]; rfl
    | none =>
      show Kd.o _ = Kd.o (((pos i (l ++ [i] ++ m)).getD 0 : Nat) : Int)
      rw [List.append_assoc]
      show Kd.o _ = Kd.o (((pos i (l ++ i :: m)).getD 0 : Nat) : Int)
      rw [pos_new q]; rfl
  | .p a b, l, m => by
    have h2 := shp_fwd b (shpL a l).2 m
    obtain ⟨⟨m2, e2⟩, _⟩ := shp_back b (shpL a l).2
    have h1 := shp_fwd a l (m2 ++ m)
    rw [← List.append_assoc, ← e2] at h1
    show Kd.p (shpL a l).1 (shpL b (shpL a l).2).1 = Kd.p _ _
    rw [h1, h2]
    rfl
theorem shp_to (x : Kd) : ∃ t, x.sub t = shp x := ⟨_, (shp_fwd x [] []).symm⟩
theorem comes_shp {x y : Kd} {s : Int → Kd} (h : x.sub s = y) : (fitL y x []).1 = decide (shp y = shp x) := by
  by_cases q : (fitL y x []).1 = true
  · rw [q]
    obtain ⟨t, ht⟩ := (comes_iff y x).mp q
    exact (decide_eq_true (mutual_shp h ht)).symm
  · have n : shp y ≠ shp x := fun e => q ((comes_iff y x).mpr (by
      obtain ⟨t, ht⟩ := shp_to y
      obtain ⟨u, hu⟩ := shp_sub x
      exact ⟨_, by rw [← sub_sub t u, ht, e, hu]⟩))
    rw [decide_eq_false n]
    cases z : (fitL y x []).1 with
    | true => exact absurd z q
    | false => rfl
theorem comes_two {x y z : Kd} {s : Int → Kd} (h : x.sub s = y) : (fitL (.p x x) (.p y z) []).1 = decide (y = z) := by
  by_cases q : y = z
  · rw [decide_eq_true q]
    exact (comes_iff _ _).mpr ⟨s, by show Kd.p _ _ = _; rw [h, ← q]⟩
  · rw [decide_eq_false q]
    cases e : (fitL (.p x x) (.p y z) []).1 with
    | false => rfl
    | true =>
      obtain ⟨t, ht⟩ := (comes_iff _ _).mp e
      injection ht with h1 h2
      exact absurd (h1.symm.trans h2) q
theorem comes_eq (k : Nat) (x y : Kd) (hk : x.dep + 2 ≤ k) (hy : y.dep ≤ 100) (hx : x.size ≤ 1000000) : callN T k i_f_comes_of [x.toD, y.toD] = .ok (.bool (fitL x y []).1) := by
  obtain ⟨k, rfl⟩ : ∃ j, k = j + 1 := ⟨k - 1, by omega⟩
  rw [c_f_comes_of]
  show comesK k (kdOf x.toD) (kdOf y.toD) = _
  rw [kd_of, kd_of]
  show need (decide (x.dep < k) && decide (y.dep ≤ 100) && decide (x.size ≤ 1000000)) _ = _
  rw [decide_eq_true (show x.dep < k by omega), decide_eq_true hy, decide_eq_true hx]
  rfl
theorem shape_eq (k : Nat) (x : Kd) (hk : x.dep + 2 ≤ k) (hx : x.size ≤ 1000000) : callN T k i_l_shape [x.toD] = .ok (shp x).toD := by
  obtain ⟨k, rfl⟩ : ∃ j, k = j + 1 := ⟨k - 1, by omega⟩
  rw [c_l_shape]
  show shapeK k (kdOf x.toD) = _
  rw [kd_of]
  show need (decide (x.dep < k) && decide (x.size ≤ 1000000)) _ = _
  rw [decide_eq_true (show x.dep < k by omega), decide_eq_true hx]
  rfl
theorem shp_dep : ∀ (x : Kd) (l : List Int), (shpL x l).1.dep = x.dep
  | .o i, l => by
    unfold shpL
    cases pos i l <;> rfl
  | .p a b, l => by
    show max (shpL a l).1.dep (shpL b (shpL a l).2).1.dep + 1 = max a.dep b.dep + 1
    rw [shp_dep a, shp_dep b]
theorem neD_k (x y : Kd) (h : y.dep ≤ 150) : neD x.toD y.toD = .ok (.bool (!decide (x = y))) := by
  unfold neD eqOk
  rw [Kd.lay, Kd.lay, Kd.depD y, decide_eq_true (show y.dep ≤ lim from h), Bool.or_true, Kd.eqv]; rfl
theorem kind_ex : ∀ (n k : Nat) (c : Int), n + 2 ≤ k → 1 ≤ n → n ≤ 100 → ∃ x : Kd, callN T k i_l_kind [.int c, .int (n : Nat)] = .ok x.toD ∧ x.in4 ∧ x.size = n := by
  intro n
  induction n using Nat.strongRecOn with
  | _ n ih =>
    intro k c hk hn hn2
    obtain ⟨k, rfl⟩ : ∃ i, k = i + 1 := ⟨k - 1, by omega⟩
    rw [c_l_kind]
    unfold b_l_kind
    by_cases h : n < 2
    · have e1 : decide ((n : Int) < 2) = true := decide_eq_true (by omega)
      have M := mix_eq k c 9491 4 (by omega) (by decide) (by decide) (by decide)
      have m1 := mix_lo c 9491 4 (by decide)
      have m2 := mix_hi c 9491 4 (by decide)
      refine ⟨.o (mixZ c 9491 4), ?_, fun i hi => ?_, by show 1 = n; omega⟩
      · generalize mixZ c 9491 4 = z at *
        clear m1 m2 ih
        walk_at "ev"
        rfl
      · have : mixZ c 9491 4 = i := hi
        omega
    · have e1 : decide ((n : Int) < 2) = false := decide_eq_false (by omega)
      have M := mix_eq k c 9479 ((n : Int) - 1) (by omega) (by decide) (by decide) (by omega)
      have m1 := mix_lo c 9479 ((n : Int) - 1) (by omega)
      have m2 := mix_hi c 9479 ((n : Int) - 1) (by omega)
      obtain ⟨f, hf⟩ := natOf (show 0 ≤ 1 + mixZ c 9479 ((n : Int) - 1) by omega)
      have g1 : (n : Int) - (f : Int) = ((n - f : Nat) : Int) := by omega
      obtain ⟨d1, I1, b1, s1⟩ := ih f (by omega) k (c * 3 + 1) (by omega) (by omega) (by omega)
      obtain ⟨d2, I2, b2, s2⟩ := ih (n - f) (by omega) k (c * 5 + 2) (by omega) (by omega) (by omega)
      refine ⟨.p d1 d2, ?_, fun i hi => hi.elim (b1 i) (b2 i), by show d1.size + d2.size = n; omega⟩
      have z3 : small64 3 = true := rfl
      have z5 : small64 5 = true := rfl
      have f2 : fitsZ 2 = true := rfl
      clear ih m1 m2 s1 s2 b1 b2
      walk_at "ev"
      rfl
theorem with_eq (ps : List Kd) (s : Int → Kd) : ∀ (x : Kd) (k : Nat), x.dep < k → (∀ i, x.occ i → ∃ n : Nat, i = (n : Int) ∧ ps[n]? = some (s i)) → callN T k i_l_with [x.toD, .list (ps.map Kd.toD)] = .ok (x.sub s).toD
  | .o i, k, hk, h => by
    obtain ⟨k, rfl⟩ : ∃ j, k = j + 1 := ⟨k - 1, by have : 0 < k := hk; omega⟩
    obtain ⟨n, e1, e2⟩ := h i rfl
    have q : ixD (ps.map Kd.toD) (n : Int) = .ok (s i).toD := ixNat _ n _ (by rw [List.getElem?_map, e2]; rfl)
    rw [← e1] at q
    have t : (Kd.o i).toD = .int i := rfl
    rw [t]
    show _ = Res.ok (s i).toD
    rw [c_l_with]
    unfold b_l_with
    generalize (s i).toD = y at *
    generalize ps.map Kd.toD = z at *
    clear e1 e2 h t
    walk_at "ev"
  | .p a b, k, hk, h => by
    have hk' : max a.dep b.dep + 1 < k := hk
    obtain ⟨k, rfl⟩ : ∃ j, k = j + 1 := ⟨k - 1, by omega⟩
    have i1 := with_eq ps s a k (by omega) fun i q => h i (.inl q)
    have i2 := with_eq ps s b k (by omega) fun i q => h i (.inr q)
    have t : (Kd.p a b).toD = .tuple [a.toD, b.toD] := rfl
    have u : ((Kd.p a b).sub s).toD = .tuple [(a.sub s).toD, (b.sub s).toD] := rfl
    rw [t, u, c_l_with]
    unfold b_l_with
    have f2 : fitsZ 2 = true := rfl
    generalize (a.sub s).toD = y1 at *
    generalize (b.sub s).toD = y2 at *
    generalize a.toD = x1 at *
    generalize b.toD = x2 at *
    generalize ps.map Kd.toD = z at *
    clear h t u hk hk'
    walk_at "ev"
def cmK (m pr sz : Int) : E := .comp (.call i_l_kind (.cons (.bin .Add (.var 2) (.mulL m (.var 8))) (.cons (.bin .Add (.cst (.int 1)) (.call i_l_mix (.cons (.bin .Add (.var 2) (.var 8)) (.cons (.cst (.int pr)) (.cons (.cst (.int sz)) .nil))))) .nil))) (.name 8) .range (.cons (.cst (.int 4)) .nil) .nil [("n", 8)]
theorem cmK_ex (c m pr sz : Int) (hm : small64 m = true) (hp : 0 < pr) (hp2 : pr < 2 ^ 63) (hz : 0 < sz) (hz2 : sz ≤ 50) : ∃ f : Nat → Kd, (∀ n, (f n).in4 ∧ ((f n).size : Int) ≤ sz) ∧ ∀ s0 s1 s3 s4 s5 s6 s7 s8 : Option Slot, ev (callN T 229) cs (cmK m pr sz) [s0, s1, some (.val (.int c)), s3, s4, s5, s6, s7, s8] = .ok (.list (((List.range 4).map f).map Kd.toD)) := by
  have ex : ∀ n : Nat, ∃ x : Kd, callN T 229 i_l_kind [.int (c + m * (n : Int)), .int (1 + mixZ (c + (n : Int)) pr sz)] = .ok x.toD ∧ x.in4 ∧ (x.size : Int) ≤ sz := fun n => by
    have m1 := mix_lo (c + (n : Int)) pr sz hz
    have m2 := mix_hi (c + (n : Int)) pr sz hz
    obtain ⟨j, hj⟩ := natOf (show 0 ≤ 1 + mixZ (c + (n : Int)) pr sz by omega)
    obtain ⟨x, h1, h2, h3⟩ := kind_ex j 229 (c + m * (n : Int)) (by omega) (by omega) (by omega)
    exact ⟨x, by rw [hj]; exact h1, h2, by omega⟩
  refine ⟨fun n => Classical.choose (ex n), fun n => ⟨(Classical.choose_spec (ex n)).2.1, (Classical.choose_spec (ex n)).2.2⟩, fun s0 s1 s3 s4 s5 s6 s7 s8 => ?_⟩
  have C := cl_map (turnOf (callN T 229) cs (.call i_l_kind (.cons (.bin .Add (.var 2) (.mulL m (.var 8))) (.cons (.bin .Add (.cst (.int 1)) (.call i_l_mix (.cons (.bin .Add (.var 2) (.var 8)) (.cons (.cst (.int pr)) (.cons (.cst (.int sz)) .nil))))) .nil))) (.name 8) .nil [("n", 8)] [s0, s1, some (.val (.int c)), s3, s4, s5, s6, s7, s8]) (fun n : Nat => .int (n : Nat)) (fun n => (Classical.choose (ex n)).toD) (List.range 4) (fun n h => by
    have K := (Classical.choose_spec (ex n)).1
    have M := mix_eq 229 (c + (n : Int)) pr sz (by decide) hp hp2 hz
    rw [turn_eq]
    rw [show List.map (fun (x : Str × Nat) => x.2) [(("n" : Str), 8)] = [8] from rfl, wi_cons, wi_nil]
    generalize (Classical.choose (ex n)).toD = y at *
    clear ex hp hp2 hz hz2 h
    walk_at "ev"
    rfl)
  have R : evs (callN T 229) cs (.cons (.cst (.int 4)) .nil) [s0, s1, some (.val (.int c)), s3, s4, s5, s6, s7, s8] = .ok [.int (4 : Nat)] := rfl
  unfold cmK
  rw [e_comp, R, b_ok, it_r1, rg0 4 (by decide), b_ok, C, List.map_map]
  rfl
/-- what is put for open numbers -/
def putS (f : Nat → Kd) (i : Int) : Kd := f i.toNat
theorem put_at {f : Nat → Kd} {x : Kd} (h : x.in4) : ∀ i, x.occ i → ∃ n : Nat, i = (n : Int) ∧ ((List.range 4).map f)[n]? = some (putS f i) := fun i hi => by
  obtain ⟨h1, h2⟩ := h i hi
  refine ⟨i.toNat, by omega, ?_⟩
  rw [List.getElem?_map, List.getElem?_range (show i.toNat < 4 by omega)]
  rfl
theorem law_turn (ns : List Int) (j : Nat) (hj : j < 16) (r : List (Option Slot)) (hr : r.length = 7) : Goes (.list (ns.map .int)) 8 (exs (callN T 229) cs b_f_law_1 (some (.val (.list (ns.map .int))) :: some (.val (.int (j : Nat))) :: r)) := by
  match r, hr with
  | [s2, s3, s4, s5, s6, s7, s8], _ =>
    have e9 : (j : Int) % 9 = ((j % 9 : Nat) : Int) := by omega
    have C := cell_eq 229 ns (j % 9) (by decide)
    obtain ⟨c, hc⟩ : ∃ c : Int, cellZ ns (j % 9) + 83 * (j : Int) = c := ⟨_, rfl⟩
    have X1 := mix_eq 229 c 9473 6 (by decide) (by decide) (by decide) (by decide)
    have b1 := mix_lo c 9473 6 (by decide)
    have b1' := mix_hi c 9473 6 (by decide)
    obtain ⟨n1, e1⟩ := natOf (show 0 ≤ 1 + mixZ c 9473 6 by omega)
    obtain ⟨one, K1, i1, z1⟩ := kind_ex n1 229 c (by omega) (by omega) (by omega)
    obtain ⟨f, hf, F⟩ := cmK_ex c 7 9467 3 rfl (by decide) (by decide) (by decide) (by decide)
    obtain ⟨g, hg, G'⟩ := cmK_ex c 11 9463 2 rfl (by decide) (by decide) (by decide) (by decide)
    have X2 := mix_eq 229 c 9461 6 (by decide) (by decide) (by decide) (by decide)
    have b2 := mix_lo c 9461 6 (by decide)
    have b2' := mix_hi c 9461 6 (by decide)
    obtain ⟨n2, e2⟩ := natOf (show 0 ≤ 1 + mixZ c 9461 6 by omega)
    obtain ⟨oth, K2, i2, z2⟩ := kind_ex n2 229 (c + 3) (by omega) (by omega) (by omega)
    have W1 := with_eq ((List.range 4).map f) (putS f) one 229 (by have := dep_size one; omega) (put_at i1)
    have zt : (one.sub (putS f)).size ≤ 18 := by
      have := sub_size (s := putS f) (m := 3) (x := one) fun i hi => by have := (hf i.toNat).2; show (f i.toNat).size ≤ 3; omega
      omega
    have it : (one.sub (putS f)).in4 := fun i hi => by
      obtain ⟨q, _, h2⟩ := sub_occ hi
      exact (hf q.toNat).1 i h2
    obtain ⟨two, ht⟩ : ∃ two, two = one.sub (putS f) := ⟨_, rfl⟩
    rw [← ht] at W1 zt it
    have W2 := with_eq ((List.range 4).map g) (putS g) two 229 (by have := dep_size two; omega) (put_at it)
    have zr : (two.sub (putS g)).size ≤ 36 := by
      have := sub_size (s := putS g) (m := 2) (x := two) fun i hi => by have := (hg i.toNat).2; show (g i.toNat).size ≤ 2; omega
      omega
    obtain ⟨thr, hr'⟩ : ∃ thr, thr = two.sub (putS g) := ⟨_, rfl⟩
    rw [← hr'] at W2 zr
    have d1 := dep_size one
    have d2 := dep_size two
    have d3 := dep_size thr
    have d4 := dep_size oth
    have z1' : one.size ≤ 6 := by omega
    have z2' : oth.size ≤ 6 := by omega
    have refl : ∀ x : Kd, (fitL x x []).1 = true := fun x => (comes_iff x x).mpr ⟨.o, sub_id x⟩
    have op : ∀ x : Kd, (fitL (.o 5) x []).1 = true := fun x => (comes_iff _ x).mpr ⟨fun _ => x, rfl⟩
    have CE : ∀ x y : Kd, x.size ≤ 40 → y.size ≤ 40 → callN T 229 i_f_comes_of [x.toD, y.toD] = .ok (.bool (fitL x y []).1) := fun x y hx hy => comes_eq 229 x y (by have := dep_size x; omega) (by have := dep_size y; omega) (by omega)
    have c11 := CE one one (by omega) (by omega)
    have c22 := CE two two (by omega) (by omega)
    have c33 := CE thr thr (by omega) (by omega)
    have c51 := CE (.o 5) one (by decide) (by omega)
    have c52 := CE (.o 5) two (by decide) (by omega)
    have c53 := CE (.o 5) thr (by decide) (by omega)
    have c12 := CE one two (by omega) (by omega)
    have c23 := CE two thr (by omega) (by omega)
    have c13 := CE one thr (by omega) (by omega)
    have c21 := CE two one (by omega) (by omega)
    have c1o := CE one oth (by omega) (by omega)
    have co1 := CE oth one (by omega) (by omega)
    have c1100 := CE (.p one one) (.p two oth) (by show one.size + one.size ≤ 40; omega) (by show two.size + oth.size ≤ 40; omega)
    rw [refl] at c11 c22 c33
    rw [op] at c51 c52 c53
    rw [(comes_iff one two).mpr ⟨_, ht.symm⟩] at c12
    rw [(comes_iff two thr).mpr ⟨_, hr'.symm⟩] at c23
    rw [(comes_iff one thr).mpr ⟨_, by rw [hr', ht, sub_sub]⟩] at c13
    rw [comes_shp ht.symm] at c21
    rw [comes_two ht.symm] at c1100
    have S1 := shape_eq 229 one (by omega) (by omega)
    have S2 := shape_eq 229 two (by omega) (by omega)
    have So := shape_eq 229 oth (by omega) (by omega)
    have q21 := Kd.eqD_k (shp two) (shp one) (by unfold shp; rw [shp_dep]; omega)
    have q1o := neD_k (shp one) (shp oth) (by unfold shp; rw [shp_dep]; omega)
    have q2o := Kd.eqD_k two oth (by omega)
    have mt : (fitL one oth []).1 = true → (fitL oth one []).1 = true → shp one = shp oth := fun h1 h2 => by
      obtain ⟨s, hs⟩ := (comes_iff _ _).mp h1
      obtain ⟨t, ht⟩ := (comes_iff _ _).mp h2
      exact mutual_shp ht hs
    have l5 : (Kd.o 5).toD = .int 5 := rfl
    have lp : (Kd.p one one).toD = .tuple [one.toD, one.toD] := rfl
    have lq : (Kd.p two oth).toD = .tuple [two.toD, oth.toD] := rfl
    rw [l5] at c51 c52 c53
    rw [lp, lq] at c1100
    have h83 : small64 83 = true := rfl
    have f2 : fitsZ 2 = true := rfl
    have f3 : fitsZ 3 = true := rfl
    have z9 : decide ((0 : Int) < 9) = true := rfl
    have bq : ∀ b : Bool, (b == b) = true := fun b => by cases b <;> rfl
    have tt : decide (true = true) = true := rfl
    generalize (fitL one oth []).1 = u1 at *
    generalize (fitL oth one []).1 = u2 at *
    obtain ⟨v, hv⟩ : ∃ v, decide (shp one = shp oth) = v := ⟨_, rfl⟩
    rw [hv] at q1o
    have mt' : u1 = true → u2 = true → v = true := fun a b => by rw [← hv]; exact decide_eq_true (mt a b)
    generalize decide (shp two = shp one) = w1 at *
    generalize decide (two = oth) = w2 at *
    generalize (shp one).toD = y1 at *
    generalize (shp two).toD = y2 at *
    generalize (shp oth).toD = y3 at *
    have ls : (List.range 4).map f = (List.range 4).map f := rfl
    generalize ((List.range 4).map f).map Kd.toD = L1 at *
    generalize ((List.range 4).map g).map Kd.toD = L2 at *
    generalize one.toD = x1 at *
    generalize two.toD = x2 at *
    generalize thr.toD = x3 at *
    generalize oth.toD = x4 at *
    clear refl op CE d1 d2 d3 d4 z1 z2 z1' z2' zt zr it i1 i2 hf hg b1 b1' b2 b2' hv mt ls l5 lp lq
    have M1 : cmK 7 9467 3 = .comp (.call i_l_kind (.cons (.bin .Add (.var 2) (.mulL 7 (.var 8))) (.cons (.bin .Add (.cst (.int 1)) (.call i_l_mix (.cons (.bin .Add (.var 2) (.var 8)) (.cons (.cst (.int 9467)) (.cons (.cst (.int 3)) .nil))))) .nil))) (.name 8) .range (.cons (.cst (.int 4)) .nil) .nil [("n", 8)] := rfl
    have M2 : cmK 11 9463 2 = .comp (.call i_l_kind (.cons (.bin .Add (.var 2) (.mulL 11 (.var 8))) (.cons (.bin .Add (.cst (.int 1)) (.call i_l_mix (.cons (.bin .Add (.var 2) (.var 8)) (.cons (.cst (.int 9463)) (.cons (.cst (.int 2)) .nil))))) .nil))) (.name 8) .range (.cons (.cst (.int 4)) .nil) .nil [("n", 8)] := rfl
    unfold b_f_law_1
    rw [← M1, ← M2]
    clear M1 M2
    generalize cmK 7 9467 3 = m1 at *
    generalize cmK 11 9463 2 = m2 at *
    unfold b_f_law_2
    cases u1 with
    | false =>
      clear mt'
      walk_at "evf"
      exact ⟨_, rfl, .inl rfl⟩
    | true =>
      cases u2 with
      | false =>
        clear mt'
        walk_at "evf"
        exact ⟨_, rfl, .inl rfl⟩
      | true =>
        have vt := mt' rfl rfl
        subst vt
        clear mt'
        walk_at "evf"
        exact ⟨_, rfl, .inl rfl⟩
theorem law_true (ns : List Int) (h : ns.length ≤ 63) : callN T 230 i_f_law [.list (ns.map .int)] = .ok (.bool true) := by
  rw [c_f_law]
  unfold b_f_law
  exact law_run (k := 229) 9 16 b_f_law_1 (by decide) (by decide) fun j hj r hr => law_turn ns j hj r hr

theorem all_mk {l : PySem.W.OpenLaw} {w : World} {K : PySem.W.Frag} {h : Heap} {mg : Str → Option Value} {fa f0 f1 f2 f3 f4 f5 f6 f7 cc : Addr} (X : K.In h) (G : h.Ns mainGlobals mg) (hfa : mg "law" = some (.ref fa))
    {od0 an0 od1 an1 od2 an2 od3 an3 od4 an4 od5 an5 od6 an6 od7 an7 : Option Addr} {sl0 sl1 sl2 sl3 sl4 sl5 sl6 sl7 : Array (Option Value)} {oc0 kV0 dc0 pm0 ct0 cd0 oc1 kV1 dc1 pm1 ct1 cd1 oc2 kV2 dc2 pm2 ct2 cd2 oc3 kV3 dc3 pm3 ct3 cd3 oc4 kV4 dc4 pm4 ct4 cd4 oc5 kV5 dc5 pm5 ct5 cd5 oc6 kV6 dc6 pm6 ct6 oc7 kV7 dc7 pm7 ct7 cd7 : Value}
    (a0 : PySem.W.nsIn K mainGlobals "fits" = some (some (.ref f0))) (l0 : K.lookup f0 = some ⟨oc0, od0, .func (PySem.W.fnOf "fits" "fits" (defArgs (topS 1)) (defBody (topS 1)) (defScope (topS 1)) .none kV0 dc0 pm0 an0 cd0 ct0), sl0⟩) (c0 : PySem.W.codeIn K cd0 "fits" = true) (k0 : PySem.W.keepIn K (.ref f0) = true)
    (a1 : PySem.W.nsIn K mainGlobals "comes_of" = some (some (.ref f1))) (l1 : K.lookup f1 = some ⟨oc1, od1, .func (PySem.W.fnOf "comes_of" "comes_of" (defArgs (topS 2)) (defBody (topS 2)) (defScope (topS 2)) .none kV1 dc1 pm1 an1 cd1 ct1), sl1⟩) (c1 : PySem.W.codeIn K cd1 "comes_of" = true) (k1 : PySem.W.keepIn K (.ref f1) = true)
    (a2 : PySem.W.nsIn K mainGlobals "_law_cell" = some (some (.ref f2))) (l2 : K.lookup f2 = some ⟨oc2, od2, .func (PySem.W.fnOf "_law_cell" "_law_cell" (defArgs (topS 4)) (defBody (topS 4)) (defScope (topS 4)) .none kV2 dc2 pm2 an2 cd2 ct2), sl2⟩) (c2 : PySem.W.codeIn K cd2 "_law_cell" = true) (k2 : PySem.W.keepIn K (.ref f2) = true)
    (a3 : PySem.W.nsIn K mainGlobals "_law_mix" = some (some (.ref f3))) (l3 : K.lookup f3 = some ⟨oc3, od3, .func (PySem.W.fnOf "_law_mix" "_law_mix" (defArgs (topS 5)) (defBody (topS 5)) (defScope (topS 5)) .none kV3 dc3 pm3 an3 cd3 ct3), sl3⟩) (c3 : PySem.W.codeIn K cd3 "_law_mix" = true) (k3 : PySem.W.keepIn K (.ref f3) = true)
    (a4 : PySem.W.nsIn K mainGlobals "_law_kind" = some (some (.ref f4))) (l4 : K.lookup f4 = some ⟨oc4, od4, .func (PySem.W.fnOf "_law_kind" "_law_kind" (defArgs (topS 6)) (defBody (topS 6)) (defScope (topS 6)) .none kV4 dc4 pm4 an4 cd4 ct4), sl4⟩) (c4 : PySem.W.codeIn K cd4 "_law_kind" = true) (k4 : PySem.W.keepIn K (.ref f4) = true)
    (a5 : PySem.W.nsIn K mainGlobals "_law_with" = some (some (.ref f5))) (l5 : K.lookup f5 = some ⟨oc5, od5, .func (PySem.W.fnOf "_law_with" "_law_with" (defArgs (topS 7)) (defBody (topS 7)) (defScope (topS 7)) .none kV5 dc5 pm5 an5 cd5 ct5), sl5⟩) (c5 : PySem.W.codeIn K cd5 "_law_with" = true) (k5 : PySem.W.keepIn K (.ref f5) = true)
    (a6 : PySem.W.nsIn K mainGlobals "_law_shape" = some (some (.ref f6))) (l6 : K.lookup f6 = some ⟨oc6, od6, .func (PySem.W.fnOf "_law_shape" "_law_shape" (defArgs (topS 8)) (defBody (topS 8)) (defScope (topS 8)) .none kV6 dc6 pm6 an6 (.ref cc) ct6), sl6⟩) (c6 : PySem.W.codeIn K (.ref cc) "_law_shape" = true) (k6 : PySem.W.keepIn K (.ref f6) = true)
    (a7 : PySem.W.nsIn K mainGlobals "law" = some (some (.ref f7))) (l7 : K.lookup f7 = some ⟨oc7, od7, .func (PySem.W.fnOf "law" "law" (defArgs (topS 9)) (defBody (topS 9)) (defScope (topS 9)) .none kV7 dc7 pm7 an7 cd7 ct7), sl7⟩) (c7 : PySem.W.codeIn K cd7 "law" = true) (k7 : PySem.W.keepIn K (.ref f7) = true)
    (z0 : PySem.W.nsIn K mainGlobals "len" = some none) (z1 : PySem.W.nsIn K mainGlobals "min" = some none) (z2 : PySem.W.nsIn K mainGlobals "max" = some none) (z3 : PySem.W.nsIn K mainGlobals "all" = some none) (z4 : PySem.W.nsIn K mainGlobals "tuple" = some none) (z5 : PySem.W.nsIn K mainGlobals "list" = some none) (z6 : PySem.W.nsIn K mainGlobals "int" = some none) (z7 : PySem.W.nsIn K mainGlobals "sorted" = some none) (z8 : PySem.W.nsIn K mainGlobals "isinstance" = some none) (z9 : PySem.W.nsIn K mainGlobals "bool" = some none) (z10 : PySem.W.nsIn K mainGlobals "str" = some none) (z11 : PySem.W.nsIn K mainGlobals "range" = some none) (z12 : PySem.W.nsIn K mainGlobals "enumerate" = some none) (z13 : PySem.W.nsIn K mainGlobals "reversed" = some none) (z14 : PySem.W.nsIn K mainGlobals "set" = some none)
    {PP : Addr} (tt : h.get? PP = some { cls := .none, data := .fields #[] }) (tn : K.lookup PP = none) (tc : PySem.W.codeHdIn K cc PP = true)
    : LamX.LawAtS l w K (L2.CX l.prog w) 230 63 "script" mg fa h := by
  have e := hfa.symm.trans (PySem.W.mg_of X G a7)
  cases e
  have F0 := fun_mk (st := topS 1) l0 c0 k0
  have b0 := F0.binds (ps := ["one", "other", "known"]) fun _ _ _ _ _ _ us hl => match us, hl with | [_, _, _], _ => rfl
  have F1 := fun_mk (st := topS 2) l1 c1 k1
  have b1 := F1.binds (ps := ["one", "other"]) fun _ _ _ _ _ _ us hl => match us, hl with | [_, _], _ => rfl
  have F2 := fun_mk (st := topS 4) l2 c2 k2
  have b2 := F2.binds (ps := ["script", "k"]) fun _ _ _ _ _ _ us hl => match us, hl with | [_, _], _ => rfl
  have F3 := fun_mk (st := topS 5) l3 c3 k3
  have b3 := F3.binds (ps := ["cell", "prime", "many"]) fun _ _ _ _ _ _ us hl => match us, hl with | [_, _, _], _ => rfl
  have F4 := fun_mk (st := topS 6) l4 c4 k4
  have b4 := F4.binds (ps := ["cell", "size"]) fun _ _ _ _ _ _ us hl => match us, hl with | [_, _], _ => rfl
  have F5 := fun_mk (st := topS 7) l5 c5 k5
  have b5 := F5.binds (ps := ["kind", "put"]) fun _ _ _ _ _ _ us hl => match us, hl with | [_, _], _ => rfl
  have F6 := fun_mk (st := topS 8) l6 c6 k6
  have b6 := F6.binds (ps := ["kind"]) fun _ _ _ _ _ _ us hl => match us, hl with | [_], _ => rfl
  have F7 := fun_mk (st := topS 9) l7 c7 k7
  have b7 := F7.binds (ps := ["script"]) fun _ _ _ _ _ _ us hl => match us, hl with | [_], _ => rfl
  letI lamI : Lam := ⟨"_law_shape.<locals>._law_anew", PP, true⟩
  refine ⟨PySem.W.fnOf "law" "law" (defArgs (topS 9)) (defBody (topS 9)) (defScope (topS 9)) .none kV7 dc7 pm7 an7 cd7 ct7, [(cc, PP)], spL K 1 (callN (semT tbl cs) 230 i_f_law), fun p hp => ?_, fun p hp => ?_, fun p hp => ?_, fun s v => .of_eq rfl, fun H a ns hl _ hT hS cA => law_sp (law_true ns hl) hS (fun _ => ⟨#[], hT _ List.mem_cons_self, True.intro, fun pos cv hc => ?_⟩), fun base _ _ hTB => ?_⟩
  · rw [List.mem_singleton.mp hp]; exact tt
  · rw [List.mem_singleton.mp hp]; exact tn
  · rw [List.mem_singleton.mp hp]; exact PySem.W.codeHd_of_K X tc
  · simp [codeAmong] at hc
  have hD : ∀ (i : Nat) (d : Def), tbl[i]? = some d → ∃ f fd, DefAt K mg base d f fd := fun i d q => by
    match i, q with
    | 0, q => cases q; exact ⟨_, _, fun z => Bool.noConfusion z, PySem.W.mg_of X G a0, F0, b0⟩
    | 1, q => cases q; exact ⟨_, _, fun z => Bool.noConfusion z, PySem.W.mg_of X G a1, F1, b1⟩
    | 2, q => cases q; exact ⟨_, _, fun z => Bool.noConfusion z, PySem.W.mg_of X G a2, F2, b2⟩
    | 3, q => cases q; exact ⟨_, _, fun z => Bool.noConfusion z, PySem.W.mg_of X G a3, F3, b3⟩
    | 4, q => cases q; exact ⟨_, _, fun z => Bool.noConfusion z, PySem.W.mg_of X G a4, F4, b4⟩
    | 5, q => cases q; exact ⟨_, _, fun z => Bool.noConfusion z, PySem.W.mg_of X G a5, F5, b5⟩
    | 6, q => cases q; exact ⟨_, _, fun z => Bool.noConfusion z, PySem.W.mg_of X G a6, F6, b6⟩
    | 7, q => cases q; exact ⟨_, _, fun z => Bool.noConfusion z, PySem.W.mg_of X G a7, F7, b7⟩
    | i + 8, q => cases q
  have hb : ∀ x ∈ bltNames, mg x = none := fun x hx => by
    simp only [bltNames, List.mem_cons, List.not_mem_nil, or_false] at hx
    rcases hx with rfl | rfl | rfl | rfl | rfl | rfl | rfl | rfl | rfl | rfl | rfl | rfl | rfl | rfl | rfl
    · exact PySem.W.mg_none_of X G z0
    · exact PySem.W.mg_none_of X G z1
    · exact PySem.W.mg_none_of X G z2
    · exact PySem.W.mg_none_of X G z3
    · exact PySem.W.mg_none_of X G z4
    · exact PySem.W.mg_none_of X G z5
    · exact PySem.W.mg_none_of X G z6
    · exact PySem.W.mg_none_of X G z7
    · exact PySem.W.mg_none_of X G z8
    · exact PySem.W.mg_none_of X G z9
    · exact PySem.W.mg_none_of X G z10
    · exact PySem.W.mg_none_of X G z11
    · exact PySem.W.mg_none_of X G z12
    · exact PySem.W.mg_none_of X G z13
    · exact PySem.W.mg_none_of X G z14
  have hE : ∀ (i : Nat) (d : Def) (g : Nat → List D → Res D), tbl[i]? = some d → d.ext = some g → ∀ (f : Addr) (fd : FuncData), DefAt K mg base d f fd → ∀ k, FnOk l.prog w K mg base (L2.CX l.prog w) (k + 1) f fd d.ps (spD K clsA d.ps.length (g k)) ∧ ∀ ds : List D, ds.length ≠ d.ps.length → g k ds = .stuck := fun i d g q1 q2 f fd A k => by
    match i, q1 with
    | 0, q1 => cases q1; cases q2; exact ⟨ok_stuck A.F, fun _ _ => rfl⟩
    | 1, q1 => cases q1; cases q2; exact ⟨ok_comes F0 (PySem.W.mg_of X G a0) b0 (hb "isinstance" (by decide)) (hb "tuple" (by decide)) A.F k, comes_len k⟩
    | 2, q1 => cases q1; cases q2
    | 3, q1 => cases q1; cases q2
    | 4, q1 => cases q1; cases q2
    | 5, q1 => cases q1; cases q2
    | 6, q1 => cases q1; cases q2; exact ⟨ok_shape A.F (hb "isinstance" (by decide)) (hb "tuple" (by decide)) (hb "len" (by decide)) rfl ⟨cc, code_at F6 (PySem.W.mg_of X G a6) A.F A.mg, hTB _ List.mem_cons_self⟩ rfl k, shape_len k⟩
    | 7, q1 => cases q1; cases q2
    | i + 8, q1 => cases q1
  have T := tbl_ok (P := l.prog) (w := w) (base := base) (cs := cs) (clsA := clsA) tbl_chk hD (fun i x q => by cases q) hb (fun c x q => by cases q) try_nil hE 229
  exact fn_imp (fn_ok T tbl_chk (i := i_f_law) rfl ⟨fun z => Bool.noConfusion z, PySem.W.mg_of X G a7, F7, b7⟩) fun _ _ _ _ q => q _
end MW
open PySem PySem.W PyProof.Rows MW
set_option maxHeartbeats 0 in
theorem PySem.Challenge.cw_makerword_k26_whole_what_comes_of_what_holds : PySem.Challenge.rw_makerword_k26_whole_what_comes_of_what.Holds := by
  w_on; o_law; k_head; (case hw => w_witness2)
  k_fill
  refine LamX.walk_ofTs (l := PySem.Challenge.rw_makerword_k26_whole_what_comes_of_what) (n := 63) (k := 230) (x := "script") (CX := fun w => L2.CX (PySem.Challenge.rw_makerword_k26_whole_what_comes_of_what).prog w) rfl (by decide) rfl ⟨rfl, by decide, by decide⟩ (fun w h Y => PySem.W.km_in_of Y) ?F (fun _ _ _ _ _ h => cx_no h)
  case F =>
    intro w mg fa h Y KX G hmg
    refine' all_mk KX G hmg ?a0 ?l0 ?c0 ?k0 ?a1 ?l1 ?c1 ?k1 ?a2 ?l2 ?c2 ?k2 ?a3 ?l3 ?c3 ?k3 ?a4 ?l4 ?c4 ?k4 ?a5 ?l5 ?c5 ?k5 ?a6 ?l6 ?c6 ?k6 ?a7 ?l7 ?c7 ?k7 ?z0 ?z1 ?z2 ?z3 ?z4 ?z5 ?z6 ?z7 ?z8 ?z9 ?z10 ?z11 ?z12 ?z13 ?z14 ?tt ?tn ?tc
    case a0 => k_is
    case l0 => k_is
    case c0 => k_is
    case k0 => k_is
    case a1 => k_is
    case l1 => k_is
    case c1 => k_is
    case k1 => k_is
    case a2 => k_is
    case l2 => k_is
    case c2 => k_is
    case k2 => k_is
    case a3 => k_is
    case l3 => k_is
    case c3 => k_is
    case k3 => k_is
    case a4 => k_is
    case l4 => k_is
    case c4 => k_is
    case k4 => k_is
    case a5 => k_is
    case l5 => k_is
    case c5 => k_is
    case k5 => k_is
    case a6 => k_is
    case l6 => k_is
    case c6 => k_is
    case k6 => k_is
    case a7 => k_is
    case l7 => k_is
    case c7 => k_is
    case k7 => k_is
    case z0 => k_is
    case z1 => k_is
    case z2 => k_is
    case z3 => k_is
    case z4 => k_is
    case z5 => k_is
    case z6 => k_is
    case z7 => k_is
    case z8 => k_is
    case z9 => k_is
    case z10 => k_is
    case z11 => k_is
    case z12 => k_is
    case z13 => k_is
    case z14 => k_is
    case tt => exact PySem.W.km_tabs_of Y _ List.mem_cons_self
    case tn => kernel_rfl
    case tc => kernel_rfl
