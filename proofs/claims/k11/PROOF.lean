import PyProof.Rows.All
import Wide.All
import OpenK.AllK
import Wide.FinOn
import HandS.ForMost
import HandS.Conv
import HandS.WordsExc
import HandS.Text
import KE.KIntText
import HandS.ForExc
import HandS.TupAny
import HandS.TupMul
import HandS.TupLe
import HandS.SortInts
import KE.KDictKeyed
import HandS.Lambda
import HandS.SetFor
import HandS.Strs
import PyProof.Walks
import HandS.IsInst
import KE.DataMinMax
import KE.SortData
import PyProof.P3Eq
import KE.GoesMore
import HandS.Style
import HandS.Dict
import HandS.TryMany
import PyProof.FactsAll.list_0
import PyProof.FactsAll.list_3
import PyProof.FactsAll.str_5
import PyProof.FactsSeq
import HandS.ExcField
import HandS.ExcOwn
import HandS.ExcInit
import HandS.Defaults
import HandS.HeadHook2
import HandS.HeadEnd
import HandS.Head0
import HandS.Head1
import HandS.Head2
import HandS.HeadHook1
import PySem.Challenge.RW_skipgrooves_k11_texts_of_records
set_option Elab.async false
set_option linter.all false
set_option maxRecDepth 100000
set_option maxHeartbeats 0
/-! G.Lang: plain data, a small tree language, its total evaluator. No Python model in sight. -/
namespace G
open PySem

/-- plain data; frz is a list that is read only (the script) -/
inductive D where
  | non | bl (b : Bool) | int (i : Int) | str (s : Str) | tup (xs : List D) | lst (xs : List D) | frz (xs : List D)

mutual
def D.toPy : D → PyData
  | .non => .none
  | .bl b => .bool b
  | .int i => .int i
  | .str s => .str s
  | .tup xs => .tuple (D.toPys xs)
  | .lst xs => .list (D.toPys xs)
  | .frz xs => .list (D.toPys xs)
def D.toPys : List D → List PyData
  | [] => []
  | x :: xs => D.toPy x :: D.toPys xs
end
mutual
/-- == -/
def D.eq : D → D → Bool
  | .non, .non => true
  | .bl a, .bl b => a == b
  | .bl a, .int j => (if a then 1 else 0) == j
  | .int i, .bl b => i == (if b then 1 else 0)
  | .int i, .int j => i == j
  | .str x, .str y => decide (x = y)
  | .lst xs, .lst ys => D.eqs xs ys
  | .tup xs, .tup ys => D.eqs xs ys
  | _, _ => false
def D.eqs : List D → List D → Bool
  | [], [] => true
  | x :: xs, y :: ys => D.eq x y && D.eqs xs ys
  | _, _ => false
end
mutual
/-- what == may be asked of: no read-only list, texts of real signs, at most n deep -/
def D.shp : Nat → D → Bool
  | _, .non => true
  | _, .bl _ => true
  | _, .int _ => true
  | _, .str x => x.cps.all (· < 0x110000)
  | n + 1, .tup xs => D.shps n xs
  | n + 1, .lst xs => D.shps n xs
  | _, _ => false
def D.shps : Nat → List D → Bool
  | _, [] => true
  | n, x :: xs => D.shp n x && D.shps n xs
end
def D.flat : D → Bool
  | .non => true
  | .bl _ => true
  | .int _ => true
  | .str _ => true
  | _ => false

def D.isNon : D → Bool
  | .non => true
  | _ => false
def D.isInt : D → Bool
  | .int _ => true
  | .bl _ => true
  | _ => false
def D.isBl : D → Bool
  | .bl _ => true
  | _ => false
def D.isStr : D → Bool
  | .str _ => true
  | _ => false
def D.isTup : D → Bool
  | .tup _ => true
  | _ => false
def D.isLst : D → Bool
  | .lst _ => true
  | .frz _ => true
  | _ => false

inductive Ob where
  | lst (xs : List D)
  | dct (kvs : List (D × D))
/-- a slot: unset; a value; an object of one's own (p: handed in by the caller) -/
inductive Sl where
  | no | ro (d : D) | ow (p : Bool) (o : Ob)
/-- a result: data, or the object of a slot -/
inductive RV where
  | d (x : D) | own (i : Nat)
/-- what a def hands back: data, or a new object -/
inductive Rt where
  | d (x : D) | fr (o : Ob)
structure Exn where
  c : Str
  pl : Option (Str × Int) := none
inductive Out (S α : Type) where
  | ok (a : α) (s : S) | ex (c : Exn) (s : S) | no
abbrev Env := List Sl
abbrev Fn := List Sl → Out (List Sl) Rt

def Out.bind {S α β : Type} : Out S α → (α → S → Out S β) → Out S β
  | .ok a s, f => f a s
  | .ex c s, _ => .ex c s
  | .no, _ => .no
def Out.noex {S α : Type} : Out S α → Out S α
  | .ok a s => .ok a s
  | _ => .no

inductive Bop where
  | add | sub | mul | fdiv | mod | pow
  deriving DecidableEq
inductive Cop where
  | eq | ne | lt | le | gt | ge | isin | notin | is | isnot
  deriving DecidableEq
inductive Blt where
  | len | abs | int | str | bool | min2 | max2 | tuple | list | any | all | sum | maxl | minp | sorted | sset | isint | isbool | isstr | istuple | islist
  deriving DecidableEq
inductive Mth where
  | count | index | join | split
  deriving DecidableEq

/-- a method with one argument -/
inductive M1 where
  | spl | joi | lix
  deriving DecidableEq
inductive E where
  | var (i : Nat)
  | lit (d : D)
  | con (x : Str) (d : D)
  | nil | cons (e es : E)
  | tup (es : E) | lst (es : E) | dnew
  | bin (o : Bop) (a b : E)
  | neg (a : E) | not (a : E)
  | cmp (o : Cop) (a b : E)
  | chn (o p : Cop) (a b c : E)
  | and (a b : E) | or (a b : E)
  | ifx (c a b : E)
  | idx (a b : E) | sl (a lo hi : E) | rev (a : E)
  | call (k : Nat) (es : E)
  | blt (b : Blt) (es : E)
  | mth (m : Mth) (o es : E)
  | m1 (o : M1) (a b : E)
  /-- None in a list -/
  | nin (a : E)
  /-- {text: int, ..}.get(x) -/
  | cget (kvs : List (Str × Int)) (a : E)
  /-- a dict {int: text, ..} of the module, by its name -/
  | gidx (nm : Str) (kvs : List (Int × Str)) (a : E)
  | rng1 (a : E) | rng2 (a b : E) | enm (a : E) | itr (a : E)
  | lrng (a : E) | trng (a : E) | srt (es : E)
  /-- a def that calls a lambda and tells the error's word; in the lambda: a call -/
  | tryc (w : Str) (ws : List (Str × Str)) (k : Nat) (es : E)
  | comp (vs : List Nat) (tg : List Nat) (it elt : E)
  | compc (vs : List Nat) (tg : List Nat) (it c elt : E)

inductive S where
  | skip | seq (a b : S)
  | asg (i : Nat) (e : E)
  | asgO (i : Nat) (e : E)
  | asgT (is : List Nat) (e : E)
  | asgP (is : List Nat) (es : E)
  /-- side by side, the last of them a new list -/
  | asgL (is : List Nat) (es : E) (j : Nat)
  | setI (i : Nat) (k e : E)
  | app (i : Nat) (e : E)
  | drop (e : E)
  | ret (e : E)
  | ite (c : E) (a b : S)
  | whl (n : Nat) (c : E) (b : S)
  | for1 (i : Nat) (it : E) (b : S)
  | forT (is : List Nat) (it : E) (b : S)
  | rais (x m : Str)
  /-- raise x(an int): kept in the field f -/
  | raisN (x f : Str) (e : E)
  /-- try: v_i = a call; except x as v_n: v_i = v_n.f -/
  | tryA (i n k : Nat) (es : E) (x f : Str)
  | brk | cnt
inductive Fl where
  | nx | rt (r : Rt) | bk | ct

/-! ### values -/
def big : Nat := 1000000
def cmpv : Cop → D → D → Option Bool
  | .eq, x, y => if D.shp 60 x && D.shp 60 y then some (D.eq x y) else none
  | .ne, x, y => if D.shp 60 x && D.shp 60 y then some (!D.eq x y) else none
  | .lt, .int i, .int j => some (decide (i < j))
  | .le, .int i, .int j => some (decide (i ≤ j))
  | .gt, .int i, .int j => some (decide (j < i))
  | .ge, .int i, .int j => some (decide (j ≤ i))
  | .isin, x, .tup ys => if x.flat && ys.all D.flat then some (ys.any fun z => D.eq z x) else none
  | .isin, x, .lst ys => if x.flat && ys.all D.flat then some (ys.any fun z => D.eq z x) else none
  | .notin, x, .tup ys => if x.flat && ys.all D.flat then some (!ys.any fun z => D.eq z x) else none
  | .notin, x, .lst ys => if x.flat && ys.all D.flat then some (!ys.any fun z => D.eq z x) else none
  | .is, x, .non => some x.isNon
  | .isnot, x, .non => some (!x.isNon)
  | .is, .bl a, .bl b => some (decide (a = b))
  | .isnot, .bl a, .bl b => some (!decide (a = b))
  | _, _, _ => none
def mulOk (i j : Int) : Bool := (decide (-(2 ^ 64) < i) && decide (i < 2 ^ 64)) || (decide (-(2 ^ 64) < j) && decide (j < 2 ^ 64))
def repD (xs : List D) (k : Int) : List D := (List.replicate k.toNat xs).flatten
def binv : Bop → D → D → Option D
  | .add, .int i, .int j => some (.int (i + j))
  | .add, .str a, .str b => if a.length + b.length ≤ big then some (.str (a ++ b)) else none
  | .add, .tup a, .tup b => if a.length + b.length ≤ big then some (.tup (a ++ b)) else none
  | .add, .lst a, .lst b => if a.length + b.length ≤ big then some (.lst (a ++ b)) else none
  | .sub, .int i, .int j => some (.int (i - j))
  | .mul, .int i, .int j => if mulOk i j then some (.int (i * j)) else none
  | .mul, .tup a, .int k => if a.length ≤ 1000 ∧ 0 ≤ k ∧ k ≤ 1000 then some (.tup (repD a k)) else none
  | .mul, .lst a, .int k => if a.length ≤ 1000 ∧ 0 ≤ k ∧ k ≤ 1000 then some (.lst (repD a k)) else none
  | .fdiv, .int i, .int j => if j ≠ 0 ∧ j.natAbs < 1073741824 then some (.int (i.fdiv j)) else none
  | .mod, .int i, .int j => if j ≠ 0 then some (.int (i.fmod j)) else none
  | .pow, .int i, .int j => if 0 ≤ j ∧ j ≤ 1000 ∧ i.natAbs < 2 ^ 64 then some (.int (i ^ j.toNat)) else none
  | _, _, _ => none
def atD (xs : List D) (i : Int) : Option D := if 0 ≤ i then xs[i.toNat]? else if -(xs.length : Int) ≤ i then xs[(i + xs.length).toNat]? else none
def idxv : D → D → Option D
  | .tup xs, .int i => atD xs i
  | .lst xs, .int i => atD xs i
  | .frz xs, .int i => atD xs i
  | _, _ => none
/-- a bound of a slice -/
def bnd (n d : Nat) : Option Int → Nat
  | none => d
  | some v => if v < 0 then (v + n).toNat else min v.toNat n
def cut {α : Type} (xs : List α) (lo hi : Option Int) : List α := (xs.drop (bnd xs.length 0 lo)).take (bnd xs.length xs.length hi - bnd xs.length 0 lo)
def slv (x : D) (lo hi : Option Int) : Option D := match x with
  | .tup xs => some (.tup (cut xs lo hi))
  | .lst xs => some (.lst (cut xs lo hi))
  | .str z => if z.length ≤ big then some (.str ⟨(cut z.cps.toList lo hi).toArray⟩) else none
  | _ => none
def intsD : List D → Option (List Int)
  | [] => some []
  | .int i :: r => (intsD r).map (i :: ·)
  | _ => none
def blsD : List D → Option (List Bool)
  | [] => some []
  | .bl i :: r => (blsD r).map (i :: ·)
  | _ => none
def strsD : List D → Option (List Str)
  | [] => some []
  | .str i :: r => (strsD r).map (i :: ·)
  | _ => none
def insI (a : Int) : List Int → List Int
  | [] => [a]
  | b :: r => if a ≤ b then a :: b :: r else b :: insI a r
def sortI : List Int → List Int
  | [] => []
  | a :: r => insI a (sortI r)
/-- sorted(set(..)) -/
def insU (a : Int) : List Int → List Int
  | [] => [a]
  | b :: r => if a < b then a :: b :: r else if a = b then b :: r else b :: insU a r
def sortU : List Int → List Int
  | [] => []
  | a :: r => insU a (sortU r)
def pairsD : List D → Option (List (Int × Int))
  | [] => some []
  | .tup [.int a, .int b] :: r => (pairsD r).map ((a, b) :: ·)
  | _ => none
def ltP (p q : Int × Int) : Bool := decide (p.1 < q.1) || (decide (p.1 = q.1) && decide (p.2 < q.2))
/-- min of pairs -/
def minP (p : Int × Int) (ps : List (Int × Int)) : Int × Int := ps.foldl (fun a y => if ltP y a then y else a) p
def bltv : Blt → List D → Option D
  | .len, [.tup xs] => some (.int xs.length)
  | .len, [.lst xs] => some (.int xs.length)
  | .len, [.frz xs] => some (.int xs.length)
  | .len, [.str z] => if z.length ≤ big then some (.int z.length) else none
  | .abs, [.int i] => some (.int (if i < 0 then -i else i))
  | .int, [.int i] => some (.int i)
  | .int, [.bl b] => some (.int (if b then 1 else 0))
  | .int, [.str z] => if z.length ≤ 640 then (intText? z).map .int else none
  | .bool, [.bl b] => some (.bl b)
  | .str, [.int i] => if i.natAbs < 2 ^ 1900 then some (.str (toString i : String)) else none
  | .min2, [.int i, .int j] => some (.int (if j < i then j else i))
  | .max2, [.int i, .int j] => some (.int (if j > i then j else i))
  | .tuple, [.tup xs] => some (.tup xs)
  | .tuple, [.lst xs] => some (.tup xs)
  | .list, [.tup xs] => some (.lst xs)
  | .list, [.lst xs] => some (.lst xs)
  | .any, [.lst xs] => (blsD xs).map fun l => .bl (l.any id)
  | .all, [.lst xs] => (blsD xs).map fun l => .bl (l.all id)
  | .sum, [.lst xs] => (intsD xs).map fun l => .int l.sum
  | .maxl, [.lst xs] => match intsD xs with
    | some (a :: r) => some (.int (r.foldl max a))
    | _ => none
  | .minp, [.lst xs] => match pairsD xs with
    | some (p :: ps) => some (let m := minP p ps; .tup [.int m.1, .int m.2])
    | _ => none
  | .sorted, [.lst xs] => (intsD xs).map fun l => .lst ((sortI l).map .int)
  | .sset, [.lst xs] => (intsD xs).bind fun l => if xs.length ≤ 1000 ∧ (sortU l).length < 63 then some (.lst ((sortU l).map .int)) else none
  | .isint, [x] => some (.bl x.isInt)
  | .isbool, [x] => some (.bl x.isBl)
  | .isstr, [x] => some (.bl x.isStr)
  | .istuple, [x] => some (.bl x.isTup)
  | .islist, [x] => some (.bl x.isLst)
  | _, _ => none
def strIx (w : Str) : List Str → Nat → Option Nat
  | [], _ => none
  | x :: r, i => if x = w then some i else strIx w r (i + 1)
def m1v : M1 → D → D → Option D
  | .spl, .str s, .str t => if (t.length == 0) = false ∧ s.length ≤ big then some (.lst ((Txt.split s t).map .str)) else none
  | .joi, .str a, .lst xs => (strsD xs).bind fun ys => if (ys.map (·.length)).sum + ys.length * a.length ≤ 16000000 then some (.str (Txt.join a ys)) else none
  | .lix, .lst xs, .str w => (strsD xs).bind fun ys => (strIx w ys 0).map fun i => .int (i : Nat)
  | _, _, _ => none
def mthv : Mth → D → List D → Option D
  | .count, .lst xs, [.str w] => (strsD xs).map fun l => .int (l.filter fun y => decide (y = w)).length
  | .count, .lst xs, [.tup ys] => if xs.all (D.shp 60) && D.shp 60 (.tup ys) then some (.int (xs.filter fun y => D.eq y (.tup ys)).length) else none
  | _, _, _ => none
def dget (k : D) : List (D × D) → Option D
  | [] => none
  | (a, v) :: r => if D.eq a k then some v else dget k r
def dput (k v : D) : List (D × D) → List (D × D)
  | [] => [(k, v)]
  | (a, w) :: r => if D.eq a k then (a, v) :: r else (a, w) :: dput k v r
/-- a key of a dict: a tuple of intsD, truths, and such tuples -/
def rangeD (lo : Int) (n : Nat) : List D := (List.range n).map fun (i : Nat) => .int (lo + (i : Int))
def enumD (xs : List D) : List D := (List.range xs.length).zipWith (fun i x => .tup [.int (i : Nat), x]) xs

mutual
/-- hashable, at most n deep -/
def D.keyIn : Nat → D → Bool
  | _, .non => true
  | _, .bl _ => true
  | _, .int _ => true
  | _, .str _ => true
  | n + 1, .tup xs => D.keysIn n xs
  | _, _ => false
def D.keysIn : Nat → List D → Bool
  | _, [] => true
  | n, x :: xs => D.keyIn n x && D.keysIn n xs
end
/-- a key of a dict: a tuple -/
def D.key (d : D) : Bool := d.isTup && D.keyIn 8 d

/-! ### slots -/
def RV.val (δ : Env) : RV → Option D
  | .d x => some x
  | .own i => match δ[i]? with
    | some (.ow _ (.lst xs)) => some (.lst xs)
    | _ => none
def RV.arg (δ : Env) : RV → Option Sl
  | .d x => some (.ro x)
  | .own i => match δ[i]? with
    | some (.ow _ o) => some (.ow true o)
    | _ => none
def vals (δ : Env) : List RV → Option (List D)
  | [] => some []
  | r :: rs => match r.val δ, vals δ rs with
    | some x, some xs => some (x :: xs)
    | _, _ => none
def argsOf (δ : Env) : List RV → Option (List Sl)
  | [] => some []
  | r :: rs => match r.arg δ, argsOf δ rs with
    | some x, some xs => some (x :: xs)
    | _, _ => none
def datas : List RV → Option (List D)
  | [] => some []
  | .d x :: rs => (datas rs).map (x :: ·)
  | _ => none
/-- no object is handed in twice -/
def ownsOf : List RV → List Nat
  | [] => []
  | .own i :: rs => i :: ownsOf rs
  | _ :: rs => ownsOf rs
/-- the caller's slots behind a call -/
def back (δ : Env) : List RV → List Sl → Env
  | .own i :: rs, .ow _ o :: ss => match δ[i]? with
    | some (.ow p _) => back (δ.set i (.ow p o)) rs ss
    | _ => back δ rs ss
  | _ :: rs, _ :: ss => back δ rs ss
  | _, _ => δ
/-- a slot that may be stored to -/
def free (δ : Env) (i : Nat) : Bool := match δ[i]? with
  | some (.ow true _) => false
  | some _ => true
  | none => false
def setRo (δ : Env) (i : Nat) (x : D) : Option Env := if free δ i then some (δ.set i (.ro x)) else none
def setRos (δ : Env) : List Nat → List D → Option Env
  | [], [] => some δ
  | i :: is, x :: xs => match setRo δ i x with
    | some δ => setRos δ is xs
    | none => none
  | _, _ => none
def bindT (is : List Nat) (x : D) (δ : Env) : Option Env := match x with
  | .tup xs => setRos δ is xs
  | _ => none
def bindC (tg : List Nat) (x : D) (δ : Env) : Option Env := match tg with
  | [i] => setRo δ i x
  | _ => bindT tg x δ
def wipeE (δ : Env) : List Nat → Env
  | [] => δ
  | v :: vs => (wipeE δ vs).set v .no
def notOwn (δ : Env) (i : Nat) : Bool := match δ[i]? with
  | some (.ow _ _) => false
  | _ => true
/-- behind a comprehension its own names are what they were -/
def restE (δ0 : Env) (δ : Env) : List Nat → Env
  | [] => δ
  | v :: vs => (restE δ0 δ vs).set v (match δ0[v]? with | some s => s | none => .no)
def compL (f : D → Env → Out Env (Option D)) : List D → List D → Env → Out Env (List D)
  | [], acc, δ => .ok acc δ
  | x :: xs, acc, δ => match f x δ with
    | .ok (some y) δ => compL f xs (acc ++ [y]) δ
    | .ok none δ => compL f xs acc δ
    | _ => .no

def lift {S α : Type} (o : Option α) (s : S) : Out S α := match o with
  | some a => .ok a s
  | none => .no
def asBl : RV → Option Bool
  | .d (.bl b) => some b
  | _ => none

/-- x op y, where y may be an object of one's own -/
def cmpR (δ : Env) (o : Cop) (x y : RV) : Option Bool := match o, x, y with
  | .isin, .d k, .own i => (match δ[i]? with
    | some (.ow _ (.dct kvs)) => if k.key then some (dget k kvs).isSome else none
    | some (.ow _ (.lst ys)) => cmpv .isin k (.lst ys)
    | _ => none)
  | .notin, .d k, .own i => (match δ[i]? with
    | some (.ow _ (.dct kvs)) => if k.key then some (!(dget k kvs).isSome) else none
    | some (.ow _ (.lst ys)) => cmpv .notin k (.lst ys)
    | _ => none)
  | o, x, y => match x.val δ, y.val δ with
    | some x, some y => cmpv o x y
    | _, _ => none
def idxR (δ : Env) (x y : RV) : Option D := match x, y with
  | .own i, .d k => (match δ[i]? with
    | some (.ow _ (.dct kvs)) => if k.key then dget k kvs else none
    | some (.ow _ (.lst xs)) => idxv (.lst xs) k
    | _ => none)
  | .d x, .d k => idxv x k
  | _, _ => none
def binR (δ : Env) (o : Bop) (x y : RV) : Option D := match x.val δ, y.val δ with
  | some x, some y => binv o x y
  | _, _ => none
def nonE : E → Bool
  | .lit .non => true
  | _ => false
/-- a bound of a slice: left out, or an int -/
def asBnd : Bool → RV → Option (Option Int)
  | true, _ => some none
  | false, .d (.int i) => some (some i)
  | false, _ => none
def slR (δ : Env) (x : RV) (l h : Option Int) : Option D := match x.val δ with
  | some x => slv x l h
  | none => none
def revR (δ : Env) (x : RV) : Option D := match x.val δ with
  | some (.lst xs) => some (.lst xs.reverse)
  | _ => none
def bltR (δ : Env) (b : Blt) (rs : List RV) : Option D := match vals δ rs with
  | some ds => bltv b ds
  | none => none
def mthR (δ : Env) (m : Mth) (x : RV) (rs : List RV) : Option D := match x.val δ, vals δ rs with
  | some x, some ds => mthv m x ds
  | _, _ => none
def isLR (δ : Env) (x : RV) : Bool := match x.val δ with
  | some (.lst _) => true
  | _ => false
def m1R (δ : Env) (o : M1) (x y : RV) : Option D := match x.val δ, y.val δ with
  | some x, some y => m1v o x y
  | _, _ => none
/-- what the method is asked of -/
def m1ok (δ : Env) (o : M1) (x : RV) : Bool := match o, x with
  | .lix, x => isLR δ x
  | _, .d (.str _) => true
  | _, _ => false
def ninR (δ : Env) (x : RV) : Option D := match x.val δ with
  | some (.lst xs) => if xs.all (D.shp 60) then some (.bl (xs.any D.isNon)) else none
  | _ => none
def cgetR (kvs : List (Str × Int)) : RV → Option D
  | .d (.str z) => (match kvs.lookup z with
    | some i => some (.int i)
    | none => some .non)
  | _ => none
def gidxR (kvs : List (Int × Str)) : RV → Option D
  | .d (.int i) => (kvs.lookup i).map .str
  | _ => none
/-- the objects that were handed in, and nothing else, come back as objects -/
def okOuts : List Sl → List Sl → Bool
  | [], [] => true
  | .ow _ _ :: as, .ow _ _ :: os => okOuts as os
  | .ro _ :: as, .ro _ :: os => okOuts as os
  | _, _ => false
/-- a call: what it hands back, the slots behind it -/
def callR (T : List Fn) (k : Nat) (rs : List RV) (δ : Env) : Out Env Rt := match T[k]?, argsOf δ rs with
  | some f, some as => if (ownsOf rs).Nodup then (match f as with
    | .ok r os => if okOuts as os then .ok r (back δ rs os) else .no
    | .ex c os => if okOuts as os then .ex c (back δ rs os) else .no
    | .no => .no) else .no
  | _, _ => .no
def Rt.dat : Rt → Option D
  | .d x => some x
  | .fr (.lst xs) => some (.lst xs)
  | _ => none
def itv : D → Option (List D)
  | .tup xs => some xs
  | .lst xs => some xs
  | .frz xs => some xs
  | _ => none
def itR : RV → Option (List D)
  | .d x => itv x
  | _ => none
def rg1R : RV → Option (List D)
  | .d (.int n) => if -(big : Int) ≤ n ∧ n ≤ big then some (rangeD 0 n.toNat) else none
  | _ => none
def rg2R : RV → RV → Option (List D)
  | .d (.int i), .d (.int j) => if -(big : Int) ≤ i ∧ i ≤ big ∧ -(big : Int) ≤ j ∧ j ≤ big then some (rangeD i (j - i).toNat) else none
  | _, _ => none
def enmR : RV → Option (List D)
  | .d (.tup xs) => some (enumD xs)
  | .d (.lst xs) => some (enumD xs)
  | _ => none
def negR : RV → Option D
  | .d (.int i) => some (.int (-i))
  | _ => none
def asD : RV → Option D
  | .d x => some x
  | _ => none

/-- what a call in a lambda comes to -/
def tryO (ws : List (Str × Str)) : Out Env Rt → Out Env RV
  | .ok _ δ => .ok (.d (.str (Str.ofString ""))) δ
  | .ex c δ => (match ws.lookup c.c with
    | some u => .ok (.d (.str u)) δ
    | none => .no)
  | .no => .no
/-! ### expressions -/
section
variable (T : List Fn)
mutual
def ev : E → Env → Out Env RV
  | .var i, δ => match δ[i]? with
    | some (.ro d) => .ok (.d d) δ
    | some (.ow _ _) => .ok (.own i) δ
    | _ => .no
  | .lit d, δ => .ok (.d d) δ
  | .con _ d, δ => .ok (.d d) δ
  | .tup es, δ => (evs es δ).bind fun rs δ => (lift (datas rs) δ).bind fun ds δ => .ok (.d (.tup ds)) δ
  | .lst es, δ => (evs es δ).bind fun rs δ => (lift (datas rs) δ).bind fun ds δ => .ok (.d (.lst ds)) δ
  | .bin o a b, δ => (ev a δ).bind fun x δ => (ev b δ).bind fun y δ => (lift (binR δ o x y) δ).bind fun z δ => .ok (.d z) δ
  | .neg a, δ => (ev a δ).bind fun x δ => (lift (negR x) δ).bind fun z δ => .ok (.d z) δ
  | .not a, δ => (ev a δ).bind fun x δ => (lift (asBl x) δ).bind fun b δ => .ok (.d (.bl (!b))) δ
  | .cmp o a b, δ => (ev a δ).bind fun x δ => (ev b δ).bind fun y δ => (lift (cmpR δ o x y) δ).bind fun t δ => .ok (.d (.bl t)) δ
  | .chn o p a b c, δ => (ev a δ).bind fun x δ => (ev b δ).bind fun y δ => (lift (cmpR δ o x y) δ).bind fun t δ =>
      if t then (ev c δ).bind fun z δ => (lift (cmpR δ p y z) δ).bind fun t δ => .ok (.d (.bl t)) δ else .ok (.d (.bl false)) δ
  | .and a b, δ => (ev a δ).bind fun x δ => (lift (asBl x) δ).bind fun t δ => if t then (ev b δ).bind fun y δ => (lift (asBl y) δ).bind fun u δ => .ok (.d (.bl u)) δ else .ok (.d (.bl false)) δ
  | .or a b, δ => (ev a δ).bind fun x δ => (lift (asBl x) δ).bind fun t δ => if t then .ok (.d (.bl true)) δ else (ev b δ).bind fun y δ => (lift (asBl y) δ).bind fun u δ => .ok (.d (.bl u)) δ
  | .ifx c a b, δ => (ev c δ).bind fun x δ => (lift (asBl x) δ).bind fun t δ => if t then ev a δ else ev b δ
  | .idx a b, δ => (ev a δ).bind fun x δ => (ev b δ).bind fun y δ => (lift (idxR δ x y) δ).bind fun z δ => .ok (.d z) δ
  | .sl a lo hi, δ => (ev a δ).bind fun x δ => (ev lo δ).bind fun l δ => (lift (asBnd (nonE lo) l) δ).bind fun l δ => (ev hi δ).bind fun h δ => (lift (asBnd (nonE hi) h) δ).bind fun h δ => (lift (slR δ x l h) δ).bind fun z δ => .ok (.d z) δ
  | .rev a, δ => (ev a δ).bind fun x δ => (lift (revR δ x) δ).bind fun z δ => .ok (.d z) δ
  | .call k es, δ => (evs es δ).bind fun rs δ => (callR T k rs δ).bind fun r δ => (lift r.dat δ).bind fun z δ => .ok (.d z) δ
  | .blt b es, δ => (evs es δ).bind fun rs δ => (lift (bltR δ b rs) δ).bind fun z δ => .ok (.d z) δ
  | .mth m o es, δ => (ev o δ).bind fun x δ => if isLR δ x then (evs es δ).bind fun rs δ => (lift (mthR δ m x rs) δ).bind fun z δ => .ok (.d z) δ else .no
  | .m1 o a b, δ => (ev a δ).bind fun x δ => if m1ok δ o x then (ev b δ).bind fun y δ => (lift (m1R δ o x y) δ).bind fun z δ => .ok (.d z) δ else .no
  | .nin a, δ => (ev a δ).bind fun x δ => (lift (ninR δ x) δ).bind fun z δ => .ok (.d z) δ
  | .cget kvs a, δ => (ev a δ).bind fun x δ => (lift (cgetR kvs x) δ).bind fun z δ => .ok (.d z) δ
  | .gidx _ kvs a, δ => (ev a δ).bind fun x δ => (lift (gidxR kvs x) δ).bind fun z δ => .ok (.d z) δ
  | .lrng it, δ => (evi it δ).bind fun xs δ => .ok (.d (.lst xs)) δ
  | .trng it, δ => (evi it δ).bind fun xs δ => .ok (.d (.tup xs)) δ
  | .tryc _ ws k es, δ => tryO ws ((evs es δ).bind fun rs δ => callR T k rs δ)
  | .srt es, δ => (evs es δ).bind fun rs δ => (lift (bltR δ .sset rs) δ).bind fun z δ => .ok (.d z) δ
  | .comp vs tg it elt, δ => (evi it δ).bind fun xs δ => if vs.all (notOwn δ) = true ∧ xs.length ≤ big then
      (compL (fun x δ' => (lift (bindC tg x (wipeE δ' vs)) δ').bind fun δ1 _ => (ev elt δ1).bind fun y δ2 => (lift (asD y) δ2).bind fun y δ => .ok (some y) δ) xs [] δ).bind fun ys δ' => .ok (.d (.lst ys)) (restE δ δ' vs) else .no
  | .compc vs tg it c elt, δ => (evi it δ).bind fun xs δ => if vs.all (notOwn δ) = true ∧ xs.length ≤ big then
      (compL (fun x δ' => (lift (bindC tg x (wipeE δ' vs)) δ').bind fun δ1 _ => (ev c δ1).bind fun t δ2 => (lift (asBl t) δ2).bind fun t δ2 =>
        if t then (ev elt δ2).bind fun y δ3 => (lift (asD y) δ3).bind fun y δ => .ok (some y) δ else .ok none δ2) xs [] δ).bind fun ys δ' => .ok (.d (.lst ys)) (restE δ δ' vs) else .no
  | _, _ => .no
/-- a row of expressions -/
def evs : E → Env → Out Env (List RV)
  | .nil, δ => .ok [] δ
  | .cons e es, δ => (ev e δ).bind fun r δ => (evs es δ).bind fun rs δ => .ok (r :: rs) δ
  | _, _ => .no
/-- what a loop walks -/
def evi : E → Env → Out Env (List D)
  | .rng1 a, δ => (ev a δ).bind fun x δ => lift (rg1R x) δ
  | .rng2 a b, δ => (ev a δ).bind fun x δ => (ev b δ).bind fun y δ => lift (rg2R x y) δ
  | .enm a, δ => (ev a δ).bind fun x δ => lift (enmR x) δ
  | .itr a, δ => (ev a δ).bind fun x δ => lift (itR x) δ
  | _, _ => .no
end

/-! ### new objects; what is handed back -/
def evF : E → Env → Out Env Ob
  | .lst es, δ => (evs T es δ).bind fun rs δ => (lift (datas rs) δ).bind fun ds δ => .ok (.lst ds) δ
  | .dnew, δ => .ok (.dct []) δ
  | .call k es, δ => (evs T es δ).bind fun rs δ => (callR T k rs δ).bind fun r δ => match r with
    | .fr o => .ok o δ
    | _ => .no
  | _, _ => .no
/-- x in return x: an object of one's own goes -/
def rtR (δ : Env) : RV → Option Rt
  | .d x => some (.d x)
  | .own i => match δ[i]? with
    | some (.ow false o) => some (.fr o)
    | _ => none
/-- the items of a returned tuple may be objects of one's own -/
def mine (δ : Env) : List RV → Bool
  | [] => true
  | .own i :: rs => (match δ[i]? with
    | some (.ow false (.lst _)) => true
    | _ => false) && mine δ rs
  | _ :: rs => mine δ rs
def evR : E → Env → Out Env Rt
  | .lst es, δ => (evs T es δ).bind fun rs δ => (lift (datas rs) δ).bind fun ds δ => .ok (.fr (.lst ds)) δ
  | .tup es, δ => (evs T es δ).bind fun rs δ => if mine δ rs then (lift (vals δ rs) δ).bind fun ds δ => .ok (.d (.tup ds)) δ else .no
  | .call k es, δ => (evs T es δ).bind fun rs δ => callR T k rs δ
  | e, δ => (ev T e δ).bind fun x δ => lift (rtR δ x) δ
def ownL (δ : Env) (i : Nat) : Bool := match δ[i]? with
  | some (.ow _ (.lst _)) => true
  | _ => false
def appR (δ : Env) (i : Nat) (y : D) : Option Env := match δ[i]? with
  | some (.ow p (.lst xs)) => if xs.length < big then some (δ.set i (.ow p (.lst (xs ++ [y])))) else none
  | _ => none
def setIR (δ : Env) (i : Nat) (k y : D) : Option Env := match δ[i]? with
  | some (.ow p (.lst xs)) => (match k with
    | .int j => if 0 ≤ j ∧ j < xs.length then some (δ.set i (.ow p (.lst (xs.set j.toNat y)))) else none
    | _ => none)
  | some (.ow p (.dct kvs)) => if k.key = true ∧ kvs.length < big then some (δ.set i (.ow p (.dct (dput k y kvs)))) else none
  | _ => none

/-! ### statements -/
def loopW (c : Env → Out Env Bool) (b : Env → Out Env Fl) : Nat → Env → Out Env Fl
  | 0, _ => .no
  | n + 1, δ => (c δ).bind fun t δ => if t then (b δ).bind fun f δ => (match f with
      | .nx => loopW c b n δ
      | .ct => loopW c b n δ
      | .bk => .ok .nx δ
      | .rt r => .ok (.rt r) δ) else .ok .nx δ
def loopF (g : D → Env → Option Env) (b : Env → Out Env Fl) : List D → Env → Out Env Fl
  | [], δ => .ok .nx δ
  | x :: xs, δ => (lift (g x δ) δ).bind fun δ _ => (b δ).bind fun f δ => (match f with
      | .nx => loopF g b xs δ
      | .ct => loopF g b xs δ
      | .bk => .ok .nx δ
      | .rt r => .ok (.rt r) δ)
def evB (c : E) (δ : Env) : Out Env Bool := (ev T c δ).bind fun x δ => lift (asBl x) δ
def exs : S → Env → Out Env Fl
  | .skip, δ => .ok .nx δ
  | .seq a b, δ => (exs a δ).bind fun f δ => match f with
    | .nx => exs b δ
    | f => .ok f δ
  | .asg i e, δ => (ev T e δ).bind fun x δ => (lift (asD x) δ).bind fun x δ => (lift (setRo δ i x) δ).bind fun δ _ => .ok .nx δ
  | .asgO i e, δ => (evF T e δ).bind fun o δ => if free δ i then .ok .nx (δ.set i (.ow false o)) else .no
  | .asgT is e, δ => (ev T e δ).bind fun x δ => (lift (asD x) δ).bind fun x δ => (lift (bindT is x δ) δ).bind fun δ _ => .ok .nx δ
  | .asgP is es, δ => (evs T es δ).bind fun rs δ => (lift (datas rs) δ).bind fun ds δ => (lift (setRos δ is ds) δ).bind fun δ _ => .ok .nx δ
  | .asgL is es j, δ => (evs T es δ).bind fun rs δ => (lift (datas rs) δ).bind fun ds δ => (lift (setRos δ is ds) δ).bind fun δ _ => if free δ j then .ok .nx (δ.set j (.ow false (.lst []))) else .no
  | .setI i k e, δ => (ev T e δ).bind fun x δ => (lift (asD x) δ).bind fun x δ => if notOwn δ i then .no else (ev T k δ).bind fun k δ => (lift (asD k) δ).bind fun k δ => (lift (setIR δ i k x) δ).bind fun δ _ => .ok .nx δ
  | .app i e, δ => if ownL δ i then (ev T e δ).bind fun x δ => (lift (asD x) δ).bind fun x δ => (lift (appR δ i x) δ).bind fun δ _ => .ok .nx δ else .no
  | .drop e, δ => (ev T e δ).bind fun _ δ => .ok .nx δ
  | .ret e, δ => (evR T e δ).bind fun r δ => .ok (.rt r) δ
  | .ite c a b, δ => (evB T c δ).bind fun t δ => if t then exs a δ else exs b δ
  | .whl n c b, δ => loopW (evB T c) (exs b) n δ
  | .for1 i it b, δ => (evi T it δ).bind fun xs δ => loopF (fun x δ => setRo δ i x) (exs b) xs δ
  | .forT is it b, δ => (evi T it δ).bind fun xs δ => loopF (bindT is) (exs b) xs δ
  | .rais c _, δ => .ex ⟨c, none⟩ δ
  | .raisN c f e, δ => (ev T e δ).bind fun x δ => match x with
    | .d (.int i) => .ex ⟨c, some (f, i)⟩ δ
    | _ => .no
  | .tryA i n k es c f, δ => match (evs T es δ).noex with
    | .ok rs δ => (match callR T k rs δ with
      | .ok (.d x) δ => (lift (setRo δ i x) δ).bind fun δ _ => .ok .nx δ
      | .ex e δ => (match e.pl with
        | some (g, v) => if e.c = c ∧ g = f ∧ n < δ.length then (lift (setRo (δ.set n .no) i (.int v)) δ).bind fun δ _ => .ok .nx (δ.set n .no) else .no
        | none => .no)
      | _ => .no)
    | _ => .no
  | .brk, δ => .ok .bk δ
  | .cnt, δ => .ok .ct δ
/-- what the caller's objects hold behind the call -/
def outs : List Sl → Env → Option (List Sl)
  | [], _ => some []
  | .ow _ _ :: as, .ow true o :: δ => (outs as δ).map (.ow true o :: ·)
  | .ow _ _ :: _, _ => none
  | a :: as, _ :: δ => (outs as δ).map (a :: ·)
  | _ :: _, [] => none
def argB : Sl → Bool
  | .ro _ => true
  | .ow b _ => b
  | .no => false
def run (n : Nat) (b : S) : Fn := fun as => if as.all argB = true ∧ as.length ≤ n then
  let δ := as ++ List.replicate (n - as.length) .no
  match exs T b δ with
  | .ok f δ => (match f, outs as δ with
    | .nx, some os => .ok (.d .non) os
    | .rt r, some os => .ok r os
    | _, _ => .no)
  | .ex c δ => (match outs as δ with
    | some os => .ex c os
    | none => .no)
  | .no => .no else .no
end
end G
/-! G.Rep: how plain data stand in the layer's heap; slots against slots. -/
namespace G
open PySem L2

/-! ### data in a heap -/
mutual
def Rep (K : PySem.W.Frag) (H : Hp) : D → V → Prop
  | .non, v => v = .non
  | .bl b, v => v = .bl b
  | .int i, v => v = .int i
  | .str s, v => v = .str s
  | .tup xs, v => ∃ a vs, v = .ref a ∧ SqT K H a vs ∧ Reps K H xs vs
  | .lst xs, v => ∃ a vs, v = .ref a ∧ H a = some (.lst vs) ∧ Reps K H xs vs
  | .frz xs, v => ∃ a vs, v = .ref a ∧ SqL K H a vs ∧ Reps K H xs vs
def Reps (K : PySem.W.Frag) (H : Hp) : List D → List V → Prop
  | [], vs => vs = []
  | x :: xs, vs => ∃ v r, vs = v :: r ∧ Rep K H x v ∧ Reps K H xs r
end
section
variable {K : PySem.W.Frag} {H H' : Hp}
theorem Same.sqT {a : Addr} {xs : List V} (e : Same H H') (h : SqT K H a xs) : SqT K H' a xs := by
  rcases h with (h | ⟨o, h⟩) | h
  · exact .inl (.inl (e _ _ h))
  · exact .inl (.inr ⟨o, e _ _ h⟩)
  · exact .inr h
mutual
theorem Rep.mono (e : Same H H') : ∀ (d : D) (v : V), Rep K H d v → Rep K H' d v
  | .non, _, h => by simpa only [Rep] using h
  | .bl _, _, h => by simpa only [Rep] using h
  | .int _, _, h => by simpa only [Rep] using h
  | .str _, _, h => by simpa only [Rep] using h
  | .tup xs, v, h => by
    simp only [Rep] at h ⊢
    obtain ⟨a, vs, rfl, h1, h2⟩ := h
    exact ⟨a, vs, rfl, Same.sqT e h1, Reps.mono e xs vs h2⟩
  | .lst xs, v, h => by
    simp only [Rep] at h ⊢
    obtain ⟨a, vs, rfl, h1, h2⟩ := h
    exact ⟨a, vs, rfl, e _ _ h1, Reps.mono e xs vs h2⟩
  | .frz xs, v, h => by
    simp only [Rep] at h ⊢
    obtain ⟨a, vs, rfl, h1, h2⟩ := h
    exact ⟨a, vs, rfl, Same.seq e h1, Reps.mono e xs vs h2⟩
theorem Reps.mono (e : Same H H') : ∀ (ds : List D) (vs : List V), Reps K H ds vs → Reps K H' ds vs
  | [], _, h => by simpa only [Reps] using h
  | x :: xs, vs, h => by
    simp only [Reps] at h ⊢
    obtain ⟨v, r, rfl, h1, h2⟩ := h
    exact ⟨v, r, rfl, Rep.mono e x v h1, Reps.mono e xs r h2⟩
end
theorem Reps.length : ∀ {ds : List D} {vs : List V}, Reps K H ds vs → vs.length = ds.length
  | [], _, h => by simp only [Reps] at h; rw [h]; rfl
  | x :: xs, vs, h => by
    simp only [Reps] at h
    obtain ⟨v, r, rfl, _, h2⟩ := h
    simp [Reps.length h2]
theorem Reps.nil : Reps K H [] [] := by simp only [Reps]
theorem Reps.cons {d : D} {v : V} {ds : List D} {vs : List V} (h : Rep K H d v) (r : Reps K H ds vs) : Reps K H (d :: ds) (v :: vs) := by
  simp only [Reps]
  exact ⟨v, vs, rfl, h, r⟩
theorem Reps.append : ∀ {ds es : List D} {vs us : List V}, Reps K H ds vs → Reps K H es us → Reps K H (ds ++ es) (vs ++ us)
  | [], _, _, _, h, g => by simp only [Reps] at h; subst h; exact g
  | x :: xs, _, vs, _, h, g => by
    simp only [Reps] at h
    obtain ⟨v, r, rfl, h1, h2⟩ := h
    exact Reps.cons h1 (Reps.append h2 g)
theorem Reps.get : ∀ {ds : List D} {vs : List V} {i : Nat} {d : D}, Reps K H ds vs → ds[i]? = some d → ∃ v, vs[i]? = some v ∧ Rep K H d v
  | [], _, _, _, _, e => by simp at e
  | x :: xs, vs, 0, d, h, e => by
    simp only [Reps] at h
    obtain ⟨v, r, rfl, h1, h2⟩ := h
    have e' : x = d := by simpa using e
    subst e'
    exact ⟨v, rfl, h1⟩
  | x :: xs, vs, i + 1, d, h, e => by
    simp only [Reps] at h
    obtain ⟨v, r, rfl, h1, h2⟩ := h
    obtain ⟨u, h3, h4⟩ := Reps.get (i := i) h2 (by simpa using e)
    exact ⟨u, by simpa using h3, h4⟩
theorem Reps.getV : ∀ {ds : List D} {vs : List V} {i : Nat} {v : V}, Reps K H ds vs → vs[i]? = some v → ∃ d, ds[i]? = some d ∧ Rep K H d v
  | [], _, _, _, h, e => by simp only [Reps] at h; subst h; simp at e
  | x :: xs, vs, 0, d, h, e => by
    simp only [Reps] at h
    obtain ⟨v, r, rfl, h1, h2⟩ := h
    have e' : v = d := by simpa using e
    subst e'
    exact ⟨x, rfl, h1⟩
  | x :: xs, vs, i + 1, d, h, e => by
    simp only [Reps] at h
    obtain ⟨v, r, rfl, h1, h2⟩ := h
    obtain ⟨u, h3, h4⟩ := Reps.getV (i := i) h2 (by simpa using e)
    exact ⟨u, by simpa using h3, h4⟩
theorem Reps.drop : ∀ {ds : List D} {vs : List V} (n : Nat), Reps K H ds vs → Reps K H (ds.drop n) (vs.drop n)
  | _, _, 0, h => h
  | [], _, n + 1, h => by simp only [Reps] at h; subst h; exact Reps.nil
  | x :: xs, vs, n + 1, h => by
    simp only [Reps] at h
    obtain ⟨v, r, rfl, h1, h2⟩ := h
    exact Reps.drop n h2
theorem Reps.take : ∀ {ds : List D} {vs : List V} (n : Nat), Reps K H ds vs → Reps K H (ds.take n) (vs.take n)
  | _, _, 0, h => Reps.nil
  | [], _, n + 1, h => by simp only [Reps] at h; subst h; exact Reps.nil
  | x :: xs, vs, n + 1, h => by
    simp only [Reps] at h
    obtain ⟨v, r, rfl, h1, h2⟩ := h
    exact Reps.cons h1 (Reps.take n h2)
theorem Reps.set : ∀ {ds : List D} {vs : List V} (n : Nat) {d : D} {v : V}, Reps K H ds vs → Rep K H d v → Reps K H (ds.set n d) (vs.set n v)
  | [], _, n, _, _, h, _ => by simp only [Reps] at h; subst h; exact Reps.nil
  | x :: xs, vs, 0, _, _, h, g => by
    simp only [Reps] at h
    obtain ⟨v, r, rfl, h1, h2⟩ := h
    exact Reps.cons g h2
  | x :: xs, vs, n + 1, _, _, h, g => by
    simp only [Reps] at h
    obtain ⟨v, r, rfl, h1, h2⟩ := h
    exact Reps.cons h1 (Reps.set n h2 g)
theorem Reps.reverse : ∀ {ds : List D} {vs : List V}, Reps K H ds vs → Reps K H ds.reverse vs.reverse
  | [], _, h => by simp only [Reps] at h; subst h; exact Reps.nil
  | x :: xs, vs, h => by
    simp only [Reps] at h
    obtain ⟨v, r, rfl, h1, h2⟩ := h
    rw [List.reverse_cons, List.reverse_cons]
    exact Reps.append (Reps.reverse h2) (Reps.cons h1 Reps.nil)
theorem Reps.rep {ds : List D} {vs : List V} (h : Reps K H ds vs) : ∀ n : Nat, Reps K H (List.replicate n ds).flatten (List.replicate n vs).flatten
  | 0 => Reps.nil
  | n + 1 => by
    rw [List.replicate_succ, List.replicate_succ, List.flatten_cons, List.flatten_cons]
    exact Reps.append h (Reps.rep h n)
theorem Reps.cut {ds : List D} {vs : List V} (h : Reps K H ds vs) (lo hi : Option Int) : Reps K H (cut ds lo hi) (cutV vs lo hi) := by
  have e : ∀ n d x, bnd n d x = HT.sIx n d x := fun n d x => by cases x <;> rfl
  unfold G.cut cutV
  rw [h.length, e, e]
  exact (h.drop _).take _
theorem Rep.flatV : ∀ {d : D} {v : V}, Rep K H d v → d.flat = true → L2.flatV v = true
  | .non, _, h, _ => by simp only [Rep] at h; subst h; rfl
  | .bl _, _, h, _ => by simp only [Rep] at h; subst h; rfl
  | .int _, _, h, _ => by simp only [Rep] at h; subst h; rfl
  | .str _, _, h, _ => by simp only [Rep] at h; subst h; rfl
  | .tup _, _, _, e => by cases e
  | .lst _, _, _, e => by cases e
  | .frz _, _, _, e => by cases e
theorem Rep.eqV : ∀ {d e : D} {v u : V}, Rep K H d v → Rep K H e u → d.flat = true → e.flat = true → L2.eqV v u = D.eq d e
  | .non, e, _, _, h, g, _, f => by cases e <;> simp only [Rep, D.flat] at h g f <;> first | (subst h; subst g; simp [L2.eqV, D.eq]; done) | (subst h; subst g; rfl) | cases f
  | .bl _, e, _, _, h, g, _, f => by cases e <;> simp only [Rep, D.flat] at h g f <;> first | (subst h; subst g; simp [L2.eqV, D.eq]; done) | (subst h; subst g; rfl) | cases f
  | .int _, e, _, _, h, g, _, f => by cases e <;> simp only [Rep, D.flat] at h g f <;> first | (subst h; subst g; simp [L2.eqV, D.eq]; done) | (subst h; subst g; rfl) | cases f
  | .str _, e, _, _, h, g, _, f => by cases e <;> simp only [Rep, D.flat] at h g f <;> first | (subst h; subst g; simp [L2.eqV, D.eq]; done) | (subst h; subst g; rfl) | cases f
  | .tup _, _, _, _, _, _, e, _ => by cases e
  | .lst _, _, _, _, _, _, e, _ => by cases e
  | .frz _, _, _, _, _, _, e, _ => by cases e
theorem Reps.flatV : ∀ {ds : List D} {vs : List V}, Reps K H ds vs → ds.all D.flat = true → vs.all L2.flatV = true
  | [], _, h, _ => by simp only [Reps] at h; subst h; rfl
  | x :: xs, vs, h, e => by
    simp only [Reps] at h
    obtain ⟨v, r, rfl, h1, h2⟩ := h
    rw [List.all_cons, Bool.and_eq_true] at e ⊢
    exact ⟨Rep.flatV h1 e.1, Reps.flatV h2 e.2⟩
theorem Reps.inV {d : D} {v : V} (hv : Rep K H d v) (hd : d.flat = true) : ∀ {ds : List D} {vs : List V}, Reps K H ds vs → ds.all D.flat = true → L2.inV v vs = ds.any fun z => D.eq z d
  | [], _, h, _ => by simp only [Reps] at h; subst h; rfl
  | x :: xs, vs, h, e => by
    simp only [Reps] at h
    obtain ⟨w, r, rfl, h1, h2⟩ := h
    rw [List.all_cons, Bool.and_eq_true] at e
    have ih := Reps.inV hv hd h2 e.2
    unfold L2.inV at ih ⊢
    rw [List.any_cons, List.any_cons, ih, Rep.eqV h1 hv e.1 hd]
/-! data to the layer's data -/
mutual
theorem Rep.dp : ∀ (d : D) (v : V), Rep K H d v → Dp K H v d.toPy
  | .non, _, h => by simp only [Rep] at h; subst h; exact .non
  | .bl _, _, h => by simp only [Rep] at h; subst h; exact .bl _
  | .int _, _, h => by simp only [Rep] at h; subst h; exact .int _
  | .str _, _, h => by simp only [Rep] at h; subst h; exact .str _
  | .tup xs, v, h => by
    simp only [Rep] at h
    obtain ⟨a, vs, rfl, h1, h2⟩ := h
    exact .tup h1 (Reps.dp xs vs h2)
  | .lst xs, v, h => by
    simp only [Rep] at h
    obtain ⟨a, vs, rfl, h1, h2⟩ := h
    exact .lst (SqL.of h1) (Reps.dp xs vs h2)
  | .frz xs, v, h => by
    simp only [Rep] at h
    obtain ⟨a, vs, rfl, h1, h2⟩ := h
    exact .lst h1 (Reps.dp xs vs h2)
theorem Reps.dp : ∀ (ds : List D) (vs : List V), Reps K H ds vs → DpAll K H vs (D.toPys ds)
  | [], _, h => by simp only [Reps] at h; subst h; exact .nil
  | x :: xs, vs, h => by
    simp only [Reps] at h
    obtain ⟨v, r, rfl, h1, h2⟩ := h
    exact .cons (Rep.dp x v h1) (Reps.dp xs r h2)
end
end
mutual
theorem eq_py : ∀ (a b : D) (n m : Nat), a.shp n = true → b.shp m = true → PyData.eqv a.toPy b.toPy = D.eq a b
  | .non, b, n, m, _, h => by cases b <;> first | (simp [D.toPy, D.eq, PyData.eqv]; done) | (cases m <;> simp [D.shp] at h)
  | .bl _, b, n, m, _, h => by cases b <;> first | (simp [D.toPy, D.eq, PyData.eqv]; done) | (cases m <;> simp [D.shp] at h)
  | .int _, b, n, m, _, h => by cases b <;> first | (simp [D.toPy, D.eq, PyData.eqv]; done) | (cases m <;> simp [D.shp] at h)
  | .str _, b, n, m, _, h => by
    cases b with
    | str y =>
      simp only [D.toPy, D.eq, PyData.eqv]
      rw [Bool.eq_iff_iff]
      simp
    | frz ys => cases m <;> simp [D.shp] at h
    | _ => simp [D.toPy, D.eq, PyData.eqv]
  | .frz _, b, n, _, h, _ => by cases n <;> simp [D.shp] at h
  | .tup xs, b, n, m, h, h' => by
    cases n with
    | zero => simp [D.shp] at h
    | succ n =>
      cases b with
      | tup ys =>
        cases m with
        | zero => simp [D.shp] at h'
        | succ m =>
          rw [D.shp] at h h'
          simp only [D.toPy, D.eq, PyData.eqv]
          exact eqs_py xs ys n m h h'
      | frz ys => cases m <;> simp [D.shp] at h'
      | _ => simp [D.toPy, D.eq, PyData.eqv]
  | .lst xs, b, n, m, h, h' => by
    cases n with
    | zero => simp [D.shp] at h
    | succ n =>
      cases b with
      | lst ys =>
        cases m with
        | zero => simp [D.shp] at h'
        | succ m =>
          rw [D.shp] at h h'
          simp only [D.toPy, D.eq, PyData.eqv]
          exact eqs_py xs ys n m h h'
      | frz ys => cases m <;> simp [D.shp] at h'
      | _ => simp [D.toPy, D.eq, PyData.eqv]
theorem eqs_py : ∀ (a b : List D) (n m : Nat), D.shps n a = true → D.shps m b = true → PyData.eqvAll (D.toPys a) (D.toPys b) = D.eqs a b
  | [], [], _, _, _, _ => by simp [D.toPys, D.eqs, PyData.eqvAll]
  | [], _ :: _, _, _, _, _ => by simp [D.toPys, D.eqs, PyData.eqvAll]
  | _ :: _, [], _, _, _, _ => by simp [D.toPys, D.eqs, PyData.eqvAll]
  | x :: xs, y :: ys, n, m, h, h' => by
    rw [D.shps, Bool.and_eq_true] at h h'
    simp only [D.toPys, D.eqs, PyData.eqvAll]
    rw [eq_py x y n m h.1 h'.1, eqs_py xs ys n m h.2 h'.2]
end
mutual
theorem lay_of : ∀ (d : D) (n : Nat), d.shp n = true → d.toPy.canLay0 = true ∧ d.toPy.depth ≤ n + 1
  | .non, n, _ => by simp [D.toPy, PyData.canLay0, PyData.depth]
  | .bl _, n, _ => by simp [D.toPy, PyData.canLay0, PyData.depth]
  | .int _, n, _ => by simp [D.toPy, PyData.canLay0, PyData.depth]
  | .str x, n, h => by
    have h' : x.cps.all (· < 0x110000) = true := by cases n <;> simpa only [D.shp] using h
    exact ⟨by simp only [D.toPy, PyData.canLay0, PyData.strOk]; exact h', by simp [D.toPy, PyData.depth]⟩
  | .frz _, n, h => by cases n <;> simp [D.shp] at h
  | .tup xs, n, h => by
    cases n with
    | zero => simp [D.shp] at h
    | succ n =>
      rw [D.shp] at h
      have q := lays_of xs n h
      simp only [D.toPy, PyData.canLay0, PyData.depth]
      exact ⟨q.1, by omega⟩
  | .lst xs, n, h => by
    cases n with
    | zero => simp [D.shp] at h
    | succ n =>
      rw [D.shp] at h
      have q := lays_of xs n h
      simp only [D.toPy, PyData.canLay0, PyData.depth]
      exact ⟨q.1, by omega⟩
theorem lays_of : ∀ (ds : List D) (n : Nat), D.shps n ds = true → PyData.canLayAll0 (D.toPys ds) = true ∧ PyData.depthAll (D.toPys ds) ≤ n + 1
  | [], _, _ => by simp [D.toPys, PyData.canLayAll0, PyData.depthAll]
  | x :: xs, n, h => by
    rw [D.shps, Bool.and_eq_true] at h
    have q := lay_of x n h.1
    have r := lays_of xs n h.2
    simp only [D.toPys, PyData.canLayAll0, PyData.depthAll, Bool.and_eq_true]
    exact ⟨⟨q.1, r.1⟩, by omega⟩
end
theorem shaped_of {d : D} (h : d.shp 60 = true) : SeqAt.shaped d.toPy = true := by
  have q := lay_of d 60 h
  unfold SeqAt.shaped
  rw [Bool.and_eq_true, decide_eq_true_eq]
  exact ⟨q.1, by omega⟩

/-! ### objects of one's own, slots -/
/-- the heap without what is at ows -/
def hid (ows : List Addr) (H : Hp) : Hp := fun a => if a ∈ ows then none else H a
theorem hid_same (ows : List Addr) (H : Hp) : Same (hid ows H) H := fun a o h => by
  unfold hid at h
  split at h
  · cases h
  · exact h
theorem hid_of {ows : List Addr} {H : Hp} {a : Addr} {o : HO} (h : H a = some o) (n : a ∉ ows) : hid ows H a = some o := by
  unfold hid
  rw [if_neg n]
  exact h
theorem hid_cons {p : Addr} {ows : List Addr} {H : Hp} : Same (hid (p :: ows) H) (hid ows H) := fun a o h => by
  unfold hid at h ⊢
  split at h
  · cases h
  · rename_i n
    rw [if_neg fun z => n (List.mem_cons_of_mem _ z)]
    exact h
theorem hid_sub {ps ows : List Addr} {H : Hp} (s : ∀ a ∈ ps, a ∈ ows) : Same (hid ows H) (hid ps H) := fun a o h => by
  unfold hid at h ⊢
  split at h
  · cases h
  · rename_i n
    rw [if_neg fun z => n (s a z)]
    exact h
theorem hid_new {ows : List Addr} {H : Hp} {p : Addr} {o : HO} (h : H p = none) : Same (hid ows H) (hid ows (upd H p o)) := fun a u e => by
  unfold hid at e ⊢
  split at e
  · cases e
  · rename_i n
    rw [if_neg n, upd_ne (ne_of_none e h)]
    exact e
end G
/-! G.Dct: dicts whose keys are nested tuples, held by the layer's .ext -/
namespace G
open PySem L2
mutual
def nkey : D → Option NestedKey
  | .non => some .none
  | .bl b => some (.num (if b = true then 1 else 0))
  | .int i => some (.num i)
  | .str s => some (.text s)
  | .tup xs => (nkeys xs).map .tup
  | .lst _ => none
  | .frz _ => none
def nkeys : List D → Option (List NestedKey)
  | [] => some []
  | x :: xs => match nkey x, nkeys xs with
    | some k, some ks => some (k :: ks)
    | _, _ => none
end
mutual
theorem deq_beq : ∀ (a b : D) (x y : NestedKey), nkey a = some x → nkey b = some y → D.eq a b = NestedKey.beq x y
  | .non, b, x, y, h, g => by
    cases b <;> simp only [nkey, Option.some.injEq, Option.map_eq_some_iff, reduceCtorEq] at h g <;> first | (subst h; subst g; simp [D.eq, NestedKey.beq]; done) | (subst h; obtain ⟨_, _, rfl⟩ := g; simp [D.eq, NestedKey.beq])
  | .bl c, b, x, y, h, g => by
    cases b <;> simp only [nkey, Option.some.injEq, Option.map_eq_some_iff, reduceCtorEq] at h g <;> first | (subst h; subst g; cases c <;> simp [D.eq, NestedKey.beq]; done) | (rename_i c2; subst h; subst g; cases c <;> cases c2 <;> simp [D.eq, NestedKey.beq]; done) | (rename_i c2; subst h; subst g; cases c <;> simp only [D.eq, NestedKey.beq] <;> rw [Bool.eq_iff_iff] <;> simp; done) | (subst h; obtain ⟨_, _, rfl⟩ := g; simp [D.eq, NestedKey.beq])
  | .int c, b, x, y, h, g => by
    cases b <;> simp only [nkey, Option.some.injEq, Option.map_eq_some_iff, reduceCtorEq] at h g <;> first | (subst h; subst g; simp [D.eq, NestedKey.beq]; done) | (rename_i c2; subst h; subst g; cases c2 <;> simp only [D.eq, NestedKey.beq] <;> rw [Bool.eq_iff_iff] <;> simp; done) | (subst h; subst g; simp only [D.eq, NestedKey.beq]; rw [Bool.eq_iff_iff]; simp; done) | (subst h; obtain ⟨_, _, rfl⟩ := g; simp [D.eq, NestedKey.beq])
  | .str c, b, x, y, h, g => by
    cases b <;> simp only [nkey, Option.some.injEq, Option.map_eq_some_iff, reduceCtorEq] at h g <;> first | (subst h; subst g; simp [D.eq, NestedKey.beq]; done) | (subst h; obtain ⟨_, _, rfl⟩ := g; simp [D.eq, NestedKey.beq])
  | .lst _, _, _, _, h, _ => by simp [nkey] at h
  | .frz _, _, _, _, h, _ => by simp [nkey] at h
  | .tup xs, b, x, y, h, g => by
    simp only [nkey, Option.map_eq_some_iff] at h
    obtain ⟨ks, h1, rfl⟩ := h
    cases b <;> simp only [nkey, Option.some.injEq, Option.map_eq_some_iff, reduceCtorEq] at g
    case tup ys =>
      obtain ⟨ls, g1, rfl⟩ := g
      rw [D.eq, NestedKey.beq]
      exact deqs_beq xs ys ks ls h1 g1
    all_goals (subst g; simp [D.eq, NestedKey.beq])
theorem deqs_beq : ∀ (a b : List D) (x y : List NestedKey), nkeys a = some x → nkeys b = some y → D.eqs a b = NestedKey.beqAll x y
  | [], [], _, _, h, g => by simp only [nkeys, Option.some.injEq] at h g; subst h; subst g; simp [D.eqs, NestedKey.beqAll]
  | [], d :: ds, _, _, h, g => by
    simp only [nkeys, Option.some.injEq] at h g
    subst h
    split at g <;> first | cases g | skip
    simp [D.eqs, NestedKey.beqAll]
  | d :: ds, [], _, _, h, g => by
    simp only [nkeys, Option.some.injEq] at h g
    subst g
    split at h <;> first | cases h | skip
    simp [D.eqs, NestedKey.beqAll]
  | d :: ds, e :: es, _, _, h, g => by
    simp only [nkeys] at h g
    split at h <;> first | cases h | skip
    split at g <;> first | cases g | skip
    rename_i h1 h2 _ _ _ _ g1 g2
    rw [D.eqs, NestedKey.beqAll, deq_beq d e _ _ h1 g1, deqs_beq ds es _ _ h2 g2]
end
theorem deq_key {a b : D} {x y : NestedKey} (h : nkey a = some x) (g : nkey b = some y) : D.eq a b = decide (x = y) := by
  rw [deq_beq a b x y h g, NestedKey.decide_eq]
section
variable {X : Cx} {pins : List (Addr × Obj)} {σ : St} {H : Hp} {s : Shared}
mutual
theorem nested_is (I : Inv X pins σ H s) : ∀ (d : D) (k : NestedKey) (v : V) (u : Value), nkey d = some k → Rep X.K H d v → RelV v u → NestedIs s.heap k u
  | .non, k, v, u, h, r, q => by
    simp only [nkey, Option.some.injEq, Rep] at h r
    subst h; subst r; cases (show u = Value.none from q); exact .none
  | .bl b, k, v, u, h, r, q => by
    simp only [nkey, Option.some.injEq, Rep] at h r
    subst h; subst r; cases (show u = Value.bool b from q); exact .bool rfl
  | .int i, k, v, u, h, r, q => by
    simp only [nkey, Option.some.injEq, Rep] at h r
    subst h; subst r; obtain ⟨t, rfl⟩ := q; exact .int i t
  | .str i, k, v, u, h, r, q => by
    simp only [nkey, Option.some.injEq, Rep] at h r
    subst h; subst r; obtain ⟨t, rfl⟩ := q; exact .text i t
  | .lst _, _, _, _, h, _, _ => by simp [nkey] at h
  | .frz _, _, _, _, h, _, _ => by simp [nkey] at h
  | .tup xs, k, v, u, h, r, q => by
    simp only [nkey, Option.map_eq_some_iff, Rep] at h r
    obtain ⟨ks, h1, rfl⟩ := h
    obtain ⟨a, vs, rfl, h2, h3⟩ := r
    cases (show u = Value.ref a from q)
    obtain ⟨its, rv, ⟨o, e, c, n, d⟩, _⟩ := I.tuple h2
    exact .tup e c d (nested_all I xs ks vs its h1 h3 rv)
theorem nested_all (I : Inv X pins σ H s) : ∀ (ds : List D) (ks : List NestedKey) (vs : List V) (us : List Value), nkeys ds = some ks → Reps X.K H ds vs → Vals vs us → NestedAll s.heap ks us
  | [], ks, vs, us, h, r, q => by
    simp only [nkeys, Option.some.injEq, Reps] at h r
    subst h; subst r; cases q; exact .nil
  | d :: ds, ks, vs, us, h, r, q => by
    simp only [nkeys, Reps] at h r
    obtain ⟨v, rs, rfl, r1, r2⟩ := r
    split at h <;> first | cases h | skip
    rename_i h1 h2
    cases q with
    | cons q1 q2 => exact .cons (nested_is I d _ v _ h1 r1 q1) (nested_all I ds _ rs _ h2 r2 q2)
end
end

mutual
theorem keyIn_of : ∀ (d : D) (n : Nat), d.keyIn n = true → ∃ k, nkey d = some k ∧ k.depth ≤ n
  | .non, n, _ => ⟨_, rfl, by simp [NestedKey.depth]⟩
  | .bl _, n, _ => ⟨_, rfl, by simp [NestedKey.depth]⟩
  | .int _, n, _ => ⟨_, rfl, by simp [NestedKey.depth]⟩
  | .str _, n, _ => ⟨_, rfl, by simp [NestedKey.depth]⟩
  | .lst _, n, h => by cases n <;> simp [D.keyIn] at h
  | .frz _, n, h => by cases n <;> simp [D.keyIn] at h
  | .tup xs, n, h => by
    cases n with
    | zero => simp [D.keyIn] at h
    | succ n =>
      rw [D.keyIn] at h
      obtain ⟨ks, h1, h2⟩ := keysIn_of xs n h
      exact ⟨.tup ks, by simp only [nkey, h1, Option.map_some], by simp only [NestedKey.depth]; omega⟩
theorem keysIn_of : ∀ (ds : List D) (n : Nat), D.keysIn n ds = true → ∃ ks, nkeys ds = some ks ∧ NestedKey.depthAll ks ≤ n
  | [], n, _ => ⟨[], rfl, by simp [NestedKey.depthAll]⟩
  | d :: ds, n, h => by
    rw [D.keysIn, Bool.and_eq_true] at h
    obtain ⟨k, h1, h2⟩ := keyIn_of d n h.1
    obtain ⟨ks, h3, h4⟩ := keysIn_of ds n h.2
    exact ⟨k :: ks, by simp only [nkeys, h1, h3], by simp only [NestedKey.depthAll]; omega⟩
end
theorem key_of {K : PySem.W.Frag} {H : Hp} {k : D} {v : V} (h : k.key = true) (r : Rep K H k v) : ∃ nk a, nkey k = some nk ∧ nk.depth ≤ 8 ∧ v = .ref a := by
  unfold D.key at h
  rw [Bool.and_eq_true] at h
  obtain ⟨nk, h1, h2⟩ := keyIn_of k 8 h.2
  cases k with
  | tup xs =>
    simp only [Rep] at r
    obtain ⟨a, vs, rfl, _⟩ := r
    exact ⟨nk, a, h1, h2, rfl⟩
  | _ => exact absurd h.1 (by simp [D.isTup])

/-- the dict at p with the entries xs -/
def DctO (P : Program) (w : World) (p : Addr) (xs : List (NestedKey × Addr × Value)) : HO := .ext fun h =>
  ∃ o es ep, h.get? p = some o ∧ o.ExactDict ∧ o.data = .dict es ep ∧ es.toList = xs.map (entryOfKey (nestedKind P w))
/-- an entry of data against an entry of the dict -/
def Ent (K : PySem.W.Frag) (H : Hp) (kv : D × D) (x : NestedKey × Addr × Value) : Prop :=
  nkey kv.1 = some x.1 ∧ x.1.depth ≤ 8 ∧ Rep K H kv.1 (.ref x.2.1) ∧ ∃ u, Rep K H kv.2 u ∧ RelV u x.2.2
def DctAt (P : Program) (w : World) (K : PySem.W.Frag) (H : Hp) (p : Addr) (o : Option HO) (kvs : List (D × D)) : Prop :=
  ∃ xs, o = some (DctO P w p xs) ∧ (p == sysModules) = false ∧ Paired (Ent K H) kvs xs ∧ (xs.map (·.1)).Nodup ∧ kvs.length ≤ 2 * big
theorem Ent.mono {K : PySem.W.Frag} {H H' : Hp} (e : Same H H') {kv : D × D} {x : NestedKey × Addr × Value} (h : Ent K H kv x) : Ent K H' kv x := by
  obtain ⟨h1, h2, h3, u, h4, h5⟩ := h
  exact ⟨h1, h2, h3.mono e, u, h4.mono e, h5⟩
theorem DctAt.mono {P : Program} {w : World} {K : PySem.W.Frag} {H H' : Hp} {p : Addr} {o : Option HO} {kvs : List (D × D)} (e : Same H H') (h : DctAt P w K H p o kvs) : DctAt P w K H' p o kvs := by
  obtain ⟨xs, h1, h2, h3, h4⟩ := h
  exact ⟨xs, h1, h2, Paired.mapP h3 fun _ _ q => q.mono e, h4⟩
theorem ent_get {K : PySem.W.Frag} {H : Hp} {k : D} {nk : NestedKey} (hk : nkey k = some nk) : ∀ {kvs : List (D × D)} {xs : List (NestedKey × Addr × Value)}, Paired (Ent K H) kvs xs →
    (dget k kvs = none ∧ atKey xs nk = none) ∨ ∃ d u a val, dget k kvs = some d ∧ atKey xs nk = some (a, val) ∧ Rep K H d u ∧ RelV u val
  | [], _, .nil => .inl ⟨rfl, rfl⟩
  | kv :: kvs, x :: xs, .cons h r => by
    obtain ⟨h1, h2, h3, u, h4, h5⟩ := h
    have e := deq_key h1 hk
    unfold dget atKey
    rw [List.find?_cons]
    by_cases q : x.1 = nk
    · refine .inr ⟨kv.2, u, x.2.1, x.2.2, ?_, ?_, h4, h5⟩
      · rw [e, if_pos (by simp [q])]
      · simp [q]
    · have ih := ent_get hk r
      unfold atKey at ih
      rw [e, if_neg (by simp [q])]
      simp only [q, decide_false]
      exact ih
theorem ent_put {K : PySem.W.Frag} {H : Hp} {k v : D} {nk : NestedKey} {a : Addr} {u : V} {val : Value} (hk : nkey k = some nk) (hd : nk.depth ≤ 8) (rk : Rep K H k (.ref a)) (rv : Rep K H v u) (r : RelV u val) :
    ∀ {kvs : List (D × D)} {xs : List (NestedKey × Addr × Value)}, Paired (Ent K H) kvs xs → (xs.map (·.1)).Nodup → Paired (Ent K H) (dput k v kvs) (storedH xs nk a val)
  | [], _, .nil, _ => .cons ⟨hk, hd, rk, u, rv, r⟩ .nil
  | kv :: kvs, x :: xs, .cons h rr, nd => by
    obtain ⟨h1, h2, h3, u', h4, h5⟩ := id h
    rw [List.map_cons, List.nodup_cons] at nd
    have e := deq_key h1 hk
    have ih := ent_put hk hd rk rv r rr nd.2
    unfold dput
    by_cases q : x.1 = nk
    · rw [e, if_pos (by simp [q])]
      have hs : storedH (x :: xs) nk a val = (x.1, x.2.1, val) :: xs := by
        rw [storedH_old (p := x.2) (by unfold atKey; simp [q]), List.map_cons]
        congr 1
        · unfold putAt
          rw [if_pos q]
        · refine (List.map_congr_left fun y hy => ?_).trans (List.map_id' xs)
          unfold putAt
          rw [if_neg fun z => nd.1 (by rw [q, ← z]; exact List.mem_map_of_mem hy)]
      rw [hs]
      exact .cons ⟨h1, h2, h3, u, rv, r⟩ rr
    · rw [e, if_neg (by simp [q])]
      have hs : storedH (x :: xs) nk a val = x :: storedH xs nk a val := by
        have q1 : atKey (x :: xs) nk = atKey xs nk := by unfold atKey; rw [List.find?_cons]; simp [q]
        unfold storedH
        rw [q1]
        split
        · rw [List.map_cons]
          congr 1
          unfold putAt
          rw [if_neg q]
        · rfl
      rw [hs]
      exact .cons h ih
theorem stored_nodup {xs : List (NestedKey × Addr × Value)} {nk : NestedKey} {a : Addr} {val : Value} (nd : (xs.map (·.1)).Nodup) : ((storedH xs nk a val).map (·.1)).Nodup := by
  unfold storedH
  split
  · rw [List.map_map]
    have : (fun x : NestedKey × Addr × Value => x.1) ∘ putAt nk val = (·.1) := by
      funext x
      unfold putAt
      simp only [Function.comp]
      split <;> rfl
    rw [this]
    exact nd
  · rename_i h
    rw [List.map_append, List.nodup_append]
    refine ⟨nd, by simp, ?_⟩
    intro y hy z hz e
    have z' : z = nk := by simpa using hz
    subst z'
    obtain ⟨x, hx, hxe⟩ := List.mem_map.mp hy
    apply h
    unfold atKey
    have : (xs.find? fun x => decide (x.1 = z)).isSome := by
      rw [List.find?_isSome]
      exact ⟨x, hx, by simp [hxe, e]⟩
    simpa using this
theorem dput_len (k v : D) : ∀ kvs : List (D × D), (dput k v kvs).length ≤ kvs.length + 1
  | [] => by simp [dput]
  | kv :: kvs => by
    unfold dput
    split
    · simp
    · have := dput_len k v kvs
      simp only [List.length_cons]
      omega

section
variable {X : Cx} {pins : List (Addr × Obj)} {σ : St} {H Hh : Hp} {s : Shared} {p : Addr}
theorem DctAt.of (I : Inv X pins σ H s) (e : Same Hh H) {kvs : List (D × D)} (h : DctAt X.prog X.w X.K Hh p (H p) kvs) :
    ∃ xs, H p = some (DctO X.prog X.w p xs) ∧ (p == sysModules) = false ∧ Paired (Ent X.K Hh) kvs xs ∧ (xs.map (·.1)).Nodup ∧ s.heap.DictOfH (nestedKind X.prog X.w) p xs := by
  obtain ⟨xs, h1, h2, h3, h4, h5⟩ := h
  refine ⟨xs, h1, h2, h3, h4, ?_⟩
  obtain ⟨⟨o, es, ep, q1, q2, q3, q4⟩, _, _⟩ := I.hok p _ h1
  refine ⟨o, es, ep, q1, q2, q3, q4, fun x hx => ?_, h4⟩
  have q : ∀ {kvs : List (D × D)} {xs : List (NestedKey × Addr × Value)}, Paired (Ent X.K Hh) kvs xs → x ∈ xs → ∃ kv, Ent X.K Hh kv x := by
    intro kvs xs r
    induction r with
    | nil => intro hx; cases hx
    | cons r1 r2 ih =>
      intro hx
      rcases List.mem_cons.mp hx with rfl | hx
      · exact ⟨_, r1⟩
      · exact ih hx
  obtain ⟨kv, e1, e2, e3, _⟩ := q h3 hx
  exact ⟨nested_is I kv.1 _ _ _ e1 (e3.mono e) rfl, e2⟩
/-- x in d -/
def rInN (P : Program) (w : World) (K : PySem.W.Frag) (neg : Bool) : R2 := fun x y H Q => ∃ p Hh kvs k nk a, y = .ref p ∧ Same Hh H ∧ DctAt P w K Hh p (H p) kvs ∧ nkey k = some nk ∧ nk.depth ≤ 8 ∧ x = .ref a ∧ Rep K H k x ∧
  Q (.bl (if neg then !(dget k kvs).isSome else (dget k kvs).isSome)) H
theorem op_inN (hu : X.A.units + 20 < cLine) : OpR X (compareOp .In) (rInN X.prog X.w X.K false) := by
  intro pins s σ H x y v u Q I rx ry h
  obtain ⟨p, Hh, kvs, k, nk, a, rfl, sm, hd, h1, h2, rfl, h3, q⟩ := h
  cases (show u = Value.ref p from ry)
  cases (show v = Value.ref a from rx)
  obtain ⟨xs, e1, e2, e3, e4, e5⟩ := hd.of I sm
  refine wpAny_in_heap (knd := nestedKind X.prog X.w) (k := nk) (by show X.A.in1.units + 8 < cLine; show X.A.units + 1 + 8 < cLine; omega) ⟨nested_is I k nk _ _ h1 h3 rfl, h2⟩ e2 e5 ?_
  refine ⟨.bl (atKey xs nk).isSome, H, I.tok _, rfl, ?_⟩
  rcases ent_get h1 e3 with ⟨g1, g2⟩ | ⟨d, u', a', val, g1, g2, _, _⟩
  · rw [g2]; rw [g1] at q; exact q
  · rw [g2]; rw [g1] at q; exact q
theorem op_notinN (hu : X.A.units + 20 < cLine) : OpR X (compareOp .NotIn) (rInN X.prog X.w X.K true) := by
  intro pins s σ H x y v u Q I rx ry h
  obtain ⟨p, Hh, kvs, k, nk, a, rfl, sm, hd, h1, h2, rfl, h3, q⟩ := h
  cases (show u = Value.ref p from ry)
  cases (show v = Value.ref a from rx)
  obtain ⟨xs, e1, e2, e3, e4, e5⟩ := hd.of I sm
  have e6 : s.heap.DictKeyed (nestedKind X.prog X.w) p (pairsH xs) := ⟨xs, e5, rfl⟩
  refine notIn_keyed (knd := nestedKind X.prog X.w) (k := nk) (by show X.A.in1.units + 8 < cLine; show X.A.units + 1 + 8 < cLine; omega) ⟨nested_is I k nk _ _ h1 h3 rfl, h2⟩ e2 e6 ?_
  rw [valueAt_pairsH, Option.isSome_map]
  refine ⟨.bl (!(atKey xs nk).isSome), H, I.tok _, rfl, ?_⟩
  rcases ent_get h1 e3 with ⟨g1, g2⟩ | ⟨d, u', a', val, g1, g2, _, _⟩
  · rw [g2]; rw [g1] at q; exact q
  · rw [g2]; rw [g1] at q; exact q
/-- d[k], there -/
def rGetN (P : Program) (w : World) (K : PySem.W.Frag) : R2 := fun x y H Q => ∃ p Hh kvs k nk a d, x = .ref p ∧ Same Hh H ∧ DctAt P w K Hh p (H p) kvs ∧ nkey k = some nk ∧ nk.depth ≤ 8 ∧ y = .ref a ∧ Rep K H k y ∧
  dget k kvs = some d ∧ ∀ u, Rep K Hh d u → Q u H
theorem ix_dct (hu : X.A.units + 20 < cLine) : IxR X (rGetN X.prog X.w X.K) := by
  intro value slice pins s σ H x y v u Q I rx ry h hs
  obtain ⟨p, Hh, kvs, k, nk, a, d, rfl, sm, hd, h1, h2, rfl, h3, h4, q⟩ := h
  cases (show v = Value.ref p from rx)
  cases (show u = Value.ref a from ry)
  obtain ⟨xs, e1, e2, e3, e4, e5⟩ := hd.of I sm
  rcases ent_get h1 e3 with ⟨g1, g2⟩ | ⟨d', u', a', val, g1, g2, g3, g4⟩
  · rw [g1] at h4; cases h4
  · rw [g1] at h4; cases h4
    have fin : EP X pins σ Q val { s with toks := s.toks + (nestedKind X.prog X.w).draws nk } := ⟨u', H, I.tok _, g4, q _ g3⟩
    exact PyProof.Rows.subscriptTail_builtinR (x := val) e5.typeIs PySem.F.slot_dict_getitem.lookup
      (wpAny_getItem_heap (knd := nestedKind X.prog X.w) (k := nk) (Q := fun r s' => r = val ∧ EP X pins σ Q r s') (by show X.A.in1.units + 8 < cLine; show X.A.units + 1 + 8 < cLine; omega) ⟨nested_is I k nk _ _ h1 h3 rfl, h2⟩ e5 g2 ⟨rfl, fin⟩) hs
/-- d[k] = v -/
def rPutN (P : Program) (w : World) (K : PySem.W.Frag) : TSet := fun x y z H Q => ∃ p Hh kvs k nk a d, x = .ref p ∧ Same Hh H ∧ Hh p = none ∧ DctAt P w K Hh p (H p) kvs ∧ nkey k = some nk ∧ nk.depth ≤ 8 ∧ y = .ref a ∧ Rep K Hh k y ∧
  Rep K Hh d z ∧ kvs.length < big ∧ ∀ o, DctAt P w K Hh p (some o) (dput k d kvs) → Q (upd H p o)
theorem set_dct (hu : X.A.units + 20 < cLine) : PSet X (rPutN X.prog X.w X.K) := by
  intro pins s σ H x y z v u r Q I rx ry rz h
  obtain ⟨p, Hh, kvs, k, nk, a, d, rfl, sm, hn, hd, h1, h2, rfl, h3, h4, h5, q⟩ := h
  cases (show v = Value.ref p from rx)
  cases (show u = Value.ref a from ry)
  obtain ⟨xs, e1, e2, e3, e4, e5⟩ := hd.of I sm
  have hl : xs.length ≤ sizeLine := by
    have := Paired.length e3
    have hb : big ≤ sizeLine := by decide
    omega
  refine wpAny_setItem_heap (knd := nestedKind X.prog X.w) (k := nk) (hsz := hl) (by show X.A.in1.units + 8 < cLine; show X.A.units + 1 + 8 < cLine; omega) ⟨nested_is I k nk _ _ h1 (h3.mono sm) rfl, h2⟩ e5 fun h' dd' hs => ?_
  have mu : Mut (H p) := by rw [e1]; exact True.intro
  obtain ⟨o', es', ep', q1, q2, q3, q4, q5, q6⟩ := dd'
  refine ⟨upd H p (DctO X.prog X.w p (storedH xs nk a r)), ?_, q _ ⟨_, rfl, e2, ent_put h1 h2 h3 h4 rz e3 e4, stored_nodup e4, by have := dput_len k d kvs; omega⟩⟩
  refine d_write I mu hs ⟨o', q1⟩ ?_
  exact ⟨⟨o', es', ep', q1, q2, q3, q4⟩, ⟨o', q1⟩, fun g1 g2 ⟨o1, es1, ep1, z1, z2, z3, z4⟩ k => ⟨o1, es1, ep1, k _ z1, z2, z3, z4⟩⟩
/-- {} -/
def tDNewN (P : Program) (w : World) (K : PySem.W.Frag) : TE := fun _ H Q => ∀ p o, H p = none → (∀ Hh, DctAt P w K Hh p (some o) []) → Q (.ref p) (upd H p o)
theorem pe_dnewN {pos : Pos} : PE X (.Dict [] [] pos) (tDNewN X.prog X.w X.K) := ⟨fun pins s σ H Q I h =>
  wpAny_Dict_empty ⟨.ref s.heap.objs.size, _, I.laid (a := s.heap.objs.size) (o := DctO X.prog X.w s.heap.objs.size []) (t' := s.toks) (fun _ _ q => Heap.get?_push_of_some _ q) (Nat.le_refl _)
    ⟨⟨_, #[], 0, Heap.get?_push_size _ rfl, ⟨rfl, rfl, rfl⟩, rfl, rfl⟩, ⟨_, Heap.get?_push_size _ rfl⟩, fun g1 g2 ⟨o1, es1, ep1, z1, z2, z3, z4⟩ k => ⟨o1, es1, ep1, k _ z1, z2, z3, z4⟩⟩, rfl,
    h _ _ (I.hok.fresh (Nat.le_refl _)) fun Hh => ⟨[], rfl, beq_eq_false_iff_ne.mpr (Ne.symm (Nat.ne_of_lt I.big)), .nil, List.nodup_nil, Nat.zero_le _⟩⟩⟩
end
end G
/-! G.EnvR: slots of data against slots of the frame; what an evaluation promises. -/
namespace G
open PySem L2

def OwnOk (P : Program) (w : World) (K : PySem.W.Frag) (Hh : Hp) (p : Addr) (o : Option HO) : Ob → Prop
  | .lst xs => ∃ vs, o = some (.lst vs) ∧ Reps K Hh xs vs
  | .dct kvs => DctAt P w K Hh p o kvs
theorem OwnOk.mono {P : Program} {w : World} {K : PySem.W.Frag} {H H' : Hp} {p : Addr} {o : Option HO} {b : Ob} (e : Same H H') (h : OwnOk P w K H p o b) : OwnOk P w K H' p o b := by
  cases b with
  | lst xs =>
    obtain ⟨vs, h1, h2⟩ := h
    exact ⟨vs, h1, Reps.mono e xs vs h2⟩
  | dct kvs => exact DctAt.mono e h
theorem OwnOk.some {P : Program} {w : World} {K : PySem.W.Frag} {H : Hp} {p : Addr} {o : Option HO} {b : Ob} (h : OwnOk P w K H p o b) : o ≠ none := by
  cases b with
  | lst xs => obtain ⟨vs, h1, h2⟩ := h; rw [h1]; exact fun z => nomatch z
  | dct kvs => obtain ⟨xs, h1, _⟩ := h; rw [h1]; exact fun z => nomatch z
theorem OwnOk.mut {P : Program} {w : World} {K : PySem.W.Frag} {H : Hp} {p : Addr} {o : Option HO} {b : Ob} (h : OwnOk P w K H p o b) : Mut o := by
  cases b with
  | lst xs => obtain ⟨vs, h1, h2⟩ := h; rw [h1]; exact True.intro
  | dct kvs => obtain ⟨xs, h1, _⟩ := h; rw [h1]; exact True.intro

/-- the ground of a def's run: the text, the heap at the entry, the objects handed in that may change -/
structure Gr where
  P : Program
  w : World
  K : PySem.W.Frag
  H0 : Hp
  ps : List Addr
  /-- where the parameters were -/
  pv : Nat → Option (Option V)
  /-- a def that makes lambdas; where its table may be -/
  nd : Bool
  tp : Addr → Prop

def SlotR (g : Gr) (ows : List Addr) (H : Hp) (v : Option (Option V)) : Sl → Prop
  | .no => True
  | .ro d => ∃ x, v = some (some x) ∧ Rep g.K (hid ows H) d x
  | .ow p o => ∃ a, v = some (some (.ref a)) ∧ a ∈ ows ∧ (if p = true then a ∈ g.ps else g.H0 a = none) ∧ OwnOk g.P g.w g.K (hid ows H) a (H a) o
theorem SlotR.keep {g : Gr} {ows : List Addr} {H H' : Hp} {v : Option (Option V)} {s : Sl} (e : Same (hid ows H) (hid ows H')) (ho : ∀ a, v = some (some (.ref a)) → a ∈ ows → H' a = H a) (h : SlotR g ows H v s) : SlotR g ows H' v s := by
  cases s with
  | no => trivial
  | ro d =>
    obtain ⟨x, h1, h2⟩ := h
    exact ⟨x, h1, h2.mono e⟩
  | ow p o =>
    obtain ⟨a, h1, h2, h3, h4⟩ := h
    refine ⟨a, h1, h2, h3, ?_⟩
    rw [ho a h1 h2]
    exact h4.mono e

/-- the name of the lambdas that a law makes -/
def lawQ : Str := "law.<locals>.<lambda>"
/-- the maker's table at P; its code objects are no object of one's own -/
def TabH (ows : List Addr) (H : Hp) (P : Addr) : Prop := ∃ t, H P = some (.tbl t) ∧ TriplesOk t.toList ∧ ∀ (pos : Pos) (cv : Value), codeAmong pos t.toList = some cv → ∃ c, cv = .ref c ∧ hid ows H c = some (LamX.CodeO c lawQ)
theorem TabH.mono {ows ows' : List Addr} {H H' : Hp} {P : Addr} (h : TabH ows H P) (k : H' P = H P) (s : Same (hid ows H) (hid ows' H')) : TabH ows' H' P := by
  obtain ⟨t, h1, h2, h3⟩ := h
  refine ⟨t, k.trans h1, h2, fun pos cv hc => ?_⟩
  obtain ⟨c, e1, e2⟩ := h3 pos cv hc
  exact ⟨c, e1, s _ _ e2⟩
theorem TabH.some {ows : List Addr} {H : Hp} {P : Addr} (h : TabH ows H P) : ∃ t, H P = some (.tbl t) := ⟨h.choose, h.choose_spec.1⟩
structure EnvR (g : Gr) (ows : List Addr) (σ : St) (H : Hp) (δ : Env) : Prop where
  len : σ.length = δ.length
  base : ∀ a o, a ∉ g.ps → g.H0 a = some o → H a = some o
  psub : ∀ a ∈ g.ps, a ∈ ows
  dom : ∀ a ∈ ows, H a ≠ none
  slot : ∀ (i : Nat) (s : Sl), δ[i]? = some s → SlotR g ows H σ[i]? s
  inj : ∀ (i j : Nat) (p : Bool) (o : Ob) (q : Bool) (u : Ob), i ≠ j → δ[i]? = some (Sl.ow p o) → δ[j]? = some (Sl.ow q u) → σ[i]? ≠ σ[j]?
  par : ∀ (i : Nat) (o : Ob), δ[i]? = some (Sl.ow true o) → σ[i]? = g.pv i
  tab : ∀ P ∈ g.ps, ∀ t, g.H0 P = some (.tbl t) → TabH ows H P
  need : g.nd = true → ∃ P ∈ g.ps, (∃ t, g.H0 P = some (.tbl t)) ∧ g.tp P

section
variable {g : Gr} {ows : List Addr} {σ : St} {H H' : Hp} {δ : Env}
theorem EnvR.new {p : Addr} {o : HO} (e : EnvR g ows σ H δ) (h : H p = none) : EnvR g ows σ (upd H p o) δ := by
  have ne : ∀ a ∈ ows, a ≠ p := fun a ha z => e.dom a ha (by rw [z]; exact h)
  refine ⟨e.len, fun a u hp q => ?_, e.psub, fun a ha => ?_, fun i s q => (e.slot i s q).keep (hid_new h) fun a _ ha => upd_ne (ne a ha), e.inj, e.par, fun P hP t ht => (e.tab P hP t ht).mono (upd_ne (ne P (e.psub P hP))) (hid_new h), e.need⟩
  · have := e.base a u hp q
    rw [upd_ne (ne_of_none this h)]
    exact this
  · rw [upd_ne (ne a ha)]
    exact e.dom a ha
theorem EnvR.fresh {p : Addr} (e : EnvR g ows σ H δ) (h : H p = none) : g.H0 p = none ∧ p ∉ ows := by
  have n : p ∉ ows := fun z => e.dom p z h
  refine ⟨?_, n⟩
  cases q : g.H0 p with
  | none => rfl
  | some o =>
    have := e.base p o (fun z => n (e.psub p z)) q
    rw [h] at this
    cases this
/-- no slot is an object of one's own but .. : all is kept where the hidden ones stay -/
theorem EnvR.keep (e : EnvR g ows σ H δ) (b : ∀ a o, H a = some o → H' a = some o) : EnvR g ows σ H' δ := by
  have sm : Same (hid ows H) (hid ows H') := fun a o h => by
    unfold hid at h ⊢
    split at h
    · cases h
    · rename_i n
      rw [if_neg n]
      exact b a o h
  have eq : ∀ a ∈ ows, H' a = H a := fun a ha => by
    cases q : H a with
    | none => exact absurd q (e.dom a ha)
    | some o => exact b a o q
  exact ⟨e.len, fun a u hp q => b a u (e.base a u hp q), e.psub, fun a ha => by rw [eq a ha]; exact e.dom a ha, fun i s q => (e.slot i s q).keep sm fun a _ ha => eq a ha, e.inj, e.par, fun P hP t ht => (e.tab P hP t ht).mono (eq P (e.psub P hP)) sm, e.need⟩
theorem par_set {i j : Nat} {s : Sl} {v : Option V} {o : Ob} (e : EnvR g ows σ H δ) (ht : ∀ o, s ≠ .ow true o) (q : (δ.set i s)[j]? = some (Sl.ow true o)) : (σ.set i v)[j]? = g.pv j := by
  by_cases h : i = j
  · subst h
    have hl : i < δ.length := by
      have := (List.getElem?_eq_some_iff.mp q).1
      rwa [List.length_set] at this
    rw [List.getElem?_set_self hl] at q
    exact absurd (Option.some.inj q) (ht o)
  · rw [List.getElem?_set_ne h] at q ⊢
    exact e.par j o q
/-- a slot is stored to -/
theorem EnvR.set {i : Nat} {s : Sl} {v : V} (e : EnvR g ows σ H δ) (h : SlotR g ows H (some (some v)) s) (hj : ∀ p o, s = .ow p o → ∀ j q u, j ≠ i → δ[j]? = some (Sl.ow q u) → σ[j]? ≠ some (some v)) (ht : ∀ o, s ≠ .ow true o) :
    EnvR g ows (σ.set i (some v)) H (δ.set i s) := by
  refine ⟨by rw [List.length_set, List.length_set]; exact e.len, e.base, e.psub, e.dom, fun j t q => ?_, fun j k p o q u hjk h1 h2 => ?_, fun j o q => par_set e ht q, e.tab, e.need⟩
  · by_cases hji : j = i
    · subst hji
      have hl : j < δ.length := by
        have := (List.getElem?_eq_some_iff.mp q).1
        rwa [List.length_set] at this
      rw [List.getElem?_set_self hl] at q
      cases q
      rw [List.getElem?_set_self (by rw [e.len]; exact hl)]
      exact h
    · rw [List.getElem?_set_ne (Ne.symm hji)] at q ⊢
      exact e.slot j t q
  · by_cases h3 : j = i
    · subst h3
      have hl : j < δ.length := by
        have := (List.getElem?_eq_some_iff.mp h1).1
        rwa [List.length_set] at this
      rw [List.getElem?_set_self hl] at h1
      rw [List.getElem?_set_ne hjk] at h2 ⊢
      rw [List.getElem?_set_self (by rw [e.len]; exact hl)]
      exact fun z => hj p o (Option.some.inj h1) k q u (Ne.symm hjk) h2 z.symm
    · by_cases h4 : k = i
      · subst h4
        have hl : k < δ.length := by
          have := (List.getElem?_eq_some_iff.mp h2).1
          rwa [List.length_set] at this
        rw [List.getElem?_set_self hl] at h2
        rw [List.getElem?_set_ne (Ne.symm hjk)] at h1 ⊢
        rw [List.getElem?_set_self (by rw [e.len]; exact hl)]
        exact hj q u (Option.some.inj h2) j p o hjk h1
      · rw [List.getElem?_set_ne (Ne.symm h3)] at h1 ⊢
        rw [List.getElem?_set_ne (Ne.symm h4)] at h2 ⊢
        exact e.inj j k p o q u hjk h1 h2
theorem EnvR.setRo {i : Nat} {d : D} {v : V} (e : EnvR g ows σ H δ) (h : Rep g.K (hid ows H) d v) : EnvR g ows (σ.set i (some v)) H (δ.set i (.ro d)) :=
  e.set ⟨v, rfl, h⟩ (fun _ _ z => nomatch z) (fun _ z => nomatch z)
/-- a slot is forgotten -/
theorem EnvR.forget {i : Nat} {v : Option V} (e : EnvR g ows σ H δ) : EnvR g ows (σ.set i v) H (δ.set i .no) := by
  refine ⟨by rw [List.length_set, List.length_set]; exact e.len, e.base, e.psub, e.dom, fun j t q => ?_, fun j k p o q u hjk h1 h2 => ?_, fun j o q => par_set (s := .no) e (fun _ z => nomatch z) q, e.tab, e.need⟩
  · by_cases hji : j = i
    · subst hji
      have hl : j < δ.length := by
        have := (List.getElem?_eq_some_iff.mp q).1
        rwa [List.length_set] at this
      rw [List.getElem?_set_self hl] at q
      cases q
      trivial
    · rw [List.getElem?_set_ne (Ne.symm hji)] at q ⊢
      exact e.slot j t q
  · have nj : ∀ {m p o}, (δ.set i .no)[m]? = some (Sl.ow p o) → m ≠ i ∧ δ[m]? = some (Sl.ow p o) := fun {m p o} h => by
      by_cases hm : m = i
      · subst hm
        have hl : m < δ.length := by
          have := (List.getElem?_eq_some_iff.mp h).1
          rwa [List.length_set] at this
        rw [List.getElem?_set_self hl] at h
        cases h
      · rw [List.getElem?_set_ne (Ne.symm hm)] at h
        exact ⟨hm, h⟩
    obtain ⟨a1, a2⟩ := nj h1
    obtain ⟨b1, b2⟩ := nj h2
    rw [List.getElem?_set_ne (Ne.symm a1), List.getElem?_set_ne (Ne.symm b1)]
    exact e.inj j k p o q u hjk a2 b2
/-- an object at p that came behind H is one's own behind H' -/
theorem EnvR.ownNew {p : Addr} {o : HO} (e : EnvR g ows σ H δ) (n : H p = none) (sm : ∀ a u, H a = some u → H' a = some u) (hp : H' p = some o) : EnvR g (p :: ows) σ H' δ := by
  have f := e.fresh n
  have s1 : Same (hid ows H) (hid (p :: ows) H') := fun a u h => by
    unfold hid at h ⊢
    split at h
    · cases h
    · rename_i na
      rw [if_neg]
      · exact sm a u h
      · intro z
        rcases List.mem_cons.mp z with rfl | z
        · rw [n] at h; cases h
        · exact na z
  have eq : ∀ a ∈ ows, H' a = H a := fun a ha => by
    cases q : H a with
    | none => exact absurd q (e.dom a ha)
    | some o => exact sm a o q
  refine ⟨e.len, fun a u hq q => sm a u (e.base a u hq q), fun a ha => List.mem_cons_of_mem _ (e.psub a ha), fun a ha => ?_, fun i s q => ?_, e.inj, e.par, fun P hP t ht => (e.tab P hP t ht).mono (eq P (e.psub P hP)) s1, e.need⟩
  · rcases List.mem_cons.mp ha with rfl | ha
    · rw [hp]; exact fun z => nomatch z
    · rw [eq a ha]; exact e.dom a ha
  · have := e.slot i s q
    cases s with
    | no => trivial
    | ro d =>
      obtain ⟨x, h1, h2⟩ := this
      exact ⟨x, h1, h2.mono s1⟩
    | ow b ob =>
      obtain ⟨a, h1, h2, h3, h4⟩ := this
      refine ⟨a, h1, List.mem_cons_of_mem _ h2, h3, ?_⟩
      rw [eq a h2]
      exact h4.mono s1
/-- an own object is changed -/
theorem EnvR.change {i : Nat} {a : Addr} {b : Bool} {ob ob' : Ob} {o : HO} (e : EnvR g ows σ H δ) (hi : δ[i]? = some (Sl.ow b ob)) (ha : σ[i]? = some (some (.ref a)))
    (h : OwnOk g.P g.w g.K (hid ows H) a (some o) ob') : EnvR g ows σ (upd H a o) (δ.set i (.ow b ob')) := by
  obtain ⟨a', h1, h2, h3, h4⟩ := e.slot i _ hi
  rw [ha] at h1
  have ea : a = a' := by simpa using h1
  subst ea
  have hh : hid ows (upd H a o) = hid ows H := by
    funext c
    unfold hid
    split
    · rfl
    · rename_i n
      exact upd_ne fun z => n (by rw [z]; exact h2)
  refine ⟨by rw [List.length_set]; exact e.len, fun c u hc q => ?_, e.psub, fun c hc => ?_, fun j s q => ?_, fun j k p o q u hjk h5 h6 => ?_, fun j o' q => ?_, fun P hP t ht => (e.tab P hP t ht).mono (upd_ne fun z => by obtain ⟨t2, k2⟩ := (e.tab P hP t ht).some; have m := h4.mut; rw [← z, k2] at m; exact m) (by rw [hh]; exact Same.refl _), e.need⟩
  · have := e.base c u hc q
    rw [upd_ne]
    · exact this
    · intro z
      subst z
      cases b with
      | true => exact hc (by simpa using h3)
      | false =>
        have h3 : g.H0 c = none := by simpa using h3
        rw [h3] at q; cases q
  · by_cases z : c = a
    · rw [z, upd_same]; exact fun z => nomatch z
    · rw [upd_ne z]; exact e.dom c hc
  · by_cases hji : j = i
    · subst hji
      have hl : j < δ.length := (List.getElem?_eq_some_iff.mp hi).1
      rw [List.getElem?_set_self hl] at q
      cases q
      refine ⟨a, ha, h2, h3, ?_⟩
      rw [hh, upd_same]
      exact h
    · rw [List.getElem?_set_ne (Ne.symm hji)] at q
      have := e.slot j s q
      cases s with
      | no => trivial
      | ro d =>
        obtain ⟨x, g1, g2⟩ := this
        exact ⟨x, g1, by rw [hh]; exact g2⟩
      | ow c u =>
        obtain ⟨a', g1, g2, g3, g4⟩ := this
        refine ⟨a', g1, g2, g3, ?_⟩
        have : a' ≠ a := fun z => e.inj j i c u b ob hji q hi (by rw [g1, ha, z])
        rw [hh, upd_ne this]
        exact g4
  · have nj : ∀ {m p o}, (δ.set i (.ow b ob'))[m]? = some (Sl.ow p o) → ∃ p' o', δ[m]? = some (Sl.ow p' o') := fun {m p o} h => by
      by_cases hm : m = i
      · subst hm; exact ⟨_, _, hi⟩
      · rw [List.getElem?_set_ne (Ne.symm hm)] at h
        exact ⟨_, _, h⟩
    obtain ⟨_, _, a2⟩ := nj h5
    obtain ⟨_, _, b2⟩ := nj h6
    exact e.inj j k _ _ _ _ hjk a2 b2
  · by_cases h : i = j
    · subst h
      rw [List.getElem?_set_self (List.getElem?_eq_some_iff.mp hi).1] at q
      cases q
      exact e.par i _ hi
    · rw [List.getElem?_set_ne h] at q
      exact e.par j _ q
theorem hid_change {a : Addr} {o : HO} (h : a ∈ ows) : Same (hid ows H) (hid ows (upd H a o)) := fun c u q => by
  unfold hid at q ⊢
  split at q
  · cases q
  · rename_i n
    rw [if_neg n, upd_ne fun z => n (by rw [z]; exact h)]
    exact q
end

/-! ### results -/
/-- how an exception of the text is told: the class by its name, its own field -/
def ExR (cl : Str → Option Addr) (c : Exn) (H : Hp) (cv : Value) (d : Option Addr) : Prop :=
  ∃ a, cl c.c = some a ∧ cv = .ref a ∧ (match c.pl with
    | none => d = none
    | some (f, n) => ∃ p, d = some p ∧ H p = some (.xd [(f, .int n)]))
def RvR (g : Gr) (ows : List Addr) (σ : St) (H : Hp) : RV → V → Prop
  | .d x, v => Rep g.K (hid ows H) x v
  | .own i, v => σ[i]? = some (some v)
theorem RvR.mono {g : Gr} {ows : List Addr} {σ : St} {H H' : Hp} {r : RV} {v : V} (e : Same (hid ows H) (hid ows H')) (h : RvR g ows σ H r v) : RvR g ows σ H' r v := by
  cases r with
  | d x => exact Rep.mono e x v h
  | own i => exact h
def RvRs (g : Gr) (ows : List Addr) (σ : St) (H : Hp) : List RV → List V → Prop
  | [], vs => vs = []
  | r :: rs, vs => ∃ v us, vs = v :: us ∧ RvR g ows σ H r v ∧ RvRs g ows σ H rs us
theorem RvRs.mono {g : Gr} {ows : List Addr} {σ : St} {H H' : Hp} (e : Same (hid ows H) (hid ows H')) : ∀ {rs : List RV} {vs : List V}, RvRs g ows σ H rs vs → RvRs g ows σ H' rs vs
  | [], _, h => h
  | r :: rs, _, ⟨v, us, h1, h2, h3⟩ => ⟨v, us, h1, h2.mono e, RvRs.mono e h3⟩

/-- the wishes of a run -/
structure Wi where
  g : Gr
  ows : List Addr
  σ : St
  cl : Str → Option Addr
  EX : XK
/-- an evaluation from H on: each good end is what Q wants, each exception what EX wants -/
def wpO {α β : Type} (W : Wi) (H : Hp) (o : Out Env α) (R : Hp → α → β → Prop) (Q : β → Hp → Prop) : Prop := match o with
  | .ok r δ => ∀ b H', EnvR W.g W.ows W.σ H' δ → Same (hid W.ows H) (hid W.ows H') → R H' r b → Q b H'
  | .ex c δ => ∀ H' cv d, EnvR W.g W.ows W.σ H' δ → Same (hid W.ows H) (hid W.ows H') → ExR W.cl c H' cv d → W.EX cv d H'
  | .no => False
section
variable {α β γ ε : Type} {W : Wi} {H H1 : Hp} {o : Out Env α} {R : Hp → α → β → Prop} {Q Q' : β → Hp → Prop}
theorem wpO.from (e : Same (hid W.ows H) (hid W.ows H1)) (h : wpO W H o R Q) : wpO W H1 o R Q := by
  cases o with
  | ok r δ => exact fun b H' er sm rr => h b H' er (e.trans sm) rr
  | ex c δ => exact fun H' cv d er sm x => h H' cv d er (e.trans sm) x
  | no => exact h
theorem wpO.bind {f : α → Env → Out Env γ} {R2 : Hp → γ → ε → Prop} {Q2 : ε → Hp → Prop} (h : wpO W H (o.bind f) R2 Q2) :
    wpO W H o R fun b H1 => ∃ r δ1, o = .ok r δ1 ∧ EnvR W.g W.ows W.σ H1 δ1 ∧ Same (hid W.ows H) (hid W.ows H1) ∧ R H1 r b ∧ wpO W H1 (f r δ1) R2 Q2 := by
  cases o with
  | ok r δ => exact fun b H' er sm rr => ⟨r, δ, rfl, er, sm, rr, wpO.from (o := f r δ) sm h⟩
  | ex c δ => exact h
  | no => exact h
theorem wpO.imp (h : wpO W H o R Q) (k : ∀ b H', Q b H' → Q' b H') : wpO W H o R Q' := by
  cases o with
  | ok r δ => exact fun b H' er sm rr => k _ _ (h b H' er sm rr)
  | ex c δ => exact h
  | no => exact h
theorem wpO.lift {a? : Option α} {δ : Env} {f : α → Env → Out Env γ} {R2 : Hp → γ → ε → Prop} {Q2 : ε → Hp → Prop} (h : wpO W H ((G.lift a? δ).bind f) R2 Q2) : ∃ a, a? = some a ∧ wpO W H (f a δ) R2 Q2 := by
  cases a? with
  | none => exact h.elim
  | some a => exact ⟨a, rfl, h⟩
end
end G
/-! G.TupRep: tuple * int, any small int. -/
namespace G
open PySem L2 PySem.Spec PyProof.Rows
theorem tuple_mul_same (l : Addr) (items : Array Value) (n : Nat) (dd : Option Addr) (sl : Array (Option Value)) (x : Int) (u : Tok) (c0 : (decide (x < -(2 ^ 63)) || decide (x ≥ 2 ^ 63)) = false) (c1 : (items.isEmpty || x == 1) = true) :
    Meets (Builtin.«tuple.__mul__» ⟨[.ref l, .int x u], []⟩) (fun _ R s => s.heap.get? l = some { cls := .type "tuple", dict := dd, data := .seq items n, slots := sl } ∧ R (.ok (.ret (Value.ref l))) s) :=
  .of_wp fun prog w A R s h => by
    obtain ⟨hp, g, d, tk, os⟩ := s
    obtain ⟨hl, h⟩ := h
    have f1 := AutoSeq1.idx_int
    wp_walk using wpAny_loadPart' hl
    repeat (first
      | (refine wpAny_ite_false (decide_eq_false (by rw [c0]; exact Bool.false_ne_true)) ?_; wp_walk using wpAny_loadPart' hl)
      | (refine wpAny_ite_true (decide_eq_true c1) ?_; wp_walk using wpAny_loadPart' hl))
    all_goals exact ⟨_, rfl, h⟩
theorem tuple_mul_none (l : Addr) (items : Array Value) (n : Nat) (dd : Option Addr) (sl : Array (Option Value)) (x : Int) (u : Tok) (c0 : (decide (x < -(2 ^ 63)) || decide (x ≥ 2 ^ 63)) = false) (c1 : (items.isEmpty || x == 1) = false) (c2 : (decide (x ≤ 0) || items.isEmpty) = true) :
    Meets (Builtin.«tuple.__mul__» ⟨[.ref l, .int x u], []⟩) (fun _ R s => s.heap.get? l = some { cls := .type "tuple", dict := dd, data := .seq items n, slots := sl } ∧
      R (.ok (.ret (Value.ref s.heap.objs.size))) { s with heap := s.heap.push { cls := Value.type "tuple", data := Data.seq #[] }, toks := s.toks }) :=
  .of_wp fun prog w A R s h => by
    obtain ⟨hp, g, d, tk, os⟩ := s
    obtain ⟨hl, h⟩ := h
    have f1 := AutoSeq1.idx_int
    wp_walk using wpAny_loadPart' hl
    repeat (first
      | (refine wpAny_ite_false (decide_eq_false (by rw [c0]; exact Bool.false_ne_true)) ?_; wp_walk using wpAny_loadPart' hl)
      | (refine wpAny_ite_false (decide_eq_false (by rw [c1]; exact Bool.false_ne_true)) ?_; wp_walk using wpAny_loadPart' hl)
      | (refine wpAny_ite_true (decide_eq_true c2) ?_; wp_walk using wpAny_loadPart' hl))
    all_goals exact ⟨_, rfl, h⟩
/-- t * k -/
def rRepA (K : PySem.W.Frag) : R2 := fun x y H Q => ∃ l k xs, x = .ref l ∧ y = .int k ∧ SqT K H l xs ∧ 0 ≤ k ∧ k ≤ 1000 ∧ xs.length ≤ 1000 ∧ ((xs = [] ∨ k = 1) → Q (.ref l) H) ∧ ∀ p, H p = none → Q (.ref p) (upd H p (.tup (List.replicate k.toNat xs).flatten))
theorem op_repA {X : Cx} : OpR X (binaryOp .Mult) (rRepA X.K) := by
  intro pins s σ H x y v u Q I rx ry h
  obtain ⟨l, k, xs, rfl, rfl, hT, h1, h2, hz, q1, q⟩ := h
  cases rx
  obtain ⟨t, rfl⟩ := ry
  obtain ⟨its, r, ⟨⟨cls, dd, data, sl⟩, ho, hc, n, hd⟩, hs⟩ := I.tuple hT
  simp only at hc hd
  subst hc hd
  have hle : its.length = xs.length := r.length.symm
  have c0 : (decide (k < -(2 ^ 63)) || decide (k ≥ 2 ^ 63)) = false := by
    rw [decide_eq_false (by omega), decide_eq_false (by omega)] <;> rfl
  have hi : its.toArray.isEmpty = xs.isEmpty := by
    cases its with
    | nil => cases xs with
      | nil => rfl
      | cons a b => cases hle
    | cons a b => cases xs with
      | nil => cases hle
      | cons a b => rfl
  by_cases hA : xs = [] ∨ k = 1
  · have c1 : (its.toArray.isEmpty || k == 1) = true := by
      rw [hi]
      rcases hA with rfl | rfl <;> simp
    exact wpAny_binaryOp_repeat_ref (T := "tuple") (U := "int") (by decide) ⟨_, ho, rfl⟩ (fun s' => typeIs_int s' k t) noFill_tuple_mul F.fills_int_mul F.slot_int_rmul repeat_tuple F.slot_int_index.lookup
      (call_meets F.slot_int_rmul (typeIs_int s k t) F.entry_int_rmul (F.args_int_rmul_2 _ _) (int_rmul_tuple k t l its.toArray n dd sl)
        ⟨ho, rfl, ⟨_, ho, rfl⟩, call_meets F.slot_tuple_mul ⟨_, ho, rfl⟩ F.entry_tuple_mul (F.args_tuple_mul_2 _ _) (tuple_mul_same l its.toArray n dd sl k t c0 c1) ⟨ho, ⟨.ref l, H, I, rfl, q1 hA⟩⟩⟩)
  · have hn : xs ≠ [] := fun z => hA (.inl z)
    have hk : k ≠ 1 := fun z => hA (.inr z)
    by_cases h0 : k = 0
    · have c1 : (its.toArray.isEmpty || k == 1) = false := by
        rw [hi, h0]
        cases xs with
        | nil => exact absurd rfl hn
        | cons a b => rfl
      have c2 : (decide (k ≤ 0) || its.toArray.isEmpty) = true := by rw [decide_eq_true (by omega)]; rfl
      have e : (List.replicate k.toNat xs).flatten = [] := by rw [h0]; rfl
      refine wpAny_binaryOp_repeat_ref (T := "tuple") (U := "int") (by decide) ⟨_, ho, rfl⟩ (fun s' => typeIs_int s' k t) noFill_tuple_mul F.fills_int_mul F.slot_int_rmul repeat_tuple F.slot_int_index.lookup
        (call_meets F.slot_int_rmul (typeIs_int s k t) F.entry_int_rmul (F.args_int_rmul_2 _ _) (int_rmul_tuple k t l its.toArray n dd sl)
          ⟨ho, rfl, ⟨_, ho, rfl⟩, call_meets F.slot_tuple_mul ⟨_, ho, rfl⟩ F.entry_tuple_mul (F.args_tuple_mul_2 _ _) (tuple_mul_none l its.toArray n dd sl k t c0 c1 c2) ⟨ho, ?_⟩⟩)
      rw [e] at q
      refine ⟨.ref s.heap.objs.size, _, I.laid (t' := s.toks) (o := .tup []) (fun b ob q => Heap.get?_push_of_some _ q) (Nat.le_refl _) ?_, rfl, q _ (I.hok.fresh (Nat.le_refl _))⟩
      exact ⟨Nat.zero_le _, [], .nil, IsTup.new _ _⟩
    · exact op_repT pins s σ H (.ref l) (.int k) _ _ Q I rfl ⟨t, rfl⟩ ⟨l, k, xs, rfl, rfl, hT, hn, by omega, h2, hz, q⟩
end G
/-! G.Vals: operators, calls, subscripts over data, by the layer's rules. -/
namespace G
open PySem L2

def Dom (ows : List Addr) (H : Hp) : Prop := ∀ a ∈ ows, H a ≠ none
def Grow (H H' : Hp) : Prop := H' = H ∨ ∃ p o, H p = none ∧ H' = upd H p o
/-- at most two new objects -/
def Grow2 (H H' : Hp) : Prop := ∃ H1, Grow H H1 ∧ Grow H1 H'
theorem Grow.two {H H' : Hp} (g : Grow H H') : Grow2 H H' := ⟨H, .inl rfl, g⟩
/-- what is wanted of the value z -/
def Fin (K : PySem.W.Frag) (ows : List Addr) (H : Hp) (z : D) (Q : VK) : Prop := ∀ v H', Grow2 H H' → Rep K (hid ows H') z v → Q v H'
/-- data, or a list of one's own as it is now -/
def RepV (K : PySem.W.Frag) (ows : List Addr) (H : Hp) (d : D) (v : V) : Prop :=
  Rep K (hid ows H) d v ∨ ∃ a xs vs, d = .lst xs ∧ v = .ref a ∧ H a = some (.lst vs) ∧ Reps K (hid ows H) xs vs
def RepVs (K : PySem.W.Frag) (ows : List Addr) (H : Hp) : List D → List V → Prop
  | [], vs => vs = []
  | d :: ds, vs => ∃ v r, vs = v :: r ∧ RepV K ows H d v ∧ RepVs K ows H ds r
section
variable {K : PySem.W.Frag} {ows : List Addr} {H : Hp} {Q : VK}
theorem RepV.int {i : Int} {v : V} (h : RepV K ows H (.int i) v) : v = .int i := by
  rcases h with h | ⟨_, _, _, e, _⟩
  · simpa only [Rep] using h
  · cases e
theorem RepV.bl {i : Bool} {v : V} (h : RepV K ows H (.bl i) v) : v = .bl i := by
  rcases h with h | ⟨_, _, _, e, _⟩
  · simpa only [Rep] using h
  · cases e
theorem RepV.str {i : Str} {v : V} (h : RepV K ows H (.str i) v) : v = .str i := by
  rcases h with h | ⟨_, _, _, e, _⟩
  · simpa only [Rep] using h
  · cases e
theorem RepV.non {v : V} (h : RepV K ows H .non v) : v = .non := by
  rcases h with h | ⟨_, _, _, e, _⟩
  · simpa only [Rep] using h
  · cases e
theorem RepV.tup {xs : List D} {v : V} (h : RepV K ows H (.tup xs) v) : Rep K (hid ows H) (.tup xs) v ∧ ∃ a vs, v = .ref a ∧ SqT K H a vs ∧ Reps K (hid ows H) xs vs := by
  rcases h with h | ⟨_, _, _, e, _⟩
  · refine ⟨h, ?_⟩
    simp only [Rep] at h
    obtain ⟨a, vs, e, h1, h2⟩ := h
    exact ⟨a, vs, e, Same.sqT (hid_same _ _) h1, h2⟩
  · cases e
theorem RepV.lst {xs : List D} {v : V} (h : RepV K ows H (.lst xs) v) : ∃ a vs, v = .ref a ∧ H a = some (.lst vs) ∧ Reps K (hid ows H) xs vs := by
  rcases h with h | ⟨a, ys, vs, e, h1, h2, h3⟩
  · simp only [Rep] at h
    obtain ⟨a, vs, e, h1, h2⟩ := h
    exact ⟨a, vs, e, hid_same _ _ _ _ h1, h2⟩
  · cases e
    exact ⟨a, vs, h1, h2, h3⟩
theorem RepV.frz {xs : List D} {v : V} (h : RepV K ows H (.frz xs) v) : ∃ a vs, v = .ref a ∧ SqL K H a vs ∧ Reps K (hid ows H) xs vs := by
  rcases h with h | ⟨_, _, _, e, _⟩
  · simp only [Rep] at h
    obtain ⟨a, vs, e, h1, h2⟩ := h
    exact ⟨a, vs, e, Same.seq (hid_same _ _) h1, h2⟩
  · cases e
theorem RepV.full {d : D} {v : V} (h : RepV K ows H d v) : Rep K H d v := by
  rcases h with h | ⟨a, ys, vs, rfl, h1, h2, h3⟩
  · exact h.mono (hid_same _ _)
  · simp only [Rep]
    exact ⟨a, vs, h1, h2, Reps.mono (hid_same _ _) _ _ h3⟩
theorem Fin.same {z : D} {v : V} (f : Fin K ows H z Q) (h : Rep K (hid ows H) z v) : Q v H := f v H (Grow.two (.inl rfl)) h
theorem Fin.int {i : Int} (f : Fin K ows H (.int i) Q) : Q (.int i) H := f.same (by simp only [Rep])
theorem Fin.bl {i : Bool} (f : Fin K ows H (.bl i) Q) : Q (.bl i) H := f.same (by simp only [Rep])
theorem Fin.str {i : Str} (f : Fin K ows H (.str i) Q) : Q (.str i) H := f.same (by simp only [Rep])
theorem dom_new (hd : Dom ows H) {p : Addr} (n : H p = none) : p ∉ ows := fun z => hd p z n
theorem Fin.lst {zs : List D} {vs : List V} (f : Fin K ows H (.lst zs) Q) (hd : Dom ows H) (r : Reps K (hid ows H) zs vs) (p : Addr) (n : H p = none) : Q (.ref p) (upd H p (.lst vs)) :=
  f _ _ (Grow.two (.inr ⟨p, _, n, rfl⟩)) (by
    simp only [Rep]
    exact ⟨p, vs, rfl, hid_of upd_same (dom_new hd n), Reps.mono (hid_new n) _ _ r⟩)
theorem Fin.tup {zs : List D} {vs : List V} (f : Fin K ows H (.tup zs) Q) (hd : Dom ows H) (r : Reps K (hid ows H) zs vs) (p : Addr) (n : H p = none) : Q (.ref p) (upd H p (.tup vs)) :=
  f _ _ (Grow.two (.inr ⟨p, _, n, rfl⟩)) (by
    simp only [Rep]
    exact ⟨p, vs, rfl, .inl (.inl (hid_of upd_same (dom_new hd n))), Reps.mono (hid_new n) _ _ r⟩)
end
/-- two data in, one out -/
def rD (K : PySem.W.Frag) (F : D → D → Option D) : R2 := fun x y H Q => ∃ ows a b z, Dom ows H ∧ RepV K ows H a x ∧ RepV K ows H b y ∧ F a b = some z ∧ Fin K ows H z Q
def rCD (K : PySem.W.Frag) (F : List D → Option D) : List V → Hp → VK → Prop := fun vs H Q => ∃ ows ds z, Dom ows H ∧ RepVs K ows H ds vs ∧ F ds = some z ∧ Fin K ows H z Q
theorem OpR.imp {X : Cx} {f : Value → Value → Sem Value} {r r' : R2} (h : OpR X f r) (k : ∀ x y H Q, r' x y H Q → r x y H Q) : OpR X f r' := fun pins s σ H x y v u Q I rx ry q => h pins s σ H x y v u Q I rx ry (k _ _ _ _ q)
theorem big_line : big ≤ sizeLine := by decide
section
variable {X : Cx}
theorem op_of {f : Value → Value → Sem Value} {F : D → D → Option D} (h : ∀ pins s σ H x y v u Q ows a b z, Inv X pins σ H s → RelV x v → RelV y u → Dom ows H → RepV X.K ows H a x → RepV X.K ows H b y → F a b = some z → Fin X.K ows H z Q →
    wpAny (model X.prog X.w) X.A (f v u) (EP X pins σ Q) X.xe s) : OpR X f (rD X.K F) := fun pins s σ H x y v u Q I rx ry ⟨ows, a, b, z, hd, ha, hb, e, f⟩ => h pins s σ H x y v u Q ows a b z I rx ry hd ha hb e f
theorem opD_add : OpR X (binaryOp .Add) (rD X.K (binv .add)) := op_of fun pins s σ H x y v u Q ows a b z I rx ry hd ha hb e f => by
  unfold binv at e
  split at e
  all_goals try contradiction
  · cases e
    rw [ha.int] at rx; rw [hb.int] at ry
    exact op_add pins s σ H _ _ _ _ Q I rx ry ⟨_, _, rfl, rfl, f.int⟩
  · rw [ha.str] at rx; rw [hb.str] at ry
    split at e <;> cases e
    exact op_add_str pins s σ H _ _ _ _ Q I rx ry ⟨_, _, rfl, rfl, Nat.le_trans (by assumption) big_line, f.str⟩
  · split at e <;> cases e
    obtain ⟨r1, p, vs, rfl, h1, h2⟩ := ha.tup
    obtain ⟨r2, q, us, rfl, h3, h4⟩ := hb.tup
    have l1 := h2.length
    have l2 := h4.length
    have bl := big_line
    refine op_catA pins s σ H _ _ _ _ Q I rx ry ⟨p, q, vs, us, rfl, rfl, h1, h3, by omega, fun e => ?_, fun n e => ?_, fun n m => f.tup hd (h2.append h4)⟩
    · subst e
      rename_i xs ys _ _
      have : xs = [] := List.eq_nil_of_length_eq_zero l1.symm
      subst this
      exact f.same r2
    · subst e
      rename_i xs ys _ _
      have : ys = [] := List.eq_nil_of_length_eq_zero l2.symm
      subst this
      rw [List.append_nil] at f
      exact f.same r1
  · split at e <;> cases e
    obtain ⟨p, vs, rfl, h1, h2⟩ := ha.lst
    obtain ⟨q, us, rfl, h3, h4⟩ := hb.lst
    have l1 := h2.length
    have l2 := h4.length
    have bl := big_line
    exact op_cat pins s σ H _ _ _ _ Q I rx ry ⟨p, q, vs, us, rfl, rfl, h1, h3, by omega, f.lst hd (h2.append h4)⟩
theorem opD_sub : OpR X (binaryOp .Sub) (rD X.K (binv .sub)) := op_of fun pins s σ H x y v u Q ows a b z I rx ry hd ha hb e f => by
  unfold binv at e
  split at e
  all_goals try contradiction
  cases e
  rw [ha.int] at rx; rw [hb.int] at ry
  exact op_sub pins s σ H _ _ _ _ Q I rx ry ⟨_, _, rfl, rfl, f.int⟩
theorem opD_mul : OpR X (binaryOp .Mult) (rD X.K (binv .mul)) := op_of fun pins s σ H x y v u Q ows a b z I rx ry hd ha hb e f => by
  unfold binv at e
  split at e
  all_goals try contradiction
  · rw [ha.int] at rx; rw [hb.int] at ry
    split at e <;> cases e
    rename_i m
    unfold mulOk at m
    simp only [Bool.or_eq_true, Bool.and_eq_true, decide_eq_true_eq] at m
    exact op_mul pins s σ H _ _ _ _ Q I rx ry ⟨_, _, rfl, rfl, m, f.int⟩
  · split at e <;> cases e
    rename_i hk
    obtain ⟨h1, h2, h3⟩ := hk
    obtain ⟨r1, p, vs, rfl, h4, h5⟩ := ha.tup
    have hb' := hb.int
    subst hb'
    have l1 := h5.length
    refine op_repA pins s σ H _ _ _ _ Q I rx ry ⟨p, _, vs, rfl, rfl, h4, h2, h3, by omega, fun e => ?_, f.tup hd (h5.rep _)⟩
    rcases e with rfl | rfl
    · rename_i xs _ _
      have : xs = [] := List.eq_nil_of_length_eq_zero l1.symm
      subst this
      have e2 : ∀ k, repD [] k = [] := fun k => by unfold repD; exact List.flatten_eq_nil_iff.mpr fun l hl => List.eq_of_mem_replicate hl
      rw [e2] at f
      exact f.same r1
    · have e2 : ∀ xs : List D, repD xs 1 = xs := fun xs => by show [xs].flatten = xs; simp
      rw [e2] at f
      exact f.same r1
  · split at e <;> cases e
    rename_i hk
    obtain ⟨h1, h2, h3⟩ := hk
    obtain ⟨p, vs, rfl, h4, h5⟩ := ha.lst
    have hb' := hb.int
    subst hb'
    have l1 := h5.length
    refine op_rep pins s σ H _ _ _ _ Q I rx ry ⟨p, _, vs, rfl, rfl, h4, by omega, by omega, ?_, f.lst hd (h5.rep _)⟩
    have : vs.length * Int.toNat _ ≤ 1000 * 1000 := Nat.mul_le_mul (by rw [l1]; exact h1) (Int.toNat_le.mpr h3)
    have bl := big_line
    unfold big at bl
    omega
theorem opD_fdiv : OpR X (binaryOp .FloorDiv) (rD X.K (binv .fdiv)) := op_of fun pins s σ H x y v u Q ows a b z I rx ry hd ha hb e f => by
  unfold binv at e
  split at e
  all_goals try contradiction
  rw [ha.int] at rx; rw [hb.int] at ry
  split at e <;> cases e
  rename_i m
  exact op_fdivN pins s σ H _ _ _ _ Q I rx ry ⟨_, _, rfl, rfl, m, f.int⟩
theorem opD_mod : OpR X (binaryOp .Mod) (rD X.K (binv .mod)) := op_of fun pins s σ H x y v u Q ows a b z I rx ry hd ha hb e f => by
  unfold binv at e
  split at e
  all_goals try contradiction
  rw [ha.int] at rx; rw [hb.int] at ry
  split at e <;> cases e
  rename_i m
  exact op_modN pins s σ H _ _ _ _ Q I rx ry ⟨_, _, rfl, rfl, m, f.int⟩
theorem opD_pow : OpR X (binaryOp .Pow) (rD X.K (binv .pow)) := op_of fun pins s σ H x y v u Q ows a b z I rx ry hd ha hb e f => by
  unfold binv at e
  split at e
  all_goals try contradiction
  rw [ha.int] at rx; rw [hb.int] at ry
  split at e <;> cases e
  rename_i m
  exact op_pow pins s σ H _ _ _ _ Q I rx ry ⟨_, _, rfl, rfl, ⟨m.1, by omega, m.2.2⟩, f.int⟩
def opOf : Bop → Operator
  | .add => .Add | .sub => .Sub | .mul => .Mult | .fdiv => .FloorDiv | .mod => .Mod | .pow => .Pow
theorem opD (o : Bop) : OpR X (binaryOp (opOf o)) (rD X.K (binv o)) := by
  cases o
  · exact opD_add
  · exact opD_sub
  · exact opD_mul
  · exact opD_fdiv
  · exact opD_mod
  · exact opD_pow
end

/-! ### comparisons -/
theorem Rep.isNon {K : PySem.W.Frag} {H : Hp} {d : D} {v : V} (h : Rep K H d v) : decide (v = V.non) = d.isNon := by
  cases d <;> simp only [Rep] at h
  case non => subst h; rfl
  case bl => subst h; rfl
  case int => subst h; rfl
  case str => subst h; rfl
  all_goals (obtain ⟨a, vs, rfl, _⟩ := h; rfl)
def rC (K : PySem.W.Frag) (o : Cop) : R2 := rD K fun a b => (cmpv o a b).map .bl
section
variable {X : Cx}
theorem op_cmp {f : Value → Value → Sem Value} {o : Cop} (h : ∀ pins s σ H x y v u Q ows a b t, Inv X pins σ H s → RelV x v → RelV y u → Dom ows H → RepV X.K ows H a x → RepV X.K ows H b y → cmpv o a b = some t → Q (.bl t) H →
    wpAny (model X.prog X.w) X.A (f v u) (EP X pins σ Q) X.xe s) : OpR X f (rC X.K o) := op_of fun pins s σ H x y v u Q ows a b z I rx ry hd ha hb e g => by
  obtain ⟨t, e1, e2⟩ := Option.map_eq_some_iff.mp e
  subst e2
  exact h pins s σ H x y v u Q ows a b t I rx ry hd ha hb e1 g.bl
theorem opC_eq (hu : X.A.units + 64 < cLine) : OpR X (compareOp .Eq) (rC X.K .eq) := op_cmp fun pins s σ H x y v u Q ows a b t I rx ry hd ha hb e q => by
  have e : (if D.shp 60 a && D.shp 60 b then some (D.eq a b) else none) = some t := e
  split at e <;> cases e
  rename_i m
  rw [Bool.and_eq_true] at m
  have q' := q
  rw [← eq_py a b 60 60 m.1 m.2] at q'
  exact op_eqD hu pins s σ H _ _ _ _ Q I rx ry ⟨_, _, Rep.dp _ _ ha.full, Rep.dp _ _ hb.full, shaped_of m.1, shaped_of m.2, q'⟩
theorem opC_ne (hu : X.A.units + 64 < cLine) : OpR X (compareOp .NotEq) (rC X.K .ne) := op_cmp fun pins s σ H x y v u Q ows a b t I rx ry hd ha hb e q => by
  have e : (if D.shp 60 a && D.shp 60 b then some (!D.eq a b) else none) = some t := e
  split at e <;> cases e
  rename_i m
  rw [Bool.and_eq_true] at m
  have q' := q
  rw [← eq_py a b 60 60 m.1 m.2] at q'
  exact op_neD hu pins s σ H _ _ _ _ Q I rx ry ⟨_, _, Rep.dp _ _ ha.full, Rep.dp _ _ hb.full, shaped_of m.1, shaped_of m.2, q'⟩
theorem opC_lt : OpR X (compareOp .Lt) (rC X.K .lt) := op_cmp fun pins s σ H x y v u Q ows a b t I rx ry hd ha hb e q => by
  unfold cmpv at e
  split at e
  all_goals try contradiction
  cases e
  rw [ha.int] at rx; rw [hb.int] at ry
  exact op_lt pins s σ H _ _ _ _ Q I rx ry ⟨_, _, rfl, rfl, q⟩
theorem opC_le : OpR X (compareOp .LtE) (rC X.K .le) := op_cmp fun pins s σ H x y v u Q ows a b t I rx ry hd ha hb e q => by
  unfold cmpv at e
  split at e
  all_goals try contradiction
  cases e
  rw [ha.int] at rx; rw [hb.int] at ry
  exact op_le pins s σ H _ _ _ _ Q I rx ry ⟨_, _, rfl, rfl, q⟩
theorem opC_gt : OpR X (compareOp .Gt) (rC X.K .gt) := op_cmp fun pins s σ H x y v u Q ows a b t I rx ry hd ha hb e q => by
  unfold cmpv at e
  split at e
  all_goals try contradiction
  cases e
  rw [ha.int] at rx; rw [hb.int] at ry
  exact op_gt pins s σ H _ _ _ _ Q I rx ry ⟨_, _, rfl, rfl, q⟩
theorem opC_ge : OpR X (compareOp .GtE) (rC X.K .ge) := op_cmp fun pins s σ H x y v u Q ows a b t I rx ry hd ha hb e q => by
  unfold cmpv at e
  split at e
  all_goals try contradiction
  cases e
  rw [ha.int] at rx; rw [hb.int] at ry
  exact op_ge pins s σ H _ _ _ _ Q I rx ry ⟨_, _, rfl, rfl, q⟩
theorem Reps.full {K : PySem.W.Frag} {ows : List Addr} {H : Hp} {ds : List D} {vs : List V} (h : Reps K (hid ows H) ds vs) : Reps K H ds vs := Reps.mono (hid_same _ _) _ _ h
theorem opC_in : OpR X (compareOp .In) (rC X.K .isin) := op_cmp fun pins s σ H x y v u Q ows a b t I rx ry hd ha hb e q => by
  unfold cmpv at e
  split at e
  all_goals try contradiction
  all_goals (split at e <;> cases e)
  all_goals (rename_i m; rw [Bool.and_eq_true] at m)
  · obtain ⟨_, p, vs, rfl, h1, h2⟩ := hb.tup
    rw [← Reps.inV ha.full m.1 h2.full m.2] at q
    exact op_in_seq pins s σ H _ _ _ _ Q I rx ry ⟨p, vs, rfl, .inr h1, ha.full.flatV m.1, h2.flatV m.2, q⟩
  · obtain ⟨p, vs, rfl, h1, h2⟩ := hb.lst
    rw [← Reps.inV ha.full m.1 h2.full m.2] at q
    exact op_in_seq pins s σ H _ _ _ _ Q I rx ry ⟨p, vs, rfl, .inl (SqL.of h1), ha.full.flatV m.1, h2.flatV m.2, q⟩
theorem opC_notin : OpR X (compareOp .NotIn) (rC X.K .notin) := op_cmp fun pins s σ H x y v u Q ows a b t I rx ry hd ha hb e q => by
  unfold cmpv at e
  split at e
  all_goals try contradiction
  all_goals (split at e <;> cases e)
  all_goals (rename_i m; rw [Bool.and_eq_true] at m)
  · obtain ⟨_, p, vs, rfl, h1, h2⟩ := hb.tup
    rw [← Reps.inV ha.full m.1 h2.full m.2] at q
    exact op_notIn_seq pins s σ H _ _ _ _ Q I rx ry ⟨p, vs, rfl, .inr h1, ha.full.flatV m.1, h2.flatV m.2, q⟩
  · obtain ⟨p, vs, rfl, h1, h2⟩ := hb.lst
    rw [← Reps.inV ha.full m.1 h2.full m.2] at q
    exact op_notIn_seq pins s σ H _ _ _ _ Q I rx ry ⟨p, vs, rfl, .inl (SqL.of h1), ha.full.flatV m.1, h2.flatV m.2, q⟩
theorem opC_is : OpR X (compareOp .Is) (rC X.K .is) := op_cmp fun pins s σ H x y v u Q ows a b t I rx ry hd ha hb e q => by
  unfold cmpv at e
  split at e
  all_goals try contradiction
  · rw [hb.non] at ry
    cases e
    have q' : Q (.bl (decide (x = V.non))) H := by rw [ha.full.isNon]; exact q
    exact op_isN pins s σ H _ _ _ _ Q I rx ry ⟨rfl, q'⟩
  · cases e
    rw [ha.bl] at rx; rw [hb.bl] at ry
    exact op_is_bl pins s σ H _ _ _ _ Q I rx ry ⟨_, _, rfl, rfl, q⟩
theorem opC_isnot : OpR X (compareOp .IsNot) (rC X.K .isnot) := op_cmp fun pins s σ H x y v u Q ows a b t I rx ry hd ha hb e q => by
  unfold cmpv at e
  split at e
  all_goals try contradiction
  · rw [hb.non] at ry
    cases e
    have q' : Q (.bl (!decide (x = V.non))) H := by
      rw [ha.full.isNon]
      exact q
    exact op_notN pins s σ H _ _ _ _ Q I rx ry ⟨rfl, q'⟩
  · cases e
    rw [ha.bl] at rx; rw [hb.bl] at ry
    exact op_isnot_bl pins s σ H _ _ _ _ Q I rx ry ⟨_, _, rfl, rfl, q⟩
def cOf : Cop → CmpOp
  | .eq => .Eq | .ne => .NotEq | .lt => .Lt | .le => .LtE | .gt => .Gt | .ge => .GtE | .isin => .In | .notin => .NotIn | .is => .Is | .isnot => .IsNot
theorem opC (hu : X.A.units + 64 < cLine) (o : Cop) : OpR X (compareOp (cOf o)) (rC X.K o) := by
  cases o
  · exact opC_eq hu
  · exact opC_ne hu
  · exact opC_lt
  · exact opC_le
  · exact opC_gt
  · exact opC_ge
  · exact opC_in
  · exact opC_notin
  · exact opC_is
  · exact opC_isnot
theorem OpR.or {f : Value → Value → Sem Value} {r r' : R2} (h : OpR X f r) (h' : OpR X f r') : OpR X f (fun x y H Q => r x y H Q ∨ r' x y H Q) := fun pins s σ H x y v u Q I rx ry q => by
  rcases q with q | q
  · exact h pins s σ H x y v u Q I rx ry q
  · exact h' pins s σ H x y v u Q I rx ry q
/-- .. and x in a dict -/
def rCN (P : Program) (w : World) (K : PySem.W.Frag) (o : Cop) : R2 := fun x y H Q => rC K o x y H Q ∨ (o = .isin ∧ rInN P w K false x y H Q) ∨ (o = .notin ∧ rInN P w K true x y H Q)
theorem opCN (hu : X.A.units + 64 < cLine) (o : Cop) : OpR X (compareOp (cOf o)) (rCN X.prog X.w X.K o) := fun pins s σ H x y v u Q I rx ry q => by
  rcases q with q | ⟨rfl, q⟩ | ⟨rfl, q⟩
  · exact opC hu o pins s σ H x y v u Q I rx ry q
  · exact op_inN (by omega) pins s σ H x y v u Q I rx ry q
  · exact op_notinN (by omega) pins s σ H x y v u Q I rx ry q

/-! ### subscripts, slices -/
theorem atD_at {K : PySem.W.Frag} {H : Hp} {ds : List D} {vs : List V} (h : Reps K H ds vs) {i : Int} {d : D} (e : atD ds i = some d) : ∃ v, atI vs i = some v ∧ Rep K H d v := by
  unfold atD at e
  have l := h.length
  unfold atI ixN
  split at e
  · rename_i h0
    obtain ⟨v, h1, h2⟩ := h.get e
    have hl := (List.getElem?_eq_some_iff.mp h1).1
    rw [if_pos h0, if_pos (by omega)]
    exact ⟨v, h1, h2⟩
  · rename_i h0
    split at e
    · rename_i h1
      rw [if_neg h0, if_pos (by rw [l]; exact h1), l]
      exact h.get e
    · cases e
theorem ixD : IxR X (rD X.K idxv) := by
  intro value slice pins s σ H x y v u Q I rx ry ⟨ows, a, b, z, hd, ha, hb, e, f⟩ hs
  unfold idxv at e
  split at e
  all_goals try contradiction
  · obtain ⟨_, p, vs, rfl, h1, h2⟩ := ha.tup
    rw [hb.int] at ry
    obtain ⟨w, g1, g2⟩ := atD_at h2 e
    exact ix_tup value slice pins s σ H _ _ _ _ Q I rx ry ⟨p, vs, _, w, rfl, rfl, h1, g1, f.same g2⟩ hs
  · obtain ⟨p, vs, rfl, h1, h2⟩ := ha.lst
    rw [hb.int] at ry
    obtain ⟨w, g1, g2⟩ := atD_at h2 e
    exact ix_list value slice pins s σ H _ _ _ _ Q I rx ry ⟨p, vs, _, w, rfl, rfl, SqL.of h1, g1, f.same g2⟩ hs
  · obtain ⟨p, vs, rfl, h1, h2⟩ := ha.frz
    rw [hb.int] at ry
    obtain ⟨w, g1, g2⟩ := atD_at h2 e
    exact ix_list value slice pins s σ H _ _ _ _ Q I rx ry ⟨p, vs, _, w, rfl, rfl, h1, g1, f.same g2⟩ hs
/-- .. or d[k] of a dict -/
def rIxN (P : Program) (w : World) (K : PySem.W.Frag) : R2 := fun x y H Q => rD K idxv x y H Q ∨ rGetN P w K x y H Q
theorem ixN (hu : X.A.units + 64 < cLine) : IxR X (rIxN X.prog X.w X.K) := ixD.or (ix_dct (by omega))
def rSlD (K : PySem.W.Frag) : V → Option Int → Option Int → Hp → VK → Prop := fun x lo hi H Q => ∃ ows a z, Dom ows H ∧ RepV K ows H a x ∧ slv a lo hi = some z ∧ Fin K ows H z Q
theorem bnd_eq (n d : Nat) (x : Option Int) : bnd n d x = HT.sIx n d x := by cases x <;> rfl
theorem slD : SlR X (rSlD X.K) := by
  intro pins s σ H x v vl vu lo hi sl Q I rx hs pl pu ⟨ows, a, z, hd, ha, e, f⟩
  unfold slv at e
  split at e
  all_goals try contradiction
  · cases e
    obtain ⟨r, p, vs, rfl, h1, h2⟩ := ha.tup
    have l := h2.length
    refine sl_tupA pins s σ H _ _ _ _ lo hi sl Q I rx hs pl pu ⟨p, vs, rfl, h1, fun w => ?_, fun _ => f.tup hd (h2.cut lo hi)⟩
    rename_i xs
    have e2 : cut xs lo hi = xs := by
      unfold cut
      rw [bnd_eq, bnd_eq, ← l, w.1, w.2, l]
      simp
    rw [e2] at f
    exact f.same r
  · cases e
    obtain ⟨p, vs, rfl, h1, h2⟩ := ha.lst
    exact sl_list pins s σ H _ _ _ _ lo hi sl Q I rx hs pl pu ⟨p, vs, rfl, SqL.of h1, f.lst hd (h2.cut lo hi)⟩
  · split at e <;> cases e
    rw [ha.str] at rx
    refine sl_str pins s σ H _ _ _ _ lo hi sl Q I rx hs pl pu ⟨_, rfl, Nat.le_trans (by assumption) big_line, ?_⟩
    exact f.str
end
end G
/-! G.SetU: sorted lists without repetitions. -/
namespace G
theorem insU_mem (a k : Int) : ∀ l, k ∈ insU a l ↔ k = a ∨ k ∈ l
  | [] => by simp [insU]
  | b :: r => by
    unfold insU
    split
    · simp
    · split
      · rename_i h; subst h; simp
      · simp only [List.mem_cons, insU_mem a k r]
        constructor
        · rintro (h | h | h)
          · exact .inr (.inl h)
          · exact .inl h
          · exact .inr (.inr h)
        · rintro (h | h | h)
          · exact .inr (.inl h)
          · exact .inl h
          · exact .inr (.inr h)
theorem sortU_mem (k : Int) : ∀ l, k ∈ sortU l ↔ k ∈ l
  | [] => by simp [sortU]
  | a :: r => by simp [sortU, insU_mem, sortU_mem k r]
theorem insU_up (a : Int) : ∀ l : List Int, l.Pairwise (· < ·) → (insU a l).Pairwise (· < ·)
  | [], _ => List.pairwise_singleton _ _
  | b :: r, h => by
    obtain ⟨h1, h2⟩ := List.pairwise_cons.mp h
    unfold insU
    split
    · rename_i q
      exact List.pairwise_cons.mpr ⟨fun x hx => by
        rcases List.mem_cons.mp hx with rfl | hx
        · exact q
        · exact Int.lt_trans q (h1 x hx), h⟩
    · split
      · exact h
      · rename_i q1 q2
        refine List.pairwise_cons.mpr ⟨fun x hx => ?_, insU_up a r h2⟩
        rcases (insU_mem a x r).1 hx with rfl | hx
        · omega
        · exact h1 x hx
theorem sortU_up : ∀ l : List Int, (sortU l).Pairwise (· < ·)
  | [] => .nil
  | a :: r => insU_up a _ (sortU_up r)
theorem nodup_up {l : List Int} (h : l.Pairwise (· < ·)) : l.Nodup := h.imp fun h => Int.ne_of_lt h
theorem sortU_the {l m : List Int} (u : m.Pairwise (· < ·)) (e : ∀ k, k ∈ m ↔ k ∈ l) : m = sortU l :=
  List.Perm.eq_of_pairwise (fun x y _ _ h1 h2 => absurd h2 (Int.not_lt.2 (Int.le_of_lt h1))) u (sortU_up l) ((List.perm_ext_iff_of_nodup (nodup_up u) (nodup_up (sortU_up l))).2 fun k => (e k).trans (sortU_mem k l).symm)
end G
/-! G.SetL: set(l) of a list of ints. -/
namespace G
open PySem PySem.Spec PyProof.Rows L2
/-- the empty set as it is made -/
abbrev so (w : World) : Obj := { cls := .type "set", dict := none, data := .set #[] 0 (.fresh 0 0 (!w.params.followText "set-order")) }
section
variable {P : Program} {w : World} {A : Around} {E : Value → Shared → Prop} {s : Shared}
abbrev SetMade (w : World) (s : Shared) (ns : List Int) (s2 : Shared) : Prop := ∃ h' tk c, s2 = { s with heap := h', toks := tk } ∧ SetR w h' s.heap.objs.size (fun j => decide (j ∈ ns)) c ∧ c ≤ ns.length ∧ (∀ b o, s.heap.get? b = some o → h'.get? b = some o)
theorem call_set_lst {l : Addr} {its : Array Value} (ns : List Int) {Q : Value → Shared → Prop} (nh : A.handled = none) (isl : s.heap.IsList l its) (are : IntsAre its.toList ns) (few : ns.length + 1 < scanBound)
    (k : ∀ s2, SetMade w s ns s2 → Q (.ref s.heap.objs.size) s2) : wpAny (model P w) A (call (.type "set") [.ref l]) Q E s := by
  have zs : its.size = ns.length := (Array.length_toList (xs := its)).symm.trans (IntsAre.length are)
  obtain ⟨c0, tl0, m0⟩ := F.called_set.mro
  have made0 := F.called_set.made
  have sub0 := F.called_set.sub
  refine wpAny_call (codeAny_of_tree ?_); show wpAny _ _ (callAny (.type "set") _) _ _ _
  refine wpAny_pure ⟨Code.quiet_builtin _ (by decide +kernel), codeAny_builtin F.entry_type_call ?_⟩; rw [Around.under_plain (weight_type_call_type "set" [.ref l] []) rfl]
  have nt := F.called_set.notType
  have cc := F.called_set.canCreate
  have ct := F.typeCall_set_1 (.ref l)
  all_goals repeat (any_goals (first | assumption | wp_step))
  refine codeAny_mono (code_set_led1 (.ref l) (E := E) (Q₁ := fun x s1 => x = .ref s.heap.objs.size ∧ s1 = { s with heap := s.heap.push (so w) }) ⟨rfl, rfl⟩) fun r s1 hr => ?_
  cases r with
  | error e => exact hr
  | ok fl =>
    cases fl with
    | ret x =>
      obtain ⟨rfl, rfl⟩ := hr
      have gS : (s.heap.push (so w)).get? s.heap.objs.size = some (so w) := Heap.get?_push_size _ rfl
      have tS : Shared.TypeIs { s with heap := s.heap.push (so w) } (.ref s.heap.objs.size) "set" := ⟨_, gS, rfl⟩
      have il := F.called_set.init.lookup
      have ib := F.called_set.init.bind (.ref s.heap.objs.size)
      all_goals repeat (any_goals (first | assumption | wp_step))
      refine codeAny_mono (codeAny_call_builtin (R := wants (fun r s2 => r = .none ∧ SetMade w s ns s2) E) F.called_set.init.plain F.entry_set_init (check_set_init_1 tS ?_)) fun r2 s2 hr2 => ?_
      · obtain ⟨ol, q1, q2, nl, q3⟩ := isl
        obtain ⟨oc, od, odt, osl⟩ := ol
        simp only at q2 q3
        subst q2 q3
        have q1' : (s.heap.push (so w)).get? l = some { cls := .type "list", dict := od, data := .seq its nl, slots := osl } := Heap.get?_push_of_some _ q1
        have s1 := F.sub_list_set
        have s2 := F.sub_list_frozenset
        have nd : (Value.type "list" == Value.type "dict") = false := by decide
        have isl1 : (s.heap.push (so w)).IsList l its := ⟨_, q1', rfl, nl, rfl⟩
        unfold Builtin.«set.__init__» noKeywords Builtin.Frozenset.updateFrom
        generalize hPI : pyIter = PI; wp_walk
        subst hPI
        refine wpAny_pyIter_list isl1 ?_
        refine wpAny_bind (wpAny_runValue ?_)
        have lt : l < s.heap.objs.size := Heap.lt_size q1
        have nh3 : A.in1.in1.in1.handled = none := by simp [nh]
        have nI : l ≠ (s.heap.push (so w)).objs.size := by rw [Heap.size_push]; exact Nat.ne_of_lt (Nat.lt_succ_of_lt lt)
        have nF : s.heap.objs.size ∉ [(s.heap.push (so w)).objs.size, l] := by
          rw [Heap.size_push]
          simp only [List.mem_cons, List.not_mem_nil, or_false, not_or]
          exact ⟨Nat.ne_of_lt (Nat.lt_succ_self _), Nat.ne_of_gt lt⟩
        have item : ∀ (i : Nat) (v : Value), its[i]? = some v → ∃ k t, ns[i]? = some k ∧ v = .int k t := fun i v hv => by
          have lti : i < ns.length := zs ▸ (Array.getElem?_eq_some_iff.mp hv).1
          obtain ⟨t, e⟩ := IntsAre.int_at are i v (by rw [Array.getElem?_toList]; exact hv)
          refine ⟨ns[i], t, List.getElem?_eq_getElem lti, ?_⟩
          rw [e]
          simp [List.getD, lti]
        refine set_update_ints ((Walks.list nh3 _ l nI its).toS) s.heap.objs.size nF ns zs few item (its.size - 0) 0 _ (by omega) (Nat.zero_le _) ⟨⟨_, Heap.get?_push_size _ rfl, rfl, rfl⟩, isl1.push _⟩ ?st ?go
        case st => exact ⟨0, Nat.le_refl 0, setR_new_at (Heap.get?_push_of_some _ gS)⟩
        case go =>
          intro s' c' mv hc hS
          obtain ⟨h', g2, d', tk', os'⟩ := s'
          cases (show g2 = s.gens from mv.gens)
          cases (show d' = s.drawn from mv.drawn)
          cases (show os' = s.os from mv.os)
          show wpAny _ _ _ _ _ _
          refine wpAny_pure ?_; show wpAny _ _ (ret Value.none) _ _ _
          rw [zs] at hc
          refine wpAny_pure ⟨rfl, h', tk', c', rfl, hS, hc, fun b o e => ?_⟩
          have b0 : b < s.heap.objs.size := Heap.lt_size e
          refine mv.heap b o ?_ (Heap.get?_push_of_some _ (Heap.get?_push_of_some _ e))
          rw [Heap.size_push]
          simp only [List.mem_cons, List.not_mem_nil, or_false, not_or]
          exact ⟨Nat.ne_of_lt b0, Nat.ne_of_lt (Nat.lt_succ_of_lt b0)⟩
      · cases r2 with
        | error e => exact hr2
        | ok f2 =>
          cases f2 with
          | ret r =>
            obtain ⟨rfl, sm⟩ := hr2
            have sm' := sm
            obtain ⟨h', tk, c, rfl, _⟩ := sm
            all_goals repeat (any_goals (first | assumption | wp_step))
            exact k _ sm'
          | _ => exact hr2.elim
    | _ => exact hr.elim
end
theorem setR_count {w : World} {h : Heap} {a : Addr} {ns : List Int} {c : Nat} (R : SetR w h a (fun j => decide (j ∈ ns)) c) : c = (sortU ns).length := by
  obtain ⟨o, es, ep, t, _, _, _, _, nd, mem, _, _, sz, _, _⟩ := R
  have p : (es.toList.map keyOf).Perm (sortU ns) := (List.perm_ext_iff_of_nodup nd (nodup_up (sortU_up ns))).2 fun k => by
    rw [← mem k, sortU_mem]
    simp
  have := p.length_eq
  rw [List.length_map, Array.length_toList, sz] at this
  exact this
/-- set(l) -/
def rMkSet (w : World) (K : PySem.W.Frag) : List V → Hp → VK → Prop := fun vs H Q => ∃ (p : Addr) (ns : List Int), vs = [.ref p] ∧ SqL K H p (ns.map V.int) ∧ ns.length + 1 < scanBound ∧
  ∀ a c, H a = none → c = (sortU ns).length → Q (.ref a) (upd H a (SetO w a (fun j => decide (j ∈ ns)) c))
section
variable {X : Cx}
theorem cr_mkSet (hc : X.calm = true) : CallR X (.type "set") (rMkSet X.w X.K) := by
  intro pins s σ H xs us Q I r h
  obtain ⟨p, ns, rfl, hs, few, q⟩ := h
  rw [Vals.ref1 r]
  obtain ⟨its, rv, ⟨o, n, ho, hcl, hdn, hd⟩, hlen⟩ := I.list hs
  refine call_set_lst ns (I.ok.hd hc) ⟨o, ho, hcl, n, hd⟩ (by simpa using ints_of_vals rv) few fun s2 ⟨h', tk, c, e, hR, hcn, hk⟩ => ?_
  subst e
  have hn : H s.heap.objs.size = none := I.hok.fresh (Nat.le_refl _)
  exact ⟨.ref _, upd H s.heap.objs.size (SetO X.w s.heap.objs.size (fun j => decide (j ∈ ns)) c), I.laid (t' := tk) hk (Nat.le_refl _) (setO_new hR), rfl, q _ _ hn (setR_count hR)⟩
end
end G
/-! G.Blts: calls of built-ins over data. -/
namespace G
open PySem L2
section
variable {K : PySem.W.Frag} {ows : List Addr} {H : Hp} {Q : VK}
theorem RepVs.one {d : D} {vs : List V} (h : RepVs K ows H [d] vs) : ∃ v, vs = [v] ∧ RepV K ows H d v := by
  obtain ⟨v, r, rfl, h1, h2⟩ := h
  cases h2
  exact ⟨v, rfl, h1⟩
theorem RepVs.two {d e : D} {vs : List V} (h : RepVs K ows H [d, e] vs) : ∃ v u, vs = [v, u] ∧ RepV K ows H d v ∧ RepV K ows H e u := by
  obtain ⟨v, r, rfl, h1, h2⟩ := h
  obtain ⟨u, rfl, h3⟩ := RepVs.one h2
  exact ⟨v, u, rfl, h1, h3⟩
theorem reps_ints : ∀ {ds : List D} {vs : List V} {ns : List Int}, Reps K H ds vs → intsD ds = some ns → vs = ns.map V.int
  | [], _, _, h, e => by simp only [Reps] at h; simp only [intsD, Option.some.injEq] at e; subst h; subst e; rfl
  | .int i :: ds, vs, ns, h, e => by
    simp only [Reps, Rep] at h
    obtain ⟨v, r, rfl, rfl, h2⟩ := h
    simp only [intsD, Option.map_eq_some_iff] at e
    obtain ⟨ms, e1, rfl⟩ := e
    rw [reps_ints h2 e1, List.map_cons]
  | .non :: _, _, _, _, e => by simp [intsD] at e
  | .bl _ :: _, _, _, _, e => by simp [intsD] at e
  | .str _ :: _, _, _, _, e => by simp [intsD] at e
  | .tup _ :: _, _, _, _, e => by simp [intsD] at e
  | .lst _ :: _, _, _, _, e => by simp [intsD] at e
  | .frz _ :: _, _, _, _, e => by simp [intsD] at e
theorem reps_bls : ∀ {ds : List D} {vs : List V} {ns : List Bool}, Reps K H ds vs → blsD ds = some ns → vs = ns.map V.bl
  | [], _, _, h, e => by simp only [Reps] at h; simp only [blsD, Option.some.injEq] at e; subst h; subst e; rfl
  | .bl i :: ds, vs, ns, h, e => by
    simp only [Reps, Rep] at h
    obtain ⟨v, r, rfl, rfl, h2⟩ := h
    simp only [blsD, Option.map_eq_some_iff] at e
    obtain ⟨ms, e1, rfl⟩ := e
    rw [reps_bls h2 e1, List.map_cons]
  | .non :: _, _, _, _, e => by simp [blsD] at e
  | .int _ :: _, _, _, _, e => by simp [blsD] at e
  | .str _ :: _, _, _, _, e => by simp [blsD] at e
  | .tup _ :: _, _, _, _, e => by simp [blsD] at e
  | .lst _ :: _, _, _, _, e => by simp [blsD] at e
  | .frz _ :: _, _, _, _, e => by simp [blsD] at e
theorem ints_reps : ∀ ns : List Int, Reps K H (ns.map D.int) (ns.map V.int)
  | [] => Reps.nil
  | n :: ns => Reps.cons (by simp only [Rep]) (ints_reps ns)
/-! ### sorted ints -/
theorem insI_perm (a : Int) : ∀ l, (insI a l).Perm (a :: l)
  | [] => .refl _
  | b :: r => by
    unfold insI
    split
    · exact .refl _
    · exact ((insI_perm a r).cons b).trans (List.Perm.swap a b r)
theorem sortI_perm : ∀ l, (sortI l).Perm l
  | [] => .refl _
  | a :: r => (insI_perm a _).trans ((sortI_perm r).cons a)
theorem insI_up (a : Int) : ∀ l : List Int, l.Pairwise (· ≤ ·) → (insI a l).Pairwise (· ≤ ·)
  | [], _ => List.pairwise_singleton _ _
  | b :: r, h => by
    obtain ⟨h1, h2⟩ := List.pairwise_cons.mp h
    unfold insI
    split
    · rename_i q
      exact List.pairwise_cons.mpr ⟨fun x hx => by
        rcases List.mem_cons.mp hx with rfl | hx
        · exact q
        · exact Int.le_trans q (h1 x hx), h⟩
    · rename_i q
      refine List.pairwise_cons.mpr ⟨fun x hx => ?_, insI_up a r h2⟩
      rcases List.mem_cons.mp ((insI_perm a r).mem_iff.mp hx) with rfl | hx
      · omega
      · exact h1 x hx
theorem sortI_up : ∀ l : List Int, (sortI l).Pairwise (· ≤ ·)
  | [] => .nil
  | a :: r => insI_up a _ (sortI_up r)
theorem sortI_the {l m : List Int} (p : m.Perm l) (u : m.Pairwise (· ≤ ·)) : m = sortI l :=
  List.Perm.eq_of_pairwise (fun x y _ _ h1 h2 => Int.le_antisymm h1 h2) u (sortI_up l) (p.trans (sortI_perm l).symm)
theorem foldl_max (r : List Int) : ∀ a : Int, (r.foldl max a ∈ a :: r) ∧ ∀ y ∈ a :: r, y ≤ r.foldl max a := by
  induction r with
  | nil => intro a; simp
  | cons b r ih =>
    intro a
    obtain ⟨h1, h2⟩ := ih (max a b)
    rw [List.foldl_cons]
    constructor
    · rcases List.mem_cons.mp h1 with h | h
      · rw [h]
        rcases Int.le_total a b with q | q
        · rw [Int.max_eq_right q]; simp
        · rw [Int.max_eq_left q]; simp
      · simp [h]
    · intro y hy
      have h3 := h2 (max a b) List.mem_cons_self
      rcases List.mem_cons.mp hy with rfl | hy
      · omega
      · rcases List.mem_cons.mp hy with rfl | hy
        · omega
        · exact h2 y (List.mem_cons_of_mem _ hy)
end
theorem CallR.imp {X : Cx} {f : Value} {r r' : List V → Hp → VK → Prop} (h : CallR X f r) (k : ∀ vs H Q, r' vs H Q → r vs H Q) : CallR X f r' := fun pins s σ H vs us Q I rx q => h pins s σ H vs us Q I rx (k _ _ _ q)
section
variable {X : Cx}
theorem call_of {f : Value} {F : List D → Option D} (h : ∀ pins s σ H vs us Q ows ds z, Inv X pins σ H s → Vals vs us → Dom ows H → RepVs X.K ows H ds vs → F ds = some z → Fin X.K ows H z Q →
    wpAny (model X.prog X.w) X.A (call f us) (EP X pins σ Q) X.xe s) : CallR X f (rCD X.K F) := fun pins s σ H vs us Q I rx ⟨ows, ds, z, hd, hr, e, g⟩ => h pins s σ H vs us Q ows ds z I rx hd hr e g
/-- the rule of a built-in on data -/
def bltF : Blt → Value
  | .len => .builtin "len" | .abs => .builtin "abs" | .int => .type "int" | .str => .type "str" | .bool => .type "bool" | .min2 => .builtin "min" | .max2 => .builtin "max" | .tuple => .type "tuple" | .list => .type "list"
  | .any => .builtin "any" | .all => .builtin "all" | .sum => .builtin "sum" | .maxl => .builtin "max" | .minp => .builtin "min" | .sorted => .builtin "sorted" | _ => .none
theorem cb_len : CallR X (.builtin "len") (rCD X.K (bltv .len)) := call_of fun pins s σ H vs us Q ows ds z I r hd hr e f => by
  unfold bltv at e
  split at e
  all_goals try contradiction
  · cases e
    obtain ⟨v, rfl, h⟩ := hr.one
    obtain ⟨_, p, us', rfl, h1, h2⟩ := h.tup
    refine call_len_seq pins s σ H _ us Q I r ⟨p, us', rfl, .inr h1, ?_⟩
    rw [h2.length]
    exact f.int
  · cases e
    obtain ⟨v, rfl, h⟩ := hr.one
    obtain ⟨p, us', rfl, h1, h2⟩ := h.lst
    refine call_len_seq pins s σ H _ us Q I r ⟨p, us', rfl, .inl (SqL.of h1), ?_⟩
    rw [h2.length]
    exact f.int
  · cases e
    obtain ⟨v, rfl, h⟩ := hr.one
    obtain ⟨p, us', rfl, h1, h2⟩ := h.frz
    refine call_len_seq pins s σ H _ us Q I r ⟨p, us', rfl, .inl h1, ?_⟩
    rw [h2.length]
    exact f.int
  · split at e <;> cases e
    obtain ⟨v, rfl, h⟩ := hr.one
    rw [h.str] at r
    exact call_len_str pins s σ H _ us Q I r ⟨_, rfl, Nat.le_trans (by assumption) big_line, f.int⟩
theorem cb_abs : CallR X (.builtin "abs") (rCD X.K (bltv .abs)) := call_of fun pins s σ H vs us Q ows ds z I r hd hr e f => by
  unfold bltv at e
  split at e
  all_goals try contradiction
  cases e
  obtain ⟨v, rfl, h⟩ := hr.one
  rw [h.int] at r
  exact call_abs pins s σ H _ us Q I r ⟨_, rfl, f.int⟩
theorem cb_int : CallR X (.type "int") (rCD X.K (bltv .int)) := call_of fun pins s σ H vs us Q ows ds z I r hd hr e f => by
  unfold bltv at e
  split at e
  all_goals try contradiction
  · cases e
    obtain ⟨v, rfl, h⟩ := hr.one
    rw [h.int] at r
    exact call_int1 pins s σ H _ us Q I r (.inl ⟨_, rfl, f.int⟩)
  · cases e
    obtain ⟨v, rfl, h⟩ := hr.one
    rw [h.bl] at r
    exact call_int1 pins s σ H _ us Q I r (.inr ⟨_, rfl, f.int⟩)
  · split at e
    · obtain ⟨i, e1, rfl⟩ := Option.map_eq_some_iff.mp e
      rename_i hl
      obtain ⟨v, rfl, h⟩ := hr.one
      rw [h.str] at r
      cases r with
      | cons r1 r2 =>
        cases r2
        obtain ⟨t, rfl⟩ := r1
        exact PySem.W.KIN.call_text e1 hl ⟨.int i, H, I.tok _, ⟨s.toks, rfl⟩, f.int⟩
    · cases e
theorem cb_bool : CallR X (.type "bool") (rCD X.K (bltv .bool)) := call_of fun pins s σ H vs us Q ows ds z I r hd hr e f => by
  unfold bltv at e
  split at e
  all_goals try contradiction
  cases e
  obtain ⟨v, rfl, h⟩ := hr.one
  rw [h.bl] at r
  exact call_bool1 pins s σ H _ us Q I r (.inr ⟨_, rfl, f.bl⟩)
theorem cb_str : CallR X (.type "str") (rCD X.K (bltv .str)) := call_of fun pins s σ H vs us Q ows ds z I r hd hr e f => by
  unfold bltv at e
  split at e
  all_goals try contradiction
  split at e <;> cases e
  rename_i m
  obtain ⟨v, rfl, h⟩ := hr.one
  rw [h.int] at r
  refine call_str_int pins s σ H _ us Q I r ⟨_, rfl, ?_, f.str⟩
  rename_i i _
  by_cases q : i.natAbs = 0
  · rw [q]; decide
  · have := (Nat.log2_lt q).mpr m
    omega
theorem cb_min2 (hc : X.calm = true) : CallR X (.builtin "min") (rCD X.K (bltv .min2)) := call_of fun pins s σ H vs us Q ows ds z I r hd hr e f => by
  unfold bltv at e
  split at e
  all_goals try contradiction
  cases e
  obtain ⟨v, u, rfl, h, g⟩ := hr.two
  rw [h.int, g.int] at r
  exact call_min2 hc pins s σ H _ us Q I r ⟨_, _, rfl, f.int⟩
theorem cb_max2 (hc : X.calm = true) : CallR X (.builtin "max") (rCD X.K (bltv .max2)) := call_of fun pins s σ H vs us Q ows ds z I r hd hr e f => by
  unfold bltv at e
  split at e
  all_goals try contradiction
  cases e
  obtain ⟨v, u, rfl, h, g⟩ := hr.two
  rw [h.int, g.int] at r
  exact call_max2 hc pins s σ H _ us Q I r ⟨_, _, rfl, f.int⟩
theorem cb_tuple : CallR X (.type "tuple") (rCD X.K (bltv .tuple)) := call_of fun pins s σ H vs us Q ows ds z I r hd hr e f => by
  unfold bltv at e
  split at e
  all_goals try contradiction
  · cases e
    obtain ⟨v, rfl, h⟩ := hr.one
    obtain ⟨r1, p, us', rfl, h1, h2⟩ := h.tup
    exact call_tuple_of pins s σ H _ us Q I r ⟨p, us', rfl, .inr ⟨h1, f.same r1⟩⟩
  · cases e
    obtain ⟨v, rfl, h⟩ := hr.one
    obtain ⟨p, us', rfl, h1, h2⟩ := h.lst
    exact call_tuple_of pins s σ H _ us Q I r ⟨p, us', rfl, .inl ⟨SqL.of h1, f.tup hd h2⟩⟩
theorem cb_list : CallR X (.type "list") (rCD X.K (bltv .list)) := call_of fun pins s σ H vs us Q ows ds z I r hd hr e f => by
  unfold bltv at e
  split at e
  all_goals try contradiction
  · cases e
    obtain ⟨v, rfl, h⟩ := hr.one
    obtain ⟨r1, p, us', rfl, h1, h2⟩ := h.tup
    exact call_list_of pins s σ H _ us Q I r ⟨p, us', rfl, .inr h1, f.lst hd h2⟩
  · cases e
    obtain ⟨v, rfl, h⟩ := hr.one
    obtain ⟨p, us', rfl, h1, h2⟩ := h.lst
    exact call_list_of pins s σ H _ us Q I r ⟨p, us', rfl, .inl (SqL.of h1), f.lst hd h2⟩
theorem cb_any (hc : X.calm = true) : CallR X (.builtin "any") (rCD X.K (bltv .any)) := call_of fun pins s σ H vs us Q ows ds z I r hd hr e f => by
  unfold bltv at e
  split at e
  all_goals try contradiction
  obtain ⟨bs, e1, rfl⟩ := Option.map_eq_some_iff.mp e
  obtain ⟨v, rfl, h⟩ := hr.one
  obtain ⟨p, us', rfl, h1, h2⟩ := h.lst
  rw [reps_bls h2 e1] at h1
  exact cr_any hc pins s σ H _ us Q I r ⟨p, bs, rfl, SqL.of h1, f.bl⟩
theorem cb_all (hc : X.calm = true) : CallR X (.builtin "all") (rCD X.K (bltv .all)) := call_of fun pins s σ H vs us Q ows ds z I r hd hr e f => by
  unfold bltv at e
  split at e
  all_goals try contradiction
  obtain ⟨bs, e1, rfl⟩ := Option.map_eq_some_iff.mp e
  obtain ⟨v, rfl, h⟩ := hr.one
  obtain ⟨p, us', rfl, h1, h2⟩ := h.lst
  rw [reps_bls h2 e1] at h1
  exact cr_all hc pins s σ H _ us Q I r ⟨p, bs, rfl, SqL.of h1, f.bl⟩
theorem cb_sum (hc : X.calm = true) : CallR X (.builtin "sum") (rCD X.K (bltv .sum)) := call_of fun pins s σ H vs us Q ows ds z I r hd hr e f => by
  unfold bltv at e
  split at e
  all_goals try contradiction
  obtain ⟨bs, e1, rfl⟩ := Option.map_eq_some_iff.mp e
  obtain ⟨v, rfl, h⟩ := hr.one
  obtain ⟨p, us', rfl, h1, h2⟩ := h.lst
  rw [reps_ints h2 e1] at h1
  exact cr_sum hc pins s σ H _ us Q I r ⟨p, bs, rfl, SqL.of h1, f.int⟩
theorem cb_maxl (hc : X.calm = true) : CallR X (.builtin "max") (rCD X.K (bltv .maxl)) := call_of fun pins s σ H vs us Q ows ds z I r hd hr e f => by
  unfold bltv at e
  split at e
  all_goals try contradiction
  split at e
  all_goals try contradiction
  cases e
  rename_i xs _ _ a rr e1
  obtain ⟨v, rfl, h⟩ := hr.one
  obtain ⟨p, us', rfl, h1, h2⟩ := h.lst
  rw [reps_ints h2 e1] at h1
  refine cr_max hc pins s σ H _ us Q I r ⟨p, a :: rr, rfl, SqL.of h1, by simp, fun m m1 m2 => ?_⟩
  obtain ⟨g1, g2⟩ := foldl_max rr a
  have : m = rr.foldl max a := Int.le_antisymm (g2 m m1) (m2 _ g1)
  rw [this]
  exact f.int
theorem reps_at {K : PySem.W.Frag} {H : Hp} : ∀ {ds : List D} {vs : List V}, Reps K H ds vs → ∀ (i : Nat) (v : V), vs[i]? = some v → ∃ d, ds[i]? = some d ∧ Rep K H d v
  | [], _, h, i, v, e => by simp only [Reps] at h; subst h; simp at e
  | d :: ds, _, h, i, v, e => by
    simp only [Reps] at h
    obtain ⟨u, us, rfl, h1, h2⟩ := h
    cases i with
    | zero =>
      have : u = v := by simpa using e
      subst this
      exact ⟨d, rfl, h1⟩
    | succ i => exact reps_at h2 i v (by simpa using e)
def pD (p : Int × Int) : PyData := .tuple [.int p.1, .int p.2]
theorem pairs_py : ∀ {xs : List D} {ps : List (Int × Int)}, pairsD xs = some ps → D.toPys xs = ps.map pD ∧ xs = ps.map fun p => .tup [.int p.1, .int p.2]
  | [], ps, e => by simp only [pairsD, Option.some.injEq] at e; subst e; exact ⟨rfl, rfl⟩
  | x :: xs, ps, e => by
    unfold pairsD at e
    split at e
    · rename_i z; cases z
    · rename_i a b r z
      cases z
      obtain ⟨qs, e1, rfl⟩ := Option.map_eq_some_iff.mp e
      obtain ⟨h1, h2⟩ := pairs_py e1
      exact ⟨by rw [D.toPys, h1, List.map_cons]; rfl, by rw [h2, List.map_cons]⟩
    · cases e
theorem lt_pD (p q : Int × Int) : PySem.W.dataLt (pD p) (pD q) = ltP p q := by
  have h := PySem.W.dataLt_ints [p.1, p.2] [q.1, q.2]
  refine Eq.trans (show PySem.W.dataLt (pD p) (pD q) = PySem.W.rowLt ([p.1, p.2].map .int) ([q.1, q.2].map .int) from rfl) (h.trans ?_)
  unfold ltP
  rw [Bool.eq_iff_iff]
  simp only [List.cons_lt_cons_iff, Bool.or_eq_true, Bool.and_eq_true, decide_eq_true_eq]
  have : ¬ (([] : List Int) < []) := by simp
  simp only [this, and_false, or_false]
theorem min_pD (p : Int × Int) : ∀ ps : List (Int × Int), PySem.W.minD (pD p) (ps.map pD) = pD (minP p ps) := by
  intro ps
  unfold PySem.W.minD minP
  induction ps generalizing p with
  | nil => rfl
  | cons q r ih =>
    rw [List.map_cons, List.foldl_cons, List.foldl_cons]
    simp only [lt_pD]
    rw [← ih]
    congr 1
    split <;> rfl
theorem alike_pD (ps : List (Int × Int)) : PySem.W.AlikeAll (ps.map pD) := by
  refine ⟨fun x hx y hy => ?_, fun x hx => ?_⟩
  · obtain ⟨p, _, rfl⟩ := List.mem_map.1 hx
    obtain ⟨q, _, rfl⟩ := List.mem_map.1 hy
    rfl
  · obtain ⟨p, _, rfl⟩ := List.mem_map.1 hx
    exact fun z => nomatch z
theorem depth_pD (ps : List (Int × Int)) : PyData.depthAll (ps.map pD) ≤ 3 := by
  induction ps with
  | nil => decide
  | cons p r ih =>
    rw [List.map_cons]
    simp only [PyData.depthAll]
    have : (pD p).depth ≤ 3 := by
      simp only [pD, PyData.depth, PyData.depthAll]
      decide
    omega
theorem cb_minp (hc : X.calm = true) (hu : X.A.units + 64 < cLine) : CallR X (.builtin "min") (rCD X.K (bltv .minp)) := call_of fun pins s σ H vs us Q ows ds z I r hd hr e f => by
  unfold bltv at e
  split at e
  all_goals try contradiction
  split at e
  all_goals try contradiction
  cases e
  rename_i xs _ _ p ps e1
  obtain ⟨v, rfl, h⟩ := hr.one
  obtain ⟨a, us', rfl, h1, h2⟩ := h.lst
  obtain ⟨its, rv, hl, _⟩ := I.list (SqL.of h1)
  rw [Vals.ref1 r]
  obtain ⟨y1, y2⟩ := pairs_py e1
  obtain ⟨as, ra⟩ := Dp.readsAll I (D.toPys xs) us' its (Reps.dp xs us' (Reps.mono (hid_same _ _) _ _ h2)) rv
  rw [y1, List.map_cons] at ra
  have hz := depth_pD (p :: ps)
  rw [List.map_cons] at hz
  refine PySem.W.min_list_data (I.ok.hd hc) hl.isList (by simpa using ra) (by rw [← List.map_cons]; exact alike_pD (p :: ps)) (by omega) fun i w h' tk bs hv rd hk => ?_
  rw [min_pD] at rd
  have hi : its[i]? = some w := by simpa using hv
  obtain ⟨u, hu1, hu2⟩ : ∃ u, us'[i]? = some u ∧ RelV u w := by
    cases hq : us'[i]? with
    | none => rw [Vals.none_of rv hq] at hi; cases hi
    | some u =>
      obtain ⟨w', e1, e2⟩ := Vals.get rv hq
      rw [hi] at e1
      cases e1
      exact ⟨u, rfl, e2⟩
  obtain ⟨d, hd1, hd2⟩ := reps_at h2 i u hu1
  refine ⟨u, H, I.kept hk, hu2, ?_⟩
  have : d = .tup [.int (minP p ps).1, .int (minP p ps).2] := by
    rw [y2] at hd1
    obtain ⟨q, hq, rfl⟩ : ∃ q, (p :: ps)[i]? = some q ∧ d = .tup [.int q.1, .int q.2] := by
      rw [List.getElem?_map] at hd1
      cases hq : (p :: ps)[i]? with
      | none => rw [hq] at hd1; cases hd1
      | some q => rw [hq] at hd1; exact ⟨q, rfl, (Option.some.inj hd1).symm⟩
    obtain ⟨as2, r2⟩ := Dp.reads I _ u w (Rep.dp _ u (Rep.mono (hid_same _ _) _ _ hd2)) hu2
    have := (Reads.unique (PySem.W.reads_keeps hk r2) _ _ rd).1
    have : pD q = pD (minP p ps) := by
      refine Eq.trans ?_ this
      simp only [pD, D.toPy, D.toPys]
    simp only [pD, PyData.tuple.injEq, List.cons.injEq, PyData.int.injEq, and_true] at this
    rw [this.1, this.2]
  rw [this] at hd2
  exact f.same hd2
theorem cb_sorted : CallR X (.builtin "sorted") (rCD X.K (bltv .sorted)) := call_of fun pins s σ H vs us Q ows ds z I r hd hr e f => by
  unfold bltv at e
  split at e
  all_goals try contradiction
  obtain ⟨ns, e1, rfl⟩ := Option.map_eq_some_iff.mp e
  obtain ⟨v, rfl, h⟩ := hr.one
  obtain ⟨p, us', rfl, h1, h2⟩ := h.lst
  rw [reps_ints h2 e1] at h1
  refine cr_sortedI pins s σ H _ us Q I r ⟨p, ns, rfl, SqL.of h1, fun ns' q hp hu hn => ?_⟩
  rw [sortI_the hp hu]
  exact f.lst hd (ints_reps _) q hn

/-! ### isinstance -/
def tyOf : D → String
  | .non => "NoneType" | .bl _ => "bool" | .int _ => "int" | .str _ => "str" | .tup _ => "tuple" | .lst _ => "list" | .frz _ => "list"
theorem Rep.ty {K : PySem.W.Frag} {H : Hp} {d : D} {v : V} (h : Rep K H d v) : TyX K H v (.type (tyOf d)) := by
  cases d <;> simp only [Rep] at h
  case non => subst h; exact .base .non
  case bl => subst h; exact .base (.bl _)
  case int => subst h; exact .base (.int _)
  case str => subst h; exact .base (.str _)
  case tup =>
    obtain ⟨a, vs, rfl, h1, _⟩ := h
    rcases h1 with (h1 | ⟨o, h1⟩) | ⟨o, its, n, h1, h2, _⟩
    · exact .base (.tup h1)
    · exact .fTuple h1
    · exact .kTuple h1 h2
  case lst =>
    obtain ⟨a, vs, rfl, h1, _⟩ := h
    exact .base (.lst h1)
  case frz =>
    obtain ⟨a, vs, rfl, h1, _⟩ := h
    rcases h1 with (h1 | ⟨o, h1⟩) | ⟨o, its, n, h1, h2, _⟩
    · exact .base (.lst h1)
    · exact .base (.frz h1)
    · exact .kList h1 h2
def isTy : Blt → Option String
  | .isint => some "int" | .isbool => some "bool" | .isstr => some "str" | .istuple => some "tuple" | .islist => some "list"
  | _ => none
theorem isTy_kit {b : Blt} {t : String} (h : isTy b = some t) (d : D) : ∃ r, bltv b [d] = some (.bl r) ∧ kitB (tyOf d) t = some r := by
  cases b <;> simp only [isTy, Option.some.injEq, reduceCtorEq] at h <;> subst h <;> cases d <;> first | (refine ⟨true, rfl, ?_⟩; simp only [tyOf]; decide +kernel) | (refine ⟨false, rfl, ?_⟩; simp only [tyOf]; decide +kernel)
/-- isinstance(x, T) -/
def rIsD (K : PySem.W.Frag) (b : Blt) (t : String) : List V → Hp → VK → Prop := fun vs H Q => ∃ ows d x z, Dom ows H ∧ vs = [x, .ty t] ∧ RepV K ows H d x ∧ bltv b [d] = some z ∧ Fin K ows H z Q
theorem cb_is {b : Blt} {t : String} (h : isTy b = some t) : CallR X (.builtin "isinstance") (rIsD X.K b t) := by
  intro pins s σ H vs us Q I r ⟨ows, d, x, z, hd, e1, hr, e2, f⟩
  obtain ⟨k, e3, e4⟩ := isTy_kit h d
  rw [e2] at e3
  cases e3
  exact call_isi pins s σ H vs us Q I r ⟨x, .ty t, .type (tyOf d), .type t, k, e1, .ty t, hr.full.ty, kit_ty e4, f.bl⟩
end
end G
/-! G.EnumT: enumerate of a tuple. -/
namespace G
open PySem L2 PySem.Spec PyProof.Rows
open AutoSeq1 (wpAny_loadPart')
/-- the heap behind enumerate(t): the tuple's iterator, then the enumerate object -/
def enumHeap (h : Heap) (t : Addr) : Heap :=
  (h.push { cls := .type "tuple_iterator", data := .fields #[.ref t, .int 0 0] }).push { cls := .type "enumerate", data := .fields #[.none, .bool false, .ref h.objs.size, rawInt 0, .none, .none] }
theorem meets_enumT (t : Addr) (items : Array Value) (n : Nat) (dct : Option Addr) (sl : Array (Option Value)) :
    Meets (Builtin.«enumerate.__new__» ⟨[.type "enumerate", .ref t], []⟩) (fun _ R s => s.heap.get? t = some { cls := .type "tuple", dict := dct, data := .seq items n, slots := sl } ∧
      R (.ok (.ret (.ref (s.heap.push { cls := .type "tuple_iterator", data := .fields #[.ref t, .int 0 0] }).objs.size))) { s with heap := enumHeap s.heap t }) :=
  .of_wp fun prog w A R s h => by
    obtain ⟨hp, g, d, tk, os⟩ := s
    obtain ⟨hl, h⟩ := h
    have hsub := sub_enumerate
    have hT : Heap.IsTuple (Shared.heap ⟨hp, g, d, tk, os⟩) t items := ⟨_, hl, rfl, n, rfl⟩
    wp_walk using wpAny_loadPart' hl
    refine wpAny_stack_any fun st => wpAny_pure ?_
    split
    · rename_i c _ _ _ _ _
      cases (c == Value.type "enumerate") <;> (wp_walk using wpAny_loadPart' hl, wpAny_pyIter_tuple hT; exact ⟨_, rfl, h⟩)
    · wp_walk using wpAny_loadPart' hl, wpAny_pyIter_tuple hT
      exact ⟨_, rfl, h⟩
theorem call_enumT {prog : Program} {w : World} {A : Around} {E : Value → Shared → Prop} {s : Shared} {t : Addr} {items : Array Value} {Q : Value → Shared → Prop} (hT : s.heap.IsTuple t items)
    (h : ∀ h', IsEnum h' (s.heap.objs.size + 1) s.heap.objs.size 0 .none → h'.IsTupleIter s.heap.objs.size t 0 → (∀ b o, s.heap.get? b = some o → h'.get? b = some o) → Q (.ref (s.heap.objs.size + 1)) { s with heap := h' }) :
    wpAny (model prog w) A (call (.type "enumerate") [.ref t]) Q E s := by
  obtain ⟨⟨c, dct, dt, sl⟩, hl, hc, n, hd⟩ := hT
  have hc' : c = .type "tuple" := hc
  have hd' : dt = .seq items n := hd
  subst hc' hd'
  refine callType_new F.called_enumerate (by decide) (F.typeCall_enumerate_1 _) (F.newCall_enumerate_1 _) (fun obj => F.args_object_init_2 obj _) F.entry_enumerate_new (meets_enumT t items n dct sl) ⟨hl, ?_⟩
  have hz : (s.heap.push { cls := .type "tuple_iterator", data := .fields #[.ref t, .int 0 0] }).objs.size = s.heap.objs.size + 1 := Heap.size_push ..
  show _ ∧ _
  rw [hz]
  have he : IsEnum (enumHeap s.heap t) (s.heap.objs.size + 1) s.heap.objs.size 0 .none := by
    have q := Heap.get?_push_size (s.heap.push { cls := .type "tuple_iterator", data := .fields #[.ref t, .int 0 0] }) (o := { cls := .type "enumerate", data := .fields #[.none, .bool false, .ref s.heap.objs.size, rawInt 0, .none, .none] }) rfl
    rw [hz] at q
    exact q
  exact ⟨⟨_, he, rfl⟩, h _ he ⟨_, Heap.get?_push_of_some _ (Heap.get?_push_size _ rfl), rfl, rfl⟩ fun b o x => Heap.get?_push_of_some _ (Heap.get?_push_of_some _ x)⟩
/-- the tuple at a, each item in a new pair -/
def Iteu (K : PySem.W.Frag) (a : Addr) : It :=
  ⟨fun i H => ∃ (xs : List V) (x : V), SqT K H a xs ∧ xs[i]? = some x, fun i H v H' => ∃ T x, v = .ref T ∧ H T = none ∧ H' = upd H T (.tup [.int (i : Nat), x]) ∧ ∀ xs, SqT K H a xs → xs[i]? = some x, fun i H => ∃ xs : List V, SqT K H a xs ∧ xs.length = i⟩
theorem turn_enumT {P : Program} {w : World} {K : PySem.W.Frag} {elts : List Expr} {kk : Nat} {tpos : Pos} (a e it : Addr) :
    Turn P w K (.Tuple elts kk tpos) (Iteu K a) [e, it] e (fun i h => (∃ old, IsEnum h e it ((i : Nat) : Int) old) ∧ h.IsTupleIter it a i ∧ e ≠ it ∧ a ≠ it ∧ a ≠ e) where
  mem := by simp
  obj := fun i h st b hb => by
    obtain ⟨⟨old, he⟩, ⟨o, ho, hc, hd⟩, _⟩ := st
    rcases (show b = e ∨ b = it by simpa using hb) with z | z
    · rw [z]; exact ⟨_, he, fun v q => nomatch q⟩
    · rw [z]; exact ⟨o, ho, fun v q => by rw [hd] at q; cases q⟩
  keep := fun i h h' st k => let ⟨⟨old, he⟩, hi, hne⟩ := st; ⟨⟨old, k e (by simp) _ he⟩, hi.at fun o q => k it (by simp) o q, hne⟩
  item := by
    intro X hP hw hK hc i pins s σ H E I hf st hg
    subst hP hw hK
    obtain ⟨⟨old, he⟩, hit, hne, hai, hae⟩ := st
    obtain ⟨xs, x, hq, hx⟩ := hg
    obtain ⟨its, rv, p, hz⟩ := I.tuple hq
    obtain ⟨u, hu, ru⟩ := rv.get hx
    have hel : e < s.heap.objs.size := Heap.lt_size he
    have hil : it < s.heap.objs.size := by obtain ⟨_, q, _⟩ := hit; exact Heap.lt_size q
    have hi : i < its.toArray.size := by simpa using (List.getElem?_eq_some_iff.mp hu).1
    have D := Draws.tuple (prog := X.prog) (w := X.w) (A := X.A.in1) (show X.A.in1.handled = none from I.ok.hd hc) it a hai its.toArray
    refine wpAny_pyNext_enum_itemD D he ⟨hit, p⟩ hi hne (by simp only [List.mem_cons, List.not_mem_nil, or_false, not_or]; exact ⟨hne, Ne.symm hae⟩) fun u' h' tk hu' ho hst' hT hsz hk => ?_
    have eu : u' = u := by
      have q1 : its.toArray[i]? = some u' := hu'
      have q2 : its.toArray[i]? = some u := by simpa using hu
      rw [q1] at q2
      exact Option.some.inj q2
    subst eu
    refine ⟨_, rfl, wpAny_letOwnedTupleGo_enum (s := { s with heap := h', toks := tk + 1 }) ho fun h'' he' sb => ?_⟩
    have hT2 : h''.get? s.heap.objs.size = some { cls := .type "tuple", data := .seq #[.int i tk, u'] } := (sb.2 _ (Nat.ne_of_gt hel)).trans hT
    have new : ObjOk X.prog X.w (upd H s.heap.objs.size (.tup [.int (i : Nat), x])) h'' s.heap.objs.size (.tup [.int (i : Nat), x]) :=
      ⟨by show 2 ≤ sizeLine; decide, [.int i tk, u'], .cons ⟨_, rfl⟩ (.cons ru .nil), ⟨_, hT2, rfl, _, rfl⟩⟩
    have I1 : Inv X pins σ (upd H s.heap.objs.size (.tup [.int (i : Nat), x])) { s with heap := h'', toks := tk + 1 } :=
      I.turnedNew (ch := [e, it]) (fun b ob hb q => (sb.2 b (fun z => hb (by simp [z]))).trans (hk b ob (fun z => hb (by simp [z])) (fun z => hb (by simp [z])) q)) hf (Nat.le_refl _) new
    refine ⟨.ref s.heap.objs.size, _, I1, rfl, ⟨_, x, rfl, I.hok.fresh (Nat.le_refl _), rfl, fun ys hy => by rw [I.tuple_inj hy hq]; exact hx⟩, ⟨⟨u', ?_⟩, hst'.1.at fun o q => (sb.2 it (Ne.symm hne)).trans q, hne, hai, hae⟩, fun b hb => ?_⟩
    · rw [show ((i + 1 : Nat) : Int) = (i : Int) + 1 by omega]
      exact he'
    · have hb' : b < s.heap.objs.size := by
        rcases (show b = e ∨ b = it by simpa using hb) with z | z
        · rw [z]; exact hel
        · rw [z]; exact hil
      rw [upd_ne (Nat.ne_of_lt hb')]
      exact (hf b hb).1
  done := by
    intro X hP hw hK hc i pins s σ H E I hf st hg
    subst hP hw hK
    obtain ⟨⟨old, he⟩, hit, hne, hai, hae⟩ := st
    obtain ⟨xs, hq, hx⟩ := hg
    obtain ⟨its, rv, p, hz⟩ := I.tuple hq
    obtain ⟨f0, f1, f2, f3, f4, f5⟩ := hf it (by simp)
    have hl := rv.length
    have D := Draws.tuple (prog := X.prog) (w := X.w) (A := X.A.in1) (show X.A.in1.handled = none from I.ok.hd hc) it a hai its.toArray
    have hn : its.toArray.size = i := by rw [List.size_toArray, ← hl, hx]
    exact wpAny_pyNext_enum_endD D he ⟨by rw [hn]; exact hit, p⟩ fun h' eb => ⟨rfl, I.turned (t' := s.toks) (fun b o hb q => eb b o hb q) f0 f1 f3 f4 f5⟩
  self := fun A i s Q E st h => let ⟨⟨_, he⟩, _⟩ := st; wpAny_pyIter_enum he h
def iEnumT (K : PySem.W.Frag) (ta : TA) : TI := fun σ H R => ta σ H fun vs H1 => ∃ a xs, vs = [.ref a] ∧ SqT K H1 a xs ∧ R (Iteu K a) H1
theorem pi_enumT {X : Cx} {e : Expr} {ta : TA} {p pos tpos : Pos} {elts : List Expr} {kk : Nat} (hg : Gl X "enumerate") (hm : X.mg "enumerate" = none) (ha : PA X [e] ta) (hs : starEach [e] X.env = [(false, eval e X.env)]) :
    PI X (.Tuple elts kk tpos) (.Call (.Name "enumerate" p) [e] [] pos) (iEnumT X.K ta) := by
  refine ⟨fun pins s σ H R I h => ?_⟩
  refine Call_ (ld_blt I hg hm boot_enumerate (PyProof.Rows.callWith_type1 (thn (ha.run pos pins s σ H _ I h) fun us s1 ⟨vs, H1, I1, r1, q1⟩ => ?_) hs rfl))
  obtain ⟨a, xs, ex, hq, q⟩ := q1
  subst ex
  cases r1 with
  | cons r rr =>
    cases rr
    cases r
    obtain ⟨its, rv, p', hz⟩ := I1.tuple hq
    have hal : a < s1.heap.objs.size := p'.lt
    refine call_enumT p' fun h' he hit hk => wpAny_pyIter_enum he ?_
    have I2 : Inv X pins σ H1 { s1 with heap := h' } := I1.kept (t' := s1.toks) hk
    refine ⟨s1.heap.objs.size + 1, [s1.heap.objs.size + 1, s1.heap.objs.size], _, _, H1, rfl, I2, turn_enumT a (s1.heap.objs.size + 1) s1.heap.objs.size, ⟨⟨.none, he⟩, hit, Nat.succ_ne_self _, Nat.ne_of_lt hal, Nat.ne_of_lt (Nat.lt_succ_of_lt hal)⟩, fun b hb => ?_, q⟩
    have hle : s1.heap.objs.size ≤ b := by
      rcases (show b = s1.heap.objs.size + 1 ∨ b = s1.heap.objs.size by simpa using hb) with z | z
      · rw [z]; exact Nat.le_add_right _ _
      · rw [z]; exact Nat.le_refl _
    exact I1.fpOk hle (I1.hok.fresh hle)
end G
/-! G.Calls: what a def promises of data; a call against the caller's slots. -/
namespace G
open PySem L2

def Gr.At (g : Gr) (X : Cx) : Prop := g.P = X.prog ∧ g.w = X.w ∧ g.K = X.K
def ArgR (P : Program) (w : World) (K : PySem.W.Frag) (ows : List Addr) (H : Hp) : Sl → V → Prop
  | .no, _ => False
  | .ro d, v => Rep K (hid ows H) d v
  | .ow _ o, v => ∃ a, v = .ref a ∧ a ∈ ows ∧ OwnOk P w K (hid ows H) a (H a) o
/-- the objects handed in -/
def psOf : List Sl → List V → List Addr
  | .ow _ _ :: as, .ref a :: vs => a :: psOf as vs
  | _ :: as, _ :: vs => psOf as vs
  | _, _ => []
/-- behind a call: what was, but for the objects handed in; these hold what is told -/
structure After (P : Program) (w : World) (K : PySem.W.Frag) (ows : List Addr) (as : List Sl) (vs : List V) (os : List Sl) (H H' : Hp) : Prop where
  keep : ∀ a o, a ∉ psOf as vs → H a = some o → H' a = some o
  outs : ∀ (j : Nat) (q : Bool) (o : Ob), os[j]? = some (Sl.ow q o) → ∃ a, vs[j]? = some (.ref a) ∧ OwnOk P w K (hid ows H') a (H' a) o
structure ArgsR (P : Program) (w : World) (K : PySem.W.Frag) (ows : List Addr) (H : Hp) (as : List Sl) (vs : List V) : Prop where
  len : vs.length = as.length
  arg : ∀ (j : Nat) (s : Sl) (v : V), as[j]? = some s → vs[j]? = some v → ArgR P w K ows H s v
  apart : ∀ (i j : Nat) (p q : Bool) (o u : Ob), i ≠ j → as[i]? = some (Sl.ow p o) → as[j]? = some (Sl.ow q u) → vs[i]? ≠ vs[j]?
/-- THE PROMISE of a def: what the evaluator says -/
def spD (P : Program) (w : World) (K : PySem.W.Frag) (cl : Str → Option Addr) (n : Nat) (m : Fn) : Sp := fun vs H Q E => ∃ ows as, vs.length = n ∧ Dom ows H ∧ ArgsR P w K ows H as vs ∧
  match m as with
  | .ok (.d x) os => ∀ v H', After P w K ows as vs os H H' → Rep K (hid ows H') x v → Q v H'
  | .ok (.fr o) os => ∀ p H', H p = none → After P w K (p :: ows) as vs os H H' → OwnOk P w K (hid (p :: ows) H') p (H' p) o → Q (.ref p) H'
  | .ex c os => ∀ H' cv d, After P w K ows as vs os H H' → ExR cl c H' cv d → E cv d H'
  | .no => False
/-- a def of the module that keeps it, at level k -/
def FnAt (P : Program) (w : World) (K : PySem.W.Frag) (mg : Str → Option Value) (base : Heap) (cl : Str → Option Addr) (k : Nat) (x : Str) (n : Nat) (m : Fn) : Prop :=
  ∃ a fd ps, FnOk P w K mg base (L2.CX P w) k a fd ps (spD P w K cl n m) ∧ mg x = some (.ref a) ∧ PySem.W.keepIn K (.ref a) = true ∧ Binds K fd ps []
theorem FnAt.mono {P : Program} {w : World} {K : PySem.W.Frag} {mg : Str → Option Value} {base : Heap} {cl : Str → Option Addr} {j k : Nat} {x : Str} {n : Nat} {m : Fn} (h : FnAt P w K mg base cl j x n m) (e : j ≤ k) : FnAt P w K mg base cl k x n m := by
  obtain ⟨a, fd, ps, F, r⟩ := h
  exact ⟨a, fd, ps, F.mono e, r⟩

/-! ### back -/
theorem back_len : ∀ (rs : List RV) (os : List Sl) (δ : Env), (back δ rs os).length = δ.length
  | [], os, δ => by cases os <;> rfl
  | .d _ :: rs, [], δ => rfl
  | .d _ :: rs, o :: os, δ => by
    have := back_len rs os δ
    cases o <;> exact this
  | .own i :: rs, [], δ => rfl
  | .own i :: rs, .no :: os, δ => back_len rs os δ
  | .own i :: rs, .ro _ :: os, δ => back_len rs os δ
  | .own i :: rs, .ow _ o :: os, δ => by
    unfold back
    split
    · rw [back_len, List.length_set]
    · exact back_len rs os δ
theorem of_mem_owns {j : Nat} : ∀ (rs : List RV), j ∈ ownsOf rs → ∃ m : Nat, rs[m]? = some (RV.own j)
  | [], z => nomatch z
  | .d x :: rs, z => by
    obtain ⟨m, e⟩ := of_mem_owns rs z
    exact ⟨m + 1, e⟩
  | .own i :: rs, z => by
    rcases List.mem_cons.mp z with rfl | z
    · exact ⟨0, rfl⟩
    · obtain ⟨m, e⟩ := of_mem_owns rs z
      exact ⟨m + 1, e⟩
theorem back_get : ∀ (rs : List RV) (os : List Sl) (δ : Env), (∀ (m j : Nat), rs[m]? = some (.own j) → ∃ q o, os[m]? = some (Sl.ow q o)) → (∀ j ∈ ownsOf rs, ∃ p o, δ[j]? = some (Sl.ow p o)) → (ownsOf rs).Nodup →
    ∀ (j : Nat) (s : Sl), (back δ rs os)[j]? = some s → (j ∉ ownsOf rs ∧ δ[j]? = some s) ∨ ∃ (m : Nat) (q p : Bool) (o o0 : Ob), rs[m]? = some (.own j) ∧ os[m]? = some (Sl.ow q o) ∧ δ[j]? = some (Sl.ow p o0) ∧ s = .ow p o
  | [], os, δ, _, _, _, j, s, h => .inl ⟨by simp [ownsOf], by cases os <;> exact h⟩
  | .d _ :: rs, [], δ, h1, _, _, j, s, h => by
    refine .inl ⟨fun z => ?_, h⟩
    obtain ⟨m, e⟩ := of_mem_owns rs z
    obtain ⟨q, o, e2⟩ := h1 (m + 1) j (by simpa using e)
    cases e2
  | .d x :: rs, o :: os, δ, h1, h2, h3, j, s, h => by
    have hb : back δ (.d x :: rs) (o :: os) = back δ rs os := by cases o <;> rfl
    rw [hb] at h
    rcases back_get rs os δ (fun m j e => by simpa using h1 (m + 1) j (by simpa using e)) h2 h3 j s h with h | ⟨m, q, p, o', o0, e1, e2, e3⟩
    · exact .inl h
    · exact .inr ⟨m + 1, q, p, o', o0, by simpa using e1, by simpa using e2, e3⟩
  | .own i :: rs, [], δ, h1, _, _, j, s, h => by
    obtain ⟨q, o, e⟩ := h1 0 i rfl
    cases e
  | .own i :: rs, s0 :: os, δ, h1, h2, h3, j, s, h => by
    obtain ⟨q, o, e⟩ := h1 0 i rfl
    have e' : s0 = .ow q o := by simpa using e
    subst e'
    obtain ⟨p, o0, e0⟩ := h2 i List.mem_cons_self
    obtain ⟨n1, n2⟩ := List.nodup_cons.mp h3
    have hb : back δ (.own i :: rs) (.ow q o :: os) = back (δ.set i (.ow p o)) rs os := by
      show (match δ[i]? with | some (.ow p _) => back (δ.set i (.ow p o)) rs os | _ => back δ rs os) = _
      rw [e0]
    rw [hb] at h
    have hl : i < δ.length := (List.getElem?_eq_some_iff.mp e0).1
    rcases back_get rs os (δ.set i (.ow p o)) (fun m j e => by simpa using h1 (m + 1) j (by simpa using e)) (fun j hj => by
      have ne : i ≠ j := fun z => n1 (by rw [z]; exact hj)
      rw [List.getElem?_set_ne ne]
      exact h2 j (List.mem_cons_of_mem _ hj)) n2 j s h with ⟨g1, g2⟩ | ⟨m, q', p', o', o0', e1, e2, e3, e4⟩
    · by_cases z : j = i
      · subst z
        rw [List.getElem?_set_self hl] at g2
        exact .inr ⟨0, q, p, o, o0, rfl, rfl, e0, (Option.some.inj g2).symm⟩
      · rw [List.getElem?_set_ne (Ne.symm z)] at g2
        refine .inl ⟨fun hm => ?_, g2⟩
        rcases List.mem_cons.mp hm with rfl | hm
        · exact z rfl
        · exact g1 hm
    · have hj : j ∈ ownsOf rs := by
        have : ∀ (rs : List RV) (m : Nat), rs[m]? = some (RV.own j) → j ∈ ownsOf rs := fun rs => by
          induction rs with
          | nil => intro m e; simp at e
          | cons r rs ih =>
            intro m e
            cases m with
            | zero => have : r = .own j := by simpa using e
                      subst this; exact List.mem_cons_self
            | succ m =>
              have := ih m (by simpa using e)
              cases r with
              | d x => exact this
              | own i => exact List.mem_cons_of_mem _ this
        exact this rs m e1
      have ne : i ≠ j := fun z => n1 (by rw [z]; exact hj)
      rw [List.getElem?_set_ne ne] at e3
      exact .inr ⟨m + 1, q', p', o', o0', by simpa using e1, by simpa using e2, e3, e4⟩
theorem mem_owns {j : Nat} : ∀ (rs : List RV) (m : Nat), rs[m]? = some (RV.own j) → j ∈ ownsOf rs
  | [], m, e => by simp at e
  | r :: rs, 0, e => by
    have : r = .own j := by simpa using e
    subst this
    exact List.mem_cons_self
  | r :: rs, m + 1, e => by
    have := mem_owns rs m (by simpa using e)
    cases r with
    | d x => exact this
    | own i => exact List.mem_cons_of_mem _ this
theorem args_get {δ : Env} : ∀ {rs : List RV} {as : List Sl} (m : Nat) (r : RV), argsOf δ rs = some as → rs[m]? = some r → ∃ s, as[m]? = some s ∧ r.arg δ = some s
  | [], _, m, r, _, e => by simp at e
  | r0 :: rs, as, m, r, h, e => by
    unfold argsOf at h
    split at h
    · rename_i x xs h1 h2
      cases h
      cases m with
      | zero =>
        have : r0 = r := by simpa using e
        subst this
        exact ⟨x, rfl, h1⟩
      | succ m =>
        obtain ⟨s, e1, e2⟩ := args_get m r h2 (by simpa using e)
        exact ⟨s, by simpa using e1, e2⟩
    · cases h
theorem args_len {δ : Env} : ∀ {rs : List RV} {as : List Sl}, argsOf δ rs = some as → as.length = rs.length
  | [], _, h => by cases h; rfl
  | r0 :: rs, as, h => by
    unfold argsOf at h
    split at h
    · rename_i x xs h1 h2
      cases h
      simp [args_len h2]
    · cases h
theorem okOuts_get : ∀ {as os : List Sl} (m : Nat) (p : Bool) (o : Ob), okOuts as os = true → as[m]? = some (Sl.ow p o) → ∃ q u, os[m]? = some (Sl.ow q u)
  | [], _, m, _, _, _, e => by simp at e
  | a :: as, os, 0, p, o, h, e => by
    have : a = .ow p o := by simpa using e
    subst this
    cases os with
    | nil => simp [okOuts] at h
    | cons b os => cases b with
      | ow q u => exact ⟨q, u, rfl⟩
      | ro d => simp [okOuts] at h
      | no => simp [okOuts] at h
  | a :: as, os, m + 1, p, o, h, e => by
    cases os with
    | nil => cases a <;> simp [okOuts] at h
    | cons b os =>
      have h' : okOuts as os = true := by cases a <;> cases b <;> simp [okOuts] at h <;> exact h
      obtain ⟨q, u, e2⟩ := okOuts_get m p o h' (by simpa using e)
      exact ⟨q, u, by simpa using e2⟩
theorem rvrs_get {g : Gr} {ows : List Addr} {σ : St} {H : Hp} : ∀ {rs : List RV} {vs : List V} (m : Nat) (r : RV), RvRs g ows σ H rs vs → rs[m]? = some r → ∃ v, vs[m]? = some v ∧ RvR g ows σ H r v
  | [], _, m, r, _, e => by simp at e
  | r0 :: rs, _, m, r, ⟨v, us, h1, h2, h3⟩, e => by
    subst h1
    cases m with
    | zero =>
      have : r0 = r := by simpa using e
      subst this
      exact ⟨v, rfl, h2⟩
    | succ m =>
      obtain ⟨u, e1, e2⟩ := rvrs_get m r h3 (by simpa using e)
      exact ⟨u, by simpa using e1, e2⟩
theorem rvrs_len {g : Gr} {ows : List Addr} {σ : St} {H : Hp} : ∀ {rs : List RV} {vs : List V}, RvRs g ows σ H rs vs → vs.length = rs.length
  | [], _, h => by cases h; rfl
  | r0 :: rs, _, ⟨v, us, h1, h2, h3⟩ => by
    subst h1
    simp [rvrs_len h3]
theorem ps_mem : ∀ {as : List Sl} {vs : List V} {a : Addr}, a ∈ psOf as vs → ∃ (m : Nat) (p : Bool) (o : Ob), as[m]? = some (Sl.ow p o) ∧ vs[m]? = some (.ref a)
  | [], _, _, h => by simp [psOf] at h
  | s :: as, [], _, h => by cases s <;> simp [psOf] at h
  | s :: as, v :: vs, a, h => by
    have step : a ∈ psOf as vs → ∃ (m : Nat) (p : Bool) (o : Ob), (s :: as)[m]? = some (Sl.ow p o) ∧ (v :: vs)[m]? = some (.ref a) := fun h => by
      obtain ⟨m, p, o, e1, e2⟩ := ps_mem h
      exact ⟨m + 1, p, o, by simpa using e1, by simpa using e2⟩
    cases s with
    | ow p o =>
      cases v with
      | ref b =>
        rcases List.mem_cons.mp h with rfl | h
        · exact ⟨0, p, o, rfl, rfl⟩
        · exact step h
      | _ => exact step h
    | _ => exact step h

section
variable {g : Gr} {ows ows' : List Addr} {σ : St} {H H' : Hp} {δ : Env} {rs : List RV} {as os : List Sl} {vs : List V}
theorem args_ok (e : EnvR g ows σ H δ) (h : argsOf δ rs = some as) (r : RvRs g ows σ H rs vs) (nd : (ownsOf rs).Nodup) : ArgsR g.P g.w g.K ows H as vs := by
  have hl := args_len h
  have hv := rvrs_len r
  have own : ∀ (i : Nat) (p : Bool) (o : Ob), as[i]? = some (Sl.ow p o) → ∃ j, rs[i]? = some (.own j) ∧ ∃ q, δ[j]? = some (Sl.ow q o) := fun i p o hi => by
    have hi' : i < rs.length := by rw [← hl]; exact (List.getElem?_eq_some_iff.mp hi).1
    obtain ⟨s, e1, e2⟩ := args_get i rs[i] h (List.getElem?_eq_getElem hi')
    rw [hi] at e1
    cases e1
    cases hr : rs[i] with
    | d x => rw [hr] at e2; simp [RV.arg] at e2
    | own j =>
      rw [hr] at e2
      simp only [RV.arg] at e2
      split at e2
      · rename_i q u hq
        cases e2
        exact ⟨j, by rw [List.getElem?_eq_getElem hi', hr], q, hq⟩
      · cases e2
  refine ⟨by omega, fun j s v h1 h2 => ?_, fun i j p q o u hij h1 h2 => ?_⟩
  · have hj : j < rs.length := by rw [← hl]; exact (List.getElem?_eq_some_iff.mp h1).1
    obtain ⟨s', e1, e2⟩ := args_get j rs[j] h (List.getElem?_eq_getElem hj)
    rw [h1] at e1
    cases e1
    obtain ⟨v', e3, e4⟩ := rvrs_get j rs[j] r (List.getElem?_eq_getElem hj)
    rw [h2] at e3
    cases e3
    cases hr : rs[j] with
    | d x => rw [hr] at e2 e4; cases e2; exact e4
    | own i =>
      rw [hr] at e2 e4
      simp only [RV.arg] at e2
      split at e2
      · rename_i q u hq
        cases e2
        obtain ⟨a, g1, g2, g3, g4⟩ := e.slot i _ hq
        have e4 : σ[i]? = some (some v) := e4
        rw [g1] at e4
        cases e4
        exact ⟨a, rfl, g2, g4⟩
      · cases e2
  · obtain ⟨i', hi, p', hp⟩ := own i p o h1
    obtain ⟨j', hj, q', hq⟩ := own j q u h2
    have ne : i' ≠ j' := fun z => by
      subst z
      -- the same slot twice
      have : ∀ (rs : List RV) (i j : Nat), (ownsOf rs).Nodup → i ≠ j → rs[i]? = some (RV.own i') → rs[j]? = some (RV.own i') → False := fun rs => by
        induction rs with
        | nil => intro i j _ _ e; simp at e
        | cons r rs ih =>
          intro i j nd hij e1 e2
          cases i with
          | zero =>
            cases j with
            | zero => exact hij rfl
            | succ j =>
              have : r = .own i' := by simpa using e1
              subst this
              exact (List.nodup_cons.mp nd).1 (mem_owns rs j (by simpa using e2))
          | succ i =>
            cases j with
            | zero =>
              have : r = .own i' := by simpa using e2
              subst this
              exact (List.nodup_cons.mp nd).1 (mem_owns rs i (by simpa using e1))
            | succ j =>
              refine ih i j ?_ (fun z => hij (by rw [z])) (by simpa using e1) (by simpa using e2)
              cases r with
              | d x => exact nd
              | own k => exact (List.nodup_cons.mp nd).2
      exact this rs i j nd hij hi hj
    obtain ⟨v, e1, e2⟩ := rvrs_get i _ r hi
    obtain ⟨w, e3, e4⟩ := rvrs_get j _ r hj
    have e2 : σ[i']? = some (some v) := e2
    have e4 : σ[j']? = some (some w) := e4
    intro z
    rw [e1, e3] at z
    cases z
    exact e.inj i' j' p' o q' u ne hp hq (by rw [e2, e4])
/-- the caller's slots behind the call; ows' hides what the result is, too -/
theorem back_ok (e : EnvR g ows σ H δ) (h : argsOf δ rs = some as) (r : RvRs g ows σ H rs vs) (nd : (ownsOf rs).Nodup) (ok : okOuts as os = true) (A : After g.P g.w g.K ows' as vs os H H')
    (hs : ∀ a, a ∈ ows → a ∈ ows') (hn : ∀ a, a ∈ ows' → a ∈ ows ∨ (H a = none ∧ H' a ≠ none)) : EnvR g ows' σ H' (back δ rs os) ∧ Same (hid ows H) (hid ows' H') := by
  have AR := args_ok e h r nd
  have psin : ∀ a ∈ psOf as vs, a ∈ ows := fun a ha => by
    obtain ⟨m, p, o, e1, e2⟩ := ps_mem ha
    obtain ⟨b, g1, g2, _⟩ := AR.arg m _ _ e1 e2
    cases g1
    exact g2
  have hl := args_len h
  have ownas : ∀ (m j : Nat), rs[m]? = some (.own j) → ∃ p o, as[m]? = some (Sl.ow p o) ∧ ∃ q, δ[j]? = some (Sl.ow q o) := fun m j hm => by
    obtain ⟨s, e1, e2⟩ := args_get m _ h hm
    simp only [RV.arg] at e2
    split at e2
    · rename_i q u hq
      cases e2
      exact ⟨true, u, e1, q, hq⟩
    · cases e2
  have sm : Same (hid ows H) (hid ows' H') := fun a o q => by
    unfold hid at q ⊢
    split at q
    · cases q
    · rename_i na
      have n' : a ∉ ows' := fun z => by
        rcases hn a z with z | ⟨z, _⟩
        · exact na z
        · rw [z] at q; cases q
      rw [if_neg n']
      exact A.keep a o (fun z => na (psin a z)) q
  -- an own slot that was not handed in
  have stay : ∀ (j : Nat) (p : Bool) (o : Ob) (a : Addr), j ∉ ownsOf rs → δ[j]? = some (Sl.ow p o) → σ[j]? = some (some (.ref a)) → a ∉ psOf as vs := fun j p o a hj hd ha hm => by
    obtain ⟨m, p', o', e1, e2⟩ := ps_mem hm
    have hm' : m < rs.length := by rw [← hl]; exact (List.getElem?_eq_some_iff.mp e1).1
    obtain ⟨s, e3, e4⟩ := args_get m rs[m] h (List.getElem?_eq_getElem hm')
    rw [e1] at e3
    cases e3
    cases hr : rs[m] with
    | d x => rw [hr] at e4; simp [RV.arg] at e4
    | own k =>
      have hk : rs[m]? = some (.own k) := by rw [List.getElem?_eq_getElem hm', hr]
      obtain ⟨_, o2, _, q2, hq2⟩ := ownas m k hk
      obtain ⟨v, e5, e6⟩ := rvrs_get m _ r hk
      rw [e2] at e5
      cases e5
      have e6 : σ[k]? = some (some (.ref a)) := e6
      have ne : j ≠ k := fun z => hj (by rw [z]; exact mem_owns rs m hk)
      exact e.inj j k p o q2 o2 ne hd hq2 (by rw [ha, e6])
  refine ⟨⟨by rw [back_len]; exact e.len, fun a u hp q => ?_, fun a ha => hs a (e.psub a ha), fun a ha => ?_, fun j s hj => ?_, fun i j p o q u hij h1 h2 => ?_, fun j o hj => ?_, fun a hP t ht => (e.tab a hP t ht).mono ?_ sm, e.need⟩, sm⟩
  rotate_right
  · obtain ⟨t2, k2⟩ := (e.tab a hP t ht).some
    refine (A.keep a _ (fun hm => ?_) k2).trans k2.symm
    obtain ⟨m, p', o', e1, e2⟩ := ps_mem hm
    have hm' : m < rs.length := by rw [← hl]; exact (List.getElem?_eq_some_iff.mp e1).1
    obtain ⟨s, e3, e4⟩ := args_get m rs[m] h (List.getElem?_eq_getElem hm')
    rw [e1] at e3
    cases e3
    cases hr : rs[m] with
    | d x => rw [hr] at e4; simp [RV.arg] at e4
    | own k =>
      have hk : rs[m]? = some (.own k) := by rw [List.getElem?_eq_getElem hm', hr]
      obtain ⟨_, o2, _, q2, hq2⟩ := ownas m k hk
      obtain ⟨v, e5, e6⟩ := rvrs_get m _ r hk
      rw [e2] at e5
      cases e5
      have e6 : σ[k]? = some (some (.ref a)) := e6
      obtain ⟨b, g1, _, _, g4⟩ := e.slot k _ hq2
      rw [e6] at g1
      cases g1
      have mm := g4.mut
      rw [k2] at mm
      exact mm
  · refine A.keep a u (fun hm => ?_) (e.base a u hp q)
    obtain ⟨m, p', o', e1, e2⟩ := ps_mem hm
    have hm' : m < rs.length := by rw [← hl]; exact (List.getElem?_eq_some_iff.mp e1).1
    obtain ⟨s, e3, e4⟩ := args_get m rs[m] h (List.getElem?_eq_getElem hm')
    rw [e1] at e3
    cases e3
    cases hr : rs[m] with
    | d x => rw [hr] at e4; simp [RV.arg] at e4
    | own k =>
      have hk : rs[m]? = some (.own k) := by rw [List.getElem?_eq_getElem hm', hr]
      obtain ⟨_, o2, _, q2, hq2⟩ := ownas m k hk
      obtain ⟨v, e5, e6⟩ := rvrs_get m _ r hk
      rw [e2] at e5
      cases e5
      have e6 : σ[k]? = some (some (.ref a)) := e6
      obtain ⟨b, g1, g2, g3, _⟩ := e.slot k _ hq2
      rw [e6] at g1
      cases g1
      cases q2 with
      | true => exact hp (by simpa using g3)
      | false =>
        have g3 : g.H0 a = none := by simpa using g3
        rw [g3] at q; cases q
  · rcases hn a ha with ha | ⟨_, ha⟩
    · cases q : H a with
      | none => exact absurd q (e.dom a ha)
      | some u =>
        by_cases hm : a ∈ psOf as vs
        · obtain ⟨m, p', o', e1, e2⟩ := ps_mem hm
          obtain ⟨q', u', e3⟩ := okOuts_get m p' o' ok e1
          obtain ⟨b, e4, e5⟩ := A.outs m q' u' e3
          rw [e2] at e4
          cases e4
          exact e5.some
        · rw [A.keep a u hm q]; exact fun z => nomatch z
    · exact ha
  · rcases back_get rs os δ (fun m j hm => by
      obtain ⟨p, o, e1, _⟩ := ownas m j hm
      exact okOuts_get m p o ok e1) (fun j hj => by
      obtain ⟨m, hm⟩ := of_mem_owns rs hj
      obtain ⟨p, o, _, q, e2⟩ := ownas m j hm
      exact ⟨q, o, e2⟩) nd j s hj with ⟨g1, g2⟩ | ⟨m, q, p, o, o0, e1, e2, e3, rfl⟩
    · have := e.slot j s g2
      cases s with
      | no => trivial
      | ro d =>
        obtain ⟨x, k1, k2⟩ := this
        exact ⟨x, k1, k2.mono sm⟩
      | ow p o =>
        obtain ⟨a, k1, k2, k3, k4⟩ := this
        refine ⟨a, k1, hs a k2, k3, ?_⟩
        have na := stay j p o a g1 g2 k1
        cases q : H a with
        | none => exact absurd q (e.dom a k2)
        | some u =>
          rw [A.keep a u na q]
          rw [q] at k4
          exact k4.mono sm
    · obtain ⟨a, k1, k2, k3, k4⟩ := e.slot j _ e3
      obtain ⟨v, e5, e6⟩ := rvrs_get m _ r e1
      have e6 : σ[j]? = some (some v) := e6
      rw [k1] at e6
      cases e6
      obtain ⟨b, e7, e8⟩ := A.outs m q o e2
      rw [e5] at e7
      cases e7
      exact ⟨a, k1, hs a k2, k3, e8⟩
  · have nj : ∀ {m p o}, (back δ rs os)[m]? = some (Sl.ow p o) → ∃ p' o', δ[m]? = some (Sl.ow p' o') := fun {m p o} hm => by
      rcases back_get rs os δ (fun m j hm => by
        obtain ⟨p, o, e1, _⟩ := ownas m j hm
        exact okOuts_get m p o ok e1) (fun j hj => by
        obtain ⟨m, hm⟩ := of_mem_owns rs hj
        obtain ⟨p, o, _, q, e2⟩ := ownas m j hm
        exact ⟨q, o, e2⟩) nd m _ hm with ⟨_, g2⟩ | ⟨_, _, p', _, o0, _, _, e3, _⟩
      · exact ⟨_, _, g2⟩
      · exact ⟨_, _, e3⟩
    obtain ⟨_, _, a2⟩ := nj h1
    obtain ⟨_, _, b2⟩ := nj h2
    exact e.inj i j _ _ _ _ hij a2 b2
  · rcases back_get rs os δ (fun m j hm => by
        obtain ⟨p, o, e1, _⟩ := ownas m j hm
        exact okOuts_get m p o ok e1) (fun j hj => by
        obtain ⟨m, hm⟩ := of_mem_owns rs hj
        obtain ⟨p, o, _, q, e2⟩ := ownas m j hm
        exact ⟨q, o, e2⟩) nd j _ hj with ⟨_, g2⟩ | ⟨_, _, p', _, o0, _, _, e3, e4⟩
    · exact e.par j _ g2
    · cases e4
      exact e.par j _ e3
end
end G
/-! G.Chk: does a small tree say what a piece of the text says? -/
namespace G
open PySem L2

mutual
def D.same : D → D → Bool
  | .non, .non => true
  | .bl a, .bl b => a == b
  | .int a, .int b => a == b
  | .str a, .str b => decide (a = b)
  | .tup a, .tup b => D.sames a b
  | .lst a, .lst b => D.sames a b
  | .frz a, .frz b => D.sames a b
  | _, _ => false
def D.sames : List D → List D → Bool
  | [], [] => true
  | a :: as, b :: bs => D.same a b && D.sames as bs
  | _, _ => false
end
mutual
theorem D.of_same : ∀ a b : D, D.same a b = true → a = b
  | .non, b, h => by cases b <;> simp [D.same] at h <;> rfl
  | .bl _, b, h => by cases b <;> simp [D.same] at h; rw [h]
  | .int _, b, h => by cases b <;> simp [D.same] at h; rw [h]
  | .str _, b, h => by cases b <;> simp [D.same] at h; rw [h]
  | .tup xs, b, h => by cases b <;> simp only [D.same, reduceCtorEq, Bool.false_eq_true] at h; rw [D.of_sames xs _ h]
  | .lst xs, b, h => by cases b <;> simp only [D.same, reduceCtorEq, Bool.false_eq_true] at h; rw [D.of_sames xs _ h]
  | .frz xs, b, h => by cases b <;> simp only [D.same, reduceCtorEq, Bool.false_eq_true] at h; rw [D.of_sames xs _ h]
theorem D.of_sames : ∀ a b : List D, D.sames a b = true → a = b
  | [], [], _ => rfl
  | [], _ :: _, h => by simp [D.sames] at h
  | _ :: _, [], h => by simp [D.sames] at h
  | a :: as, b :: bs, h => by
    rw [D.sames, Bool.and_eq_true] at h
    rw [D.of_same a b h.1, D.of_sames as bs h.2]
end

/-! ### side conditions, by the head -/
def headOk : Expr → Bool
  | .Starred .. => false
  | .Slice .. => false
  | .Set .. => false
  | _ => true
def notComp : Expr → Bool
  | .ListComp .. => false
  | .SetComp .. => false
  | .DictComp .. => false
  | _ => true
def notTest : Expr → Bool
  | .UnaryOp .Not _ _ => false
  | .BoolOp .. => false
  | .IfExp .. => false
  | .Compare .. => false
  | _ => true
def notCall0 : Expr → Bool
  | .Call (.Name ..) [] [] _ => false
  | _ => true
theorem star_ok {e : Expr} (h : headOk e = true) (es : List Expr) (env : PySem.Env) : starEach (e :: es) env = (false, eval e env) :: starEach es env := by
  cases e <;> first | rfl | cases h
theorem stars_ok : ∀ {es : List Expr} (h : es.all headOk = true) (env : PySem.Env) (pos : Pos), (backTo pos (starEach es env)).any (·.1) = false
  | [], _, env, pos => rfl
  | e :: es, h, env, pos => by
    rw [List.all_cons, Bool.and_eq_true] at h
    rw [star_ok h.1]
    show (false || (backTo pos (starEach es env)).any (·.1)) = false
    rw [stars_ok h.2]
    rfl
theorem behind_ok {e : Expr} (h : headOk e = true) (op : CmpOp) : behindInMarks op e = false := by
  cases e <;> first | rfl | cases h
theorem folded_ok {e : Expr} (h : headOk e = true) (env : PySem.Env) (x : Value) : foldedSetIterable e env x = pure x := by
  cases e <;> first | rfl | cases h
theorem plain_ok {e : Expr} (h : headOk e = true) : PlainIx e := by
  intro o i
  cases e <;> first | rfl | cases h
theorem swap_ok {e : Expr} (h : notComp e = true) (t : Option Expr) (l : Nat) (env : PySem.Env) : swapsWith e t l env = pure false := by
  cases e <;> first | rfl | cases h
theorem sole_ok {e : Expr} (h : notComp e = true) (t : Expr) (l : Nat) (env : PySem.Env) : swapsWithSole [t] e l env = pure false := swap_ok h _ _ _
theorem true_ok {e : Expr} (h : notTest e = true) (env : PySem.Env) (whole : Sem Value) : isTrue e env whole = (do let v ← whole; standAt e.pos; holding [v] (truthy v)) := by
  cases e with
  | UnaryOp op x p => cases op <;> first | rfl | cases h
  | _ => first | rfl | cases h
theorem base_ok {e : Expr} (h : notCall0 e = true) (a : Str) (env : PySem.Env) (whole : Sem Value) : attributeBase e a env whole = whole := by
  cases e with
  | Call f as ks p =>
    cases f with
    | Name x q =>
      cases as with
      | nil =>
        cases ks with
        | nil => cases h
        | cons a b => rfl
      | cons a b => rfl
    | _ => rfl
  | _ => rfl

/-- what the checker knows: slots, scope, the defs that may be called, the constants -/
structure Ct where
  N : List Str
  sc : Scope
  fns : List (Str × Nat)
  cons : List (Str × D)
  /-- the defs that tell an error's word -/
  wds : List (Str × List (Str × Str))
def okName (x : Str) : Bool := !(x == ("__debug__" : Str)) && !(x == ("__classdict__" : Str)) && !(x == ("__name__" : Str))
theorem okN {x : Str} (h : okName x = true) : (x == ("__debug__" : Str)) = false ∧ (x == ("__classdict__" : Str)) = false ∧ (x == ("__name__" : Str)) = false := by
  unfold okName at h
  simp only [Bool.and_eq_true, Bool.not_eq_true'] at h
  exact ⟨h.1.1, h.1.2, h.2⟩
def visB (sc : Scope) (x : Str) : Bool := match sc.names.lookup x with
  | some .local => true
  | some .cell => true
  | some .free => true
  | _ => false
def locB (sc : Scope) (x : Str) : Bool := match sc.names.lookup x with
  | some .local => true
  | some .cell => true
  | _ => false
def glB (sc : Scope) (x : Str) : Bool := match sc.names.lookup x with
  | some .globalImplicit => true
  | _ => false
theorem vis_of {sc : Scope} {x : Str} (h : visB sc x = true) : Vis sc x := by
  unfold visB at h
  split at h
  · exact .inl (by assumption)
  · exact .inr (.inl (by assumption))
  · exact .inr (.inr (by assumption))
  · cases h
theorem loc_of {sc : Scope} {x : Str} (h : locB sc x = true) : Loc sc x := by
  unfold locB at h
  split at h
  · exact .inl (by assumption)
  · exact .inr (by assumption)
  · cases h
def bltN : Blt → Str
  | .len => "len" | .abs => "abs" | .int => "int" | .str => "str" | .bool => "bool" | .min2 => "min" | .max2 => "max" | .tuple => "tuple" | .list => "list" | .any => "any" | .all => "all" | .sum => "sum" | .maxl => "max" | .minp => "min" | .sorted => "sorted"
  | _ => "isinstance"
def bltArity : Blt → Nat
  | .min2 => 2 | .max2 => 2 | _ => 1
/-- the names that the layer's rules ask for as built-ins -/
def bltNames : List Str := ["len", "abs", "int", "str", "bool", "min", "max", "tuple", "list", "any", "all", "sum", "sorted", "isinstance", "range", "enumerate", "set"]
def litB : D → Const → Bool
  | .non, .none => true
  | .bl a, .bool b => a == b
  | .int a, .int b => a == b
  | .str a, .str b => decide (a = b)
  | _, _ => false
def lenE : E → Nat
  | .cons _ es => lenE es + 1
  | _ => 0
def notIf : Expr → Bool
  | .IfExp .. => false
  | _ => true
/-- the block's own names with their slots -/
def ownOf (N : List Str) (vs : List Nat) : List (Str × Nat) := vs.map fun v => (N.getD v Str.empty, v)
theorem ownOf_snd (N : List Str) (vs : List Nat) : (ownOf N vs).map (·.2) = vs := by
  unfold ownOf
  rw [List.map_map]
  exact List.map_id vs
def vsOk (c : Ct) (s : Scope) (vs : List Nat) : Bool := blkC c.N c.sc s (ownOf c.N vs)
/-- a name as a target; s: the block's own scope (of a def: what it is) -/
def nameT (N : List Str) (sc : Scope) (fn : Str → Bool) (i : Nat) (x : Str) : Bool := decide (N[i]? = some x) && locB sc x && (fn x || decide (sc.names.lookup x = some .local))
def namesT (N : List Str) (sc : Scope) (fn : Str → Bool) : List Nat → List Expr → Bool
  | [], [] => true
  | i :: is, .Name x _ :: l => nameT N sc fn i x && namesT N sc fn is l
  | _, _ => false
def isT (N : List Str) (sc : Scope) (fn : Str → Bool) (tg : List Nat) (t : Expr) : Bool := match tg, t with
  | [i], .Name x _ => nameT N sc fn i x
  | tg, .Tuple l _ _ => decide (tg.length ≠ 1) && namesT N sc fn tg l
  | _, _ => false
def fnB (s : Scope) : Str → Bool := fun x => s.names.lookup x == some .cell
/-- an error that keeps an int in a field -/
def exnF (x : Str) : Option Str := if x = ("InvalidText" : Str) then some "line" else if x = ("TooMany" : Str) then some "limit" else none
def m1N : M1 → Str
  | .spl => "split" | .joi => "join" | .lix => "index"
/-- the pairs of a written dict -/
def kvB : List (Str × Int) → List (Option Expr) → List Expr → Bool
  | [], [], [] => true
  | (z, i) :: kvs, some (.Constant (.str a) _ _) :: ks, .Constant (.int b) _ _ :: vs => decide (a = z) && b == i && kvB kvs ks vs
  | _, _, _ => false
/-- a dict of the module, as a constant: .frz of pairs -/
def kvsOf : List D → Option (List (Int × Str))
  | [] => some []
  | .tup [.int i, .str z] :: r => (kvsOf r).map ((i, z) :: ·)
  | _ => none
def notFrz : D → Bool
  | .frz _ => false
  | _ => true
def frzKv (d : D) (kvs : List (Int × Str)) : Bool := match d with
  | .frz xs => decide (kvsOf xs = some kvs)
  | _ => false
mutual
def isE (c : Ct) : E → Expr → Bool
  | .var i, .Name x _ => decide (c.N[i]? = some x) && visB c.sc x && okName x
  | .lit d, .Constant k _ _ => litB d k
  | .con y d, .Name x _ => decide (x = y) && glB c.sc x && okName x && (match c.cons.lookup x with | some d' => D.same d' d && notFrz d | none => false)
  | .tup es, .Tuple l _ _ => isEs c es l && decide (lenE es ≤ 1000)
  | .lst es, .List l _ => isEs c es l && decide (lenE es ≤ 1000)
  | .bin o a b, .BinOp x op y _ => decide (op = opOf o) && isE c a x && isE c b y
  | .neg a, .UnaryOp op x _ => decide (op = .USub) && isE c a x
  | .not a, .UnaryOp op x _ => decide (op = .Not) && isE c a x && notIf x
  | .cmp o a b, .Compare x [op] [y] _ => decide (op = cOf o) && isE c a x && isE c b y && headOk y
  | .chn o p a b d, .Compare x [op, oq] [y, z] _ => decide (op = cOf o) && decide (oq = cOf p) && isE c a x && isE c b y && isE c d z && headOk y && headOk z
  | .and a b, .BoolOp op (x :: y :: r) pos => decide (op = .And) && isE c a x && notIf x && notIf y && (match r with | [] => isE c b y | z :: r => isE c b (.BoolOp .And (y :: z :: r) pos))
  | .or a b, .BoolOp op (x :: y :: r) pos => decide (op = .Or) && isE c a x && notIf x && notIf y && (match r with | [] => isE c b y | z :: r => isE c b (.BoolOp .Or (y :: z :: r) pos))
  | .ifx t a b, .IfExp x y z _ => isE c t x && notIf x && isE c a y && isE c b z
  | .idx a b, .Subscript x y _ => isE c a x && isE c b y && headOk y
  | .sl a lo hi, .Subscript x (.Slice l h none _) _ => isE c a x && (match l with | none => nonE lo | some y => isE c lo y && !nonE lo) && (match h with | none => nonE hi | some y => isE c hi y && !nonE hi)
  | .call k es, .Call (.Name f _) l ks _ => ks.isEmpty && decide (c.fns[k]? = some (f, l.length)) && glB c.sc f && okName f && isEs c es l && l.all headOk
  | .blt b es, .Call (.Name f _) l ks _ => ks.isEmpty && glB c.sc f && decide (f = bltN b) && (match isTy b with
      | some t => (match l with
        | [x, .Name y _] => isEs c es [x] && headOk x && decide (y = (t : Str)) && glB c.sc y
        | _ => false)
      | none => isEs c es l && l.all headOk && decide (l.length = bltArity b) && decide (bltF b ≠ .none))
  | .mth m o es, .Call (.Attribute x n apos) [y] ks cpos => ks.isEmpty && decide (m = .count) && decide (n = ("count" : Str)) && isE c o x && isEs c es [y] && headOk y && notCall0 x && (apos.endLine == cpos.line)
  | .m1 o a b, .Call (.Attribute x n apos) [y] ks cpos => ks.isEmpty && decide (n = m1N o) && isE c a x && isE c b y && headOk y && notCall0 x && (apos.endLine == cpos.line)
  | .nin a, .Compare (.Constant .none _ _) [op] [y] _ => decide (op = .In) && isE c a y && headOk y
  | .cget kvs a, .Call (.Attribute (.Dict ks vs _) n apos) [y] kws cpos => kws.isEmpty && decide (n = ("get" : Str)) && kvB kvs ks vs && decide ((kvs.map (·.1)).Nodup) && decide (kvs.length ≤ 15) && decide (kvs ≠ []) && isE c a y && headOk y && (apos.endLine == cpos.line)
  | .gidx nm kvs a, .Subscript (.Name x _) y _ => decide (x = nm) && glB c.sc x && okName x && (match c.cons.lookup x with | some d => frzKv d kvs | none => false) && isE c a y && headOk y
  | .rev a, .Subscript x (.Slice none none (some (.UnaryOp .USub (.Constant (.int 1) _ _) _)) _) _ => isE c a x
  | .lrng it, .Call (.Name f _) [x] ks _ => ks.isEmpty && glB c.sc f && decide (f = ("list" : Str)) && isR c it x
  | .tryc w ws k es, .Call (.Name x _) [.Lambda ⟨[], [], none, [], [], none, []⟩ (.Call (.Name f _) l ks2 _) scope _] ks _ => ks.isEmpty && ks2.isEmpty && decide (x = w) && glB c.sc x && okName x && decide ((w, ws) ∈ c.wds) && LamX.lamSB c.sc scope &&
    decide (c.fns[k]? = some (f, l.length)) && glB scope f && okName f && isEs { c with sc := scope, wds := [] } es l && l.all headOk
  | .srt es, .Call (.Name f _) [.Call (.Name g _) l ks2 _] ks _ => ks.isEmpty && ks2.isEmpty && glB c.sc f && decide (f = ("sorted" : Str)) && glB c.sc g && decide (g = ("set" : Str)) && isEs c es l && l.all headOk && decide (l.length = 1)
  | .trng it, .Call (.Name f _) [x] ks _ => ks.isEmpty && glB c.sc f && decide (f = ("tuple" : Str)) && isR c it x
  | .comp vs tg it elt, .ListComp x [⟨t, i, [], a⟩] s _ => decide (a = 0) && isI c (tg.length != 1) it i && headOk i && isT c.N (relS s c.sc) (fnB s) tg t && vsOk c s vs && tg.all (vs.contains ·) && isE { c with sc := relS s c.sc } elt x
  | .compc vs tg it cd elt, .ListComp x [⟨t, i, [y], a⟩] s _ => decide (a = 0) && isI c (tg.length != 1) it i && headOk i && isT c.N (relS s c.sc) (fnB s) tg t && vsOk c s vs && tg.all (vs.contains ·) && isE { c with sc := relS s c.sc } elt x && isE { c with sc := relS s c.sc } cd y && notIf y
  | _, _ => false
def isEs (c : Ct) : E → List Expr → Bool
  | .nil, [] => true
  | .cons e es, x :: xs => isE c e x && headOk x && isEs c es xs
  | _, _ => false
/-- what a loop walks; en: the target is a tuple -/
def isI (c : Ct) (en : Bool) : E → Expr → Bool
  | .rng1 a, .Call (.Name f _) [x] ks _ => ks.isEmpty && glB c.sc f && decide (f = ("range" : Str)) && isE c a x && headOk x
  | .rng2 a b, .Call (.Name f _) [x, y] ks _ => ks.isEmpty && glB c.sc f && decide (f = ("range" : Str)) && isE c a x && headOk x && isE c b y && headOk y
  | .enm a, .Call (.Name f _) [x] ks _ => ks.isEmpty && en && glB c.sc f && decide (f = ("enumerate" : Str)) && isE c a x && headOk x
  | .itr a, x => isE c a x
  | _, _ => false
/-- range(..) as an argument of list, tuple -/
def isR (c : Ct) : E → Expr → Bool
  | .rng1 a, .Call (.Name f _) [x] ks _ => ks.isEmpty && glB c.sc f && decide (f = ("range" : Str)) && isE c a x && headOk x
  | .rng2 a b, .Call (.Name f _) [x, y] ks _ => ks.isEmpty && glB c.sc f && decide (f = ("range" : Str)) && isE c a x && headOk x && isE c b y && headOk y
  | _, _ => false
end
end G
/-! G.Snd1: the readings of small trees; one implication a construct. -/
namespace G
open PySem L2

abbrev Ps := List Addr × (Nat → Option (Option V))
/-- the code object of the def named law -/
def lawCode (K : PySem.W.Frag) (mg : Str → Option Value) : Option Addr := match mg "law" with
  | some (.ref a) => (match K.lookup a with
    | some o => (match o.data with
      | .func fd => (match fd.code with
        | .ref c => some c
        | _ => none)
      | _ => none)
    | none => none)
  | _ => none
/-- a slot's name that marks a def that makes lambdas -/
def lamN : Str := "<lambda>"
def tabP (K : PySem.W.Frag) (mg : Str → Option Value) (base : Heap) (P : Addr) : Prop := ∃ c, lawCode K mg = some c ∧ LamX.TabB base mg c P
abbrev gr (X : Cx) (H0 : Hp) (ps : Ps) : Gr := ⟨X.prog, X.w, X.K, H0, ps.1, ps.2, decide (lamN ∈ X.N), tabP X.K X.mg X.base⟩
section
variable (X : Cx) (T : List Fn) (cl : Str → Option Addr) (EX : XK)
def tE (e : E) : TE := fun σ H Q => ∃ H0 ps ows δ, EnvR (gr X H0 ps) ows σ H δ ∧ wpO ⟨gr X H0 ps, ows, σ, cl, EX⟩ H (ev T e δ) (RvR (gr X H0 ps) ows σ) Q
def tEs (e : E) : TA := fun σ H Q => ∃ H0 ps ows δ, EnvR (gr X H0 ps) ows σ H δ ∧ wpO ⟨gr X H0 ps, ows, σ, cl, EX⟩ H (evs T e δ) (RvRs (gr X H0 ps) ows σ) Q
def evb (T : List Fn) (e : E) (δ : Env) : Out Env Bool := (ev T e δ).bind fun x δ => lift (asBl x) δ
def tT (e : E) : TT := fun σ H Q => ∃ H0 ps ows δ, EnvR (gr X H0 ps) ows σ H δ ∧ wpO ⟨gr X H0 ps, ows, σ, cl, EX⟩ H (evb T e δ) (fun _ (r : Bool) (b : Bool) => r = b) Q
/-- an iterator that yields these data -/
def WalksD (K : PySem.W.Frag) (ows : List Addr) (H0 : Hp) (xs : List D) (J : It) : Prop := ∀ (i : Nat) (H : Hp) (ows' : List Addr), Same (hid ows H0) (hid ows' H) → G.Dom ows' H →
  (i < xs.length → J.go i H ∧ ∀ v H1, J.yld i H v H1 → Grow H H1 ∧ ∀ d, xs[i]? = some d → Rep K (hid ows' H1) d v) ∧ (i = xs.length → J.stop i H)
def tI (e : E) : TI := fun σ H R => ∃ H0 ps ows δ, EnvR (gr X H0 ps) ows σ H δ ∧ wpO ⟨gr X H0 ps, ows, σ, cl, EX⟩ H (evi T e δ) (fun H' xs J => WalksD X.K ows H' xs J) R
end
theorem _root_.L2.PE.imp {X : Cx} {e : Expr} {t t' : TE} (h : PE X e t) (k : ∀ σ H Q, t' σ H Q → t σ H Q) : PE X e t' := ⟨fun pins s σ H Q I q => h.run pins s σ H Q I (k _ _ _ q)⟩
theorem _root_.L2.PT.imp {X : Cx} {e : Expr} {t t' : TT} (h : PT X e t) (k : ∀ σ H Q, t' σ H Q → t σ H Q) : PT X e t' := ⟨fun pins s σ H Q I q => h.run pins s σ H Q I (k _ _ _ q)⟩
theorem _root_.L2.PW.imp {X : Cx} {e : Expr} {t t' : TT} (h : PW X e t) (k : ∀ σ H Q, t' σ H Q → t σ H Q) : PW X e t' := ⟨fun w pins s σ H Q I q => h.run w pins s σ H Q I (k _ _ _ q)⟩
theorem _root_.L2.PA.imp {X : Cx} {e : List Expr} {t t' : TA} (h : PA X e t) (k : ∀ σ H Q, t' σ H Q → t σ H Q) : PA X e t' := ⟨fun p pins s σ H Q I q => h.run p pins s σ H Q I (k _ _ _ q)⟩
theorem _root_.L2.PI.imp {X : Cx} {tg e : Expr} {t t' : TI} (h : PI X tg e t) (k : ∀ σ H Q, t' σ H Q → t σ H Q) : PI X tg e t' := ⟨fun pins s σ H Q I q => h.run pins s σ H Q I (k _ _ _ q)⟩

section
variable {X : Cx} {T : List Fn} {cl : Str → Option Addr} {EX : XK} {H0 : Hp} {ps : Ps} {ows : List Addr} {σ : St} {H : Hp} {δ : Env}
theorem EnvR.Dom {g : Gr} (e : EnvR g ows σ H δ) : G.Dom ows H := e.dom
theorem repV_of {g : Gr} {r : RV} {v : V} {d : D} (e : EnvR g ows σ H δ) (h : RvR g ows σ H r v) (q : r.val δ = some d) : RepV g.K ows H d v := by
  cases r with
  | d x => cases q; exact .inl h
  | own i =>
    simp only [RV.val] at q
    split at q
    · rename_i p xs hi
      cases q
      obtain ⟨a, h1, h2, h3, vs, h4, h5⟩ := e.slot i _ hi
      have h : σ[i]? = some (some v) := h
      rw [h1] at h
      cases h
      exact .inr ⟨a, xs, vs, rfl, rfl, h4, h5⟩
    · cases q
theorem repVs_of {g : Gr} (e : EnvR g ows σ H δ) : ∀ {rs : List RV} {vs : List V} {ds : List D}, RvRs g ows σ H rs vs → vals δ rs = some ds → RepVs g.K ows H ds vs
  | [], _, _, h, q => by cases q; exact h
  | r :: rs, _, _, ⟨v, us, h1, h2, h3⟩, q => by
    unfold vals at q
    split at q
    · rename_i q1 q2
      cases q
      exact ⟨v, us, h1, repV_of e h2 q1, repVs_of e h3 q2⟩
    · cases q
theorem reps_of {g : Gr} : ∀ {rs : List RV} {vs : List V} {ds : List D}, RvRs g ows σ H rs vs → datas rs = some ds → Reps g.K (hid ows H) ds vs
  | [], _, _, h, q => by cases q; cases h; exact Reps.nil
  | .d x :: rs, _, _, ⟨v, us, h1, h2, h3⟩, q => by
    simp only [datas, Option.map_eq_some_iff] at q
    obtain ⟨ds, q1, rfl⟩ := q
    subst h1
    exact Reps.cons h2 (reps_of h3 q1)
  | .own i :: rs, _, _, _, q => by cases q
theorem EnvR.grow {g : Gr} {H1 : Hp} (e : EnvR g ows σ H δ) (h : Grow H H1) : EnvR g ows σ H1 δ ∧ Same (hid ows H) (hid ows H1) := by
  rcases h with rfl | ⟨p, o, n, rfl⟩
  · exact ⟨e, Same.refl _⟩
  · exact ⟨e.new n, hid_new n⟩
theorem EnvR.grow2 {g : Gr} {H1 : Hp} (e : EnvR g ows σ H δ) (h : Grow2 H H1) : EnvR g ows σ H1 δ ∧ Same (hid ows H) (hid ows H1) := by
  obtain ⟨H2, g1, g2⟩ := h
  obtain ⟨e1, s1⟩ := e.grow g1
  obtain ⟨e2, s2⟩ := e1.grow g2
  exact ⟨e2, s1.trans s2⟩
theorem fin_of {g : Gr} {z : D} {Q : VK} (e : EnvR g ows σ H δ) (h : wpO ⟨g, ows, σ, cl, EX⟩ H (.ok (.d z) δ) (RvR g ows σ) Q) : Fin g.K ows H z Q := fun v H1 gr r =>
  let ⟨e1, sm⟩ := e.grow2 gr
  h v H1 e1 sm r
/-- the good end: Q of the value at once -/
theorem ok_now {g : Gr} {α β : Type} {r : α} {R : Hp → α → β → Prop} {Q : β → Hp → Prop} {b : β} (e : EnvR g ows σ H δ) (h : wpO ⟨g, ows, σ, cl, EX⟩ H (.ok r δ) R Q) (hr : R H r b) : Q b H := h b H e (Same.refl _) hr

theorem datas_len : ∀ {rs : List RV} {ds : List D}, datas rs = some ds → ds.length = rs.length
  | [], _, h => by cases h; rfl
  | .d x :: rs, _, h => by
    simp only [datas, Option.map_eq_some_iff] at h
    obtain ⟨ds, q1, rfl⟩ := h
    simp [datas_len q1]
  | .own _ :: _, _, h => by cases h
theorem evs_len : ∀ {es : E} {δ δ' : Env} {rs : List RV}, evs T es δ = .ok rs δ' → rs.length = lenE es
  | .nil, δ, δ', rs, h => by simp only [evs] at h; cases h; rfl
  | .cons a es, δ, δ', rs, h => by
    simp only [evs] at h
    cases h1 : ev T a δ with
    | ok r δ1 =>
      rw [h1] at h
      simp only [Out.bind] at h
      cases h2 : evs T es δ1 with
      | ok rs2 δ2 =>
        rw [h2] at h
        cases h
        simp [lenE, evs_len h2]
      | ex c s => rw [h2] at h; cases h
      | no => rw [h2] at h; cases h
    | ex c s => rw [h1] at h; cases h
    | no => rw [h1] at h; cases h
  | .var _, _, _, _, h | .lit _, _, _, _, h | .con _ _, _, _, _, h | .tup _, _, _, _, h | .lst _, _, _, _, h | .dnew, _, _, _, h | .bin _ _ _, _, _, _, h | .neg _, _, _, _, h | .not _, _, _, _, h
  | .cmp _ _ _, _, _, _, h | .chn _ _ _ _ _, _, _, _, h | .and _ _, _, _, _, h | .or _ _, _, _, _, h | .ifx _ _ _, _, _, _, h | .idx _ _, _, _, _, h | .sl _ _ _, _, _, _, h | .rev _, _, _, _, h
  | .call _ _, _, _, _, h | .blt _ _, _, _, _, h | .mth _ _ _, _, _, _, h | .rng1 _, _, _, _, h | .rng2 _ _, _, _, _, h | .enm _, _, _, _, h | .itr _, _, _, _, h | .lrng _, _, _, _, h | .trng _, _, _, _, h | .srt _, _, _, _, h | .tryc _ _ _ _, _, _, _, h
  | .comp _ _ _ _, _, _, _, h | .compc _ _ _ _ _, _, _, _, h => by simp only [evs] at h; cases h
theorem te_var {i : Nat} {Q : VK} (h : tE X T cl EX (.var i) σ H Q) : tVar i σ H Q := by
  obtain ⟨H0, ps, ows, δ, e, h⟩ := h
  simp only [ev] at h
  split at h
  · rename_i d hd
    obtain ⟨x, h1, h2⟩ := e.slot i _ hd
    exact ⟨x, h1, ok_now e h h2⟩
  · rename_i p o hd
    obtain ⟨a, h1, h2⟩ := e.slot i _ hd
    exact ⟨.ref a, h1, ok_now e h h1⟩
  · exact h.elim
theorem te_lit {d : D} {v : V} {Q : VK} (hv : ∀ H, Rep X.K H d v) (h : tE X T cl EX (.lit d) σ H Q) : tC v σ H Q := by
  obtain ⟨H0, ps, ows, δ, e, h⟩ := h
  exact ok_now e h (hv _)
theorem te_con {x : Str} {d : D} {v : V} {Q : VK} (hv : ∀ H, Rep X.K H d v) (h : tE X T cl EX (.con x d) σ H Q) : tC v σ H Q := by
  obtain ⟨H0, ps, ows, δ, e, h⟩ := h
  exact ok_now e h (hv _)
theorem te_nil {Q : List V → Hp → Prop} (h : tEs X T cl EX .nil σ H Q) : tNil σ H Q := by
  obtain ⟨H0, ps, ows, δ, e, h⟩ := h
  exact ok_now e h rfl
theorem te_cons {a es : E} {Q : List V → Hp → Prop} (h : tEs X T cl EX (.cons a es) σ H Q) : tCons (tE X T cl EX a) (tEs X T cl EX es) σ H Q := by
  obtain ⟨H0, ps, ows, δ, e, h⟩ := h
  simp only [evs] at h
  refine ⟨H0, ps, ows, δ, e, (wpO.bind h).imp fun x H1 ⟨r1, δ1, _, e1, s1, rx, h1⟩ => ⟨H0, ps, ows, δ1, e1, (wpO.bind h1).imp fun vs H2 ⟨rs, δ2, _, e2, s2, ry, h2⟩ => ?_⟩⟩
  exact ok_now e2 h2 ⟨x, vs, rfl, RvR.mono s2 rx, ry⟩
theorem te_tup {es : E} {Q : VK} (hz : lenE es ≤ 1000) (h : tE X T cl EX (.tup es) σ H Q) : tTup (tEs X T cl EX es) σ H Q := by
  obtain ⟨H0, ps, ows, δ, e, h⟩ := h
  simp only [ev] at h
  refine ⟨H0, ps, ows, δ, e, (wpO.bind h).imp fun vs H1 ⟨rs, δ1, q1, e1, s1, rx, h1⟩ => ?_⟩
  obtain ⟨ds, q2, h2⟩ := wpO.lift h1
  have r := reps_of rx q2
  exact ⟨by rw [r.length, datas_len q2, evs_len q1]; exact Nat.le_trans hz (by decide), fun p n => (fin_of e1 h2).tup e1.dom r p n⟩
theorem te_lst {es : E} {Q : VK} (hz : lenE es ≤ 1000) (h : tE X T cl EX (.lst es) σ H Q) : tLst (tEs X T cl EX es) σ H Q := by
  obtain ⟨H0, ps, ows, δ, e, h⟩ := h
  simp only [ev] at h
  refine ⟨H0, ps, ows, δ, e, (wpO.bind h).imp fun vs H1 ⟨rs, δ1, q1, e1, s1, rx, h1⟩ => ?_⟩
  obtain ⟨ds, q2, h2⟩ := wpO.lift h1
  have r := reps_of rx q2
  exact ⟨by rw [r.length, datas_len q2, evs_len q1]; exact Nat.le_trans hz (by decide), fun p n => (fin_of e1 h2).lst e1.dom r p n⟩
theorem te_bin {o : Bop} {a b : E} {Q : VK} (h : tE X T cl EX (.bin o a b) σ H Q) : tOp (rD X.K (binv o)) (tE X T cl EX a) (tE X T cl EX b) σ H Q := by
  obtain ⟨H0, ps, ows, δ, e, h⟩ := h
  simp only [ev] at h
  refine ⟨H0, ps, ows, δ, e, (wpO.bind h).imp fun x H1 ⟨r1, δ1, _, e1, s1, rx, h1⟩ => ⟨H0, ps, ows, δ1, e1, (wpO.bind h1).imp fun y H2 ⟨r2, δ2, _, e2, s2, ry, h2⟩ => ?_⟩⟩
  obtain ⟨z, hz, h3⟩ := wpO.lift h2
  unfold binR at hz
  split at hz
  · rename_i q1 q2
    exact ⟨ows, _, _, z, e2.dom, repV_of e2 (RvR.mono s2 rx) q1, repV_of e2 ry q2, hz, fin_of e2 h3⟩
  · cases hz
theorem te_neg {a : E} {Q : VK} (h : tE X T cl EX (.neg a) σ H Q) : tUn (rU fun i => .int (-i)) (tE X T cl EX a) σ H Q := by
  obtain ⟨H0, ps, ows, δ, e, h⟩ := h
  simp only [ev] at h
  refine ⟨H0, ps, ows, δ, e, (wpO.bind h).imp fun x H1 ⟨r1, δ1, _, e1, s1, rx, h1⟩ => ?_⟩
  obtain ⟨z, hz, h3⟩ := wpO.lift h1
  unfold negR at hz
  split at hz
  · cases hz
    simp only [RvR, Rep] at rx
    exact ⟨_, rx, (fin_of e1 h3).int⟩
  · cases hz
theorem asBl_some {r : RV} {b : Bool} (h : asBl r = some b) : r = .d (.bl b) := by
  unfold asBl at h
  split at h
  · cases h; rfl
  · cases h
theorem te_not {a : E} {Q : VK} (h : tE X T cl EX (.not a) σ H Q) : tNotV (tE X T cl EX a) σ H Q := by
  obtain ⟨H0, ps, ows, δ, e, h⟩ := h
  simp only [ev] at h
  refine ⟨H0, ps, ows, δ, e, (wpO.bind h).imp fun x H1 ⟨r1, δ1, _, e1, s1, rx, h1⟩ => ?_⟩
  obtain ⟨b, hb, h3⟩ := wpO.lift h1
  cases asBl_some hb
  simp only [RvR, Rep] at rx
  exact ⟨b, rx, (fin_of e1 h3).bl⟩
theorem dct_of {g : Gr} {i : Nat} {p : Bool} {kvs : List (D × D)} {v : V} (e : EnvR g ows σ H δ) (hi : δ[i]? = some (.ow p (.dct kvs))) (h : σ[i]? = some (some v)) : ∃ a, v = .ref a ∧ a ∈ ows ∧ (hid ows H) a = none ∧ DctAt g.P g.w g.K (hid ows H) a (H a) kvs := by
  obtain ⟨a, h1, h2, h3, h4⟩ := e.slot i _ hi
  rw [h1] at h
  cases h
  exact ⟨a, rfl, h2, by unfold hid; rw [if_pos h2], h4⟩
theorem rc_of {o : Cop} {r1 r2 : RV} {x y : V} {t : Bool} {Q : VK} (e : EnvR (gr X H0 ps) ows σ H δ) (rx : RvR (gr X H0 ps) ows σ H r1 x) (ry : RvR (gr X H0 ps) ows σ H r2 y) (hz : cmpR δ o r1 r2 = some t)
    (q : Fin X.K ows H (.bl t) Q) : rCN X.prog X.w X.K o x y H Q := by
  have plain : ∀ (a b : D), r1.val δ = some a → r2.val δ = some b → cmpv o a b = some t → rCN X.prog X.w X.K o x y H Q := fun a b h1 h2 h3 =>
    .inl ⟨ows, a, b, .bl t, e.dom, repV_of e rx h1, repV_of e ry h2, by show Option.map D.bl (cmpv o a b) = _; rw [h3]; rfl, q⟩
  unfold cmpR at hz
  split at hz
  · rename_i k i
    split at hz
    · rename_i kvs hi
      split at hz
      · rename_i hk
        cases hz
        obtain ⟨a, rfl, g2, g3, g4⟩ := dct_of e hi ry
        have rx : Rep X.K (hid ows H) k x := rx
        obtain ⟨nk, b, k1, k2, rfl⟩ := G.key_of hk rx
        exact .inr (.inl ⟨rfl, a, hid ows H, kvs, k, nk, b, rfl, hid_same _ _, g4, k1, k2, rfl, rx.mono (hid_same _ _), q.bl⟩)
      · cases hz
    · rename_i ys hi
      exact plain k (.lst ys) rfl (by simp only [RV.val, hi]) hz
    · cases hz
  · rename_i k i
    split at hz
    · rename_i kvs hi
      split at hz
      · rename_i hk
        cases hz
        obtain ⟨a, rfl, g2, g3, g4⟩ := dct_of e hi ry
        have rx : Rep X.K (hid ows H) k x := rx
        obtain ⟨nk, b, k1, k2, rfl⟩ := G.key_of hk rx
        exact .inr (.inr ⟨rfl, a, hid ows H, kvs, k, nk, b, rfl, hid_same _ _, g4, k1, k2, rfl, rx.mono (hid_same _ _), q.bl⟩)
      · cases hz
    · rename_i ys hi
      exact plain k (.lst ys) rfl (by simp only [RV.val, hi]) hz
    · cases hz
  · split at hz
    · rename_i h1 h2
      exact plain _ _ h1 h2 hz
    · cases hz
theorem te_cmp {o : Cop} {a b : E} {Q : VK} (h : tE X T cl EX (.cmp o a b) σ H Q) : tOp (rCN X.prog X.w X.K o) (tE X T cl EX a) (tE X T cl EX b) σ H Q := by
  obtain ⟨H0, ps, ows, δ, e, h⟩ := h
  simp only [ev] at h
  refine ⟨H0, ps, ows, δ, e, (wpO.bind h).imp fun x H1 ⟨r1, δ1, _, e1, s1, rx, h1⟩ => ⟨H0, ps, ows, δ1, e1, (wpO.bind h1).imp fun y H2 ⟨r2, δ2, _, e2, s2, ry, h2⟩ => ?_⟩⟩
  obtain ⟨t, hz, h3⟩ := wpO.lift h2
  exact rc_of e2 (RvR.mono s2 rx) ry hz (fin_of e2 h3)
theorem te_chn {o p : Cop} {a b c : E} {Q : VK} (h : tE X T cl EX (.chn o p a b c) σ H Q) : tChain (rCN X.prog X.w X.K o) (rCN X.prog X.w X.K p) (tE X T cl EX a) (tE X T cl EX b) (tE X T cl EX c) σ H Q := by
  obtain ⟨H0, ps, ows, δ, e, h⟩ := h
  simp only [ev] at h
  refine ⟨H0, ps, ows, δ, e, (wpO.bind h).imp fun x H1 ⟨r1, δ1, _, e1, s1, rx, h1⟩ => ⟨H0, ps, ows, δ1, e1, (wpO.bind h1).imp fun y H2 ⟨r2, δ2, _, e2, s2, ry, h2⟩ => ?_⟩⟩
  obtain ⟨t, hz, h3⟩ := wpO.lift h2
  refine rc_of e2 (RvR.mono s2 rx) ry hz fun v H3 gw rv => ?_
  obtain ⟨e3, s3⟩ := e2.grow2 gw
  simp only [Rep] at rv
  have h3 := wpO.from s3 h3
  refine ⟨t, rv, ?_⟩
  cases t with
  | false => exact iteF (ok_now e3 h3 (by simp only [RvR, Rep]))
  | true =>
    refine iteT ⟨H0, ps, ows, δ2, e3, (wpO.bind h3).imp fun z H4 ⟨r3, δ3, _, e4, s4, rz, h4⟩ => ?_⟩
    obtain ⟨u, hu, h5⟩ := wpO.lift h4
    exact rc_of e4 (RvR.mono (s3.trans s4) ry) rz hu (fin_of e4 h5)
/-- a test from a value -/
theorem tt_te {a : E} {Q : Bool → Hp → Prop} (h : tT X T cl EX a σ H Q) : tE X T cl EX a σ H fun x H1 => ∃ k, x = .bl k ∧ Q k H1 := by
  obtain ⟨H0, ps, ows, δ, e, h⟩ := h
  unfold evb at h
  refine ⟨H0, ps, ows, δ, e, (wpO.bind h).imp fun x H1 ⟨r1, δ1, _, e1, s1, rx, h1⟩ => ?_⟩
  cases hb : asBl r1 with
  | none => rw [hb] at h1; exact h1.elim
  | some b =>
    rw [hb] at h1
    cases asBl_some hb
    simp only [RvR, Rep] at rx
    exact ⟨b, rx, ok_now e1 h1 rfl⟩
theorem tt_not {a : E} {Q : Bool → Hp → Prop} (h : tT X T cl EX (.not a) σ H Q) : tNot (tT X T cl EX a) σ H Q := by
  obtain ⟨H0, ps, ows, δ, e, h⟩ := h
  refine ⟨H0, ps, ows, δ, e, ?_⟩
  unfold evb at h ⊢
  simp only [ev] at h
  cases h1 : ev T a δ with
  | ok r δ1 =>
    rw [h1] at h
    simp only [Out.bind] at h ⊢
    cases hb : asBl r with
    | none => rw [hb] at h; exact h
    | some b =>
      rw [hb] at h
      intro b' H' e' s' q
      cases q
      exact h (!b) H' e' s' rfl
  | ex c s => rw [h1] at h; exact h
  | no => rw [h1] at h; exact h
theorem tt_and {a b : E} {Q : Bool → Hp → Prop} (h : tT X T cl EX (.and a b) σ H Q) : tAnd (tT X T cl EX a) (tT X T cl EX b) σ H Q := by
  obtain ⟨H0, ps, ows, δ, e, h⟩ := h
  refine ⟨H0, ps, ows, δ, e, ?_⟩
  unfold evb at h ⊢
  simp only [ev] at h
  cases h1 : ev T a δ with
  | ok r δ1 =>
    rw [h1] at h
    simp only [Out.bind] at h ⊢
    cases hb : asBl r with
    | none => rw [hb] at h; exact h
    | some t =>
      rw [hb] at h
      intro t' H' e' s' q
      cases q
      cases t with
      | false => exact iteF (h false H' e' s' rfl)
      | true =>
        refine iteT ⟨H0, ps, ows, δ1, e', wpO.from s' ?_⟩
        unfold evb
        simp only [lift, Out.bind, if_true] at h
        cases h2 : ev T b δ1 with
        | ok r2 δ2 =>
          rw [h2] at h
          simp only [Out.bind] at h ⊢
          cases hb2 : asBl r2 with
          | none => rw [hb2] at h; exact h
          | some u => rw [hb2] at h; exact h
        | ex c s => rw [h2] at h; exact h
        | no => rw [h2] at h; exact h
  | ex c s => rw [h1] at h; exact h
  | no => rw [h1] at h; exact h
theorem tt_or {a b : E} {Q : Bool → Hp → Prop} (h : tT X T cl EX (.or a b) σ H Q) : tOr (tT X T cl EX a) (tT X T cl EX b) σ H Q := by
  obtain ⟨H0, ps, ows, δ, e, h⟩ := h
  refine ⟨H0, ps, ows, δ, e, ?_⟩
  unfold evb at h ⊢
  simp only [ev] at h
  cases h1 : ev T a δ with
  | ok r δ1 =>
    rw [h1] at h
    simp only [Out.bind] at h ⊢
    cases hb : asBl r with
    | none => rw [hb] at h; exact h
    | some t =>
      rw [hb] at h
      intro t' H' e' s' q
      cases q
      cases t with
      | true => exact iteT (h true H' e' s' rfl)
      | false =>
        refine iteF ⟨H0, ps, ows, δ1, e', wpO.from s' ?_⟩
        unfold evb
        simp only [lift, Out.bind, Bool.false_eq_true, if_false] at h
        cases h2 : ev T b δ1 with
        | ok r2 δ2 =>
          rw [h2] at h
          simp only [Out.bind] at h ⊢
          cases hb2 : asBl r2 with
          | none => rw [hb2] at h; exact h
          | some u => rw [hb2] at h; exact h
        | ex c s => rw [h2] at h; exact h
        | no => rw [h2] at h; exact h
  | ex c s => rw [h1] at h; exact h
  | no => rw [h1] at h; exact h
/-- the second part of and, or as a value: a truth -/
theorem te_last {b : E} {Q : VK} (h : wpO ⟨gr X H0 ps, ows, σ, cl, EX⟩ H ((ev T b δ).bind fun y δ => (lift (asBl y) δ).bind fun u δ => .ok (.d (.bl u)) δ) (RvR (gr X H0 ps) ows σ) Q) (e : EnvR (gr X H0 ps) ows σ H δ) : tE X T cl EX b σ H Q := by
  refine ⟨H0, ps, ows, δ, e, ?_⟩
  cases h2 : ev T b δ with
  | ok r2 δ2 =>
    rw [h2] at h
    simp only [Out.bind] at h
    cases hb2 : asBl r2 with
    | none => rw [hb2] at h; exact h.elim
    | some u => rw [hb2] at h; cases asBl_some hb2; exact h
  | ex c s => rw [h2] at h; exact h
  | no => rw [h2] at h; exact h
theorem te_and {a b : E} {Q : VK} (h : tE X T cl EX (.and a b) σ H Q) : tAndV (tE X T cl EX a) (tE X T cl EX b) σ H Q := by
  obtain ⟨H0, ps, ows, δ, e, h⟩ := h
  simp only [ev] at h
  refine ⟨H0, ps, ows, δ, e, (wpO.bind h).imp fun x H1 ⟨r1, δ1, _, e1, s1, rx, h1⟩ => ?_⟩
  obtain ⟨t, ht, h2⟩ := wpO.lift h1
  cases asBl_some ht
  simp only [RvR, Rep] at rx
  refine ⟨t, rx, ?_⟩
  cases t with
  | false => exact iteF (ok_now e1 h2 (by simp only [RvR, Rep]))
  | true => exact iteT (te_last h2 e1)
theorem te_or {a b : E} {Q : VK} (h : tE X T cl EX (.or a b) σ H Q) : tOrV (tE X T cl EX a) (tE X T cl EX b) σ H Q := by
  obtain ⟨H0, ps, ows, δ, e, h⟩ := h
  simp only [ev] at h
  refine ⟨H0, ps, ows, δ, e, (wpO.bind h).imp fun x H1 ⟨r1, δ1, _, e1, s1, rx, h1⟩ => ?_⟩
  obtain ⟨t, ht, h2⟩ := wpO.lift h1
  cases asBl_some ht
  simp only [RvR, Rep] at rx
  refine ⟨t, rx, ?_⟩
  cases t with
  | true => exact iteT (ok_now e1 h2 (by simp only [RvR, Rep]))
  | false => exact iteF (te_last h2 e1)
theorem te_ifx {c a b : E} {Q : VK} (h : tE X T cl EX (.ifx c a b) σ H Q) : tIf (tT X T cl EX c) (tE X T cl EX a) (tE X T cl EX b) σ H Q := by
  obtain ⟨H0, ps, ows, δ, e, h⟩ := h
  refine ⟨H0, ps, ows, δ, e, ?_⟩
  unfold evb
  simp only [ev] at h
  cases h1 : ev T c δ with
  | ok r δ1 =>
    rw [h1] at h
    simp only [Out.bind] at h ⊢
    cases hb : asBl r with
    | none => rw [hb] at h; exact h
    | some t =>
      rw [hb] at h
      intro t' H' e' s' q
      cases q
      cases t with
      | true => exact iteT ⟨H0, ps, ows, δ1, e', wpO.from s' h⟩
      | false => exact iteF ⟨H0, ps, ows, δ1, e', wpO.from s' h⟩
  | ex c s => rw [h1] at h; exact h
  | no => rw [h1] at h; exact h
theorem te_idx {a b : E} {Q : VK} (h : tE X T cl EX (.idx a b) σ H Q) : tOp (rIxN X.prog X.w X.K) (tE X T cl EX a) (tE X T cl EX b) σ H Q := by
  obtain ⟨H0, ps, ows, δ, e, h⟩ := h
  simp only [ev] at h
  refine ⟨H0, ps, ows, δ, e, (wpO.bind h).imp fun x H1 ⟨r1, δ1, _, e1, s1, rx, h1⟩ => ⟨H0, ps, ows, δ1, e1, (wpO.bind h1).imp fun y H2 ⟨r2, δ2, _, e2, s2, ry, h2⟩ => ?_⟩⟩
  obtain ⟨z, hz, h3⟩ := wpO.lift h2
  have rx := RvR.mono s2 rx
  have f := fin_of e2 h3
  unfold idxR at hz
  split at hz
  · split at hz
    · rename_i kvs hi
      split at hz
      · rename_i hk
        obtain ⟨p, rfl, g2, g3, g4⟩ := dct_of e2 hi rx
        have ry : Rep X.K (hid ows H2) _ y := ry
        obtain ⟨nk, b, k1, k2, rfl⟩ := G.key_of hk ry
        exact .inr ⟨p, hid ows H2, kvs, _, nk, b, z, rfl, hid_same _ _, g4, k1, k2, rfl, ry.mono (hid_same _ _), hz, fun u ru => f.same ru⟩
      · cases hz
    · rename_i xs hi
      exact .inl ⟨ows, .lst xs, _, z, e2.dom, repV_of e2 rx (by simp only [RV.val, hi]), .inl ry, hz, f⟩
    · cases hz
  · exact .inl ⟨ows, _, _, z, e2.dom, .inl rx, .inl ry, hz, f⟩
  · cases hz
end
end G
/-! G.Cnt: list.count of texts. -/
namespace G
open PySem L2 PySem.Spec PyProof.Rows SeqAt
def eqS (w : Str) (v : Value) : Bool := match v with
  | .str n _ => n == w
  | _ => false
theorem reps_strs {K : PySem.W.Frag} {H : Hp} : ∀ {ds : List D} {vs : List V} {ns : List Str}, Reps K H ds vs → strsD ds = some ns → vs = ns.map V.str
  | [], _, _, h, e => by simp only [Reps] at h; simp only [strsD, Option.some.injEq] at e; subst h; subst e; rfl
  | .str i :: ds, vs, ns, h, e => by
    simp only [Reps, Rep] at h
    obtain ⟨v, r, rfl, rfl, h2⟩ := h
    simp only [strsD, Option.map_eq_some_iff] at e
    obtain ⟨ms, e1, rfl⟩ := e
    rw [reps_strs h2 e1, List.map_cons]
  | .non :: _, _, _, _, e => by simp [strsD] at e
  | .bl _ :: _, _, _, _, e => by simp [strsD] at e
  | .int _ :: _, _, _, _, e => by simp [strsD] at e
  | .tup _ :: _, _, _, _, e => by simp [strsD] at e
  | .lst _ :: _, _, _, _, e => by simp [strsD] at e
  | .frz _ :: _, _, _, _, e => by simp [strsD] at e
theorem strs_count {w : Str} {A : Around} {s : Shared} {t : Tok} : ∀ {ns : List Str} {us : List Value}, Vals (ns.map V.str) us → us.countP (eqS w) = (ns.filter fun y => decide (y = w)).length ∧ ∀ y ∈ us, EqAt A s y (.str w t) (eqS w y)
  | [], _, .nil => ⟨rfl, fun y hy => by cases hy⟩
  | n :: ns, _, .cons r h => by
    obtain ⟨k, rfl⟩ := r
    obtain ⟨h1, h2⟩ := strs_count (w := w) (A := A) (s := s) (t := t) h
    refine ⟨?_, fun y hy => ?_⟩
    · rw [List.countP_cons, h1]
      show _ + (if (n == w) = true then 1 else 0) = (List.filter _ (n :: ns)).length
      rw [List.filter_cons]
      by_cases q : n = w
      · simp [q]
      · simp [q]
    · rcases List.mem_cons.mp hy with rfl | hy
      · exact EqAt.str_str n k w t
      · exact h2 y hy
/-- xs.count(w), texts -/
def rCntS (K : PySem.W.Frag) : V → List V → Hp → VK → Prop := fun x vs H Q => ∃ (p : Addr) (ns : List Str) (w : Str), x = .ref p ∧ vs = [.str w] ∧ SqL K H p (ns.map V.str) ∧ Q (.int (ns.filter fun y => decide (y = w)).length) H
theorem mt_cntS {X : Cx} : MtR X "list.count" (rCntS X.K) := by
  intro pins s σ H x xs v us Q I rx rxs h
  obtain ⟨p, ns, w, rfl, rfl, hs, q⟩ := h
  cases rx
  obtain ⟨u, rfl, ru⟩ := rxs.one
  obtain ⟨t, rfl⟩ := ru
  obtain ⟨its, rv, ⟨⟨cls, dd, data, sl⟩, n, ho, hc, hdn, hd⟩, hlen⟩ := I.list hs
  simp only at hc hd
  subst hc hd
  refine call_meets PySem.F.slot_list_count ⟨_, ho, rfl⟩ PySem.F.entry_list_count (PySem.F.args_list_count_2 _ _)
    (SeqAt.list_countAt p its.toArray n dd sl (.str w t) (eqS w)) ⟨ho, fun y hy => (strs_count rv).2 y (by simpa using hy), ?_⟩
  refine ⟨.int (ns.filter fun y => decide (y = w)).length, H, I.tok _, ⟨s.toks, ?_⟩, q⟩
  show Value.int ((its.toArray.toList.countP (eqS w) : Nat) : Int) s.toks = _
  rw [show its.toArray.toList = its from rfl, (strs_count (A := X.A) (s := s) (t := t) rv).1]
/-- what == tells of a value and data, by what stands there -/
noncomputable def eqR (h : Heap) (w : PyData) (v : Value) : Bool := by
  classical exact decide (∃ d as, Reads h v d as ∧ PyData.eqv d w = true)
theorem eqR_eq {h : Heap} {w d : PyData} {v : Value} {as : List Addr} (r : Reads h v d as) : eqR h w v = PyData.eqv d w := by
  unfold eqR
  rw [Bool.eq_iff_iff]
  simp only [decide_eq_true_eq]
  constructor
  · rintro ⟨d', as', r', q'⟩
    have := (Reads.unique r _ _ r').1
    rw [this]; exact q'
  · exact fun q => ⟨d, as, r, q⟩
/-- xs.count(t), t a tuple -/
def rCntD (K : PySem.W.Frag) : V → List V → Hp → VK → Prop := fun x vs H Q => ∃ (p : Addr) (ds : List D) (us : List V) (w : D) (v : V), x = .ref p ∧ vs = [v] ∧ SqL K H p us ∧ Reps K H ds us ∧ Rep K H w v ∧ ds.all (D.shp 60) = true ∧ w.shp 60 = true ∧ Q (.int (ds.filter fun y => D.eq y w).length) H
theorem cnt_all {X : Cx} {pins : List (Addr × Obj)} {s : Shared} {σ : L2.St} {H : Hp} (I : Inv X pins σ H s) (hu : X.A.in1.units + 64 < cLine) {w : D} {t : Value} {as : List Addr} (rw' : Reads s.heap t w.toPy as) (sw : w.shp 60 = true) : ∀ {ds : List D} {us : List V} {its : List Value}, Reps X.K H ds us → Vals us its → ds.all (D.shp 60) = true →
    its.countP (eqR s.heap w.toPy) = (ds.filter fun y => D.eq y w).length ∧ ∀ y ∈ its, EqAt X.A.in1 s y t (eqR s.heap w.toPy y)
  | [], _, _, h, r, _ => by simp only [Reps] at h; subst h; cases r; exact ⟨rfl, fun y hy => by cases hy⟩
  | d :: ds, _, _, h, r, hs => by
    simp only [Reps] at h
    obtain ⟨u, us, rfl, h1, h2⟩ := h
    cases r with
    | cons r1 r2 =>
      rename_i y ys
      rw [List.all_cons, Bool.and_eq_true] at hs
      obtain ⟨k1, k2⟩ := cnt_all I hu rw' sw h2 r2 hs.2
      obtain ⟨bs, rd⟩ := Dp.reads I _ u y (Rep.dp _ u h1) r1
      have e := eqR_eq (w := w.toPy) rd
      have e2 := eq_py d w 60 60 hs.1 sw
      refine ⟨?_, fun z hz => ?_⟩
      · rw [List.countP_cons, k1, e, e2, List.filter_cons]
        by_cases q : D.eq d w = true
        · simp [q]
        · simp [q]
      · rcases List.mem_cons.mp hz with rfl | hz
        · rw [e]
          exact eqAt_reads _ _ _ s z t bs as rd rw' (canLay_of_shaped (shaped_of hs.1)) (canLay_of_shaped (shaped_of sw)) (room_of_shaped (shaped_of hs.1) hu)
        · exact k2 z hz
theorem mt_cntD {X : Cx} (hu : X.A.in1.units + 64 < cLine) : MtR X "list.count" (rCntD X.K) := by
  intro pins s σ H x xs v us Q I rx rxs h
  obtain ⟨p, ds, us', w, v', rfl, rfl, hs, hr, hw, s1, s2, q⟩ := h
  cases rx
  obtain ⟨u, rfl, ru⟩ := rxs.one
  obtain ⟨as, rw'⟩ := Dp.reads I _ v' u (Rep.dp _ v' hw) ru
  obtain ⟨its, rv, ⟨⟨cls, dd, data, sl⟩, n, ho, hc, hdn, hd⟩, hlen⟩ := I.list hs
  simp only at hc hd
  subst hc hd
  obtain ⟨k1, k2⟩ := cnt_all I hu rw' s2 hr rv s1
  refine call_meets PySem.F.slot_list_count ⟨_, ho, rfl⟩ PySem.F.entry_list_count (PySem.F.args_list_count_2 _ _)
    (SeqAt.list_countAt p its.toArray n dd sl u (eqR s.heap w.toPy)) ⟨ho, fun y hy => k2 y (by simpa using hy), ?_⟩
  refine ⟨.int (ds.filter fun y => D.eq y w).length, H, I.tok _, ⟨s.toks, ?_⟩, q⟩
  show Value.int ((its.toArray.toList.countP (eqR s.heap w.toPy) : Nat) : Int) s.toks = _
  rw [show its.toArray.toList = its from rfl, k1]
def rCnt (K : PySem.W.Frag) : V → List V → Hp → VK → Prop := fun x vs H Q => rCntS K x vs H Q ∨ rCntD K x vs H Q
theorem mt_cnt {X : Cx} (hu : X.A.in1.units + 64 < cLine) : MtR X "list.count" (rCnt X.K) := fun pins s σ H x xs v us Q I rx rxs h => h.elim (mt_cntS pins s σ H x xs v us Q I rx rxs) (mt_cntD hu pins s σ H x xs v us Q I rx rxs)
theorem te_mth {X : Cx} {T : List Fn} {cl : Str → Option Addr} {EX : XK} {σ : L2.St} {H : Hp} {o es : G.E} {Q : VK} (h : tE X T cl EX (.mth .count o es) σ H Q) : tBM X.K "list" (rCnt X.K) (tE X T cl EX o) (tEs X T cl EX es) σ H Q := by
  obtain ⟨H0, ps, ows, δ, e, h⟩ := h
  simp only [ev] at h
  refine ⟨H0, ps, ows, δ, e, (wpO.bind h).imp fun x H1 ⟨r1, δ1, _, e1, s1, rx, h1⟩ => ?_⟩
  split at h1
  · rename_i hl
    unfold isLR at hl
    split at hl
    · rename_i ys hy
      obtain ⟨p, us, rfl, k1, k2⟩ := (repV_of e1 rx hy).lst
      refine ⟨.inl ⟨rfl, us, SqL.of k1⟩, H0, ps, ows, δ1, e1, (wpO.bind h1).imp fun vs H2 ⟨rs, δ2, _, e2, s2, ry, h2⟩ => ?_⟩
      obtain ⟨z, hz, h3⟩ := wpO.lift h2
      have f := fin_of e2 h3
      unfold mthR at hz
      split at hz
      · rename_i d ds q1 q2
        unfold mthv at hz
        split at hz <;> first | contradiction | skip
        rotate_left
        · split at hz <;> cases hz
          rename_i hsh
          rw [Bool.and_eq_true] at hsh
          obtain ⟨p', us', ep, m1, m2⟩ := (repV_of e2 (RvR.mono s2 rx) q1).lst
          cases ep
          obtain ⟨v, rfl, rv⟩ := (repVs_of e2 ry q2).one
          exact .inr ⟨p, _, us', _, v, rfl, rfl, SqL.of m1, Reps.mono (hid_same _ _) _ _ m2, rv.full, hsh.1, hsh.2, f.int⟩
        obtain ⟨ns, g1, rfl⟩ := Option.map_eq_some_iff.mp hz
        obtain ⟨p', us', ep, m1, m2⟩ := (repV_of e2 (RvR.mono s2 rx) q1).lst
        cases ep
        obtain ⟨v, rfl, rv⟩ := (repVs_of e2 ry q2).one
        refine .inl ⟨p, ns, _, rfl, by rw [rv.str], ?_, f.int⟩
        rw [← reps_strs m2 g1]
        exact SqL.of m1
      · cases hz
    · cases hl
  · exact h1.elim
end G
/-! G.Snd2: readings, further: slices, built-ins, calls, loops' sources. -/
namespace G
open PySem L2
section
variable {X : Cx} {T : List Fn} {cl : Str → Option Addr} {EX : XK} {H0 : Hp} {ps : Ps} {ows : List Addr} {σ : St} {H : Hp} {δ : Env}
def tO (X : Cx) (T : List Fn) (cl : Str → Option Addr) (EX : XK) (e : E) : TO := if nonE e = true then tNoPart else tPart (tE X T cl EX e)
theorem nonE_eq {e : E} (h : nonE e = true) : e = .lit .non := by
  unfold nonE at h
  split at h
  · rfl
  · cases h
theorem to_part {γ ε : Type} {e : E} {f : Option Int → Env → Out Env γ} {R : Hp → γ → ε → Prop} {Q : ε → Hp → Prop} (er : EnvR (gr X H0 ps) ows σ H δ)
    (h : wpO ⟨gr X H0 ps, ows, σ, cl, EX⟩ H ((ev T e δ).bind fun l δ => (lift (asBnd (nonE e) l) δ).bind f) R Q) :
    tO X T cl EX e σ H fun o H1 => ∃ δ1, EnvR (gr X H0 ps) ows σ H1 δ1 ∧ Same (hid ows H) (hid ows H1) ∧ wpO ⟨gr X H0 ps, ows, σ, cl, EX⟩ H1 (f o δ1) R Q := by
  unfold tO
  by_cases q : nonE e = true
  · rw [if_pos q]
    cases nonE_eq q
    exact ⟨δ, er, Same.refl _, h⟩
  · rw [if_neg q]
    refine ⟨H0, ps, ows, δ, er, (wpO.bind h).imp fun x H1 ⟨r1, δ1, _, e1, s1, rx, h1⟩ => ?_⟩
    obtain ⟨o, ho, h2⟩ := wpO.lift h1
    have q' : nonE e = false := by simpa using q
    rw [q'] at ho
    unfold asBnd at ho
    split at ho
    · contradiction
    · cases ho
      simp only [RvR, Rep] at rx
      exact ⟨_, rx, δ1, e1, s1, h2⟩
    · cases ho
theorem te_sl {a lo hi : E} {Q : VK} (h : tE X T cl EX (.sl a lo hi) σ H Q) : tSl (rSlD X.K) (tE X T cl EX a) (tO X T cl EX lo) (tO X T cl EX hi) σ H Q := by
  obtain ⟨H0, ps, ows, δ, e, h⟩ := h
  simp only [ev] at h
  refine ⟨H0, ps, ows, δ, e, (wpO.bind h).imp fun x H1 ⟨r1, δ1, _, e1, s1, rx, h1⟩ => ?_⟩
  have imp : ∀ {e : E} {σ : St} {H : Hp} {P P' : Option Int → Hp → Prop}, tO X T cl EX e σ H P → (∀ o H', P o H' → P' o H') → tO X T cl EX e σ H P' := fun {e σ H P P'} t k => by
    unfold tO at t ⊢
    split at t
    · rename_i q; rw [if_pos q]; exact k _ _ t
    · rename_i q
      rw [if_neg q]
      obtain ⟨H0, ps, ows, δ, e, h⟩ := t
      exact ⟨H0, ps, ows, δ, e, h.imp fun x H' ⟨i, e1, e2⟩ => ⟨i, e1, k _ _ e2⟩⟩
  refine imp (to_part e1 h1) fun l H2 ⟨δ2, e2, s2, h2⟩ => imp (to_part e2 h2) fun u H3 ⟨δ3, e3, s3, h3⟩ => ?_
  obtain ⟨z, hz, h4⟩ := wpO.lift h3
  unfold slR at hz
  split at hz
  · rename_i q1
    exact ⟨ows, _, z, e3.dom, repV_of e3 (RvR.mono (s2.trans s3) rx) q1, hz, fin_of e3 h4⟩
  · cases hz
theorem te_blt {b : Blt} {es : E} {Q : VK} (h : tE X T cl EX (.blt b es) σ H Q) : tCB (rCD X.K (bltv b)) (tEs X T cl EX es) σ H Q := by
  obtain ⟨H0, ps, ows, δ, e, h⟩ := h
  simp only [ev] at h
  refine ⟨H0, ps, ows, δ, e, (wpO.bind h).imp fun vs H1 ⟨rs, δ1, _, e1, s1, rx, h1⟩ => ?_⟩
  obtain ⟨z, hz, h2⟩ := wpO.lift h1
  unfold bltR at hz
  split at hz
  · rename_i q1
    exact ⟨ows, _, z, e1.dom, repVs_of e1 rx q1, hz, fin_of e1 h2⟩
  · cases hz
/-- isinstance(x, T): the class is a name -/
theorem te_is {b : Blt} {t : String} {a : E} {Q : VK} (h : tE X T cl EX (.blt b (.cons a .nil)) σ H Q) : tCB (rIsD X.K b t) (tCons (tE X T cl EX a) (tCons (tC (.ty t)) tNil)) σ H Q := by
  obtain ⟨H0, ps, ows, δ, e, h⟩ := h
  simp only [ev, evs] at h
  refine ⟨H0, ps, ows, δ, e, ?_⟩
  cases h1 : ev T a δ with
  | ok r δ1 =>
    rw [h1] at h
    simp only [Out.bind] at h
    intro v H1 e1 s1 rx
    obtain ⟨z, hz, h2⟩ := wpO.lift h
    unfold bltR at hz
    split at hz
    · rename_i ds q1
      have h2 := wpO.from s1 h2
      have rr : RvRs (gr X H0 ps) ows σ H1 [r] [v] := ⟨v, [], rfl, rx, rfl⟩
      have rv := repVs_of e1 rr q1
      cases ds with
      | nil => cases rv
      | cons d ds =>
        obtain ⟨v', r', g1, g2, g3⟩ := rv
        cases g1
        cases ds with
        | nil => exact ⟨ows, d, v, z, e1.dom, rfl, g2, hz, fin_of e1 h2⟩
        | cons d2 ds => obtain ⟨_, _, g4, _⟩ := g3; cases g4
    · cases hz
  | ex c s => rw [h1] at h; exact h
  | no => rw [h1] at h; exact h
/-! ### calls -/
/-- what is wanted behind a call -/
def wpC (W : Wi) (H : Hp) (o : Out Env Rt) (Q : VK) : Prop := match o with
  | .ok (.d x) δ => ∀ v H', EnvR W.g W.ows W.σ H' δ → Same (hid W.ows H) (hid W.ows H') → Rep W.g.K (hid W.ows H') x v → Q v H'
  | .ok (.fr o) δ => ∀ p H', EnvR W.g (p :: W.ows) W.σ H' δ → (∀ (i : Nat) (b : Bool) (o : Ob) (a : Addr), δ[i]? = some (Sl.ow b o) → W.σ[i]? = some (some (.ref a)) → a ∈ W.ows) → Same (hid W.ows H) (hid (p :: W.ows) H') → p ∉ W.ows → W.g.H0 p = none → OwnOk W.g.P W.g.w W.g.K (hid (p :: W.ows) H') p (H' p) o → Q (.ref p) H'
  | .ex c δ => ∀ H' cv d, EnvR W.g W.ows W.σ H' δ → Same (hid W.ows H) (hid W.ows H') → ExR W.cl c H' cv d → W.EX cv d H'
  | .no => False
theorem wpC.from {W : Wi} {H H1 : Hp} {o : Out Env Rt} {Q : VK} (e : Same (hid W.ows H) (hid W.ows H1)) (h : wpC W H o Q) : wpC W H1 o Q := by
  cases o with
  | ok r δ =>
    cases r with
    | d x => exact fun v H' er sm rr => h v H' er (e.trans sm) rr
    | fr o => exact fun p H' er ho sm n z k => h p H' er ho (e.trans sm) n z k
  | ex c δ => exact fun H' cv d er sm x => h H' cv d er (e.trans sm) x
  | no => exact h
theorem wpC.bind {α β : Type} {W : Wi} {H : Hp} {o : Out Env α} {f : α → Env → Out Env Rt} {R : Hp → α → β → Prop} {Q : VK} (h : wpC W H (o.bind f) Q) :
    wpO W H o R fun b H1 => ∃ r δ1, o = .ok r δ1 ∧ EnvR W.g W.ows W.σ H1 δ1 ∧ Same (hid W.ows H) (hid W.ows H1) ∧ R H1 r b ∧ wpC W H1 (f r δ1) Q := by
  cases o with
  | ok r δ => exact fun b H' er sm rr => ⟨r, δ, rfl, er, sm, rr, wpC.from (o := f r δ) sm h⟩
  | ex c δ => exact h
  | no => exact h
theorem back_own : ∀ (rs : List RV) (os : List Sl) (δ : Env) (i : Nat) (b : Bool) (o : Ob), (back δ rs os)[i]? = some (Sl.ow b o) → ∃ b' o', δ[i]? = some (Sl.ow b' o')
  | [], os, δ, i, b, o, h => ⟨b, o, by cases os <;> exact h⟩
  | .d _ :: rs, [], δ, i, b, o, h => ⟨b, o, h⟩
  | .d _ :: rs, s :: os, δ, i, b, o, h => back_own rs os δ i b o (by cases s <;> exact h)
  | .own j :: rs, [], δ, i, b, o, h => ⟨b, o, h⟩
  | .own j :: rs, .no :: os, δ, i, b, o, h => back_own rs os δ i b o h
  | .own j :: rs, .ro _ :: os, δ, i, b, o, h => back_own rs os δ i b o h
  | .own j :: rs, .ow q u :: os, δ, i, b, o, h => by
    unfold back at h
    split at h
    · rename_i p o0 hj
      obtain ⟨b', o', h'⟩ := back_own rs os _ i b o h
      by_cases z : j = i
      · subst z
        exact ⟨p, o0, hj⟩
      · rw [List.getElem?_set_ne z] at h'
        exact ⟨b', o', h'⟩
    · exact back_own rs os δ i b o h
/-- the reading of a call: whatever it hands back -/
def tC0 (X : Cx) (T : List Fn) (cl : Str → Option Addr) (EX : XK) (k : Nat) (es : E) : TE := fun σ H Q => ∃ H0 ps ows δ, EnvR (gr X H0 ps) ows σ H δ ∧
  wpC ⟨gr X H0 ps, ows, σ, cl, EX⟩ H ((evs T es δ).bind fun rs δ => callR T k rs δ) Q
theorem EnvR.unhide {g : Gr} {p : Addr} (e : EnvR g (p :: ows) σ H δ) (hs : ∀ (i : Nat) (b : Bool) (o : Ob) (a : Addr), δ[i]? = some (.ow b o) → σ[i]? = some (some (.ref a)) → a ∈ ows) (hp : ∀ a ∈ g.ps, a ∈ ows) : EnvR g ows σ H δ := by
  refine ⟨e.len, e.base, hp, fun a ha => e.dom a (List.mem_cons_of_mem _ ha), fun i s q => ?_, e.inj, e.par, fun P hP t ht => (e.tab P hP t ht).mono rfl hid_cons, e.need⟩
  have := e.slot i s q
  cases s with
  | no => trivial
  | ro d =>
    obtain ⟨x, h1, h2⟩ := this
    exact ⟨x, h1, h2.mono hid_cons⟩
  | ow b o =>
    obtain ⟨a, h1, h2, h3, h4⟩ := this
    exact ⟨a, h1, hs i b o a q h1, h3, h4.mono hid_cons⟩
theorem te_call0 {k : Nat} {es : E} {x : Str} {f : Fn} {n : Nat} {Q : VK} (hf : T[k]? = some f) (hn : lenE es = n) (h : tC0 X T cl EX k es σ H Q) : tCall (spD X.prog X.w X.K cl n f) [] EX (tEs X T cl EX es) σ H Q := by
  obtain ⟨H0, ps, ows, δ, e, h⟩ := h
  refine ⟨H0, ps, ows, δ, e, (wpC.bind h).imp fun vs H1 ⟨rs, δ1, q1, e1, s1, rx, h1⟩ => ?_⟩
  rw [List.append_nil]
  unfold callR at h1
  rw [hf] at h1
  split at h1
  · rename_i f' as hf' ha
    cases hf'
    split at h1
    · rename_i nd
      refine ⟨ows, as, by rw [rvrs_len rx, evs_len q1]; exact hn, e1.dom, args_ok e1 ha rx nd, ?_⟩
      split at h1
      · rename_i r os hr
        split at h1
        · rename_i ok
          rw [hr]
          cases r with
          | d x =>
            intro v H' A rv
            obtain ⟨b1, b2⟩ := back_ok e1 ha rx nd ok A (fun _ h => h) (fun _ h => .inl h)
            exact h1 v H' b1 b2 rv
          | fr o =>
            intro p H' n A oo
            obtain ⟨z1, z2⟩ := e1.fresh n
            obtain ⟨b1, b2⟩ := back_ok e1 ha rx nd ok A (fun _ h => List.mem_cons_of_mem _ h) (fun a h => by
              rcases List.mem_cons.mp h with rfl | h
              · exact .inr ⟨n, oo.some⟩
              · exact .inl h)
            refine h1 p H' b1 (fun i b o a hi hs => ?_) b2 z2 z1 oo
            obtain ⟨b', o', h'⟩ := back_own rs os δ1 i b o hi
            obtain ⟨a', g1, g2, _⟩ := e1.slot i _ h'
            rw [hs] at g1
            cases g1
            exact g2
        · exact h1.elim
      · rename_i c os hr
        split at h1
        · rename_i ok
          rw [hr]
          intro H' cv d A xr
          obtain ⟨b1, b2⟩ := back_ok e1 ha rx nd ok A (fun _ h => h) (fun _ h => .inl h)
          exact h1 H' cv d b1 b2 xr
        · exact h1.elim
      · exact h1.elim
    · exact h1.elim
  · exact h1.elim
theorem te_call {k : Nat} {es : E} {Q : VK} (h : tE X T cl EX (.call k es) σ H Q) : tC0 X T cl EX k es σ H Q := by
  obtain ⟨H0, ps, ows, δ, e, h⟩ := h
  refine ⟨H0, ps, ows, δ, e, ?_⟩
  simp only [ev] at h
  cases h1 : evs T es δ with
  | ok rs δ1 =>
    rw [h1] at h
    simp only [Out.bind] at h ⊢
    cases h2 : callR T k rs δ1 with
    | ok r δ2 =>
      rw [h2] at h
      simp only [Out.bind] at h
      cases r with
      | d x => exact fun v H' er sm rv => h v H' er sm rv
      | fr o =>
        cases o with
        | lst xs =>
          intro p H' er ho sm n z oo
          obtain ⟨vs, g1, g2⟩ := oo
          have un := er.unhide ho (fun a ha => e.psub a ha)
          refine h (.ref p) H' un (fun a o q => hid_cons a o (sm a o q)) ?_
          simp only [RvR, Rep]
          exact ⟨p, vs, rfl, hid_of g1 n, Reps.mono hid_cons _ _ g2⟩
        | dct kvs => exact h.elim
    | ex c s => rw [h2] at h; exact h
    | no => rw [h2] at h; exact h
  | ex c s => rw [h1] at h; exact h
  | no => rw [h1] at h; exact h
end
end G
/-! G.Txs: methods of texts, list.index, None in a list, reading written dicts: readings and rules. -/
namespace G
open PySem PySem.Spec PyProof.Rows L2
def rM1 (K : PySem.W.Frag) (o : M1) : V → List V → Hp → VK → Prop := fun x vs H Q => ∃ y ows a b z, vs = [y] ∧ G.Dom ows H ∧ RepV K ows H a x ∧ RepV K ows H b y ∧ m1v o a b = some z ∧ Fin K ows H z Q
theorem strs_reps {K : PySem.W.Frag} {H : Hp} : ∀ ys : List Str, Reps K H (ys.map .str) (ys.map V.str)
  | [] => Reps.nil
  | y :: ys => Reps.cons (by simp only [Rep]) (strs_reps ys)
section
variable {X : Cx}
theorem mt_spl : MtR X "str.split" (rM1 X.K .spl) := by
  intro pins s σ H x xs v us Q I rx rxs h
  obtain ⟨y, ows, a, b, z, rfl, hd, ha, hb, e, f⟩ := h
  unfold m1v at e
  split at e <;> first | contradiction | skip
  split at e <;> cases e
  rename_i s1 s2 m
  rw [ha.str] at rx
  rw [hb.str] at rxs
  refine mt_split pins s σ H _ _ v us Q I rx rxs ⟨_, _, rfl, rfl, m.1, ?_, fun p n => f.lst hd (strs_reps _) p n⟩
  have := m.2
  rw [sizeLine_eq]
  unfold big at this
  omega
theorem mt_joi : MtR X "str.join" (rM1 X.K .joi) := by
  intro pins s σ H x xs v us Q I rx rxs h
  obtain ⟨y, ows, a, b, z, rfl, hd, ha, hb, e, f⟩ := h
  unfold m1v at e
  split at e <;> first | contradiction | skip
  obtain ⟨ys, e1, e2⟩ := Option.bind_eq_some_iff.mp e
  split at e2 <;> cases e2
  rename_i m
  rw [ha.str] at rx
  obtain ⟨p, us', rfl, h1, h2⟩ := hb.lst
  rw [reps_strs h2 e1] at h1
  exact mt_join pins s σ H _ _ v us Q I rx rxs ⟨_, p, ys, rfl, rfl, .inl (SqL.of h1), by omega, f.str⟩
theorem strIx_at {w : Str} : ∀ (ys : List Str) (i j : Nat), strIx w ys i = some j → i ≤ j ∧ ys[j - i]? = some w ∧ ∀ m z, i + m < j → ys[m]? = some z → z ≠ w
  | [], i, j, h => by simp [strIx] at h
  | y :: ys, i, j, h => by
    unfold strIx at h
    split at h
    · rename_i e
      cases h
      exact ⟨Nat.le_refl _, by simp [e], fun m z hm => absurd hm (by omega)⟩
    · rename_i e
      obtain ⟨h1, h2, h3⟩ := strIx_at ys (i + 1) j h
      refine ⟨by omega, ?_, fun m z hm hz => ?_⟩
      · rw [show j - i = (j - (i + 1)) + 1 by omega, List.getElem?_cons_succ]; exact h2
      · cases m with
        | zero => simp at hz; rw [← hz]; exact e
        | succ m => exact h3 m z (by omega) (by simpa using hz)
theorem mt_lix : MtR X "list.index" (rM1 X.K .lix) := by
  intro pins s σ H x xs v us Q I rx rxs h
  obtain ⟨y, ows, a, b, z, rfl, hd, ha, hb, e, f⟩ := h
  unfold m1v at e
  split at e <;> first | contradiction | skip
  obtain ⟨ys, e1, e2⟩ := Option.bind_eq_some_iff.mp e
  obtain ⟨j, e3, rfl⟩ := Option.map_eq_some_iff.mp e2
  obtain ⟨p, us', rfl, h1, h2⟩ := ha.lst
  rw [reps_strs h2 e1] at h1
  have hw : ∃ w, strIx w ys 0 = some j ∧ y = V.str w := ⟨_, e3, hb.str⟩
  obtain ⟨w, e3, hy⟩ := hw
  rw [hy] at rxs
  obtain ⟨_, k2, k3⟩ := strIx_at ys 0 j e3
  rw [Nat.sub_zero] at k2
  refine mt_index pins s σ H _ _ v us Q I rx rxs ⟨p, ys.map V.str, .str w, j, .str w, rfl, rfl, SqL.of h1, rfl, by simp [List.all_map, flatV], by rw [List.getElem?_map, k2]; rfl, by simp [eqV], fun m z' hm hz => ?_, f.int⟩
  rw [List.getElem?_map] at hz
  cases hq : ys[m]? with
  | none => rw [hq] at hz; cases hz
  | some u =>
    rw [hq] at hz
    cases hz
    have := k3 m u (by omega) hq
    show (u == w) = false
    simpa using this
end
/-! ### None in a list -/
theorem eq_non (d : D) : D.eq d .non = d.isNon := by cases d <;> simp [D.eq, D.isNon]
theorem any_all {X : Cx} {pins : List (Addr × Obj)} {s : Shared} {σ : L2.St} {H : Hp} (I : Inv X pins σ H s) : ∀ {ds : List D} {us : List V} {its : List Value}, Reps X.K H ds us → Vals us its → ds.all (D.shp 60) = true → its.any (eqR s.heap .none) = ds.any D.isNon
  | [], _, _, h, r, _ => by simp only [Reps] at h; subst h; cases r; rfl
  | d :: ds, _, _, h, r, hs => by
    simp only [Reps] at h
    obtain ⟨u, us, rfl, h1, h2⟩ := h
    cases r with
    | cons r1 r2 =>
      rename_i y ys
      rw [List.all_cons, Bool.and_eq_true] at hs
      obtain ⟨bs, rd⟩ := Dp.reads I _ u y (Rep.dp _ u h1) r1
      have e := eqR_eq (w := .none) rd
      have e2 := eq_py d .non 60 60 hs.1 (by rfl)
      rw [List.any_cons, List.any_cons, any_all I h2 r2 hs.2, e, show PyData.none = D.toPy .non from rfl, e2, eq_non]
def rNin (K : PySem.W.Frag) : R2 := fun x y H Q => ∃ ows ds, x = .non ∧ G.Dom ows H ∧ RepV K ows H (.lst ds) y ∧ ds.all (D.shp 60) = true ∧ Q (.bl (ds.any D.isNon)) H
theorem op_nin {X : Cx} (hu : X.A.in1.units + 64 < cLine) : OpR X (compareOp .In) (rNin X.K) := by
  intro pins s σ H x y v u Q I rx ry h
  obtain ⟨ows, ds, rfl, hd, hb, hs, q⟩ := h
  obtain ⟨p, us, rfl, h1, h2⟩ := hb.lst
  cases ry
  have ev : v = Value.none := rx
  subst ev
  obtain ⟨its, r, pl, hz⟩ := I.list (SqL.of h1)
  have h3 := Reps.mono (hid_same _ _) _ _ h2
  obtain ⟨k1, k2⟩ := cnt_all I hu (w := .non) (t := .none) (as := []) Reads.none (by rfl) h3 r hs
  refine SeqAt.in_listAt (eqR s.heap .none) pl.isList (fun w hw => k2 w (by simpa using hw)) ⟨.bl _, H, I, rfl, ?_⟩
  rw [show its.toArray.any (eqR s.heap .none) = its.any (eqR s.heap .none) by simp, any_all I h3 r hs]
  exact q
section
variable {X : Cx} {T : List Fn} {cl : Str → Option Addr} {EX : XK} {σ : L2.St} {H : Hp}
theorem te_m1s {o : M1} {a b : G.E} {Q : VK} (ho : o ≠ .lix) (h : tE X T cl EX (.m1 o a b) σ H Q) : tM1 (rM1 X.K o) (tE X T cl EX a) (tE X T cl EX b) σ H Q := by
  obtain ⟨H0, ps, ows, δ, e, h⟩ := h
  simp only [ev] at h
  refine ⟨H0, ps, ows, δ, e, (wpO.bind h).imp fun x H1 ⟨r1, δ1, _, e1, s1, rx, h1⟩ => ?_⟩
  split at h1
  · rename_i hok
    refine ⟨?_, H0, ps, ows, δ1, e1, (wpO.bind h1).imp fun y H2 ⟨r2, δ2, _, e2, s2, ry, h2⟩ => ?_⟩
    · unfold m1ok at hok
      split at hok
      · exact absurd rfl ho
      · have rx := (repV_of e1 rx (by rfl)).str
        exact ⟨_, rx⟩
      · cases hok
    · obtain ⟨z, hz, h3⟩ := wpO.lift h2
      unfold m1R at hz
      split at hz
      · rename_i q1 q2
        exact ⟨y, ows, _, _, z, rfl, e2.dom, repV_of e2 (RvR.mono s2 rx) q1, repV_of e2 ry q2, hz, fin_of e2 h3⟩
      · cases hz
  · exact h1.elim
theorem te_m1l {a b : G.E} {Q : VK} (h : tE X T cl EX (.m1 .lix a b) σ H Q) : tBM X.K "list" (rM1 X.K .lix) (tE X T cl EX a) (tCons (tE X T cl EX b) tNil) σ H Q := by
  obtain ⟨H0, ps, ows, δ, e, h⟩ := h
  simp only [ev] at h
  refine ⟨H0, ps, ows, δ, e, (wpO.bind h).imp fun x H1 ⟨r1, δ1, _, e1, s1, rx, h1⟩ => ?_⟩
  split at h1
  · rename_i hok
    have hl : isLR δ1 r1 = true := hok
    unfold isLR at hl
    split at hl
    · rename_i ys hy
      obtain ⟨p, us, rfl, k1, k2⟩ := (repV_of e1 rx hy).lst
      refine ⟨.inl ⟨rfl, us, SqL.of k1⟩, H0, ps, ows, δ1, e1, (wpO.bind h1).imp fun y H2 ⟨r2, δ2, _, e2, s2, ry, h2⟩ => ?_⟩
      obtain ⟨z, hz, h3⟩ := wpO.lift h2
      unfold m1R at hz
      split at hz
      · rename_i q1 q2
        exact ⟨y, ows, _, _, z, rfl, e2.dom, repV_of e2 (RvR.mono s2 rx) q1, repV_of e2 ry q2, hz, fin_of e2 h3⟩
      · cases hz
    · cases hl
  · exact h1.elim
theorem reps_rev {K : PySem.W.Frag} : ∀ {ds : List D} {vs : List V}, Reps K H ds vs → Reps K H ds.reverse vs.reverse
  | [], _, h => by simp only [Reps] at h; subst h; exact Reps.nil
  | d :: ds, _, h => by
    simp only [Reps] at h
    obtain ⟨v, r, rfl, h1, h2⟩ := h
    rw [List.reverse_cons, List.reverse_cons]
    exact Reps.append (reps_rev h2) (Reps.cons h1 Reps.nil)
theorem te_rev {a : G.E} {Q : VK} (h : tE X T cl EX (.rev a) σ H Q) : tRevL X.K (tE X T cl EX a) σ H Q := by
  obtain ⟨H0, ps, ows, δ, e, h⟩ := h
  simp only [ev] at h
  refine ⟨H0, ps, ows, δ, e, (wpO.bind h).imp fun x H1 ⟨r1, δ1, _, e1, s1, rx, h1⟩ => ?_⟩
  obtain ⟨z, hz, h2⟩ := wpO.lift h1
  unfold revR at hz
  split at hz <;> cases hz
  rename_i xs q1
  obtain ⟨p, us, rfl, k1, k2⟩ := (repV_of e1 rx q1).lst
  exact ⟨p, us, rfl, SqL.of k1, fun q n => (fin_of e1 h2).lst e1.dom (reps_rev k2) q n⟩
theorem te_nin {a : G.E} {Q : VK} (h : tE X T cl EX (.nin a) σ H Q) : tOp (rNin X.K) (tC .non) (tE X T cl EX a) σ H Q := by
  obtain ⟨H0, ps, ows, δ, e, h⟩ := h
  simp only [ev] at h
  refine ⟨H0, ps, ows, δ, e, (wpO.bind h).imp fun x H1 ⟨r1, δ1, _, e1, s1, rx, h1⟩ => ?_⟩
  obtain ⟨z, hz, h2⟩ := wpO.lift h1
  unfold ninR at hz
  split at hz <;> first | contradiction | skip
  split at hz <;> cases hz
  rename_i xs q1 m
  exact ⟨ows, xs, rfl, e1.dom, repV_of e1 rx q1, m, (fin_of e1 h2).bl⟩
/-! ### dicts that are written -/
/-- the module's dict {int: text, ..} -/
def DicR (K : PySem.W.Frag) (kvs : List (Int × Str)) (v : V) : Prop := ∃ (a : Addr) (es : Array DictEntry) (n : Nat), v = .ref a ∧ K.lookup a = some ⟨.type "dict", none, .dict es n, #[]⟩ ∧
  (∀ e ∈ es, ∃ k t, e.key = .int k t ∧ e.hash = hashInt k) ∧ ∀ i z, kvs.lookup i = some z → ∃ t, findBy (fun k v => Value.isInt k v) es i = some (.str z t)
def rGix (K : PySem.W.Frag) (kvs : List (Int × Str)) : R2 := fun x y H Q => ∃ i z, DicR K kvs x ∧ y = .int i ∧ kvs.lookup i = some z ∧ Q (.str z) H
theorem ix_dic {kvs : List (Int × Str)} : IxR X (rGix X.K kvs) := by
  intro value slice pins s σ H x y v u Q I rx ry h hs
  obtain ⟨i, z, ⟨a, es, n, rfl, hl, hk, hf⟩, rfl, e, q⟩ := h
  obtain rfl : v = Value.ref a := rx
  obtain ⟨t, rfl⟩ := ry
  obtain ⟨t2, e2⟩ := hf i z e
  have hm : s.heap.MapOf (intKind X.prog X.w) a (fun k => findBy (fun k v => Value.isInt k v) es k) := ⟨_, es, n, I.kIn _ _ hl, ⟨rfl, rfl, rfl⟩, rfl, fun e he => by
    obtain ⟨k, t, e1, e2⟩ := hk e he
    exact ⟨k, by rw [e1]; exact intKind_is X.prog X.w k t, e2⟩, fun _ => rfl⟩
  exact tail_any hm.typeIs slot_dict_getitem.lookup (wpAny_getItem_of (intKind_is X.prog X.w i t) hm e2 ⟨.str z, H, I.tok _, ⟨t2, rfl⟩, q⟩) hs
theorem te_gidx {nm : Str} {kvs : List (Int × Str)} {a : G.E} {v : V} {Q : VK} (hv : DicR X.K kvs v) (h : tE X T cl EX (.gidx nm kvs a) σ H Q) : tOp (rGix X.K kvs) (tC v) (tE X T cl EX a) σ H Q := by
  obtain ⟨H0, ps, ows, δ, e, h⟩ := h
  simp only [ev] at h
  refine ⟨H0, ps, ows, δ, e, (wpO.bind h).imp fun x H1 ⟨r1, δ1, _, e1, s1, rx, h1⟩ => ?_⟩
  obtain ⟨z, hz, h2⟩ := wpO.lift h1
  unfold gidxR at hz
  split at hz <;> first | contradiction | skip
  obtain ⟨w, e3, rfl⟩ := Option.map_eq_some_iff.mp hz
  have rx := (repV_of e1 rx (by rfl)).int
  exact ⟨_, w, hv, rx, e3, (fin_of e1 h2).str⟩
/-- the pairs of a written dict -/
def trs (kvs : List (Str × Int)) : List (TE × TE) := kvs.map fun p => (tC (.str p.1), tC (.int p.2))
def kvV (kvs : List (Str × Int)) : List (Key × V) := kvs.map fun p => (.inr p.1, .int p.2)
theorem pairs_now : ∀ (kvs : List (Str × Int)) {σ : L2.St} {H : Hp} {Q : List (V × V) → Hp → Prop}, Q ((kvV kvs).map fun kv => (kV kv.1, kv.2)) H → tPairs (trs kvs) σ H Q
  | [], _, _, _, h => h
  | p :: kvs, σ, H, Q, h => pairs_now kvs (Q := fun ps H3 => Q ((V.str p.1, V.int p.2) :: ps) H3) h
theorem merge_new : ∀ (more kvs : List (Key × V)), (∀ p ∈ more, (kvs.any fun kv => decide (kv.1 = p.1)) = false) → (more.map (·.1)).Nodup → mergeK kvs more = kvs ++ more
  | [], kvs, _, _ => by simp [mergeK]
  | p :: more, kvs, h, nd => by
    simp only [List.map_cons, List.nodup_cons] at nd
    have hp := h p List.mem_cons_self
    have e : putK kvs p.1 p.2 = kvs ++ [p] := by unfold putK; rw [hp]; simp
    show mergeK (putK kvs p.1 p.2) more = _
    rw [e, merge_new more (kvs ++ [p]) (fun q hq => ?_) nd.2, List.append_assoc]
    · rfl
    · rw [List.any_append, h q (List.mem_cons_of_mem _ hq)]
      simp only [List.any_cons, List.any_nil, Bool.or_false, Bool.false_or, decide_eq_false_iff_not]
      intro z
      exact nd.1 (z ▸ List.mem_map_of_mem hq)
theorem val_kv (z : Str) : ∀ kvs : List (Str × Int), (valV (kvV kvs) (.inr z)).getD .non = match kvs.lookup z with | some i => V.int i | none => .non
  | [] => rfl
  | (x, i) :: kvs => by
    unfold valV kvV
    rw [List.map_cons, List.find?_cons, List.lookup_cons]
    by_cases e : z = x
    · subst e; simp
    · have e1 : decide ((Sum.inr x : Key) = .inr z) = false := decide_eq_false fun q => e (Sum.inr.inj q).symm
      have e2 : (z == x) = false := beq_eq_false_iff_ne.2 e
      simp only [e1, e2]
      exact val_kv z kvs
theorem te_cget {kvs : List (Str × Int)} {a : G.E} {Q : VK} (nd : (kvs.map (·.1)).Nodup) (h15 : kvs.length ≤ 15) (h : tE X T cl EX (.cget kvs a) σ H Q) : tDGet1 (tDisp (trs kvs)) (tE X T cl EX a) σ H Q := by
  obtain ⟨H0, ps, ows, δ, e, h⟩ := h
  simp only [ev] at h
  intro p hp
  refine pairs_now kvs ⟨upd_same, kvV kvs, rfl, by simpa [kvV] using h15, ?_⟩
  have hm : mergeK [] (kvV kvs) = kvV kvs := by
    have := merge_new (kvV kvs) [] (fun _ _ => rfl) (by
      unfold kvV
      rw [List.map_map]
      have : ((fun x => x.1) ∘ fun p : Str × Int => ((Sum.inr p.1 : Key), V.int p.2)) = (fun x => (Sum.inr x : Key)) ∘ (·.1) := rfl
      rw [this, ← List.map_map]
      exact List.Pairwise.map _ (fun a b hab z => hab (Sum.inr.inj z)) nd)
    simpa using this
  rw [hm]
  have eu : upd (upd H p (.dK [])) p (.dK (kvV kvs)) = upd H p (.dK (kvV kvs)) := by
    funext b
    by_cases hb : b = p
    · rw [hb, upd_same, upd_same]
    · rw [upd_ne hb, upd_ne hb, upd_ne hb]
  rw [eu]
  have e0 : EnvR (gr X H0 ps) ows σ (upd H p (.dK (kvV kvs))) δ := e.new hp
  have np := (e.fresh hp).2
  refine ⟨p, rfl, .inl ⟨_, .inl upd_same⟩, H0, ps, ows, δ, e0, (wpO.bind (wpO.from (hid_new hp) h)).imp fun x H1 ⟨r1, δ1, _, e1, s1, rx, h1⟩ => ?_⟩
  obtain ⟨z, hz, h2⟩ := wpO.lift h1
  unfold cgetR at hz
  split at hz <;> first | contradiction | skip
  have rx := (repV_of e1 rx (by rfl)).str
  have hw : ∃ w, x = V.str w ∧ (match kvs.lookup w with | some i => some (D.int i) | none => some .non) = some z := ⟨_, rx, hz⟩
  clear hz
  obtain ⟨w, rx, hz⟩ := hw
  have k1 : H1 p = some (.dK (kvV kvs)) := hid_same _ _ _ _ (s1 _ _ (hid_of upd_same np))
  refine ⟨valV (kvV kvs) (.inr w), .inl ⟨_, .inr w, .inl k1, rx, rfl⟩, ?_⟩
  rw [val_kv w kvs]
  have f := fin_of e1 h2
  split at hz
  · rename_i i hi
    cases hz
    first | exact f.int | (rw [hi]; exact f.int)
  · rename_i hi
    cases hz
    first | exact f.same (by simp only [Rep]) | (rw [hi]; exact f.same (by simp only [Rep]))
end
/-- what a constant of the module is -/
def ConR (K : PySem.W.Frag) (d : D) (v : V) : Prop := match d with
  | .frz xs => ∃ kvs, kvsOf xs = some kvs ∧ DicR K kvs v
  | d => ∀ H, Rep K H d v
theorem ConR.rep {K : PySem.W.Frag} {d : D} {v : V} (h : ConR K d v) (n : notFrz d = true) : ∀ H, Rep K H d v := by
  cases d <;> first | exact h | cases n
theorem pps_kv {X : Cx} {pos : Pos} : ∀ {kvs : List (Str × Int)} {ks : List (Option Expr)} {vs : List Expr}, kvB kvs ks vs = true → PPs X pos ks vs (trs kvs) ∧ ks.all (·.isSome) = true ∧ ks.length = vs.length ∧ ks.length = kvs.length
  | [], [], [], _ => ⟨pps_nil, rfl, rfl, rfl⟩
  | (z, i) :: kvs, some (.Constant (.str a) _ _) :: ks, .Constant (.int b) _ _ :: vs, h => by
    simp only [kvB, Bool.and_eq_true, decide_eq_true_eq, beq_iff_eq] at h
    obtain ⟨⟨rfl, rfl⟩, h⟩ := h
    obtain ⟨h1, h2, h3, h4⟩ := pps_kv h
    exact ⟨pps_cons pe_str pe_int h1, by rw [List.all_cons, h2]; rfl, by rw [List.length_cons, List.length_cons, h3], by rw [List.length_cons, List.length_cons, h4]⟩
theorem stars_few {X : Cx} {y : Expr} {cpos : Pos} (h : headOk y = true) : ((backTo cpos (starEach [y] X.env)).all (fun x => !x.1) && (backToKw cpos (keywordEach [] X.env)).all (fun x => x.1.isSome)
    && decide (([y] : List Expr).length + ([] : List Keyword).length + (if ([] : List Keyword).isEmpty then 0 else 1) < 30)) = true := by
  rw [star_ok h]; rfl
end G
/-! G.Srt: sorted(set(list of ints)). -/
namespace G
open PySem L2
theorem te_srt {X : Cx} {T : List Fn} {cl : Str → Option Addr} {EX : XK} {σ : L2.St} {H : Hp} {es : E} {Q : VK} (h : tE X T cl EX (.srt es) σ H Q) : tCB (rSortedSet X.w) (tCons (tCB (rMkSet X.w X.K) (tEs X T cl EX es)) tNil) σ H Q := by
  obtain ⟨H0, ps, ows, δ, e, h⟩ := h
  simp only [ev] at h
  refine ⟨H0, ps, ows, δ, e, (wpO.bind h).imp fun vs H1 ⟨rs, δ1, _, e1, s1, rx, h1⟩ => ?_⟩
  obtain ⟨z, hz, h2⟩ := wpO.lift h1
  have f := fin_of e1 h2
  unfold bltR at hz
  split at hz
  · rename_i ds q1
    unfold bltv at hz
    split at hz <;> first | contradiction | skip
    obtain ⟨ns, g1, hz⟩ := Option.bind_eq_some_iff.mp hz
    split at hz <;> first | contradiction | skip
    cases hz
    rename_i few
    obtain ⟨v, rfl, rv⟩ := (repVs_of e1 rx q1).one
    obtain ⟨p, us, rfl, m1, m2⟩ := rv.lst
    have hlen := m2.length
    rw [reps_ints m2 g1] at m1 hlen
    rw [List.length_map] at hlen
    refine ⟨p, ns, rfl, SqL.of m1, by unfold scanBound; omega, fun a c hn hc => ?_⟩
    refine ⟨a, _, c, rfl, upd_same, by rw [hc]; omega, fun ns' p' u hm _ hp => ?_⟩
    have en : ns' = sortU ns := sortU_the u fun k => (hm k).trans (by simp)
    subst en
    have n1 : a ∉ _ := dom_new e1.dom hn
    have hpa : p' ≠ a := fun z => by rw [z, upd_same] at hp; cases hp
    refine f _ _ ⟨_, .inr ⟨a, _, hn, rfl⟩, .inr ⟨p', _, hp, rfl⟩⟩ ?_
    simp only [Rep]
    have hpH : H1 p' = none := by rwa [upd_ne hpa] at hp
    exact ⟨p', _, rfl, hid_of upd_same (dom_new e1.dom hpH), ints_reps _⟩
  · cases hz
end G
/-! G.Snd3: what loops walk; ranges as lists; comprehensions. -/
namespace G
open PySem L2
theorem reps_range {K : PySem.W.Frag} {H : Hp} (a : Int) (n : Nat) : Reps K H (rangeD a n) ((List.range n).map fun i => V.int (a + (i : Nat))) := by
  have h := ints_reps (K := K) (H := H) ((List.range n).map fun (i : Nat) => a + (i : Int))
  rw [List.map_map, List.map_map] at h
  exact h
theorem rangeD_len (a : Int) (n : Nat) : (rangeD a n).length = n := by unfold rangeD; rw [List.length_map, List.length_range]
theorem rangeD_get {a : Int} {n i : Nat} {d : D} (h : (rangeD a n)[i]? = some d) : i < n ∧ d = .int (a + (i : Nat)) := by
  unfold rangeD at h
  rw [List.getElem?_map, Option.map_eq_some_iff] at h
  obtain ⟨j, h1, rfl⟩ := h
  have hl := (List.getElem?_eq_some_iff.mp h1).1
  rw [List.length_range] at hl
  rw [List.getElem?_range hl] at h1
  cases h1
  exact ⟨hl, rfl⟩
theorem walks_rng {K : PySem.W.Frag} {ows : List Addr} {H0 : Hp} (a : Int) (n : Nat) : WalksD K ows H0 (rangeD a n) (Itr a n) := fun i H ows' sm hd => by
  rw [rangeD_len]
  refine ⟨fun h => ⟨h, fun v H1 ⟨e1, e2⟩ => ⟨.inl e1, fun d hdd => ?_⟩⟩, fun h => Nat.le_of_eq h.symm⟩
  obtain ⟨_, rfl⟩ := rangeD_get hdd
  subst e2
  simp only [Rep]
theorem walks_lst {K : PySem.W.Frag} {ows : List Addr} {H0 : Hp} {a : Addr} {xs : List D} (h : Rep K (hid ows H0) (.frz xs) (.ref a) ∨ Rep K (hid ows H0) (.lst xs) (.ref a)) : WalksD K ows H0 xs (Itl K a) := fun i H ows' sm hd => by
  obtain ⟨vs, h1, h2⟩ : ∃ vs, SqL K H a vs ∧ Reps K (hid ows' H) xs vs := by
    rcases h with h | h
    · obtain ⟨a', vs, e, h1, h2⟩ := RepV.frz (.inl (h.mono sm))
      cases e
      exact ⟨vs, h1, h2⟩
    · obtain ⟨a', vs, e, h1, h2⟩ := RepV.lst (.inl (h.mono sm))
      cases e
      exact ⟨vs, SqL.of h1, h2⟩
  refine ⟨fun hi => ?_, fun hi => ⟨vs, h1, by rw [h2.length]; omega⟩⟩
  have hi' : i < vs.length := by rw [h2.length]; exact hi
  refine ⟨⟨vs, vs[i], h1, List.getElem?_eq_getElem hi'⟩, fun v H1 ⟨e1, e2⟩ => ⟨.inl e1, fun d hdd => ?_⟩⟩
  subst e1
  obtain ⟨v', g1, g2⟩ := h2.get hdd
  have := e2 vs h1
  rw [g1] at this
  cases this
  exact g2
theorem walks_tup {K : PySem.W.Frag} {ows : List Addr} {H0 : Hp} {a : Addr} {xs : List D} (h : Rep K (hid ows H0) (.tup xs) (.ref a)) : WalksD K ows H0 xs (Itt K a) := fun i H ows' sm hd => by
  obtain ⟨_, a', vs, e, h1, h2⟩ := RepV.tup (.inl (h.mono sm))
  cases e
  refine ⟨fun hi => ?_, fun hi => ⟨vs, h1, by rw [h2.length]; omega⟩⟩
  have hi' : i < vs.length := by rw [h2.length]; exact hi
  refine ⟨⟨vs, vs[i], h1, List.getElem?_eq_getElem hi'⟩, fun v H1 ⟨e1, e2⟩ => ⟨.inl e1, fun d hdd => ?_⟩⟩
  subst e1
  obtain ⟨v', g1, g2⟩ := h2.get hdd
  have := e2 vs h1
  rw [g1] at this
  cases this
  exact g2
theorem enumD_len (xs : List D) : (enumD xs).length = xs.length := by simp [enumD]
theorem enumD_get {xs : List D} {i : Nat} {d : D} (h : (enumD xs)[i]? = some d) : ∃ x, xs[i]? = some x ∧ d = .tup [.int (i : Nat), x] := by
  unfold enumD at h
  rw [List.getElem?_zipWith] at h
  have hi : i < xs.length := by
    cases q : xs[i]? with
    | none =>
      rw [q] at h
      split at h <;> first | contradiction | (rename_i e; cases e)
    | some x => exact (List.getElem?_eq_some_iff.mp q).1
  rw [List.getElem?_range hi, List.getElem?_eq_getElem hi] at h
  cases h
  exact ⟨xs[i], List.getElem?_eq_getElem hi, rfl⟩
theorem enum_step {K : PySem.W.Frag} {ows' : List Addr} {H : Hp} {xs : List D} {vs : List V} {i : Nat} {T : Addr} {x : V} (hd : G.Dom ows' H) (n : H T = none) (h2 : Reps K (hid ows' H) xs vs) (hx : vs[i]? = some x) {d : D} (hdd : (enumD xs)[i]? = some d) : Rep K (hid ows' (upd H T (.tup [.int (i : Nat), x]))) d (.ref T) := by
  obtain ⟨y, g1, rfl⟩ := enumD_get hdd
  obtain ⟨v', g2, g3⟩ := h2.get g1
  rw [hx] at g2
  cases g2
  simp only [Rep]
  refine ⟨T, [.int (i : Nat), x], rfl, .inl (.inl (hid_of upd_same (dom_new hd n))), ?_⟩
  exact Reps.cons (by simp only [Rep]) (Reps.cons (g3.mono (hid_new n)) Reps.nil)
theorem walks_enumL {K : PySem.W.Frag} {ows : List Addr} {H0 : Hp} {a : Addr} {xs : List D} (h : Rep K (hid ows H0) (.lst xs) (.ref a)) : WalksD K ows H0 (enumD xs) (Ite K a) := fun i H ows' sm hd => by
  obtain ⟨a', vs, e, h1, h2⟩ := RepV.lst (.inl (h.mono sm))
  cases e
  rw [enumD_len]
  refine ⟨fun hi => ?_, fun hi => ⟨vs, SqL.of h1, by rw [h2.length]; omega⟩⟩
  have hi' : i < vs.length := by rw [h2.length]; exact hi
  refine ⟨⟨vs, vs[i], SqL.of h1, List.getElem?_eq_getElem hi'⟩, fun v H1 ⟨T, x, e1, n, e3, e4⟩ => ⟨.inr ⟨T, _, n, e3⟩, fun d hdd => ?_⟩⟩
  subst e1
  rw [e3]
  exact enum_step hd n h2 (e4 vs (SqL.of h1)) hdd
theorem walks_enumT {K : PySem.W.Frag} {ows : List Addr} {H0 : Hp} {a : Addr} {xs : List D} (h : Rep K (hid ows H0) (.tup xs) (.ref a)) : WalksD K ows H0 (enumD xs) (Iteu K a) := fun i H ows' sm hd => by
  obtain ⟨_, a', vs, e, h1, h2⟩ := RepV.tup (.inl (h.mono sm))
  cases e
  rw [enumD_len]
  refine ⟨fun hi => ?_, fun hi => ⟨vs, h1, by rw [h2.length]; omega⟩⟩
  have hi' : i < vs.length := by rw [h2.length]; exact hi
  refine ⟨⟨vs, vs[i], h1, List.getElem?_eq_getElem hi'⟩, fun v H1 ⟨T, x, e1, n, e3, e4⟩ => ⟨.inr ⟨T, _, n, e3⟩, fun d hdd => ?_⟩⟩
  subst e1
  rw [e3]
  exact enum_step hd n h2 (e4 vs h1) hdd

/-! ### sources -/
def iSeq (K : PySem.W.Frag) (tl : TE) : TI := fun σ H R => tl σ H fun x H1 => (∃ a, x = .ref a ∧ (∃ xs, SqL K H1 a xs) ∧ R (Itl K a) H1) ∨ (∃ a, x = .ref a ∧ (∃ xs, SqT K H1 a xs) ∧ R (Itt K a) H1)
theorem pi_seq {X : Cx} {tg l : Expr} {tl : TE} (hl : PE X l tl) : PI X tg l (iSeq X.K tl) := by
  refine ⟨fun pins s σ H R I h => thn (hl.run pins s σ H _ I h) fun v s1 ⟨x, H1, I1, r1, q1⟩ => ?_⟩
  have fp : ∀ b ∈ [s1.heap.objs.size], FpOk X pins H1 b := fun b hb => by
    cases (show b = s1.heap.objs.size by simpa using hb)
    exact I1.fpOk (Nat.le_refl _) (I1.hok.fresh (Nat.le_refl _))
  rcases q1 with ⟨a, e, ⟨xs, hq⟩, q⟩ | ⟨a, e, ⟨xs, hq⟩, q⟩ <;> (subst e; cases r1)
  · obtain ⟨its, rv, p, hz⟩ := I1.list hq
    exact wpAny_pyIter_list p.isList ⟨s1.heap.objs.size, [s1.heap.objs.size], _, _, H1, rfl, I1.kept (t' := s1.toks) fun b o e => Heap.get?_push_of_some _ e, turn_list a _, ⟨_, Heap.get?_push_size _ rfl, rfl, rfl⟩, fp, q⟩
  · obtain ⟨its, rv, p, hz⟩ := I1.tuple hq
    exact wpAny_pyIter_tuple (show s1.heap.IsTuple a its.toArray from p) ⟨s1.heap.objs.size, [s1.heap.objs.size], _, _, H1, rfl, I1.kept (t' := s1.toks) fun b o e => Heap.get?_push_of_some _ e, turn_tuple a _, ⟨_, Heap.get?_push_size _ rfl, rfl, rfl⟩, fp, q⟩
section
variable {X : Cx} {T : List Fn} {cl : Str → Option Addr} {EX : XK} {H0 : Hp} {ps : Ps} {ows : List Addr} {σ : St} {H : Hp} {δ : Env}
theorem wpO.now {α β : Type} {W : Wi} {o : Option α} {R : Hp → α → β → Prop} {Q : β → Hp → Prop} {H1 : Hp} {δ1 : Env} (h : wpO W H1 (G.lift o δ1) R Q) (e : EnvR W.g W.ows W.σ H1 δ1) : ∃ a, o = some a ∧ ∀ b, R H1 a b → Q b H1 := by
  cases o with
  | none => exact h.elim
  | some a => exact ⟨a, rfl, fun b r => h b H1 e (Same.refl _) r⟩
theorem ti_rng1 {a : E} {R : It → Hp → Prop} (h : tI X T cl EX (.rng1 a) σ H R) : iRng1 (tCons (tE X T cl EX a) tNil) σ H R := by
  obtain ⟨H0, ps, ows, δ, e, h⟩ := h
  simp only [evi] at h
  refine ⟨H0, ps, ows, δ, e, (wpO.bind h).imp fun x H1 ⟨r1, δ1, _, e1, s1, rx, h1⟩ => ?_⟩
  obtain ⟨xs, hx, q⟩ := h1.now e1
  unfold rg1R at hx
  split at hx
  · split at hx <;> cases hx
    rename_i b
    simp only [RvR, Rep] at rx
    subst rx
    exact ⟨_, rfl, by unfold big at b; omega, by unfold big at b; omega, q _ (walks_rng _ _)⟩
  · cases hx
theorem ti_rng2 {a b : E} {R : It → Hp → Prop} (h : tI X T cl EX (.rng2 a b) σ H R) : iRng2 (tCons (tE X T cl EX a) (tCons (tE X T cl EX b) tNil)) σ H R := by
  obtain ⟨H0, ps, ows, δ, e, h⟩ := h
  simp only [evi] at h
  refine ⟨H0, ps, ows, δ, e, (wpO.bind h).imp fun x H1 ⟨r1, δ1, _, e1, s1, rx, h1⟩ => ⟨H0, ps, ows, δ1, e1, (wpO.bind h1).imp fun y H2 ⟨r2, δ2, _, e2, s2, ry, h2⟩ => ?_⟩⟩
  obtain ⟨xs, hx, q⟩ := h2.now e2
  unfold rg2R at hx
  split at hx
  · split at hx <;> cases hx
    rename_i b
    simp only [RvR, Rep] at rx ry
    subst rx ry
    exact ⟨_, _, rfl, by unfold big at b; omega, q _ (walks_rng _ _)⟩
  · cases hx
theorem ti_itr {a : E} {R : It → Hp → Prop} (h : tI X T cl EX (.itr a) σ H R) : iSeq X.K (tE X T cl EX a) σ H R := by
  obtain ⟨H0, ps, ows, δ, e, h⟩ := h
  simp only [evi] at h
  refine ⟨H0, ps, ows, δ, e, (wpO.bind h).imp fun x H1 ⟨r1, δ1, _, e1, s1, rx, h1⟩ => ?_⟩
  obtain ⟨xs, hx, q⟩ := h1.now e1
  cases r1 with
  | own i => cases hx
  | d z =>
    have rx : Rep X.K (hid ows H1) z x := rx
    unfold itR itv at hx
    simp only at hx
    split at hx <;> cases hx
    · obtain ⟨_, a', vs, rfl, h1, h2⟩ := RepV.tup (.inl rx)
      exact .inr ⟨a', rfl, ⟨vs, h1⟩, q _ (walks_tup rx)⟩
    · obtain ⟨a', vs, rfl, h1, h2⟩ := RepV.lst (.inl rx)
      exact .inl ⟨a', rfl, ⟨vs, SqL.of h1⟩, q _ (walks_lst (.inr rx))⟩
    · obtain ⟨a', vs, rfl, h1, h2⟩ := RepV.frz (.inl rx)
      exact .inl ⟨a', rfl, ⟨vs, h1⟩, q _ (walks_lst (.inl rx))⟩
def iEnm (K : PySem.W.Frag) (ta : TA) : TI := fun σ H R => ta σ H fun vs H1 => ∃ a, vs = [.ref a] ∧ ((∃ xs, SqL K H1 a xs ∧ R (Ite K a) H1) ∨ (∃ xs, SqT K H1 a xs ∧ R (Iteu K a) H1))
theorem ti_enm {a : E} {R : It → Hp → Prop} (h : tI X T cl EX (.enm a) σ H R) : iEnm X.K (tCons (tE X T cl EX a) tNil) σ H R := by
  obtain ⟨H0, ps, ows, δ, e, h⟩ := h
  simp only [evi] at h
  refine ⟨H0, ps, ows, δ, e, (wpO.bind h).imp fun x H1 ⟨r1, δ1, _, e1, s1, rx, h1⟩ => ?_⟩
  obtain ⟨xs, hx, q⟩ := h1.now e1
  unfold enmR at hx
  split at hx
  · cases hx
    have rx : Rep X.K (hid ows H1) (.tup _) x := rx
    obtain ⟨_, a', vs, rfl, h1, h2⟩ := RepV.tup (.inl rx)
    exact ⟨a', rfl, .inr ⟨vs, h1, q _ (walks_enumT rx)⟩⟩
  · cases hx
    have rx : Rep X.K (hid ows H1) (.lst _) x := rx
    obtain ⟨a', vs, rfl, h1, h2⟩ := RepV.lst (.inl rx)
    exact ⟨a', rfl, .inl ⟨vs, SqL.of h1, q _ (walks_enumL rx)⟩⟩
  · cases hx
/-! ### list(range(..)), tuple(range(..)) -/
theorem rg_ok {a b : Int} (h1 : -(big : Int) ≤ a) (h2 : a ≤ big) (h3 : -(big : Int) ≤ b) (h4 : b ≤ big) : RgOk a b := by
  unfold RgOk
  unfold big at h1 h2 h3 h4
  omega
def tR (X : Cx) (T : List Fn) (cl : Str → Option Addr) (EX : XK) : E → St → Hp → (Int → Int → Hp → Prop) → Prop
  | .rng1 a => tRg1 (tE X T cl EX a)
  | .rng2 a b => tRg2 (tE X T cl EX a) (tE X T cl EX b)
  | _ => fun _ _ _ => False
theorem tr_of {it : E} {Q : Int → Int → Hp → Prop} (e : EnvR (gr X H0 ps) ows σ H δ)
    (h : wpO ⟨gr X H0 ps, ows, σ, cl, EX⟩ H (evi T it δ) (fun H' xs (p : Int × Int) => RgOk p.1 p.2 ∧ xs = rangeD p.1 (p.2 - p.1).toNat) (fun p H' => Q p.1 p.2 H')) (hr : ∀ a, it ≠ .itr a) (he : ∀ a, it ≠ .enm a) : tR X T cl EX it σ H Q := by
  cases it <;> simp only [evi] at h <;> first | exact h.elim | skip
  case rng1 a =>
    refine ⟨H0, ps, ows, δ, e, (wpO.bind h).imp fun x H1 ⟨r1, δ1, _, e1, s1, rx, h1⟩ => ?_⟩
    obtain ⟨xs, hx, q⟩ := h1.now e1
    unfold rg1R at hx
    split at hx
    · split at hx <;> cases hx
      rename_i b
      simp only [RvR, Rep] at rx
      exact ⟨_, rx, q (0, _) ⟨rg_ok (a := 0) (by decide) (by decide) b.1 b.2, by simp only [Int.sub_zero]⟩⟩
    · cases hx
  case rng2 a b =>
    refine ⟨H0, ps, ows, δ, e, (wpO.bind h).imp fun x H1 ⟨r1, δ1, _, e1, s1, rx, h1⟩ => ⟨H0, ps, ows, δ1, e1, (wpO.bind h1).imp fun y H2 ⟨r2, δ2, _, e2, s2, ry, h2⟩ => ?_⟩⟩
    obtain ⟨xs, hx, q⟩ := h2.now e2
    unfold rg2R at hx
    split at hx
    · split at hx <;> cases hx
      rename_i b
      simp only [RvR, Rep] at rx ry
      exact ⟨_, _, rx, ry, q (_, _) ⟨rg_ok b.1 b.2.1 b.2.2.1 b.2.2.2, rfl⟩⟩
    · cases hx
  case enm a => exact absurd rfl (he a)
  case itr a => exact absurd rfl (hr a)
theorem wpO.bind' {α β γ ε : Type} {W : Wi} {H : Hp} {o : Out Env α} {f : α → Env → Out Env γ} {R : Hp → α → β → Prop} {R2 : Hp → γ → ε → Prop} {Q2 : ε → Hp → Prop} {Q : β → Hp → Prop} (h : wpO W H (o.bind f) R2 Q2)
    (k : ∀ r δ1 b H1, EnvR W.g W.ows W.σ H1 δ1 → R H1 r b → wpO W H1 (f r δ1) R2 Q2 → Q b H1) : wpO W H o R Q := (wpO.bind h).imp fun b H1 ⟨r, δ1, _, e1, _, rx, h1⟩ => k r δ1 b H1 e1 rx h1
theorem te_lrng {it : E} {Q : VK} (h : tE X T cl EX (.lrng it) σ H Q) (hr : ∀ a, it ≠ .itr a) (he : ∀ a, it ≠ .enm a) : tLstRg (tR X T cl EX it) σ H Q := by
  obtain ⟨H0, ps, ows, δ, e, h⟩ := h
  simp only [ev] at h
  refine tr_of e (wpO.bind' h fun xs δ1 p H1 e1 ⟨r1, r2⟩ h1 => ⟨r1, fun q n => ?_⟩) hr he
  subst r2
  exact Fin.lst (fin_of e1 h1) e1.dom (reps_range _ _) q n
theorem te_trng {it : E} {Q : VK} (h : tE X T cl EX (.trng it) σ H Q) (hr : ∀ a, it ≠ .itr a) (he : ∀ a, it ≠ .enm a) : tTupRg (tR X T cl EX it) σ H Q := by
  obtain ⟨H0, ps, ows, δ, e, h⟩ := h
  simp only [ev] at h
  refine tr_of e (wpO.bind' h fun xs δ1 p H1 e1 ⟨r1, r2⟩ h1 => ⟨r1, fun q n => ?_⟩) hr he
  subst r2
  exact Fin.tup (fin_of e1 h1) e1.dom (reps_range _ _) q n
end
end G
/-! G.Snd4: comprehensions. -/
namespace G
open PySem L2
theorem wipe_get (σ : St) (j : Nat) : ∀ vs : List Nat, (wipe σ vs)[j]? = if j ∈ vs then (if j < σ.length then some none else none) else σ[j]?
  | [] => by simp [wipe]
  | v :: vs => by
    unfold wipe
    rw [List.getElem?_set, wipe_get σ j vs, wipe_length]
    by_cases h : v = j
    · subst h
      simp
    · by_cases g : j ∈ vs
      · simp [h, g]
      · have h' : ¬ j = v := fun z => h z.symm
        simp [h, g, h']
theorem wipeE_length (δ : Env) : ∀ vs : List Nat, (wipeE δ vs).length = δ.length
  | [] => rfl
  | v :: vs => by unfold wipeE; rw [List.length_set, wipeE_length δ vs]
theorem wipeE_get (δ : Env) (j : Nat) : ∀ vs : List Nat, j ∉ vs → (wipeE δ vs)[j]? = δ[j]?
  | [], _ => rfl
  | v :: vs, h => by
    simp only [List.mem_cons, not_or] at h
    unfold wipeE
    rw [List.getElem?_set_ne (fun z => h.1 z.symm), wipeE_get δ j vs h.2]
theorem restE_length (δ0 δ : Env) : ∀ vs : List Nat, (restE δ0 δ vs).length = δ.length
  | [] => rfl
  | v :: vs => by unfold restE; rw [List.length_set, restE_length δ0 δ vs]
theorem restE_out (δ0 δ : Env) (j : Nat) : ∀ vs : List Nat, j ∉ vs → (restE δ0 δ vs)[j]? = δ[j]?
  | [], _ => rfl
  | v :: vs, h => by
    simp only [List.mem_cons, not_or] at h
    unfold restE
    rw [List.getElem?_set_ne (fun z => h.1 z.symm), restE_out δ0 δ j vs h.2]
theorem restE_in (δ0 δ : Env) (j : Nat) (s : Sl) : ∀ vs : List Nat, j ∈ vs → (restE δ0 δ vs)[j]? = some s → s = .no ∨ δ0[j]? = some s
  | [], h, _ => by simp at h
  | v :: vs, h, q => by
    unfold restE at q
    by_cases z : v = j
    · subst z
      rw [List.getElem?_set] at q
      simp only [if_true] at q
      split at q
      · split at q
        · rename_i s' hs
          cases q
          exact .inr hs
        · cases q; exact .inl rfl
      · cases q
    · rw [List.getElem?_set_ne z] at q
      exact restE_in δ0 δ j s vs ((List.mem_cons.mp h).resolve_left fun e => z e.symm) q
section
variable {X : Cx} {T : List Fn} {cl : Str → Option Addr} {EX : XK} {H0 : Hp} {ps : Ps} {ows : List Addr} {σ : St} {H : Hp} {δ : Env}
theorem EnvR.wiped {g : Gr} (e : EnvR g ows σ H δ) : ∀ vs : List Nat, EnvR g ows (wipe σ vs) H (wipeE δ vs)
  | [] => e
  | v :: vs => (e.wiped vs).forget
theorem wipe_set {v : V} {i : Nat} {vs : List Nat} (h : i ∈ vs) : wipe (σ.set i (some v)) vs = wipe σ vs := by
  refine List.ext_getElem? fun j => ?_
  rw [wipe_get, wipe_get, List.length_set]
  split
  · rfl
  · rename_i n
    rw [List.getElem?_set_ne fun z : i = j => n (z ▸ h)]

theorem wipe_idem {vs : List Nat} : wipe (wipe σ vs) vs = wipe σ vs := by
  refine List.ext_getElem? fun j => ?_
  rw [wipe_get, wipe_get, wipe_length]
  split <;> rfl
/-! ### targets -/
def gNames : List Nat → TGs
  | [] => gNil
  | i :: is => gCons (gName i) (gNames is)
def gT (K : PySem.W.Frag) (tg : List Nat) : TG := match tg with
  | [i] => gName i
  | tg => gTup K tg.length (gNames tg)
theorem free_set {i : Nat} {d : D} {δ1 : Env} (h : setRo δ i d = some δ1) : δ1 = δ.set i (.ro d) := by
  unfold setRo at h
  split at h <;> cases h
  rfl
theorem names_ok {g : Gr} {Q : St → Hp → Prop} : ∀ {tg : List Nat} {ds : List D} {vs : List V} {σ : St} {δ δ1 : Env}, EnvR g ows σ H δ → Reps g.K (hid ows H) ds vs → setRos δ tg ds = some δ1 →
    (∀ σ1, EnvR g ows σ1 H δ1 → (∀ ws : List Nat, (∀ i ∈ tg, i ∈ ws) → wipe σ1 ws = wipe σ ws) → Q σ1 H) → gNames tg vs σ H Q
  | [], [], vs, σ, δ, δ1, e, r, h, k => by
    simp only [Reps] at r
    subst r
    cases h
    exact ⟨rfl, k σ e fun _ _ => rfl⟩
  | [], _ :: _, vs, σ, δ, δ1, e, r, h, k => by cases h
  | _ :: _, [], vs, σ, δ, δ1, e, r, h, k => by cases h
  | i :: is, d :: ds, vs, σ, δ, δ1, e, r, h, k => by
    simp only [Reps] at r
    obtain ⟨v, us, rfl, r1, r2⟩ := r
    simp only [setRos] at h
    split at h
    · rename_i δ2 h2
      cases free_set h2
      refine ⟨v, us, rfl, names_ok (e.setRo r1) r2 h fun σ1 e1 k1 => k σ1 e1 fun ws hw => ?_⟩
      rw [k1 ws fun j hj => hw j (List.mem_cons_of_mem _ hj), wipe_set (hw i List.mem_cons_self)]
    · cases h
theorem setRos_len : ∀ {tg : List Nat} {ds : List D} {δ δ1 : Env}, setRos δ tg ds = some δ1 → ds.length = tg.length
  | [], [], _, _, _ => rfl
  | [], _ :: _, _, _, h => by cases h
  | _ :: _, [], _, _, h => by cases h
  | i :: is, d :: ds, δ, δ1, h => by
    simp only [setRos] at h
    split at h
    · rw [List.length_cons, List.length_cons, setRos_len h]
    · cases h
theorem tup_ok {g : Gr} {Q : St → Hp → Prop} {tg : List Nat} {d : D} {v : V} {δ1 : Env} (e : EnvR g ows σ H δ) (r : Rep g.K (hid ows H) d v) (h : bindT tg d δ = some δ1)
    (k : ∀ σ1, EnvR g ows σ1 H δ1 → (∀ ws : List Nat, (∀ i ∈ tg, i ∈ ws) → wipe σ1 ws = wipe σ ws) → Q σ1 H) : gTup g.K tg.length (gNames tg) v σ H Q := by
  unfold bindT at h
  split at h
  · obtain ⟨_, a, vs, rfl, h1, h2⟩ := RepV.tup (.inl r)
    exact ⟨a, vs, rfl, h1, by rw [h2.length]; exact setRos_len h, names_ok e h2 h k⟩
  · cases h
theorem bind_ok {g : Gr} {Q : St → Hp → Prop} {tg : List Nat} {d : D} {v : V} {δ1 : Env} (e : EnvR g ows σ H δ) (r : Rep g.K (hid ows H) d v) (h : bindC tg d δ = some δ1)
    (k : ∀ σ1, EnvR g ows σ1 H δ1 → (∀ ws : List Nat, (∀ i ∈ tg, i ∈ ws) → wipe σ1 ws = wipe σ ws) → Q σ1 H) : gT g.K tg v σ H Q := by
  unfold bindC at h
  unfold gT
  split at h
  · cases free_set h
    exact k _ (e.setRo r) fun ws hw => wipe_set (hw _ (by simp))
  · rename_i n
    first
      | exact tup_ok e r h k
      | (split
         · rename_i i; exact absurd rfl (n i)
         · exact tup_ok e r h k)

/-! ### the block's list -/
theorem EnvR.enter {D : Addr} {o : HO} (e : EnvR (gr X H0 ps) ows σ H δ) (n : H D = none) : EnvR (gr X (upd H0 D o) ps) (D :: ows) σ (upd H D o) δ := by
  have e2 : EnvR (gr X H0 ps) (D :: ows) σ (upd H D o) δ := e.ownNew n (fun a u q => by rw [upd_ne (ne_of_none q n)]; exact q) upd_same
  refine ⟨e2.len, fun a u ha q => ?_, e2.psub, e2.dom, fun i s q => ?_, e2.inj, e2.par, fun P hP t ht => e2.tab P hP t ?_, fun hn => ?_⟩
  rotate_right
  · obtain ⟨P, hP, ⟨t, ht⟩, hp⟩ := e.need hn
    refine ⟨P, hP, ⟨t, ?_⟩, hp⟩
    show (upd H0 D o) P = _
    rw [upd_ne fun z => e.dom P (e.psub P hP) (by rw [z]; exact n)]
    exact ht
  rotate_right
  · have ht : (upd H0 D o) P = some (.tbl t) := ht
    rwa [upd_ne fun z => e.dom P (e.psub P hP) (by rw [z]; exact n)] at ht
  · by_cases z : a = D
    · subst z
      rw [show (gr X (upd H0 a o) ps).H0 a = (upd H0 a o) a from rfl, upd_same] at q
      rw [upd_same, q]
    · rw [show (gr X (upd H0 D o) ps).H0 a = (upd H0 D o) a from rfl, upd_ne z] at q
      exact e2.base a u ha q
  · have h2 := e2.slot i s q
    cases s with
    | no => trivial
    | ro d => exact h2
    | ow b u =>
      obtain ⟨a, g1, g2, g3, g4⟩ := h2
      obtain ⟨a', k1, k2, _⟩ := e.slot i _ q
      rw [g1] at k1
      have ea : a = a' := by simpa using k1
      subst ea
      refine ⟨a, g1, g2, ?_, g4⟩
      split
      · rename_i hb; rw [if_pos hb] at g3; exact g3
      · rename_i hb
        rw [if_neg hb] at g3
        show (upd H0 D o) a = none
        rw [upd_ne fun z => e.dom a k2 (by rw [z]; exact n)]
        exact g3
theorem EnvR.chg {D : Addr} {o o' : HO} (e : EnvR (gr X (upd H0 D o) ps) (D :: ows) σ H δ) (hD : D ∉ ps.1) : EnvR (gr X (upd H0 D o') ps) (D :: ows) σ (upd H D o') δ := by
  have sm : Same (hid (D :: ows) H) (hid (D :: ows) (upd H D o')) := hid_change List.mem_cons_self
  refine ⟨e.len, fun a u ha q => ?_, e.psub, fun a ha => ?_, fun i s q => ?_, e.inj, e.par, fun P hP t ht => ?_, fun hn => ?_⟩
  rotate_right
  · obtain ⟨P, hP, ⟨t, ht⟩, hp⟩ := e.need hn
    have ne : P ≠ D := fun z => hD (by rw [← z]; exact hP)
    refine ⟨P, hP, ⟨t, ?_⟩, hp⟩
    have ht : (upd H0 D o) P = some (.tbl t) := ht
    show (upd H0 D o') P = _
    rw [upd_ne ne] at ht ⊢
    exact ht
  rotate_right
  · have ne : P ≠ D := fun z => hD (by rw [← z]; exact hP)
    have ht : (upd H0 D o') P = some (.tbl t) := ht
    rw [upd_ne ne] at ht
    exact (e.tab P hP t (by show (upd H0 D o) P = _; rw [upd_ne ne]; exact ht)).mono (upd_ne ne) sm
  · have q : (upd H0 D o') a = some u := q
    by_cases z : a = D
    · subst z; rw [upd_same] at q ⊢; exact q
    · rw [upd_ne z] at q ⊢
      exact e.base a u ha (by show (upd H0 D o) a = _; rw [upd_ne z]; exact q)
  · by_cases z : a = D
    · rw [z, upd_same]; exact fun w => nomatch w
    · rw [upd_ne z]; exact e.dom a ha
  · have h2 := e.slot i s q
    cases s with
    | no => trivial
    | ro d =>
      obtain ⟨x, h3, h4⟩ := h2
      exact ⟨x, h3, h4.mono sm⟩
    | ow b u =>
      obtain ⟨a, g1, g2, g3, g4⟩ := h2
      have ne : a ≠ D := fun z => by
        subst z
        split at g3
        · exact hD g3
        · have g3 : (upd H0 a o) a = none := g3
          rw [upd_same] at g3; cases g3
      refine ⟨a, g1, g2, ?_, by rw [upd_ne ne]; exact g4.mono sm⟩
      split
      · rename_i hb; rw [if_pos hb] at g3; exact g3
      · rename_i hb
        rw [if_neg hb] at g3
        have g3 : (upd H0 D o) a = none := g3
        show (upd H0 D o') a = none
        rw [upd_ne ne] at g3 ⊢
        exact g3
theorem EnvR.leave {D : Addr} {o : HO} {vs : List Nat} {H1 : Hp} {δ1 δe : Env} (e1 : EnvR (gr X H0 ps) ows σ H1 δ1) (hn : vs.all (notOwn δ1) = true) (n : H1 D = none) (sm : Same (hid ows H1) (hid (D :: ows) H)) (E : EnvR (gr X (upd H0 D o) ps) (D :: ows) (wipe σ vs) H (wipeE δe vs)) :
    EnvR (gr X H0 ps) ows σ H (restE δ1 δe vs) := by
  obtain ⟨n1, n2⟩ := e1.fresh n
  have hD : D ∉ ps.1 := fun z => n2 (e1.psub _ z)
  have out : ∀ {j : Nat} {b : Bool} {u : Ob}, (restE δ1 δe vs)[j]? = some (Sl.ow b u) → j ∉ vs ∧ (wipeE δe vs)[j]? = some (Sl.ow b u) ∧ (wipe σ vs)[j]? = σ[j]? := fun {j b u} q => by
    have nj : j ∉ vs := fun z => by
      rcases restE_in δ1 δe j _ vs z q with h | h
      · cases h
      · have := List.all_eq_true.mp hn j z
        unfold notOwn at this
        rw [h] at this
        cases this
    rw [restE_out _ _ _ _ nj] at q
    refine ⟨nj, by rw [wipeE_get _ _ _ nj]; exact q, by rw [wipe_get, if_neg nj]⟩
  refine ⟨?_, fun a u ha q => ?_, e1.psub, fun a ha => E.dom a (List.mem_cons_of_mem _ ha), fun j s q => ?_, fun i j p u q w hij h1 h2 => ?_, fun j u q => ?_, fun P hP t ht => ?_, e1.need⟩
  rotate_right
  · have ne : P ≠ D := fun z => hD (by rw [← z]; exact hP)
    exact (E.tab P hP t (by show (upd H0 D o) P = _; rw [upd_ne ne]; exact ht)).mono rfl hid_cons
  · have := E.len
    rw [wipe_length, wipeE_length] at this
    rw [restE_length, this]
  · have q : H0 a = some u := q
    refine E.base a u ha ?_
    show (upd H0 D o) a = some u
    rw [upd_ne (ne_of_none q n1)]
    exact q
  · by_cases hj : j ∈ vs
    · rcases restE_in δ1 δe j s vs hj q with rfl | h
      · trivial
      · have := List.all_eq_true.mp hn j hj
        have h2 := e1.slot j s h
        unfold notOwn at this
        rw [h] at this
        cases s with
        | no => trivial
        | ro d =>
          obtain ⟨x, h3, h4⟩ := h2
          exact ⟨x, h3, (h4.mono sm).mono hid_cons⟩
        | ow b u => cases this
    · cases s with
      | no => trivial
      | ro d =>
        rw [restE_out _ _ _ _ hj] at q
        have h2 := E.slot j (.ro d) (by rw [wipeE_get _ _ _ hj]; exact q)
        rw [wipe_get, if_neg hj] at h2
        obtain ⟨x, h3, h4⟩ := h2
        exact ⟨x, h3, h4.mono hid_cons⟩
      | ow b u =>
        obtain ⟨k1, k2, k3⟩ := out q
        obtain ⟨a, g1, g2, g3, g4⟩ := E.slot j _ k2
        rw [k3] at g1
        have ne : a ≠ D := fun z => by
          subst z
          split at g3
          · exact hD g3
          · have g3 : (upd H0 a o) a = none := g3
            rw [upd_same] at g3; cases g3
        refine ⟨a, g1, (List.mem_cons.mp g2).resolve_left ne, ?_, g4.mono hid_cons⟩
        split
        · rename_i hb; rw [if_pos hb] at g3; exact g3
        · rename_i hb
          rw [if_neg hb] at g3
          have g3 : (upd H0 D o) a = none := g3
          show H0 a = none
          rw [upd_ne ne] at g3
          exact g3
  · obtain ⟨_, a2, a3⟩ := out h1
    obtain ⟨_, b2, b3⟩ := out h2
    rw [← a3, ← b3]
    exact E.inj i j p u q w hij a2 b2
  · obtain ⟨_, a2, a3⟩ := out q
    rw [← a3]
    exact E.par j u a2
/-- the promise of a turn -/
def StepOk (X : Cx) (ps : Ps) (σ : St) (vs : List Nat) (f : D → Env → Out Env (Option D)) (g : TG) (tt : TT) (te : TE) : Prop :=
  ∀ (H0' : Hp) (ows' : List Addr) (x : V) (d : D) (δ : Env) (H : Hp) (r : Option D) (δ2 : Env) (KY : VK) (NX : Hp → Prop), EnvR (gr X H0' ps) ows' (wipe σ vs) H (wipeE δ vs) → Rep X.K (hid ows' H) d x → f d δ = .ok r δ2 →
    (∀ H2 σ2, wipe σ2 vs = wipe σ vs → EnvR (gr X H0' ps) ows' σ2 H2 δ2 → Same (hid ows' H) (hid ows' H2) → match r with | none => NX H2 | some y => ∀ v, Rep X.K (hid ows' H2) y v → KY v H2) →
    g x (wipe σ vs) H fun σ2 H2 => wipe σ2 vs = wipe σ vs ∧ tt σ2 H2 fun b H3 => if b = true then te σ2 H3 KY else NX H3
theorem lc_main {f : D → Env → Out Env (Option D)} {xs ys : List D} {H1 : Hp} {δ1 δe : Env} {J : It} {vs : List Nat} {g : TG} {tt : TT} {te : TE} {Q : VK} (hw : WalksD X.K ows H1 xs J) (e1 : EnvR (gr X H0 ps) ows σ H1 δ1) (hn : vs.all (notOwn δ1) = true) (hl : xs.length ≤ big)
    (hf : compL f xs [] δ1 = .ok ys δe) (hs : StepOk X ps σ vs f g tt te) (hq : ∀ v H', EnvR (gr X H0 ps) ows σ H' (restE δ1 δe vs) → Same (hid ows H1) (hid ows H') → Rep X.K (hid ows H') (.lst ys) v → Q v H') :
    ∀ D, H1 D = none → ∃ W : Nat → Nat → Hp → Prop, (∃ m, W 0 m (upd H1 D (.lst []))) ∧ ∀ i m H, W i m H →
  (J.stop i H ∧ Q (.ref D) H) ∨ (J.go i H ∧ ∃ Nx : Hp → Prop, (∀ H', Nx H' → ∃ m', m' < m ∧ W (i + 1) m' H') ∧ ∀ x H', J.yld i H x H' → g x (wipe σ vs) H' fun σ2 H2 => wipe σ2 vs = wipe σ vs ∧ tt σ2 H2 fun b H3 =>
    if b = true then te σ2 H3 fun y H4 => ∃ acc, H4 D = some (.lst acc) ∧ acc.length < sizeLine ∧ Nx (upd H4 D (.lst (acc ++ [y]))) else Nx H3) := by
  intro D n
  obtain ⟨n1, n2⟩ := e1.fresh n
  have hD : D ∉ ps.1 := fun z => n2 (e1.psub _ z)
  have at_D : ∀ {accV : List V} {σ : St} {H : Hp} {δ : Env}, EnvR (gr X (upd H0 D (.lst accV)) ps) (D :: ows) σ H δ → H D = some (.lst accV) := fun E => E.base D _ hD upd_same
  refine ⟨fun i m H => m = xs.length - i ∧ i ≤ xs.length ∧ ∃ δ' acc accV, EnvR (gr X (upd H0 D (.lst accV)) ps) (D :: ows) (wipe σ vs) H (wipeE δ' vs) ∧ Same (hid ows H1) (hid (D :: ows) H) ∧ Reps X.K (hid (D :: ows) H) acc accV ∧ accV.length ≤ i ∧ compL f (xs.drop i) acc δ' = .ok ys δe,
    ⟨xs.length, rfl, Nat.zero_le _, δ1, [], [], (e1.enter n).wiped vs, fun a u q => ?_, Reps.nil, Nat.le_refl _, hf⟩, ?_⟩
  · have h := hid_same _ _ _ _ q
    have na : a ∉ ows := fun z => by unfold hid at q; rw [if_pos z] at q; cases q
    have ne : a ≠ D := ne_of_none h n
    exact hid_of (by rw [upd_ne ne]; exact h) (by simp only [List.mem_cons, not_or]; exact ⟨ne, na⟩)
  rintro i m H ⟨rfl, hi, δ', acc, accV, E, sm, ra, hz, hc⟩
  obtain ⟨w1, w2⟩ := hw i H (D :: ows) sm E.dom
  by_cases hlt : i < xs.length
  · refine .inr ⟨(w1 hlt).1, fun H' => xs.length - (i + 1) = xs.length - (i + 1) ∧ i + 1 ≤ xs.length ∧ ∃ δ' acc accV, EnvR (gr X (upd H0 D (.lst accV)) ps) (D :: ows) (wipe σ vs) H' (wipeE δ' vs) ∧ Same (hid ows H1) (hid (D :: ows) H') ∧ Reps X.K (hid (D :: ows) H') acc accV ∧ accV.length ≤ i + 1 ∧ compL f (xs.drop (i + 1)) acc δ' = .ok ys δe,
      fun H' h => ⟨xs.length - (i + 1), by omega, h⟩, fun x H' hy => ?_⟩
    obtain ⟨gw, rx⟩ := (w1 hlt).2 x H' hy
    obtain ⟨E', s1⟩ := E.grow gw
    have rx := rx xs[i] (List.getElem?_eq_getElem hlt)
    rw [List.drop_eq_getElem_cons hlt] at hc
    unfold compL at hc
    have ra1 := Reps.mono s1 _ _ ra
    split at hc
    · rename_i y δ2 hfy
      refine hs _ _ x _ δ' H' _ δ2 _ _ E' rx hfy fun H2 σ2 hσ E2 s2 v rv => ?_
      refine ⟨accV, at_D E2, Nat.lt_of_le_of_lt (Nat.le_trans hz (Nat.le_trans hi hl)) (by decide), rfl, hlt, δ2, acc ++ [y], accV ++ [v], ?_, ?_, ?_, by rw [List.length_append, List.length_singleton]; omega, hc⟩
      · have := (E2.wiped vs).chg (o' := .lst (accV ++ [v])) hD
        rw [hσ] at this
        exact this
      · exact ((sm.trans s1).trans s2).trans (hid_change List.mem_cons_self)
      · exact Reps.mono (hid_change List.mem_cons_self) _ _ (Reps.append (Reps.mono s2 _ _ ra1) (Reps.cons rv Reps.nil))
    · rename_i δ2 hfy
      refine hs _ _ x _ δ' H' _ δ2 _ _ E' rx hfy fun H2 σ2 hσ E2 s2 => ?_
      refine ⟨rfl, hlt, δ2, acc, accV, ?_, (sm.trans s1).trans s2, Reps.mono s2 _ _ ra1, by omega, hc⟩
      have := E2.wiped vs
      rw [hσ] at this
      exact this
    · cases hc
  · have e : i = xs.length := by omega
    subst e
    rw [List.drop_length] at hc
    cases hc
    refine .inl ⟨w2 rfl, hq _ _ (e1.leave hn n sm E) (sm.trans hid_cons) ?_⟩
    simp only [Rep]
    exact ⟨D, accV, rfl, hid_of (at_D E) n2, Reps.mono hid_cons _ _ ra⟩

/-! ### the two forms -/
theorem asD_some {r : RV} {y : D} (h : asD r = some y) : r = .d y := by
  cases r with
  | d x => cases h; rfl
  | own i => cases h
theorem step_comp {vs tg : List Nat} {elt : E} (htg : ∀ i ∈ tg, i ∈ vs) : StepOk X ps σ vs (fun x δ' => (lift (bindC tg x (wipeE δ' vs)) δ').bind fun δ1 _ => (ev T elt δ1).bind fun y δ2 => (lift (asD y) δ2).bind fun y δ => .ok (some y) δ) (gT X.K tg) tYes (tE X T cl EX elt) := by
  intro H0' ows' x d δ H r δ2 KY NX E rx hf k
  simp only at hf
  cases hb : bindC tg d (wipeE δ vs) with
  | none => rw [hb] at hf; cases hf
  | some δ1 =>
    rw [hb] at hf
    simp only [lift, Out.bind] at hf
    cases h1 : ev T elt δ1 with
    | ok y δ3 =>
      rw [h1] at hf
      simp only [Out.bind] at hf
      cases hy : asD y with
      | none => rw [hy] at hf; cases hf
      | some y' =>
        rw [hy] at hf
        cases hf
        cases asD_some hy
        refine bind_ok E rx hb fun σ1 e1 k1 => ⟨?_, ?_⟩
        · rw [k1 vs htg, wipe_idem]
        · show (if true = true then tE X T cl EX elt σ1 H KY else NX H)
          rw [if_pos rfl]
          refine ⟨H0', ps, ows', δ1, e1, ?_⟩
          rw [h1]
          exact fun v H2 e2 s2 rv => k H2 σ1 (by rw [k1 vs htg, wipe_idem]) e2 s2 v rv
    | ex c s => rw [h1] at hf; cases hf
    | no => rw [h1] at hf; cases hf
theorem step_compc {vs tg : List Nat} {c elt : E} (htg : ∀ i ∈ tg, i ∈ vs) : StepOk X ps σ vs (fun x δ' => (lift (bindC tg x (wipeE δ' vs)) δ').bind fun δ1 _ => (ev T c δ1).bind fun t δ2 => (lift (asBl t) δ2).bind fun t δ2 =>
        if t then (ev T elt δ2).bind fun y δ3 => (lift (asD y) δ3).bind fun y δ => .ok (some y) δ else .ok none δ2) (gT X.K tg) (tT X T cl EX c) (tE X T cl EX elt) := by
  intro H0' ows' x d δ H r δ2 KY NX E rx hf k
  simp only at hf
  cases hb : bindC tg d (wipeE δ vs) with
  | none => rw [hb] at hf; cases hf
  | some δ1 =>
    rw [hb] at hf
    simp only [lift, Out.bind] at hf
    cases h0 : ev T c δ1 with
    | ex c s => rw [h0] at hf; cases hf
    | no => rw [h0] at hf; cases hf
    | ok t δt =>
      rw [h0] at hf
      simp only [Out.bind] at hf
      cases ht : asBl t with
      | none => rw [ht] at hf; cases hf
      | some t' =>
        rw [ht] at hf
        simp only [lift, Out.bind] at hf
        refine bind_ok E rx hb fun σ1 e1 k1 => ?_
        have hσ : wipe σ1 vs = wipe σ vs := by rw [k1 vs htg, wipe_idem]
        refine ⟨hσ, H0', ps, ows', δ1, e1, ?_⟩
        unfold evb
        rw [h0]
        simp only [Out.bind]
        rw [ht]
        intro b H2 e2 s2 hb2
        have hb2 : t' = b := hb2
        subst hb2
        cases t' with
        | false =>
          cases hf
          exact k H2 σ1 hσ e2 s2
        | true =>
          rw [if_pos rfl]
          simp only [if_true] at hf
          refine ⟨H0', ps, ows', δt, e2, ?_⟩
          cases h1 : ev T elt δt with
          | ok y δ3 =>
            rw [h1] at hf
            simp only [Out.bind] at hf
            cases hy : asD y with
            | none => rw [hy] at hf; cases hf
            | some y' =>
              rw [hy] at hf
              cases hf
              cases asD_some hy
              exact fun v H3 e3 s3 rv => k H3 σ1 hσ e3 (s2.trans s3) v rv
          | ex c s => rw [h1] at hf; cases hf
          | no => rw [h1] at hf; cases hf
theorem te_lc {vs tg : List Nat} {it : E} {f : D → Env → Out Env (Option D)} {tt : TT} {te : TE} {Q : VK} (e : EnvR (gr X H0 ps) ows σ H δ) (hs : ∀ ps, StepOk X ps σ vs f (gT X.K tg) tt te)
    (h : wpO ⟨gr X H0 ps, ows, σ, cl, EX⟩ H ((evi T it δ).bind fun xs δ => if vs.all (notOwn δ) = true ∧ xs.length ≤ big then (compL f xs [] δ).bind fun ys δ' => .ok (.d (.lst ys)) (restE δ δ' vs) else .no) (RvR (gr X H0 ps) ows σ) Q) :
    tLc (tI X T cl EX it) (gT X.K tg) tt te vs σ H Q := by
  refine ⟨H0, ps, ows, δ, e, wpO.bind' h fun xs δ1 J H1 e1 hw h1 => ?_⟩
  split at h1
  · rename_i hn
    cases hc : compL f xs [] δ1 with
    | ok ys δe =>
      rw [hc] at h1
      exact lc_main hw e1 hn.1 hn.2 hc (hs ps) fun v H' er sm rv => h1 v H' er sm rv
    | ex c s =>
      exfalso
      have : ∀ (xs acc : List D) (δ : Env), compL f xs acc δ ≠ .ex c s := fun xs => by
        induction xs with
        | nil => intro acc δ q; cases q
        | cons x xs ih =>
          intro acc δ q
          unfold compL at q
          split at q
          · exact ih _ _ q
          · exact ih _ _ q
          · cases q
      exact this _ _ _ hc
    | no => rw [hc] at h1; exact h1.elim
  · exact h1.elim
theorem te_comp {vs tg : List Nat} {it elt : E} {EX' : XK} {Q : VK} (htg : ∀ i ∈ tg, i ∈ vs) (h : tE X T cl EX (.comp vs tg it elt) σ H Q) : tLc (tI X T cl EX it) (gT X.K tg) tYes (tE X T cl EX' elt) vs σ H Q := by
  obtain ⟨H0, ps, ows, δ, e, h⟩ := h
  simp only [ev] at h
  exact te_lc e (fun _ => step_comp htg) h
theorem te_compc {vs tg : List Nat} {it c elt : E} {EX' : XK} {Q : VK} (htg : ∀ i ∈ tg, i ∈ vs) (h : tE X T cl EX (.compc vs tg it c elt) σ H Q) : tLc (tI X T cl EX it) (gT X.K tg) (tT X T cl EX' c) (tE X T cl EX' elt) vs σ H Q := by
  obtain ⟨H0, ps, ows, δ, e, h⟩ := h
  simp only [ev] at h
  exact te_lc e (fun _ => step_compc htg) h
end
end G
/-! G.Lam: a lambda that is made and called at once; of all tables the maker's own alone is written. -/
namespace G
open PySem PySem.Spec PyProof.Rows L2 LamX
/-- all but the object at P stays -/
def ExtP (P : Addr) (H H' : Hp) : Prop := ∀ b o, b ≠ P → H b = some o → H' b = some o
/-- behind the making: each code object of the table is new or was in it -/
def TabN (H H1 : Hp) (P : Addr) (q : Str) : Prop := ∃ t, H1 P = some (.tbl t) ∧ TriplesOk t.toList ∧ ∀ (pos : Pos) (cv : Value), codeAmong pos t.toList = some cv → ∃ c, cv = .ref c ∧ H1 c = some (CodeO c q) ∧ (H c = none ∨ ∃ t0 pos0, H P = some (.tbl t0) ∧ codeAmong pos0 t0.toList = some (.ref c))
abbrev lq (X : Cx) : Str := X.env.qual ++ "<lambda>"
section
variable {X : Cx} {pins : List (Addr × Obj)} {σ : L2.St} {H : Hp} {s : Shared}
abbrev lobj (X : Cx) (params : Arguments) (body : Expr) (scope : Scope) (pm : Value) (c' : Addr) (ctv : Value) : Obj :=
  PySem.W.kla_obj "<lambda>" (lq X) params body scope (cloFrom X.env.cells scope.names []) pm c' ctv
theorem mk_lam {c P : Addr} {params : Arguments} {body : Expr} {scope : Scope} {pos : Pos} {E Q : Value → Shared → Prop} (I : Inv X pins σ H s) (TB : TabB X.base X.mg c P) (code : X.env.code = .ref c)
    (hT : TabS H P (lq X)) (df : defaultsOf params X.env = ([], [])) (fr : ∀ y ∈ scope.names, y.2 = .free → ∃ c, X.env.cells.lookup y.1 = some c)
    (k : ∀ (f c' : Addr) (pm ctv : Value) (H1 : Hp) (s' : Shared), Inv X pins σ H1 s' → ExtP P H H1 → TabN H H1 P (lq X) → s'.heap.get? f = some (lobj X params body scope pm c' ctv) → H1 f = none → f ∉ frs X.stack → H1 c' = some (CodeO c' (lq X)) → Q (.ref f) s') :
    wpAny (model X.prog X.w) X.A (eval (.Lambda params body scope pos) X.env) Q E s := by
  obtain ⟨ps, tP, tok, tnm⟩ := hT
  refine PySem.W.kla_eval df ?_
  have gP : s.heap.get? P = some { cls := .none, data := .fields ps } := I.hok P _ tP
  have bb : s.heap.BuiltinsAt X.mg P := TB.bm.keeps I.bk
  have nst : ∀ f, s.heap.objs.size ≤ f → f ∉ frs X.stack := fun f hf z => by
    rcases List.mem_cons.mp (I.stkSub _ z) with e | e
    · have lt := I.lt
      exact Nat.lt_irrefl _ (Nat.lt_of_lt_of_le lt (e ▸ hf))
    · exact absurd e fun z2 => I.nofs hf z2
  cases hc : codeAmong pos ps.toList with
  | some cv =>
    obtain ⟨c', rfl, hco⟩ := tnm pos cv hc
    refine PySem.W.kla_makeFunctionHit (mg := X.mg) (c := c) (P := P) (ps := ps) (closure_ok fr) I.ok.glob (I.mod.glob.keeps I.bk) code (TB.code.keeps I.bk) gP tok hc bb fun ctv h' tk kp sz => ?_
    have J : Inv X pins σ H { s with heap := h'.push (lobj X params body scope ((X.mg "__name__").getD .none) c' ctv), toks := tk } := I.kept fun b o e => Heap.get?_push_of_some _ (kp b o e)
    exact k h'.objs.size c' _ ctv H _ J (fun _ _ _ e => e) ⟨ps, tP, tok, fun pos' cv' hc' => by obtain ⟨c1, e1, e2⟩ := tnm pos' cv' hc'; exact ⟨c1, e1, e2, .inr ⟨ps, pos', tP, by rw [hc', e1]⟩⟩⟩ (Heap.get?_push_size _ rfl) (I.hok.fresh sz) (nst _ sz) hco
  | none =>
    refine PySem.W.kla_makeFunction (mg := X.mg) (c := c) (P := P) (ps := ps) (closure_ok fr) I.ok.glob (I.mod.glob.keeps I.bk) code (TB.code.keeps I.bk) gP tok hc TB.gP bb fun c' ctv h' tk kp ge lt hrec htb => ?_
    obtain ⟨c2, oc, vs, t, e0, ho, hd, hv⟩ := hrec
    cases e0
    have sz : s.heap.objs.size ≤ h'.objs.size := Nat.le_trans ge (Nat.le_of_lt lt)
    have nC : H c' = none := I.hok.fresh ge
    have nPC : P ≠ c' := ne_of_none tP nC
    have J := inv_table (t' := tk) (more := #[rawInt pos.line, rawInt pos.col, .ref c']) (h' := h'.push (lobj X params body scope ((X.mg "__name__").getD .none) c' ctv)) (q := lq X) I tP
      (fun b o hb e => Heap.get?_push_of_some _ (kp b o hb e)) (Heap.get?_push_of_some _ htb) ge ⟨oc, vs, t, Heap.get?_push_of_some _ ho, hd, hv⟩
    have ext : ExtP P H (upd (upd H P (.tbl (ps ++ #[rawInt pos.line, rawInt pos.col, .ref c']))) c' (CodeO c' (lq X))) := fun b o hb e => by
      rw [upd_ne (ne_of_none e nC), upd_ne hb]
      exact e
    have app : (ps ++ #[rawInt pos.line, rawInt pos.col, .ref c']).toList = ps.toList ++ [rawInt pos.line, rawInt pos.col, .ref c'] := by simp
    refine k h'.objs.size c' _ ctv _ _ J ext ⟨_, by rw [upd_ne nPC, upd_same], by rw [app]; exact PySem.TriplesOk_snoc _ _ _ _ tok, fun p' cv hcv => ?_⟩ (Heap.get?_push_size _ rfl) ?_ (nst _ sz) upd_same
    · rw [app] at hcv
      rcases among_app _ tok hcv with z | z
      · obtain ⟨c0, e1, e2⟩ := tnm p' cv z
        refine ⟨c0, e1, ext _ _ (fun z => ?_) e2, .inr ⟨ps, p', tP, by rw [z, e1]⟩⟩
        rw [z, tP] at e2
        exact codeO_ne ps (Option.some.inj e2).symm
      · exact ⟨c', z, upd_same, .inl nC⟩
    · have a1 : h'.objs.size ≠ c' := Nat.ne_of_gt lt
      have a2 : h'.objs.size ≠ P := Nat.ne_of_gt (Nat.lt_of_lt_of_le (Heap.lt_size gP) sz)
      rw [upd_ne a1, upd_ne a2]
      exact I.hok.fresh sz
/-- x(lambda: body): what it asks -/
def tLamP (X : Cx) (P : Addr) (TT : (XK → Hp → VK → Prop) → Hp → VK → Prop) (t : XK → TE) : TE := fun σ H Q => TabS H P (lq X) ∧ ∀ H1, ExtP P H H1 → TabN H H1 P (lq X) → TT (fun E H' Q' => t E σ H' Q') H1 Q
theorem pe_lamP {TT : (XK → Hp → VK → Prop) → Hp → VK → Prop} {x a : Str} {g c P : Addr} {k : Nat} {pg : Arguments} {bg : List Stmt} {sg : Scope} {dV kV doc pm cdv ct oc : Value} {an od : Option Addr} {osl : Array (Option Value)} {Ng : List Str}
    {params : Arguments} {body : Expr} {scope : Scope} {t : XK → TE} {p lpos pos : Pos} (hg : Gl X x) (hm : X.mg x = some (.ref g)) (hk : PySem.W.keepIn X.K (.ref g) = true)
    (lk : X.K.lookup g = some ⟨oc, od, .func (PySem.W.fnOf x x pg bg sg dV kV doc pm an cdv ct), osl⟩) (cg : PySem.W.codeIn X.K cdv x = true) (hb : L2.Binds X.K (PySem.W.fnOf x x pg bg sg dV kV doc pm an cdv ct) [a] []) (Sg : FnScope Ng [a] sg) (n0 : Ng[0]? = some a) (va : L2.Vis sg a)
    (gv : GivesTo X Ng x sg g cdv bg a (lq X) TT) (TB : TabB X.base X.mg c P) (code : X.env.code = .ref c) (hr : Room (k + 2) X.A) (L : LamS X.env.scope scope) (df : defaultsOf params X.env = ([], []))
    (bind0 : ∀ (q : Str) (cl : List (Str × Addr)) (pm cv ctv : Value), bindArgs (PySem.W.kla_fn "<lambda>" q params body scope cl pm cv ctv) ⟨[], []⟩ = pure [])
    (inner : ∀ (A : Around) (outer : List PySem.Env) (s : Shared) (H : Hp) (E : XK) (f c' : Addr), Room k (A.deeper (lamEnv X scope s.heap.objs.size f c')) → PE (lamCx X A outer s H E scope f c') body (t E))
    (d1 : (x == ("__debug__" : Str)) = false) (d2 : (a == ("__debug__" : Str)) = false) (d3 : (a == ("__classdict__" : Str)) = false) :
    PE X (.Call (.Name x p) [.Lambda params body scope lpos] [] pos) (tLamP X P TT t) := by
  refine ⟨fun pins s σ H Q I ⟨tab, h⟩ => wpAny_Call_Name_kw (ld_glob I hg hm (PySem.W.callWith_K (h₀ := X.base) I.ok.mod.kin hk ?_ (by rfl) (by rfl)) d1)⟩
  show wpAny _ _ (spliced ((false, eval (.Lambda params body scope lpos) X.env) :: backTo pos (starEach [] X.env))) _ _ s
  refine Calls.spliced_cons (mk_lam I TB code tab df (L.has I.ok) fun f c' pm' ctv H1 s' J ex tab1 of nf nfr hco => Calls.spliced_nil ⟨J.kIn, ?_⟩)
  refine wpAny_call (codeAny_mono (R := CR C8.CX0 X.stack X.prog X.w H1 s' Q C8.E0) ?_ fun r s2 hq => ?_)
  · refine run_ofS (N := Ng) (ps := [a]) (us := [.ref f]) (vs := [.ref f]) lk cg Sg hr J.env0 (hb s' [.ref f] J.kIn rfl) (.cons rfl .nil) rfl fun hr' => ?_
    obtain ⟨t', pt, qt⟩ := gv f c' s' H1 Q (fun E H' Q' => t E σ H' Q') (fun W pn xe E p1 p2 tk hW => pe_act (i := 0) J L of nf nfr (bind0 _ _ _ _ _) tk hW hr' (fun A outer s H hr2 => inner A outer s H E f c' hr2) n0 va d2 d3) hco (h H1 ex tab1)
    exact ⟨t', pt.nox, qt⟩
  · cases r with
    | error e => exact (show False from hq).elim
    | ok fl => cases fl with
      | ret u => exact J.after hq
      | _ => exact False.elim hq
end
end G
/-! G.Word: the def that calls a lambda and tells the error's word. -/
namespace G
open PySem L2 LamX
/-- the clauses: a class, the word that is stored -/
def isHds (sg : Scope) (f : Str) : List (Str × Str) → List ExceptHandler → Bool
  | [], [] => true
  | (e, w) :: ws, .ExceptHandler (some (.Name e' _)) none [.Assign [.Name f' _] (.Constant (.str w') _ _) _] _ :: hs => decide (e = e') && decide (f = f') && decide (w = w') && glB sg e && okName e && isHds sg f ws hs
  | _, _ => false
def isWord (sg : Scope) (a f : Str) (ws : List (Str × Str)) : List Stmt → Bool
  | [.Assign [.Name f1 _] (.Constant (.str w0) _ _) _, .Try [.Expr (.Call (.Name a' _) [] [] _) _] (h :: hs) [] [] _, .Return (some (.Name f2 _)) _] =>
    decide (f = f1) && decide (f = f2) && decide (a = a') && decide (w0 = Str.ofString "") && isHds sg f ws (h :: hs)
  | _ => false
/-- the word that is told of an exception of this class -/
def wordOf (K : PySem.W.Frag) (cl : Str → Option Addr) (q : Str → Prop) (cls : Value) : List (Str × Str) → Prop
  | [] => False
  | (e, w) :: r => ∃ C b, cl e = some C ∧ PySem.W.exmOne K cls (.ref C) = some b ∧ (b = true → q w) ∧ (b = false → wordOf K cl q cls r)
def TTw (K : PySem.W.Frag) (cl : Str → Option Addr) (ws : List (Str × Str)) : (XK → Hp → VK → Prop) → Hp → VK → Prop := fun tl H Q =>
  tl (fun cls _ H' => wordOf K cl (fun w => Q (.str w) H') cls ws) H (fun _ H' => Q (.str (Str.ofString "")) H')
theorem ps_len {X : Cx} {st : Stmt} {t : TS} (h : PS X st t) : PS X st (fun D σ H => σ.length = X.N.length → t D σ H) := ⟨fun pins s σ H D I q => h.run pins s σ H D I (q I.len)⟩
abbrev tsW (w : Str) : Addr → Value → Option Addr → TS := fun _ _ _ D σ H => σ.length = 2 → tAsg (tC (.str w)) (gName 1) D σ H
theorem ps_word {Z : Cx} {a f : Str} (hN : Z.N = [a, f]) (nd : Z.N.Nodup) (loc : Loc Z.env.scope f) (hfn : Z.fn f = true) {w : Str} {j : Nat} {p1 p2 p3 : Pos} : PS Z (.Assign [.Name f p1] (.Constant (.str w) j p2) p3) (fun D σ H => σ.length = 2 → tAsg (tC (.str w)) (gName 1) D σ H) := by
  have h : PS Z (.Assign [.Name f p1] (.Constant (.str w) j p2) p3) (tAsg (tC (.str w)) (gName 1)) := ps_set nd (by rw [hN]; rfl) loc pe_str (by rfl) (.inl hfn)
  refine ⟨fun pins s σ H D I q => (ps_len h).run pins s σ H D I fun hlen => q ?_⟩
  rw [hlen, hN]; rfl
theorem hds_ok {Z : Cx} {a f : Str} {cl : Str → Option Addr} (hN : Z.N = [a, f]) (nd : Z.N.Nodup) (loc : Loc Z.env.scope f) (hfn : Z.fn f = true) (hcl : ∀ e C, cl e = some C → Z.mg e = some (.ref C)) : ∀ (ws : List (Str × Str)) (hs : List ExceptHandler), (∀ p ∈ ws, ∃ C, cl p.1 = some C) → isHds Z.env.scope f ws hs = true →
    ∃ l, HdsOk Z hs l ∧ ∀ (D : Ends) (cls : Value) (d : Option Addr) (σ : L2.St) (H : Hp), wordOf Z.K cl (fun w => ∀ a, H a = none → tsW w a cls d D σ H) cls ws → wMany Z.K (fun _ _ _ _ => False) D l cls d σ H
  | [], [], _, _ => ⟨[], .nil, fun _ _ _ _ _ h => h⟩
  | [], _ :: _, _, h => by simp [isHds] at h
  | _ :: _, [], _, h => by simp [isHds] at h
  | (e, w) :: ws, hd :: hs, hc, h => by
    unfold isHds at h
    split at h <;> first | contradiction | skip
    rename_i q1 q2
    cases q1
    cases q2
    simp only [Bool.and_eq_true, decide_eq_true_eq] at h
    obtain ⟨⟨⟨⟨⟨rfl, rfl⟩, rfl⟩, h4⟩, h5⟩, h6⟩ := h
    obtain ⟨l, hl, hw⟩ := hds_ok hN nd loc hfn hcl ws _ (fun p hp => hc p (List.mem_cons_of_mem _ hp)) h6
    obtain ⟨C, eC⟩ := hc (e, w) List.mem_cons_self
    refine ⟨(.ref C, tsW w) :: l, .cons ⟨?_, (okN h5).1, .inl (hcl e C eC)⟩ (fun a oe cls d pn _ _ => pss_one ?_) hl, fun D cls d σ H hwo => ?_⟩
    · unfold glB at h4
      split at h4
      · assumption
      · cases h4
    · exact ps_word (Z := Z.suite a ((a, oe) :: pn)) hN nd loc hfn
    · obtain ⟨C', b, e1, e2, e3, e4⟩ := hwo
      have e1 : cl e = some C' := e1
      rw [eC] at e1
      cases e1
      exact ⟨b, e2, fun hb => e3 hb, fun hb => hw D cls d σ H (e4 hb)⟩
theorem wordOf_imp {K : PySem.W.Frag} {cl : Str → Option Addr} {q q' : Str → Prop} {cls : Value} : ∀ {ws : List (Str × Str)}, wordOf K cl q cls ws → (∀ w, q w → q' w) → wordOf K cl q' cls ws
  | [], h, _ => h
  | _ :: _, ⟨C, b, h1, h2, h3, h4⟩, k => ⟨C, b, h1, h2, fun e => k _ (h3 e), fun e => wordOf_imp (h4 e) k⟩
theorem word_gives {X : Cx} {Ng : List Str} {x a f q : Str} {sg : Scope} {g : Addr} {cdg : Value} {cl : Str → Option Addr} {ws : List (Str × Str)} {bg : List Stmt} (hN : Ng = [a, f]) (nd : Ng.Nodup) (loc : Loc sg f) (hcl : ∀ e C, cl e = some C → X.mg e = some (.ref C)) (hw : ∀ p ∈ ws, ∃ C, cl p.1 = some C)
    (h : isWord sg a f ws bg = true) (hd : (f == ("__debug__" : Str)) = false) (hcd : (f == ("__classdict__" : Str)) = false) : GivesTo X Ng x sg g cdg bg a q (TTw X.K cl ws) := by
  intro fa c' s H Q tl act hc hq
  unfold isWord at h
  split at h <;> first | contradiction | skip
  simp only [Bool.and_eq_true, decide_eq_true_eq] at h
  obtain ⟨⟨⟨⟨rfl, rfl⟩, rfl⟩, rfl⟩, hh⟩ := h
  let Z : Cx := (cxOf C8.CX0 X.prog X.w X.K X.mg X.base Ng x sg g cdg X.A X.stack s H C8.E0).nox
  have zN : Z.N = [a, f] := hN
  have znd : Z.N.Nodup := nd
  have zfn : Z.fn f = true := rfl
  obtain ⟨l, hl, lw⟩ := hds_ok (Z := Z) (cl := cl) zN znd loc zfn hcl ws _ hw hh
  have ret : ∀ p p', PS Z (.Return (some (.Name f p)) p') (tRet (tVar 1)) := fun p p' => ps_ret (X := Z) (pe_var (X := Z) (i := 1) (x := f) (by rw [zN]; rfl) (by rcases loc with z | z; exact .inl z; exact .inr (.inl z)) hd hcd)
  refine ⟨_, pss_cons (ps_word zN znd loc zfn) (pss_cons (ps_try_many (X := Z) (Wout := fun _ _ _ _ => False)
    (tb := fun W D σ H => ∃ Ech : XK, (∀ cls d σ' H', Ech cls d H' → W cls d σ' H') ∧ σ[0]? = some (some (.ref fa)) ∧ H c' = some (CodeO c' q) ∧ tl Ech H (fun _ H' => D.nx σ H'))
    rfl rfl takes_none5 (fun W pn xe tk _ => pss_one ⟨fun pins s' σ H' D I h' => ?_⟩) hl) (pss_one (ret _ _))), fun _ => ?_⟩
  · obtain ⟨Ech, hW, h1, h2, h3⟩ := h'
    exact (ps_expr (act W pn xe Ech _ _ tk hW)).run pins s' σ H' D I ⟨h1, h2, h3⟩
  · refine ⟨fun cls _ H' => wordOf X.K cl (fun w => Q (.str w) H') cls ws, fun cls d σ' H' hwo => lw _ cls d σ' H' (wordOf_imp hwo fun w hq a _ hlen => ?_), ?_, hc, ?_⟩
    · exact ⟨.str w, List.getElem?_set_self (by rw [hlen]; decide), hq⟩
    · rw [hN]; rfl
    · refine cast (congrArg (tl _ H) ?_) hq
      funext v H'
      rw [hN]
      exact propext ⟨fun z => ⟨_, rfl, z⟩, fun ⟨v, e, z⟩ => by cases e; exact z⟩
end G
/-! G.Try: a call in a lambda, the word of its error: against the slots. -/
namespace G
open PySem L2 LamX
theorem EnvR.ext {g : Gr} {ows : List Addr} {σ : St} {H H1 : Hp} {δ : G.Env} {P : Addr} {t : Array Value} (e : EnvR g ows σ H δ) (hP : P ∈ g.ps) (h0 : g.H0 P = some (.tbl t)) (x : ExtP P H H1) (n : TabN H H1 P lawQ) :
    EnvR g ows σ H1 δ ∧ Same (hid ows H) (hid ows H1) := by
  have pow := e.psub P hP
  have sm : Same (hid ows H) (hid ows H1) := fun a o h => by
    unfold hid at h ⊢
    split at h
    · cases h
    · rename_i na
      rw [if_neg na]
      exact x a o (fun z => na (by rw [z]; exact pow)) h
  have eq : ∀ a ∈ ows, a ≠ P → H1 a = H a := fun a ha hne => by
    cases q : H a with
    | none => exact absurd q (e.dom a ha)
    | some o => exact x a o hne q
  obtain ⟨t1, n1, n2, n3⟩ := n
  have tb := e.tab P hP t h0
  have tP : TabH ows H1 P := by
    refine ⟨t1, n1, n2, fun pos cv hc => ?_⟩
    obtain ⟨c, e1, e2, e3⟩ := n3 pos cv hc
    refine ⟨c, e1, hid_of e2 fun hco => ?_⟩
    rcases e3 with e3 | ⟨t0, pos0, e3, e4⟩
    · exact e.dom c hco e3
    · obtain ⟨t2, k1, k2, k3⟩ := tb
      rw [k1] at e3
      cases e3
      obtain ⟨c2, k4, k5⟩ := k3 pos0 _ e4
      cases k4
      unfold hid at k5
      rw [if_pos hco] at k5
      cases k5
  refine ⟨⟨e.len, fun a u ha q => x a u (fun z => ha (by rw [z]; exact hP)) (e.base a u ha q), e.psub, fun a ha => ?_, fun i s q => ?_, e.inj, e.par, fun P' hP' t' ht' => ?_, e.need⟩, sm⟩
  · by_cases hne : a = P
    · rw [hne, n1]; exact fun z => nomatch z
    · rw [eq a ha hne]; exact e.dom a ha
  · have h2 := e.slot i s q
    cases s with
    | no => trivial
    | ro d =>
      obtain ⟨v, h3, h4⟩ := h2
      exact ⟨v, h3, h4.mono sm⟩
    | ow b u =>
      obtain ⟨a, g1, g2, g3, g4⟩ := h2
      have ne : a ≠ P := fun z => by
        have m := g4.mut
        obtain ⟨t2, k⟩ := tb.some
        rw [z, k] at m
        exact m
      refine ⟨a, g1, g2, g3, ?_⟩
      rw [eq a g2 ne]
      exact g4.mono sm
  · by_cases hne : P' = P
    · rw [hne]; exact tP
    · exact (e.tab P' hP' t' ht').mono (eq P' (e.psub P' hP') hne) sm
theorem TabH.tabS {ows : List Addr} {H : Hp} {P : Addr} (h : TabH ows H P) : TabS H P lawQ := by
  obtain ⟨t, h1, h2, h3⟩ := h
  refine ⟨t, h1, h2, fun pos cv hc => ?_⟩
  obtain ⟨c, e1, e2⟩ := h3 pos cv hc
  exact ⟨c, e1, hid_same _ _ _ _ e2⟩
/-- which class is which: leaf classes of the module -/
def Leafs (K : PySem.W.Frag) (cl : Str → Option Addr) (ws : List (Str × Str)) : Prop := (∀ p ∈ ws, ∃ C, cl p.1 = some C) ∧ ∀ (x : Str) (C : Addr), (ws.lookup x).isSome → cl x = some C → ∀ p ∈ ws, ∀ C', cl p.1 = some C' → PySem.W.exmOne K (.ref C) (.ref C') = some (decide (x = p.1))
theorem wordOf_leaf {K : PySem.W.Frag} {cl : Str → Option Addr} {q : Str → Prop} {x u : Str} {C : Addr} (hC : cl x = some C) : ∀ (ws : List (Str × Str)), (∀ p ∈ ws, ∃ C', cl p.1 = some C') → (∀ p ∈ ws, ∀ C', cl p.1 = some C' → PySem.W.exmOne K (.ref C) (.ref C') = some (decide (x = p.1))) →
    ws.lookup x = some u → q u → wordOf K cl q (.ref C) ws
  | [], _, _, h, _ => by simp at h
  | (e, w) :: r, h1, h2, h, hq => by
    obtain ⟨C', hC'⟩ := h1 (e, w) List.mem_cons_self
    refine ⟨C', decide (x = e), hC', h2 (e, w) List.mem_cons_self C' hC', fun hb => ?_, fun hb => ?_⟩
    · have hb : x = e := of_decide_eq_true hb
      subst hb
      simp at h
      rw [h]; exact hq
    · have hb : x ≠ e := of_decide_eq_false hb
      have h' : r.lookup x = some u := by
        rw [List.lookup_cons] at h
        rw [show (x == e) = false from beq_eq_false_iff_ne.2 hb] at h
        exact h
      exact wordOf_leaf hC r (fun p hp => h1 p (List.mem_cons_of_mem _ hp)) (fun p hp => h2 p (List.mem_cons_of_mem _ hp)) h' hq
theorem rv_str {g : Gr} {ows : List Addr} {σ : L2.St} {H : Hp} {u : Str} : RvR g ows σ H (.d (.str u)) (.str u) := by
  unfold RvR
  simp only [Rep]
theorem te_try {X : Cx} {T : List Fn} {cl : Str → Option Addr} {EX : XK} {σ : L2.St} {H : Hp} {Q : VK} {k : Nat} {es : G.E} {ws : List (Str × Str)} (hn : lamN ∈ X.N) (hq : lq X = lawQ) (lf : Leafs X.K cl ws)
    (h : ∃ H0 ps ows δ, EnvR (gr X H0 ps) ows σ H δ ∧ wpO ⟨gr X H0 ps, ows, σ, cl, EX⟩ H (tryO ws ((evs T es δ).bind fun rs δ => callR T k rs δ)) (RvR (gr X H0 ps) ows σ) Q) :
    ∃ P, tabP X.K X.mg X.base P ∧ tLamP X P (TTw X.K cl ws) (fun E => tC0 X T cl E k es) σ H Q := by
  obtain ⟨H0, ps, ows, δ, e, h⟩ := h
  obtain ⟨P, hP, ⟨t, ht⟩, tp⟩ := e.need (decide_eq_true hn)
  refine ⟨P, tp, by rw [hq]; exact (e.tab P hP t ht).tabS, fun H1 x1 n1 => ?_⟩
  rw [hq] at n1
  obtain ⟨e1, s1⟩ := e.ext hP ht x1 n1
  have h := wpO.from (W := ⟨gr X H0 ps, ows, σ, cl, EX⟩) s1 h
  refine ⟨H0, ps, ows, δ, e1, ?_⟩
  cases hr : (evs T es δ).bind fun rs δ => callR T k rs δ with
  | ok r δ' =>
    rw [hr] at h
    cases r with
    | d y => exact fun v H' e2 s2 _ => h (.str (Str.ofString "")) H' e2 s2 rv_str
    | fr o => exact fun p H' e2 own s2 np h0 _ => h (.str (Str.ofString "")) H' (e2.unhide own fun a ha => e.psub a ha) (s2.trans hid_cons) rv_str
  | ex c δ' =>
    rw [hr] at h
    simp only [tryO] at h
    intro H' cv d e2 s2 ⟨C, c1, c2, _⟩
    split at h
    · rename_i u hu
      rw [c2]
      exact wordOf_leaf c1 ws lf.1 (lf.2 c.c C (by rw [hu]; rfl) c1) hu (h (.str u) H' e2 s2 rv_str)
    · exact h.elim
  | no =>
    rw [hr] at h
    exact h.elim
end G
/-! G.Snd5: expressions: what checks is what runs. -/
namespace G
open PySem L2
/-- what the making of a lambda asks of its maker -/
structure WordOk (T : List Fn) (cl : Str → Option Addr) (X : Cx) (c : Ct) (k : Nat) (w : Str) (ws : List (Str × Str)) : Prop where
  nn : lamN ∈ X.N
  q : lq X = lawQ
  code : ∃ cc, lawCode X.K X.mg = some cc ∧ X.env.code = .ref cc
  lvl : ∃ j, k = j + 2 ∧ ∀ (i : Nat) (x : Str) (n : Nat), c.fns[i]? = some (x, n) → ∃ f, T[i]? = some f ∧ FnAt X.prog X.w X.K X.mg X.base cl j x n f
  leaf : Leafs X.K cl ws
  cls : ∀ e C, cl e = some C → X.mg e = some (.ref C)
  fn : ∃ (g : Addr) (a f : Str) (pg : Arguments) (bg : List Stmt) (sg : Scope) (dV kV doc pm cdv ct oc : Value) (an od : Option Addr) (osl : Array (Option Value)),
    X.mg w = some (.ref g) ∧ PySem.W.keepIn X.K (.ref g) = true ∧ X.K.lookup g = some ⟨oc, od, .func (PySem.W.fnOf w w pg bg sg dV kV doc pm an cdv ct), osl⟩ ∧ PySem.W.codeIn X.K cdv w = true ∧
    L2.Binds X.K (PySem.W.fnOf w w pg bg sg dV kV doc pm an cdv ct) [a] [] ∧ FnScope [a, f] [a] sg ∧ L2.Vis sg a ∧ Loc sg f ∧ isWord sg a f ws bg = true ∧ okName w = true ∧ okName a = true ∧ okName f = true
structure CtOk (T : List Fn) (cl : Str → Option Addr) (X : Cx) (c : Ct) (EX : XK) (k : Nat) : Prop where
  N : X.N = c.N
  nd : X.N.Nodup
  sc : X.env.scope = c.sc
  calm : X.calm = true
  room : Room k X.A
  pass : Passes (L2.CX X.prog X.w) X EX
  fns : ∀ (i : Nat) (x : Str) (n : Nat), c.fns[i]? = some (x, n) → ∃ f, T[i]? = some f ∧ FnAt X.prog X.w X.K X.mg X.base cl k x n f
  blt : ∀ x ∈ bltNames, X.mg x = none
  cons : ∀ x d, c.cons.lookup x = some d → ∃ u v, X.mg x = some u ∧ RelV v u ∧ ConR X.K d v
  lam : ∀ w ws, (w, ws) ∈ c.wds → WordOk T cl X c k w ws
section
variable {T : List Fn} {cl : Str → Option Addr} {X : Cx} {c : Ct} {EX : XK} {k : Nat}
theorem CtOk.gl (C : CtOk T cl X c EX k) {x : Str} (h : glB c.sc x = true) : Gl X x := by
  unfold Gl Env.kindOf
  rw [C.sc]
  unfold glB at h
  split at h
  · assumption
  · cases h
theorem CtOk.units (C : CtOk T cl X c EX k) : X.A.units + 64 < cLine := C.room.units
def Tri (T : List Fn) (cl : Str → Option Addr) (X : Cx) (EX : XK) (e : G.E) (x : Expr) : Prop :=
  PE X x (tE X T cl EX e) ∧ (notIf x = true → PT X x (tT X T cl EX e)) ∧ (∀ op l p, x = .BoolOp op l p → PW X x (tT X T cl EX e))
def GE (T : List Fn) (cl : Str → Option Addr) (e : G.E) : Prop := ∀ X c EX k x, CtOk T cl X c EX k → isE c e x = true → Tri T cl X EX e x
def GA (T : List Fn) (cl : Str → Option Addr) (e : G.E) : Prop := (∀ X c EX k l, CtOk T cl X c EX k → isEs c e l = true → PA X l (tEs X T cl EX e) ∧ l.all headOk = true) ∧ ∀ a r, e = .cons a r → GE T cl a
def isTupT : Expr → Bool
  | .Tuple .. => true
  | _ => false
def GI (T : List Fn) (cl : Str → Option Addr) (e : G.E) : Prop := ∀ X c EX k en tg x, CtOk T cl X c EX k → isI c en e x = true → (en = true → isTupT tg = true) → PI X tg x (tI X T cl EX e)
def GR (T : List Fn) (cl : Str → Option Addr) (e : G.E) : Prop := ∀ X c EX k x, CtOk T cl X c EX k → isR c e x = true → PRg X x (tR X T cl EX e) ∧ headOk x = true ∧ (∀ a, e ≠ .itr a) ∧ (∀ a, e ≠ .enm a)
theorem tri_plain {e : G.E} {x : Expr} (h : PE X x (tE X T cl EX e)) (nt : notTest x = true) : Tri T cl X EX e x :=
  ⟨h, fun _ => (pt_val h (true_ok nt X.env)).imp fun _ _ _ q => tt_te q, fun op l p z => by subst z; cases nt⟩
theorem ge_var (i : Nat) : GE T cl (.var i) := by
  intro X c EX k x C h
  unfold isE at h
  split at h <;> first | contradiction | skip
  all_goals (rename_i e; first | cases e | skip)
  simp only [Bool.and_eq_true, decide_eq_true_eq] at h
  exact tri_plain ((pe_var (by rw [C.N]; exact h.1.1) (by rw [C.sc]; exact vis_of h.1.2) (okN h.2).1 (okN h.2).2.1).imp fun _ _ _ q => te_var q) rfl
theorem ge_lit (d : D) : GE T cl (.lit d) := by
  intro X c EX k x C h
  cases x <;> simp only [isE, Bool.false_eq_true] at h
  rename_i kk j p
  unfold litB at h
  split at h <;> first | contradiction | skip
  · exact tri_plain (pe_non.imp fun _ _ _ q => te_lit (fun H => by simp only [Rep]) q) rfl
  · cases (by simpa using h : _ = _)
    exact tri_plain (pe_bl.imp fun _ _ _ q => te_lit (fun H => by simp only [Rep]) q) rfl
  · cases (by simpa using h : _ = _)
    exact tri_plain (pe_int.imp fun _ _ _ q => te_lit (fun H => by simp only [Rep]) q) rfl
  · cases (by simpa using h : _ = _)
    exact tri_plain (pe_str.imp fun _ _ _ q => te_lit (fun H => by simp only [Rep]) q) rfl
theorem ge_con (y : Str) (d : D) : GE T cl (.con y d) := by
  intro X c EX k x C h
  cases x <;> simp only [isE, Bool.false_eq_true] at h
  rename_i z p
  simp only [Bool.and_eq_true, decide_eq_true_eq] at h
  obtain ⟨⟨⟨h1, h2⟩, h3⟩, h4⟩ := h
  split at h4
  · rename_i d' hd
    rw [Bool.and_eq_true] at h4
    cases D.of_same _ _ h4.1
    obtain ⟨u, v, g1, g2, g3⟩ := C.cons _ _ hd
    exact tri_plain ((pe_glob (C.gl h2) g1 g2 (okN h3).1).imp fun _ _ _ q => te_con (g3.rep h4.2) q) rfl
  · cases h4
theorem ge_tup {es : G.E} (g : GA T cl es) : GE T cl (.tup es) := by
  intro X c EX k x C h
  cases x <;> simp only [isE, Bool.false_eq_true] at h
  simp only [Bool.and_eq_true, decide_eq_true_eq] at h
  exact tri_plain ((pe_tup (g.1 X c EX k _ C h.1).1).imp fun _ _ _ q => te_tup h.2 q) rfl
theorem ge_lst {es : G.E} (g : GA T cl es) : GE T cl (.lst es) := by
  intro X c EX k x C h
  cases x <;> simp only [isE, Bool.false_eq_true] at h
  simp only [Bool.and_eq_true, decide_eq_true_eq] at h
  exact tri_plain ((pe_lst (g.1 X c EX k _ C h.1).1).imp fun _ _ _ q => te_lst h.2 q) rfl
theorem ge_bin {o : Bop} {a b : G.E} (ga : GE T cl a) (gb : GE T cl b) : GE T cl (.bin o a b) := by
  intro X c EX k x C h
  cases x <;> simp only [isE, Bool.false_eq_true] at h
  simp only [Bool.and_eq_true, decide_eq_true_eq] at h
  obtain ⟨⟨rfl, h2⟩, h3⟩ := h
  exact tri_plain ((pe_op (opD o) (ga X c EX k _ C h2).1 (gb X c EX k _ C h3).1).imp fun _ _ _ q => te_bin q) rfl
theorem ge_neg {a : G.E} (ga : GE T cl a) : GE T cl (.neg a) := by
  intro X c EX k x C h
  cases x <;> simp only [isE, Bool.false_eq_true] at h
  simp only [Bool.and_eq_true, decide_eq_true_eq] at h
  obtain ⟨rfl, h2⟩ := h
  exact tri_plain ((pe_un un_neg (ga X c EX k _ C h2).1).imp fun _ _ _ q => te_neg q) rfl
theorem ge_not {a : G.E} (ga : GE T cl a) : GE T cl (.not a) := by
  intro X c EX k x C h
  cases x <;> simp only [isE, Bool.false_eq_true] at h
  simp only [Bool.and_eq_true, decide_eq_true_eq] at h
  obtain ⟨⟨rfl, h2⟩, h3⟩ := h
  obtain ⟨p1, p2, _⟩ := ga X c EX k _ C h2
  exact ⟨(pe_not p1).imp fun _ _ _ q => te_not q, fun _ => (pt_not (p2 h3)).imp fun _ _ _ q => tt_not q, fun _ _ _ z => (nomatch z)⟩
theorem ge_cmp {o : Cop} {a b : G.E} (ga : GE T cl a) (gb : GE T cl b) : GE T cl (.cmp o a b) := by
  intro X c EX k x C h
  unfold isE at h
  split at h <;> first | contradiction | skip
  all_goals (rename_i e; first | cases e | skip)
  simp only [Bool.and_eq_true, decide_eq_true_eq] at h
  obtain ⟨⟨⟨rfl, h2⟩, h3⟩, h4⟩ := h
  have p1 := (ga X c EX k _ C h2).1
  have p2 := (gb X c EX k _ C h3).1
  exact ⟨(pe_cmpR (opCN C.units o) p1 p2 (behind_ok h4 _)).imp fun _ _ _ q => te_cmp q, fun _ => (pt_cmpR (opCN C.units o) p1 p2 (behind_ok h4 _)).imp fun _ _ _ q => te_cmp (tt_te q), fun _ _ _ z => (nomatch z)⟩
theorem ge_chn {o p : Cop} {a b d : G.E} (ga : GE T cl a) (gb : GE T cl b) (gd : GE T cl d) : GE T cl (.chn o p a b d) := by
  intro X c EX k x C h
  unfold isE at h
  split at h <;> first | contradiction | skip
  all_goals (rename_i e; first | cases e | skip)
  simp only [Bool.and_eq_true, decide_eq_true_eq] at h
  obtain ⟨⟨⟨⟨⟨⟨rfl, rfl⟩, h2⟩, h3⟩, h4⟩, h5⟩, h6⟩ := h
  have p1 := (ga X c EX k _ C h2).1
  have p2 := (gb X c EX k _ C h3).1
  have p3 := (gd X c EX k _ C h4).1
  have hm : ∀ y z, headOk z = true → lastMarks [cOf o, cOf p] [y, z] = false := fun y z hz => by
    show behindInMarks (cOf p) z = false
    exact behind_ok hz _
  exact ⟨(pe_chain (opCN C.units o) (opCN C.units p) p1 p2 p3 (hm _ _ h6)).imp fun _ _ _ q => te_chn q, fun _ => (pt_chain (opCN C.units o) (opCN C.units p) p1 p2 p3 (hm _ _ h6)).imp fun _ _ _ q => te_chn (tt_te q), fun _ _ _ z => (nomatch z)⟩
theorem ge_and {a b : G.E} (ga : GE T cl a) (gb : GE T cl b) : GE T cl (.and a b) := by
  intro X c EX k x C h
  unfold isE at h
  split at h <;> first | contradiction | skip
  all_goals (rename_i e; first | cases e | skip)
  simp only [Bool.and_eq_true, decide_eq_true_eq] at h
  obtain ⟨⟨⟨⟨rfl, h2⟩, h3⟩, h4⟩, h5⟩ := h
  obtain ⟨p1, p2, _⟩ := ga X c EX k _ C h2
  split at h5
  · obtain ⟨q1, q2, _⟩ := gb X c EX k _ C h5
    have w := fun p => (pw_and (pos := p) (p2 h3) (pw_and1 (q2 h4))).imp fun _ _ _ q => tt_and q
    exact ⟨(pe_and p1 (pe_one q1)).imp fun _ _ _ q => te_and q, fun _ => PW.pt (w _), fun op l p z => w _⟩
  · obtain ⟨q1, _, q3⟩ := gb X c EX k _ C h5
    have w := (pw_and (p2 h3) (q3 _ _ _ rfl)).imp fun _ _ _ q => tt_and q
    exact ⟨(pe_and p1 q1).imp fun _ _ _ q => te_and q, fun _ => PW.pt w, fun op l p z => w⟩
theorem ge_or {a b : G.E} (ga : GE T cl a) (gb : GE T cl b) : GE T cl (.or a b) := by
  intro X c EX k x C h
  unfold isE at h
  split at h <;> first | contradiction | skip
  all_goals (rename_i e; first | cases e | skip)
  simp only [Bool.and_eq_true, decide_eq_true_eq] at h
  obtain ⟨⟨⟨⟨rfl, h2⟩, h3⟩, h4⟩, h5⟩ := h
  obtain ⟨p1, p2, _⟩ := ga X c EX k _ C h2
  split at h5
  · obtain ⟨q1, q2, _⟩ := gb X c EX k _ C h5
    have w := fun p => (pw_or (pos := p) (p2 h3) (pw_or1 (q2 h4))).imp fun _ _ _ q => tt_or q
    exact ⟨(pe_or p1 (pe_one q1)).imp fun _ _ _ q => te_or q, fun _ => PW.pt (w _), fun op l p z => w _⟩
  · obtain ⟨q1, _, q3⟩ := gb X c EX k _ C h5
    have w := (pw_or (p2 h3) (q3 _ _ _ rfl)).imp fun _ _ _ q => tt_or q
    exact ⟨(pe_or p1 q1).imp fun _ _ _ q => te_or q, fun _ => PW.pt w, fun op l p z => w⟩
theorem ge_ifx {t a b : G.E} (gt : GE T cl t) (ga : GE T cl a) (gb : GE T cl b) : GE T cl (.ifx t a b) := by
  intro X c EX k x C h
  cases x <;> simp only [isE, Bool.false_eq_true] at h
  simp only [Bool.and_eq_true, decide_eq_true_eq] at h
  obtain ⟨⟨⟨h1, h2⟩, h3⟩, h4⟩ := h
  exact ⟨(pe_ifExp ((gt X c EX k _ C h1).2.1 h2) (ga X c EX k _ C h3).1 (gb X c EX k _ C h4).1).imp fun _ _ _ q => te_ifx q, fun z => (by cases z), fun _ _ _ z => (nomatch z)⟩
theorem ge_idx {a b : G.E} (ga : GE T cl a) (gb : GE T cl b) : GE T cl (.idx a b) := by
  intro X c EX k x C h
  cases x <;> simp only [isE, Bool.false_eq_true] at h
  simp only [Bool.and_eq_true, decide_eq_true_eq] at h
  obtain ⟨⟨h1, h2⟩, h3⟩ := h
  exact tri_plain ((pe_ix (ixN C.units) (ga X c EX k _ C h1).1 (gb X c EX k _ C h2).1 (plain_ok h3)).imp fun _ _ _ q => te_idx q) rfl
theorem ge_sl {a lo hi : G.E} (ga : GE T cl a) (gl : GE T cl lo) (gh : GE T cl hi) : GE T cl (.sl a lo hi) := by
  intro X c EX k x C h
  unfold isE at h
  split at h <;> first | contradiction | skip
  all_goals (rename_i e; first | cases e | skip)
  simp only [Bool.and_eq_true, decide_eq_true_eq] at h
  obtain ⟨⟨h1, h2⟩, h3⟩ := h
  have part : ∀ {e : G.E} {l : Option Expr}, GE T cl e → (match l with | none => nonE e | some y => isE c e y && !nonE e) = true → PO X l (tO X T cl EX e) := fun {e l} g q => by
    unfold tO
    split at q
    · rw [if_pos q]; exact po_none
    · simp only [Bool.and_eq_true, Bool.not_eq_true'] at q
      rw [if_neg (by rw [q.2]; decide)]
      exact po_some (g X c EX k _ C q.1).1
  exact tri_plain ((pe_slice slD (ga X c EX k _ C h1).1 (part gl h2) (part gh h3)).imp fun _ _ _ q => te_sl q) rfl
theorem ga_nil : GA T cl .nil := by
  refine ⟨?_, fun _ _ z => by cases z⟩
  intro X c EX k l C h
  cases l <;> simp only [isEs, Bool.false_eq_true] at h
  exact ⟨pa_nil.imp fun _ _ _ q => te_nil q, rfl⟩
theorem ga_cons {a es : G.E} (ga : GE T cl a) (gs : GA T cl es) : GA T cl (.cons a es) := by
  refine ⟨?_, fun _ _ z => by cases z; exact ga⟩
  intro X c EX k l C h
  cases l <;> simp only [isEs, Bool.false_eq_true] at h
  simp only [Bool.and_eq_true] at h
  obtain ⟨p1, p2⟩ := gs.1 X c EX k _ C h.2
  exact ⟨(pa_cons (ga X c EX k _ C h.1.1).1 p1 (star_ok h.1.2 _ _)).imp fun _ _ _ q => te_cons q, by rw [List.all_cons, h.1.2, p2]; rfl⟩
theorem isEs_len : ∀ {es : G.E} {l : List Expr}, isEs c es l = true → lenE es = l.length
  | .nil, [], _ => rfl
  | .nil, _ :: _, h => by simp only [isEs, Bool.false_eq_true] at h
  | .cons e es, [], h => by simp only [isEs, Bool.false_eq_true] at h
  | .cons e es, x :: xs, h => by
    simp only [isEs, Bool.and_eq_true] at h
    simp only [lenE, List.length_cons, isEs_len h.2]
  | .var _, l, h | .lit _, l, h | .con _ _, l, h | .tup _, l, h | .lst _, l, h | .dnew, l, h | .bin _ _ _, l, h | .neg _, l, h | .not _, l, h
  | .cmp _ _ _, l, h | .chn _ _ _ _ _, l, h | .and _ _, l, h | .or _ _, l, h | .ifx _ _ _, l, h | .idx _ _, l, h | .sl _ _ _, l, h | .rev _, l, h
  | .call _ _, l, h | .blt _ _, l, h | .mth _ _ _, l, h | .rng1 _, l, h | .rng2 _ _, l, h | .enm _, l, h | .itr _, l, h | .lrng _, l, h | .trng _, l, h | .srt _, l, h | .tryc _ _ _ _, l, h
  | .comp _ _ _ _, l, h | .compc _ _ _ _ _, l, h => by simp only [isEs, Bool.false_eq_true] at h
/-- a call, whatever it hands back -/
theorem pe_callG {i : Nat} {es : G.E} {f : Str} {l : List Expr} {p pos : Pos} (gs : GA T cl es) (C : CtOk T cl X c EX k) (h1 : c.fns[i]? = some (f, l.length)) (h2 : glB c.sc f = true) (h3 : okName f = true) (h4 : isEs c es l = true) (h5 : l.all headOk = true) :
    PE X (.Call (.Name f p) l [] pos) (tC0 X T cl EX i es) := by
  obtain ⟨m, hm, a, fd, ps, F, g1, g2, g3⟩ := C.fns i f _ h1
  obtain ⟨pa, ph⟩ := gs.1 X c EX k l C h4
  cases l with
  | nil =>
    refine (pe_call0 F C.room (C.gl h2) g1 g2 g3 .nil C.pass (okN h3).1).imp fun σ H Q q => ?_
    cases es <;> simp only [isEs, Bool.false_eq_true] at h4
    have z := te_call0 (x := f) hm (isEs_len (c := c) (es := .nil) (l := []) (by simp only [isEs])) q
    exact te_nil z
  | cons y l =>
    rw [List.all_cons, Bool.and_eq_true] at h5
    exact (pe_call F C.room (C.gl h2) g1 g2 g3 .nil C.pass pa (okN h3).1 (star_ok h5.1 _ _) (stars_ok h5.2 _ _)).imp fun σ H Q q => te_call0 (x := f) hm (isEs_len h4) q
theorem ge_call {i : Nat} {es : G.E} (gs : GA T cl es) : GE T cl (.call i es) := by
  intro X c EX k x C h
  unfold isE at h
  split at h <;> first | contradiction | skip
  all_goals (rename_i e; first | cases e | skip)
  simp only [Bool.and_eq_true, decide_eq_true_eq] at h
  obtain ⟨⟨⟨⟨⟨h0, h1⟩, h2⟩, h3⟩, h4⟩, h5⟩ := h
  cases List.isEmpty_iff.mp h0
  exact tri_plain ((pe_callG gs C h1 h2 h3 h4 h5).imp fun _ _ _ q => te_call q) rfl
theorem ge_mth {m : Mth} {o es : G.E} (go : GE T cl o) (gs : GA T cl es) : GE T cl (.mth m o es) := by
  intro X c EX k x C h
  unfold isE at h
  split at h <;> first | contradiction | skip
  all_goals (rename_i e; first | cases e | skip)
  simp only [Bool.and_eq_true, decide_eq_true_eq] at h
  obtain ⟨⟨⟨⟨⟨⟨⟨h0, rfl⟩, rfl⟩, h1⟩, h2⟩, h3⟩, h4⟩, h5⟩ := h
  cases List.isEmpty_iff.mp h0
  exact tri_plain ((pe_bm F.plainAttrs_list F.slot_list_count F.type_list_count (mt_cnt (by have := C.room.un; show X.A.units + 1 + 64 < cLine; omega)) (go X c EX k _ C h1).1 (gs.1 X c EX k _ C h2).1 (base_ok h4 _ _ _) (by rw [star_ok h3]; rfl) h5 (star_ok h3 _ _) rfl).imp fun _ _ _ q => te_mth q) rfl
theorem ge_m1 {o : G.M1} {a b : G.E} (ga : GE T cl a) (gb : GE T cl b) : GE T cl (.m1 o a b) := by
  intro X c EX k x C h
  unfold isE at h
  split at h <;> first | contradiction | skip
  all_goals (rename_i e; first | cases e | skip)
  simp only [Bool.and_eq_true, decide_eq_true_eq] at h
  obtain ⟨⟨⟨⟨⟨⟨h0, rfl⟩, h1⟩, h2⟩, h3⟩, h4⟩, h5⟩ := h
  cases List.isEmpty_iff.mp h0
  have p1 := (ga X c EX k _ C h1).1
  have p2 := (gb X c EX k _ C h2).1
  cases o
  · exact tri_plain ((pe_m1 F.slot_str_split F.type_str_split mt_spl p1 p2 (star_ok h3 _ _) (base_ok h4 _ _ _) h5).imp fun _ _ _ q => te_m1s (by decide) q) rfl
  · exact tri_plain ((pe_m1 F.slot_str_join F.type_str_join mt_joi p1 p2 (star_ok h3 _ _) (base_ok h4 _ _ _) h5).imp fun _ _ _ q => te_m1s (by decide) q) rfl
  · exact tri_plain ((pe_bm F.plainAttrs_list F.slot_list_index F.type_list_index mt_lix p1 (pa_cons p2 pa_nil (star_ok h3 _ _)) (base_ok h4 _ _ _) (by rw [star_ok h3]; rfl) h5 (star_ok h3 _ _) rfl).imp fun _ _ _ q => te_m1l q) rfl
theorem ge_nin {a : G.E} (ga : GE T cl a) : GE T cl (.nin a) := by
  intro X c EX k x C h
  unfold isE at h
  split at h <;> first | contradiction | skip
  all_goals (rename_i e; first | cases e | skip)
  simp only [Bool.and_eq_true, decide_eq_true_eq] at h
  obtain ⟨⟨rfl, h2⟩, h3⟩ := h
  have p2 := (ga X c EX k _ C h2).1
  have hu : X.A.in1.units + 64 < cLine := by have := C.room.un; show X.A.units + 1 + 64 < cLine; omega
  exact ⟨(pe_cmpR (op_nin hu) pe_non p2 (behind_ok h3 _)).imp fun _ _ _ q => te_nin q, fun _ => (pt_cmpR (op_nin hu) pe_non p2 (behind_ok h3 _)).imp fun _ _ _ q => te_nin (tt_te q), fun _ _ _ z => (nomatch z)⟩
theorem ge_cget {kvs : List (Str × Int)} {a : G.E} (ga : GE T cl a) : GE T cl (.cget kvs a) := by
  intro X c EX k x C h
  unfold isE at h
  split at h <;> first | contradiction | skip
  all_goals (rename_i e; first | cases e | skip)
  simp only [Bool.and_eq_true, decide_eq_true_eq] at h
  obtain ⟨⟨⟨⟨⟨⟨⟨⟨h0, rfl⟩, h1⟩, h2⟩, h3⟩, h4⟩, h5⟩, h6⟩, h7⟩ := h
  cases List.isEmpty_iff.mp h0
  obtain ⟨k1, k2, k3, k4⟩ := pps_kv (X := X) h1
  refine tri_plain ((pe_dget1 (by have := C.room.un; omega) (pe_disp k1 k2 k3 (fun z => h4 (List.eq_nil_of_length_eq_zero (by rw [← k4, z]; rfl))) (by omega)) (ga X c EX k _ C h5).1 ⟨rfl, stars_few h6, h7, by rw [star_ok h6]; rfl⟩).imp fun _ _ _ q => te_cget h2 h3 q) rfl
theorem ge_gidx {nm : Str} {kvs : List (Int × Str)} {a : G.E} (ga : GE T cl a) : GE T cl (.gidx nm kvs a) := by
  intro X c EX k x C h
  unfold isE at h
  split at h <;> first | contradiction | skip
  all_goals (rename_i e; first | cases e | skip)
  simp only [Bool.and_eq_true, decide_eq_true_eq] at h
  obtain ⟨⟨⟨⟨⟨rfl, h1⟩, h2⟩, h3⟩, h4⟩, h5⟩ := h
  split at h3 <;> first | contradiction | skip
  rename_i d hd
  obtain ⟨u, v, g1, g2, g3⟩ := C.cons _ _ hd
  unfold frzKv at h3
  split at h3 <;> first | contradiction | skip
  obtain ⟨kv, q1, q2⟩ := g3
  rw [decide_eq_true_eq, q1] at h3
  cases h3
  exact tri_plain ((pe_ix ix_dic (pe_glob (C.gl h1) g1 g2 (okN h2).1) (ga X c EX k _ C h4).1 (plain_ok h5)).imp fun _ _ _ q => te_gidx q2 q) rfl
theorem ge_rev {a : G.E} (ga : GE T cl a) : GE T cl (.rev a) := by
  intro X c EX k x C h
  unfold isE at h
  split at h <;> first | contradiction | skip
  all_goals (rename_i e; first | cases e | skip)
  exact tri_plain ((pe_revL (ga X c EX k _ C h).1).imp fun _ _ _ q => te_rev q) rfl
/-! ### built-ins -/
theorem blt_rule (C : CtOk T cl X c EX k) {b : Blt} (h : bltF b ≠ .none) : (∃ id, bootBuiltins (bltN b) = some (.builtin id) ∧ CallR X (.builtin id) (rCD X.K (bltv b))) ∨ (∃ id, bootBuiltins (bltN b) = some (.type id) ∧ CallR X (.type id) (rCD X.K (bltv b))) := by
  cases b
  case len => exact .inl ⟨_, by decide +kernel, cb_len⟩
  case abs => exact .inl ⟨_, by decide +kernel, cb_abs⟩
  case int => exact .inr ⟨_, by decide +kernel, cb_int⟩
  case str => exact .inr ⟨_, by decide +kernel, cb_str⟩
  case bool => exact .inr ⟨_, by decide +kernel, cb_bool⟩
  case min2 => exact .inl ⟨_, by decide +kernel, cb_min2 C.calm⟩
  case max2 => exact .inl ⟨_, by decide +kernel, cb_max2 C.calm⟩
  case tuple => exact .inr ⟨_, by decide +kernel, cb_tuple⟩
  case list => exact .inr ⟨_, by decide +kernel, cb_list⟩
  case any => exact .inl ⟨_, by decide +kernel, cb_any C.calm⟩
  case all => exact .inl ⟨_, by decide +kernel, cb_all C.calm⟩
  case sum => exact .inl ⟨_, by decide +kernel, cb_sum C.calm⟩
  case maxl => exact .inl ⟨_, by decide +kernel, cb_maxl C.calm⟩
  case minp => exact .inl ⟨_, by decide +kernel, cb_minp C.calm C.units⟩
  case sorted => exact .inl ⟨_, by decide +kernel, cb_sorted⟩
  all_goals exact absurd rfl h
theorem blt_name {b : Blt} : bltN b ∈ bltNames ∧ bltN b ≠ ("__name__" : Str) ∧ (bltN b == ("__debug__" : Str)) = false := by cases b <;> decide +kernel
theorem ty_name {b : Blt} {t : String} (h : isTy b = some t) : bltN b = ("isinstance" : Str) ∧ (t : Str) ∈ bltNames ∧ (t : Str) ≠ ("__name__" : Str) ∧ ((t : Str) == ("__debug__" : Str)) = false ∧ bootBuiltins (t : Str) = some (.type t) := by
  cases b <;> simp only [isTy, Option.some.injEq, reduceCtorEq] at h <;> subst h <;> decide +kernel
theorem blt_call (C : CtOk T cl X c EX k) {b : Blt} {l : List Expr} {p pos : Pos} {t : TA} (pa : PA X l t) (k2 : l.all headOk = true) (k3 : l.length = bltArity b) (k4 : bltF b ≠ .none) (h1 : glB c.sc (bltN b) = true) : PE X (.Call (.Name (bltN b) p) l [] pos) (tCB (rCD X.K (bltv b)) t) := by
  obtain ⟨n1, n2, n3⟩ := blt_name (b := b)
  have hm := C.blt _ n1
  cases l with
  | nil => cases b <;> simp [bltArity] at k3
  | cons y l =>
    rw [List.all_cons, Bool.and_eq_true] at k2
    rcases blt_rule C k4 with ⟨id, g1, g2⟩ | ⟨id, g1, g2⟩
    · exact pe_callB g2 (C.gl h1) hm g1 pa n2 n3 (star_ok k2.1 _ _) (stars_ok k2.2 _ _)
    · exact pe_callTy g2 (C.gl h1) hm g1 pa n2 n3 (star_ok k2.1 _ _) (stars_ok k2.2 _ _)
theorem ge_blt {b : Blt} {es : G.E} (gs : GA T cl es) : GE T cl (.blt b es) := by
  intro X c EX k x C h
  unfold isE at h
  split at h <;> first | contradiction | skip
  all_goals (rename_i e; first | cases e | skip)
  simp only [Bool.and_eq_true, decide_eq_true_eq] at h
  obtain ⟨⟨⟨h0, h1⟩, rfl⟩, h3⟩ := h
  cases List.isEmpty_iff.mp h0
  obtain ⟨n1, n2, n3⟩ := blt_name (b := b)
  have hm := C.blt _ n1
  split at h3
  · rename_i t ht
    obtain ⟨t1, t2, t3, t4, t5⟩ := ty_name ht
    split at h3
    · simp only [Bool.and_eq_true, decide_eq_true_eq] at h3
      obtain ⟨⟨⟨k1, k2⟩, rfl⟩, k4⟩ := h3
      obtain ⟨a, rfl, ka⟩ : ∃ a, es = .cons a .nil ∧ isEs c (.cons a .nil) [_] = true := by
        cases es <;> simp only [isEs, Bool.false_eq_true] at k1
        rename_i a es
        cases es <;> simp only [isEs, Bool.false_eq_true, Bool.and_false] at k1
        exact ⟨a, rfl, by simp only [isEs]; exact k1⟩
      have pa := (gs.1 X c EX k _ C ka).1
      have pi := (gs.2 a _ rfl X c EX k _ C (by simp only [isEs, Bool.and_eq_true] at ka; exact ka.1.1)).1
      refine tri_plain ((pe_callB (id := "isinstance") (cb_is ht) (C.gl h1) hm (by rw [t1]; decide +kernel) (pa_cons pi (pa_cons (pe_bltn (v := .ty t) (C.gl k4) (C.blt _ t2) t5 rfl t3 t4) pa_nil) (star_ok k2 _ _)) n2 n3 (star_ok k2 _ _) ?_).imp fun _ _ _ q => te_is q) rfl
      rfl
    · cases h3
  · simp only [Bool.and_eq_true, decide_eq_true_eq] at h3
    obtain ⟨⟨⟨k1, k2⟩, k3⟩, k4⟩ := h3
    exact tri_plain ((blt_call C (gs.1 X c EX k _ C k1).1 k2 k3 k4 h1).imp fun _ _ _ q => te_blt q) rfl
end
end G
/-! G.Snd6: sources of loops, comprehensions, the theorem of expressions. -/
namespace G
open PySem L2 PySem.Spec PyProof.Rows
section
variable {T : List Fn} {cl : Str → Option Addr} {X : Cx} {c : Ct} {EX : XK} {k : Nat}
theorem pi_enm {e : Expr} {ta : TA} {p pos tpos : Pos} {elts : List Expr} {kk : Nat} (hg : Gl X "enumerate") (hm : X.mg "enumerate" = none) (ha : PA X [e] ta) (hs : starEach [e] X.env = [(false, eval e X.env)]) :
    PI X (.Tuple elts kk tpos) (.Call (.Name "enumerate" p) [e] [] pos) (iEnm X.K ta) := by
  refine ⟨fun pins s σ H R I h => Call_ (ld_blt I hg hm boot_enumerate (PyProof.Rows.callWith_type1 (thn (ha.run pos pins s σ H _ I h) fun us s1 ⟨vs, H1, I1, r1, q1⟩ => ?_) hs rfl))⟩
  obtain ⟨a, ex, q1⟩ := q1
  subst ex
  obtain ⟨rfl, _⟩ : us = [.ref a] ∧ True := by
    cases r1 with
    | cons r rr => cases rr; cases r; exact ⟨rfl, trivial⟩
  have fp : ∀ b ∈ [s1.heap.objs.size + 1, s1.heap.objs.size], FpOk X pins H1 b := fun b hb => by
    have hle : s1.heap.objs.size ≤ b := by
      rcases (show b = s1.heap.objs.size + 1 ∨ b = s1.heap.objs.size by simpa using hb) with z | z
      · rw [z]; exact Nat.le_add_right _ _
      · rw [z]; exact Nat.le_refl _
    exact I1.fpOk hle (I1.hok.fresh hle)
  rcases q1 with ⟨xs, hq, q⟩ | ⟨xs, hq, q⟩
  · obtain ⟨its, rv, p', hz⟩ := I1.list hq
    refine call_enumerate_list p'.isList fun h' he hit hsz hk => wpAny_pyIter_enum he ?_
    exact ⟨s1.heap.objs.size + 1, [s1.heap.objs.size + 1, s1.heap.objs.size], _, _, H1, rfl, I1.kept (t' := s1.toks) hk, turn_enum a (s1.heap.objs.size + 1) s1.heap.objs.size, ⟨⟨.none, he⟩, hit, Nat.succ_ne_self _⟩, fp, q⟩
  · obtain ⟨its, rv, p', hz⟩ := I1.tuple hq
    have hal : a < s1.heap.objs.size := p'.lt
    refine call_enumT p' fun h' he hit hk => wpAny_pyIter_enum he ?_
    exact ⟨s1.heap.objs.size + 1, [s1.heap.objs.size + 1, s1.heap.objs.size], _, _, H1, rfl, I1.kept (t' := s1.toks) hk, turn_enumT a (s1.heap.objs.size + 1) s1.heap.objs.size, ⟨⟨.none, he⟩, hit, Nat.succ_ne_self _, Nat.ne_of_lt hal, Nat.ne_of_lt (Nat.lt_succ_of_lt hal)⟩, fp, q⟩
theorem rg_names : ("range" : Str) ∈ bltNames ∧ ("list" : Str) ∈ bltNames ∧ ("tuple" : Str) ∈ bltNames ∧ ("enumerate" : Str) ∈ bltNames := by decide +kernel
theorem star_one {e : Expr} (h : headOk e = true) (env : PySem.Env) : starEach [e] env = [(false, eval e env)] := star_ok h _ _
theorem gr_rng1 {a : G.E} (ga : GE T cl a) : GR T cl (.rng1 a) := by
  intro X c EX k x C h
  unfold isR at h
  split at h <;> first | contradiction | skip
  all_goals (rename_i e; first | cases e | skip)
  simp only [Bool.and_eq_true, decide_eq_true_eq] at h
  obtain ⟨⟨⟨⟨h0, h1⟩, rfl⟩, h3⟩, h4⟩ := h
  cases List.isEmpty_iff.mp h0
  exact ⟨prg_1 (C.gl h1) (C.blt _ rg_names.1) (ga X c EX k _ C h3).1 (star_ok h4 _ _), rfl, fun _ => (nomatch ·), fun _ => (nomatch ·)⟩
theorem gr_rng2 {a b : G.E} (ga : GE T cl a) (gb : GE T cl b) : GR T cl (.rng2 a b) := by
  intro X c EX k x C h
  unfold isR at h
  split at h <;> first | contradiction | skip
  all_goals (rename_i e; first | cases e | skip)
  simp only [Bool.and_eq_true, decide_eq_true_eq] at h
  obtain ⟨⟨⟨⟨⟨⟨h0, h1⟩, rfl⟩, h3⟩, h4⟩, h5⟩, h6⟩ := h
  cases List.isEmpty_iff.mp h0
  exact ⟨prg_2 (C.gl h1) (C.blt _ rg_names.1) (ga X c EX k _ C h3).1 (gb X c EX k _ C h5).1 (star_ok h4 _ _) (star_ok h6 _ _) (stars_ok (by rw [List.all_cons, h6]; rfl) _ _), rfl, fun _ => (nomatch ·), fun _ => (nomatch ·)⟩
theorem gi_rng1 {a : G.E} (ga : GE T cl a) : GI T cl (.rng1 a) := by
  intro X c EX k en tg x C h _
  unfold isI at h
  split at h <;> first | contradiction | skip
  all_goals (rename_i e; first | cases e | skip)
  simp only [Bool.and_eq_true, decide_eq_true_eq] at h
  obtain ⟨⟨⟨⟨h0, h1⟩, rfl⟩, h3⟩, h4⟩ := h
  cases List.isEmpty_iff.mp h0
  exact (pi_range1 (C.gl h1) (C.blt _ rg_names.1) (pa_cons (ga X c EX k _ C h3).1 pa_nil (star_ok h4 _ _)) (star_one h4 _)).imp fun _ _ _ q => ti_rng1 q
theorem gi_rng2 {a b : G.E} (ga : GE T cl a) (gb : GE T cl b) : GI T cl (.rng2 a b) := by
  intro X c EX k en tg x C h _
  unfold isI at h
  split at h <;> first | contradiction | skip
  all_goals (rename_i e; first | cases e | skip)
  simp only [Bool.and_eq_true, decide_eq_true_eq] at h
  obtain ⟨⟨⟨⟨⟨⟨h0, h1⟩, rfl⟩, h3⟩, h4⟩, h5⟩, h6⟩ := h
  cases List.isEmpty_iff.mp h0
  exact (pi_range2 (C.gl h1) (C.blt _ rg_names.1) (pa_cons (ga X c EX k _ C h3).1 (pa_cons (gb X c EX k _ C h5).1 pa_nil (star_ok h6 _ _)) (star_ok h4 _ _)) (by rw [star_ok h4, star_one h6]) (star_one h6 _)).imp fun _ _ _ q => ti_rng2 q
theorem gi_enm {a : G.E} (ga : GE T cl a) : GI T cl (.enm a) := by
  intro X c EX k en tg x C h ht
  unfold isI at h
  split at h <;> first | contradiction | skip
  all_goals (rename_i e; first | cases e | skip)
  simp only [Bool.and_eq_true, decide_eq_true_eq] at h
  obtain ⟨⟨⟨⟨⟨h0, h1⟩, h2⟩, rfl⟩, h3⟩, h4⟩ := h
  cases List.isEmpty_iff.mp h0
  have hT := ht h1
  cases tg <;> simp only [isTupT, Bool.false_eq_true] at hT
  exact (pi_enm (C.gl h2) (C.blt _ rg_names.2.2.2) (pa_cons (ga X c EX k _ C h3).1 pa_nil (star_ok h4 _ _)) (star_one h4 _)).imp fun _ _ _ q => ti_enm q
theorem gi_itr {a : G.E} (ga : GE T cl a) : GI T cl (.itr a) := by
  intro X c EX k en tg x C h _
  have h : isE c a x = true := by simpa only [isI] using h
  exact (pi_seq (ga X c EX k _ C h).1).imp fun _ _ _ q => ti_itr q
theorem ge_lrng {it : G.E} (gr : GR T cl it) : GE T cl (.lrng it) := by
  intro X c EX k x C h
  unfold isE at h
  split at h <;> first | contradiction | skip
  all_goals (rename_i e; first | cases e | skip)
  simp only [Bool.and_eq_true, decide_eq_true_eq] at h
  obtain ⟨⟨⟨h0, h1⟩, rfl⟩, h3⟩ := h
  cases List.isEmpty_iff.mp h0
  obtain ⟨p1, p2, p3, p4⟩ := gr X c EX k _ C h3
  exact tri_plain ((pe_listRg C.calm (C.gl h1) (C.blt _ rg_names.2.1) p1 (star_ok p2 _ _)).imp fun _ _ _ q => te_lrng q p3 p4) rfl
theorem ge_trng {it : G.E} (gr : GR T cl it) : GE T cl (.trng it) := by
  intro X c EX k x C h
  unfold isE at h
  split at h <;> first | contradiction | skip
  all_goals (rename_i e; first | cases e | skip)
  simp only [Bool.and_eq_true, decide_eq_true_eq] at h
  obtain ⟨⟨⟨h0, h1⟩, rfl⟩, h3⟩ := h
  cases List.isEmpty_iff.mp h0
  obtain ⟨p1, p2, p3, p4⟩ := gr X c EX k _ C h3
  exact tri_plain ((pe_tupRg C.calm (C.gl h1) (C.blt _ rg_names.2.2.1) p1 (star_ok p2 _ _)).imp fun _ _ _ q => te_trng q p3 p4) rfl
theorem ge_srt {es : G.E} (gs : GA T cl es) : GE T cl (.srt es) := by
  intro X c EX k x C h
  unfold isE at h
  split at h <;> first | contradiction | skip
  all_goals (rename_i e; first | cases e | skip)
  simp only [Bool.and_eq_true, decide_eq_true_eq] at h
  obtain ⟨⟨⟨⟨⟨⟨⟨⟨h0, h1⟩, h2⟩, rfl⟩, h3⟩, rfl⟩, h4⟩, h5⟩, h6⟩ := h
  cases List.isEmpty_iff.mp h0
  cases List.isEmpty_iff.mp h1
  obtain ⟨y, rfl⟩ := List.length_eq_one_iff.1 h6
  rw [List.all_cons, Bool.and_eq_true] at h5
  rename_i p1 p2 p3 p4
  have pin : PE X (.Call (.Name "set" p2) [y] [] p3) (tCB (rMkSet X.w X.K) (tEs X T cl EX es)) := pe_callTy (cr_mkSet C.calm) (C.gl h3) (C.blt "set" (by decide +kernel)) (by decide +kernel) (gs.1 X c EX k _ C h4).1 (by decide +kernel) (by decide +kernel) (star_ok h5.1 _ _) (stars_ok h5.2 _ _)
  exact tri_plain ((pe_callB (cr_sortedSet C.calm) (C.gl h2) (C.blt "sorted" (by decide +kernel)) (by decide +kernel) (pa_cons pin pa_nil (star_ok rfl _ _)) (by decide +kernel) (by decide +kernel) (star_ok rfl _ _) rfl).imp fun _ _ _ q => te_srt q) rfl
/-! ### targets -/
/-- the names of targets: X.fn as told -/
theorem names_pg {fn : Str → Bool} (hN : X.N = c.N) (nd : X.N.Nodup) {sc : Scope} (hs : X.env.scope = sc) (hf : ∀ x, fn x = true → X.fn x = true) : ∀ {is : List Nat} {l : List Expr}, namesT c.N sc fn is l = true → PGs X l (gNames is)
    ∧ (assignEach l X.env).length = is.length ∧ (assignEach l X.env).findIdx? (·.1) = none
  | [], [], _ => ⟨pgs_nil, rfl, rfl⟩
  | [], _ :: _, h => by simp only [namesT, Bool.false_eq_true] at h
  | _ :: _, [], h => by simp only [namesT, Bool.false_eq_true] at h
  | i :: is, x :: l, h => by
    unfold namesT at h
    split at h <;> first | contradiction | skip
    rename_i e1 e2
    cases e1
    cases e2
    rw [Bool.and_eq_true] at h
    obtain ⟨h1, h2⟩ := h
    unfold nameT at h1
    simp only [Bool.and_eq_true, Bool.or_eq_true, decide_eq_true_eq] at h1
    obtain ⟨⟨k1, k2⟩, k3⟩ := h1
    obtain ⟨p1, p2, p3⟩ := names_pg hN nd hs hf h2
    refine ⟨pgs_cons (pg_name nd (by rw [hN]; exact k1) (by rw [hs]; exact loc_of k2) (k3.imp (hf _) fun z => by rw [hs]; exact z)) p1 rfl, ?_, ?_⟩
    · show (assignEach l X.env).length + 1 = _
      rw [p2]
      rfl
    · show List.findIdx? _ ((false, _) :: assignEach l X.env) = none
      rw [List.findIdx?_cons, p3]
      rfl
theorem pg_T {fn : Str → Bool} (hc : X.calm = true) (hN : X.N = c.N) (nd : X.N.Nodup) {sc : Scope} (hs : X.env.scope = sc) (hf : ∀ x, fn x = true → X.fn x = true) {tg : List Nat} {t : Expr} (h : isT c.N sc fn tg t = true) : PG X t (gT X.K tg) := by
  unfold isT at h
  split at h <;> first | contradiction | skip
  · unfold nameT at h
    simp only [Bool.and_eq_true, Bool.or_eq_true, decide_eq_true_eq] at h
    obtain ⟨⟨k1, k2⟩, k3⟩ := h
    exact pg_name nd (by rw [hN]; exact k1) (by rw [hs]; exact loc_of k2) (k3.imp (hf _) fun z => by rw [hs]; exact z)
  · rw [Bool.and_eq_true, decide_eq_true_eq] at h
    obtain ⟨p1, p2, p3⟩ := names_pg hN nd hs hf h.2
    unfold gT
    split
    · exact absurd rfl h.1
    · exact pg_tup hc p1 p2 p3
theorem CtOk.blk (C : CtOk T cl X c EX k) (s : Shared) (H : Hp) (scope : Scope) (cn : Addr) (cells : List (Str × Addr)) (fp : List Addr) : CtOk T cl (X.blk s H scope (compEnvC scope cells cn X.env) fp) { c with sc := relS scope c.sc } E0 k :=
  ⟨C.N, C.nd, by rw [← C.sc]; rfl, C.calm, C.room, passL, C.fns, C.blt, C.cons, fun w ws z => have W := C.lam w ws z
    ⟨W.nn, W.q, W.code, W.lvl, W.leaf, W.cls, W.fn⟩⟩
theorem isT_tup {N : List Str} {sc : Scope} {fn : Str → Bool} {tg : List Nat} {t : Expr} (h : isT N sc fn tg t = true) : (tg.length != 1) = true → isTupT t = true := by
  intro z
  unfold isT at h
  split at h <;> first | contradiction | rfl | (simp at z)
theorem CtOk.pg_blk (C : CtOk T cl X c EX k) (s : Shared) (H : Hp) {scope : Scope} (cn : Addr) (cells : List (Str × Addr)) (fp : List Addr) {tg : List Nat} {t : Expr} (h : isT c.N (relS scope c.sc) (fnB scope) tg t = true) : PG (X.blk s H scope (compEnvC scope cells cn X.env) fp) t (gT X.K tg) :=
  pg_T (X := X.blk s H scope (compEnvC scope cells cn X.env) fp) (c := c) C.calm C.N C.nd (by rw [← C.sc]; rfl) (fun _ z => z) h
theorem ge_comp {vs tg : List Nat} {it elt : G.E} (gi : GI T cl it) (ge : GE T cl elt) : GE T cl (.comp vs tg it elt) := by
  intro X c EX k x C h
  unfold isE at h
  split at h <;> first | contradiction | skip
  all_goals (rename_i e; first | cases e | skip)
  simp only [Bool.and_eq_true, decide_eq_true_eq] at h
  obtain ⟨⟨⟨⟨⟨⟨rfl, h1⟩, h2⟩, h3⟩, h4⟩, h5⟩, h6⟩ := h
  have ok := blkOk_by h4
  rw [← C.N, ← C.sc] at ok
  have htg : ∀ i ∈ tg, i ∈ vs := fun i hi => by simpa using List.all_eq_true.mp h5 i hi
  rename_i pos
  have pl := pe_lc (pos := pos) (tt := tYes) (te := tE X T cl E0 elt) C.calm C.nd (gi X c EX k _ _ _ C h1 (isT_tup h3)) ok (fun s H cn cells fp => C.pg_blk s H cn cells fp h3) (fun _ _ _ _ _ => pts_nil)
    (fun s H cn cells fp => (ge _ _ E0 k _ (C.blk s H _ cn cells fp) h6).1) (fun _ => folded_ok h2 _ _)
  rw [ownOf_snd] at pl
  exact tri_plain (pl.imp fun _ _ _ q => te_comp htg q) rfl
theorem ge_compc {vs tg : List Nat} {it cd elt : G.E} (gi : GI T cl it) (gc : GE T cl cd) (ge : GE T cl elt) : GE T cl (.compc vs tg it cd elt) := by
  intro X c EX k x C h
  unfold isE at h
  split at h <;> first | contradiction | skip
  all_goals (rename_i e; first | cases e | skip)
  simp only [Bool.and_eq_true, decide_eq_true_eq] at h
  obtain ⟨⟨⟨⟨⟨⟨⟨⟨rfl, h1⟩, h2⟩, h3⟩, h4⟩, h5⟩, h6⟩, h7⟩, h8⟩ := h
  have ok := blkOk_by h4
  rw [← C.N, ← C.sc] at ok
  have htg : ∀ i ∈ tg, i ∈ vs := fun i hi => by simpa using List.all_eq_true.mp h5 i hi
  rename_i pos
  have pl := pe_lc (pos := pos) (tt := tT X T cl E0 cd) (te := tE X T cl E0 elt) C.calm C.nd (gi X c EX k _ _ _ C h1 (isT_tup h3)) ok (fun s H cn cells fp => C.pg_blk s H cn cells fp h3)
    (fun s H cn cells fp => pts_one ((gc _ _ E0 k _ (C.blk s H _ cn cells fp) h7).2.1 h8))
    (fun s H cn cells fp => (ge _ _ E0 k _ (C.blk s H _ cn cells fp) h6).1) (fun _ => folded_ok h2 _ _)
  rw [ownOf_snd] at pl
  exact tri_plain (pl.imp fun _ _ _ q => te_compc htg q) rfl
/-- what checks in the lambda, at its own context -/
theorem CtOk.lamb {j : Nat} (C : CtOk T cl X c EX k) (hf : ∀ (i : Nat) (x : Str) (n : Nat), c.fns[i]? = some (x, n) → ∃ f, T[i]? = some f ∧ FnAt X.prog X.w X.K X.mg X.base cl j x n f) (A : Around) (outer : List PySem.Env) (s : Shared) (H : Hp) (E : XK) (scope : Scope) (f c' : Addr) (hr : Room j (A.deeper (LamX.lamEnv X scope s.heap.objs.size f c'))) :
    CtOk T cl (LamX.lamCx X A outer s H E scope f c') { c with sc := scope, wds := [] } E j :=
  ⟨C.N, C.nd, rfl, rfl, hr, passes_call (takes_of rfl rfl rfl rfl) (fun _ _ _ _ h => h), hf, C.blt, C.cons, fun _ _ z => nomatch z⟩
theorem pe_ex {e : Expr} {t : Addr → TE} {p : Addr → Prop} (h : ∀ P, p P → PE X e (t P)) : PE X e (fun σ H Q => ∃ P, p P ∧ t P σ H Q) := ⟨fun pins s σ H Q I ⟨P, hp, hq⟩ => (h P hp).run pins s σ H Q I hq⟩
theorem ge_tryc {w : Str} {ws : List (Str × Str)} {i : Nat} {es : G.E} (gs : GA T cl es) : GE T cl (.tryc w ws i es) := by
  intro X c EX k x C h
  unfold isE at h
  split at h <;> first | contradiction | skip
  all_goals (rename_i e; first | cases e | skip)
  simp only [Bool.and_eq_true, decide_eq_true_eq] at h
  obtain ⟨⟨⟨⟨⟨⟨⟨⟨⟨⟨⟨h0, h1⟩, rfl⟩, h2⟩, h3⟩, h4⟩, h5⟩, h6⟩, h7⟩, h8⟩, h9⟩, h10⟩ := h
  cases List.isEmpty_iff.mp h0
  cases List.isEmpty_iff.mp h1
  have W := C.lam _ _ h4
  obtain ⟨j, rfl, hl⟩ := W.lvl
  obtain ⟨cc, hc1, hc2⟩ := W.code
  obtain ⟨g, a, f, pg, bg, sg, dV, kV, doc, pm, cdv, ct, oc, an, od, osl, w1, w2, w3, w4, w5, w6, w7, w8, w9, w10, w11, w12⟩ := W.fn
  rename_i x p1 f1 p2 l p3 sc1 p4 p5
  have gv := word_gives (X := X) (x := x) (g := g) (cdg := cdv) (q := lq X) (Ng := [a, f]) rfl w6.nd w8 W.cls W.leaf.1 w9 (okN w12).1 (okN w12).2.1
  suffices hp : PE X (.Call (.Name x p1) [.Lambda ⟨[], [], none, [], [], none, []⟩ (.Call (.Name f1 p2) l [] p3) sc1 p4] [] p5) (fun σ H Q => ∃ P, tabP X.K X.mg X.base P ∧ tLamP X P (TTw X.K cl ws) (fun E => tC0 X T cl E i es) σ H Q) by
    refine tri_plain (hp.imp fun σ H Q q => ?_) rfl
    obtain ⟨H0, ps, ows, δ, e, q⟩ := q
    simp only [ev] at q
    exact te_try W.nn W.q W.leaf ⟨H0, ps, ows, δ, e, q⟩
  refine pe_ex fun P hP => ?_
  · obtain ⟨c2, q1, q2⟩ := hP
    rw [hc1] at q1
    cases q1
    exact pe_lamP (C.gl h2) w1 w2 w3 w4 w5 w6 rfl w7 gv q2 hc2 C.room (by rw [C.sc]; exact LamX.lamS_by h5) rfl (fun _ _ _ _ _ => rfl)
      (fun A outer s H E f c' hr => pe_callG gs (C.lamb hl A outer s H E _ f c' hr) h6 h7 h8 h9 h10) (okN w10).1 (okN w11).1 (okN w11).2.1
theorem g_all (T : List Fn) (cl : Str → Option Addr) (e : G.E) : GE T cl e ∧ GA T cl e ∧ GI T cl e ∧ GR T cl e := by
  have noE : ∀ {e : G.E}, (∀ c x, isE c e x = false) → GE T cl e := fun h X c EX k x C q => by rw [h] at q; cases q
  have noA : ∀ {e : G.E}, (∀ c x, isEs c e x = false) → (∀ a r, e ≠ .cons a r) → GA T cl e := fun h n => ⟨fun X c EX k x C q => (by rw [h] at q; cases q), fun a r z => absurd z (n a r)⟩
  have noI : ∀ {e : G.E}, (∀ c en x, isI c en e x = false) → GI T cl e := fun h X c EX k en tg x C q => by rw [h] at q; cases q
  have noR : ∀ {e : G.E}, (∀ c x, isR c e x = false) → GR T cl e := fun h X c EX k x C q => by rw [h] at q; cases q
  induction e with
  | var i => exact ⟨ge_var i, noA (fun _ _ => by simp only [isEs]) (fun _ _ => (nomatch ·)), noI (fun _ _ _ => by simp only [isI]), noR (fun _ _ => by simp only [isR])⟩
  | lit d => exact ⟨ge_lit d, noA (fun _ _ => by simp only [isEs]) (fun _ _ => (nomatch ·)), noI (fun _ _ _ => by simp only [isI]), noR (fun _ _ => by simp only [isR])⟩
  | con x d => exact ⟨ge_con x d, noA (fun _ _ => by simp only [isEs]) (fun _ _ => (nomatch ·)), noI (fun _ _ _ => by simp only [isI]), noR (fun _ _ => by simp only [isR])⟩
  | nil => exact ⟨noE (fun _ x => by cases x <;> simp only [isE]), ga_nil, noI (fun _ _ _ => by simp only [isI]), noR (fun _ _ => by simp only [isR])⟩
  | cons e es h1 h2 => exact ⟨noE (fun _ x => by cases x <;> simp only [isE]), ga_cons h1.1 h2.2.1, noI (fun _ _ _ => by simp only [isI]), noR (fun _ _ => by simp only [isR])⟩
  | tup es h => exact ⟨ge_tup h.2.1, noA (fun _ _ => by simp only [isEs]) (fun _ _ => (nomatch ·)), noI (fun _ _ _ => by simp only [isI]), noR (fun _ _ => by simp only [isR])⟩
  | lst es h => exact ⟨ge_lst h.2.1, noA (fun _ _ => by simp only [isEs]) (fun _ _ => (nomatch ·)), noI (fun _ _ _ => by simp only [isI]), noR (fun _ _ => by simp only [isR])⟩
  | dnew => exact ⟨noE (fun _ x => by cases x <;> simp only [isE]), noA (fun _ _ => by simp only [isEs]) (fun _ _ => (nomatch ·)), noI (fun _ _ _ => by simp only [isI]), noR (fun _ _ => by simp only [isR])⟩
  | bin o a b ha hb => exact ⟨ge_bin ha.1 hb.1, noA (fun _ _ => by simp only [isEs]) (fun _ _ => (nomatch ·)), noI (fun _ _ _ => by simp only [isI]), noR (fun _ _ => by simp only [isR])⟩
  | neg a ha => exact ⟨ge_neg ha.1, noA (fun _ _ => by simp only [isEs]) (fun _ _ => (nomatch ·)), noI (fun _ _ _ => by simp only [isI]), noR (fun _ _ => by simp only [isR])⟩
  | not a ha => exact ⟨ge_not ha.1, noA (fun _ _ => by simp only [isEs]) (fun _ _ => (nomatch ·)), noI (fun _ _ _ => by simp only [isI]), noR (fun _ _ => by simp only [isR])⟩
  | cmp o a b ha hb => exact ⟨ge_cmp ha.1 hb.1, noA (fun _ _ => by simp only [isEs]) (fun _ _ => (nomatch ·)), noI (fun _ _ _ => by simp only [isI]), noR (fun _ _ => by simp only [isR])⟩
  | chn o p a b d ha hb hd => exact ⟨ge_chn ha.1 hb.1 hd.1, noA (fun _ _ => by simp only [isEs]) (fun _ _ => (nomatch ·)), noI (fun _ _ _ => by simp only [isI]), noR (fun _ _ => by simp only [isR])⟩
  | and a b ha hb => exact ⟨ge_and ha.1 hb.1, noA (fun _ _ => by simp only [isEs]) (fun _ _ => (nomatch ·)), noI (fun _ _ _ => by simp only [isI]), noR (fun _ _ => by simp only [isR])⟩
  | or a b ha hb => exact ⟨ge_or ha.1 hb.1, noA (fun _ _ => by simp only [isEs]) (fun _ _ => (nomatch ·)), noI (fun _ _ _ => by simp only [isI]), noR (fun _ _ => by simp only [isR])⟩
  | ifx t a b ht ha hb => exact ⟨ge_ifx ht.1 ha.1 hb.1, noA (fun _ _ => by simp only [isEs]) (fun _ _ => (nomatch ·)), noI (fun _ _ _ => by simp only [isI]), noR (fun _ _ => by simp only [isR])⟩
  | idx a b ha hb => exact ⟨ge_idx ha.1 hb.1, noA (fun _ _ => by simp only [isEs]) (fun _ _ => (nomatch ·)), noI (fun _ _ _ => by simp only [isI]), noR (fun _ _ => by simp only [isR])⟩
  | sl a lo hi ha hl hh => exact ⟨ge_sl ha.1 hl.1 hh.1, noA (fun _ _ => by simp only [isEs]) (fun _ _ => (nomatch ·)), noI (fun _ _ _ => by simp only [isI]), noR (fun _ _ => by simp only [isR])⟩
  | rev a ha => exact ⟨ge_rev ha.1, noA (fun _ _ => by simp only [isEs]) (fun _ _ => (nomatch ·)), noI (fun _ _ _ => by simp only [isI]), noR (fun _ _ => by simp only [isR])⟩
  | m1 o a b ha hb => exact ⟨ge_m1 ha.1 hb.1, noA (fun _ _ => by simp only [isEs]) (fun _ _ => (nomatch ·)), noI (fun _ _ _ => by simp only [isI]), noR (fun _ _ => by simp only [isR])⟩
  | nin a ha => exact ⟨ge_nin ha.1, noA (fun _ _ => by simp only [isEs]) (fun _ _ => (nomatch ·)), noI (fun _ _ _ => by simp only [isI]), noR (fun _ _ => by simp only [isR])⟩
  | cget kvs a ha => exact ⟨ge_cget ha.1, noA (fun _ _ => by simp only [isEs]) (fun _ _ => (nomatch ·)), noI (fun _ _ _ => by simp only [isI]), noR (fun _ _ => by simp only [isR])⟩
  | gidx nm kvs a ha => exact ⟨ge_gidx ha.1, noA (fun _ _ => by simp only [isEs]) (fun _ _ => (nomatch ·)), noI (fun _ _ _ => by simp only [isI]), noR (fun _ _ => by simp only [isR])⟩
  | call i es h => exact ⟨ge_call h.2.1, noA (fun _ _ => by simp only [isEs]) (fun _ _ => (nomatch ·)), noI (fun _ _ _ => by simp only [isI]), noR (fun _ _ => by simp only [isR])⟩
  | blt b es h => exact ⟨ge_blt h.2.1, noA (fun _ _ => by simp only [isEs]) (fun _ _ => (nomatch ·)), noI (fun _ _ _ => by simp only [isI]), noR (fun _ _ => by simp only [isR])⟩
  | mth m o es ho h => exact ⟨ge_mth ho.1 h.2.1, noA (fun _ _ => by simp only [isEs]) (fun _ _ => (nomatch ·)), noI (fun _ _ _ => by simp only [isI]), noR (fun _ _ => by simp only [isR])⟩
  | rng1 a ha => exact ⟨noE (fun _ x => by cases x <;> simp only [isE]), noA (fun _ _ => by simp only [isEs]) (fun _ _ => (nomatch ·)), gi_rng1 ha.1, gr_rng1 ha.1⟩
  | rng2 a b ha hb => exact ⟨noE (fun _ x => by cases x <;> simp only [isE]), noA (fun _ _ => by simp only [isEs]) (fun _ _ => (nomatch ·)), gi_rng2 ha.1 hb.1, gr_rng2 ha.1 hb.1⟩
  | enm a ha => exact ⟨noE (fun _ x => by cases x <;> simp only [isE]), noA (fun _ _ => by simp only [isEs]) (fun _ _ => (nomatch ·)), gi_enm ha.1, noR (fun _ _ => by simp only [isR])⟩
  | itr a ha => exact ⟨noE (fun _ x => by cases x <;> simp only [isE]), noA (fun _ _ => by simp only [isEs]) (fun _ _ => (nomatch ·)), gi_itr ha.1, noR (fun _ _ => by simp only [isR])⟩
  | lrng it h => exact ⟨ge_lrng h.2.2.2, noA (fun _ _ => by simp only [isEs]) (fun _ _ => (nomatch ·)), noI (fun _ _ _ => by simp only [isI]), noR (fun _ _ => by simp only [isR])⟩
  | tryc w ws k es h => exact ⟨ge_tryc h.2.1, noA (fun _ _ => by simp only [isEs]) (fun _ _ => (nomatch ·)), noI (fun _ _ _ => by simp only [isI]), noR (fun _ _ => by simp only [isR])⟩
  | srt es h => exact ⟨ge_srt h.2.1, noA (fun _ _ => by simp only [isEs]) (fun _ _ => (nomatch ·)), noI (fun _ _ _ => by simp only [isI]), noR (fun _ _ => by simp only [isR])⟩
  | trng it h => exact ⟨ge_trng h.2.2.2, noA (fun _ _ => by simp only [isEs]) (fun _ _ => (nomatch ·)), noI (fun _ _ _ => by simp only [isI]), noR (fun _ _ => by simp only [isR])⟩
  | comp vs tg it elt hi he => exact ⟨ge_comp hi.2.2.1 he.1, noA (fun _ _ => by simp only [isEs]) (fun _ _ => (nomatch ·)), noI (fun _ _ _ => by simp only [isI]), noR (fun _ _ => by simp only [isR])⟩
  | compc vs tg it cd elt hi hc he => exact ⟨ge_compc hi.2.2.1 hc.1 he.1, noA (fun _ _ => by simp only [isEs]) (fun _ _ => (nomatch ·)), noI (fun _ _ _ => by simp only [isI]), noR (fun _ _ => by simp only [isR])⟩
end
end G
/-! G.Snd7: statements: readings, one implication a construct. -/
namespace G
open PySem L2
structure GrwS (ows : List Addr) (H : Hp) (ows' : List Addr) (H' : Hp) : Prop where
  sub : ∀ a ∈ ows, a ∈ ows'
  same : Same (hid ows H) (hid ows' H')
theorem GrwS.refl {ows : List Addr} {H : Hp} : GrwS ows H ows H := ⟨fun _ h => h, Same.refl _⟩
theorem GrwS.of {ows : List Addr} {H H' : Hp} (h : Same (hid ows H) (hid ows H')) : GrwS ows H ows H' := ⟨fun _ h => h, h⟩
theorem GrwS.trans {o1 o2 o3 : List Addr} {H1 H2 H3 : Hp} (a : GrwS o1 H1 o2 H2) (b : GrwS o2 H2 o3 H3) : GrwS o1 H1 o3 H3 := ⟨fun x h => b.sub x (a.sub x h), a.same.trans b.same⟩
/-- what a def hands back; o0: what its caller hides -/
def RtR (g : Gr) (o0 oc : List Addr) (H : Hp) : Rt → V → Prop
  | .d x, v => Rep g.K (hid o0 H) x v
  | .fr o, v => ∃ p, v = .ref p ∧ p ∈ oc ∧ g.H0 p = none ∧ OwnOk g.P g.w g.K (hid (p :: o0) H) p (H p) o
def endS (g : Gr) (o0 oc : List Addr) (D : Ends) (σ : St) (H : Hp) : Fl → Prop
  | .nx => D.nx σ H
  | .bk => D.bk σ H
  | .ct => D.ct σ H
  | .rt r => ∀ v, RtR g o0 oc H r v → D.rt v H
structure Sw where
  g : Gr
  cl : Str → Option Addr
  EX : XK
  o0 : List Addr
def wpS (W : Sw) (ows : List Addr) (H : Hp) (o : Out Env Fl) (D : Ends) : Prop := match o with
  | .ok f δ => ∀ σ' ows' H', EnvR W.g ows' σ' H' δ → GrwS ows H ows' H' → endS W.g W.o0 ows' D σ' H' f
  | .ex c δ => ∀ σ' ows' H' cv d, EnvR W.g ows' σ' H' δ → GrwS ows H ows' H' → ExR W.cl c H' cv d → W.EX cv d H'
  | .no => False
section
variable {W : Sw} {ows ows1 : List Addr} {σ : St} {H H1 : Hp} {δ : Env} {D D' : Ends}
theorem wpS.from {o : Out Env Fl} (e : GrwS ows H ows1 H1) (h : wpS W ows H o D) : wpS W ows1 H1 o D := by
  cases o with
  | ok f δ => exact fun σ' ows' H' er gw => h σ' ows' H' er (e.trans gw)
  | ex c δ => exact fun σ' ows' H' cv d er gw => h σ' ows' H' cv d er (e.trans gw)
  | no => exact h
theorem wpS.bind {α β : Type} {o : Out Env α} {f : α → Env → Out Env Fl} {R : Hp → α → β → Prop} {Q : β → Hp → Prop} (h : wpS W ows H (o.bind f) D)
    (k : ∀ r δ1 b H1, EnvR W.g ows σ H1 δ1 → GrwS ows H ows H1 → R H1 r b → wpS W ows H1 (f r δ1) D → Q b H1) : wpO ⟨W.g, ows, σ, W.cl, W.EX⟩ H o R Q := by
  cases o with
  | ok r δ => exact fun b H' er sm rr => k r δ b H' er (.of sm) rr (wpS.from (o := f r δ) (.of sm) h)
  | ex c δ => exact fun H' cv d er sm x => h _ _ H' cv d er (.of sm) x
  | no => exact h
theorem wpS.lift {α : Type} {a? : Option α} {f : α → Env → Out Env Fl} (h : wpS W ows H ((G.lift a? δ).bind f) D) : ∃ a, a? = some a ∧ wpS W ows H (f a δ) D := by
  cases a? with
  | none => exact h.elim
  | some a => exact ⟨a, rfl, h⟩
theorem wpS.seq {o : Out Env Fl} {f : Env → Out Env Fl} (h : wpS W ows H (o.bind fun fl δ => match fl with | .nx => f δ | fl => .ok fl δ) D) {N : St → Hp → Prop}
    (k : ∀ σ' ows' H' δ', EnvR W.g ows' σ' H' δ' → GrwS ows H ows' H' → wpS W ows' H' (f δ') D → N σ' H') : wpS W ows H o { D with nx := N } := by
  cases o with
  | ok fl δ =>
    intro σ' ows' H' er gw
    cases fl with
    | nx => exact k σ' ows' H' δ er gw (wpS.from (o := f δ) gw h)
    | rt r => exact h σ' ows' H' er gw
    | bk => exact h σ' ows' H' er gw
    | ct => exact h σ' ows' H' er gw
  | ex c δ => exact h
  | no => exact h
end
section
variable (X : Cx) (T : List Fn) (cl : Str → Option Addr) (EX : XK)
/-- the reading of a statement -/
def tS (s : S) : TS := fun D σ H => ∃ H0 ps o0 ows δ, EnvR (gr X H0 ps) ows σ H δ ∧ G.Dom o0 H0 ∧ (∀ a ∈ o0, a ∈ ows) ∧ wpS ⟨gr X H0 ps, cl, EX, o0⟩ ows H (exs T s δ) D
end
section
variable {X : Cx} {T : List Fn} {cl : Str → Option Addr} {EX : XK} {H0 : Hp} {ps : Ps} {ows o0 : List Addr} {σ : St} {H : Hp} {δ : Env} {D : Ends}
theorem ts_skip (h : tS X T cl EX .skip D σ H) : tNext D σ H := by
  obtain ⟨H0, ps, o0, ows, δ, e, d, so, h⟩ := h
  exact h σ ows H e .refl
theorem ts_brk (h : tS X T cl EX .brk D σ H) : tBreak D σ H := by
  obtain ⟨H0, ps, o0, ows, δ, e, d, so, h⟩ := h
  exact h σ ows H e .refl
theorem ts_cnt (h : tS X T cl EX .cnt D σ H) : tCont D σ H := by
  obtain ⟨H0, ps, o0, ows, δ, e, d, so, h⟩ := h
  exact h σ ows H e .refl
theorem ts_seq {a b : S} (h : tS X T cl EX (.seq a b) D σ H) : tSeq (tS X T cl EX a) (tS X T cl EX b) D σ H := by
  obtain ⟨H0, ps, o0, ows, δ, e, d, so, h⟩ := h
  simp only [exs] at h
  exact ⟨H0, ps, o0, ows, δ, e, d, so, wpS.seq h fun σ' ows' H' δ' er gw h' => ⟨H0, ps, o0, ows', δ', er, d, fun a ha => gw.sub a (so a ha), h'⟩⟩
theorem ts_asg {i : Nat} {a : E} (h : tS X T cl EX (.asg i a) D σ H) : tAsg (tE X T cl EX a) (gName i) D σ H := by
  obtain ⟨H0, ps, o0, ows, δ, e, d, so, h⟩ := h
  simp only [exs] at h
  refine ⟨H0, ps, ows, δ, e, wpS.bind h fun r δ1 x H1 e1 g1 rx h1 => ?_⟩
  obtain ⟨y, hy, h2⟩ := h1.lift
  obtain ⟨δ2, h3, h4⟩ := h2.lift
  cases asD_some hy
  cases free_set h3
  exact h4 _ ows H1 (e1.setRo rx) .refl
theorem ts_asgT {is : List Nat} {a : E} (h : tS X T cl EX (.asgT is a) D σ H) : tAsg (tE X T cl EX a) (gTup X.K is.length (gNames is)) D σ H := by
  obtain ⟨H0, ps, o0, ows, δ, e, d, so, h⟩ := h
  simp only [exs] at h
  refine ⟨H0, ps, ows, δ, e, wpS.bind h fun r δ1 x H1 e1 g1 rx h1 => ?_⟩
  obtain ⟨y, hy, h2⟩ := h1.lift
  obtain ⟨δ2, h3, h4⟩ := h2.lift
  cases asD_some hy
  exact tup_ok e1 rx h3 fun σ1 e2 _ => h4 σ1 ows H1 e2 .refl
theorem ts_ite {c : E} {a b : S} (h : tS X T cl EX (.ite c a b) D σ H) : tIfS (tT X T cl EX c) (tS X T cl EX a) (tS X T cl EX b) D σ H := by
  obtain ⟨H0, ps, o0, ows, δ, e, d, so, h⟩ := h
  simp only [exs] at h
  refine ⟨H0, ps, ows, δ, e, wpS.bind (o := evB T c δ) h fun t δ1 b' H1 e1 g1 (rx : t = b') h1 => ?_⟩
  subst rx
  cases t with
  | true => exact iteT ⟨H0, ps, o0, ows, δ1, e1, d, so, h1⟩
  | false => exact iteF ⟨H0, ps, o0, ows, δ1, e1, d, so, h1⟩
theorem ts_drop {a : E} (h : tS X T cl EX (.drop a) D σ H) : tDrop (tE X T cl EX a) D σ H := by
  obtain ⟨H0, ps, o0, ows, δ, e, d, so, h⟩ := h
  simp only [exs] at h
  exact ⟨H0, ps, ows, δ, e, wpS.bind h fun r δ1 x H1 e1 g1 rx h1 => h1 σ ows H1 e1 .refl⟩
theorem ts_rais {x m : Str} {C : Addr} (hc : cl x = some C) (h : tS X T cl EX (.rais x m) D σ H) : EX (.ref C) none H := by
  obtain ⟨H0, ps, o0, ows, δ, e, d, so, h⟩ := h
  simp only [exs] at h
  exact h σ ows H (.ref C) none e .refl ⟨C, hc, rfl, rfl⟩
/-! ### new objects -/
/-- what is wanted of a new object -/
def wpF (W : Wi) (H : Hp) (o : Out Env Ob) (Q : VK) : Prop := match o with
  | .ok o δ => ∀ p H', EnvR W.g (p :: W.ows) W.σ H' δ → (∀ (i : Nat) (b : Bool) (o : Ob) (a : Addr), δ[i]? = some (Sl.ow b o) → W.σ[i]? = some (some (.ref a)) → a ∈ W.ows) → Same (hid W.ows H) (hid (p :: W.ows) H') → p ∉ W.ows → W.g.H0 p = none → OwnOk W.g.P W.g.w W.g.K (hid (p :: W.ows) H') p (H' p) o → Q (.ref p) H'
  | .ex c δ => ∀ H' cv d, EnvR W.g W.ows W.σ H' δ → Same (hid W.ows H) (hid W.ows H') → ExR W.cl c H' cv d → W.EX cv d H'
  | .no => False
def tF (X : Cx) (T : List Fn) (cl : Str → Option Addr) (EX : XK) (a : E) : TE := fun σ H Q => ∃ H0 ps ows δ, EnvR (gr X H0 ps) ows σ H δ ∧ wpF ⟨gr X H0 ps, ows, σ, cl, EX⟩ H (evF T a δ) Q
theorem own_in {g : Gr} (e : EnvR g ows σ H δ) : ∀ (i : Nat) (b : Bool) (o : Ob) (a : Addr), δ[i]? = some (Sl.ow b o) → σ[i]? = some (some (.ref a)) → a ∈ ows := fun i b o a h1 h2 => by
  obtain ⟨a', g1, g2, _⟩ := e.slot i _ h1
  rw [h2] at g1
  cases g1
  exact g2
theorem same_new {D : Addr} {u : HO} (n : H D = none) (nd : D ∉ ows) : Same (hid ows H) (hid (D :: ows) (upd H D u)) := fun a o q => by
  have h := hid_same _ _ _ _ q
  have na : a ∉ ows := fun z => by unfold hid at q; rw [if_pos z] at q; cases q
  have ne : a ≠ D := ne_of_none h n
  exact hid_of (by rw [upd_ne ne]; exact h) (by simp only [List.mem_cons, not_or]; exact ⟨ne, na⟩)
theorem wpF.now {o : Ob} {Q : VK} {W : Wi} {H1 : Hp} {δ1 : Env} {p : Addr} {u : HO} (h : wpF W H1 (.ok o δ1) Q) (e : EnvR W.g W.ows W.σ H1 δ1) (n : H1 p = none) (ok : OwnOk W.g.P W.g.w W.g.K (hid (p :: W.ows) (upd H1 p u)) p (some u) o) : Q (.ref p) (upd H1 p u) := by
  obtain ⟨n1, n2⟩ := e.fresh n
  exact h p _ (e.ownNew n (fun a u q => by rw [upd_ne (ne_of_none q n)]; exact q) upd_same) (own_in e) (same_new n n2) n2 n1 (by rw [upd_same]; exact ok)
theorem wpF.from {W : Wi} {H H1 : Hp} {o : Out Env Ob} {Q : VK} (e : Same (hid W.ows H) (hid W.ows H1)) (h : wpF W H o Q) : wpF W H1 o Q := by
  cases o with
  | ok o δ => exact fun p H' er ho sm n z k => h p H' er ho (e.trans sm) n z k
  | ex c δ => exact fun H' cv d er sm x => h H' cv d er (e.trans sm) x
  | no => exact h
theorem wpF.bind {α β : Type} {W : Wi} {o : Out Env α} {f : α → Env → Out Env Ob} {R : Hp → α → β → Prop} {Q : VK} {Q2 : β → Hp → Prop} (h : wpF W H (o.bind f) Q) (k : ∀ r δ1 b H1, o = .ok r δ1 → EnvR W.g W.ows W.σ H1 δ1 → R H1 r b → wpF W H1 (f r δ1) Q → Q2 b H1) : wpO W H o R Q2 := by
  cases o with
  | ok r δ => exact fun b H' er sm rr => k r δ b H' rfl er rr (wpF.from (o := f r δ) sm h)
  | ex c δ => exact h
  | no => exact h
theorem wpF.lift {α : Type} {W : Wi} {a? : Option α} {f : α → Env → Out Env Ob} {Q : VK} (h : wpF W H ((G.lift a? δ).bind f) Q) : ∃ a, a? = some a ∧ wpF W H (f a δ) Q := by
  cases a? with
  | none => exact h.elim
  | some a => exact ⟨a, rfl, h⟩
theorem tf_lst {es : E} {Q : VK} (hz : lenE es ≤ 1000) (h : tF X T cl EX (.lst es) σ H Q) : tLst (tEs X T cl EX es) σ H Q := by
  obtain ⟨H0, ps, ows, δ, e, h⟩ := h
  simp only [evF] at h
  refine ⟨H0, ps, ows, δ, e, wpF.bind h fun rs δ1 vs H1 q1 e1 rx h1 => ?_⟩
  obtain ⟨ds, q2, h2⟩ := h1.lift
  have r := reps_of rx q2
  refine ⟨by rw [r.length, datas_len q2, evs_len q1]; exact Nat.le_trans hz (by decide), fun p n => h2.now e1 n ⟨vs, rfl, ?_⟩⟩
  exact Reps.mono (same_new n (e1.fresh n).2) _ _ r
theorem tf_dnew {Q : VK} (h : tF X T cl EX .dnew σ H Q) : tDNewN X.prog X.w X.K σ H Q := by
  obtain ⟨H0, ps, ows, δ, e, h⟩ := h
  simp only [evF] at h
  intro p o n hd
  exact h.now e n (hd _)
theorem tf_call {k : Nat} {es : E} {Q : VK} (h : tF X T cl EX (.call k es) σ H Q) : tC0 X T cl EX k es σ H Q := by
  obtain ⟨H0, ps, ows, δ, e, h⟩ := h
  refine ⟨H0, ps, ows, δ, e, ?_⟩
  simp only [evF] at h
  cases h1 : evs T es δ with
  | ok rs δ1 =>
    rw [h1] at h
    simp only [Out.bind] at h ⊢
    cases h2 : callR T k rs δ1 with
    | ok r δ2 =>
      rw [h2] at h
      simp only [Out.bind] at h
      cases r with
      | d x => exact h.elim
      | fr o => exact h
    | ex c s => rw [h2] at h; exact h
    | no => rw [h2] at h; exact h
  | ex c s => rw [h1] at h; exact h
  | no => rw [h1] at h; exact h
theorem ts_asgO {i : Nat} {a : E} (h : tS X T cl EX (.asgO i a) D σ H) : tAsg (tF X T cl EX a) (gName i) D σ H := by
  obtain ⟨H0, ps, o0, ows, δ, e, d, so, h⟩ := h
  simp only [exs] at h
  refine ⟨H0, ps, ows, δ, e, ?_⟩
  cases h1 : evF T a δ with
  | ok o δ1 =>
    rw [h1] at h
    simp only [Out.bind] at h
    intro p H1 e1 ho sm n z ok
    split at h
    · refine h _ (p :: ows) H1 (e1.set (s := .ow false o) ⟨p, rfl, List.mem_cons_self, z, ok⟩ (fun q u hs j b w hj hd he => ?_) (fun _ z => nomatch z)) ⟨fun a ha => List.mem_cons_of_mem _ ha, sm⟩
      exact n (ho j b w p hd he)
    · exact h.elim
  | ex c s =>
    rw [h1] at h
    exact fun H' cv d' er sm x => h σ ows H' cv d' er (.of sm) x
  | no => rw [h1] at h; exact h.elim
end
end G
/-! G.Txr: raise with an int that is kept; try: a call, except: the int that is kept. -/
namespace G
open PySem L2
section
variable {X : Cx} {T : List Fn} {cl : Str → Option Addr} {EX : XK} {σ : St} {H : Hp} {D : Ends}
/-- what __init__ keeps -/
def spI (C : Addr) (f : Str) : Sp := fun vs H Q _ => ∃ (a : Addr) (y : V), vs = [.ref a, y] ∧ H a = some (exo a C none) ∧ ∀ d, H d = none → d ≠ a → Q .non (upd (upd H d (exd d [(f, y)])) a (exo a C (some d)))
/-- C(e), its int in the field f -/
abbrev tMkN (te : TE) (C : Addr) (f : Str) : St → Hp → XK → Prop := tMkO C (spI C f) [] (tCons te tNil)
theorem ts_raisN {x f : Str} {a : E} {C : Addr} (hc : cl x = some C) (h : tS X T cl EX (.raisN x f a) D σ H) : tMkN (tE X T cl EX a) C f σ H (fun cls d H' => EX cls d H') := by
  obtain ⟨H0, ps, o0, ows, δ, e, d, so, h⟩ := h
  simp only [exs] at h
  refine ⟨H0, ps, ows, δ, e, wpS.bind h fun r δ1 y H1 e1 g1 rx h1 => ?_⟩
  refine ⟨show 1 ≤ 1000 by decide, fun b hb => ⟨b, y, rfl, upd_same, fun p hp hne => ⟨rfl, p, _, upd_same, (upd_ne hne).trans upd_same, ?_, ?_⟩⟩⟩
  · rw [upd_ne hne] at hp; exact hp
  · rw [upd_ne hne] at hp
    have eu : upd (del (upd (upd (upd H1 b (exo b C none)) p (exd p [(f, y)])) b (exo b C (some p))) b) p (.xd [(f, y)]) = upd H1 p (.xd [(f, y)]) := by
      funext c
      by_cases h1 : c = p
      · rw [h1, upd_same, upd_same]
      · rw [upd_ne h1, upd_ne h1]
        by_cases h2 : c = b
        · rw [h2, del_same, hb]
        · rw [del_ne h2, upd_ne h2, upd_ne h1, upd_ne h2]
    rw [eu]
    split at h1
    · have ri := (repV_of e1 rx (by rfl)).int
      subst ri
      exact h1 σ ows _ (.ref C) (some p) (e1.new hp) (.of (hid_new hp)) ⟨C, hc, rfl, p, rfl, upd_same⟩
    · exact h1.elim
/-- a call whose arguments raise nothing; EX: what is wished of its error -/
theorem callR_sp {ows : List Addr} {H0 H1 : Hp} {ps : Ps} {δ δ1 : Env} {k n : Nat} {es : E} {f : Fn} {rs : List RV} {vs : List V} {Q : VK} (hf : T[k]? = some f) (hn : lenE es = n) (q1 : evs T es δ = .ok rs δ1) (e1 : EnvR (gr X H0 ps) ows σ H1 δ1) (rx : RvRs (gr X H0 ps) ows σ H1 rs vs)
    (h1 : wpC ⟨gr X H0 ps, ows, σ, cl, EX⟩ H1 (callR T k rs δ1) Q) : spD X.prog X.w X.K cl n f vs H1 Q EX := by
  unfold callR at h1
  rw [hf] at h1
  split at h1
  · rename_i f' as hf' ha
    cases hf'
    split at h1
    · rename_i nd
      refine ⟨ows, as, by rw [rvrs_len rx, evs_len q1]; exact hn, e1.dom, args_ok e1 ha rx nd, ?_⟩
      split at h1
      · rename_i r os hr
        split at h1
        · rename_i ok
          rw [hr]
          cases r with
          | d x =>
            intro v H' A rv
            obtain ⟨b1, b2⟩ := back_ok e1 ha rx nd ok A (fun _ h => h) (fun _ h => .inl h)
            exact h1 v H' b1 b2 rv
          | fr o =>
            intro p H' n A oo
            obtain ⟨z1, z2⟩ := e1.fresh n
            obtain ⟨b1, b2⟩ := back_ok e1 ha rx nd ok A (fun _ h => List.mem_cons_of_mem _ h) (fun a h => by
              rcases List.mem_cons.mp h with rfl | h
              · exact .inr ⟨n, oo.some⟩
              · exact .inl h)
            refine h1 p H' b1 (fun i b o a hi hs => ?_) b2 z2 z1 oo
            obtain ⟨b', o', h'⟩ := back_own rs os δ1 i b o hi
            obtain ⟨a', g1, g2, _⟩ := e1.slot i _ h'
            rw [hs] at g1
            cases g1
            exact g2
        · exact h1.elim
      · rename_i c os hr
        split at h1
        · rename_i ok
          rw [hr]
          intro H' cv d A xr
          obtain ⟨b1, b2⟩ := back_ok e1 ha rx nd ok A (fun _ h => h) (fun _ h => .inl h)
          exact h1 H' cv d b1 b2 xr
        · exact h1.elim
      · exact h1.elim
    · exact h1.elim
  · exact h1.elim
/-- the suite: v = n.f -/
def tSuA (n i : Nat) (C : Addr) (f : Str) : Addr → Value → Option Addr → TS := fun a cls d => tAsg (tXf a cls d C f (tVar n)) (gName i)
theorem ts_tryA {i n k m : Nat} {es : E} {x f : Str} {C : Addr} {g : Fn} {Wout : WX} (hf : T[k]? = some g) (hm : lenE es = m) (hc : cl x = some C) (xm : PySem.W.exmOne X.K (.ref C) (.ref C) = some true)
    (h : tS X T cl EX (.tryA i n k es x f) D σ H) :
    tAsg (tCallS (spD X.prog X.w X.K cl m g) (WE (wAs X.K (.ref C) n (tSuA n i C f) Wout D)) (tEs X T cl E0 es)) (gName i) D σ H := by
  obtain ⟨H0, ps, o0, ows, δ, e, dm, so, h⟩ := h
  simp only [exs] at h
  cases q1 : evs T es δ with
  | ok rs δ1 =>
    rw [q1] at h
    simp only [Out.noex] at h
    refine ⟨H0, ps, ows, δ, e, ?_⟩
    rw [q1]
    intro vs H1 e1 s1 rx
    refine callR_sp hf hm q1 e1 rx ?_
    replace h := wpS.from (.of s1) h
    cases q2 : callR T k rs δ1 with
    | ok r δ2 =>
      rw [q2] at h
      cases r with
      | d y =>
        intro v H' e2 s2 rv
        simp only at h
        obtain ⟨δ3, h3, h4⟩ := h.lift
        cases free_set h3
        exact h4 _ ows H' (e2.setRo rv) (.of s2)
      | fr o => exact h.elim
    | ex c δ2 =>
      rw [q2] at h
      intro H' cv d e2 s2 xr
      simp only at h
      split at h
      · rename_i gf v hp
        split at h
        · rename_i hq
          obtain ⟨hq1, rfl, hln⟩ := hq
          obtain ⟨δ3, h3, h4⟩ := wpS.lift h
          cases free_set h3
          obtain ⟨C', k1, rfl, k2⟩ := xr
          rw [hq1] at k1
          have k1 : cl x = some C' := k1
          rw [hc] at k1
          cases k1
          rw [hp] at k2
          obtain ⟨p, rfl, k3⟩ := k2
          refine ⟨true, xm, fun _ a ha => ?_, fun z => nomatch z⟩
          refine ⟨.ref a, ?_, rfl, rfl, p, _, .int v, rfl, k3, by simp [List.lookup], ?_⟩
          · exact List.getElem?_set_self (Nat.lt_of_lt_of_eq hln e2.len.symm)
          · exact h4 _ ows H' (((e2.forget (i := n) (v := some (.ref a))).setRo (by simp only [Rep])).forget) (.of s2)
        · exact h.elim
      · exact h.elim
    | no => rw [q2] at h; exact h.elim
  | ex c δ1 => rw [q1] at h; exact h.elim
  | no => rw [q1] at h; exact h.elim
end
end G
/-! G.Snd8: statements, further: return, stores into objects, loops. -/
namespace G
open PySem L2
section
variable {X : Cx} {T : List Fn} {cl : Str → Option Addr} {EX : XK} {H0 : Hp} {ps : Ps} {ows o0 : List Addr} {σ : St} {H : Hp} {δ : Env} {D : Ends}
theorem same_sub {H : Hp} (so : ∀ a ∈ o0, a ∈ ows) : Same (hid ows H) (hid o0 H) := hid_sub so
theorem same_newS {p : Addr} {u : HO} (so : ∀ a ∈ o0, a ∈ ows) (n : H p = none) : Same (hid ows H) (hid (p :: o0) (upd H p u)) := fun a o q => by
  have h := hid_same _ _ _ _ q
  have na : a ∉ ows := fun z => by unfold hid at q; rw [if_pos z] at q; cases q
  have ne : a ≠ p := ne_of_none h n
  exact hid_of (by rw [upd_ne ne]; exact h) (by simp only [List.mem_cons, not_or]; exact ⟨ne, fun z => na (so a z)⟩)
theorem tr_lst {es : E} (hz : lenE es ≤ 1000) (h : tS X T cl EX (.ret (.lst es)) D σ H) : tRet (tLst (tEs X T cl EX es)) D σ H := by
  obtain ⟨H0, ps, o0, ows, δ, e, d, so, h⟩ := h
  simp only [exs, evR] at h
  refine ⟨H0, ps, ows, δ, e, ?_⟩
  cases q1 : evs T es δ with
  | ok rs δ1 =>
    rw [q1] at h
    simp only [Out.bind] at h
    intro vs H1 e1 sm rx
    cases q2 : datas rs with
    | none => rw [q2] at h; exact h.elim
    | some ds =>
      rw [q2] at h
      have h : wpS _ ows H (.ok (.rt (.fr (.lst ds))) δ1) D := h
      have r := reps_of rx q2
      refine ⟨by rw [r.length, datas_len q2, evs_len q1]; exact Nat.le_trans hz (by decide), fun p n => ?_⟩
      have z := e1.fresh n
      refine h σ (p :: ows) _ (e1.ownNew n (fun a u q => by rw [upd_ne (ne_of_none q n)]; exact q) upd_same) ⟨fun a ha => List.mem_cons_of_mem _ ha, sm.trans (same_new n z.2)⟩ _ ⟨p, rfl, List.mem_cons_self, z.1, vs, upd_same, ?_⟩
      exact Reps.mono (same_newS so n) _ _ r
  | ex c s => rw [q1] at h; exact fun H' cv d' er sm x => h σ ows H' cv d' er (.of sm) x
  | no => rw [q1] at h; exact h.elim
theorem mine_reps {g : Gr} (e : EnvR g ows σ H δ) (so : ∀ a ∈ o0, a ∈ ows) (d : G.Dom o0 g.H0) : ∀ {rs : List RV} {ds : List G.D} {vs : List V}, RvRs g ows σ H rs vs → mine δ rs = true → vals δ rs = some ds → Reps g.K (hid o0 H) ds vs
  | [], _, _, h, _, q => by cases q; cases h; exact Reps.nil
  | r :: rs, _, _, ⟨v, us, h1, h2, h3⟩, hm, q => by
    subst h1
    unfold vals at q
    split at q
    · rename_i x xs q1 q2
      cases q
      cases r with
      | d y =>
        cases q1
        exact Reps.cons (Rep.mono (same_sub so) _ _ h2) (mine_reps e so d h3 (by simpa only [mine] using hm) q2)
      | own i =>
        simp only [mine, Bool.and_eq_true] at hm
        obtain ⟨hm1, hm2⟩ := hm
        refine Reps.cons ?_ (mine_reps e so d h3 hm2 q2)
        split at hm1
        · rename_i ys hi
          simp only [RV.val, hi] at q1
          cases q1
          obtain ⟨a, g1, g2, g3, ws, g4, g5⟩ := e.slot i _ hi
          have h2 : σ[i]? = some (some v) := h2
          rw [g1] at h2
          cases h2
          have g3 : g.H0 a = none := by simpa using g3
          simp only [Rep]
          exact ⟨a, ws, rfl, hid_of g4 (fun z => d a z g3), Reps.mono (same_sub so) _ _ g5⟩
        · cases hm1
    · cases q
theorem tr_tup {es : E} (hz : lenE es ≤ 1000) (h : tS X T cl EX (.ret (.tup es)) D σ H) : tRet (tTup (tEs X T cl EX es)) D σ H := by
  obtain ⟨H0, ps, o0, ows, δ, e, d, so, h⟩ := h
  simp only [exs, evR] at h
  refine ⟨H0, ps, ows, δ, e, ?_⟩
  cases q1 : evs T es δ with
  | ok rs δ1 =>
    rw [q1] at h
    simp only [Out.bind] at h
    intro vs H1 e1 sm rx
    split at h
    · rename_i f o ho
      split at ho
      · rename_i hm
        cases q2 : vals δ1 rs with
        | none => rw [q2] at ho; cases ho
        | some ds =>
          rw [q2] at ho
          cases ho
          have h : wpS _ ows H (.ok (.rt (.d (.tup ds))) δ1) D := h
          have r := mine_reps e1 so d rx hm q2
          have hl : vs.length ≤ sizeLine := by rw [rvrs_len rx, evs_len q1]; exact Nat.le_trans hz (by decide)
          refine ⟨hl, fun p n => ?_⟩
          refine h σ ows _ (e1.new n) (.of (sm.trans (hid_new n))) _ ?_
          have np : p ∉ o0 := fun z => (e1.fresh n).2 (so p z)
          show Rep X.K (hid o0 (upd H1 p (.tup vs))) (.tup ds) (.ref p)
          simp only [Rep]
          exact ⟨p, vs, rfl, .inl (.inl (hid_of upd_same np)), Reps.mono (hid_new n) _ _ r⟩
      · cases ho
    · rename_i c o ho
      split at ho
      · cases q2 : vals δ1 rs with
        | none => rw [q2] at ho; cases ho
        | some ds => rw [q2] at ho; cases ho
      · cases ho
    · exact h.elim
  | ex c s => rw [q1] at h; exact fun H' cv d' er sm x => h σ ows H' cv d' er (.of sm) x
  | no => rw [q1] at h; exact h.elim
theorem tr_call {k : Nat} {es : E} (h : tS X T cl EX (.ret (.call k es)) D σ H) : tRet (tC0 X T cl EX k es) D σ H := by
  obtain ⟨H0, ps, o0, ows, δ, e, d, so, h⟩ := h
  simp only [exs, evR] at h
  refine ⟨H0, ps, ows, δ, e, ?_⟩
  cases q : (evs T es δ).bind (fun rs δ => callR T k rs δ) with
  | ok r δ1 =>
    rw [q] at h
    cases r with
    | d x => exact fun v H' er sm rr => h σ ows H' er (.of sm) v (rr.mono (same_sub so))
    | fr o => exact fun p H' er ho sm n z ok => h σ (p :: ows) H' er ⟨fun a ha => List.mem_cons_of_mem _ ha, sm⟩ _ ⟨p, rfl, List.mem_cons_self, z, ok.mono (hid_sub fun a ha => by
        rcases List.mem_cons.mp ha with rfl | ha
        · exact List.mem_cons_self
        · exact List.mem_cons_of_mem _ (so a ha))⟩
  | ex c s => rw [q] at h; exact fun H' cv d' er sm x => h σ ows H' cv d' er (.of sm) x
  | no => rw [q] at h; exact h.elim
theorem tr_val {a : E} (hp : evR T a δ = (ev T a δ).bind fun x δ => lift (rtR δ x) δ) (e : EnvR (gr X H0 ps) ows σ H δ) (d : G.Dom o0 H0) (so : ∀ a ∈ o0, a ∈ ows) (h : wpS ⟨gr X H0 ps, cl, EX, o0⟩ ows H (exs T (.ret a) δ) D) : tRet (tE X T cl EX a) D σ H := by
  simp only [exs] at h
  rw [hp] at h
  refine ⟨H0, ps, ows, δ, e, ?_⟩
  cases q1 : ev T a δ with
  | ok r δ1 =>
    rw [q1] at h
    simp only [Out.bind] at h
    intro v H1 e1 sm rx
    cases q2 : rtR δ1 r with
    | none => rw [q2] at h; exact h.elim
    | some t =>
      rw [q2] at h
      have h : wpS _ ows H (.ok (.rt t) δ1) D := h
      refine h σ ows H1 e1 (.of sm) v ?_
      cases r with
      | d x => cases q2; exact Rep.mono (same_sub so) _ _ rx
      | own i =>
        unfold rtR at q2
        simp only at q2
        split at q2
        · rename_i o hi
          cases q2
          obtain ⟨b, g1, g2, g3, g4⟩ := e1.slot i _ hi
          have rx : σ[i]? = some (some v) := rx
          rw [g1] at rx
          cases rx
          refine ⟨b, rfl, g2, by simpa using g3, g4.mono (hid_sub fun a ha => ?_)⟩
          rcases List.mem_cons.mp ha with rfl | ha
          · exact g2
          · exact so a ha
        · cases q2
  | ex c s => rw [q1] at h; exact fun H' cv d' er sm x => h σ ows H' cv d' er (.of sm) x
  | no => rw [q1] at h; exact h.elim
/-! ### stores into objects -/
theorem ts_app {i : Nat} {a : E} (h : tS X T cl EX (.app i a) D σ H) : tDrop (tBM X.K "list" rAppend (tVar i) (tCons (tE X T cl EX a) tNil)) D σ H := by
  obtain ⟨H0, ps, o0, ows, δ, e, d, so, h⟩ := h
  simp only [exs] at h
  split at h
  · rename_i hi
    unfold ownL at hi
    split at hi
    · rename_i p xs h0
      obtain ⟨b, g1, g2, g3, vs, g4, g5⟩ := e.slot i _ h0
      refine ⟨.ref b, g1, ?_, H0, ps, ows, δ, e, wpS.bind h fun r δ1 x H1 e1 gw rx h1 => ?_⟩
      · exact .inl ⟨rfl, vs, SqL.of g4⟩
      obtain ⟨y, hy, h2⟩ := h1.lift
      obtain ⟨δ2, h3, h4⟩ := h2.lift
      cases asD_some hy
      unfold appR at h3
      split at h3
      · rename_i q ys hj
        split at h3
        · rename_i hz
          cases h3
          obtain ⟨b', k1, k2, k3, ws, k4, k5⟩ := e1.slot i _ hj
          rw [g1] at k1
          cases k1
          refine ⟨b, ws, x, rfl, rfl, k4, by rw [k5.length]; exact Nat.lt_of_lt_of_le hz big_line, ?_⟩
          refine h4 σ ows _ (e1.change hj g1 ⟨ws ++ [x], rfl, Reps.append k5 (Reps.cons rx Reps.nil)⟩) (.of (hid_change k2))
        · cases h3
      · cases h3
    · cases hi
  · exact h.elim
theorem ts_setI {i : Nat} {kk a : E} (h : tS X T cl EX (.setI i kk a) D σ H) : tAsg (tE X T cl EX a) (gSub (tVar i) (tE X T cl EX kk) fun o j v H Q => rSetL o j v H Q ∨ rPutN X.prog X.w X.K o j v H Q) D σ H := by
  obtain ⟨H0, ps, o0, ows, δ, e, d, so, h⟩ := h
  simp only [exs] at h
  refine ⟨H0, ps, ows, δ, e, wpS.bind h fun r δ1 x H1 e1 gw rx h1 => ?_⟩
  obtain ⟨y, hy, h2⟩ := h1.lift
  cases asD_some hy
  split at h2
  · exact h2.elim
  rename_i hn
  have hn : notOwn δ1 i = false := by simpa using hn
  unfold notOwn at hn
  split at hn
  · rename_i p o hi
    obtain ⟨b, g1, g2, g3, g4⟩ := e1.slot i _ hi
    refine ⟨.ref b, g1, H0, ps, ows, δ1, e1, wpS.bind h2 fun r2 δ2 z H2 e2 gw2 rz h3 => ?_⟩
    obtain ⟨w, hw, h4⟩ := h3.lift
    obtain ⟨δ3, h5, h6⟩ := h4.lift
    cases asD_some hw
    have rx : Rep X.K (hid ows H1) y x := rx
    have rz : Rep X.K (hid ows H2) w z := rz
    have rx := rx.mono gw2.same
    unfold setIR at h5
    split at h5
    · rename_i q ys hj
      obtain ⟨b', k1, k2, k3, ws, k4, k5⟩ := e2.slot i _ hj
      rw [g1] at k1
      cases k1
      obtain ⟨j, rfl⟩ : ∃ j, w = .int j := by
        cases w <;> simp only [reduceCtorEq] at h5
        exact ⟨_, rfl⟩
      · simp only at h5
        split at h5
        · rename_i hz
          cases h5
          simp only [Rep] at rz
          subst rz
          refine .inl ⟨b, ws, j, j.toNat, rfl, rfl, k4, ?_, ?_⟩
          · rw [k5.length]
            unfold L2.ixN
            rw [if_pos hz.1, if_pos (by omega)]
          · exact h6 σ ows _ (e2.change hj g1 ⟨ws.set j.toNat x, rfl, Reps.set _ k5 rx⟩) (.of (hid_change k2))
        · cases h5
    · rename_i q kvs hj
      split at h5
      · rename_i hz
        cases h5
        obtain ⟨a', ea, k2, k4, k5⟩ := dct_of (g := gr X H0 ps) (v := .ref b) e2 hj g1
        cases ea
        obtain ⟨nk, b', n1, n2, rfl⟩ := G.key_of hz.1 rz
        refine .inr ⟨b, hid ows H2, kvs, w, nk, b', y, rfl, hid_same _ _, k4, k5, n1, n2, rfl, rz, rx, hz.2, fun o ho => ?_⟩
        exact h6 σ ows _ (e2.change hj g1 ho) (.of (hid_change k2))
      · cases h5
    · cases h5
  · cases hn
/-! ### loops -/
theorem wpS.loop {W : Sw} {o : Out Env Fl} {f : Env → Out Env Fl} {N : St → Hp → Prop} (h : wpS W ows H (o.bind fun fl δ => match fl with | .nx => f δ | .ct => f δ | .bk => .ok .nx δ | .rt r => .ok (.rt r) δ) D)
    (k : ∀ σ' ows' H' δ', EnvR W.g ows' σ' H' δ' → GrwS ows H ows' H' → wpS W ows' H' (f δ') D → N σ' H') : wpS W ows H o { D with nx := N, ct := N, bk := D.nx } := by
  cases o with
  | ok fl δ =>
    intro σ' ows' H' er gw
    cases fl with
    | nx => exact k σ' ows' H' δ er gw (wpS.from (o := f δ) gw h)
    | rt r => exact h σ' ows' H' er gw
    | bk => exact h σ' ows' H' er gw
    | ct => exact k σ' ows' H' δ er gw (wpS.from (o := f δ) gw h)
  | ex c δ => exact h
  | no => exact h
theorem ts_whl {n : Nat} {c : E} {b : S} (h : tS X T cl EX (.whl n c b) D σ H) : tWhile (tT X T cl EX c) (tS X T cl EX b) D σ H := by
  obtain ⟨H0, ps, o0, ows, δ, e, d, so, h⟩ := h
  simp only [exs] at h
  refine ⟨fun m σ H => ∃ ows δ, EnvR (gr X H0 ps) ows σ H δ ∧ (∀ a ∈ o0, a ∈ ows) ∧ wpS ⟨gr X H0 ps, cl, EX, o0⟩ ows H (loopW (evB T c) (exs T b) m δ) D, ⟨n, ows, δ, e, so, h⟩, ?_⟩
  rintro m σ H ⟨ows, δ, e, so, h⟩
  cases m with
  | zero => exact h.elim
  | succ m =>
    unfold loopW at h
    refine ⟨H0, ps, ows, δ, e, wpS.bind (o := evB T c δ) h fun t δ1 b' H1 e1 g1 (rx : t = b') h1 => ?_⟩
    subst rx
    cases t with
    | false => exact iteF (h1 σ ows H1 e1 .refl)
    | true =>
      refine iteT ⟨_, fun σ' H' w => ⟨m, Nat.lt_succ_self m, w⟩, H0, ps, o0, ows, δ1, e1, d, so, ?_⟩
      exact wpS.loop h1 fun σ' ows' H' δ' er gw h' => ⟨ows', δ', er, fun a ha => gw.sub a (so a ha), h'⟩
theorem for_main {b : S} {g : TG} {g' : G.D → Env → Option Env} {it : E} (hg : ∀ {ows σ H δ δ1 x v} {Q : St → Hp → Prop}, EnvR (gr X H0 ps) ows σ H δ → Rep X.K (hid ows H) x v → g' x δ = some δ1 → (∀ σ1, EnvR (gr X H0 ps) ows σ1 H δ1 → Q σ1 H) → g v σ H Q)
    (e : EnvR (gr X H0 ps) ows σ H δ) (d : G.Dom o0 H0) (so : ∀ a ∈ o0, a ∈ ows) (h : wpS ⟨gr X H0 ps, cl, EX, o0⟩ ows H ((evi T it δ).bind fun xs δ => loopF g' (exs T b) xs δ) D) : tFor (tI X T cl EX it) g (tS X T cl EX b) D σ H := by
  refine ⟨H0, ps, ows, δ, e, wpS.bind h fun xs δ1 J H1 e1 _ wd h1 => ?_⟩
  refine ⟨fun i m σ H => m = xs.length - i ∧ i ≤ xs.length ∧ ∃ ows' δ', EnvR (gr X H0 ps) ows' σ H δ' ∧ GrwS ows H1 ows' H ∧ wpS ⟨gr X H0 ps, cl, EX, o0⟩ ows' H (loopF g' (exs T b) (xs.drop i) δ') D,
    ⟨xs.length, rfl, Nat.zero_le _, ows, δ1, e1, .refl, h1⟩, ?_⟩
  rintro i m σ H ⟨rfl, hi, ows', δ', E, gw, hb⟩
  obtain ⟨w1, w2⟩ := wd i H ows' gw.same E.dom
  by_cases hlt : i < xs.length
  · refine .inr ⟨(w1 hlt).1, fun σ' H' => xs.length - (i + 1) = xs.length - (i + 1) ∧ i + 1 ≤ xs.length ∧ ∃ ows' δ', EnvR (gr X H0 ps) ows' σ' H' δ' ∧ GrwS ows H1 ows' H' ∧ wpS ⟨gr X H0 ps, cl, EX, o0⟩ ows' H' (loopF g' (exs T b) (xs.drop (i + 1)) δ') D,
      fun σ' H' w => ⟨xs.length - (i + 1), by omega, w⟩, fun x H' hy => ?_⟩
    obtain ⟨gr1, rx⟩ := (w1 hlt).2 x H' hy
    obtain ⟨E', s1⟩ := E.grow gr1
    have rx := rx xs[i] (List.getElem?_eq_getElem hlt)
    rw [List.drop_eq_getElem_cons hlt] at hb
    unfold loopF at hb
    obtain ⟨δ2, h2, h3⟩ := (wpS.from (.of s1) hb).lift
    refine hg E' rx h2 fun σ1 E1 => ⟨H0, ps, o0, ows', δ2, E1, d, fun a ha => gw.sub a (so a ha), ?_⟩
    exact wpS.loop h3 fun σ' ows2 H2 δ3 er g2 h' => ⟨rfl, hlt, ows2, δ3, er, (gw.trans (.of s1)).trans g2, h'⟩
  · have z : i = xs.length := by omega
    subst z
    rw [List.drop_length] at hb
    exact .inl ⟨w2 rfl, hb σ ows' H E .refl⟩
theorem ts_for1 {i : Nat} {it : E} {b : S} (h : tS X T cl EX (.for1 i it b) D σ H) : tFor (tI X T cl EX it) (gName i) (tS X T cl EX b) D σ H := by
  obtain ⟨H0, ps, o0, ows, δ, e, d, so, h⟩ := h
  simp only [exs] at h
  exact for_main (fun E rx hs k => by cases free_set hs; exact k _ (E.setRo rx)) e d so h
theorem ts_forT {is : List Nat} {it : E} {b : S} (h : tS X T cl EX (.forT is it b) D σ H) : tFor (tI X T cl EX it) (gTup X.K is.length (gNames is)) (tS X T cl EX b) D σ H := by
  obtain ⟨H0, ps, o0, ows, δ, e, d, so, h⟩ := h
  simp only [exs] at h
  exact for_main (fun E rx hs k => tup_ok E rx hs fun σ1 e1 _ => k σ1 e1) e d so h
/-! ### side by side -/
theorem ts_par2 {i j : Nat} {es : E} (h : tS X T cl EX (.asgP [i, j] es) D σ H) : tPar i j (tEs X T cl EX es) D σ H := by
  obtain ⟨H0, ps, o0, ows, δ, e, d, so, h⟩ := h
  simp only [exs] at h
  refine ⟨H0, ps, ows, δ, e, wpS.bind h fun rs δ1 vs H1 e1 gw rx h1 => ?_⟩
  obtain ⟨ds, h2, h3⟩ := h1.lift
  obtain ⟨δ2, h4, h5⟩ := h3.lift
  obtain ⟨v, us, rfl, v2, us2, rfl, rfl, q⟩ := names_ok (tg := [i, j]) (Q := fun σ' H' => D.nx σ' H') e1 (reps_of rx h2) h4 fun σ1 E1 _ => h5 σ1 ows H1 E1 .refl
  exact ⟨v, v2, rfl, q⟩
theorem ts_par3 {i j l : Nat} {es : E} (h : tS X T cl EX (.asgP [i, j, l] es) D σ H) : tPar3 i j l (tEs X T cl EX es) D σ H := by
  obtain ⟨H0, ps, o0, ows, δ, e, d, so, h⟩ := h
  simp only [exs] at h
  refine ⟨H0, ps, ows, δ, e, wpS.bind h fun rs δ1 vs H1 e1 gw rx h1 => ?_⟩
  obtain ⟨ds, h2, h3⟩ := h1.lift
  obtain ⟨δ2, h4, h5⟩ := h3.lift
  obtain ⟨v, us, rfl, v2, us2, rfl, v3, us3, rfl, rfl, q⟩ := names_ok (tg := [i, j, l]) (Q := fun σ' H' => D.nx σ' H') e1 (reps_of rx h2) h4 fun σ1 E1 _ => h5 σ1 ows H1 E1 .refl
  exact ⟨v, v2, v3, rfl, q⟩
theorem ts_parT {is : List Nat} {es : E} (hz : lenE es ≤ 1000) (h : tS X T cl EX (.asgP is es) D σ H) : tAsg (tTup (tEs X T cl EX es)) (gTup X.K is.length (gNames is)) D σ H := by
  obtain ⟨H0, ps, o0, ows, δ, e, d, so, h⟩ := h
  simp only [exs] at h
  refine ⟨H0, ps, ows, δ, e, ?_⟩
  cases q1 : evs T es δ with
  | ok rs δ1 =>
    rw [q1] at h
    simp only [Out.bind] at h
    intro vs H1 e1 sm rx
    obtain ⟨ds, h2, h3⟩ := (wpS.from (ows1 := ows) (.of sm) h : wpS _ ows H1 ((lift (datas rs) δ1).bind fun ds δ => (lift (setRos δ is ds) δ).bind fun δ _ => .ok .nx δ) D).lift
    obtain ⟨δ2, h4, h5⟩ := h3.lift
    have r := reps_of rx h2
    refine ⟨by rw [r.length, datas_len h2, evs_len q1]; exact Nat.le_trans hz (by decide), fun p n => ?_⟩
    refine ⟨p, vs, rfl, .inl (.inl upd_same), by rw [r.length]; exact setRos_len h4, ?_⟩
    exact names_ok (e1.new n) (Reps.mono (hid_new n) _ _ r) h4 fun σ1 E1 _ => h5 σ1 ows _ E1 (.of (hid_new n))
  | ex c s => rw [q1] at h; exact fun H' cv d' er sm x => h σ ows H' cv d' er (.of sm) x
  | no => rw [q1] at h; exact h.elim
/-! ### side by side, the last of them a new list -/
theorem bind_assoc {S α β γ : Type} (o : Out S α) (f : α → S → Out S β) (g : β → S → Out S γ) : (o.bind f).bind g = o.bind fun a s => (f a s).bind g := by cases o <;> rfl
theorem newL {j : Nat} {p : Addr} {H1 : Hp} {σ1 : St} {δ1 : Env} (d : G.Dom o0 H0) (e1 : EnvR (gr X H0 ps) ows σ1 H1 δ1) (n : H1 p = none) (h : wpS ⟨gr X H0 ps, cl, EX, o0⟩ ows H1 (if free δ1 j then .ok .nx (δ1.set j (.ow false (.lst []))) else .no) D) : D.nx (σ1.set j (some (.ref p))) (upd H1 p (.lst [])) := by
  split at h
  · obtain ⟨n1, n2⟩ := e1.fresh n
    have e2 : EnvR (gr X H0 ps) (p :: ows) σ1 (upd H1 p (.lst [])) δ1 := e1.ownNew n (fun a u q => by rw [upd_ne (ne_of_none q n)]; exact q) upd_same
    refine h _ (p :: ows) _ (e2.set (s := .ow false (.lst [])) ⟨p, rfl, List.mem_cons_self, n1, [], upd_same, Reps.nil⟩ (fun q u hs j' b w hj hd he => ?_) (fun _ z => nomatch z)) ⟨fun a ha => List.mem_cons_of_mem _ ha, same_new n n2⟩
    exact n2 (own_in e1 j' b w p hd he)
  · exact h.elim
theorem ts_l1 {i j : Nat} {a : E} (h : tS X T cl EX (.asgL [i] (.cons a .nil) j) D σ H) : tPar i j (tCons (tE X T cl EX a) (tCons (tLst tNil) tNil)) D σ H := by
  obtain ⟨H0, ps, o0, ows, δ, e, d, so, h⟩ := h
  simp only [exs, evs, bind_assoc] at h
  refine ⟨H0, ps, ows, δ, e, wpS.bind h fun r δ1 x H1 e1 gw rx h1 => ?_⟩
  refine ⟨Nat.zero_le _, fun p n => ⟨x, .ref p, rfl, ?_⟩⟩
  simp only [Out.bind] at h1
  obtain ⟨ds, q1, h2⟩ := h1.lift
  cases r with
  | own k => simp only [datas, reduceCtorEq] at q1
  | d y =>
    simp only [datas, Option.map_some, Option.some.injEq] at q1
    subst q1
    obtain ⟨δ2, q2, h3⟩ := h2.lift
    simp only [setRos] at q2
    cases q3 : setRo δ1 i y with
    | none => rw [q3] at q2; cases q2
    | some δ3 =>
      rw [q3] at q2
      cases q2
      cases free_set q3
      exact newL d (e1.setRo rx) n h3
theorem ts_l2 {i m j : Nat} {a b : E} (h : tS X T cl EX (.asgL [i, m] (.cons a (.cons b .nil)) j) D σ H) : tPar3 i m j (tCons (tE X T cl EX a) (tCons (tE X T cl EX b) (tCons (tLst tNil) tNil))) D σ H := by
  obtain ⟨H0, ps, o0, ows, δ, e, d, so, h⟩ := h
  simp only [exs, evs, bind_assoc] at h
  refine ⟨H0, ps, ows, δ, e, wpS.bind h fun r δ1 x H1 e1 gw rx h1 => ?_⟩
  refine ⟨H0, ps, ows, δ1, e1, wpS.bind h1 fun r2 δ2 x2 H2 e2 gw2 rx2 h2 => ?_⟩
  refine ⟨Nat.zero_le _, fun p n => ⟨x, x2, .ref p, rfl, ?_⟩⟩
  simp only [Out.bind] at h2
  obtain ⟨ds, q1, h3⟩ := h2.lift
  cases r with
  | own k => simp only [datas, reduceCtorEq] at q1
  | d y =>
    cases r2 with
    | own k => simp only [datas, Option.map_none, reduceCtorEq] at q1
    | d y2 =>
      simp only [datas, Option.map_some, Option.some.injEq] at q1
      subst q1
      obtain ⟨δ3, q2, h4⟩ := h3.lift
      simp only [setRos] at q2
      cases q3 : setRo δ2 i y with
      | none => rw [q3] at q2; cases q2
      | some δ4 =>
        rw [q3] at q2
        simp only at q2
        cases q4 : setRo δ4 m y2 with
        | none => rw [q4] at q2; cases q2
        | some δ5 =>
          rw [q4] at q2
          cases q2
          cases free_set q3
          cases free_set q4
          have e3 := e2.setRo (i := i) (RvR.mono gw2.same rx)
          exact newL d (e3.setRo rx2) n h4
end
end G
/-! G.Snd9: statements: the checker, the theorem. -/
namespace G
open PySem L2
/-! ### what is stored how -/
def swapB (sc : Scope) (v : Expr) (y : Str) (py : Pos) : Bool := match v with
  | .ListComp _ _ scope pos => (sc.names.lookup y == some .local) && (py.line == pos.line) && !(scope.names.any fun (n, k) => n == y && (k == .local || k == .cell))
  | _ => false
def notSD : Expr → Bool
  | .SetComp .. => false
  | .DictComp .. => false
  | _ => true
def fnK (sc : Scope) : Bool := match sc.kind with
  | .function => true
  | _ => false
theorem fnK_eq {sc : Scope} (h : fnK sc = true) : sc.kind = .function := by
  unfold fnK at h
  split at h
  · assumption
  · cases h
theorem swap_eq {sc : Scope} {v : Expr} {y : Str} {py : Pos} {l : Nat} {env : PySem.Env} (hs : env.scope = sc) (hk : sc.kind = .function) (hv : notSD v = true) : swapsWith v (some (.Name y py)) l env = pure (swapB sc v y py) := by
  cases v <;> first | rfl | (simp only [notSD, Bool.false_eq_true] at hv) | skip
  unfold swapsWith swapB Env.kindOf Env.blockKind
  rw [hs, hk]
  simp only [Expr.pos]
  rfl
/-- two or three plain names stored side by side -/
def swpB (sc : Scope) (ts vs : List Expr) : Option (Option (List Str)) :=
  if (!(ts.length == 2 || ts.length == 3) || vs.length != ts.length) = true then some none
  else if (vs.any fun | .Starred .. => true | _ => false) = true then some none
  else
    let line := (ts.head?.map (·.pos.line)).getD 0
    let names := ts.filterMap fun
      | .Name id pos => if sc.names.lookup id == some .local && pos.line == line then some id else none
      | _ => none
    if (names.length != ts.length || names.eraseDups.length != names.length) = true then some none
    else if vs.all (foldedForSure 8) = true then some none
    else if vs.all (constantsAlone 8) = true then none
    else some (some names)
theorem swp_eq {sc : Scope} {ts vs : List Expr} {k k2 : Nat} {p p2 : Pos} {env : PySem.Env} {r : Option (List Str)} (hs : env.scope = sc) (hk : sc.kind = .function) (h : swpB sc ts vs = some r) : swappedStores [.Tuple ts k p] (.Tuple vs k2 p2) env = pure r := by
  unfold swappedStores
  unfold swpB at h
  have hb : (env.blockKind != .function) = false := by unfold Env.blockKind; rw [hs, hk]; rfl
  have hkk : env.kindOf = fun x => sc.names.lookup x := by funext x; unfold Env.kindOf; rw [hs]
  simp only [hb, Bool.or_false, hkk]
  split at h
  · rename_i q; simp only [q, if_true]; cases h; rfl
  rename_i q
  simp only [q, if_false]
  refine Eq.trans (if_neg (by decide)) ?_
  split at h
  · rename_i q; cases h; exact if_pos q
  rename_i q; refine Eq.trans (if_neg q) ?_
  simp only at h
  split at h
  · rename_i q; cases h; exact if_pos q
  rename_i q; refine Eq.trans (if_neg q) ?_
  split at h
  · rename_i q; cases h; exact if_pos q
  rename_i q; refine Eq.trans (if_neg q) ?_
  split at h
  · cases h
  rename_i q; refine Eq.trans (if_neg q) ?_
  cases h
  rfl
/-! ### the checker -/
/-- a new object -/
def isF (c : Ct) : E → Expr → Bool
  | .lst es, .List l _ => isEs c es l && decide (lenE es ≤ 1000)
  | .dnew, .Dict ks vs _ => ks.isEmpty && vs.isEmpty
  | .call k es, .Call (.Name f _) l ks _ => ks.isEmpty && decide (c.fns[k]? = some (f, l.length)) && glB c.sc f && okName f && isEs c es l && l.all headOk
  | _, _ => false
def plainR : E → Bool
  | .lst _ => false
  | .tup _ => false
  | .call _ _ => false
  | _ => true
def isRt (c : Ct) : E → Expr → Bool
  | .lst es, .List l _ => isEs c es l && decide (lenE es ≤ 1000)
  | .tup es, .Tuple l _ _ => isEs c es l && decide (lenE es ≤ 1000)
  | .call k es, .Call (.Name f _) l ks _ => ks.isEmpty && decide (c.fns[k]? = some (f, l.length)) && glB c.sc f && okName f && isEs c es l && l.all headOk
  | e, x => plainR e && isE c e x
def isCmp : E → Bool
  | .comp .. => true
  | .compc .. => true
  | _ => false
def isT1 (c : Ct) (i : Nat) (x : Str) : Bool := nameT c.N c.sc (fun _ => true) i x
def isTs (c : Ct) (is : List Nat) (l : List Expr) : Bool := namesT c.N c.sc (fun _ => true) is l
def posLine (p : Pos) (q : Pos) : Bool := p.endLine == q.line
/-- stored side by side -/
def sideB (c : Ct) (l vs : List Expr) (is : List Nat) : Bool := match swpB c.sc l vs with
  | some (some ys) => decide (ys = is.map fun i => c.N.getD i Str.empty) && decide (is.Nodup) && ys.all fun y => decide (c.sc.names.lookup y = some .local)
  | _ => false
mutual
def isS (c : Ct) (xs : List Str) : S → Stmt → Bool
  | .skip, .Pass _ => true
  | .brk, .Break _ => true
  | .cnt, .Continue _ => true
  | .asg i e, .Assign [.Name x p] v _ => isT1 c i x && isE c e v && notSD v && (!swapB c.sc v x p || isCmp e)
  | .asgO i e, .Assign [.Name x p] v _ => isT1 c i x && isF c e v && notSD v && !swapB c.sc v x p
  | .asgT is e, .Assign [.Tuple l _ _] v _ => isTs c is l && isE c e v && notComp v && (match v with | .Tuple .. => false | _ => true)
  | .asgP is es, .Assign [.Tuple l _ _] (.Tuple vs _ _) _ => isTs c is l && isEs c es vs && decide (lenE es ≤ 1000) && (match swpB c.sc l vs with
      | some none => true
      | some (some ys) => decide (ys = is.map fun i => c.N.getD i Str.empty) && decide (is.Nodup) && (is.length == 2 || is.length == 3) && decide (vs.length = is.length) && ys.all fun y => decide (c.sc.names.lookup y = some .local)
      | none => false)
  | .asgL [i] (.cons a .nil) j, .Assign [.Tuple l _ _] (.Tuple [x, .List [] lp] _ _) _ => isTs c [i, j] l && isE c a x && headOk x && sideB c l [x, .List [] lp] [i, j]
  | .asgL [i, m] (.cons a (.cons b .nil)) j, .Assign [.Tuple l _ _] (.Tuple [x, y, .List [] lp] _ _) _ => isTs c [i, m, j] l && isE c a x && headOk x && isE c b y && headOk y && sideB c l [x, y, .List [] lp] [i, m, j]
  | .setI i k e, .Assign [.Subscript (.Name x _) y _] v _ => decide (c.N[i]? = some x) && visB c.sc x && okName x && isE c k y && headOk y && isE c e v && notComp v
  | .app i e, .Expr (.Call (.Attribute (.Name x _) m apos) [y] ks cpos) _ => ks.isEmpty && decide (m = ("append" : Str)) && decide (c.N[i]? = some x) && visB c.sc x && okName x && isE c e y && headOk y && posLine apos cpos
  | .drop e, .Expr x _ => isE c e x && notComp x
  | .ret e, .Return (some x) _ => isRt c e x
  | .ite t a b, .If x p q _ => isE c t x && notIf x && isSs c xs a p && isSs c xs b q
  | .whl _ t b, .While x p [] _ => isE c t x && notIf x && isSs c xs b p
  | .for1 i it b, .For (.Name y _) x p [] _ => isT1 c i y && isI c false it x && headOk x && isSs c xs b p
  | .forT is it b, .For (.Tuple l _ _) x p [] _ => isTs c is l && isI c true it x && headOk x && isSs c xs b p
  | .rais y m, .Raise (some (.Call (.Name x _) [.Constant (.str n) _ _] ks _)) none _ => ks.isEmpty && decide (x = y) && decide (n = m) && glB c.sc x && okName x && xs.contains x && decide (exnF x = none)
  | .raisN y f e, .Raise (some (.Call (.Name x _) [v] ks _)) none _ => ks.isEmpty && decide (x = y) && decide (exnF x = some f) && isE c e v && headOk v && glB c.sc x && okName x && xs.contains x
  | .tryA i n k es x f, .Try [.Assign [.Name y p] (.Call (.Name g gp) (a :: l) ks cp) _] [.ExceptHandler (some (.Name z _)) (some m) [.Assign [.Name y2 p2] (.Attribute (.Name m2 mp) f2 ap) _] _] [] [] _ =>
    ks.isEmpty && decide (c.fns[k]? = some (g, (a :: l).length)) && glB c.sc g && okName g && isEs c es (a :: l) && headOk a && l.all headOk && isT1 c i y && isT1 c i y2 && !swapB c.sc (.Call (.Name g gp) (a :: l) ks cp) y p && !swapB c.sc (.Attribute (.Name m2 mp) f2 ap) y2 p2 &&
    decide (z = x) && glB c.sc x && okName x && xs.contains x && decide (exnF x = some f) && decide (f2 = f) && decide (c.N[n]? = some m) && decide (c.sc.names.lookup m = some .local) && decide (m2 = m) && okName m && visB c.sc m
  | _, _ => false
def isSs (c : Ct) (xs : List Str) : S → List Stmt → Bool
  | .skip, [] => true
  | .seq a b, st :: r => isS c xs a st && isSs c xs b r
  | s, [st] => isS c xs s st
  | _, _ => false
end
end G
/-! G.Snd10: the theorem of statements. -/
namespace G
open PySem L2
structure SdOk (cl : Str → Option Addr) (X : Cx) (c : Ct) (EX : XK) (xs : List Str) : Prop where
  kind : c.sc.kind = .function
  fn : X.fn = fun _ => true
  own : PassesOwn (model X.prog X.w) X.A X.env X.xe
  takes : Takes X (fun cls d _ H => EX cls d H)
  stk : X.stack = X.env :: X.outer
  frm : X.env.frame = some X.env.locals
  exn : ∀ x ∈ xs, ∀ f, exnF x = some f → ∃ C, cl x = some C ∧ X.mg x = some (.ref C) ∧ PySem.W.exmOne X.K (.ref C) (.ref C) = some true ∧ XfC X.K C ∧ PySem.W.findIn X.K (.ref C) f = some none ∧
    (Gl X x → (x == ("__debug__" : Str)) = false → ∀ v te p pos, PE X v te → headOk v = true → PMk X (.Call (.Name x p) [v] [] pos) (tMkN te C f))
  exs : ∀ x ∈ xs, exnF x = none → ∃ C, cl x = some C ∧ (Gl X x → (x == ("__debug__" : Str)) = false → ∀ m j p p2 pos, PMk X (.Call (.Name x p) [.Constant (.str m) j p2] [] pos) (fun _ H Q => Q (.ref C) none H))
theorem _root_.L2.PS.imp {X : Cx} {e : Stmt} {t t' : TS} (h : PS X e t) (k : ∀ D σ H, t' D σ H → t D σ H) : PS X e t' := ⟨fun pins s σ H D I q => h.run pins s σ H D I (k _ _ _ q)⟩
theorem _root_.L2.PSs.imp {X : Cx} {e : List Stmt} {t t' : TS} (h : PSs X e t) (k : ∀ D σ H, t' D σ H → t D σ H) : PSs X e t' := ⟨fun pins s σ H D I q => h.run pins s σ H D I (k _ _ _ q)⟩
section
variable {T : List Fn} {cl : Str → Option Addr} {X : Cx} {c : Ct} {EX : XK} {k : Nat} {xs : List Str}
theorem PSet.or {t t' : TSet} (h : PSet X t) (h' : PSet X t') : PSet X (fun o j v H Q => t o j v H Q ∨ t' o j v H Q) := fun pins s σ H o i v ov iv u Q I r1 r2 r3 q => by
  rcases q with q | q
  · exact h pins s σ H o i v ov iv u Q I r1 r2 r3 q
  · exact h' pins s σ H o i v ov iv u Q I r1 r2 r3 q
theorem ge (C : CtOk T cl X c EX k) {e : G.E} {x : Expr} (h : isE c e x = true) : PE X x (tE X T cl EX e) := ((g_all T cl e).1 X c EX k x C h).1
theorem gt (C : CtOk T cl X c EX k) {e : G.E} {x : Expr} (h : isE c e x = true) (n : notIf x = true) : PT X x (tT X T cl EX e) := ((g_all T cl e).1 X c EX k x C h).2.1 n
theorem ga (C : CtOk T cl X c EX k) {e : G.E} {x : List Expr} (h : isEs c e x = true) : PA X x (tEs X T cl EX e) ∧ x.all headOk = true := (g_all T cl e).2.1.1 X c EX k x C h
theorem call_split {k' : Nat} {l : List Expr} {f : Str} {ks : List Keyword} {es : G.E} (h : (ks.isEmpty && decide (c.fns[k']? = some (f, l.length)) && glB c.sc f && okName f && isEs c es l && l.all headOk) = true) :
    ks = [] ∧ c.fns[k']? = some (f, l.length) ∧ glB c.sc f = true ∧ okName f = true ∧ isEs c es l = true ∧ l.all headOk = true := by
  simp only [Bool.and_eq_true, decide_eq_true_eq] at h
  obtain ⟨⟨⟨⟨⟨h0, h1⟩, h2⟩, h3⟩, h4⟩, h5⟩ := h
  exact ⟨List.isEmpty_iff.mp h0, h1, h2, h3, h4, h5⟩
theorem gf (C : CtOk T cl X c EX k) {e : G.E} {x : Expr} (h : isF c e x = true) : PE X x (tF X T cl EX e) := by
  unfold isF at h
  split at h <;> first | contradiction | skip
  · rw [Bool.and_eq_true, decide_eq_true_eq] at h
    exact (pe_lst (ga C h.1).1).imp fun _ _ _ q => tf_lst h.2 q
  · rw [Bool.and_eq_true] at h
    cases List.isEmpty_iff.mp h.1
    cases List.isEmpty_iff.mp h.2
    exact pe_dnewN.imp fun _ _ _ q => tf_dnew q
  · obtain ⟨rfl, h1, h2, h3, h4, h5⟩ := call_split h
    exact (pe_callG (g_all T cl _).2.1 C h1 h2 h3 h4 h5).imp fun _ _ _ q => tf_call q
theorem ps_rt (C : CtOk T cl X c EX k) {e : G.E} {x : Expr} {pos : Pos} (h : isRt c e x = true) : PS X (.Return (some x) pos) (tS X T cl EX (.ret e)) := by
  unfold isRt at h
  split at h
  · rw [Bool.and_eq_true, decide_eq_true_eq] at h
    exact (ps_ret (pe_lst (ga C h.1).1)).imp fun _ _ _ q => tr_lst h.2 q
  · rw [Bool.and_eq_true, decide_eq_true_eq] at h
    exact (ps_ret (pe_tup (ga C h.1).1)).imp fun _ _ _ q => tr_tup h.2 q
  · obtain ⟨rfl, h1, h2, h3, h4, h5⟩ := call_split h
    exact (ps_ret (pe_callG (g_all T cl _).2.1 C h1 h2 h3 h4 h5)).imp fun _ _ _ q => tr_call q
  · rw [Bool.and_eq_true] at h
    refine (ps_ret (ge C h.2)).imp fun D σ H ⟨H0, ps, o0, ows, δ, e', d, so, q⟩ => tr_val ?_ e' d so q
    cases e <;> first | rfl | (cases h.1)
theorem CtOk.loc (C : CtOk T cl X c EX k) {i : Nat} {x : Str} (h : isT1 c i x = true) : X.N[i]? = some x ∧ Loc X.env.scope x := by
  unfold isT1 nameT at h
  simp only [Bool.and_eq_true, decide_eq_true_eq] at h
  exact ⟨by rw [C.N]; exact h.1.1, by rw [C.sc]; exact loc_of h.1.2⟩
theorem ps_name (C : CtOk T cl X c EX k) (Y : SdOk cl X c EX xs) {i : Nat} {x : Str} {v : Expr} {te : TE} {p pos : Pos} (hi : isT1 c i x = true) (hv : notSD v = true) (hw : swapB c.sc v x p = false) (he : PE X v te) : PS X (.Assign [.Name x p] v pos) (tAsg te (gName i)) := by
  obtain ⟨h1, h2⟩ := C.loc hi
  exact ps_set C.nd h1 h2 he (by rw [swap_eq C.sc Y.kind hv, hw]) (.inl (by rw [Y.fn]))
theorem swap_comp (C : CtOk T cl X c EX k) (Y : SdOk cl X c EX xs) {i : Nat} {x : Str} {v : Expr} {e : G.E} {p pos : Pos} (hi : isT1 c i x = true) (hw : swapB c.sc v x p = true) (he : isE c e v = true) (hc : isCmp e = true) : PS X (.Assign [.Name x p] v pos) (tAsg (tE X T cl EX e) (gName i)) := by
  obtain ⟨n1, n2⟩ := C.loc hi
  have hsw : swapsWith v (some (.Name x p)) pos.line X.env = pure true := by rw [swap_eq C.sc Y.kind, hw]; cases v <;> first | rfl | (simp only [swapB, Bool.false_eq_true] at hw)
  have hl : X.env.scope.names.lookup x = some .local := by
    rw [C.sc]
    cases v <;> simp only [swapB, Bool.false_eq_true] at hw
    simp only [Bool.and_eq_true, beq_iff_eq] at hw
    exact hw.1.1
  cases e <;> simp only [isCmp, Bool.false_eq_true] at hc
  case comp vs tg it elt =>
    unfold isE at he
    split at he <;> first | contradiction | skip
    all_goals (rename_i ee; first | cases ee | skip)
    simp only [Bool.and_eq_true, decide_eq_true_eq] at he
    obtain ⟨⟨⟨⟨⟨⟨rfl, h1⟩, h2⟩, h3⟩, h4⟩, h5⟩, h6⟩ := he
    have ok := blkOk_by h4
    rw [← C.N, ← C.sc] at ok
    have htg : ∀ i ∈ tg, i ∈ vs := fun i hi => by simpa using List.all_eq_true.mp h5 i hi
    have pl := ps_setLc (tt := tYes) (te := tE X T cl E0 elt) C.calm C.nd n1 hl hsw ((g_all T cl it).2.2.1 X c EX k _ _ _ C h1 (isT_tup h3)) ok (fun s H cn cells fp => C.pg_blk s H cn cells fp h3) (fun _ _ _ _ _ => pts_nil)
      (fun s H cn cells fp => ((g_all T cl elt).1 _ _ E0 k _ (C.blk s H _ cn cells fp) h6).1) (fun _ => folded_ok h2 _ _)
    rw [ownOf_snd] at pl
    exact pl.imp fun D σ H q => te_comp htg q
  case compc vs tg it cd elt =>
    unfold isE at he
    split at he <;> first | contradiction | skip
    all_goals (rename_i ee; first | cases ee | skip)
    simp only [Bool.and_eq_true, decide_eq_true_eq] at he
    obtain ⟨⟨⟨⟨⟨⟨⟨⟨rfl, h1⟩, h2⟩, h3⟩, h4⟩, h5⟩, h6⟩, h7⟩, h8⟩ := he
    have ok := blkOk_by h4
    rw [← C.N, ← C.sc] at ok
    have htg : ∀ i ∈ tg, i ∈ vs := fun i hi => by simpa using List.all_eq_true.mp h5 i hi
    have pl := ps_setLc (tt := tT X T cl E0 cd) (te := tE X T cl E0 elt) C.calm C.nd n1 hl hsw ((g_all T cl it).2.2.1 X c EX k _ _ _ C h1 (isT_tup h3)) ok (fun s H cn cells fp => C.pg_blk s H cn cells fp h3)
      (fun s H cn cells fp => pts_one (((g_all T cl cd).1 _ _ E0 k _ (C.blk s H _ cn cells fp) h7).2.1 h8))
      (fun s H cn cells fp => ((g_all T cl elt).1 _ _ E0 k _ (C.blk s H _ cn cells fp) h6).1) (fun _ => folded_ok h2 _ _)
    rw [ownOf_snd] at pl
    exact pl.imp fun D σ H q => te_compc htg q
theorem ps_tupT (C : CtOk T cl X c EX k) (Y : SdOk cl X c EX xs) {is : List Nat} {l : List Expr} {v : Expr} {te : TE} {kk : Nat} {p pos : Pos} (hi : isTs c is l = true) (he : PE X v te) (hs : swapsWithSole [.Tuple l kk p] v pos.line X.env = pure false) (hw : swappedStores [.Tuple l kk p] v X.env = pure none) :
    PS X (.Assign [.Tuple l kk p] v pos) (tAsg te (gTup X.K is.length (gNames is))) := by
  obtain ⟨p1, p2, p3⟩ := names_pg (c := c) C.N C.nd C.sc (fun x _ => by rw [Y.fn]) hi
  exact ps_asg he (pg_tup C.calm p1 p2 p3) hs hw rfl
theorem pg_slot (C : CtOk T cl X c EX k) {i : Nat} {x : Str} {y : Expr} {te : TE} {q pos : Pos} (h1 : X.N[i]? = some x) (h2 : visB c.sc x = true) (h3 : okName x = true) (h4 : headOk y = true) (he : PE X y te) :
    PG X (.Subscript (.Name x q) y pos) (gSub (tVar i) te fun o j v H Q => rSetL o j v H Q ∨ rPutN X.prog X.w X.K o j v H Q) :=
  pg_sub (pe_var h1 (by rw [C.sc]; exact vis_of h2) (okN h3).1 (okN h3).2.1) he (PSet.or set_list (set_dct (by have := C.units; omega))) (by
    intro v
    cases y <;> first | rfl | cases h4)
theorem pe_app (C : CtOk T cl X c EX k) {i : Nat} {x : Str} {y : Expr} {te : TE} {q apos cpos : Pos} (h1 : X.N[i]? = some x) (h2 : visB c.sc x = true) (h3 : okName x = true) (h4 : headOk y = true) (he : PE X y te) (hl : posLine apos cpos = true) :
    PE X (.Call (.Attribute (.Name x q) "append" apos) [y] [] cpos) (tBM X.K "list" rAppend (tVar i) (tCons te tNil)) :=
  pe_bm F.plainAttrs_list F.slot_list_append rfl mt_append (pe_var h1 (by rw [C.sc]; exact vis_of h2) (okN h3).1 (okN h3).2.1) (pa_cons he pa_nil (star_ok h4 _ _)) rfl (by rw [star_ok h4]; rfl) hl (star_ok h4 _ _) rfl
theorem names_at {fn : Str → Bool} {sc : Scope} {N : List Str} : ∀ {is : List Nat} {l : List Expr}, namesT N sc fn is l = true → ∃ ps : List Pos, ps.length = is.length ∧ l = (is.zip ps).map (fun q => .Name (N.getD q.1 Str.empty) q.2) ∧ ∀ i ∈ is, N[i]? = some (N.getD i Str.empty)
  | [], [], _ => ⟨[], rfl, rfl, fun _ h => by simp at h⟩
  | [], _ :: _, h => by simp only [namesT, Bool.false_eq_true] at h
  | _ :: _, [], h => by simp only [namesT, Bool.false_eq_true] at h
  | i :: is, x :: l, h => by
    unfold namesT at h
    split at h <;> first | contradiction | skip
    rename_i e1 e2
    cases e1
    cases e2
    rw [Bool.and_eq_true] at h
    obtain ⟨h1, h2⟩ := h
    unfold nameT at h1
    simp only [Bool.and_eq_true, decide_eq_true_eq] at h1
    obtain ⟨ps, p1, p2, p3⟩ := names_at h2
    have hn := h1.1.1
    rename_i y p
    have hg : N.getD i Str.empty = y := by rw [List.getD_eq_getElem?_getD, hn]; rfl
    refine ⟨p :: ps, by simp [p1], by rw [p2]; simp only [List.zip_cons_cons, List.map_cons, hg], fun j hj => ?_⟩
    rcases List.mem_cons.mp hj with rfl | hj
    · rw [hg]; exact hn
    · exact p3 j hj
theorem ps_side (C : CtOk T cl X c EX k) (Y : SdOk cl X c EX xs) {is : List Nat} {es : G.E} {l vs : List Expr} {kt k2 : Nat} {p p2 pos : Pos} (h1 : isTs c is l = true) (h2 : isEs c es vs = true)
    (hw : swappedStores [.Tuple l kt p] (.Tuple vs k2 p2) X.env = pure (some (is.map fun i => c.N.getD i Str.empty))) (nd : is.Nodup) (hl : is.length = 2 ∨ is.length = 3) (hv : vs.length = is.length) (hlo : ∀ i ∈ is, c.sc.names.lookup (c.N.getD i Str.empty) = some .local) :
    PS X (.Assign [.Tuple l kt p] (.Tuple vs k2 p2) pos) (tS X T cl EX (.asgP is es)) := by
  obtain ⟨ps, p1, p3, p4⟩ := names_at h1
  have pa := (ga C h2).1
  rw [← C.N] at p3 p4 hw hlo
  rw [← C.sc] at hlo
  match is, hl, ps, p1, vs, hv, nd with
  | [i, j], _, [q1, q2], _, [a, b], _, nd =>
    subst p3
    have hij : i ≠ j := by simp at nd; exact nd
    exact (ps_par C.calm C.nd (p4 i (by simp)) (p4 j (by simp)) hij (hlo i (by simp)) (hlo j (by simp)) pa hw rfl).imp fun _ _ _ q => ts_par2 q
  | [i, j, m], _, [q1, q2, q3], _, [a, b, d], _, nd =>
    subst p3
    simp at nd
    exact (ps_par3 C.calm C.nd (p4 i (by simp)) (p4 j (by simp)) (p4 m (by simp)) nd.1.1 nd.1.2 nd.2 (hlo i (by simp)) (hlo j (by simp)) (hlo m (by simp)) pa hw rfl).imp fun _ _ _ q => ts_par3 q
theorem side_split {c : Ct} {l vs : List Expr} {is : List Nat} (h : sideB c l vs is = true) : swpB c.sc l vs = some (some (is.map fun i => c.N.getD i Str.empty)) ∧ is.Nodup ∧ ∀ i ∈ is, c.sc.names.lookup (c.N.getD i Str.empty) = some .local := by
  unfold sideB at h
  split at h
  · rename_i ys hq
    simp only [Bool.and_eq_true, decide_eq_true_eq] at h
    obtain ⟨⟨rfl, h2⟩, h3⟩ := h
    exact ⟨hq, h2, fun i hi => by
      have := List.all_eq_true.mp h3 (c.N.getD i Str.empty) (List.mem_map_of_mem hi)
      simpa using this⟩
  · cases h
theorem ps_l1 (C : CtOk T cl X c EX k) (Y : SdOk cl X c EX xs) {i j : Nat} {a : G.E} {l : List Expr} {x : Expr} {lp p p2 pos : Pos} {kt k2 : Nat} (h1 : isTs c [i, j] l = true) (h2 : isE c a x = true) (h3 : headOk x = true) (h4 : sideB c l [x, .List [] lp] [i, j] = true) :
    PS X (.Assign [.Tuple l kt p] (.Tuple [x, .List [] lp] k2 p2) pos) (tS X T cl EX (.asgL [i] (.cons a .nil) j)) := by
  obtain ⟨hw, nd, hlo⟩ := side_split h4
  obtain ⟨ps, p1, p3, p4⟩ := names_at h1
  have hw := swp_eq (k := kt) (k2 := k2) (p := p) (p2 := p2) C.sc Y.kind hw
  rw [← C.N] at p3 p4 hw hlo
  rw [← C.sc] at hlo
  match ps, p1 with
  | [q1, q2], _ =>
    subst p3
    have hij : i ≠ j := by simp at nd; exact nd
    exact (ps_par C.calm C.nd (p4 i (by simp)) (p4 j (by simp)) hij (hlo i (by simp)) (hlo j (by simp)) (pa_cons (ge C h2) (pa_cons (pe_lst pa_nil) pa_nil) (star_ok h3 _ _)) hw rfl).imp fun _ _ _ q => ts_l1 q
theorem ps_l2 (C : CtOk T cl X c EX k) (Y : SdOk cl X c EX xs) {i m j : Nat} {a b : G.E} {l : List Expr} {x y : Expr} {lp p p2 pos : Pos} {kt k2 : Nat} (h1 : isTs c [i, m, j] l = true) (h2 : isE c a x = true) (h3 : headOk x = true) (h5 : isE c b y = true) (h6 : headOk y = true) (h4 : sideB c l [x, y, .List [] lp] [i, m, j] = true) :
    PS X (.Assign [.Tuple l kt p] (.Tuple [x, y, .List [] lp] k2 p2) pos) (tS X T cl EX (.asgL [i, m] (.cons a (.cons b .nil)) j)) := by
  obtain ⟨hw, nd, hlo⟩ := side_split h4
  obtain ⟨ps, p1, p3, p4⟩ := names_at h1
  have hw := swp_eq (k := kt) (k2 := k2) (p := p) (p2 := p2) C.sc Y.kind hw
  rw [← C.N] at p3 p4 hw hlo
  rw [← C.sc] at hlo
  match ps, p1 with
  | [q1, q2, q3], _ =>
    subst p3
    simp at nd
    exact (ps_par3 C.calm C.nd (p4 i (by simp)) (p4 m (by simp)) (p4 j (by simp)) nd.1.1 nd.1.2 nd.2 (hlo i (by simp)) (hlo m (by simp)) (hlo j (by simp)) (pa_cons (ge C h2) (pa_cons (ge C h5) (pa_cons (pe_lst pa_nil) pa_nil) (star_ok h6 _ _)) (star_ok h3 _ _)) hw rfl).imp fun _ _ _ q => ts_l2 q
/-- one statement is a list of one -/
theorem CtOk.tr (C : CtOk T cl X c EX k) (pn : List (Addr × Obj)) (xe : Value → Shared → Prop) : CtOk T cl (X.tr pn xe) c E0 k :=
  ⟨C.N, C.nd, C.sc, C.calm, C.room, passL, C.fns, C.blt, C.cons, fun w ws z => have W := C.lam w ws z
    ⟨W.nn, W.q, W.code, W.lvl, W.leaf, W.cls, W.fn⟩⟩
theorem ps_tryA (C : CtOk T cl X c EX k) (Y : SdOk cl X c EX xs) {i n kk : Nat} {es : G.E} {x f y y2 m g : Str} {a : Expr} {l : List Expr} {p gp cp p1 np p2 mp ap p3 p4 p5 : Pos} (h1 : c.fns[kk]? = some (g, (a :: l).length)) (h2 : glB c.sc g = true) (h3 : okName g = true) (h4 : isEs c es (a :: l) = true) (h5 : headOk a = true) (h6 : l.all headOk = true)
    (h7 : isT1 c i y = true) (h8 : isT1 c i y2 = true) (h9 : swapB c.sc (.Call (.Name g gp) (a :: l) [] cp) y p = false) (h10 : swapB c.sc (.Attribute (.Name m mp) f ap) y2 p2 = false) (h11 : glB c.sc x = true) (h12 : okName x = true) (h13 : x ∈ xs) (h14 : exnF x = some f) (h15 : c.N[n]? = some m) (h16 : c.sc.names.lookup m = some .local) (h17 : okName m = true) (h18 : visB c.sc m = true) :
    PS X (.Try [.Assign [.Name y p] (.Call (.Name g gp) (a :: l) [] cp) p1] [.ExceptHandler (some (.Name x np)) (some m) [.Assign [.Name y2 p2] (.Attribute (.Name m mp) f ap) p3] p4] [] [] p5) (tS X T cl EX (.tryA i n kk es x f)) := by
  obtain ⟨A, k1, k2, k3, k4, k5, _⟩ := Y.exn x h13 f h14
  obtain ⟨F0, hm, fa, fd, ps, F, g1, g2, g3⟩ := C.fns kk g _ h1
  have hN : X.N[n]? = some m := by rw [C.N]; exact h15
  obtain ⟨i1, i2⟩ := C.loc h7
  obtain ⟨j1, j2⟩ := C.loc h8
  refine (ps_try_as (X := X) (i := n) (tb := fun W => tAsg (tCallS (spD X.prog X.w X.K cl (a :: l).length F0) (WE W) (tEs X T cl E0 es)) (gName i)) (ts := tSuA n i A f) (Wout := fun cls d _ H => EX cls d H) Y.stk Y.frm C.nd hN (by unfold Env.kindOf; rw [C.sc]; exact h16) ⟨C.gl h11, (okN h12).1, .inl k2⟩ Y.takes ?_ ?_).imp fun D σ H q => ts_tryA hm (isEs_len h4) k1 k3 q
  · intro W pn xe tk po
    have C2 := C.tr pn xe
    obtain ⟨pa, _⟩ := (g_all T cl es).2.1.1 (X.tr pn xe) c E0 k _ C2 h4
    have pe := pe_callS (X := X.tr pn xe) (x := g) (p := gp) (pos := cp) (E := WE W) F C2.room (C2.gl h2) g1 g2 g3 (fun σ => passAt tk σ) pa (okN h3).1 (star_ok h5 _ _) (stars_ok h6 _ _)
    exact (pss_cons (ps_set (X := X.tr pn xe) C.nd i1 i2 pe (by rw [swap_eq C.sc Y.kind rfl, h9]) (.inl (by rw [Y.fn]))) pss_nil).imp fun _ _ _ q => q
  · intro aa oe cls d pn hz hv
    have pv : PE (X.suite aa ((aa, oe) :: pn)) (.Name m mp) (tVar n) := pe_var hN (by show Vis X.env.scope m; rw [C.sc]; exact vis_of h18) (okN h17).1 (okN h17).2.1
    have pe := pe_xf (pos := ap) k4 k5 hz hv pv
    exact (pss_cons (ps_set (X := X.suite aa ((aa, oe) :: pn)) C.nd j1 j2 pe (by rw [swap_eq C.sc Y.kind rfl, h10]) (.inl (by rw [Y.fn]))) pss_nil).imp fun _ _ _ q => q
theorem one_of {s : S} {st : Stmt} (h : PS X st (tS X T cl EX s)) : PSs X [st] (tS X T cl EX s) := (pss_cons h pss_nil).imp fun _ _ _ q => q
def Both (T : List Fn) (cl : Str → Option Addr) (s : S) : Prop := ∀ X c EX k xs, CtOk T cl X c EX k → SdOk cl X c EX xs → (∀ st, isS c xs s st = true → PS X st (tS X T cl EX s)) ∧ (∀ l, isSs c xs s l = true → PSs X l (tS X T cl EX s))
/-- not a list of statements -/
def lone : S → Bool
  | .skip => false
  | .seq _ _ => false
  | _ => true
theorem both_lone {s : S} (hl : lone s = true) (h : ∀ X c EX k xs, CtOk T cl X c EX k → SdOk cl X c EX xs → ∀ st, isS c xs s st = true → PS X st (tS X T cl EX s)) : Both T cl s := by
  intro X c EX k xs C Y
  refine ⟨h X c EX k xs C Y, fun l q => ?_⟩
  unfold isSs at q
  split at q
  · cases hl
  · cases hl
  · exact one_of (h X c EX k xs C Y _ q)
  · cases q
theorem both_all (T : List Fn) (cl : Str → Option Addr) (s : S) : Both T cl s := by
  induction s with
  | skip =>
    intro X c EX k xs C Y
    have one : ∀ st, isS c xs .skip st = true → PS X st (tS X T cl EX .skip) := fun st h => by
      cases st <;> simp only [isS, Bool.false_eq_true] at h
      exact ps_pass.imp fun _ _ _ q => ts_skip q
    refine ⟨one, fun l q => ?_⟩
    cases l with
    | nil => exact pss_nil.imp fun _ _ _ q => ts_skip q
    | cons st r =>
      cases r with
      | nil => exact one_of (one _ (by simpa only [isSs] using q))
      | cons st2 r => simp only [isSs, Bool.false_eq_true] at q
  | seq a b ha hb =>
    intro X c EX k xs C Y
    refine ⟨fun st h => ?_, fun l q => ?_⟩
    · cases st <;> simp only [isS, Bool.false_eq_true] at h
    · cases l with
      | nil => simp only [isSs, Bool.false_eq_true] at q
      | cons st r =>
        simp only [isSs, Bool.and_eq_true] at q
        exact (pss_cons ((ha X c EX k xs C Y).1 _ q.1) ((hb X c EX k xs C Y).2 _ q.2)).imp fun _ _ _ w => ts_seq w
  | brk =>
    exact both_lone rfl fun X c EX k xs C Y st h => by
      cases st <;> simp only [isS, Bool.false_eq_true] at h
      exact ps_break.imp fun _ _ _ q => ts_brk q
  | cnt =>
    exact both_lone rfl fun X c EX k xs C Y st h => by
      cases st <;> simp only [isS, Bool.false_eq_true] at h
      exact ps_continue.imp fun _ _ _ q => ts_cnt q
  | asg i e =>
    exact both_lone rfl fun X c EX k xs C Y st h => by
      unfold isS at h
      split at h <;> first | contradiction | skip
      all_goals (rename_i z; first | cases z | skip)
      simp only [Bool.and_eq_true, Bool.or_eq_true, Bool.not_eq_true'] at h
      obtain ⟨⟨⟨h1, h2⟩, h3⟩, h4⟩ := h
      rcases h4 with h4 | h4
      · exact (ps_name C Y h1 h3 h4 (ge C h2)).imp fun _ _ _ q => ts_asg q
      · rename_i x p v pos
        cases hw : swapB c.sc v x p with
        | false => exact (ps_name C Y h1 h3 hw (ge C h2)).imp fun _ _ _ q => ts_asg q
        | true => exact (swap_comp C Y h1 hw h2 h4).imp fun _ _ _ q => ts_asg q
  | asgO i e =>
    exact both_lone rfl fun X c EX k xs C Y st h => by
      unfold isS at h
      split at h <;> first | contradiction | skip
      all_goals (rename_i z; first | cases z | skip)
      simp only [Bool.and_eq_true, Bool.not_eq_true'] at h
      obtain ⟨⟨⟨h1, h2⟩, h3⟩, h4⟩ := h
      exact (ps_name C Y h1 h3 h4 (gf C h2)).imp fun _ _ _ q => ts_asgO q
  | asgT is e =>
    exact both_lone rfl fun X c EX k xs C Y st h => by
      unfold isS at h
      split at h <;> first | contradiction | skip
      all_goals (rename_i z; first | cases z | skip)
      simp only [Bool.and_eq_true] at h
      obtain ⟨⟨⟨h1, h2⟩, h3⟩, h4⟩ := h
      refine (ps_tupT C Y h1 (ge C h2) (sole_ok h3 _ _ _) ?_).imp fun _ _ _ q => ts_asgT q
      rename_i l _ _ v _
      cases v <;> first | rfl | cases h4
  | asgP is es =>
    exact both_lone rfl fun X c EX k xs C Y st h => by
      unfold isS at h
      split at h <;> first | contradiction | skip
      all_goals (rename_i z; first | cases z | skip)
      simp only [Bool.and_eq_true, decide_eq_true_eq] at h
      obtain ⟨⟨⟨h1, h2⟩, h3⟩, h4⟩ := h
      split at h4
      · rename_i hq
        exact (ps_tupT C Y h1 (pe_tup (ga C h2).1) rfl (swp_eq C.sc Y.kind hq)).imp fun _ _ _ q => ts_parT h3 q
      · rename_i hq
        simp only [Bool.and_eq_true, Bool.or_eq_true, decide_eq_true_eq, beq_iff_eq] at h4
        obtain ⟨⟨⟨⟨k1, k2⟩, k3⟩, k4⟩, k5⟩ := h4
        subst k1
        exact ps_side C Y h1 h2 (swp_eq C.sc Y.kind hq) k2 k3 k4 (fun i hi => by
          have := List.all_eq_true.mp k5 (c.N.getD i Str.empty) (List.mem_map_of_mem hi)
          simpa using this)
      · cases h4
  | asgL is es j =>
    exact both_lone rfl fun X c EX k xs C Y st h => by
      unfold isS at h
      split at h <;> first | contradiction | skip
      all_goals (rename_i z; first | cases z | skip)
      · simp only [Bool.and_eq_true] at h
        obtain ⟨⟨⟨h1, h2⟩, h3⟩, h4⟩ := h
        exact ps_l1 C Y h1 h2 h3 h4
      · simp only [Bool.and_eq_true] at h
        obtain ⟨⟨⟨⟨⟨h1, h2⟩, h3⟩, h5⟩, h6⟩, h4⟩ := h
        exact ps_l2 C Y h1 h2 h3 h5 h6 h4
  | setI i kk e =>
    exact both_lone rfl fun X c EX k xs C Y st h => by
      unfold isS at h
      split at h <;> first | contradiction | skip
      all_goals (rename_i z; first | cases z | skip)
      simp only [Bool.and_eq_true, decide_eq_true_eq] at h
      obtain ⟨⟨⟨⟨⟨⟨h1, h2⟩, h3⟩, h4⟩, h5⟩, h6⟩, h7⟩ := h
      refine (ps_asg (ge C h6) (pg_slot C (by rw [C.N]; exact h1) h2 h3 h5 (ge C h4)) (sole_ok h7 _ _ _) ?_ rfl).imp fun _ _ _ q => ts_setI q
      rfl
  | app i e =>
    exact both_lone rfl fun X c EX k xs C Y st h => by
      unfold isS at h
      split at h <;> first | contradiction | skip
      all_goals (rename_i z; first | cases z | skip)
      simp only [Bool.and_eq_true, decide_eq_true_eq] at h
      obtain ⟨⟨⟨⟨⟨⟨⟨h0, rfl⟩, h1⟩, h2⟩, h3⟩, h4⟩, h5⟩, h6⟩ := h
      cases List.isEmpty_iff.mp h0
      exact (ps_expr (pe_app C (by rw [C.N]; exact h1) h2 h3 h5 (ge C h4) h6) rfl).imp fun _ _ _ q => ts_app q
  | drop e =>
    exact both_lone rfl fun X c EX k xs C Y st h => by
      unfold isS at h
      split at h <;> first | contradiction | skip
      all_goals (rename_i z; first | cases z | skip)
      simp only [Bool.and_eq_true] at h
      exact (ps_expr (ge C h.1) (swap_ok h.2 _ _ _)).imp fun _ _ _ q => ts_drop q
  | ret e =>
    exact both_lone rfl fun X c EX k xs C Y st h => by
      unfold isS at h
      split at h <;> first | contradiction | skip
      all_goals (rename_i z; first | cases z | skip)
      exact ps_rt C h
  | ite t a b ha hb =>
    exact both_lone rfl fun X c EX k xs C Y st h => by
      unfold isS at h
      split at h <;> first | contradiction | skip
      all_goals (rename_i z; first | cases z | skip)
      simp only [Bool.and_eq_true] at h
      obtain ⟨⟨⟨h1, h2⟩, h3⟩, h4⟩ := h
      exact (ps_if (gt C h1 h2) ((ha X c EX k xs C Y).2 _ h3) ((hb X c EX k xs C Y).2 _ h4)).imp fun _ _ _ q => ts_ite q
  | whl n t b hb =>
    exact both_lone rfl fun X c EX k xs C Y st h => by
      unfold isS at h
      split at h <;> first | contradiction | skip
      all_goals (rename_i z; first | cases z | skip)
      simp only [Bool.and_eq_true] at h
      obtain ⟨⟨h1, h2⟩, h3⟩ := h
      exact (ps_while Y.own (gt C h1 h2) ((hb X c EX k xs C Y).2 _ h3)).imp fun _ _ _ q => ts_whl q
  | for1 i it b hb =>
    exact both_lone rfl fun X c EX k xs C Y st h => by
      unfold isS at h
      split at h <;> first | contradiction | skip
      all_goals (rename_i z; first | cases z | skip)
      simp only [Bool.and_eq_true] at h
      obtain ⟨⟨⟨h1, h2⟩, h3⟩, h4⟩ := h
      obtain ⟨n1, n2⟩ := C.loc h1
      exact (ps_for Y.own C.calm ((g_all T cl it).2.2.1 X c EX k _ _ _ C h2 (fun z => nomatch z)) (pg_name C.nd n1 n2 (.inl (by rw [Y.fn]))) ((hb X c EX k xs C Y).2 _ h4) (fun _ => folded_ok h3 _ _)).imp fun _ _ _ q => ts_for1 q
  | forT is it b hb =>
    exact both_lone rfl fun X c EX k xs C Y st h => by
      unfold isS at h
      split at h <;> first | contradiction | skip
      all_goals (rename_i z; first | cases z | skip)
      simp only [Bool.and_eq_true] at h
      obtain ⟨⟨⟨h1, h2⟩, h3⟩, h4⟩ := h
      obtain ⟨p1, p2, p3⟩ := names_pg (c := c) C.N C.nd C.sc (fun x _ => by rw [Y.fn]) h1
      exact (ps_for Y.own C.calm ((g_all T cl it).2.2.1 X c EX k _ _ _ C h2 (fun _ => rfl)) (pg_tup C.calm p1 p2 p3) ((hb X c EX k xs C Y).2 _ h4) (fun _ => folded_ok h3 _ _)).imp fun _ _ _ q => ts_forT q
  | rais y m =>
    exact both_lone rfl fun X c EX k xs C Y st h => by
      unfold isS at h
      split at h <;> first | contradiction | skip
      all_goals (rename_i z; first | cases z | skip)
      simp only [Bool.and_eq_true, decide_eq_true_eq] at h
      obtain ⟨⟨⟨⟨⟨⟨h0, rfl⟩, rfl⟩, h1⟩, h2⟩, h3⟩, h4⟩ := h
      cases List.isEmpty_iff.mp h0
      obtain ⟨K, k1, k2⟩ := Y.exs _ (by simpa using h3) h4
      exact (ps_raise C.calm Y.takes (k2 (C.gl h1) (okN h2).1 _ _ _ _ _)).imp fun _ _ _ q => ts_rais k1 q
  | raisN y f e =>
    exact both_lone rfl fun X c EX k xs C Y st h => by
      unfold isS at h
      split at h <;> first | contradiction | skip
      all_goals (rename_i z; first | cases z | skip)
      simp only [Bool.and_eq_true, decide_eq_true_eq] at h
      obtain ⟨⟨⟨⟨⟨⟨⟨h0, rfl⟩, h1⟩, h2⟩, h3⟩, h4⟩, h5⟩, h6⟩ := h
      cases List.isEmpty_iff.mp h0
      obtain ⟨A, k1, _, _, _, _, k2⟩ := Y.exn _ (by simpa using h6) _ h1
      exact (ps_raise C.calm Y.takes (k2 (C.gl h4) (okN h5).1 _ _ _ _ (ge C h2) h3)).imp fun _ _ _ q => ts_raisN k1 q
  | tryA i n kk es x f =>
    exact both_lone rfl fun X c EX k xs C Y st h => by
      unfold isS at h
      split at h <;> first | contradiction | skip
      all_goals (rename_i z; first | cases z | skip)
      simp only [Bool.and_eq_true, decide_eq_true_eq, Bool.not_eq_true'] at h
      obtain ⟨⟨⟨⟨⟨⟨⟨⟨⟨⟨⟨⟨⟨⟨⟨⟨⟨⟨⟨⟨⟨h0, h1⟩, h2⟩, h3⟩, h4⟩, h5⟩, h6⟩, h7⟩, h8⟩, h9⟩, h10⟩, rfl⟩, h11⟩, h12⟩, h13⟩, h14⟩, rfl⟩, h15⟩, h16⟩, rfl⟩, h17⟩, h18⟩ := h
      cases List.isEmpty_iff.mp h0
      exact ps_tryA C Y h1 h2 h3 h4 h5 h6 h7 h8 h9 h10 h11 h12 (by simpa using h13) h14 h15 h16 h17 h18
end
end G
/-! G.Exn: an error of the program whose __init__ keeps an int: class R(ValueError); class C(R): def __init__(self, f): R.__init__(self, text); self.f = f. -/
namespace G
open PySem L2
section
variable {X : Cx} {e : Expr} {es : List Expr} {ta : TA} {p1 p2 pos : Pos} {x : Str} {R : Addr}
/-- R.__init__(self, ..), R a class over ValueError without an __init__ -/
theorem pe_cinit (hg : Gl X x) (hm : X.mg x = some (.ref R)) (sg : PySem.W.specialIn X.K (.ref R) "__getattribute__" = some (some (.builtin "type.__getattribute__"))) (rd : PySem.W.readsIn X.K R (.type "type") = true) (vV : PySem.W.findCls X.K (.ref R) (.type "type") "__init__" = some (.val (.builtin "ValueError.__init__")))
    (hdb : (x == ("__debug__" : Str)) = false) (ha : PA X (e :: es) ta) (he : starEach (e :: es) X.env = (false, eval e X.env) :: starEach es X.env) (hpl : (backTo pos (starEach es X.env)).any (·.1) = false)
    (hfew : ((backTo pos (starEach (e :: es) X.env)).all (fun x => !x.1) && (backToKw pos (keywordEach [] X.env)).all (fun x => x.1.isSome)
      && decide ((e :: es).length + ([] : List Keyword).length + (if ([] : List Keyword).isEmpty then 0 else 1) < 30)) = true) (hline : (p2.endLine == pos.line) = true) :
    PE X (.Call (.Attribute (.Name x p1) "__init__" p2) (e :: es) [] pos) (tVeI X.K ta) := by
  refine ⟨fun pins s σ H Q I h => ?_⟩
  rw [arm_eval_Call]
  show wpAny _ _ ((eval (.Name x p1) X.env) >>= fun ov => _) _ _ _
  refine wpAny_bind (ld_glob I hg hm (wpAny_bind (wpAny_standAt ?_)) hdb)
  have hform : methodCallForm ((e :: es).length + ([] : List Keyword).length) (backTo pos (starEach (e :: es) X.env)) (backToKw pos (keywordEach [] X.env)) = true := hfew
  have hpos : methodCallPos true (.Name x p1) X.env p2 pos = pure pos := by unfold methodCallPos; simp [hline]
  unfold methodCall
  rw [hform]
  refine wpAny_bind (wpAny_holding (PySem.W.method_cls I.kIn sg (PySem.W.cls_value I.kIn rd vV (by decide +kernel) ?_)))
  refine wpAny_bind (wpAny_of_eq hpos ?_)
  show wpAny _ _ (callWith pos (Value.builtin "ValueError.__init__") [] (backTo pos (starEach (e :: es) X.env)) []) _ _ _
  refine PyProof.Rows.callWith_method1 (thn (ha.run pos pins _ σ H _ (I.tok _) h) fun us s1 ⟨vs, H1, I1, r1, a, C, ws, ev, hl, T, ea, q⟩ => ?_) he hpl
  subst ev
  cases r1 with
  | @cons _ u0 _ ur ra rw' =>
    obtain rfl : u0 = Value.ref a := ra
    have hlen : ur.length ≤ PySem.sizeLine := by
      rw [← Paired.length rw', PySem.sizeLine_eq]
      omega
    exact oinit_ok T I1 ea hlen fun s' J => ⟨.non, H1, J, rfl, q⟩
end
/-- the body of such an __init__ -/
def isInit (R f : Str) : List Stmt → Bool
  | [.Expr (.Call (.Attribute (.Name r _) n ap) [.Name s1 _, .Constant (.str _) _ _] ks cp) _, .Assign [.Attribute (.Name s2 _) f2 _] (.Name f3 _) _] =>
    decide (r = R) && decide (n = ("__init__" : Str)) && decide (s1 = ("self" : Str)) && ks.isEmpty && decide (s2 = ("self" : Str)) && decide (f2 = f) && decide (f3 = f) && (ap.endLine == cp.line)
  | _ => false
/-- what is told of such a class -/
structure ExnD (K : PySem.W.Frag) (mg : Str → Option Value) (C : Addr) (x f : Str) : Prop where
  gl : mg x = some (.ref C)
  oex : OexC K C
  noat : PySem.W.findIn K (.ref C) f = some none
  xm : PySem.W.exmOne K (.ref C) (.ref C) = some true
  xf : XfC K C
  init : ∃ (R : Addr) (r : Str) (fI : Addr) (fd : FuncData) (params : Arguments) (body : List Stmt) (scope : Scope) (nm qual : Str), FunD K nm qual params body scope [] [] fI fd ∧ FnScope [("self" : Str), f] [("self" : Str), f] scope ∧ isInit r f body = true ∧ Binds K fd [("self" : Str), f] [] ∧
    PySem.W.findIn K (.ref C) "__init__" = some (some (.ref fI)) ∧ PySem.W.typeIn K (.ref fI) = some (.type "function") ∧ mg r = some (.ref R) ∧
    PySem.W.specialIn K (.ref R) "__getattribute__" = some (some (.builtin "type.__getattribute__")) ∧ PySem.W.readsIn K R (.type "type") = true ∧ PySem.W.findCls K (.ref R) (.type "type") "__init__" = some (.val (.builtin "ValueError.__init__")) ∧
    okName r = true ∧ glB scope r = true ∧ visB scope ("self" : Str) = true ∧ visB scope f = true ∧ okName f = true
theorem init_ok {P : Program} {w : World} {K : PySem.W.Frag} {mg : Str → Option Value} {base : Heap} {C : Addr} {x f : Str} (E : ExnD K mg C x f) : ∃ fI fd, FnOk P w K mg base (L2.CX P w) 1 fI fd [("self" : Str), f] (spI C f) ∧ Binds K fd [("self" : Str), f] [] ∧ PySem.W.findIn K (.ref C) "__init__" = some (some (.ref fI)) ∧ PySem.W.typeIn K (.ref fI) = some (.type "function") := by
  obtain ⟨R, r, fI, fd, params, body, scope, nm, qual, F, S, hb, bn, i1, i2, i3, i4, i5, i6, n1, n2, n3, n4, n5⟩ := E.init
  refine ⟨fI, fd, FunD.ok (k := 0) F S (fun vs H Q E ⟨_, _, h, _⟩ => by rw [h]; rfl) fun cdv A outer s H vs Q Ex hr hs => ?_, bn, i1, i2⟩
  obtain ⟨a, y, rfl, ha, hq⟩ := hs
  unfold isInit at hb
  split at hb <;> first | contradiction | skip
  simp only [Bool.and_eq_true, decide_eq_true_eq] at hb
  obtain ⟨⟨⟨⟨⟨⟨⟨rfl, rfl⟩, rfl⟩, h4⟩, rfl⟩, rfl⟩, rfl⟩, hln⟩ := hb
  cases List.isEmpty_iff.mp h4
  rename_i r p1 p2 p3 z j p4 p5 p6 p7 p71 f3 p9 p10
  have gl : Gl (cxOf (L2.CX P w) P w K mg base [("self" : Str), f3] qual scope fI cdv A outer s H Ex) r := by
    unfold Gl Env.kindOf
    unfold glB at n2
    split at n2
    · assumption
    · cases n2
  have ps : PE (cxOf (L2.CX P w) P w K mg base [("self" : Str), f3] qual scope fI cdv A outer s H Ex) (.Name "self" p7) (tVar 0) := pe_var rfl (vis_of n3)
  have ps1 : PE (cxOf (L2.CX P w) P w K mg base [("self" : Str), f3] qual scope fI cdv A outer s H Ex) (.Name "self" p3) (tVar 0) := pe_var rfl (vis_of n3)
  have pf : PE (cxOf (L2.CX P w) P w K mg base [("self" : Str), f3] qual scope fI cdv A outer s H Ex) (.Name f3 p9) (tVar 1) := pe_var rfl (vis_of n4) (okN n5).1 (okN n5).2.1
  refine ⟨_, pss_cons (ps_expr (pe_cinit (pos := p5) gl i3 i4 i5 i6 (okN n1).1 (pa_cons ps1 (pa_cons pe_str pa_nil)) rfl rfl rfl hln) rfl) (pss_cons (ps_ost (f := f3) ps pf rfl) pss_nil), ?_⟩
  refine ⟨.ref a, rfl, a, C, [.str z], rfl, show 1 ≤ 1000 by decide, E.oex, ha, ?_⟩
  exact ⟨y, rfl, .ref a, rfl, a, C, rfl, E.oex, E.noat, .inl ⟨ha, fun dx n ne => hq dx n ne⟩⟩
/-- raise C(e) -/
theorem mk_exn {X : Cx} {C : Addr} {x f : Str} {v : Expr} {te : TE} {p pos : Pos} (E : ExnD X.K X.mg C x f) (hr : Room 2 X.A) (tk : Passes (L2.CX X.prog X.w) X E0) (hg : Gl X x) (hd : (x == ("__debug__" : Str)) = false) (hv : PE X v te) (ho : headOk v = true) : PMk X (.Call (.Name x p) [v] [] pos) (tMkN te C f) := by
  obtain ⟨fI, fd, F, bn, i1, i2⟩ := init_ok (P := X.prog) (w := X.w) (base := X.base) E
  exact pmk_oex (X := X) (p := p) (pos := pos) E.oex i1 i2 F hr bn .nil tk hg E.gl (pa_cons hv pa_nil (star_ok ho _ _)) hd (star_ok ho _ _) rfl
end G
/-! G.SndF: a def whose body checks keeps what the evaluator says. -/
namespace G
open PySem L2
theorem mem_ps : ∀ {as : List Sl} {vs : List V} {m : Nat} {p : Bool} {o : Ob} {a : Addr}, as[m]? = some (Sl.ow p o) → vs[m]? = some (.ref a) → a ∈ psOf as vs
  | [], _, m, _, _, _, h, _ => by simp at h
  | s :: as, [], m, _, _, _, _, h => by simp at h
  | s :: as, v :: vs, 0, p, o, a, h1, h2 => by
    have e1 : s = .ow p o := by simpa using h1
    have e2 : v = .ref a := by simpa using h2
    subst e1 e2
    exact List.mem_cons_self
  | s :: as, v :: vs, m + 1, p, o, a, h1, h2 => by
    have ih := mem_ps (as := as) (vs := vs) (m := m) (by simpa using h1) (by simpa using h2)
    cases s with
    | ow q u =>
      cases v with
      | ref b => exact List.mem_cons_of_mem _ ih
      | _ => exact ih
    | _ => exact ih
theorem outs_get : ∀ {as : List Sl} {δ : Env} {os : List Sl} {j : Nat} {q : Bool} {o : Ob}, outs as δ = some os → os[j]? = some (Sl.ow q o) → δ[j]? = some (Sl.ow true o) ∧ j < as.length
  | [], _, _, j, _, _, h, e => by cases h; simp at e
  | .ow _ _ :: as, [], _, j, _, _, h, e => by cases h
  | .ow _ _ :: as, .no :: δ, _, j, _, _, h, e => by cases h
  | .ow _ _ :: as, .ro _ :: δ, _, j, _, _, h, e => by cases h
  | .ow _ _ :: as, .ow false _ :: δ, _, j, _, _, h, e => by cases h
  | .ow _ _ :: as, .ow true u :: δ, os, j, q, o, h, e => by
    simp only [outs, Option.map_eq_some_iff] at h
    obtain ⟨r, h1, rfl⟩ := h
    cases j with
    | zero =>
      have : Sl.ow true u = Sl.ow q o := by simpa using e
      cases this
      exact ⟨rfl, Nat.zero_lt_succ _⟩
    | succ j =>
      obtain ⟨g1, g2⟩ := outs_get h1 (by simpa using e)
      exact ⟨by simpa using g1, Nat.succ_lt_succ g2⟩
  | .no :: as, [], _, j, _, _, h, e => by cases h
  | .ro _ :: as, [], _, j, _, _, h, e => by cases h
  | .no :: as, s :: δ, os, j, q, o, h, e => by
    simp only [outs, Option.map_eq_some_iff] at h
    obtain ⟨r, h1, rfl⟩ := h
    cases j with
    | zero => simp at e
    | succ j =>
      obtain ⟨g1, g2⟩ := outs_get h1 (by simpa using e)
      exact ⟨by simpa using g1, Nat.succ_lt_succ g2⟩
  | .ro _ :: as, s :: δ, os, j, q, o, h, e => by
    simp only [outs, Option.map_eq_some_iff] at h
    obtain ⟨r, h1, rfl⟩ := h
    cases j with
    | zero => simp at e
    | succ j =>
      obtain ⟨g1, g2⟩ := outs_get h1 (by simpa using e)
      exact ⟨by simpa using g1, Nat.succ_lt_succ g2⟩
section
variable {X : Cx} {T : List Fn} {cl : Str → Option Addr} {E : XK} {H : Hp} {ows : List Addr} {as : List Sl} {vs : List V} {N : List Str}
theorem env_start (n : Nat) (hm : lamN ∉ X.N) (hN : N.length = n) (hl : as.length ≤ n) (hb : as.all argB = true) (d : G.Dom ows H) (A : ArgsR X.prog X.w X.K ows H as vs) :
    EnvR (gr X H (psOf as vs, fun i => (L2.start N vs)[i]?)) ows (L2.start N vs) H (as ++ List.replicate (n - as.length) .no) := by
  have at_ : ∀ {i : Nat} {s : Sl}, (as ++ List.replicate (n - as.length) Sl.no)[i]? = some s → (i < as.length ∧ as[i]? = some s ∧ (L2.start N vs)[i]? = (vs[i]?).map some) ∨ s = .no := fun {i s} h => by
    by_cases hi : i < as.length
    · rw [List.getElem?_append_left hi] at h
      refine .inl ⟨hi, h, ?_⟩
      unfold L2.start
      rw [List.getElem?_append_left (by rw [List.length_map, A.len]; exact hi), List.getElem?_map]
    · rw [List.getElem?_append_right (by omega)] at h
      have := List.mem_of_getElem? h
      exact .inr (List.eq_of_mem_replicate this)
  refine ⟨?_, fun a o _ h => h, fun a ha => ?_, d, fun i s h => ?_, fun i j p o q u hij h1 h2 => ?_, fun i o h => rfl, fun P hP t ht => ?_, fun z => absurd (of_decide_eq_true z) hm⟩
  rotate_right
  · obtain ⟨m, p, o, e1, e2⟩ := ps_mem hP
    obtain ⟨b, g1, _, g3⟩ := A.arg m _ _ e1 e2
    cases g1
    have mm := g3.mut
    rw [show H P = some (.tbl t) from ht] at mm
    exact mm.elim
  · unfold L2.start
    rw [List.length_append, List.length_append, List.length_map, List.length_replicate, List.length_replicate, A.len, hN]
  · obtain ⟨m, p, o, e1, e2⟩ := ps_mem ha
    obtain ⟨b, g1, g2, _⟩ := A.arg m _ _ e1 e2
    cases g1
    exact g2
  · rcases at_ h with ⟨hi, h1, h2⟩ | rfl
    · have hv : i < vs.length := by rw [A.len]; exact hi
      have hv' := List.getElem?_eq_getElem hv
      have ar := A.arg i s _ h1 hv'
      rw [h2, hv']
      cases s with
      | no => trivial
      | ro d => exact ⟨_, rfl, ar⟩
      | ow b o =>
        obtain ⟨a, g1, g2, g3⟩ := ar
        have hb' := List.all_eq_true.mp hb _ (List.mem_of_getElem? h1)
        have hb' : b = true := hb'
        subst hb'
        refine ⟨a, by rw [g1]; rfl, g2, ?_, g3⟩
        rw [if_pos rfl]
        exact mem_ps h1 (by rw [hv', g1])
    · trivial
  · rcases at_ h1 with ⟨hi, k1, k2⟩ | z
    · rcases at_ h2 with ⟨hj, m1, m2⟩ | z
      · rw [k2, m2]
        intro z
        refine A.apart i j p q o u hij k1 m1 ?_
        have hi' : i < vs.length := by rw [A.len]; exact hi
        have hj' : j < vs.length := by rw [A.len]; exact hj
        rw [List.getElem?_eq_getElem hi', List.getElem?_eq_getElem hj'] at z ⊢
        simpa using z
      · cases z
    · cases z
theorem after_of {g : Gr} {ows' oc : List Addr} {H' : Hp} {σ' : St} {δ' : Env} {os : List Sl} (hg : g = gr X H (psOf as vs, fun i => (L2.start N vs)[i]?)) (hl : vs.length = as.length) (e : EnvR g ows' σ' H' δ') (ho : outs as δ' = some os) (hs : ∀ a ∈ oc, a ∈ ows') : After X.prog X.w X.K oc as vs os H H' := by
  subst hg
  refine ⟨fun a o n h => e.base a o n h, fun j q o hj => ?_⟩
  obtain ⟨g1, g2⟩ := outs_get ho hj
  obtain ⟨a, k1, k2, k3, k4⟩ := e.slot j _ g1
  have hp : σ'[j]? = (L2.start N vs)[j]? := e.par j o g1
  have hv : j < vs.length := by rw [hl]; exact g2
  have : (L2.start N vs)[j]? = some (some vs[j]) := by
    unfold L2.start
    rw [List.getElem?_append_left (by rw [List.length_map]; exact hv), List.getElem?_map, List.getElem?_eq_getElem hv]
    rfl
  rw [k1, this] at hp
  refine ⟨a, ?_, k4.mono (hid_sub hs)⟩
  rw [List.getElem?_eq_getElem hv]
  have e2 : V.ref a = vs[j] := by simpa using hp
  rw [← e2]
/-- the reading of the body gives the promise -/
theorem body_ok {b : S} {n m : Nat} {Q : VK} {bk ct : St → Hp → Prop} (hm : lamN ∉ X.N) (hN : N.length = n) (h : spD X.prog X.w X.K cl m (run T n b) vs H Q E) : tS X T cl E b { nx := fun _ H' => Q .non H', rt := Q, bk := bk, ct := ct } (L2.start N vs) H := by
  obtain ⟨ows, as, hl, d, A, h⟩ := h
  by_cases hc : as.all argB = true ∧ as.length ≤ n
  · have hr : run T n b as = (match exs T b (as ++ List.replicate (n - as.length) .no) with
      | .ok f δ => (match f, outs as δ with
        | .nx, some os => .ok (.d .non) os
        | .rt r, some os => .ok r os
        | _, _ => .no)
      | .ex c δ => (match outs as δ with
        | some os => .ex c os
        | none => .no)
      | .no => .no) := if_pos hc
    refine ⟨H, (psOf as vs, fun i => (L2.start N vs)[i]?), ows, ows, _, env_start n hm hN hc.2 hc.1 d A, d, fun _ h => h, ?_⟩
    cases he : exs T b (as ++ List.replicate (n - as.length) .no) with
    | ok f δ' =>
      rw [he] at hr
      simp only at hr
      cases ho : outs as δ' with
      | none =>
        rw [ho] at hr
        have hr : run T n b as = .no := by rw [hr]; cases f <;> rfl
        rw [hr] at h
        exact h.elim
      | some os =>
        rw [ho] at hr
        intro σ' ows' H' er gw
        cases f with
        | nx =>
          have hr : run T n b as = .ok (.d .non) os := hr
          rw [hr] at h
          exact h .non H' (after_of rfl A.len er ho gw.sub) (by simp only [Rep])
        | rt r =>
          have hr : run T n b as = .ok r os := hr
          rw [hr] at h
          intro v rv
          cases r with
          | d x => exact h v H' (after_of rfl A.len er ho gw.sub) rv
          | fr o =>
            obtain ⟨p, rfl, p1, p2, p3⟩ := rv
            exact h p H' p2 (after_of rfl A.len er ho fun a ha => by
              rcases List.mem_cons.mp ha with rfl | ha
              · exact p1
              · exact gw.sub a ha) p3
        | bk =>
          have hr : run T n b as = .no := hr
          rw [hr] at h
          exact h.elim
        | ct =>
          have hr : run T n b as = .no := hr
          rw [hr] at h
          exact h.elim
    | ex c δ' =>
      rw [he] at hr
      simp only at hr
      cases ho : outs as δ' with
      | none =>
        rw [ho] at hr
        rw [hr] at h
        exact h.elim
      | some os =>
        rw [ho] at hr
        have hr : run T n b as = .ex c os := hr
        rw [hr] at h
        exact fun σ' ows' H' cv d' er gw x => h H' cv d' (after_of rfl A.len er ho gw.sub) x
    | no =>
      rw [he] at hr
      have hr : run T n b as = .no := hr
      rw [hr] at h
      exact h.elim
  · have hr : run T n b as = .no := if_neg hc
    rw [hr] at h
    exact h.elim
/-- what is told of a module for its defs -/
structure ModOk (P : Program) (K : PySem.W.Frag) (mg : Str → Option Value) (cl : Str → Option Addr) (cons : List (Str × D)) (xs : List Str) : Prop where
  blt : ∀ x ∈ bltNames, mg x = none
  cons : ∀ x d, cons.lookup x = some d → ∃ u v, mg x = some u ∧ RelV v u ∧ ConR K d v
  exn : ∀ x ∈ xs, ∀ f, exnF x = some f → ∃ C, cl x = some C ∧ ExnD K mg C x f
  exs : ∀ x ∈ xs, exnF x = none → ∃ C B newId initId bmB, cl x = some C ∧ ExcBaseFacts B newId initId bmB ∧ PySem.W.excIn K C bmB newId = true ∧ mg x = some (.ref C) ∧ PySem.W.keepIn K (.ref C) = true ∧ PySem.W.subIn K (.ref C) (.type "BaseException") = some true ∧ PySem.W.typeIn K (.ref C) = some (.type "type")
end
end G
/-! G.LawEnd: defs by names; the end of a law. -/
namespace G
open PySem L2
theorem fn_okD {P : Program} {w : World} {K : PySem.W.Frag} {mg : Str → Option Value} {base : Heap} {cl : Str → Option Addr} {x qual : Str} {params : Arguments} {body : List Stmt} {scope : Scope} {f : Addr} {fd : FuncData} {N ps : List Str} {k : Nat} {T : List Fn} {b : S} {fns : List (Str × Nat)} {cons : List (Str × D)} {xs : List Str}
    (M : ModOk P K mg cl cons xs) (F : FunD K x qual params body scope [] [] f fd) (S : FnScope N ps scope) (hfn : ∀ (i : Nat) (y : Str) (n : Nat), fns[i]? = some (y, n) → ∃ g, T[i]? = some g ∧ FnAt P w K mg base cl k y n g)
    (hb : isSs ⟨N, scope, fns, cons, []⟩ xs b body = true) (hm : lamN ∉ N) (hk : 2 ≤ k ∨ ∀ x ∈ xs, exnF x = none := by decide +kernel) : FnOk P w K mg base (L2.CX P w) (k + 1) f fd ps (spD P w K cl ps.length (run T N.length b)) := by
  refine FunD.ok F S (fun vs H Q E ⟨_, _, h, _⟩ => h) fun cdv A outer s H vs Q E hr hs => ?_
  have C : CtOk T cl (cxOf (L2.CX P w) P w K mg base N qual scope f cdv A outer s H E) ⟨N, scope, fns, cons, []⟩ E k :=
    ⟨rfl, S.nd, rfl, rfl, hr, passes_call (takes_of rfl rfl rfl rfl) (fun _ _ _ _ h => h), hfn, M.blt, M.cons, fun _ _ z => nomatch z⟩
  have Y : SdOk cl (cxOf (L2.CX P w) P w K mg base N qual scope f cdv A outer s H E) ⟨N, scope, fns, cons, []⟩ E xs :=
    ⟨S.kind, rfl, passes_of rfl, takes_of rfl rfl rfl rfl, rfl, rfl, fun y hy f hf => by
      obtain ⟨C, h1, E1⟩ := M.exn y hy f hf
      exact ⟨C, h1, E1.gl, E1.xm, E1.xf, E1.noat, fun hg hd v te p pos hv ho => mk_exn E1 (hr.mono (hk.resolve_right fun z => by rw [z y hy] at hf; cases hf)) passL hg hd hv ho⟩, fun y hy hn => by
      obtain ⟨C, B, newId, initId, bmB, h1, h2, h3, h4, h5, h6, h7⟩ := M.exs y hy hn
      exact ⟨C, h1, fun hg hd m j p p2 pos => pmk_own h2 h3 h4 h5 (raises_own h6 h7) hg hd⟩⟩
  exact ⟨_, (both_all T cl b _ _ E k xs C Y).2 _ hb, body_ok hm rfl hs⟩
theorem fn_atD {P : Program} {w : World} {K : PySem.W.Frag} {mg : Str → Option Value} {base : Heap} {cl : Str → Option Addr} {x qual : Str} {params : Arguments} {body : List Stmt} {scope : Scope} {f : Addr} {fd : FuncData} {N ps : List Str} {k : Nat} {T : List Fn} {b : S} {fns : List (Str × Nat)} {cons : List (Str × D)} {xs : List Str}
    (M : ModOk P K mg cl cons xs) (F : FunD K x qual params body scope [] [] f fd) (S : FnScope N ps scope) (hfn : ∀ (i : Nat) (y : Str) (n : Nat), fns[i]? = some (y, n) → ∃ g, T[i]? = some g ∧ FnAt P w K mg base cl k y n g)
    (hb : isSs ⟨N, scope, fns, cons, []⟩ xs b body = true) (hm : lamN ∉ N) (gx : mg x = some (.ref f)) (bn : Binds K fd ps []) (hk : 2 ≤ k ∨ ∀ x ∈ xs, exnF x = none := by decide +kernel) : FnAt P w K mg base cl (k + 1) x ps.length (run T N.length b) :=
  ⟨f, fd, ps, fn_okD M F S hfn hb hm hk, gx, F.kp, bn⟩
theorem hid_nil (H : Hp) : hid [] H = H := by funext a; unfold hid; rw [if_neg (by simp)]
/-- the law's promise, from what the evaluator answers -/
theorem law_sp {P : Program} {w : World} {K : PySem.W.Frag} {cl : Str → Option Addr} {m : Fn} {ns : List Int} {H : Hp} {a : Addr} (hS : SqL K H a (ns.map V.int)) (h : ∃ os, m [.ro (.frz (ns.map .int))] = .ok (.d (.bl true)) os) :
    spD P w K cl 1 m [.ref a] H (fun v _ => v = .bl true) fun _ _ _ => False := by
  obtain ⟨os, h⟩ := h
  refine ⟨[], [.ro (.frz (ns.map .int))], rfl, fun _ z => by simp at z, ⟨rfl, fun j s v h1 h2 => ?_, fun i j p q o u _ h1 _ => ?_⟩, ?_⟩
  · cases j with
    | zero =>
      have e1 : Sl.ro (.frz (ns.map .int)) = s := by simpa using h1
      have e2 : V.ref a = v := by simpa using h2
      subst e1 e2
      show Rep K (hid [] H) (.frz (ns.map .int)) (.ref a)
      rw [hid_nil]
      simp only [Rep]
      exact ⟨a, _, rfl, hS, ints_reps ns⟩
    | succ j => simp at h1
  · cases i with
    | zero => simp at h1
    | succ i => simp at h1
  · rw [h]
    intro v H' _ rv
    simpa only [Rep] using rv
theorem walk_ofW {l : PySem.W.OpenLaw} {n k : Nat} {q : Program} {loose : List Str} {XP : (Str → Option Value) → Heap → Prop} {YP : World → Heap → Prop} {d : DefRec} {CX : World → CXT} {x : Str}
    (hn : l.most = some n) (hn2 : n ≤ sizeLine) (hdf : d.params.defaults = []) (hr : Room k callerA)
    (F : ∀ (w : World) (mg : Str → Option Value) (fa : Addr) (h : Heap), YP w h → h.Ns mainGlobals mg → mg d.name = some (.ref fa) →
      ∃ (K : PySem.W.Frag) (fd : FuncData) (sp : Sp), K.In h ∧ (∀ (s : Shared) (u : Value), BindsTo s fd ⟨[u], []⟩ [(x, u)]) ∧
        (∀ (H : Hp) (a : Addr) (ns : List Int), ns.length ≤ n → Only H → SqL K H a (ns.map V.int) → sp [.ref a] H (fun v _ => v = .bl true) fun _ _ _ => False) ∧
        ∀ base : Heap, K.In base → base.Ns mainGlobals mg → FnOk l.prog w K mg base (CX w) k fa fd [x] sp)
    (hCX : ∀ (w : World) (H : Hp) (s : Shared) (e : Value) (s' : Shared), CX w [] H s (fun _ _ _ => False) e s' → False) :
    PySem.W.WalkO q loose XP YP l.row.toRowW d [] (fun f vs => PySem.call f vs) := by
  refine Att.attach_call hn hdf fun w s₀ s₁ mg mb fa o pm cd doc a vs ns G Y ho hd hcd hmg hobj hints hlen hg => ?_
  obtain ⟨K, fd, sp, KX, hb, hsp, hF⟩ := F w mg fa _ Y G.T.g hmg
  exact law_call KX G.T.g G.T.b G.T.builtins G.T.nolimit hg hobj hints (Nat.le_trans hlen hn2) hr hF hb (fun H hO hS => hsp H a ns hlen hO hS) fun H e s' => hCX w H s₁ e s'
theorem no_cx {P : Program} : ∀ (w : World) (H : Hp) (s : Shared) (e : Value) (s' : Shared), L2.CX P w [] H s (fun _ _ _ => False) e s' → False := fun w H s e s' ⟨_, _, _, _, _, _, _, _, _, _, _, _, z⟩ => z
/-- the callees, one by one -/
def AllFn (P : Program) (w : World) (K : PySem.W.Frag) (mg : Str → Option Value) (base : Heap) (cl : Str → Option Addr) (k : Nat) : List (Str × Nat) → List Fn → Prop
  | [], _ => True
  | (y, n) :: l, f :: T => FnAt P w K mg base cl k y n f ∧ AllFn P w K mg base cl k l T
  | _ :: _, [] => False
theorem AllFn.get {P : Program} {w : World} {K : PySem.W.Frag} {mg : Str → Option Value} {base : Heap} {cl : Str → Option Addr} {k : Nat} : ∀ {l : List (Str × Nat)} {T : List Fn}, AllFn P w K mg base cl k l T → ∀ (i : Nat) (y : Str) (n : Nat), l[i]? = some (y, n) → ∃ g, T[i]? = some g ∧ FnAt P w K mg base cl k y n g
  | [], _, _, i, y, n, h => by simp at h
  | (z, m) :: l, f :: T, ⟨h1, h2⟩, 0, y, n, h => by
    have e : (z, m) = (y, n) := by simpa using h
    cases e
    exact ⟨f, rfl, h1⟩
  | (z, m) :: l, f :: T, ⟨h1, h2⟩, i + 1, y, n, h => by
    obtain ⟨g, g1, g2⟩ := h2.get i y n (by simpa using h)
    exact ⟨g, by simpa using g1, g2⟩
  | _ :: _, [], h, _, _, _, _ => h.elim
end G
/-! G.Rec: a def that calls itself, so deep and no deeper. -/
namespace G
open PySem L2
theorem fn_no {P : Program} {w : World} {K : PySem.W.Frag} {mg : Str → Option Value} {base : Heap} {cl : Str → Option Addr} {x qual : Str} {params : Arguments} {body : List Stmt} {scope : Scope} {f : Addr} {fd : FuncData} {ps : List Str} {k : Nat}
    (F : FunD K x qual params body scope [] [] f fd) (gx : mg x = some (.ref f)) (bn : Binds K fd ps []) : FnAt P w K mg base cl k x ps.length (fun _ => .no) := by
  refine ⟨f, fd, ps, ⟨fun vs H Q E h => ?_, fun A outer s H args us vs Q E _ _ _ _ h => ?_⟩, gx, F.kp, bn⟩
  · obtain ⟨_, _, h1, _⟩ := h
    exact h1
  · obtain ⟨_, _, _, _, _, h2⟩ := h
    exact h2.elim
end G
/-! G.Facts: what the head tells of a module: its defs, built-ins, errors, constants. -/
namespace G
open PySem L2
mutual
def repB (K : PySem.W.Frag) : D → Value → Bool
  | .non, .none => true
  | .bl b, .bool c => b == c
  | .int i, .int j _ => decide (i = j)
  | .str x, .str y _ => decide (x = y)
  | .tup xs, .ref a => (match K.lookup a with
    | some o => (match o.cls, o.data with
      | .type c, .seq its _ => decide (c = "tuple") && decide (its.size ≤ sizeLine) && repsB K xs its.toList
      | _, _ => false)
    | none => false)
  | _, _ => false
def repsB (K : PySem.W.Frag) : List D → List Value → Bool
  | [], [] => true
  | x :: xs, u :: us => repB K x u && repsB K xs us
  | _, _ => false
end
mutual
theorem repB_ok {K : PySem.W.Frag} : ∀ (d : D) (u : Value), repB K d u = true → ∃ v, RelV v u ∧ ∀ H, Rep K H d v
  | .non, u, h => by
    cases u <;> simp only [repB, Bool.false_eq_true] at h
    exact ⟨.non, rfl, fun H => by simp only [Rep]⟩
  | .bl b, u, h => by
    cases u <;> simp only [repB, Bool.false_eq_true] at h
    exact ⟨.bl b, by rw [eq_of_beq h]; rfl, fun H => by simp only [Rep]⟩
  | .int i, u, h => by
    cases u <;> simp only [repB, Bool.false_eq_true] at h
    rename_i j t
    exact ⟨.int i, ⟨t, by rw [of_decide_eq_true h]⟩, fun H => by simp only [Rep]⟩
  | .str i, u, h => by
    cases u <;> simp only [repB, Bool.false_eq_true] at h
    rename_i j t
    exact ⟨.str i, ⟨t, by rw [of_decide_eq_true h]⟩, fun H => by simp only [Rep]⟩
  | .tup xs, u, h => by
    cases u <;> simp only [repB, Bool.false_eq_true] at h
    rename_i a
    split at h
    · rename_i o ho
      split at h
      · rename_i c its n hc hd
        simp only [Bool.and_eq_true, decide_eq_true_eq] at h
        obtain ⟨⟨h1, h2⟩, h3⟩ := h
        obtain ⟨vs, k1, k2⟩ := repsB_ok xs _ h3
        refine ⟨.ref a, rfl, fun H => ?_⟩
        simp only [Rep]
        exact ⟨a, vs, rfl, .inr ⟨o, its, n, ho, by rw [hc, h1], hd, h2, k1⟩, k2 H⟩
      · cases h
    · cases h
  | .lst _, u, h => by cases u <;> simp only [repB, Bool.false_eq_true] at h
  | .frz _, u, h => by cases u <;> simp only [repB, Bool.false_eq_true] at h
theorem repsB_ok {K : PySem.W.Frag} : ∀ (ds : List D) (us : List Value), repsB K ds us = true → ∃ vs, Vals vs us ∧ ∀ H, Reps K H ds vs
  | [], [], _ => ⟨[], .nil, fun _ => Reps.nil⟩
  | [], _ :: _, h => by simp only [repsB, Bool.false_eq_true] at h
  | _ :: _, [], h => by simp only [repsB, Bool.false_eq_true] at h
  | d :: ds, u :: us, h => by
    simp only [repsB, Bool.and_eq_true] at h
    obtain ⟨v, h1, h2⟩ := repB_ok d u h.1
    obtain ⟨vs, h3, h4⟩ := repsB_ok ds us h.2
    exact ⟨v :: vs, .cons h1 h3, fun H => Reps.cons (h2 H) (h4 H)⟩
end
/-- a dict of the module, by its entries -/
def dicE : List (Int × Str) → List DictEntry → Bool
  | [], [] => true
  | (k, z) :: kvs, e :: es => (match e.key, e.val with
    | .int i _, .str y _ => decide (i = k) && decide (y = z)
    | _, _ => false) && decide (e.hash = hashInt k) && dicE kvs es
  | _, _ => false
theorem dicE_ok : ∀ {kvs : List (Int × Str)} {es : List DictEntry}, dicE kvs es = true → (∀ e ∈ es, ∃ k t, e.key = .int k t ∧ e.hash = hashInt k) ∧ ∀ i z, kvs.lookup i = some z → ∃ t, (es.find? fun e => Value.isInt i e.key).map (·.val) = some (.str z t)
  | [], [], _ => ⟨fun e he => by simp at he, fun i z h => by simp at h⟩
  | [], _ :: _, h => by simp [dicE] at h
  | _ :: _, [], h => by simp [dicE] at h
  | (k, z) :: kvs, e :: es, h => by
    simp only [dicE, Bool.and_eq_true, decide_eq_true_eq] at h
    obtain ⟨⟨h1, h2⟩, h3⟩ := h
    split at h1 <;> first | contradiction | skip
    rename_i i t y t2 hk hv
    simp only [Bool.and_eq_true, decide_eq_true_eq] at h1
    obtain ⟨rfl, rfl⟩ := h1
    obtain ⟨g1, g2⟩ := dicE_ok h3
    refine ⟨fun e' he => ?_, fun j w hl => ?_⟩
    · rcases List.mem_cons.mp he with rfl | he
      · exact ⟨_, _, hk, h2⟩
      · exact g1 e' he
    · rw [List.lookup_cons] at hl
      rw [List.find?_cons, hk]
      show ∃ t, Option.map _ (match (i == j) with | true => some e | false => _) = _
      by_cases q : j = i
      · subst q
        simp at hl
        subst hl
        simp [hv]
      · have e1 : (j == i) = false := beq_eq_false_iff_ne.2 q
        have e2 : (i == j) = false := beq_eq_false_iff_ne.2 fun z => q z.symm
        rw [e1] at hl
        rw [e2]
        exact g2 j w hl
def dicB (K : PySem.W.Frag) (kvs : List (Int × Str)) : Value → Bool
  | .ref a => (match K.lookup a with
    | some ⟨.type c, none, .dict es _, sl⟩ => decide (c = "dict") && decide (sl.size = 0) && dicE kvs es.toList
    | _ => false)
  | _ => false
theorem dicB_ok {K : PySem.W.Frag} {kvs : List (Int × Str)} {u : Value} (h : dicB K kvs u = true) : ∃ v, RelV v u ∧ DicR K kvs v := by
  unfold dicB at h
  split at h <;> first | contradiction | skip
  rename_i a
  split at h <;> first | contradiction | skip
  rename_i c es n sl hl
  simp only [Bool.and_eq_true, decide_eq_true_eq] at h
  obtain ⟨⟨rfl, h2⟩, h3⟩ := h
  cases Array.eq_empty_of_size_eq_zero h2
  obtain ⟨g1, g2⟩ := dicE_ok h3
  refine ⟨.ref a, rfl, a, es, n, rfl, hl, fun e he => g1 e (by simpa using he), fun i z q => ?_⟩
  obtain ⟨t, e⟩ := g2 i z q
  refine ⟨t, ?_⟩
  unfold findBy
  rw [← e, ← Array.find?_toList]
/-- the module's name stands for this -/
def conB (K : PySem.W.Frag) (q : Str × D) : Bool := match PySem.W.nsIn K mainGlobals q.1 with
  | some (some u) => (match q.2 with
    | .frz xs => (match kvsOf xs with
      | some kvs => dicB K kvs u
      | none => false)
    | d => repB K d u)
  | _ => false
theorem conB_ok {K : PySem.W.Frag} {d : D} {u : Value} (h : (match d with
    | .frz xs => (match kvsOf xs with
      | some kvs => dicB K kvs u
      | none => false)
    | d => repB K d u) = true) : ∃ v, RelV v u ∧ ConR K d v := by
  cases d with
  | frz xs =>
    simp only at h
    split at h <;> first | contradiction | skip
    rename_i kvs hk
    obtain ⟨v, h1, h2⟩ := dicB_ok h
    exact ⟨v, h1, kvs, hk, h2⟩
  | _ => exact repB_ok _ u h
def clX (K : PySem.W.Frag) (xs : List Str) : Str → Option Addr := fun x => if xs.contains x then some (He.ga K x) else none
theorem fact_of {fa : List He.Fa} {fn : List He.DefD} {K : PySem.W.Frag} (c : He.SaysD fa fn K) {f : He.Fa} (h : f ∈ fa) : f.ok K = true := by
  obtain ⟨i, hi⟩ := List.getElem?_of_mem h
  exact c.fact i hi
def hasFree (fa : List He.Fa) (x : Str) : Bool := fa.any fun f => match f with
  | .free y => decide (y = x)
  | _ => false
def hasExc (fa : List He.Fa) (x : Str) : Bool := fa.any fun f => match f with
  | .exc y => decide (y = x)
  | _ => false
def hasGlo (fa : List He.Fa) (x : Str) : Bool := fa.any fun f => match f with
  | .glo y => decide (y = x)
  | _ => false
theorem hasFree_ok {fa : List He.Fa} {x : Str} (h : hasFree fa x = true) : He.Fa.free x ∈ fa := by
  obtain ⟨f, h1, h2⟩ := List.any_eq_true.mp h
  cases f <;> simp only [Bool.false_eq_true] at h2
  rw [← of_decide_eq_true h2]
  exact h1
theorem hasExc_ok {fa : List He.Fa} {x : Str} (h : hasExc fa x = true) : He.Fa.exc x ∈ fa := by
  obtain ⟨f, h1, h2⟩ := List.any_eq_true.mp h
  cases f <;> simp only [Bool.false_eq_true] at h2
  rw [← of_decide_eq_true h2]
  exact h1
theorem hasGlo_ok {fa : List He.Fa} {x : Str} (h : hasGlo fa x = true) : He.Fa.glo x ∈ fa := by
  obtain ⟨f, h1, h2⟩ := List.any_eq_true.mp h
  cases f <;> simp only [Bool.false_eq_true] at h2
  rw [← of_decide_eq_true h2]
  exact h1
/-- what is told of a class whose __init__ keeps an int -/
def oexB (K : PySem.W.Frag) (C : Addr) : Bool := (match K.lookup C with
    | some ⟨.type t, _, .cls cd, sl⟩ => (match cd.mro, sl.toList with
      | .ref C' :: bm, [k0, k1, k2, k3, some (.builtin n), k5] => decide (t = "type") && decide (C' = C) && cd.hasDict && !cd.hasDel && decide (n = "ValueError.__new__") && PySem.HandSPX.refsVE bm
      | _, _ => false)
    | _ => false) && decide (PySem.W.findIn K (.ref C) "__setattr__" = some (some (.builtin "object.__setattr__"))) && decide (PySem.W.subIn K (.ref C) (.type "BaseException") = some true) && decide (PySem.W.typeIn K (.ref C) = some (.type "type")) && PySem.W.keepIn K (.ref C)
def exnB (K : PySem.W.Frag) (r x f : Str) : Bool := oexB K (He.ga K x) && decide (PySem.W.nsIn K mainGlobals x = some (some (.ref (He.ga K x)))) && decide (PySem.W.findIn K (.ref (He.ga K x)) f = some none) && decide (PySem.W.exmOne K (.ref (He.ga K x)) (.ref (He.ga K x)) = some true) && xfB K (He.ga K x) &&
  decide (PySem.W.findIn K (.ref (He.ga K x)) "__init__" = some (some (.ref (He.ma K (He.ga K x) "__init__")))) && decide (PySem.W.typeIn K (.ref (He.ma K (He.ga K x) "__init__")) = some (.type "function")) && decide (PySem.W.nsIn K mainGlobals r = some (some (.ref (He.ga K r)))) &&
  decide (PySem.W.specialIn K (.ref (He.ga K r)) "__getattribute__" = some (some (.builtin "type.__getattribute__"))) && PySem.W.readsIn K (He.ga K r) (.type "type") && (match PySem.W.findCls K (.ref (He.ga K r)) (.type "type") "__init__" with
    | some (.val (.builtin n)) => decide (n = "ValueError.__init__")
    | _ => false)
theorem oexB_ok {K : PySem.W.Frag} {C : Addr} (h : oexB K C = true) : OexC K C := by
  unfold oexB at h
  simp only [Bool.and_eq_true, decide_eq_true_eq] at h
  obtain ⟨⟨⟨⟨h1, h2⟩, h3⟩, h4⟩, h5⟩ := h
  refine ⟨?_, h2, h3, h4, h5⟩
  split at h1 <;> first | contradiction | skip
  rename_i t dd cd sl ho
  split at h1 <;> first | contradiction | skip
  rename_i C' bm k0 k1 k2 k3 n k5 hm hs
  simp only [Bool.and_eq_true, decide_eq_true_eq, Bool.not_eq_true'] at h1
  obtain ⟨⟨⟨⟨⟨rfl, rfl⟩, hd⟩, hl⟩, rfl⟩, hb⟩ := h1
  obtain ⟨nm, bs, mro, ns, qn, hdd, sn, sub, ab, col, del⟩ := cd
  dsimp only at hm hd hl
  subst hm hd hl
  obtain ⟨l⟩ := sl
  simp only at hs
  subst hs
  exact ⟨nm, qn, ns, bs, bm, sn, sub, ab, col, dd, k0, k1, k2, k3, k5, ho, hb⟩
theorem exn_ok {K : PySem.W.Frag} {h : Heap} {mg : Str → Option Value} {r x f nm qual : Str} {params : Arguments} {body : List Stmt} {scope : Scope} {fd : FuncData} (X : K.In h) (G : h.Ns mainGlobals mg) (hB : exnB K r x f = true) (F : FunD K nm qual params body scope [] [] (He.ma K (He.ga K x) "__init__") fd)
    (S : FnScope [("self" : Str), f] [("self" : Str), f] scope) (hb : isInit r f body = true) (bn : Binds K fd [("self" : Str), f] []) (hs : (okName r && glB scope r && visB scope ("self" : Str) && visB scope f && okName f) = true) : ExnD K mg (He.ga K x) x f := by
  unfold exnB at hB
  simp only [Bool.and_eq_true, decide_eq_true_eq] at hB hs
  obtain ⟨⟨⟨⟨⟨⟨⟨⟨⟨⟨b1, b2⟩, b3⟩, b4⟩, b5⟩, b6⟩, b7⟩, b8⟩, b9⟩, b10⟩, b11⟩ := hB
  obtain ⟨⟨⟨⟨s1, s2⟩, s3⟩, s4⟩, s5⟩ := hs
  refine ⟨PySem.W.mg_of X G b2, oexB_ok b1, b3, b4, xfB_ok b5, He.ga K r, r, _, fd, params, body, scope, nm, qual, F, S, hb, bn, b6, b7, PySem.W.mg_of X G b8, b9, b10, ?_, s1, s2, s3, s4, s5⟩
  split at b11 <;> first | contradiction | skip
  rename_i n e
  rw [e, of_decide_eq_true b11]
abbrev exnE (K : PySem.W.Frag) (q : Str × Str × Str) : Bool := exnB K q.1 q.2.1 q.2.2
/-! ### the hook -/
/-- what the names reach in n steps, and the statics -/
def asX (g : Addr → Option Obj) (n : Nat) : List Addr := He.asD g n ++ [cStatics]
abbrev AlG : Type := He.AlD × Bool
def obsG (n : Nat) (fa : List He.Fa) (fn : List He.DefD) (cons : List (Str × D)) (ens : List (Str × Str × Str)) (g : Addr → Option Obj) : AlG := (He.obsD fa fn (He.frG g (asX g n)), cons.all (conB (He.frG g (asX g n))) && ens.all (exnE (He.frG g (asX g n))))
def hookG (n : Nat) (fa : List He.Fa) (fn : List He.DefD) (cons : List (Str × D)) (ens : List (Str × Str × Str)) : PySem.W.Hook where
  α := AlG
  obs := fun s => obsG n fa fn cons ens s.heap.get?
  val := fun _ => (He.valD fn, true)
  says := fun _ h => ∃ K : PySem.W.Frag, K.In h ∧ He.SaysD fa fn K ∧ (cons.all (conB K) && ens.all (exnE K)) = true
  of := fun _ s e => ⟨He.frG s.heap.get? (asX s.heap.get? n), He.frG_in, congrArg Prod.fst e, congrArg Prod.snd e⟩
  keeps := fun _ _ _ ⟨K, hK, c⟩ k => ⟨K, PySem.W.Frag.In.keeps hK k, c⟩
theorem obsG_eq {n : Nat} {fa : List He.Fa} {fn : List He.DefD} {cons : List (Str × D)} {ens : List (Str × Str × Str)} {g : Addr → Option Obj} {s : Shared} (h : ∀ a, g a = s.heap.get? a) : obsG n fa fn cons ens g = (hookG n fa fn cons ens).obs s := by
  rw [funext h]
  rfl
theorem mod_ok {P : Program} {K : PySem.W.Frag} {h : Heap} {mg : Str → Option Value} {fa : List He.Fa} {fn : List He.DefD} {cons : List (Str × D)} {xs : List Str} (X : K.In h) (G : h.Ns mainGlobals mg) (c : He.SaysD fa fn K) (hc : cons.all (conB K) = true)
    (hb : bltNames.all (hasFree fa) = true) (hx : (xs.all fun x => (exnF x).isSome || (hasExc fa x && hasGlo fa x)) = true) (hexn : ∀ x ∈ xs, ∀ f, exnF x = some f → ∃ C, clX K xs x = some C ∧ ExnD K mg C x f) : ModOk P K mg (clX K xs) cons xs := by
  refine ⟨fun x q => He.free_ok X G (fact_of c (hasFree_ok (List.all_eq_true.mp hb x q))), fun x d q => ?_, hexn, fun x q hn => ?_⟩
  · have hm : (x, d) ∈ cons := PySem.mem_of_lookup q
    have z := List.all_eq_true.mp hc _ hm
    unfold conB at z
    split at z
    · rename_i u hu
      obtain ⟨v, h1, h2⟩ := conB_ok z
      exact ⟨u, v, PySem.W.mg_of X G hu, h1, h2⟩
    · cases z
  · have z := List.all_eq_true.mp hx x q
    rw [hn] at z
    simp only [Option.isSome_none, Bool.false_or, Bool.and_eq_true] at z
    have h1 := hasExc_ok z.1
    have h2 := hasGlo_ok z.2
    obtain ⟨e1, e2, e3, e4⟩ := He.exc_ok (fact_of c h1)
    exact ⟨He.ga K x, _, _, _, _, by unfold clX; rw [if_pos (by simpa using q)], F.excBase_ValueError, e1, He.glo_ok X G (fact_of c h2), e2, e3, e4⟩
/-! ### a dict with keys at the top: the run looks at one word of the world -/
def setF (w : World) (b : Bool) : World := ⟨w.draws, { w.params with followText := fun r => if r = "special-get-raises" then b else w.params.followText r }⟩
theorem setF_eq (w : World) : setF w (w.params.followText "special-get-raises") = w := by
  have e : (fun r => if r = "special-get-raises" then w.params.followText "special-get-raises" else w.params.followText r) = w.params.followText := by
    funext r
    by_cases h : r = "special-get-raises"
    · rw [if_pos h, h]
    · rw [if_neg h]
  unfold setF
  rw [e]
end G
/-! Mt1: records as plain data; runs in n turns and in more turns. No program in sight. -/
namespace G.M
structure Pl where
  rim : Bool
  p : Int
  deriving DecidableEq
structure Sc where
  a : Pl
  b : Pl
  j : Int
  e : Bool
  deriving DecidableEq
abbrev Rc := List Sc
abbrev St := Int × List Bool
inductive En where
  | out | off | caught
  deriving DecidableEq

def raw (p : Pl) (n : Int) : Int := if p.rim then p.p else n - 1 - p.p
def hit (s : Sc) (n t : Int) : Bool := decide (raw s.a n ≤ t) && decide (t ≤ raw s.b n)
def find (n t : Int) : Nat → Rc → Option (Nat × Sc)
  | _, [] => none
  | i, s :: r => if hit s n t then some (i, s) else find n t (i + 1) r
/-- al: a mark is kept of each scratch, not only of those that act every second time -/
def nxt (al : Bool) (r : Rc) (n : Int) (s : St) : St := match find n s.1 0 r with
  | none => (s.1 + 1, s.2)
  | some (i, c) => (s.1 + 1 + (if c.e && !(s.2.getD i false) then 0 else c.j), if al || c.e then s.2.set i (!(s.2.getD i false)) else s.2)
def Pl.ok (p : Pl) : Prop := 0 ≤ p.p ∧ p.p ≤ 5
def Sc.ok (s : Sc) : Prop := s.a.ok ∧ s.b.ok ∧ -3 ≤ s.j ∧ s.j ≤ 3 ∧ s.j ≠ 0
def Ok (r : Rc) : Prop := ∀ s ∈ r, s.ok

/-- from s it ends so behind k rounds -/
def Ends (f : St → St) (n : Int) : Nat → St → En → Prop
  | 0, s, e => (n ≤ s.1 ∧ e = .out) ∨ (s.1 < 0 ∧ e = .off)
  | k + 1, s, e => 0 ≤ s.1 ∧ s.1 < n ∧ Ends f n k (f s) e

theorem hit_id {s : Sc} (h : s.ok) {n t : Int} (d : Int) (hd : 0 ≤ d) (ht : t ≤ n - 7) : hit s (n + d) t = hit s n t := by
  obtain ⟨⟨h1, h2⟩, ⟨h3, h4⟩, _⟩ := h
  unfold hit raw
  rw [Bool.eq_iff_iff]
  simp only [Bool.and_eq_true, decide_eq_true_eq]
  split <;> split <;> omega
theorem hit_sh {s : Sc} (h : s.ok) {n t : Int} (d : Int) (hd : 0 ≤ d) (ht : 6 ≤ t) : hit s (n + d) (t + d) = hit s n t := by
  obtain ⟨⟨h1, h2⟩, ⟨h3, h4⟩, _⟩ := h
  unfold hit raw
  rw [Bool.eq_iff_iff]
  simp only [Bool.and_eq_true, decide_eq_true_eq]
  split <;> split <;> omega
theorem hit_mid {s : Sc} (h : s.ok) {n t : Int} (h6 : 6 ≤ t) (ht : t ≤ n - 7) : hit s n t = hit s 1000 500 := by
  obtain ⟨⟨h1, h2⟩, ⟨h3, h4⟩, _⟩ := h
  unfold hit raw
  rw [Bool.eq_iff_iff]
  simp only [Bool.and_eq_true, decide_eq_true_eq]
  split <;> split <;> omega
theorem find_eq {r : Rc} {n t m u : Int} (h : ∀ s ∈ r, hit s n t = hit s m u) : ∀ i, find n t i r = find m u i r := by
  induction r with
  | nil => intro i; rfl
  | cons s r ih =>
    intro i
    simp only [find]
    rw [h s (by simp), ih (fun x hx => h x (by simp [hx]))]
theorem find_some {n t : Int} {r : Rc} : ∀ {i k c}, find n t i r = some (k, c) → i ≤ k ∧ k < i + r.length ∧ r[k - i]? = some c ∧ hit c n t = true := by
  induction r with
  | nil => intro i k c h; simp [find] at h
  | cons s r ih =>
    intro i k c h
    simp only [find] at h
    split at h
    · rename_i hh
      cases h
      exact ⟨Nat.le_refl _, by simp, by simp, hh⟩
    · have := ih h
      obtain ⟨a, b, d, e⟩ := this
      refine ⟨by omega, by simp only [List.length_cons]; omega, ?_, e⟩
      have : k - i = (k - (i + 1)) + 1 := by omega
      rw [this]; simpa using d

def mid (r : Rc) : Option (Nat × Sc) := find 1000 500 0 r
theorem find_mid {r : Rc} (h : Ok r) {n t : Int} (h6 : 6 ≤ t) (ht : t ≤ n - 7) : find n t 0 r = mid r :=
  find_eq (fun s hs => hit_mid (h s hs) h6 ht) 0
theorem mid_ok {r : Rc} (h : Ok r) {i c} (hm : mid r = some (i, c)) : i < r.length ∧ c.ok ∧ r[i]? = some c := by
  obtain ⟨_, b, d, _⟩ := find_some hm
  refine ⟨by omega, h c ?_, by simpa using d⟩
  exact List.mem_of_getElem? d
/-- how far the needle comes in the middle, in a period -/
def vr (r : Rc) : Int := match mid r with
  | none => 1
  | some (_, c) => (if c.e then 2 else 1) + c.j
def per (r : Rc) : Nat := match mid r with
  | none => 1
  | some (_, c) => if c.e then 2 else 1
def many (r : Rc) : Int := match mid r with
  | none => 1
  | some (_, c) => max 1 (if (if c.e then 2 else 1) + c.j < 0 then -((if c.e then 2 else 1) + c.j) else (if c.e then 2 else 1) + c.j)
theorem many_eq (r : Rc) : many r = max 1 (if vr r < 0 then - vr r else vr r) := by
  unfold many vr
  split <;> simp
theorem vr_le {r : Rc} (h : Ok r) : -2 ≤ vr r ∧ vr r ≤ 5 := by
  unfold vr
  split
  · omega
  · rename_i i c e
    obtain ⟨_, ⟨_, _, a, b, _⟩, _⟩ := mid_ok h e
    split <;> omega
theorem many_le {r : Rc} (h : Ok r) : 1 ≤ many r ∧ many r ≤ 5 := by
  have := vr_le h
  rw [many_eq]; split <;> omega

theorem nxt_id {al} {r : Rc} (h : Ok r) {n t : Int} (ms) (d : Int) (hd : 0 ≤ d) (ht : t ≤ n - 7) : nxt al r (n + d) (t, ms) = nxt al r n (t, ms) := by
  unfold nxt
  simp only
  rw [find_eq (fun s hs => hit_id (h s hs) d hd ht) 0]
theorem nxt_sh {al} {r : Rc} (h : Ok r) {n t : Int} (ms) (d : Int) (hd : 0 ≤ d) (ht : 6 ≤ t) : nxt al r (n + d) (t + d, ms) = ((nxt al r n (t, ms)).1 + d, (nxt al r n (t, ms)).2) := by
  unfold nxt
  simp only
  rw [find_eq (fun s hs => hit_sh (h s hs) d hd ht) 0]
  split
  · simp only [Prod.mk.injEq, and_true]; omega
  · simp only [Prod.mk.injEq, and_true]; omega
theorem nxt_bd {al} {r : Rc} (h : Ok r) (n : Int) (s : St) : s.1 - 2 ≤ (nxt al r n s).1 ∧ (nxt al r n s).1 ≤ s.1 + 4 := by
  unfold nxt
  split
  · simp only; omega
  · rename_i i c e
    obtain ⟨_, _, d, _⟩ := find_some e
    obtain ⟨_, _, a, b, _⟩ := h c (List.mem_of_getElem? d)
    simp only
    split <;> omega
theorem nxt_len {al} (r : Rc) (n : Int) (s : St) : (nxt al r n s).2.length = s.2.length := by
  unfold nxt
  split
  · rfl
  · simp only; split <;> simp
/-- the middle scratch has its mark -/
def mk (r : Rc) (ms : List Bool) : Bool := match mid r with
  | none => false
  | some (i, c) => c.e && ms.getD i false
def phi (r : Rc) (s : St) : Int := s.1 - (if mk r s.2 then 1 else 0)
theorem phi_bd (r : Rc) (s : St) : s.1 - 1 ≤ phi r s ∧ phi r s ≤ s.1 := by
  unfold phi; split <;> omega
theorem getD_set_self {l : List Bool} {i : Nat} (h : i < l.length) (b d : Bool) : (l.set i b).getD i d = b := by
  simp [List.getD, h]
theorem phi_mid {r : Rc} (h : Ok r) {n : Int} {s : St} (hl : s.2.length = r.length) (h6 : 6 ≤ s.1) (ht : s.1 ≤ n - 7) :
    (vr r ≤ 0 → phi r (nxt false r n s) ≤ phi r s) ∧ (0 ≤ vr r → phi r s ≤ phi r (nxt false r n s)) := by
  unfold nxt phi mk vr
  rw [find_mid h h6 ht]
  cases e : mid r with
  | none => simp only; constructor <;> intro _ <;> simp <;> omega
  | some ic =>
    obtain ⟨i, c⟩ := ic
    obtain ⟨hi, ⟨_, _, a, b, _⟩, _⟩ := mid_ok h e
    have hi' : i < s.2.length := by omega
    simp only
    have hcs : c.e = true ∨ c.e = false := by cases c.e <;> simp
    have hms : s.2.getD i false = true ∨ s.2.getD i false = false := by cases s.2.getD i false <;> simp
    rcases hcs with hc | hc <;> rcases hms with hm | hm <;> simp only [Bool.false_and, Bool.true_and, Bool.not_false, Bool.not_true, Bool.or_true, Bool.or_false, if_true, if_false, Bool.false_eq_true, getD_set_self hi', hm, hc, reduceIte] <;> constructor <;> intro _ <;> omega

theorem ends_zero (f n s e) : Ends f n 0 s e ↔ (n ≤ s.1 ∧ e = .out) ∨ (s.1 < 0 ∧ e = .off) := Iff.rfl
theorem ends_succ (f n k s e) : Ends f n (k + 1) s e ↔ 0 ≤ s.1 ∧ s.1 < n ∧ Ends f n k (f s) e := Iff.rfl
theorem ends_det {f n} (hn : 0 ≤ n) : ∀ {k s e k' e'}, Ends f n k s e → Ends f n k' s e' → k = k' ∧ e = e' := by
  intro k
  induction k with
  | zero =>
    intro s e k' e' h h'
    cases k' with
    | zero => 
      simp only [ends_zero] at h h'
      rcases h with ⟨a, rfl⟩ | ⟨a, rfl⟩ <;> rcases h' with ⟨b, rfl⟩ | ⟨b, rfl⟩ <;> first | exact ⟨rfl, rfl⟩ | omega
    | succ k' => simp only [ends_zero, ends_succ] at h h'; omega
  | succ k ih =>
    intro s e k' e' h h'
    cases k' with
    | zero => simp only [ends_zero, ends_succ] at h h'; omega
    | succ k' =>
      have := ih h.2.2 h'.2.2
      exact ⟨by omega, this.2⟩

/-! ### one run beside the other -/
/-- the same turn, for ever -/
theorem same {r : Rc} (h : Ok r) (hv : vr r ≤ 0) {n d : Int} (hn : 40 ≤ n) (hd : 0 ≤ d) :
    ∀ k s e, s.2.length = r.length → phi r s ≤ 23 → (Ends (nxt false r n) n k s e ↔ Ends (nxt false r (n + d)) (n + d) k s e) := by
  intro k
  induction k with
  | zero =>
    intro s e hl hp
    have := phi_bd r s
    simp only [ends_zero]
    constructor <;> (intro h; rcases h with ⟨a, b⟩ | ⟨a, b⟩) <;> first | exact .inr ⟨a, b⟩ | omega
  | succ k ih =>
    intro s e hl hp
    have hb := phi_bd r s
    simp only [ends_succ]
    have e1 : nxt false r (n + d) s = nxt false r n s := nxt_id h s.2 d hd (by omega)
    rw [e1]
    by_cases h0 : 0 ≤ s.1
    · have hp' : phi r (nxt false r n s) ≤ 23 := by
        by_cases h6 : 6 ≤ s.1
        · have := (phi_mid h hl h6 (n := n) (by omega)).1 hv
          omega
        · have := nxt_bd (al := false) h n s
          have := phi_bd r (nxt false r n s)
          omega
      rw [ih (nxt false r n s) e (by rw [nxt_len]; exact hl) hp']
      constructor <;> (rintro ⟨a, b, c⟩; exact ⟨a, by omega, c⟩)
    · constructor <;> (rintro ⟨a, b, c⟩; omega)
/-- so many turns further in, for ever -/
theorem further {r : Rc} (h : Ok r) (hv : 0 ≤ vr r) {n d : Int} (hn : 40 ≤ n) (hd : 0 ≤ d) :
    ∀ k t ms e, ms.length = r.length → 7 ≤ phi r (t, ms) → (Ends (nxt false r n) n k (t, ms) e ↔ Ends (nxt false r (n + d)) (n + d) k (t + d, ms) e) := by
  intro k
  induction k with
  | zero =>
    intro t ms e hl hp
    have := phi_bd r (t, ms)
    simp only at this
    simp only [ends_zero]
    constructor <;> (intro h; rcases h with ⟨a, b⟩ | ⟨a, b⟩) <;> first | exact .inl ⟨by omega, b⟩ | omega
  | succ k ih =>
    intro t ms e hl hp
    have hb := phi_bd r (t, ms)
    simp only at hb
    simp only [ends_succ]
    have e1 : nxt false r (n + d) (t + d, ms) = ((nxt false r n (t, ms)).1 + d, (nxt false r n (t, ms)).2) := nxt_sh h ms d hd (by omega)
    rw [e1]
    by_cases h0 : t < n
    · have hp' : 7 ≤ phi r (nxt false r n (t, ms)) := by
        by_cases h6 : t ≤ n - 7
        · have := (phi_mid (s := (t, ms)) h hl (by simp only; omega) (n := n) h6).2 hv
          omega
        · have := nxt_bd (al := false) h n (t, ms)
          have := phi_bd r (nxt false r n (t, ms))
          simp only at *
          omega
      rw [ih (nxt false r n (t, ms)).1 (nxt false r n (t, ms)).2 e (by rw [nxt_len]; exact hl) hp']
      constructor <;> (rintro ⟨a, b, c⟩; exact ⟨by omega, by omega, c⟩)
    · constructor <;> (rintro ⟨a, b, c⟩; omega)
/-- a period in the middle -/
theorem period {r : Rc} (h : Ok r) {N t : Int} {ms : List Bool} (hl : ms.length = r.length) (h1 : 9 ≤ t) (h2 : t ≤ N - 12) (k : Nat) (e : En) :
    Ends (nxt false r N) N (k + per r) (t, ms) e ↔ Ends (nxt false r N) N k (t + vr r, ms) e := by
  have hf : ∀ u : Int, 6 ≤ u → u ≤ N - 7 → ∀ ms, nxt false r N (u, ms) = match mid r with
      | none => (u + 1, ms)
      | some (i, c) => (u + 1 + (if c.e && !(ms.getD i false) then 0 else c.j), if c.e then ms.set i (!(ms.getD i false)) else ms) := by
    intro u a b ms
    show nxt false r N (u, ms) = _
    unfold nxt
    simp only [find_mid h a b, Bool.false_or]
  unfold per vr
  have f1 := hf t (by omega) (by omega) ms
  cases em : mid r with
  | none =>
    rw [em] at f1
    simp only [ends_succ, f1]
    constructor
    · rintro ⟨a, b, c⟩; exact c
    · intro c; exact ⟨by omega, by omega, c⟩
  | some ic =>
    obtain ⟨i, c⟩ := ic
    obtain ⟨hi, ⟨_, _, a, b, _⟩, _⟩ := mid_ok h em
    have hi' : i < ms.length := by omega
    rw [em] at f1
    simp only at f1 ⊢
    cases hc : c.e
    · simp only [hc, Bool.false_and, Bool.false_eq_true, if_false] at f1
      simp only [Bool.false_eq_true, if_false, ends_succ, f1]
      have : t + 1 + c.j = t + (1 + c.j) := by omega
      rw [this]
      constructor
      · rintro ⟨a, b, c⟩; exact c
      · intro c; exact ⟨by omega, by omega, c⟩
    · simp only [hc, Bool.true_and, if_true] at f1
      simp only [if_true, ends_succ, f1]
      cases hm : ms.getD i false
      · have e1 : (ms.set i true).getD i false = true := getD_set_self hi' true false
        have e2 : (ms.set i true).set i false = ms := by
          rw [List.set_set]
          have : ms[i] = false := by simpa [List.getD, hi'] using hm
          rw [← this]; exact List.set_getElem_self hi'
        simp only [Bool.not_false, if_true]
        have f2 := hf (t + 1 + 0) (by omega) (by omega) (ms.set i true)
        rw [em] at f2
        simp only [hc, Bool.true_and, if_true, e1, Bool.not_true, Bool.false_eq_true, if_false, e2] at f2
        rw [f2]
        have : t + 1 + 0 + 1 + c.j = t + (2 + c.j) := by omega
        rw [this]
        constructor
        · rintro ⟨a, b, c, d, e⟩; exact e
        · intro c; exact ⟨by omega, by omega, by omega, by omega, c⟩
      · have e1 : (ms.set i false).getD i false = false := getD_set_self hi' false false
        have e2 : (ms.set i false).set i true = ms := by
          rw [List.set_set]
          have : ms[i] = true := by simpa [List.getD, hi'] using hm
          rw [← this]; exact List.set_getElem_self hi'
        simp only [Bool.not_true, Bool.false_eq_true, if_false]
        have f2 := hf (t + 1 + c.j) (by omega) (by omega) (ms.set i false)
        rw [em] at f2
        simp only [hc, Bool.true_and, if_true, e1, Bool.not_false, e2] at f2
        rw [f2]
        have : t + 1 + c.j + 1 + 0 = t + (2 + c.j) := by omega
        rw [this]
        constructor
        · rintro ⟨a, b, c, d, e⟩; exact e
        · intro c; exact ⟨by omega, by omega, by omega, by omega, c⟩
end G.M
/-! Mt2: runs in n turns and in n + q * many turns. -/
namespace G.M
theorem period' {r : Rc} (h : Ok r) {N t : Int} {ms : List Bool} (hl : ms.length = r.length) (h1 : 9 ≤ t) (h2 : t ≤ N - 12) {k : Nat} {e : En}
    (H : Ends (nxt false r N) N k (t, ms) e) : ∃ k', Ends (nxt false r N) N k' (t + vr r, ms) e := by
  have hp : per r = 1 ∨ per r = 2 := by
    unfold per; split
    · exact .inl rfl
    · split
      · exact .inr rfl
      · exact .inl rfl
  have b := nxt_bd (al := false) h N (t, ms)
  simp only at b
  match k, H with
  | 0, H => simp only [ends_zero] at H; omega
  | 1, H =>
    rcases hp with hp | hp
    · refine ⟨0, (period h hl h1 h2 0 e).1 ?_⟩
      rw [hp]; exact H
    · simp only [ends_zero, ends_succ] at H
      omega
  | k + 2, H =>
    rcases hp with hp | hp
    · refine ⟨k + 1, (period h hl h1 h2 (k + 1) e).1 ?_⟩
      rw [hp]; exact H
    · refine ⟨k, (period h hl h1 h2 k e).1 ?_⟩
      rw [hp]; exact H
theorem many_pos {r : Rc} (hv : 0 < vr r) : many r = vr r := by
  rw [many_eq]; split <;> omega
theorem many_neg {r : Rc} (hv : vr r < 0) : many r = -vr r := by
  rw [many_eq]; split <;> omega
theorem sm (q : Nat) (P : Int) : ((q + 1 : Nat) : Int) * P = q * P + P := by
  rw [Int.natCast_add, Int.add_mul]; omega
/-- periods one behind the other, inwards -/
theorem chain_up {r : Rc} (h : Ok r) (hv : 0 < vr r) {N : Int} {ms : List Bool} (hl : ms.length = r.length) {k : Nat} {e : En} :
    ∀ (q : Nat) (u : Int), 9 ≤ u → u + q * many r ≤ N - 12 + many r → Ends (nxt false r N) N k (u + q * many r, ms) e → Ends (nxt false r N) N (k + q * per r) (u, ms) e := by
  intro q
  have hm := many_pos hv
  induction q with
  | zero => intro u _ _ H; simpa using H
  | succ q ih =>
    intro u h9 hN H
    rw [sm] at hN H
    have hq : 0 ≤ (q : Int) * many r := Int.mul_nonneg (by omega) (by omega)
    have := ih (u + many r) (by omega) (by omega) (by rw [show u + many r + q * many r = u + (q * many r + many r) by omega]; exact H)
    rw [hm] at this
    have := (period h hl h9 (by omega) (k + q * per r) e).2 this
    rw [Nat.succ_mul, ← Nat.add_assoc]; exact this
theorem chain_up' {r : Rc} (h : Ok r) (hv : 0 < vr r) {N : Int} {ms : List Bool} (hl : ms.length = r.length) {e : En} :
    ∀ (q : Nat) (k : Nat) (u : Int), 9 ≤ u → u + q * many r ≤ N - 12 + many r → Ends (nxt false r N) N k (u, ms) e → ∃ k', Ends (nxt false r N) N k' (u + q * many r, ms) e := by
  intro q
  have hm := many_pos hv
  induction q with
  | zero => intro k u _ _ H; exact ⟨k, by simpa using H⟩
  | succ q ih =>
    intro k u h9 hN H
    rw [sm] at hN ⊢
    have hq : 0 ≤ (q : Int) * many r := Int.mul_nonneg (by omega) (by omega)
    obtain ⟨k', H'⟩ := period' h hl h9 (by omega) H
    rw [← hm] at H'
    have := ih k' (u + many r) (by omega) (by omega) H'
    rw [show u + (q * many r + many r) = u + many r + q * many r by omega]; exact this
/-- and outwards -/
theorem chain_dn {r : Rc} (h : Ok r) (hv : vr r < 0) {N : Int} {ms : List Bool} (hl : ms.length = r.length) {k : Nat} {e : En} :
    ∀ (q : Nat) (u : Int), 9 ≤ u → u + q * many r ≤ N - 12 → Ends (nxt false r N) N k (u, ms) e → Ends (nxt false r N) N (k + q * per r) (u + q * many r, ms) e := by
  intro q
  have hm := many_neg hv
  induction q with
  | zero => intro u _ _ H; simpa using H
  | succ q ih =>
    intro u h9 hN H
    rw [sm] at hN ⊢
    have hq : 0 ≤ (q : Int) * many r := Int.mul_nonneg (by omega) (by omega)
    have := ih u h9 (by omega) H
    rw [Nat.succ_mul, ← Nat.add_assoc]
    refine (period h hl (by omega) (by omega) (k + q * per r) e).2 ?_
    rw [show u + (q * many r + many r) + vr r = u + q * many r by omega]; exact this
theorem chain_dn' {r : Rc} (h : Ok r) (hv : vr r < 0) {N : Int} {ms : List Bool} (hl : ms.length = r.length) {e : En} :
    ∀ (q : Nat) (k : Nat) (u : Int), 9 ≤ u → u + q * many r ≤ N - 12 → Ends (nxt false r N) N k (u + q * many r, ms) e → ∃ k', Ends (nxt false r N) N k' (u, ms) e := by
  intro q
  have hm := many_neg hv
  induction q with
  | zero => intro k u _ _ H; exact ⟨k, by simpa using H⟩
  | succ q ih =>
    intro k u h9 hN H
    rw [sm] at hN H
    have hq : 0 ≤ (q : Int) * many r := Int.mul_nonneg (by omega) (by omega)
    obtain ⟨k', H'⟩ := period' h hl (by omega) (by omega) H
    rw [show u + (q * many r + many r) + vr r = u + q * many r by omega] at H'
    exact ih k' u h9 (by omega) H'
theorem mk_len (r : Rc) (n : Int) (s : St) (h : s.2.length = r.length) : (nxt false r n s).2.length = r.length := by rw [nxt_len]; exact h

theorem left {r : Rc} (h : Ok r) {n K : Int} (hn : 40 ≤ n) (h1 : 16 ≤ K) (h2 : K ≤ 22) :
    ∀ (k : Nat) (s : St) (e : En), s.2.length = r.length → s.1 < K → Ends (nxt false r n) n k s e → ∃ x, ∀ q : Nat, Ends (nxt false r (n + q * many r)) (n + q * many r) (k + q * x) s e := by
  have hmp := many_le h
  have hd : ∀ q : Nat, 0 ≤ (q : Int) * many r := fun q => Int.mul_nonneg (by omega) (by omega)
  rcases Int.lt_or_le 0 (vr r) with hv | hv
  · have hm := many_pos hv
    intro k
    induction k with
    | zero =>
      intro s e hl ht H
      simp only [ends_zero] at H
      refine ⟨0, fun q => ?_⟩
      simp only [Nat.mul_zero, Nat.add_zero, ends_zero]
      have := hd q
      rcases H with ⟨x, y⟩ | ⟨x, y⟩
      · omega
      · exact .inr ⟨by omega, y⟩
    | succ k ih =>
      intro s e hl ht H
      rw [ends_succ] at H
      obtain ⟨a, b, H⟩ := H
      have hb := nxt_bd (al := false) h n s
      have e1 : ∀ q : Nat, nxt false r (n + q * many r) s = nxt false r n s := fun q => nxt_id h s.2 _ (hd q) (by omega)
      by_cases hK : (nxt false r n s).1 < K
      · obtain ⟨x, hx⟩ := ih (nxt false r n s) e (mk_len r n s hl) hK H
        refine ⟨x, fun q => ?_⟩
        rw [Nat.add_right_comm, ends_succ, e1 q]
        exact ⟨a, by have := hd q; omega, hx q⟩
      · refine ⟨per r, fun q => ?_⟩
        rw [Nat.add_right_comm, ends_succ, e1 q]
        refine ⟨a, by have := hd q; omega, ?_⟩
        have hp := phi_bd r (nxt false r n s)
        have := (further h (by omega) hn (hd q) k (nxt false r n s).1 (nxt false r n s).2 e (mk_len r n s hl) (by show 7 ≤ phi r (nxt false r n s); omega)).1 H
        exact chain_up h hv (mk_len r n s hl) q (nxt false r n s).1 (by omega) (by omega) this
  · intro k s e hl ht H
    refine ⟨0, fun q => ?_⟩
    rw [Nat.mul_zero, Nat.add_zero]
    have hp := phi_bd r s
    exact (same h hv hn (hd q) k s e hl (by omega)).1 H
theorem left' {r : Rc} (h : Ok r) {n K : Int} (hn : 40 ≤ n) (h1 : 16 ≤ K) (h2 : K ≤ 22) (q : Nat) :
    ∀ (k : Nat) (s : St) (e : En), s.2.length = r.length → s.1 < K → Ends (nxt false r (n + q * many r)) (n + q * many r) k s e → ∃ k', Ends (nxt false r n) n k' s e := by
  have hmp := many_le h
  have hd : 0 ≤ (q : Int) * many r := Int.mul_nonneg (by omega) (by omega)
  rcases Int.lt_or_le 0 (vr r) with hv | hv
  · have hm := many_pos hv
    intro k
    induction k with
    | zero =>
      intro s e hl ht H
      simp only [ends_zero] at H
      refine ⟨0, ?_⟩
      simp only [ends_zero]
      rcases H with ⟨x, y⟩ | ⟨x, y⟩
      · omega
      · exact .inr ⟨by omega, y⟩
    | succ k ih =>
      intro s e hl ht H
      rw [ends_succ] at H
      obtain ⟨a, b, H⟩ := H
      have hb := nxt_bd (al := false) h n s
      have e1 : nxt false r (n + q * many r) s = nxt false r n s := nxt_id h s.2 _ hd (by omega)
      rw [e1] at H
      by_cases hK : (nxt false r n s).1 < K
      · obtain ⟨x, hx⟩ := ih (nxt false r n s) e (mk_len r n s hl) hK H
        exact ⟨x + 1, a, by omega, hx⟩
      · have hp := phi_bd r (nxt false r n s)
        obtain ⟨k', H'⟩ := chain_up' h hv (mk_len r n s hl) q k (nxt false r n s).1 (by omega) (by omega) H
        have := (further h (by omega) hn hd k' (nxt false r n s).1 (nxt false r n s).2 e (mk_len r n s hl) (by show 7 ≤ phi r (nxt false r n s); omega)).2 H'
        exact ⟨k' + 1, a, by omega, this⟩
  · intro k s e hl ht H
    have hp := phi_bd r s
    exact ⟨k, (same h hv hn hd k s e hl (by omega)).2 H⟩
theorem right {r : Rc} (h : Ok r) {n K : Int} (hn : 40 ≤ n) (h1 : 16 ≤ K) (h2 : K ≤ 22) :
    ∀ (k : Nat) (t : Int) (ms : List Bool) (e : En), ms.length = r.length → K ≤ t → Ends (nxt false r n) n k (t, ms) e → ∃ x, ∀ q : Nat, Ends (nxt false r (n + q * many r)) (n + q * many r) (k + q * x) (t + q * many r, ms) e := by
  have hmp := many_le h
  have hd : ∀ q : Nat, 0 ≤ (q : Int) * many r := fun q => Int.mul_nonneg (by omega) (by omega)
  rcases Int.lt_or_le (vr r) 0 with hv | hv
  · have hm := many_neg hv
    intro k
    induction k with
    | zero =>
      intro t ms e hl ht H
      simp only [ends_zero] at H
      refine ⟨0, fun q => ?_⟩
      simp only [Nat.mul_zero, Nat.add_zero, ends_zero]
      have := hd q
      rcases H with ⟨x, y⟩ | ⟨x, y⟩
      · exact .inl ⟨by omega, y⟩
      · omega
    | succ k ih =>
      intro t ms e hl ht H
      rw [ends_succ] at H
      obtain ⟨a, b, H⟩ := H
      simp only at a b
      have hb := nxt_bd (al := false) h n (t, ms)
      simp only at hb
      have e1 : ∀ q : Nat, nxt false r (n + q * many r) (t + q * many r, ms) = ((nxt false r n (t, ms)).1 + q * many r, (nxt false r n (t, ms)).2) := fun q => nxt_sh h ms _ (hd q) (by omega)
      by_cases hK : K ≤ (nxt false r n (t, ms)).1
      · obtain ⟨x, hx⟩ := ih (nxt false r n (t, ms)).1 (nxt false r n (t, ms)).2 e (mk_len r n (t, ms) hl) hK H
        refine ⟨x, fun q => ?_⟩
        rw [Nat.add_right_comm, ends_succ, e1 q]
        exact ⟨by have := hd q; simp only; omega, by simp only; omega, hx q⟩
      · refine ⟨per r, fun q => ?_⟩
        rw [Nat.add_right_comm, ends_succ, e1 q]
        refine ⟨by have := hd q; simp only; omega, by simp only; omega, ?_⟩
        have hp := phi_bd r (nxt false r n (t, ms))
        have := (same h (by omega) hn (hd q) k (nxt false r n (t, ms)) e (mk_len r n (t, ms) hl) (by omega)).1 H
        exact chain_dn h hv (mk_len r n (t, ms) hl) q (nxt false r n (t, ms)).1 (by omega) (by omega) this
  · intro k t ms e hl ht H
    refine ⟨0, fun q => ?_⟩
    rw [Nat.mul_zero, Nat.add_zero]
    have hp := phi_bd r (t, ms)
    simp only at hp
    exact (further h hv hn (hd q) k t ms e hl (by omega)).1 H
theorem right' {r : Rc} (h : Ok r) {n K : Int} (hn : 40 ≤ n) (h1 : 16 ≤ K) (h2 : K ≤ 22) (q : Nat) :
    ∀ (k : Nat) (t : Int) (ms : List Bool) (e : En), ms.length = r.length → K ≤ t → Ends (nxt false r (n + q * many r)) (n + q * many r) k (t + q * many r, ms) e → ∃ k', Ends (nxt false r n) n k' (t, ms) e := by
  have hmp := many_le h
  have hd : 0 ≤ (q : Int) * many r := Int.mul_nonneg (by omega) (by omega)
  rcases Int.lt_or_le (vr r) 0 with hv | hv
  · have hm := many_neg hv
    intro k
    induction k with
    | zero =>
      intro t ms e hl ht H
      simp only [ends_zero] at H
      refine ⟨0, ?_⟩
      simp only [ends_zero]
      rcases H with ⟨x, y⟩ | ⟨x, y⟩
      · exact .inl ⟨by omega, y⟩
      · omega
    | succ k ih =>
      intro t ms e hl ht H
      rw [ends_succ] at H
      obtain ⟨a, b, H⟩ := H
      simp only at a b
      have hb := nxt_bd (al := false) h n (t, ms)
      simp only at hb
      have e1 : nxt false r (n + q * many r) (t + q * many r, ms) = ((nxt false r n (t, ms)).1 + q * many r, (nxt false r n (t, ms)).2) := nxt_sh h ms _ hd (by omega)
      rw [e1] at H
      by_cases hK : K ≤ (nxt false r n (t, ms)).1
      · obtain ⟨x, hx⟩ := ih (nxt false r n (t, ms)).1 (nxt false r n (t, ms)).2 e (mk_len r n (t, ms) hl) hK H
        exact ⟨x + 1, by simp only; omega, by simp only; omega, hx⟩
      · have hp := phi_bd r (nxt false r n (t, ms))
        obtain ⟨k', H'⟩ := chain_dn' h hv (mk_len r n (t, ms) hl) q k (nxt false r n (t, ms)).1 (by omega) (by omega) H
        have := (same h (by omega) hn hd k' (nxt false r n (t, ms)) e (mk_len r n (t, ms) hl) (by omega)).2 H'
        exact ⟨k' + 1, by simp only; omega, by simp only; omega, this⟩
  · intro k t ms e hl ht H
    have hp := phi_bd r (t, ms)
    simp only at hp
    exact ⟨k, (further h hv hn hd k t ms e hl (by omega)).2 H⟩
end G.M
/-! Mt3: a run with what was seen; it comes to an end; marks of all scratches or of some. -/
namespace G.M
/-- (end, states met, the index of the first that comes again) -/
def runH (f : St → St) (n : Int) : Nat → St → List St → Option (En × List St × Nat)
  | 0, _, _ => none
  | k + 1, s, h => if 0 ≤ s.1 ∧ s.1 < n then (if s ∈ h then some (.caught, h, h.idxOf s) else runH f n k (f s) (h ++ [s]))
    else some (if n ≤ s.1 then .out else .off, h, 0)

theorem nodup_le : ∀ (N : Nat) (l : List Nat), l.Nodup → (∀ x ∈ l, x < N) → l.length ≤ N := by
  intro N
  induction N with
  | zero =>
    intro l _ h
    cases l with
    | nil => simp
    | cons a l => exact absurd (h a (by simp)) (by omega)
  | succ N ih =>
    intro l hn h
    by_cases hN : N ∈ l
    · have := ih (l.erase N) (hn.erase N) (fun x hx => by
        have h1 := h x (List.mem_of_mem_erase hx)
        have h2 := (hn.mem_erase_iff).1 hx
        omega)
      rw [List.length_erase_of_mem hN] at this
      omega
    · have := ih l hn (fun x hx => by
        have h1 := h x hx
        have : x ≠ N := fun e => hN (e ▸ hx)
        omega)
      omega
def bits : List Bool → Nat
  | [] => 0
  | b :: l => 2 * bits l + (if b then 1 else 0)
theorem bits_lt : ∀ l : List Bool, bits l < 2 ^ l.length := by
  intro l
  induction l with
  | nil => simp [bits]
  | cons b l ih => simp only [bits, List.length_cons, Nat.pow_succ]; split <;> omega
theorem bits_inj : ∀ l m : List Bool, l.length = m.length → bits l = bits m → l = m := by
  intro l
  induction l with
  | nil => intro m h _; cases m with
    | nil => rfl
    | cons _ _ => simp at h
  | cons b l ih => intro m h e; cases m with
    | nil => simp at h
    | cons c m =>
      simp only [bits] at e
      simp only [List.length_cons, Nat.add_right_cancel_iff] at h
      cases b <;> cases c <;> simp only [Bool.false_eq_true, if_true, if_false] at e
      · rw [ih m h (by omega)]
      · omega
      · omega
      · rw [ih m h (by omega)]
def code (L : Nat) (s : St) : Nat := s.1.toNat * 2 ^ L + bits s.2
def Good (L : Nat) (n : Int) (s : St) : Prop := 0 ≤ s.1 ∧ s.1 < n ∧ s.2.length = L
theorem code_inj {L n s u} (hs : Good L n s) (hu : Good L n u) (h : code L s = code L u) : s = u := by
  obtain ⟨a, b, c⟩ := hs
  obtain ⟨a', b', c'⟩ := hu
  have h1 := bits_lt s.2
  have h2 := bits_lt u.2
  rw [c] at h1; rw [c'] at h2
  unfold code at h
  have e1 : (s.1.toNat * 2 ^ L + bits s.2) / 2 ^ L = s.1.toNat := by
    rw [Nat.mul_comm, Nat.mul_add_div (Nat.two_pow_pos L), Nat.div_eq_of_lt h1, Nat.add_zero]
  have e2 : (u.1.toNat * 2 ^ L + bits u.2) / 2 ^ L = u.1.toNat := by
    rw [Nat.mul_comm, Nat.mul_add_div (Nat.two_pow_pos L), Nat.div_eq_of_lt h2, Nat.add_zero]
  have e3 : s.1.toNat = u.1.toNat := by rw [← e1, ← e2, h]
  rw [e3] at h
  have e4 := bits_inj s.2 u.2 (by omega) (by omega)
  have e5 : s.1 = u.1 := by omega
  exact Prod.ext e5 e4
theorem code_lt {L n s} (hs : Good L n s) : code L s < n.toNat * 2 ^ L := by
  obtain ⟨a, b, c⟩ := hs
  have h1 := bits_lt s.2
  rw [c] at h1
  unfold code
  have : (s.1.toNat + 1) * 2 ^ L ≤ n.toNat * 2 ^ L := Nat.mul_le_mul_right _ (by omega)
  rw [Nat.succ_mul] at this
  omega
theorem good_le {L n} {h : List St} (hn : h.Nodup) (hg : ∀ s ∈ h, Good L n s) : h.length ≤ n.toNat * 2 ^ L := by
  have : (h.map (code L)).Nodup := by
    rw [List.nodup_iff_pairwise_ne] at hn ⊢
    rw [List.pairwise_map]
    refine List.Pairwise.imp_of_mem ?_ hn
    intro a b ha hb hab e
    exact hab (code_inj (hg a ha) (hg b hb) e)
  have := nodup_le (n.toNat * 2 ^ L) (h.map (code L)) this (fun x hx => by
    obtain ⟨s, hs, rfl⟩ := List.mem_map.1 hx
    exact code_lt (hg s hs))
  simpa using this
theorem runH_some {f : St → St} {n : Int} {L : Nat} (hf : ∀ s, (f s).2.length = s.2.length) :
    ∀ k s h, s.2.length = L → h.Nodup → (∀ x ∈ h, Good L n x) → n.toNat * 2 ^ L < k + h.length → ∃ v, runH f n k s h = some v := by
  intro k
  induction k with
  | zero =>
    intro s h hl hn hg hk
    have := good_le hn hg
    omega
  | succ k ih =>
    intro s h hl hn hg hk
    simp only [runH]
    split
    · rename_i ho
      split
      · exact ⟨_, rfl⟩
      · rename_i hm
        refine ih (f s) (h ++ [s]) (by rw [hf]; exact hl) ?_ ?_ (by simp only [List.length_append, List.length_singleton]; omega)
        · rw [List.nodup_append]
          refine ⟨hn, by simp, ?_⟩
          intro a ha b hb e
          simp only [List.mem_singleton] at hb
          exact hm (hb ▸ e ▸ ha)
        · intro x hx
          rw [List.mem_append] at hx
          rcases hx with hx | hx
          · exact hg x hx
          · simp only [List.mem_singleton] at hx
            exact hx ▸ ⟨ho.1, ho.2, hl⟩
    · exact ⟨_, rfl⟩
/-- j rounds from x bring to s, on the record all the way -/
def Way (f : St → St) (n : Int) : Nat → St → St → Prop
  | 0, x, s => x = s
  | j + 1, x, s => 0 ≤ x.1 ∧ x.1 < n ∧ Way f n j (f x) s
theorem way_snoc {f n} : ∀ {j x s}, Way f n j x s → 0 ≤ s.1 → s.1 < n → Way f n (j + 1) x (f s) := by
  intro j
  induction j with
  | zero => intro x s h a b; cases h; exact ⟨a, b, rfl⟩
  | succ j ih => intro x s h a b; exact ⟨h.1, h.2.1, ih h.2.2 a b⟩
theorem way_ends {f n} : ∀ {j x s k e}, Way f n j x s → (Ends f n (k + j) x e ↔ Ends f n k s e) := by
  intro j
  induction j with
  | zero => intro x s k e h; cases h; rfl
  | succ j ih =>
    intro x s k e h
    rw [← Nat.add_assoc, ends_succ, ih h.2.2]
    exact ⟨fun H => H.2.2, fun H => ⟨h.1, h.2.1, H⟩⟩
theorem ends_ge {f n} (hn : 0 ≤ n) : ∀ {j x s k e}, Way f n j x s → Ends f n k x e → ∃ k', k = k' + j ∧ Ends f n k' s e := by
  intro j
  induction j with
  | zero => intro x s k e h H; cases h; exact ⟨k, rfl, H⟩
  | succ j ih =>
    intro x s k e h H
    cases k with
    | zero => obtain ⟨a, b, _⟩ := h; simp only [ends_zero] at H; omega
    | succ k =>
      obtain ⟨k', e1, e2⟩ := ih h.2.2 H.2.2
      exact ⟨k', by omega, e2⟩
/-- what was met so far: each comes to s -/
def Met (f : St → St) (n : Int) (h : List St) (s : St) : Prop := ∀ x ∈ h, ∃ j, Way f n (j + 1) x s
theorem met_snoc {f n h s} (H : Met f n h s) (a : 0 ≤ s.1) (b : s.1 < n) : Met f n (h ++ [s]) (f s) := by
  intro x hx
  rw [List.mem_append] at hx
  rcases hx with hx | hx
  · obtain ⟨j, hj⟩ := H x hx
    exact ⟨j + 1, way_snoc hj a b⟩
  · simp only [List.mem_singleton] at hx
    subst hx
    exact ⟨0, a, b, rfl⟩
theorem met_no {f n h s} (hn : 0 ≤ n) (H : Met f n h s) (hs : s ∈ h) : ∀ k e, ¬ Ends f n k s e := by
  intro k e hE
  obtain ⟨j, hj⟩ := H s hs
  obtain ⟨k', e1, e2⟩ := ends_ge hn hj hE
  have := ends_det hn hE e2
  omega
theorem runH_spec {f : St → St} {n : Int} (hn : 0 ≤ n) : ∀ k s h v, Met f n h s → runH f n k s h = some v →
    (v.1 = .caught ∧ ∀ k e, ¬ Ends f n k s e) ∨ (v.1 ≠ .caught ∧ h.length ≤ v.2.1.length ∧ Ends f n (v.2.1.length - h.length) s v.1) := by
  intro k
  induction k with
  | zero => intro s h v _ h'; simp [runH] at h'
  | succ k ih =>
    intro s h v hm hr
    simp only [runH] at hr
    split at hr
    · rename_i ho
      split at hr
      · rename_i hs
        cases hr
        exact .inl ⟨rfl, met_no hn hm hs⟩
      · rcases ih (f s) (h ++ [s]) v (met_snoc hm ho.1 ho.2) hr with ⟨a, b⟩ | ⟨a, b, c⟩
        · left
          refine ⟨a, fun k e H => ?_⟩
          cases k with
          | zero => simp only [ends_zero] at H; omega
          | succ k => exact b k e H.2.2
        · right
          simp only [List.length_append, List.length_singleton] at b c
          refine ⟨a, by omega, ?_⟩
          rw [show v.2.1.length - h.length = (v.2.1.length - (h.length + 1)) + 1 by omega]
          exact ⟨ho.1, ho.2, c⟩
    · rename_i ho
      cases hr
      right
      simp only [Nat.sub_self, ends_zero]
      refine ⟨by split <;> simp, Nat.le_refl _, ?_⟩
      by_cases h1 : n ≤ s.1
      · simp [h1]
      · simp only [h1, if_false, and_true]; right; omega
def fresh (r : Rc) : List Bool := List.replicate r.length false
def cr (al : Bool) (r : Rc) (n t : Int) : En × List St × Nat := (runH (nxt al r n) n 1000000 (t, fresh r) []).getD (.caught, [], 0)
theorem cr_eq {al r n t} (h3 : r.length ≤ 3) (hn : n ≤ 1000) : runH (nxt al r n) n 1000000 (t, fresh r) [] = some (cr al r n t) := by
  obtain ⟨v, hv⟩ := runH_some (f := nxt al r n) (n := n) (L := r.length) (nxt_len r n) 1000000 (t, fresh r) [] (by simp [fresh]) (by simp) (by simp) (by
    have : 2 ^ r.length ≤ 2 ^ 3 := Nat.pow_le_pow_right (by omega) h3
    have : n.toNat * 2 ^ r.length ≤ 1000 * 2 ^ 3 := Nat.mul_le_mul (by omega) this
    simp only [List.length_nil]; omega)
  unfold cr
  rw [hv]; rfl
def en (r : Rc) (n t : Int) : En := (cr false r n t).1
def ln (r : Rc) (n t : Int) : Nat := (cr false r n t).2.1.length
theorem cr_spec {al r n t} (h3 : r.length ≤ 3) (h0 : 0 ≤ n) (hn : n ≤ 1000) :
    ((cr al r n t).1 = .caught ∧ ∀ k e, ¬ Ends (nxt al r n) n k (t, fresh r) e) ∨ ((cr al r n t).1 ≠ .caught ∧ Ends (nxt al r n) n (cr al r n t).2.1.length (t, fresh r) (cr al r n t).1) := by
  rcases runH_spec h0 1000000 (t, fresh r) [] (cr al r n t) (by intro x hx; simp at hx) (cr_eq h3 hn) with h | ⟨a, _, c⟩
  · exact .inl h
  · exact .inr ⟨a, by simpa using c⟩
theorem ends_not {f n} : ∀ {k s e}, Ends f n k s e → e ≠ .caught := by
  intro k
  induction k with
  | zero => intro s e h; simp only [ends_zero] at h; rcases h with ⟨_, rfl⟩ | ⟨_, rfl⟩ <;> simp
  | succ k ih => intro s e h; exact ih h.2.2
theorem cr_of {al r n t k e} (h3 : r.length ≤ 3) (h0 : 0 ≤ n) (hn : n ≤ 1000) (h : Ends (nxt al r n) n k (t, fresh r) e) : (cr al r n t).1 = e ∧ (cr al r n t).2.1.length = k := by
  rcases cr_spec (al := al) (t := t) h3 h0 hn with ⟨_, b⟩ | ⟨_, b⟩
  · exact absurd h (b k e)
  · have := ends_det h0 h b
    exact ⟨this.2.symm, this.1.symm⟩
/-- marks that agree where they matter -/
def Agr (r : Rc) (ms ms' : List Bool) : Prop := ms.length = r.length ∧ ms'.length = r.length ∧ ∀ (i : Nat) (c : Sc), r[i]? = some c → c.e = true → ms.getD i false = ms'.getD i false
theorem getD_set_ne {l : List Bool} {i j : Nat} (h : i ≠ j) (b d : Bool) : (l.set i b).getD j d = l.getD j d := by
  simp [List.getD, List.getElem?_set, h]
theorem agr_nxt {r : Rc} {n t : Int} {ms ms'} (h : Agr r ms ms') : (nxt true r n (t, ms)).1 = (nxt false r n (t, ms')).1 ∧ Agr r (nxt true r n (t, ms)).2 (nxt false r n (t, ms')).2 := by
  obtain ⟨a, b, c⟩ := h
  have l1 := nxt_len (al := true) r n (t, ms)
  have l2 := nxt_len (al := false) r n (t, ms')
  refine ⟨?_, by rw [l1]; exact a, by rw [l2]; exact b, ?_⟩
  · unfold nxt
    cases hf : find n t 0 r with
    | none => simp only [hf]
    | some ic =>
      obtain ⟨i, d⟩ := ic
      obtain ⟨_, hi, hd, _⟩ := find_some hf
      simp only [Nat.sub_zero] at hd
      simp only [hf]
      rcases (by cases d.e <;> simp : d.e = true ∨ d.e = false) with hc | hc
      · rw [c i d hd hc]
      · simp only [hc, Bool.false_and]
  · unfold nxt
    cases hf : find n t 0 r with
    | none => simp only [hf]; exact c
    | some ic =>
      obtain ⟨i, d⟩ := ic
      obtain ⟨_, hi, hd, _⟩ := find_some hf
      simp only [Nat.sub_zero] at hd
      simp only [hf, Bool.true_or, Bool.false_or, if_true]
      intro j cj hj he
      by_cases hij : i = j
      · subst hij
        rw [hd] at hj
        cases hj
        rw [getD_set_self (by omega), he, if_pos rfl, getD_set_self (by omega), c i d hd he]
      · rw [getD_set_ne hij]
        split
        · rw [getD_set_ne hij]; exact c j cj hj he
        · exact c j cj hj he
theorem agr_ends {r : Rc} {n : Int} : ∀ k t ms ms' e, Agr r ms ms' → (Ends (nxt true r n) n k (t, ms) e ↔ Ends (nxt false r n) n k (t, ms') e) := by
  intro k
  induction k with
  | zero => intro t ms ms' e _; rfl
  | succ k ih =>
    intro t ms ms' e h
    have g := agr_nxt (n := n) (t := t) h
    rw [ends_succ, ends_succ]
    have := ih (nxt true r n (t, ms)).1 _ _ e g.2
    rw [show ((nxt true r n (t, ms)).1, (nxt true r n (t, ms)).2) = nxt true r n (t, ms) from rfl] at this
    rw [this, g.1]
theorem agr_fresh (r : Rc) : Agr r (fresh r) (fresh r) := ⟨by simp [fresh], by simp [fresh], fun _ _ _ _ => rfl⟩
/-- the law's reading of a run and the program's -/
theorem cr_true {r n t} (h3 : r.length ≤ 3) (h0 : 0 ≤ n) (hn : n ≤ 1000) : (cr true r n t).1 = en r n t ∧ (en r n t ≠ .caught → (cr true r n t).2.1.length = ln r n t) := by
  unfold en ln
  rcases cr_spec (al := false) (t := t) h3 h0 hn with ⟨a, b⟩ | ⟨a, b⟩
  · refine ⟨?_, fun h => absurd a h⟩
    rcases cr_spec (al := true) (t := t) h3 h0 hn with ⟨a', b'⟩ | ⟨a', b'⟩
    · rw [a, a']
    · exact absurd ((agr_ends _ t _ _ _ (agr_fresh r)).1 b') (b _ _)
  · have := cr_of h3 h0 hn ((agr_ends _ t _ _ _ (agr_fresh r)).2 b)
    exact ⟨this.1, fun _ => this.2⟩

/-! ### in n and in n + q * many turns -/
theorem en_left {r : Rc} (h : Ok r) (h3 : r.length ≤ 3) {n t : Int} (hn : 40 ≤ n) (ht : t < 22) (q : Nat) (hq : n + q * many r ≤ 1000) : en r (n + q * many r) t = en r n t := by
  have hmp := many_le h
  have hd : 0 ≤ (q : Int) * many r := Int.mul_nonneg (by omega) (by omega)
  unfold en
  rcases cr_spec (al := false) (t := t) h3 (n := n) (by omega) (by omega) with ⟨a, b⟩ | ⟨a, b⟩
  · rcases cr_spec (al := false) (t := t) h3 (n := n + q * many r) (by omega) hq with ⟨a', b'⟩ | ⟨a', b'⟩
    · rw [a, a']
    · obtain ⟨k', H⟩ := left' h hn (by omega) (K := 22) (by omega) q _ (t, fresh r) _ (by simp [fresh]) ht b'
      exact absurd H (b _ _)
  · obtain ⟨x, H⟩ := left h hn (by omega) (K := 22) (by omega) _ (t, fresh r) _ (by simp [fresh]) ht b
    exact (cr_of h3 (by omega) hq (H q)).1
theorem ln_left {r : Rc} (h : Ok r) (h3 : r.length ≤ 3) {n t : Int} (hn : 40 ≤ n) (hn' : n ≤ 1000) (ht : t < 22) (hc : en r n t ≠ .caught) : ∃ x : Nat, ∀ q : Nat, n + q * many r ≤ 1000 → ln r (n + q * many r) t = ln r n t + q * x := by
  have hmp := many_le h
  unfold en at hc
  unfold ln
  rcases cr_spec (al := false) (t := t) h3 (n := n) (by omega) (by omega) with ⟨a, b⟩ | ⟨a, b⟩
  · exact absurd a hc
  · obtain ⟨x, H⟩ := left h hn (by omega) (K := 22) (by omega) _ (t, fresh r) _ (by simp [fresh]) ht b
    refine ⟨x, fun q hq => ?_⟩
    have hd : 0 ≤ (q : Int) * many r := Int.mul_nonneg (by omega) (by omega)
    exact (cr_of h3 (by omega) hq (H q)).2
theorem en_right {r : Rc} (h : Ok r) (h3 : r.length ≤ 3) {n t : Int} (hn : 40 ≤ n) (ht : 16 ≤ t) (q : Nat) (hq : n + q * many r ≤ 1000) : en r (n + q * many r) (t + q * many r) = en r n t := by
  have hmp := many_le h
  have hd : 0 ≤ (q : Int) * many r := Int.mul_nonneg (by omega) (by omega)
  unfold en
  rcases cr_spec (al := false) (t := t) h3 (n := n) (by omega) (by omega) with ⟨a, b⟩ | ⟨a, b⟩
  · rcases cr_spec (al := false) (t := t + q * many r) h3 (n := n + q * many r) (by omega) hq with ⟨a', b'⟩ | ⟨a', b'⟩
    · rw [a, a']
    · obtain ⟨k', H⟩ := right' h hn (by omega) (K := 16) (by omega) q _ t (fresh r) _ (by simp [fresh]) ht b'
      exact absurd H (b _ _)
  · obtain ⟨x, H⟩ := right h hn (by omega) (K := 16) (by omega) _ t (fresh r) _ (by simp [fresh]) ht b
    exact (cr_of h3 (by omega) hq (H q)).1
theorem ln_right {r : Rc} (h : Ok r) (h3 : r.length ≤ 3) {n t : Int} (hn : 40 ≤ n) (hn' : n ≤ 1000) (ht : 16 ≤ t) (hc : en r n t ≠ .caught) : ∃ x : Nat, ∀ q : Nat, n + q * many r ≤ 1000 → ln r (n + q * many r) (t + q * many r) = ln r n t + q * x := by
  have hmp := many_le h
  unfold en at hc
  unfold ln
  rcases cr_spec (al := false) (t := t) h3 (n := n) (by omega) (by omega) with ⟨a, b⟩ | ⟨a, b⟩
  · exact absurd a hc
  · obtain ⟨x, H⟩ := right h hn (by omega) (K := 16) (by omega) _ t (fresh r) _ (by simp [fresh]) ht b
    refine ⟨x, fun q hq => ?_⟩
    have hd : 0 ≤ (q : Int) * many r := Int.mul_nonneg (by omega) (by omega)
    exact (cr_of h3 (by omega) hq (H q)).2
/-- at a place -/
theorem raw_add {p : Pl} (hp : p.ok) {n : Int} (hn : 40 ≤ n) (d : Int) : (p.rim = true ∧ raw p (n + d) = raw p n ∧ raw p n < 22 ∧ 0 ≤ raw p n) ∨ (p.rim = false ∧ raw p (n + d) = raw p n + d ∧ 16 ≤ raw p n ∧ raw p n < n) := by
  obtain ⟨a, b⟩ := hp
  unfold raw
  cases p.rim
  · right; simp only [Bool.false_eq_true, if_false]; exact ⟨trivial, by omega, by omega, by omega⟩
  · left; simp only [if_true]; exact ⟨trivial, trivial, by omega, by omega⟩
theorem en_at {r : Rc} (h : Ok r) (h3 : r.length ≤ 3) {p : Pl} (hp : p.ok) {n : Int} (hn : 40 ≤ n) (q : Nat) (hq : n + q * many r ≤ 1000) : en r (n + q * many r) (raw p (n + q * many r)) = en r n (raw p n) := by
  rcases raw_add hp hn (q * many r) with ⟨_, a, b, _⟩ | ⟨_, a, b, _⟩ <;> rw [a]
  · exact en_left h h3 hn b q hq
  · exact en_right h h3 hn b q hq
theorem ln_at {r : Rc} (h : Ok r) (h3 : r.length ≤ 3) {p : Pl} (hp : p.ok) {n : Int} (hn : 40 ≤ n) (hn' : n ≤ 1000) (hc : en r n (raw p n) ≠ .caught) : ∃ x : Nat, ∀ q : Nat, n + q * many r ≤ 1000 → ln r (n + q * many r) (raw p (n + q * many r)) = ln r n (raw p n) + q * x := by
  cases hr : p.rim
  · have g : ∀ d, raw p (n + d) = raw p n + d ∧ 16 ≤ raw p n := fun d => by
      rcases raw_add hp hn d with ⟨a, _⟩ | ⟨_, a, b, _⟩
      · rw [hr] at a; cases a
      · exact ⟨a, b⟩
    obtain ⟨x, H⟩ := ln_right h h3 hn hn' (g 0).2 hc
    exact ⟨x, fun q hq => by rw [(g _).1]; exact H q hq⟩
  · have g : ∀ d, raw p (n + d) = raw p n ∧ raw p n < 22 := fun d => by
      rcases raw_add hp hn d with ⟨_, a, b, _⟩ | ⟨a, _⟩
      · exact ⟨a, b⟩
      · rw [hr] at a; cases a
    obtain ⟨x, H⟩ := ln_left h h3 hn hn' (g 0).2 hc
    exact ⟨x, fun q hq => by rw [(g _).1]; exact H q hq⟩
end G.M
/-! Mt4: numbers of rounds and of places, by few turns. -/
namespace G.M
theorem runH_len {f : St → St} {n : Int} : ∀ k s h v, runH f n k s h = some v → v.2.1.length ≤ k + h.length := by
  intro k
  induction k with
  | zero => intro s h v e; simp [runH] at e
  | succ k ih =>
    intro s h v e
    simp only [runH] at e
    split at e
    · split at e
      · cases e; simp only; omega
      · have := ih _ _ v e
        simp only [List.length_append, List.length_singleton] at this
        omega
    · cases e; simp only; omega
theorem ln_le {r n t} (h3 : r.length ≤ 3) (hn : n ≤ 1000) : ln r n t ≤ 1000000 := runH_len _ _ _ _ (cr_eq (al := false) (t := t) h3 hn)
def few (r : Rc) (n : Int) : Int := if n < 40 + many r then n else 40 + (n - 40).fmod (many r)
/-- n is few or few and so many times many -/
theorem few_spec {r : Rc} (h : Ok r) {n : Int} (h1 : 1 ≤ n) : (few r n = n ∧ n < 40 + many r) ∨ (∃ q : Nat, 1 ≤ q ∧ n = few r n + q * many r ∧ (n - few r n).fdiv (many r) = q ∧ 40 ≤ few r n ∧ few r n < 40 + many r) := by
  have hm := many_le h
  unfold few
  by_cases hn : n < 40 + many r
  · left; simp [hn]
  · right
    simp only [hn, if_false]
    have e1 := Int.mul_fdiv_add_fmod (n - 40) (many r)
    have e2 := Int.fmod_nonneg_of_pos (n - 40) (b := many r) (by omega)
    have e3 := Int.fmod_lt_of_pos (n - 40) (b := many r) (by omega)
    have e4 : 1 ≤ (n - 40).fdiv (many r) := by
      rw [Int.fdiv_eq_ediv_of_nonneg _ (by omega)]
      rw [Int.le_ediv_iff_mul_le (by omega)]
      omega
    refine ⟨((n - 40).fdiv (many r)).toNat, by omega, ?_, ?_, by omega, by omega⟩
    · rw [Int.toNat_of_nonneg (by omega), Int.mul_comm]
      omega
    · rw [Int.toNat_of_nonneg (by omega)]
      have : n - (40 + (n - 40).fmod (many r)) = (n - 40).fdiv (many r) * many r := by rw [Int.mul_comm]; omega
      rw [this, Int.mul_fdiv_cancel _ (by omega)]
theorem few_bd {r : Rc} (h : Ok r) {n : Int} (h1 : 1 ≤ n) : 1 ≤ few r n ∧ few r n < 45 ∧ few r n ≤ n := by
  have hm := many_le h
  rcases few_spec h h1 with ⟨a, b⟩ | ⟨q, a, b, c, d, e⟩
  · omega
  · have : 0 ≤ (q : Int) * many r := Int.mul_nonneg (by omega) (by omega)
    omega
/-- how many rounds, as the program finds it; none: caught -/
def rdF (r : Rc) (n : Int) (p : Pl) : Option Int :=
  if en r (few r n) (raw p (few r n)) = .caught then none else
  if few r n = n then some (ln r (few r n) (raw p (few r n))) else
  some (ln r (few r n) (raw p (few r n)) + ((ln r (few r n + many r) (raw p (few r n + many r)) : Int) - ln r (few r n) (raw p (few r n))) * (n - few r n).fdiv (many r))
def rdD (r : Rc) (n : Int) (p : Pl) : Option Int := if en r n (raw p n) = .caught then none else some (ln r n (raw p n))
/-- the program's number of rounds is right -/
theorem rd_right {r : Rc} (h : Ok r) (h3 : r.length ≤ 3) {p : Pl} (hp : p.ok) {n : Int} (h1 : 1 ≤ n) (hn : n ≤ 1000) : rdF r n p = rdD r n p := by
  unfold rdF rdD
  have hm := many_le h
  have hfb := few_bd h h1
  rcases few_spec h h1 with ⟨a, b⟩ | ⟨q, a, b, c, d, e⟩
  · rw [a]; simp
  · have hq : (q : Int) ≠ 0 := by omega
    have hqm : 0 < (q : Int) * many r := Int.mul_pos (by omega) (by omega)
    have hne : few r n ≠ n := by omega
    generalize hfew : few r n = f at *
    rw [c]
    have e1 := en_at h h3 hp d q (by omega)
    rw [← b] at e1
    rw [e1]
    by_cases hc : en r f (raw p f) = .caught
    · simp [hc]
    · rw [if_neg hc, if_neg hc, if_neg hne]
      obtain ⟨x, H⟩ := ln_at h h3 hp d (by omega) hc
      have H1 := H 1 (by omega)
      have Hq := H q (by omega)
      rw [← b] at Hq
      rw [show f + ((1 : Nat) : Int) * many r = f + many r by omega] at H1
      rw [Hq, H1]
      congr 1
      rw [show ((ln r f (raw p f) + 1 * x : Nat) : Int) - ln r f (raw p f) = x by omega]
      rw [Int.mul_comm]
      simp
/-- from how many turns it ends so -/
def cntL (f : Nat → Bool) (a b : Nat) : Nat := ((List.range' a b).filter f).length
def cnt (r : Rc) (n : Int) (w : En) : Nat := ((List.range n.toNat).filter fun (i : Nat) => decide (en r n i = w)).length
theorem cnt_le (r n w) : cnt r n w ≤ n.toNat := by
  unfold cnt
  exact Nat.le_trans (List.length_filter_le _ _) (by simp)
theorem cntL_congr {f g : Nat → Bool} {a b c : Nat} (h : ∀ i, i < b → f (a + i) = g (c + i)) : cntL f a b = cntL g c b := by
  induction b generalizing a c with
  | zero => rfl
  | succ b ih =>
    unfold cntL at *
    simp only [List.range'_succ, List.filter_cons]
    have h0 := h 0 (by omega)
    simp only [Nat.add_zero] at h0
    rw [h0]
    have := ih (a := a + 1) (c := c + 1) (fun i hi => by
      have := h (i + 1) (by omega)
      rw [show a + 1 + i = a + (i + 1) by omega, show c + 1 + i = c + (i + 1) by omega]; exact this)
    split <;> simp [this]
theorem cntL_split (f : Nat → Bool) (a b c : Nat) : cntL f a (b + c) = cntL f a b + cntL f (a + b) c := by
  unfold cntL
  rw [← List.range'_append_1, List.filter_append, List.length_append]
theorem cnt_eq (r : Rc) (n : Int) (w : En) : cnt r n w = cntL (fun i => decide (en r n i = w)) 0 n.toNat := by
  unfold cnt cntL; rw [List.range_eq_range']
/-- what is new with many turns more -/
def new (r : Rc) (n : Int) (w : En) : Nat := cntL (fun i => decide (en r n i = w)) 16 (many r).toNat
theorem cnt_step {r : Rc} (h : Ok r) (h3 : r.length ≤ 3) {n : Int} (hn : 40 ≤ n) (hq : n + many r ≤ 1000) (w : En) : cnt r (n + many r) w = cnt r n w + new r (n + many r) w := by
  have hm := many_le h
  rw [cnt_eq, cnt_eq, show (n + many r).toNat = 16 + ((many r).toNat + (n.toNat - 16)) by omega, cntL_split, cntL_split]
  rw [show n.toNat = 16 + (n.toNat - 16) by omega, cntL_split]
  have e1 : cntL (fun i => decide (en r (n + many r) i = w)) 0 16 = cntL (fun i => decide (en r n i = w)) 0 16 := cntL_congr fun i hi => by
    have := en_left h h3 hn (t := ((0 + i : Nat) : Int)) (by omega) 1 (by omega)
    rw [show n + ((1 : Nat) : Int) * many r = n + many r by omega] at this
    rw [this]
  have e2 : cntL (fun i => decide (en r (n + many r) i = w)) (0 + 16 + (many r).toNat) (16 + (n.toNat - 16) - 16) = cntL (fun i => decide (en r n i = w)) (0 + 16) (n.toNat - 16) := by
    rw [show 16 + (n.toNat - 16) - 16 = n.toNat - 16 by omega]
    refine cntL_congr fun i hi => ?_
    have := en_right h h3 hn (t := ((0 + 16 + i : Nat) : Int)) (by omega) 1 (by omega)
    rw [show n + ((1 : Nat) : Int) * many r = n + many r by omega] at this
    rw [show (((0 + 16 + (many r).toNat + i : Nat)) : Int) = ((0 + 16 + i : Nat) : Int) + ((1 : Nat) : Int) * many r by omega, this]
  rw [e1, e2]
  unfold new
  simp only [Nat.zero_add]
  omega
theorem new_same {r : Rc} (h : Ok r) (h3 : r.length ≤ 3) {n : Int} (hn : 40 ≤ n) (q : Nat) (hq : n + q * many r ≤ 1000) (w : En) : new r (n + q * many r) w = new r n w := by
  have hm := many_le h
  unfold new
  refine cntL_congr fun i hi => ?_
  rw [en_left h h3 hn (t := ((16 + i : Nat) : Int)) (by omega) q hq]
theorem cnt_steps {r : Rc} (h : Ok r) (h3 : r.length ≤ 3) {n : Int} (hn : 40 ≤ n) (w : En) : ∀ q : Nat, n + q * many r ≤ 1000 → cnt r (n + q * many r) w = cnt r n w + q * new r n w := by
  have hm := many_le h
  intro q
  induction q with
  | zero => intro _; simp
  | succ q ih =>
    intro hq
    have hs : ((q + 1 : Nat) : Int) * many r = q * many r + many r := by rw [Int.natCast_add, Int.add_mul]; omega
    have hpos : 0 ≤ (q : Int) * many r := Int.mul_nonneg (by omega) (by omega)
    rw [hs] at hq ⊢
    rw [← Int.add_assoc, cnt_step h h3 (by omega) (by omega), ih (by omega)]
    rw [show n + q * many r + many r = n + ((q + 1 : Nat) : Int) * many r by rw [hs]; omega, new_same h h3 hn (q + 1) (by rw [hs]; omega)]
    rw [Nat.succ_mul]; omega
def cpF (r : Rc) (n : Int) (w : En) : Int :=
  if few r n = n then cnt r (few r n) w else cnt r (few r n) w + ((cnt r (few r n + many r) w : Int) - cnt r (few r n) w) * (n - few r n).fdiv (many r)
theorem cp_right {r : Rc} (h : Ok r) (h3 : r.length ≤ 3) {n : Int} (h1 : 1 ≤ n) (hn : n ≤ 1000) (w : En) : cpF r n w = cnt r n w := by
  unfold cpF
  have hm := many_le h
  rcases few_spec h h1 with ⟨a, b⟩ | ⟨q, a, b, c, d, e⟩
  · rw [a]; simp
  · have hqm : 0 < (q : Int) * many r := Int.mul_pos (by omega) (by omega)
    have hne : few r n ≠ n := by omega
    generalize hfew : few r n = f at *
    rw [c, if_neg hne]
    have Hq := cnt_steps h h3 d w q (by omega)
    have H1 := cnt_steps h h3 d w 1 (by omega)
    rw [← b] at Hq
    rw [show f + ((1 : Nat) : Int) * many r = f + many r by omega] at H1
    rw [Hq, H1]
    rw [show ((cnt r f w + 1 * new r f w : Nat) : Int) - cnt r f w = new r f w by omega]
    rw [Int.mul_comm]
    simp
end G.M
/-! Mt5: items that rise evenly; calendars of numbers. -/
namespace G.M
inductive It where
  | non | cau | num (k : Int)
  deriving DecidableEq
def ev3 (a b c : It) : Bool := match a, b, c with
  | .num x, .num y, .num z => decide (z - y = y - x)
  | a, b, c => decide (a = b) && decide (b = c)
theorem ev3_iff (a b c : It) : ev3 a b c = true ↔ (∃ x y z, a = .num x ∧ b = .num y ∧ c = .num z ∧ z - y = y - x) ∨ (a = b ∧ b = c ∧ ∀ x, a ≠ .num x) := by
  cases a <;> cases b <;> cases c <;> simp [ev3]
theorem ev3_num {a b c : It} {x : Int} (h : ev3 a b c = true) (ha : a = .num x) : ∃ y z, b = .num y ∧ c = .num z ∧ z - y = y - x := by
  rcases (ev3_iff a b c).1 h with ⟨x', y, z, h1, h2, h3, h4⟩ | ⟨_, _, h⟩
  · rw [ha] at h1; cases h1; exact ⟨y, z, h2, h3, h4⟩
  · exact absurd ha (h x)
theorem ev3_word {a b c : It} (h : ev3 a b c = true) (ha : ∀ x, a ≠ .num x) : b = a ∧ c = a := by
  rcases (ev3_iff a b c).1 h with ⟨x', y, z, h1, h2, h3, h4⟩ | ⟨h1, h2, _⟩
  · exact absurd h1 (ha x')
  · exact ⟨h1.symm, (h1.trans h2).symm⟩
theorem ev3_of_num {x y z : Int} (h : z - y = y - x) : ev3 (.num x) (.num y) (.num z) = true := by simp [ev3, h]
theorem ev3_of_word {a : It} (ha : ∀ x, a ≠ .num x) : ev3 a a a = true := (ev3_iff a a a).2 (.inr ⟨rfl, rfl, ha⟩)
theorem it_cases (a : It) : (∃ x, a = .num x) ∨ ∀ x, a ≠ .num x := by cases a <;> simp
/-- even by m, far out -/
def Even (G : Nat → It) (m B : Nat) : Prop := ∀ a, B ≤ a → ev3 (G a) (G (a + m)) (G (a + 2 * m)) = true
theorem even_more {G : Nat → It} {m B s : Nat} (hm : 1 ≤ m) (H : Even G m B) (W : ∀ a, B ≤ a → a < B + 2 * m → ev3 (G a) (G (a + s)) (G (a + 2 * s)) = true) : Even G s B := by
  intro a
  induction a using Nat.strongRecOn with
  | ind a ih =>
    intro hB
    by_cases h2 : a < B + 2 * m
    · exact W a hB h2
    · have e0 := ih (a - 2 * m) (by omega) (by omega)
      have e1 := ih (a - m) (by omega) (by omega)
      generalize hu : a - 2 * m = u at *
      have ha : a = u + 2 * m := by omega
      have ha' : a - m = u + m := by omega
      rw [ha'] at e1
      subst ha
      have m0 := H u (by omega)
      have m1 := H (u + s) (by omega)
      have m2 := H (u + 2 * s) (by omega)
      rw [show u + m + s = u + s + m by omega, show u + m + 2 * s = u + 2 * s + m by omega] at e1
      rw [show u + 2 * m + s = u + s + 2 * m by omega, show u + 2 * m + 2 * s = u + 2 * s + 2 * m by omega]
      rcases it_cases (G u) with ⟨x, hx⟩ | hx
      · obtain ⟨x1, x2, a1, a2, a3⟩ := ev3_num m0 hx
        obtain ⟨y, z, b1, b2, b3⟩ := ev3_num e0 hx
        obtain ⟨y1, y2, c1, c2, c3⟩ := ev3_num m1 b1
        obtain ⟨z1, z2, d1, d2, d3⟩ := ev3_num m2 b2
        obtain ⟨_, _, f1, f2, f3⟩ := ev3_num e1 a1
        rw [c1] at f1; cases f1
        rw [d1] at f2; cases f2
        rw [a2, c2, d2]
        exact ev3_of_num (by omega)
      · obtain ⟨a1, a2⟩ := ev3_word m0 hx
        obtain ⟨b1, b2⟩ := ev3_word e0 hx
        obtain ⟨c1, c2⟩ := ev3_word m1 (by rw [b1]; exact hx)
        obtain ⟨d1, d2⟩ := ev3_word m2 (by rw [b2]; exact hx)
        rw [a2, c2, d2, b1, b2]
        exact ev3_of_word hx
/-- what comes again, as an item -/
theorem even_at {G : Nat → It} {s B : Nat} (H : Even G s B) (a : Nat) (ha : B ≤ a) : ∀ q : Nat,
    (∀ x y, G a = .num x → G (a + s) = .num y → G (a + q * s) = .num (x + q * (y - x))) ∧ ((∀ x, G a ≠ .num x) → G (a + q * s) = G a) := by
  intro q
  constructor
  · intro x y hx hy
    suffices h : G (a + q * s) = .num (x + q * (y - x)) ∧ G (a + (q + 1) * s) = .num (x + (q + 1) * (y - x)) from h.1
    induction q with
    | zero => 
      refine ⟨by simpa using hx, ?_⟩
      simp only [Nat.zero_add, Nat.one_mul, hy]
      congr 1; simp; omega
    | succ q ih =>
      refine ⟨?_, ?_⟩
      · rw [ih.2]; push_cast; rfl
      · have e := H (a + q * s) (by have := Nat.zero_le (q * s); omega)
        obtain ⟨y', z', b1, b2, b3⟩ := ev3_num e ih.1
        rw [show a + q * s + s = a + (q + 1) * s by rw [Nat.succ_mul]; omega, ih.2] at b1
        cases b1
        rw [show a + (q + 1 + 1) * s = a + q * s + 2 * s by rw [Nat.succ_mul, Nat.succ_mul]; omega, b2]
        congr 1
        simp only [Int.natCast_add, Int.add_mul, Int.natCast_one, Int.one_mul] at *
        omega
  · intro hx
    induction q with
    | zero => simp
    | succ q ih =>
      have e := H (a + q * s) (by have := Nat.zero_le (q * s); omega)
      have := (ev3_word e (by rw [ih]; exact hx)).1
      rw [show a + (q + 1) * s = a + q * s + s by rw [Nat.succ_mul]; omega, this, ih]
/-- a calendar: so many early items, then so many that come again -/
structure Cal (G : Nat → It) (m s f : Nat) : Prop where
  s1 : 1 ≤ s
  sm : s ≤ m
  win : ∀ a, 40 ≤ a → a < 40 + 2 * m → ev3 (G a) (G (a + s)) (G (a + 2 * s)) = true
  least : ∀ u, 1 ≤ u → u < s → ∃ a, 40 ≤ a ∧ a < 40 + 2 * m ∧ ev3 (G a) (G (a + u)) (G (a + 2 * u)) = false
  f40 : f ≤ 40
  back : ∀ a, f ≤ a → a < 40 → ev3 (G a) (G (a + s)) (G (a + 2 * s)) = true
  stop : f = 0 ∨ ev3 (G (f - 1)) (G (f - 1 + s)) (G (f - 1 + 2 * s)) = false
theorem cal_even {G : Nat → It} {m s f : Nat} (C : Cal G m s f) (H : Even G m 40) : Even G s f := by
  have := even_more (by have := C.s1; have := C.sm; omega) H C.win
  intro a ha
  by_cases h : a < 40
  · exact C.back a ha h
  · exact this a (by omega)
def told (G : Nat → It) (s f n : Nat) : It := if n ≤ f then G (n - 1) else
  match G (f + (n - 1 - f) % s), G (f + (n - 1 - f) % s + s) with
  | .num x, .num y => .num (x + ((n - 1 - f) / s : Nat) * (y - x))
  | a, _ => a
theorem told_num {G : Nat → It} {s f n : Nat} {x y : Int} (h : ¬ n ≤ f) (hx : G (f + (n - 1 - f) % s) = .num x) (hy : G (f + (n - 1 - f) % s + s) = .num y) : told G s f n = .num (x + ((n - 1 - f) / s : Nat) * (y - x)) := by
  unfold told; rw [if_neg h, hx, hy]
theorem told_word {G : Nat → It} {s f n : Nat} (h : ¬ n ≤ f) (hx : ∀ x, G (f + (n - 1 - f) % s) ≠ .num x) : told G s f n = G (f + (n - 1 - f) % s) := by
  unfold told; rw [if_neg h]
  generalize G (f + (n - 1 - f) % s) = c at *
  cases c with
  | num x => exact absurd rfl (hx x)
  | non => rfl
  | cau => rfl
theorem told_eq {G : Nat → It} {s f : Nat} (hs : 1 ≤ s) (H : Even G s f) (n : Nat) (hn : 1 ≤ n) : told G s f n = G (n - 1) := by
  unfold told
  by_cases h : n ≤ f
  · rw [if_pos h]
  · rw [if_neg h]
    have e : n - 1 = f + (n - 1 - f) % s + (n - 1 - f) / s * s := by
      have := Nat.div_add_mod (n - 1 - f) s
      rw [Nat.mul_comm] at this
      omega
    have k := even_at H (f + (n - 1 - f) % s) (by omega) ((n - 1 - f) / s)
    rw [← e] at k
    have ev := H (f + (n - 1 - f) % s) (by omega)
    rcases it_cases (G (f + (n - 1 - f) % s)) with ⟨x, hx⟩ | hx
    · obtain ⟨y, z, b1, _, _⟩ := ev3_num ev hx
      rw [k.1 x y hx b1, hx, b1]
    · rw [k.2 hx]
      generalize G (f + (n - 1 - f) % s) = a at *
      cases a with
      | num x => exact absurd rfl (hx x)
      | non => rfl
      | cau => rfl
theorem no_shorter {G : Nat → It} {m s f : Nat} (C : Cal G m s f) (H : Even G m 40) (u : Nat) (hu : 1 ≤ u) (hus : u < s) : ∃ a, f ≤ a ∧ a < f + 3 * s ∧ ev3 (G a) (G (a + u)) (G (a + 2 * u)) = false := by
  refine Classical.byContradiction fun hc => ?_
  have W : ∀ a, f ≤ a → a < f + 2 * s → ev3 (G a) (G (a + u)) (G (a + 2 * u)) = true := by
    intro a h1 h2
    cases he : ev3 (G a) (G (a + u)) (G (a + 2 * u))
    · exact absurd ⟨a, h1, by omega, he⟩ hc
    · rfl
  have E := even_more C.s1 (cal_even C H) W
  obtain ⟨a, h1, h2, h3⟩ := C.least u hu hus
  have := E a (by have := C.f40; omega)
  rw [h3] at this; cases this
/-- the early part can't be shorter -/
theorem formed {G : Nat → It} {m s f : Nat} (C : Cal G m s f) (H : Even G m 40) (hf : f ≠ 0) :
    (∀ x y, G (f + s - 1) = .num x → G (f + s - 1 + s) = .num y → G (f - 1) ≠ .num (x - (y - x))) ∧ ((∀ x, G (f + s - 1) ≠ .num x) → G (f - 1) ≠ G (f + s - 1)) := by
  have st : ev3 (G (f - 1)) (G (f - 1 + s)) (G (f - 1 + 2 * s)) = false := by
    rcases C.stop with h | h
    · exact absurd h hf
    · exact h
  have h1 := C.s1
  rw [show f - 1 + s = f + s - 1 by omega, show f - 1 + 2 * s = f + s - 1 + s by omega] at st
  have ev := cal_even C H (f + s - 1) (by omega)
  constructor
  · intro x y hx hy e
    rw [hx, hy, e, ev3_of_num (by omega)] at st
    cases st
  · intro hx e
    have := (ev3_word ev hx).1
    rw [this, e, ev3_of_word hx] at st
    cases st
end G.M
/-! Mt6: the items of the two calendars rise evenly. -/
namespace G.M
theorem few_can {r : Rc} (h : Ok r) {n : Int} (hn : 40 ≤ n) : few r n = 40 + (n - 40).fmod (many r) := by
  unfold few
  split
  · rw [Int.fmod_eq_emod_of_nonneg _ (by have := many_le h; omega), Int.emod_eq_of_lt (by omega) (by omega)]; omega
  · rfl
theorem few_add {r : Rc} (h : Ok r) {n : Int} (hn : 40 ≤ n) : few r (n + many r) = few r n := by
  have hm := many_le h
  rw [few_can h hn, few_can h (by omega), show n + many r - 40 = n - 40 + many r by omega, Int.add_fmod_right]
def tim (r : Rc) (n : Int) : Int := (n - few r n).fdiv (many r)
theorem tim_add {r : Rc} (h : Ok r) {n : Int} (hn : 40 ≤ n) : tim r (n + many r) = tim r n + 1 := by
  have hm := many_le h
  unfold tim
  rw [few_add h hn, show n + many r - few r n = n - few r n + many r by omega, Int.fdiv_eq_ediv_of_nonneg _ (by omega), Int.fdiv_eq_ediv_of_nonneg _ (by omega), Int.add_ediv_of_dvd_right (Int.dvd_refl _), Int.ediv_self (by omega)]
theorem rd_can {r : Rc} (h : Ok r) {n : Int} (p : Pl) : rdF r n p = if en r (few r n) (raw p (few r n)) = .caught then none else
    some (ln r (few r n) (raw p (few r n)) + ((ln r (few r n + many r) (raw p (few r n + many r)) : Int) - ln r (few r n) (raw p (few r n))) * tim r n) := by
  unfold rdF tim
  split
  · rfl
  · split
    · rename_i e; rw [e]; simp
    · rfl
theorem cp_can {r : Rc} (h : Ok r) {n : Int} (w : En) : cpF r n w = cnt r (few r n) w + ((cnt r (few r n + many r) w : Int) - cnt r (few r n) w) * tim r n := by
  unfold cpF tim
  split
  · rename_i e; rw [e]; simp
  · rfl
def itR : Option Int → It
  | none => .cau
  | some k => .num k
def Gr (r : Rc) (p : Pl) (a : Nat) : It := if 0 ≤ raw p (a + 1) ∧ raw p (a + 1) < (a : Int) + 1 then itR (rdF r (a + 1) p) else .non
def Gc (r : Rc) (w : En) (a : Nat) : It := .num (cpF r (a + 1) w)
theorem lin {a b t : Int} : a + b * (t + 1 + 1) - (a + b * (t + 1)) = a + b * (t + 1) - (a + b * t) := by
  simp only [Int.mul_add, Int.mul_one]; omega
theorem raw_in {p : Pl} (hp : p.ok) {n : Int} (hn : 6 ≤ n) : 0 ≤ raw p n ∧ raw p n < n := by
  obtain ⟨a, b⟩ := hp
  unfold raw; split <;> omega
theorem even_r {r : Rc} (h : Ok r) {p : Pl} (hp : p.ok) : Even (Gr r p) (many r).toNat 40 := by
  have hm := many_le h
  intro a ha
  unfold Gr
  rw [if_pos (raw_in hp (by omega)), if_pos (raw_in hp (n := ((a + (many r).toNat : Nat) : Int) + 1) (by omega)), if_pos (raw_in hp (n := ((a + 2 * (many r).toNat : Nat) : Int) + 1) (by omega))]
  rw [show ((a + (many r).toNat : Nat) : Int) + 1 = (a : Int) + 1 + many r by omega, show ((a + 2 * (many r).toNat : Nat) : Int) + 1 = (a : Int) + 1 + many r + many r by omega]
  rw [rd_can h, rd_can h, rd_can h, few_add h (n := (a : Int) + 1 + many r) (by omega), few_add h (n := (a : Int) + 1) (by omega), tim_add h (n := (a : Int) + 1 + many r) (by omega), tim_add h (n := (a : Int) + 1) (by omega)]
  split
  · exact ev3_of_word (by intro x hx; cases hx)
  · exact ev3_of_num lin
theorem even_c {r : Rc} (h : Ok r) (w : En) : Even (Gc r w) (many r).toNat 40 := by
  have hm := many_le h
  intro a ha
  unfold Gc
  rw [show ((a + (many r).toNat : Nat) : Int) + 1 = (a : Int) + 1 + many r by omega, show ((a + 2 * (many r).toNat : Nat) : Int) + 1 = (a : Int) + 1 + many r + many r by omega]
  rw [cp_can h, cp_can h, cp_can h, few_add h (n := (a : Int) + 1 + many r) (by omega), few_add h (n := (a : Int) + 1) (by omega), tim_add h (n := (a : Int) + 1 + many r) (by omega), tim_add h (n := (a : Int) + 1) (by omega)]
  exact ev3_of_num lin
/-- numbers among the first items are small -/
def Small (G : Nat → It) : Prop := ∀ a x, a < 63 → G a = .num x → 0 ≤ x ∧ x ≤ 1000000
theorem small_r {r : Rc} (h : Ok r) (h3 : r.length ≤ 3) {p : Pl} (hp : p.ok) : Small (Gr r p) := by
  intro a x ha e
  unfold Gr at e
  split at e
  · rw [rd_right h h3 hp (by omega) (by omega)] at e
    unfold rdD at e
    split at e
    · cases e
    · simp only [itR, It.num.injEq] at e
      have := ln_le (r := r) (n := a + 1) (t := raw p (a + 1)) h3 (by omega)
      omega
  · cases e
theorem small_c {r : Rc} (h : Ok r) (h3 : r.length ≤ 3) (w : En) : Small (Gc r w) := by
  intro a x ha e
  unfold Gc at e
  rw [cp_right h h3 (by omega) (by omega)] at e
  simp only [It.num.injEq] at e
  have := cnt_le r (a + 1) w
  omega
end G.M
/-! Mt7: runs of given records, worked out; calendars are unique. -/
namespace G.M
def go (f : St → St) (n : Int) : Nat → Nat → St → Option (En × Nat)
  | 0, _, _ => none
  | k + 1, c, s => if n ≤ s.1 then some (.out, c) else if s.1 < 0 then some (.off, c) else go f n k (c + 1) (f s)
theorem go_some {f n} (hn : 0 ≤ n) : ∀ k c s e c', go f n k c s = some (e, c') → ∃ j, c' = c + j ∧ Ends f n j s e := by
  intro k
  induction k with
  | zero => intro c s e c' h; simp [go] at h
  | succ k ih =>
    intro c s e c' h
    simp only [go] at h
    split at h
    · cases h; exact ⟨0, rfl, .inl ⟨by assumption, rfl⟩⟩
    · split at h
      · cases h; exact ⟨0, rfl, .inr ⟨by assumption, rfl⟩⟩
      · obtain ⟨j, h1, h2⟩ := ih _ _ _ _ h
        exact ⟨j + 1, by omega, by omega, by omega, h2⟩
theorem go_none {f n} : ∀ k c s, go f n k c s = none → ∀ j e, Ends f n j s e → k ≤ j := by
  intro k
  induction k with
  | zero => intro c s h j e _; omega
  | succ k ih =>
    intro c s h j e hE
    simp only [go] at h
    split at h
    · cases h
    · split at h
      · cases h
      · cases j with
        | zero => simp only [ends_zero] at hE; omega
        | succ j => have := ih _ _ h j e hE.2.2; omega
theorem ends_le {al r n} (h0 : 0 ≤ n) {j t e} (h : Ends (nxt al r n) n j (t, fresh r) e) : j ≤ n.toNat * 2 ^ r.length + 1 := by
  obtain ⟨v, hv⟩ := runH_some (f := nxt al r n) (n := n) (L := r.length) (nxt_len r n) (n.toNat * 2 ^ r.length + 1) (t, fresh r) [] (by simp [fresh]) (by simp) (by simp) (by simp)
  have hl := runH_len _ _ _ _ hv
  rcases runH_spec h0 _ _ _ v (by intro x hx; simp at hx) hv with ⟨_, b⟩ | ⟨_, _, b⟩
  · exact absurd h (b _ _)
  · have := ends_det h0 h b
    simp only [List.length_nil, Nat.sub_zero, Nat.add_zero] at *
    omega
def fast (r : Rc) (n t : Int) : En × Nat := match go (nxt false r n) n (n.toNat * 2 ^ r.length + 2) 0 (t, fresh r) with
  | some p => p
  | none => (.caught, 0)
theorem fast_ok {r : Rc} (h3 : r.length ≤ 3) {n : Int} (h0 : 0 ≤ n) (hn : n ≤ 1000) (t : Int) : en r n t = (fast r n t).1 ∧ (en r n t ≠ .caught → ln r n t = (fast r n t).2) := by
  unfold fast
  cases hg : go (nxt false r n) n (n.toNat * 2 ^ r.length + 2) 0 (t, fresh r) with
  | some p =>
    obtain ⟨e, c⟩ := p
    obtain ⟨j, h1, h2⟩ := go_some h0 _ _ _ _ _ hg
    have := cr_of h3 h0 hn h2
    exact ⟨this.1, fun _ => by show ln r n t = c; rw [h1, Nat.zero_add]; exact this.2⟩
  | none =>
    rcases cr_spec (al := false) (t := t) h3 h0 hn with ⟨a, b⟩ | ⟨a, b⟩
    · exact ⟨a, fun h => absurd a h⟩
    · have := go_none _ _ _ hg _ _ b
      have := ends_le h0 b
      omega
def fastR (r : Rc) (p : Pl) (a : Nat) : It := if 0 ≤ raw p (a + 1) ∧ raw p (a + 1) < (a : Int) + 1 then
  (match fast r (a + 1) (raw p (a + 1)) with | (.caught, _) => .cau | (_, k) => .num k) else .non
theorem fastR_ok {r : Rc} (h : Ok r) (h3 : r.length ≤ 3) {p : Pl} (hp : p.ok) {a : Nat} (ha : a < 900) : Gr r p a = fastR r p a := by
  unfold Gr fastR
  split
  · rw [rd_right h h3 hp (by omega) (by omega)]
    unfold rdD
    obtain ⟨k1, k2⟩ := fast_ok h3 (n := a + 1) (by omega) (by omega) (raw p (a + 1))
    generalize hf : fast r (a + 1) (raw p (a + 1)) = q at *
    obtain ⟨e, c⟩ := q
    simp only at k1 k2
    cases e
    · rw [k1, if_neg (by simp), k2 (by rw [k1]; simp)]; rfl
    · rw [k1, if_neg (by simp), k2 (by rw [k1]; simp)]; rfl
    · rw [k1, if_pos rfl]; rfl
  · rfl
theorem cal_unique {G : Nat → It} {m s f s' f' : Nat} (C : Cal G m s f) (C' : Cal G m s' f') : s = s' ∧ f = f' := by
  have key : ∀ {s s' f f'}, Cal G m s f → Cal G m s' f' → ¬ s < s' := by
    intro s s' f f' C C' h
    obtain ⟨a, a1, a2, a3⟩ := C'.least s C.s1 h
    rw [C.win a a1 a2] at a3
    cases a3
  have hs : s = s' := by
    have := key C C'
    have := key C' C
    omega
  subst hs
  refine ⟨rfl, ?_⟩
  have key2 : ∀ {f f'}, Cal G m s f → Cal G m s f' → ¬ f < f' := by
    intro f f' C C' h
    rcases C'.stop with e | e
    · omega
    · have := C.back (f' - 1) (by omega) (by have := C'.f40; omega)
      rw [this] at e; cases e
  have := key2 C C'
  have := key2 C' C
  omega
theorem cal_congr {G X : Nat → It} {m s f : Nat} (h : ∀ a, a < 40 + 4 * m → G a = X a) (C : Cal X m s f) : Cal G m s f := by
  have sm := C.sm
  have f40 := C.f40
  refine ⟨C.s1, C.sm, ?_, ?_, C.f40, ?_, ?_⟩
  · intro a h1 h2; rw [h a (by omega), h (a + s) (by omega), h (a + 2 * s) (by omega)]; exact C.win a h1 h2
  · intro u h1 h2
    obtain ⟨a, a1, a2, a3⟩ := C.least u h1 h2
    exact ⟨a, a1, a2, by rw [h a (by omega), h (a + u) (by omega), h (a + 2 * u) (by omega)]; exact a3⟩
  · intro a h1 h2; rw [h a (by omega), h (a + s) (by omega), h (a + 2 * s) (by omega)]; exact C.back a h1 h2
  · rcases C.stop with e | e
    · exact .inl e
    · exact .inr (by rw [h (f - 1) (by omega), h (f - 1 + s) (by omega), h (f - 1 + 2 * s) (by omega)]; exact e)
def calB (G : Nat → It) (m s f : Nat) : Bool := decide (1 ≤ s) && decide (s ≤ m) && (List.range' 40 (2 * m)).all (fun a => ev3 (G a) (G (a + s)) (G (a + 2 * s))) &&
  (List.range' 1 (s - 1)).all (fun u => (List.range' 40 (2 * m)).any fun a => !ev3 (G a) (G (a + u)) (G (a + 2 * u))) && decide (f ≤ 40) &&
  (List.range' f (40 - f)).all (fun a => ev3 (G a) (G (a + s)) (G (a + 2 * s))) && (decide (f = 0) || !ev3 (G (f - 1)) (G (f - 1 + s)) (G (f - 1 + 2 * s)))
theorem cal_of {G : Nat → It} {m s f : Nat} (h : calB G m s f = true) : Cal G m s f := by
  simp only [calB, Bool.and_eq_true, Bool.or_eq_true, decide_eq_true_eq, List.all_eq_true, List.any_eq_true, List.mem_range'_1, Bool.not_eq_true'] at h
  obtain ⟨⟨⟨⟨⟨⟨h1, h2⟩, h3⟩, h4⟩, h5⟩, h6⟩, h7⟩ := h
  refine ⟨h1, h2, fun a a1 a2 => h3 a ⟨a1, a2⟩, ?_, h5, fun a a1 a2 => h6 a ⟨a1, by omega⟩, h7⟩
  intro u u1 u2
  obtain ⟨a, ⟨a1, a2⟩, a3⟩ := h4 u ⟨u1, by omega⟩
  exact ⟨a, a1, a2, a3⟩
/-- counts from ends that are known turn by turn -/
theorem cnt_of {r : Rc} {n : Nat} {w : En} (E : Nat → En) (h : ∀ t, t < n → en r n (t : Nat) = E t) : cnt r n w = ((List.range n).filter fun t => decide (E t = w)).length := by
  unfold cnt
  rw [Int.toNat_natCast]
  congr 1
  apply List.filter_congr
  intro t ht
  rw [h t (List.mem_range.1 ht)]
end G.M
/-! Mt8: what is heard for ever, in n and in n + d turns. -/
namespace G.M
def itr (f : St → St) : Nat → St → St
  | 0, s => s
  | k + 1, s => itr f k (f s)
theorem itr_add (f : St → St) : ∀ a b s, itr f (a + b) s = itr f b (itr f a s) := by
  intro a
  induction a with
  | zero => intro b s; rw [Nat.zero_add]; rfl
  | succ a ih => intro b s; rw [Nat.add_right_comm]; exact ih b (f s)
theorem itr_succ (f : St → St) (k s) : itr f (k + 1) s = f (itr f k s) := itr_add f k 1 s
/-- u is heard again and again -/
def Vis (f : St → St) (s : St) (u : Int) : Prop := ∀ N : Nat, ∃ k, N ≤ k ∧ (itr f k s).1 = u
theorem vis_tail (f : St → St) (m : Nat) (s : St) (u : Int) : Vis f (itr f m s) u ↔ Vis f s u := by
  constructor
  · intro h N
    obtain ⟨k, h1, h2⟩ := h N
    exact ⟨m + k, by omega, by rw [itr_add]; exact h2⟩
  · intro h N
    obtain ⟨k, h1, h2⟩ := h (m + N)
    refine ⟨k - m, by omega, ?_⟩
    rw [← itr_add, show m + (k - m) = k by omega]; exact h2
/-- never off the record -/
def On (f : St → St) (n : Int) (s : St) : Prop := ∀ k, 0 ≤ (itr f k s).1 ∧ (itr f k s).1 < n
theorem on_of {f : St → St} {n : Int} : ∀ {s}, (∀ k e, ¬ Ends f n k s e) → On f n s := by
  intro s h k
  induction k generalizing s with
  | zero =>
    refine Classical.byContradiction fun hc => ?_
    simp only [itr] at hc
    by_cases h1 : n ≤ s.1
    · exact h 0 .out (.inl ⟨h1, rfl⟩)
    · exact h 0 .off (.inr ⟨by omega, rfl⟩)
  | succ k ih =>
    refine ih (s := f s) fun j e H => ?_
    have h0 : 0 ≤ s.1 ∧ s.1 < n := Classical.byContradiction fun hc => by
      by_cases h1 : n ≤ s.1
      · exact h 0 .out (.inl ⟨h1, rfl⟩)
      · exact h 0 .off (.inr ⟨by omega, rfl⟩)
    exact h (j + 1) e ⟨h0.1, h0.2, H⟩
theorem on_tail {f : St → St} {n : Int} {s : St} (h : On f n s) (m : Nat) : On f n (itr f m s) := fun k => by rw [← itr_add]; exact h (m + k)
theorem itr_len (al r n) : ∀ k s, (itr (nxt al r n) k s).2.length = s.2.length := by
  intro k
  induction k with
  | zero => intro s; rfl
  | succ k ih => intro s; exact (ih _).trans (nxt_len r n s)
/-- the same turns for ever -/
theorem itr_same {r : Rc} (h : Ok r) (hv : vr r ≤ 0) {n d : Int} (hn : 40 ≤ n) (hd : 0 ≤ d) : ∀ k s, s.2.length = r.length → phi r s ≤ 16 → On (nxt false r n) n s →
    phi r (itr (nxt false r n) k s) ≤ 16 ∧ itr (nxt false r (n + d)) k s = itr (nxt false r n) k s := by
  intro k
  induction k with
  | zero => intro s _ hp _; exact ⟨hp, rfl⟩
  | succ k ih =>
    intro s hl hp ho
    have hb := phi_bd r s
    have h0 := ho 0
    simp only [itr] at h0 ⊢
    have e1 : nxt false r (n + d) s = nxt false r n s := nxt_id h s.2 d hd (by omega)
    rw [e1]
    refine ih _ (mk_len r n s hl) ?_ (on_tail ho 1)
    by_cases h6 : 6 ≤ s.1
    · have := (phi_mid h hl h6 (n := n) (by omega)).1 hv; omega
    · have := nxt_bd (al := false) h n s
      have := phi_bd r (nxt false r n s)
      omega
def sh (d : Int) (s : St) : St := (s.1 + d, s.2)
/-- further in for ever -/
theorem itr_far {r : Rc} (h : Ok r) (hv : 0 ≤ vr r) {n d : Int} (hn : 40 ≤ n) (hd : 0 ≤ d) (B : Int) (hB : 7 ≤ B) (hB' : B ≤ n - 9) : ∀ k s, s.2.length = r.length → B ≤ phi r s → On (nxt false r n) n s →
    B ≤ phi r (itr (nxt false r n) k s) ∧ itr (nxt false r (n + d)) k (sh d s) = sh d (itr (nxt false r n) k s) := by
  intro k
  induction k with
  | zero => intro s _ hp _; exact ⟨hp, rfl⟩
  | succ k ih =>
    intro s hl hp ho
    have hb := phi_bd r s
    have h0 := ho 0
    simp only [itr] at h0 ⊢
    have e1 : nxt false r (n + d) (sh d s) = sh d (nxt false r n s) := nxt_sh h s.2 d hd (by omega)
    rw [e1]
    refine ih _ (mk_len r n s hl) ?_ (on_tail ho 1)
    by_cases h6 : s.1 ≤ n - 7
    · have := (phi_mid h hl (by omega) (n := n) h6).2 hv; omega
    · have := nxt_bd (al := false) h n s
      have := phi_bd r (nxt false r n s)
      omega
theorem vis_sh {f g : St → St} {d : Int} {s : St} (h : ∀ k, itr g k (sh d s) = sh d (itr f k s)) (u : Int) : Vis g (sh d s) (u + d) ↔ Vis f s u := by
  constructor
  · intro H N
    obtain ⟨k, h1, h2⟩ := H N
    rw [h k] at h2
    exact ⟨k, h1, by simp only [sh] at h2; omega⟩
  · intro H N
    obtain ⟨k, h1, h2⟩ := H N
    exact ⟨k, h1, by rw [h k]; simp only [sh]; omega⟩
/-- in the middle the needle gets on -/
def chi (r : Rc) (s : St) : Int := 2 * phi r s + (if mk r s.2 then 1 else 0)
def chi' (r : Rc) (s : St) : Int := 2 * phi r s - (if mk r s.2 then 1 else 0)
theorem chi_mid {r : Rc} (h : Ok r) {n : Int} {s : St} (hl : s.2.length = r.length) (h6 : 6 ≤ s.1) (ht : s.1 ≤ n - 7) :
    (0 < vr r → chi r s + 1 ≤ chi r (nxt false r n s)) ∧ (vr r < 0 → chi' r (nxt false r n s) + 1 ≤ chi' r s) := by
  unfold nxt chi chi' phi mk vr
  rw [find_mid h h6 ht]
  cases e : mid r with
  | none => simp only; constructor <;> intro _ <;> simp <;> omega
  | some ic =>
    obtain ⟨i, c⟩ := ic
    obtain ⟨hi, ⟨_, _, a, b, _⟩, _⟩ := mid_ok h e
    have hi' : i < s.2.length := by omega
    simp only
    have hcs : c.e = true ∨ c.e = false := by cases c.e <;> simp
    have hms : s.2.getD i false = true ∨ s.2.getD i false = false := by cases s.2.getD i false <;> simp
    rcases hcs with hc | hc <;> rcases hms with hm | hm <;> simp only [Bool.false_and, Bool.true_and, Bool.not_false, Bool.not_true, Bool.or_true, Bool.or_false, if_true, if_false, Bool.false_eq_true, getD_set_self hi', hm, hc, reduceIte] <;> constructor <;> intro _ <;> omega
theorem chi_bd (r : Rc) (s : St) : 2 * phi r s ≤ chi r s ∧ chi r s ≤ 2 * phi r s + 1 ∧ 2 * phi r s - 1 ≤ chi' r s ∧ chi' r s ≤ 2 * phi r s := by
  unfold chi chi'; split <;> omega
/-- upwards it comes to the end -/
theorem reach {r : Rc} (h : Ok r) (hv : 0 < vr r) {n : Int} (hn : 40 ≤ n) : ∀ (m : Nat) (s : St), s.2.length = r.length → 7 ≤ phi r s → On (nxt false r n) n s → 2 * n - chi r s ≤ m → ∃ k, n - 9 ≤ phi r (itr (nxt false r n) k s) := by
  intro m
  induction m with
  | zero =>
    intro s hl hp ho hm
    have := phi_bd r s
    have := chi_bd r s
    have h0 := ho 0
    simp only [itr] at h0
    omega
  | succ m ih =>
    intro s hl hp ho hm
    have h1 := phi_bd r s
    have h0 := ho 0
    simp only [itr] at h0
    by_cases h6 : s.1 ≤ n - 7
    · have c1 := (chi_mid h hl (by omega) (n := n) h6).1 hv
      have c2 := (phi_mid h hl (by omega) (n := n) h6).2 (by omega)
      obtain ⟨k, hk⟩ := ih (nxt false r n s) (mk_len r n s hl) (by omega) (on_tail ho 1) (by omega)
      exact ⟨k + 1, hk⟩
    · exact ⟨0, by simp only [itr]; omega⟩
/-- downwards it comes out of the middle -/
theorem falls {r : Rc} (h : Ok r) (hv : vr r < 0) {n : Int} (hn : 40 ≤ n) : ∀ (m : Nat) (s : St), s.2.length = r.length → phi r s ≤ n - 10 → chi' r s ≤ m → (∀ k, 16 ≤ (itr (nxt false r n) k s).1) → False := by
  intro m
  induction m with
  | zero =>
    intro s hl hp hm hs
    have := phi_bd r s
    have := chi_bd r s
    have h0 := hs 0
    simp only [itr] at h0
    omega
  | succ m ih =>
    intro s hl hp hm hs
    have h1 := phi_bd r s
    have h0 := hs 0
    simp only [itr] at h0
    have c1 := (chi_mid h hl (by omega) (n := n) (by omega)).2 hv
    have c2 := (phi_mid h hl (by omega) (n := n) (by omega)).1 (by omega)
    exact ih (nxt false r n s) (mk_len r n s hl) (by omega) (by omega) fun k => hs (k + 1)
/-- where it is heard for ever: near the rim, in the same turns, or near the middle, further in -/
def RingOk (r : Rc) (n d : Int) (s s' : St) : Prop :=
  ((∀ u, Vis (nxt false r (n + d)) s' u ↔ Vis (nxt false r n) s u) ∧ ∀ u, Vis (nxt false r n) s u → u < 20) ∨
  ((∀ u, Vis (nxt false r (n + d)) s' (u + d) ↔ Vis (nxt false r n) s u) ∧ ∀ u, Vis (nxt false r n) s u → n - 9 ≤ u)
theorem ring_same {r : Rc} (h : Ok r) (hv : vr r ≤ 0) {n d : Int} (hn : 40 ≤ n) (hd : 0 ≤ d) {s : St} (hl : s.2.length = r.length) (hp : phi r s ≤ 16) (ho : On (nxt false r n) n s) : RingOk r n d s s := by
  have k := fun j => itr_same h hv hn hd j s hl hp ho
  refine .inl ⟨fun u => ?_, fun u hu => ?_⟩
  · unfold Vis
    simp only [(k _).2]
  · obtain ⟨j, _, hj⟩ := hu 0
    have := (k j).1
    have := phi_bd r (itr (nxt false r n) j s)
    omega
theorem ring_far {r : Rc} (h : Ok r) (hv : 0 ≤ vr r) {n d : Int} (hn : 40 ≤ n) (hd : 0 ≤ d) {s : St} (hl : s.2.length = r.length) (hp : 7 ≤ phi r s) (ho : On (nxt false r n) n s) (hq : vr r = 0 → n - 9 ≤ phi r s) : RingOk r n d s (sh d s) := by
  refine .inr ⟨vis_sh fun j => (itr_far h hv hn hd 7 (by omega) (by omega) j s hl hp ho).2, fun u hu => ?_⟩
  have : ∃ m, n - 9 ≤ phi r (itr (nxt false r n) m s) := by
    by_cases h0 : vr r = 0
    · exact ⟨0, hq h0⟩
    · exact reach h (by omega) hn (2 * n - chi r s).toNat s hl hp ho (by omega)
  obtain ⟨m, hm⟩ := this
  obtain ⟨j, _, hj⟩ := (vis_tail _ m s u).2 hu 0
  have := (itr_far h hv hn hd (n - 9) (by omega) (by omega) j (itr (nxt false r n) m s) (by rw [itr_len]; exact hl) hm (on_tail ho m)).1
  have := phi_bd r (itr (nxt false r n) j (itr (nxt false r n) m s))
  omega
end G.M
/-! Mt9: rings at places. -/
namespace G.M
theorem per_itr {r : Rc} (h : Ok r) {N t : Int} {ms : List Bool} (hl : ms.length = r.length) (h1 : 9 ≤ t) (h2 : t ≤ N - 12) : itr (nxt false r N) (per r) (t, ms) = (t + vr r, ms) := by
  have hf : ∀ u : Int, 6 ≤ u → u ≤ N - 7 → ∀ ms, nxt false r N (u, ms) = match mid r with
      | none => (u + 1, ms)
      | some (i, c) => (u + 1 + (if c.e && !(ms.getD i false) then 0 else c.j), if c.e then ms.set i (!(ms.getD i false)) else ms) := by
    intro u a b ms
    unfold nxt
    simp only [find_mid h a b, Bool.false_or]
    all_goals (cases mid r <;> rfl)
  unfold per vr
  have f1 := hf t (by omega) (by omega) ms
  cases em : mid r with
  | none =>
    rw [em] at f1
    simp only [itr, f1]
  | some ic =>
    obtain ⟨i, c⟩ := ic
    obtain ⟨hi, ⟨_, _, a, b, _⟩, _⟩ := mid_ok h em
    have hi' : i < ms.length := by omega
    rw [em] at f1
    simp only at f1 ⊢
    cases hc : c.e
    · simp only [hc, Bool.false_and, Bool.false_eq_true, if_false] at f1
      simp only [Bool.false_eq_true, if_false, itr, f1]
      rw [show t + 1 + c.j = t + (1 + c.j) by omega]
    · simp only [hc, Bool.true_and, if_true] at f1
      simp only [if_true, itr, f1]
      cases hm : ms.getD i false
      · have e1 : (ms.set i true).getD i false = true := getD_set_self hi' true false
        have e2 : (ms.set i true).set i false = ms := by
          rw [List.set_set]
          have : ms[i] = false := by simpa [List.getD, hi'] using hm
          rw [← this]; exact List.set_getElem_self hi'
        simp only [Bool.not_false, if_true]
        have f2 := hf (t + 1 + 0) (by omega) (by omega) (ms.set i true)
        rw [em] at f2
        simp only [hc, Bool.true_and, if_true, e1, Bool.not_true, Bool.false_eq_true, if_false, e2] at f2
        rw [f2, show t + 1 + 0 + 1 + c.j = t + (2 + c.j) by omega]
      · have e1 : (ms.set i false).getD i false = false := getD_set_self hi' false false
        have e2 : (ms.set i false).set i true = ms := by
          rw [List.set_set]
          have : ms[i] = true := by simpa [List.getD, hi'] using hm
          rw [← this]; exact List.set_getElem_self hi'
        simp only [Bool.not_true, Bool.false_eq_true, if_false]
        have f2 := hf (t + 1 + c.j) (by omega) (by omega) (ms.set i false)
        rw [em] at f2
        simp only [hc, Bool.true_and, if_true, e1, Bool.not_false, e2] at f2
        rw [f2, show t + 1 + c.j + 1 + 0 = t + (2 + c.j) by omega]
theorem up_itr {r : Rc} (h : Ok r) (hv : 0 < vr r) {N : Int} {ms : List Bool} (hl : ms.length = r.length) :
    ∀ (q : Nat) (u : Int), 9 ≤ u → u + q * many r ≤ N - 12 + many r → itr (nxt false r N) (q * per r) (u, ms) = (u + q * many r, ms) := by
  intro q
  have hm := many_pos hv
  induction q with
  | zero => intro u _ _; simp [itr]
  | succ q ih =>
    intro u h9 hN
    rw [sm] at hN ⊢
    have hq : 0 ≤ (q : Int) * many r := Int.mul_nonneg (by omega) (by omega)
    rw [Nat.succ_mul, Nat.add_comm, itr_add, per_itr h hl h9 (by omega), ← hm, ih (u + many r) (by omega) (by omega)]
    rw [show u + many r + q * many r = u + (q * many r + many r) by omega]
theorem dn_itr {r : Rc} (h : Ok r) (hv : vr r < 0) {N : Int} {ms : List Bool} (hl : ms.length = r.length) :
    ∀ (q : Nat) (u : Int), 9 ≤ u → u + q * many r ≤ N - 12 → itr (nxt false r N) (q * per r) (u + q * many r, ms) = (u, ms) := by
  intro q
  have hm := many_neg hv
  induction q with
  | zero => intro u _ _; simp [itr]
  | succ q ih =>
    intro u h9 hN
    rw [sm] at hN ⊢
    have hq : 0 ≤ (q : Int) * many r := Int.mul_nonneg (by omega) (by omega)
    rw [Nat.succ_mul, Nat.add_comm, itr_add, per_itr h hl (by omega) (by omega), show u + (q * many r + many r) + vr r = u + q * many r by omega, ih u h9 (by omega)]
theorem first_of (P : Nat → Prop) : (∀ k, P k) ∨ ∃ m, ¬ P m ∧ ∀ j, j < m → P j := by
  rcases Classical.em (∀ k, P k) with h | h
  · exact .inl h
  · right
    refine Classical.byContradiction fun hc => h fun k => ?_
    induction k using Nat.strongRecOn with
    | ind k ih => exact Classical.byContradiction fun hk => hc ⟨k, hk, ih⟩
theorem ring_at {r : Rc} (h : Ok r) {p : Pl} (hp : p.ok) {n : Int} (hn : 40 ≤ n) (q : Nat) (ho : On (nxt false r n) n (raw p n, fresh r)) :
    RingOk r n (q * many r) (raw p n, fresh r) (raw p (n + q * many r), fresh r) := by
  have hmp := many_le h
  have hd : 0 ≤ (q : Int) * many r := Int.mul_nonneg (by omega) (by omega)
  have hl : (fresh r).length = r.length := by simp [fresh]
  have hb := phi_bd r (raw p n, fresh r)
  simp only at hb
  have hr : raw p n = if p.rim then p.p else n - 1 - p.p := rfl
  have hr' : raw p (n + q * many r) = if p.rim then p.p else n + q * many r - 1 - p.p := rfl
  obtain ⟨p0, p5⟩ := hp
  cases hrim : p.rim
  · rw [hrim] at hr hr'
    simp only [Bool.false_eq_true, if_false] at hr hr'
    have hs : (raw p (n + q * many r), fresh r) = sh (q * many r) (raw p n, fresh r) := by
      show _ = (raw p n + q * many r, fresh r)
      rw [hr, hr', show n + q * many r - 1 - p.p = n - 1 - p.p + q * many r by omega]
    rw [hs]
    generalize raw p n = t at *
    rcases Int.lt_or_le (vr r) 0 with hv | hv
    · have hm := many_neg hv
      have same : ∀ m, (∀ j, j < m → 16 ≤ (itr (nxt false r n) j (t, fresh r)).1) → itr (nxt false r (n + q * many r)) m (sh (q * many r) (t, fresh r)) = sh (q * many r) (itr (nxt false r n) m (t, fresh r)) := by
        intro m
        induction m with
        | zero => intro _; rfl
        | succ m ih =>
          intro hj
          rw [itr_succ, itr_succ, ih (fun j hj' => hj j (by omega))]
          exact nxt_sh h _ _ hd (by have := hj m (by omega); omega)
      rcases first_of (fun k => 16 ≤ (itr (nxt false r n) k (t, fresh r)).1) with ha | ⟨m, hm1, hm2⟩
      · refine .inr ⟨vis_sh fun j => same j fun i _ => ha i, fun u hu => ?_⟩
        obtain ⟨j, _, hj⟩ := hu 0
        refine Classical.byContradiction fun hc => ?_
        have hb := phi_bd r (itr (nxt false r n) j (t, fresh r))
        exact falls h hv hn (chi' r (itr (nxt false r n) j (t, fresh r))).toNat (itr (nxt false r n) j (t, fresh r)) (by rw [itr_len]; exact hl) (by omega) (by omega) fun k => by rw [← itr_add]; exact ha (j + k)
      · have e1 := same m hm2
        have hm0 : 0 < m := by
          cases m with
          | zero => simp only [itr] at hm1; omega
          | succ m => omega
        have hprev := hm2 (m - 1) (by omega)
        have hst : itr (nxt false r n) m (t, fresh r) = nxt false r n (itr (nxt false r n) (m - 1) (t, fresh r)) := by
          have z := itr_succ (nxt false r n) (m - 1) (t, fresh r)
          rwa [show m - 1 + 1 = m by omega] at z
        have hbd := nxt_bd (al := false) h n (itr (nxt false r n) (m - 1) (t, fresh r))
        rw [← hst] at hbd
        have hl2 : (itr (nxt false r n) m (t, fresh r)).2.length = r.length := by rw [itr_len]; exact hl
        have ho2 := on_tail ho m
        have hb2 := phi_bd r (itr (nxt false r n) m (t, fresh r))
        have e3 := fun u => vis_tail (nxt false r n) m (t, fresh r) u
        have e4 := fun u => vis_tail (nxt false r (n + q * many r)) m (sh (q * many r) (t, fresh r)) u
        rw [e1] at e4
        generalize itr (nxt false r n) m (t, fresh r) = s' at *
        have e5 := dn_itr h hv (N := n + q * many r) hl2 q s'.1 (by omega) (by omega)
        have e6 := fun u => vis_tail (nxt false r (n + q * many r)) (q * per r) (sh (q * many r) s') u
        rw [show itr (nxt false r (n + q * many r)) (q * per r) (sh (q * many r) s') = s' from e5] at e6
        rcases ring_same h (by omega) hn hd hl2 (by omega) ho2 with ⟨a, b⟩ | ⟨a, b⟩
        · exact .inl ⟨fun u => ((e4 u).symm.trans (e6 u).symm).trans ((a u).trans (e3 u)), fun u hu => b u ((e3 u).2 hu)⟩
        · exact .inr ⟨fun u => ((e4 _).symm.trans (e6 _).symm).trans ((a u).trans (e3 u)), fun u hu => b u ((e3 u).2 hu)⟩
    · exact ring_far h hv hn hd hl (by omega) ho (by omega)
  · rw [hrim] at hr hr'
    simp only [if_true] at hr hr'
    have hs : raw p (n + q * many r) = raw p n := by omega
    rw [hs]
    generalize raw p n = t at *
    rcases Int.lt_or_le 0 (vr r) with hv | hv
    · have hm := many_pos hv
      have same : ∀ m, (∀ j, j < m → (itr (nxt false r n) j (t, fresh r)).1 < 16) → itr (nxt false r (n + q * many r)) m (t, fresh r) = itr (nxt false r n) m (t, fresh r) := by
        intro m
        induction m with
        | zero => intro _; rfl
        | succ m ih =>
          intro hj
          rw [itr_succ, itr_succ, ih (fun j hj' => hj j (by omega))]
          exact nxt_id h _ _ hd (by have := hj m (by omega); omega)
      rcases first_of (fun k => (itr (nxt false r n) k (t, fresh r)).1 < 16) with ha | ⟨m, hm1, hm2⟩
      · refine .inl ⟨fun u => ?_, fun u hu => ?_⟩
        · unfold Vis
          simp only [fun k => same k fun i _ => ha i]
        · obtain ⟨j, _, hj⟩ := hu 0
          have := ha j
          omega
      · have e1 := same m hm2
        have hm0 : 0 < m := by
          cases m with
          | zero => simp only [itr] at hm1; omega
          | succ m => omega
        have hprev := hm2 (m - 1) (by omega)
        have hst : itr (nxt false r n) m (t, fresh r) = nxt false r n (itr (nxt false r n) (m - 1) (t, fresh r)) := by
          have z := itr_succ (nxt false r n) (m - 1) (t, fresh r)
          rwa [show m - 1 + 1 = m by omega] at z
        have hbd := nxt_bd (al := false) h n (itr (nxt false r n) (m - 1) (t, fresh r))
        rw [← hst] at hbd
        have hl2 : (itr (nxt false r n) m (t, fresh r)).2.length = r.length := by rw [itr_len]; exact hl
        have ho2 := on_tail ho m
        have hb2 := phi_bd r (itr (nxt false r n) m (t, fresh r))
        have e3 := fun u => vis_tail (nxt false r n) m (t, fresh r) u
        have e4 := fun u => vis_tail (nxt false r (n + q * many r)) m (t, fresh r) u
        rw [e1] at e4
        generalize itr (nxt false r n) m (t, fresh r) = s' at *
        have e5 := up_itr h hv (N := n + q * many r) hl2 q s'.1 (by omega) (by omega)
        have e6 := fun u => vis_tail (nxt false r (n + q * many r)) (q * per r) s' u
        rw [show itr (nxt false r (n + q * many r)) (q * per r) s' = sh (q * many r) s' from e5] at e6
        rcases ring_far h (by omega) hn hd hl2 (by omega) ho2 (by omega) with ⟨a, b⟩ | ⟨a, b⟩
        · exact .inl ⟨fun u => ((e4 u).symm.trans (e6 u).symm).trans ((a u).trans (e3 u)), fun u hu => b u ((e3 u).2 hu)⟩
        · exact .inr ⟨fun u => ((e4 _).symm.trans (e6 _).symm).trans ((a u).trans (e3 u)), fun u hu => b u ((e3 u).2 hu)⟩
    · exact ring_same h hv hn hd hl (by omega) ho
end G.M
/-! Mt10: the ring of a run; small numbers of turns of the law and of the program. -/
namespace G.M
def ringT (v : En × List St × Nat) : List Int := (v.2.1.drop v.2.2).map (·.1)
theorem runH_path {f : St → St} {n : Int} (s0 : St) : ∀ k s h v, (∀ j, j < h.length → h[j]? = some (itr f j s0)) → s = itr f h.length s0 → runH f n k s h = some v → v.1 = .caught →
    (∀ j, j < v.2.1.length → v.2.1[j]? = some (itr f j s0)) ∧ v.2.2 < v.2.1.length ∧ itr f v.2.1.length s0 = itr f v.2.2 s0 := by
  intro k
  induction k with
  | zero => intro s h v _ _ e; simp [runH] at e
  | succ k ih =>
    intro s h v hp hs e hc
    simp only [runH] at e
    split at e
    · split at e
      · rename_i hm
        cases e
        have hi := List.idxOf_lt_length_of_mem hm
        refine ⟨hp, hi, ?_⟩
        have := hp _ hi
        rw [List.getElem?_eq_getElem hi, List.getElem_idxOf hi] at this
        rw [← hs]; exact Option.some.inj this
      · refine ih (f s) (h ++ [s]) v ?_ ?_ e hc
        · intro j hj
          simp only [List.length_append, List.length_singleton] at hj
          by_cases hj2 : j < h.length
          · rw [List.getElem?_append_left hj2]; exact hp j hj2
          · have : j = h.length := by omega
            subst this
            simp [hs]
        · simp only [List.length_append, List.length_singleton]
          rw [itr_succ, hs]
    · rename_i ho
      cases e
      simp only at hc
      split at hc <;> cases hc
theorem itr_loop {f : St → St} {s0 : St} {i L : Nat} (hi : i < L) (e : itr f L s0 = itr f i s0) : ∀ k, i ≤ k → itr f k s0 = itr f (i + (k - i) % (L - i)) s0 := by
  intro k
  induction k using Nat.strongRecOn with
  | ind k ih =>
    intro hk
    by_cases hL : k < L
    · rw [Nat.mod_eq_of_lt (by omega), show i + (k - i) = k by omega]
    · have := ih (k - (L - i)) (by omega) (by omega)
      have e2 : itr f k s0 = itr f (k - (L - i)) s0 := by
        rw [show k = L + (k - L) by omega, itr_add, e, ← itr_add]
        congr 1; omega
      rw [e2, this]
      congr 2
      rw [show k - i = (k - (L - i) - i) + (L - i) by omega, Nat.add_mod_right]
theorem mem_ring {f : St → St} {n : Int} {k : Nat} {s : St} {v : En × List St × Nat} (e : runH f n k s [] = some v) (hc : v.1 = .caught) (u : Int) : u ∈ ringT v ↔ Vis f s u := by
  obtain ⟨hp, hi, hl⟩ := runH_path s k s [] v (by intro j hj; simp at hj) rfl e hc
  obtain ⟨en, H, i⟩ := v
  simp only at hp hi hl
  unfold ringT
  simp only
  constructor
  · intro hu
    obtain ⟨x, hx, rfl⟩ := List.mem_map.1 hu
    obtain ⟨j, hj⟩ := List.mem_iff_getElem?.1 hx
    rw [List.getElem?_drop] at hj
    have hlt : i + j < H.length := (List.getElem?_eq_some_iff.1 hj).1
    have hx2 := hp _ hlt
    rw [hj] at hx2
    have hx3 : x = itr f (i + j) s := Option.some.inj hx2
    intro N
    refine ⟨i + j + N * (H.length - i), ?_, ?_⟩
    · have : N * 1 ≤ N * (H.length - i) := Nat.mul_le_mul_left N (by omega)
      omega
    · rw [itr_loop hi hl _ (by omega), show i + j + N * (H.length - i) - i = j + N * (H.length - i) by omega, Nat.add_mul_mod_self_right, Nat.mod_eq_of_lt (by omega), hx3]
  · intro hu
    obtain ⟨k, hk, rfl⟩ := hu i
    rw [itr_loop hi hl k hk]
    have hlt : (k - i) % (H.length - i) < H.length - i := Nat.mod_lt _ (by omega)
    refine List.mem_map.2 ⟨_, List.mem_iff_getElem?.2 ⟨(k - i) % (H.length - i), ?_⟩, rfl⟩
    rw [List.getElem?_drop]
    exact hp _ (by omega)
theorem runH_h {f : St → St} {n : Int} {L : Nat} (hf : ∀ s, (f s).2.length = s.2.length) : ∀ k s h v, s.2.length = L → h.Nodup → (∀ x ∈ h, Good L n x) → runH f n k s h = some v → v.2.1.Nodup ∧ ∀ x ∈ v.2.1, Good L n x := by
  intro k
  induction k with
  | zero => intro s h v _ _ _ e; simp [runH] at e
  | succ k ih =>
    intro s h v hl hn hg e
    simp only [runH] at e
    split at e
    · rename_i ho
      split at e
      · cases e; exact ⟨hn, hg⟩
      · rename_i hm
        refine ih (f s) (h ++ [s]) v (by rw [hf]; exact hl) ?_ ?_ e
        · rw [List.nodup_append]
          refine ⟨hn, by simp, ?_⟩
          intro a ha b hb z
          simp only [List.mem_singleton] at hb
          exact hm (hb ▸ z ▸ ha)
        · intro x hx
          rw [List.mem_append] at hx
          rcases hx with hx | hx
          · exact hg x hx
          · simp only [List.mem_singleton] at hx
            exact hx ▸ ⟨ho.1, ho.2, hl⟩
    · cases e; exact ⟨hn, hg⟩
def rT (al : Bool) (r : Rc) (n t : Int) : List Int := ringT (cr al r n t)
theorem rT_len {al r n t} (h3 : r.length ≤ 3) (h0 : 0 ≤ n) (hn : n ≤ 100) : (rT al r n t).length ≤ 800 := by
  have := runH_h (f := nxt al r n) (n := n) (L := r.length) (nxt_len r n) _ _ _ _ (by simp [fresh]) (by simp) (by simp) (cr_eq (al := al) (t := t) h3 (by omega))
  have hl := good_le this.1 this.2
  have : 2 ^ r.length ≤ 2 ^ 3 := Nat.pow_le_pow_right (by omega) h3
  have : n.toNat * 2 ^ r.length ≤ 100 * 2 ^ 3 := Nat.mul_le_mul (by omega) this
  unfold rT ringT
  rw [List.length_map, List.length_drop]
  omega
theorem rT_in {al r n t} (h3 : r.length ≤ 3) (hn : n ≤ 1000) : ∀ u ∈ rT al r n t, 0 ≤ u ∧ u < n := by
  have := runH_h (f := nxt al r n) (n := n) (L := r.length) (nxt_len r n) _ _ _ _ (by simp [fresh]) (by simp) (by simp) (cr_eq (al := al) (t := t) h3 hn)
  intro u hu
  obtain ⟨x, hx, rfl⟩ := List.mem_map.1 hu
  have := this.2 x (List.mem_of_mem_drop hx)
  exact ⟨this.1, this.2.1⟩
theorem agr_itr {r : Rc} {n : Int} : ∀ k t ms ms', Agr r ms ms' → (itr (nxt true r n) k (t, ms)).1 = (itr (nxt false r n) k (t, ms')).1 := by
  intro k
  induction k with
  | zero => intro t ms ms' _; rfl
  | succ k ih =>
    intro t ms ms' h
    have g := agr_nxt (n := n) (t := t) h
    have := ih (nxt true r n (t, ms)).1 _ _ g.2
    simp only [itr]
    rw [show ((nxt true r n (t, ms)).1, (nxt true r n (t, ms)).2) = nxt true r n (t, ms) from rfl] at this
    rw [this, g.1]
theorem mem_rT {al r n t} (h3 : r.length ≤ 3) (h0 : 0 ≤ n) (hn : n ≤ 1000) (hc : en r n t = .caught) (u : Int) : u ∈ rT al r n t ↔ Vis (nxt false r n) (t, fresh r) u := by
  have hc2 : (cr al r n t).1 = .caught := by
    cases al
    · exact hc
    · rw [(cr_true h3 h0 hn).1]; exact hc
  have := mem_ring (cr_eq (al := al) (t := t) h3 hn) hc2 u
  unfold rT
  rw [this]
  cases al
  · rfl
  · unfold Vis
    simp only [agr_itr _ t _ _ (agr_fresh r)]
theorem on_caught {r n t} (h3 : r.length ≤ 3) (h0 : 0 ≤ n) (hn : n ≤ 1000) (hc : en r n t = .caught) : On (nxt false r n) n (t, fresh r) := by
  rcases cr_spec (al := false) (t := t) h3 h0 hn with ⟨_, b⟩ | ⟨a, _⟩
  · exact on_of b
  · exact absurd hc a
def small (r : Rc) (n : Int) : Int := if n < 60 + many r then n else 60 + (n - 60).fmod (many r)
theorem small_spec {r : Rc} (h : Ok r) {n : Int} (hn : 100 ≤ n) : ∃ j k : Nat, small r n = few r n + j * many r ∧ n = small r n + k * many r ∧ (n - small r n).fdiv (many r) = k ∧ (n - few r n).fdiv (many r) = ((j + k : Nat) : Int) ∧
    60 ≤ small r n ∧ small r n < 65 ∧ 40 ≤ few r n ∧ few r n < 45 ∧ few r n ≠ n := by
  have hm := many_le h
  have hs : small r n = 60 + (n - 60).fmod (many r) := by unfold small; rw [if_neg (by omega)]
  have hf := few_can h (n := n) (by omega)
  have a1 := Int.mul_fdiv_add_fmod (n - 60) (many r)
  have a2 := Int.fmod_nonneg_of_pos (n - 60) (b := many r) (by omega)
  have a3 := Int.fmod_lt_of_pos (n - 60) (b := many r) (by omega)
  have b1 := Int.mul_fdiv_add_fmod (n - 40) (many r)
  have b2 := Int.fmod_nonneg_of_pos (n - 40) (b := many r) (by omega)
  have b3 := Int.fmod_lt_of_pos (n - 40) (b := many r) (by omega)
  have x1 : n - small r n = many r * (n - 60).fdiv (many r) := by omega
  have y1 : n - few r n = many r * (n - 40).fdiv (many r) := by omega
  have xd : (n - small r n).fdiv (many r) = (n - 60).fdiv (many r) := by rw [x1, Int.mul_comm, Int.mul_fdiv_cancel _ (by omega)]
  have yd : (n - few r n).fdiv (many r) = (n - 40).fdiv (many r) := by rw [y1, Int.mul_comm, Int.mul_fdiv_cancel _ (by omega)]
  generalize hX : (n - 60).fdiv (many r) = X at *
  generalize hY : (n - 40).fdiv (many r) = Y at *
  generalize small r n = S at *
  generalize few r n = F at *
  generalize hM : many r = M at *
  have hX0 : 0 ≤ X := by
    refine Classical.byContradiction fun hc => ?_
    have : M * X ≤ M * (-1) := Int.mul_le_mul_of_nonneg_left (by omega) (by omega)
    omega
  have hXY : X ≤ Y := by
    refine Classical.byContradiction fun hc => ?_
    have : M * (Y + 1) ≤ M * X := Int.mul_le_mul_of_nonneg_left (by omega) (by omega)
    rw [Int.mul_add] at this
    omega
  have hd : M * (Y - X) = M * Y - M * X := Int.mul_sub ..
  refine ⟨(Y - X).toNat, X.toNat, ?_, ?_, by omega, by omega, by omega, by omega, by omega, by omega, by omega⟩
  · rw [Int.toNat_of_nonneg (by omega), Int.mul_comm]; omega
  · rw [Int.toNat_of_nonneg hX0, Int.mul_comm]; omega
end G.M
/-! Mt11: what is heard first. -/
namespace G.M
/-- the turns heard first, at most m -/
def hd (f : St → St) (n : Int) : Nat → St → List Int
  | 0, _ => []
  | m + 1, s => if 0 ≤ s.1 ∧ s.1 < n then s.1 :: hd f n m (f s) else []
theorem hd_succ (f : St → St) (n : Int) (m s) : hd f n (m + 1) s = if 0 ≤ s.1 ∧ s.1 < n then s.1 :: hd f n m (f s) else [] := rfl
theorem hd_len (f : St → St) (n : Int) : ∀ m s, (hd f n m s).length ≤ m := by
  intro m
  induction m with
  | zero => intro s; simp [hd]
  | succ m ih =>
    intro s
    unfold hd
    split
    · simp only [List.length_cons]; have := ih (f s); omega
    · simp
theorem hd_take (f : St → St) (n : Int) : ∀ m M s, m ≤ M → hd f n m s = (hd f n M s).take m := by
  intro m
  induction m with
  | zero => intro M s _; simp [hd]
  | succ m ih =>
    intro M s h
    cases M with
    | zero => omega
    | succ M =>
      unfold hd
      split
      · rw [List.take_succ_cons, ih M (f s) (by omega)]
      · simp
theorem hd_agr {r : Rc} {n : Int} : ∀ m t ms ms', Agr r ms ms' → hd (nxt true r n) n m (t, ms) = hd (nxt false r n) n m (t, ms') := by
  intro m
  induction m with
  | zero => intro t ms ms' _; rfl
  | succ m ih =>
    intro t ms ms' h
    obtain ⟨a, b⟩ := agr_nxt (n := n) (t := t) h
    unfold hd
    have := ih (nxt true r n (t, ms)).1 _ _ b
    rw [show hd (nxt true r n) n m (nxt true r n (t, ms)) = hd (nxt true r n) n m ((nxt true r n (t, ms)).1, (nxt true r n (t, ms)).2) from rfl, this, a]
theorem hd_on {f : St → St} {n : Int} : ∀ m s, (∀ j, j < m → 0 ≤ (itr f j s).1 ∧ (itr f j s).1 < n) → hd f n m s = (List.range m).map fun j => (itr f j s).1 := by
  intro m
  induction m with
  | zero => intro s _; rfl
  | succ m ih =>
    intro s h
    unfold hd
    have h0 : 0 ≤ s.1 ∧ s.1 < n := h 0 (by omega)
    rw [if_pos h0, ih (f s) (fun j hj => h (j + 1) (by omega)), List.range_succ_eq_map, List.map_cons, List.map_map]
    rfl
theorem hd_off {f : St → St} {n : Int} : ∀ L s M, L ≤ M → ¬ (0 ≤ (itr f L s).1 ∧ (itr f L s).1 < n) → hd f n M s = hd f n L s := by
  intro L
  induction L with
  | zero =>
    intro s M _ h
    cases M with
    | zero => rfl
    | succ M => unfold hd; exact if_neg h
  | succ L ih =>
    intro s M hM h
    cases M with
    | zero => omega
    | succ M =>
      unfold hd
      rw [ih (f s) M (by omega) h]
/-- a run's states one after another -/
theorem runH_all {f : St → St} {n : Int} (s0 : St) : ∀ k s h v, (∀ j, j < h.length → h[j]? = some (itr f j s0) ∧ 0 ≤ (itr f j s0).1 ∧ (itr f j s0).1 < n) → s = itr f h.length s0 → runH f n k s h = some v →
    (∀ j, j < v.2.1.length → v.2.1[j]? = some (itr f j s0) ∧ 0 ≤ (itr f j s0).1 ∧ (itr f j s0).1 < n) ∧ (v.1 ≠ .caught → ¬ (0 ≤ (itr f v.2.1.length s0).1 ∧ (itr f v.2.1.length s0).1 < n)) := by
  intro k
  induction k with
  | zero => intro s h v _ _ e; simp [runH] at e
  | succ k ih =>
    intro s h v hp hs e
    simp only [runH] at e
    split at e
    · rename_i on
      split at e
      · cases e
        exact ⟨hp, fun h => absurd rfl h⟩
      · refine ih (f s) (h ++ [s]) v ?_ ?_ e
        · intro j hj
          simp only [List.length_append, List.length_singleton] at hj
          by_cases hj2 : j < h.length
          · rw [List.getElem?_append_left hj2]; exact hp j hj2
          · have : j = h.length := by omega
            subst this
            rw [← hs]
            exact ⟨by simp, on⟩
        · simp only [List.length_append, List.length_singleton]
          rw [itr_succ, hs]
    · rename_i ho
      cases e
      refine ⟨hp, fun _ => ?_⟩
      rw [← hs]; exact ho
def pos (v : En × List St × Nat) : List Int := v.2.1.map (·.1)
theorem pos_len (v) : (pos v).length = v.2.1.length := by simp [pos]
theorem pos_hd {f : St → St} {n : Int} {k s v} (e : runH f n k s [] = some v) : pos v = hd f n v.2.1.length s := by
  obtain ⟨hp, _⟩ := runH_all s k s [] v (by intro j hj; simp at hj) rfl e
  rw [hd_on _ _ fun j hj => (hp j hj).2]
  unfold pos
  refine List.ext_getElem? fun i => ?_
  rw [List.getElem?_map, List.getElem?_map]
  by_cases hi : i < v.2.1.length
  · rw [(hp i hi).1, List.getElem?_range hi]; rfl
  · rw [List.getElem?_eq_none (by omega), List.getElem?_eq_none (by simp; omega)]; rfl
/-- not caught: all is heard -/
theorem pos_all {f : St → St} {n : Int} {k s v} (e : runH f n k s [] = some v) (hc : v.1 ≠ .caught) (m : Nat) : hd f n m s = (pos v).take m := by
  obtain ⟨_, ho⟩ := runH_all s k s [] v (by intro j hj; simp at hj) rfl e
  rw [pos_hd e]
  by_cases hm : m ≤ v.2.1.length
  · exact hd_take f n m _ s hm
  · rw [hd_off v.2.1.length s m (by omega) (ho hc), List.take_of_length_le (by have := hd_len f n v.2.1.length s; omega)]
/-- caught: the ring once more -/
theorem pos_more {f : St → St} {n : Int} {k s v} (e : runH f n k s [] = some v) (hc : v.1 = .caught) (on : ∀ j, 0 ≤ (itr f j s).1 ∧ (itr f j s).1 < n) :
    v.2.2 < v.2.1.length ∧ ∀ q : Nat, hd f n (v.2.1.length + q * (v.2.1.length - v.2.2)) s ++ (pos v).drop v.2.2 = hd f n (v.2.1.length + (q + 1) * (v.2.1.length - v.2.2)) s := by
  obtain ⟨hp, hi, hl⟩ := runH_path s k s [] v (by intro j hj; simp at hj) rfl e hc
  refine ⟨hi, fun q => ?_⟩
  have lp := itr_loop hi hl
  rw [pos_hd e]
  generalize hL : v.2.1.length = L at *
  generalize hA : v.2.2 = A at *
  rw [hd_on _ _ fun j _ => on j, hd_on _ _ fun j _ => on j, hd_on _ _ fun j _ => on j]
  have e1 : L + (q + 1) * (L - A) = (L + q * (L - A)) + (L - A) := by rw [Nat.succ_mul]; omega
  rw [e1]
  refine List.ext_getElem? fun i => ?_
  by_cases h1 : i < L + q * (L - A)
  · rw [List.getElem?_append_left (by simpa using h1), List.getElem?_map, List.getElem?_map, List.getElem?_range h1, List.getElem?_range (by omega)]
  · rw [List.getElem?_append_right (by simpa using h1)]
    simp only [List.length_map, List.length_range]
    by_cases h2 : i < (L + q * (L - A)) + (L - A)
    · rw [List.getElem?_drop, List.getElem?_map, List.getElem?_map, List.getElem?_range (by omega), List.getElem?_range h2]
      simp only [Option.map_some, Option.some.injEq]
      have a1 := lp i (by omega)
      have a2 : (i - A) % (L - A) = i - (L + q * (L - A)) := by
        have : i - A = (i - (L + q * (L - A))) + (q + 1) * (L - A) := by rw [Nat.succ_mul]; omega
        rw [this, Nat.add_mul_mod_self_right, Nat.mod_eq_of_lt (by omega)]
      rw [a1, a2]
    · rw [List.getElem?_eq_none (by simp; omega), List.getElem?_eq_none (by simp; omega)]
theorem on_true {r n t} (h3 : r.length ≤ 3) (h0 : 0 ≤ n) (hn : n ≤ 1000) (hc : en r n t = .caught) : On (nxt true r n) n (t, fresh r) := by
  intro k
  rw [agr_itr k t _ _ (agr_fresh r)]
  exact on_caught h3 h0 hn hc k
theorem cr_len {al r n t} (h3 : r.length ≤ 3) (h0 : 0 ≤ n) (hn : n ≤ 100) : (cr al r n t).2.1.length ≤ 800 := by
  obtain ⟨nd, hg⟩ := runH_h (f := nxt al r n) (n := n) (L := r.length) (nxt_len r n) 1000000 (t, fresh r) [] (cr al r n t) (by simp [fresh]) (by simp) (by simp) (cr_eq h3 (by omega))
  have := good_le nd hg
  have : 2 ^ r.length ≤ 2 ^ 3 := Nat.pow_le_pow_right (by omega) h3
  have : n.toNat * 2 ^ r.length ≤ 100 * 2 ^ 3 := Nat.mul_le_mul (by omega) this
  omega
end G.M
/-! Mt12: records told back: does it sound so; two sounds that agree for long agree for ever; the least of rows. -/
namespace G.M
/-- does it go on so -/
def so (f : St → St) : St → List Int → Bool
  | _, [] => true
  | s, v :: vs => decide ((f s).1 = v) && so f (f s) vs
theorem so_hd {f : St → St} {n : Int} : ∀ (vs : List Int) (s : St), (∀ v ∈ vs, 0 ≤ v ∧ v < n) → so f s vs = decide (hd f n vs.length (f s) = vs) := by
  intro vs
  induction vs with
  | nil => intro s _; simp [so, hd]
  | cons v vs ih =>
    intro s h
    have h0 := h v (by simp)
    rw [List.length_cons, hd_succ]
    unfold so
    rw [ih (f s) fun x hx => h x (by simp [hx])]
    by_cases e : (f s).1 = v
    · rw [if_pos (by rw [e]; exact h0)]
      simp [e]
    · by_cases o : 0 ≤ (f s).1 ∧ (f s).1 < n
      · rw [if_pos o]; simp [e]
      · rw [if_neg o]; simp [e]
/-- the whole told value, its first turn with it -/
theorem so_all {f : St → St} {n : Int} {s : St} (v : Int) (vs : List Int) (hs : s.1 = v) (h : ∀ x ∈ v :: vs, 0 ≤ x ∧ x < n) : so f s vs = decide (hd f n (v :: vs).length s = v :: vs) := by
  rw [List.length_cons, hd_succ, so_hd vs s fun x hx => h x (by simp [hx])]
  have h0 := h v (by simp)
  rw [if_pos (by rw [hs]; exact h0), hs]
  simp
theorem fw {x y : Nat → Int} {A B p q N : Nat} (hx : ∀ k, A ≤ k → x (k + p) = x k) (hy : ∀ k, B ≤ k → y (k + q) = y k) (h : ∀ k, k < N → x k = y k) (h1 : A + p + q ≤ N) (h2 : B + p + q ≤ N) (hp : 0 < p) (hq : 0 < q) : ∀ k, x k = y k := by
  intro k
  induction k using Nat.strongRecOn with
  | ind k ih =>
    by_cases hk : k < N
    · exact h k hk
    · have a1 := hx (k - p) (by omega)
      have a2 := hy (k - p - q) (by omega)
      have a3 := hx (k - p - q) (by omega)
      have a4 := hy (k - q) (by omega)
      have b1 := ih (k - p) (by omega)
      have b2 := ih (k - p - q) (by omega)
      have b3 := ih (k - q) (by omega)
      rw [show k - p + p = k by omega] at a1
      rw [show k - p - q + q = k - p by omega] at a2
      rw [show k - p - q + p = k - q by omega] at a3
      rw [show k - q + q = k by omega] at a4
      omega
theorem cr_bd {al r n t} (h3 : r.length ≤ 3) (h0 : 0 ≤ n) (hn : n ≤ 100) : (cr al r n t).2.1.length ≤ 8 * n.toNat := by
  obtain ⟨nd, hg⟩ := runH_h (f := nxt al r n) (n := n) (L := r.length) (nxt_len r n) 1000000 (t, fresh r) [] (cr al r n t) (by simp [fresh]) (by simp) (by simp) (cr_eq h3 (by omega))
  have := good_le nd hg
  have : 2 ^ r.length ≤ 2 ^ 3 := Nat.pow_le_pow_right (by omega) h3
  have : n.toNat * 2 ^ r.length ≤ n.toNat * 2 ^ 3 := Nat.mul_le_mul (by omega) this
  omega
/-- a caught run comes again -/
theorem again {r : Rc} {n t : Int} (h3 : r.length ≤ 3) (hn : n ≤ 1000) (hc : en r n t = .caught) : (cr false r n t).2.2 < (cr false r n t).2.1.length ∧
    ∀ k, (cr false r n t).2.2 ≤ k → (itr (nxt false r n) (k + ((cr false r n t).2.1.length - (cr false r n t).2.2)) (t, fresh r)).1 = (itr (nxt false r n) k (t, fresh r)).1 := by
  obtain ⟨hp, hi, hl⟩ := runH_path (t, fresh r) 1000000 (t, fresh r) [] (cr false r n t) (by intro j hj; simp at hj) rfl (cr_eq (al := false) (t := t) h3 hn) hc
  refine ⟨hi, fun k hk => ?_⟩
  have e : k + ((cr false r n t).2.1.length - (cr false r n t).2.2) = (cr false r n t).2.1.length + (k - (cr false r n t).2.2) := by omega
  rw [e, itr_add, hl, ← itr_add]
  congr 3
  omega
theorem hd_all {r : Rc} {n t : Int} (h3 : r.length ≤ 3) (h0 : 0 ≤ n) (hn : n ≤ 1000) (hc : en r n t = .caught) (m : Nat) : hd (nxt false r n) n m (t, fresh r) = (List.range m).map fun j => (itr (nxt false r n) j (t, fresh r)).1 :=
  hd_on m _ fun j _ => on_caught h3 h0 hn hc j
/-- first turns that agree for long -/
theorem far_eq {r r' : Rc} {n t : Int} (h3 : r.length ≤ 3) (h3' : r'.length ≤ 3) (h0 : 0 ≤ n) (hn : n ≤ 100) (hc : en r n t = .caught) (hc' : en r' n t = .caught) :
    decide (hd (nxt false r n) n (16 * n.toNat) (t, fresh r) = hd (nxt false r' n) n (16 * n.toNat) (t, fresh r')) = decide (hd (nxt false r n) n (18 * n.toNat) (t, fresh r) = hd (nxt false r' n) n (18 * n.toNat) (t, fresh r')) := by
  obtain ⟨i1, p1⟩ := again h3 (by omega) hc
  obtain ⟨i2, p2⟩ := again h3' (by omega) hc'
  have b1 := cr_bd (al := false) (t := t) h3 h0 hn
  have b2 := cr_bd (al := false) (t := t) h3' h0 hn
  congr 1
  refine propext ⟨fun e => ?_, fun e => ?_⟩
  · rw [hd_all h3 h0 (by omega) hc, hd_all h3' h0 (by omega) hc'] at e ⊢
    have all := fw (x := fun k => (itr (nxt false r n) k (t, fresh r)).1) (y := fun k => (itr (nxt false r' n) k (t, fresh r')).1) (A := (cr false r n t).2.2) (B := (cr false r' n t).2.2) (p := (cr false r n t).2.1.length - (cr false r n t).2.2) (q := (cr false r' n t).2.1.length - (cr false r' n t).2.2) p1 p2 (N := 16 * n.toNat) (fun k hk => by
      have := congrArg (fun l => l[k]?) e
      simp only [List.getElem?_map, List.getElem?_range hk, Option.map_some, Option.some.injEq] at this
      exact this) (by omega) (by omega) (by omega) (by omega)
    exact List.map_congr_left fun k _ => all k
  · rw [hd_take _ _ (16 * n.toNat) (18 * n.toNat) _ (by omega), hd_take (nxt false r' n) _ (16 * n.toNat) (18 * n.toNat) _ (by omega), e]
theorem hd_len_on {r : Rc} {n t : Int} (h3 : r.length ≤ 3) (h0 : 0 ≤ n) (hn : n ≤ 1000) (hc : en r n t = .caught) (m : Nat) : (hd (nxt false r n) n m (t, fresh r)).length = m := by
  rw [hd_all h3 h0 hn hc]; simp
/-- not caught: all of it is short -/
theorem hd_short {r : Rc} {n t : Int} (h3 : r.length ≤ 3) (h0 : 0 ≤ n) (hn : n ≤ 100) (hc : en r n t ≠ .caught) (m : Nat) (hm : 8 * n.toNat ≤ m) : hd (nxt false r n) n m (t, fresh r) = pos (cr false r n t) := by
  have b := cr_bd (al := false) (t := t) h3 h0 hn
  rw [pos_all (cr_eq (al := false) (t := t) h3 (by omega)) hc, List.take_of_length_le (by rw [pos_len]; omega)]
/-- the ring again and again -/
theorem reps {f : St → St} {n : Int} {k s v} (e : runH f n k s [] = some v) (hc : v.1 = .caught) (on : ∀ j, 0 ≤ (itr f j s).1 ∧ (itr f j s).1 < n) (q : Nat) :
    (pos v).take v.2.2 ++ (List.replicate (q + 1) ((pos v).drop v.2.2)).flatten = hd f n (v.2.1.length + q * (v.2.1.length - v.2.2)) s := by
  obtain ⟨hi, hm⟩ := pos_more e hc on
  induction q with
  | zero =>
    rw [Nat.zero_mul, Nat.add_zero v.2.1.length, ← pos_hd e]
    simp
  | succ q ih =>
    rw [← hm q, ← ih, List.append_assoc]
    congr 1
    rw [List.replicate_succ', List.flatten_append]
    simp
/-- what tells all that is heard -/
def snd (r : Rc) (n t : Int) : Bool × List Int := if en r n t = .caught then (true, hd (nxt false r n) n (16 * n.toNat) (t, fresh r)) else (false, pos (cr false r n t))
/-- the law's own -/
def lsn (r : Rc) (n t : Int) : List Int := hd (nxt true r n) n (18 * n.toNat) (t, fresh r)
theorem lsn_eq (r : Rc) (n t : Int) : lsn r n t = hd (nxt false r n) n (18 * n.toNat) (t, fresh r) := hd_agr _ _ _ _ (agr_fresh r)
theorem snd_eq {r r' : Rc} {n t : Int} (h3 : r.length ≤ 3) (h3' : r'.length ≤ 3) (h1 : 1 ≤ n) (hn : n ≤ 100) : decide (snd r n t = snd r' n t) = decide (lsn r n t = lsn r' n t) := by
  rw [lsn_eq, lsn_eq]
  unfold snd
  by_cases hc : en r n t = .caught <;> by_cases hc' : en r' n t = .caught
  · rw [if_pos hc, if_pos hc', ← far_eq h3 h3' (by omega) hn hc hc']
    simp only [Prod.mk.injEq, true_and]
  · rw [if_pos hc, if_neg hc', decide_eq_false (by simp), hd_short h3' (by omega) hn hc' _ (by omega)]
    refine (decide_eq_false fun z => ?_).symm
    have l1 := hd_len_on h3 (by omega) (by omega) hc (18 * n.toNat)
    have l2 := cr_bd (al := false) (t := t) h3' (by omega) hn
    rw [z, pos_len] at l1
    omega
  · rw [if_neg hc, if_pos hc', decide_eq_false (by simp), hd_short h3 (by omega) hn hc _ (by omega)]
    refine (decide_eq_false fun z => ?_).symm
    have l1 := hd_len_on h3' (by omega) (by omega) hc' (18 * n.toNat)
    have l2 := cr_bd (al := false) (t := t) h3 (by omega) hn
    rw [← z, pos_len] at l1
    omega
  · rw [if_neg hc, if_neg hc', hd_short h3 (by omega) hn hc _ (by omega), hd_short h3' (by omega) hn hc' _ (by omega)]
    simp only [Prod.mk.injEq, true_and]
theorem hd_in (f : St → St) (n : Int) : ∀ m s, ∀ v ∈ hd f n m s, 0 ≤ v ∧ v < n := by
  intro m
  induction m with
  | zero => intro s v hv; simp [hd] at hv
  | succ m ih =>
    intro s v hv
    rw [hd_succ] at hv
    split at hv
    · rename_i o
      rcases List.mem_cons.1 hv with rfl | hv
      · exact o
      · exact ih _ _ hv
    · simp at hv
end G.M
/-! Enc: records, places and states as data; how the evaluator is worked. -/
namespace G
open PySem
open G.M (Pl Sc Rc St En)

theorem ofS_inj (a b : String) : (Str.ofString a = Str.ofString b) = (a = b) := by
  refine propext ⟨fun h => ?_, fun h => h ▸ rfl⟩
  rw [Str.ofString_eq_toList, Str.ofString_eq_toList] at h
  simp only [Str.mk.injEq, List.toArray_inj] at h
  have h2 : ∀ x y : List Char, x.map Char.toNat = y.map Char.toNat → x = y := by
    intro x
    induction x with
    | nil => intro y e; cases y with
      | nil => rfl
      | cons _ _ => simp at e
    | cons c x ih => intro y e; cases y with
      | nil => simp at e
      | cons d y =>
        simp only [List.map_cons, List.cons.injEq] at e
        rw [ih y e.2, Char.ext (UInt32.toNat_inj.1 e.1)]
  exact String.toList_inj.1 (h2 _ _ (by simpa using congrArg Array.toList h))
theorem ofS_ok (a : String) : (Str.ofString a).cps.all (· < 0x110000) = true := by
  rw [Str.ofString_eq_toList]
  simp only [List.size_toArray, List.length_map, List.all_toArray', List.all_map, List.all_eq_true, Function.comp, decide_eq_true_eq]
  intro c _
  rcases c.valid with h | h
  · show c.val.toNat < _
    have : c.val.toNat < 0xd800 := h
    omega
  · show c.val.toNat < _
    have : c.val.toNat < 0x110000 := h.2
    omega
def wS (b : Bool) : Str := if b then "rim" else "mid"
def wE : En → Str
  | .out => "out"
  | .off => "off"
  | .caught => "caught"
def dPl (p : Pl) : D := .tup [.str (wS p.rim), .int p.p]
def dEv (e : Bool) : D := .int (if e then 2 else 1)
def dSc (s : Sc) : D := .tup [dPl s.a, dPl s.b, .int s.j, dEv s.e]
def dRc (r : Rc) : D := .tup (r.map dSc)
def dMs (ms : List Bool) : D := .tup (ms.map .bl)
def dSt (s : St) : D := .tup [.int s.1, dMs s.2]
def dIs (xs : List Int) : List D := xs.map .int
theorem wS_ok (b : Bool) : (wS b).cps.all (· < 0x110000) = true := by unfold wS; split <;> exact ofS_ok _
theorem wE_ok (b : En) : (wE b).cps.all (· < 0x110000) = true := by cases b <;> exact ofS_ok _
theorem wS_rim (b : Bool) : (wS b = Str.ofString "rim") = (b = true) := by
  cases b <;> simp [wS, ofS_inj]
theorem wE_inj (a b : En) : (wE a = wE b) = (a = b) := by
  cases a <;> cases b <;> simp [wE, ofS_inj]
theorem eqs_map {α : Type} [DecidableEq α] (f : α → D) (h : ∀ a b, D.eq (f a) (f b) = decide (a = b)) : ∀ xs ys : List α, D.eqs (xs.map f) (ys.map f) = decide (xs = ys) := by
  intro xs
  induction xs with
  | nil => intro ys; cases ys <;> simp [D.eqs]
  | cons x xs ih => intro ys; cases ys with
    | nil => simp [D.eqs]
    | cons y ys => simp [D.eqs, h, ih, Bool.decide_and]
theorem eq_ms (a b : List Bool) : D.eq (dMs a) (dMs b) = decide (a = b) := by
  unfold dMs; rw [D.eq]; exact eqs_map _ (by intro a b; cases a <;> cases b <;> rfl) a b
theorem eq_st (a b : St) : D.eq (dSt a) (dSt b) = decide (a = b) := by
  obtain ⟨t, m⟩ := a; obtain ⟨u, l⟩ := b
  simp only [dSt, D.eq, D.eqs, eq_ms, Bool.and_true, Prod.mk.injEq, Bool.decide_and]
  congr 1
theorem keys_map {α : Type} (f : α → D) (n : Nat) (h : ∀ a, D.keyIn n (f a) = true) : ∀ xs : List α, D.keysIn n (xs.map f) = true := by
  intro xs
  induction xs with
  | nil => rfl
  | cons x xs ih => simp only [List.map_cons, D.keysIn, h, ih, Bool.and_true]
theorem key_st (s : St) : D.key (dSt s) = true := by
  simp only [D.key, dSt, dMs, D.isTup, D.keyIn, D.keysIn, Bool.true_and, Bool.and_true]
  exact keys_map _ _ (by intro a; rfl) _
theorem shps_map {α : Type} (f : α → D) (n : Nat) (h : ∀ a, D.shp n (f a) = true) : ∀ xs : List α, D.shps n (xs.map f) = true := by
  intro xs
  induction xs with
  | nil => simp [D.shps]
  | cons x xs ih => simp only [List.map_cons, D.shps, h, ih, Bool.and_true]
theorem shp_int (n i) : D.shp n (.int i) = true := by cases n <;> simp only [D.shp]
theorem shp_bl (n i) : D.shp n (.bl i) = true := by cases n <;> simp only [D.shp]
theorem shp_non (n) : D.shp n .non = true := by cases n <;> simp only [D.shp]
theorem shp_wS (n b) : D.shp n (.str (wS b)) = true := by cases n <;> simp only [D.shp, wS_ok]
theorem shp_wE (n b) : D.shp n (.str (wE b)) = true := by cases n <;> simp only [D.shp, wE_ok]
theorem shp_S (n b) : D.shp n (.str (Str.ofString b)) = true := by cases n <;> simp only [D.shp, ofS_ok]
theorem shp_dPl (n p) : D.shp (n + 1) (dPl p) = true := by simp only [dPl, D.shp, D.shps, wS_ok, shp_wS, shp_int, Bool.and_true]

/-! ### the tactic that works the evaluator -/
theorem lift_some {S α : Type} (a : α) (s : S) : lift (some a) s = .ok a s := rfl
theorem lift_none {S α : Type} (s : S) : lift (none : Option α) s = .no := rfl
theorem bnd_ok {S α β : Type} (a : α) (s : S) (f : α → S → Out S β) : (Out.ok a s).bind f = f a s := rfl
theorem bind_ex {S α β : Type} (c : Exn) (s : S) (f : α → S → Out S β) : (Out.ex c s : Out S α).bind f = .ex c s := rfl
theorem bind_no {S α β : Type} (f : α → S → Out S β) : (Out.no : Out S α).bind f = .no := rfl
theorem bind_ite {S α β : Type} {p : Prop} [Decidable p] (x y : Out S α) (f : α → S → Out S β) : (if p then x else y).bind f = if p then x.bind f else y.bind f := by split <;> rfl
theorem lift_ite {S α : Type} {p : Prop} [Decidable p] (x y : Option α) (s : S) : lift (if p then x else y) s = if p then lift x s else lift y s := by split <;> rfl
end G
/-! Ev: loops and comprehensions of the evaluator, in one piece. -/
namespace G
open PySem
/-- a slot that holds data, or nothing yet -/
def osl : Option D → Sl
  | none => .no
  | some d => .ro d
def frS : Sl → Bool
  | .ow true _ => false
  | _ => true
def noS : Sl → Bool
  | .ow _ _ => false
  | _ => true
theorem free_zero (s : Sl) (l : List Sl) : free (s :: l) 0 = frS s := by
  rcases s with _ | _ | ⟨b, _⟩
  · rfl
  · rfl
  · cases b <;> rfl
theorem free_succ (s : Sl) (l : List Sl) (i : Nat) : free (s :: l) (i + 1) = free l i := by simp [free]
theorem notOwn_zero (s : Sl) (l : List Sl) : notOwn (s :: l) 0 = noS s := by cases s <;> simp [notOwn, noS]
theorem notOwn_succ (s : Sl) (l : List Sl) (i : Nat) : notOwn (s :: l) (i + 1) = notOwn l i := by simp [notOwn]
theorem frS_ro (d) : frS (.ro d) = true := rfl
theorem frS_no : frS .no = true := rfl
theorem frS_ow (b o) : frS (.ow b o) = !b := by cases b <;> rfl
theorem frS_osl (a) : frS (osl a) = true := by cases a <;> rfl
theorem noS_ro (d) : noS (.ro d) = true := rfl
theorem noS_no : noS .no = true := rfl
theorem noS_ow (b o) : noS (.ow b o) = false := by cases b <;> rfl
theorem noS_osl (a) : noS (osl a) = true := by cases a <;> rfl
theorem osl_some (d) : osl (some d) = Sl.ro d := rfl
theorem osl_none : osl none = Sl.no := rfl
theorem fre_set {δ : Env} {v : Nat} (h : v < δ.length) (s : Sl) : free (δ.set v s) v = frS s := by
  rcases s with _ | _ | ⟨b, _⟩
  · simp [free, frS, h]
  · simp [free, frS, h]
  · cases b <;> simp [free, frS, h]
theorem asD_d (x : D) : asD (.d x) = some x := rfl
theorem asBl_d (x : Bool) : asBl (.d (.bl x)) = some x := rfl
theorem comp1 {T : List Fn} {v : Nat} {it elt : E} {δ : Env} {xs : List D} (h : D → D) (hit : evi T it δ = .ok xs δ) (hv : notOwn δ v = true) (hlt : v < δ.length) (hl : xs.length ≤ big)
    (hE : ∀ x ∈ xs, ev T elt (δ.set v (.ro x)) = .ok (.d (h x)) (δ.set v (.ro x))) : ev T (.comp [v] [v] it elt) δ = .ok (.d (.lst (xs.map h))) δ := by
  have key : ∀ (ys : List D) (acc : List D) (s : Sl), (∀ x ∈ ys, x ∈ xs) → ∃ s', compL (fun x δ' => (lift (bindC [v] x (wipeE δ' [v])) δ').bind fun δ1 _ => (ev T elt δ1).bind fun y δ2 => (lift (asD y) δ2).bind fun y δ => .ok (some y) δ) ys acc (δ.set v s) = .ok (acc ++ ys.map h) (δ.set v s') := by
    intro ys
    induction ys with
    | nil => intro acc s _; exact ⟨s, by simp [compL]⟩
    | cons y ys ih =>
      intro acc s hm
      have h1 : bindC [v] y (wipeE (δ.set v s) [v]) = some (δ.set v (.ro y)) := by
        simp only [bindC, wipeE, List.set_set, setRo]
        rw [fre_set hlt]
        simp [frS_no]
      simp only [compL, h1, lift_some, bnd_ok, hE y (hm y (by simp)), asD_d]
      obtain ⟨s', e⟩ := ih (acc ++ [h y]) (.ro y) (fun x hx => hm x (by simp [hx]))
      exact ⟨s', by rw [e]; simp⟩
  simp only [ev, hit, bnd_ok]
  rw [if_pos ⟨by simp [hv], hl⟩]
  obtain ⟨s', e⟩ := key xs [] δ[v] (fun _ h => h)
  rw [List.set_getElem_self] at e
  rw [e, bnd_ok]
  simp only [List.nil_append, restE, List.set_set, List.getElem?_eq_getElem hlt]
  rw [List.set_getElem_self]
theorem compc1 {T : List Fn} {v : Nat} {it c elt : E} {δ : Env} {xs : List D} (p : D → Bool) (h : D → D) (hit : evi T it δ = .ok xs δ) (hv : notOwn δ v = true) (hlt : v < δ.length) (hl : xs.length ≤ big)
    (hC : ∀ x ∈ xs, ev T c (δ.set v (.ro x)) = .ok (.d (.bl (p x))) (δ.set v (.ro x)))
    (hE : ∀ x ∈ xs, p x = true → ev T elt (δ.set v (.ro x)) = .ok (.d (h x)) (δ.set v (.ro x))) : ev T (.compc [v] [v] it c elt) δ = .ok (.d (.lst ((xs.filter p).map h))) δ := by
  have key : ∀ (ys : List D) (acc : List D) (s : Sl), (∀ x ∈ ys, x ∈ xs) → ∃ s', compL (fun x δ' => (lift (bindC [v] x (wipeE δ' [v])) δ').bind fun δ1 _ => (ev T c δ1).bind fun t δ2 => (lift (asBl t) δ2).bind fun t δ2 =>
        if t then (ev T elt δ2).bind fun y δ3 => (lift (asD y) δ3).bind fun y δ => .ok (some y) δ else .ok none δ2) ys acc (δ.set v s) = .ok (acc ++ (ys.filter p).map h) (δ.set v s') := by
    intro ys
    induction ys with
    | nil => intro acc s _; exact ⟨s, by simp [compL]⟩
    | cons y ys ih =>
      intro acc s hm
      have h1 : bindC [v] y (wipeE (δ.set v s) [v]) = some (δ.set v (.ro y)) := by
        simp only [bindC, wipeE, List.set_set, setRo]
        rw [fre_set hlt]
        simp [frS_no]
      cases hp : p y
      · simp only [compL, h1, lift_some, bnd_ok, hC y (hm y (by simp)), hp, asBl_d, Bool.false_eq_true, if_false]
        obtain ⟨s', e⟩ := ih acc (.ro y) (fun x hx => hm x (by simp [hx]))
        exact ⟨s', by rw [e]; simp [hp]⟩
      · simp only [compL, h1, lift_some, bnd_ok, hC y (hm y (by simp)), hp, asBl_d, if_true, hE y (hm y (by simp)) hp, asD_d]
        obtain ⟨s', e⟩ := ih (acc ++ [h y]) (.ro y) (fun x hx => hm x (by simp [hx]))
        exact ⟨s', by rw [e]; simp [hp]⟩
  simp only [ev, hit, bnd_ok]
  rw [if_pos ⟨by simp [hv], hl⟩]
  obtain ⟨s', e⟩ := key xs [] δ[v] (fun _ h => h)
  rw [List.set_getElem_self] at e
  rw [e, bnd_ok]
  simp only [List.nil_append, restE, List.set_set, List.getElem?_eq_getElem hlt]
  rw [List.set_getElem_self]
def enumF : Nat → List D → List D
  | _, [] => []
  | i, x :: xs => .tup [.int (i : Nat), x] :: enumF (i + 1) xs
theorem enumD_eq (xs : List D) : enumD xs = enumF 0 xs := by
  have : ∀ (xs : List D) (k : Nat), (List.range' k xs.length).zipWith (fun i x => D.tup [.int (i : Nat), x]) xs = enumF k xs := by
    intro xs
    induction xs with
    | nil => intro k; rfl
    | cons x xs ih => intro k; simp only [List.length_cons, List.range'_succ, List.zipWith_cons_cons, enumF, ih]
  unfold enumD
  rw [List.range_eq_range', this]
theorem blsD_map (l : List Bool) : blsD (l.map .bl) = some l := by
  induction l with
  | nil => rfl
  | cons b l ih => simp [blsD, ih]
theorem intsD_map (l : List Int) : intsD (l.map .int) = some l := by
  induction l with
  | nil => rfl
  | cons b l ih => simp [intsD, ih]
theorem strsD_map (l : List Str) : strsD (l.map .str) = some l := by
  induction l with
  | nil => rfl
  | cons b l ih => simp [strsD, ih]
theorem repD_one (x : D) (k : Nat) : repD [x] (k : Int) = List.replicate k x := by
  unfold repD
  simp only [Int.toNat_natCast]
  induction k with
  | zero => rfl
  | succ k ih => simp [List.replicate_succ, ih]
theorem bind_congr' {S α β : Type} {x x' : Out S α} {f : α → S → Out S β} (h : x = x') : x.bind f = x'.bind f := by rw [h]
section
variable {α β : Type} (a b : α) (l m : List α) (i j : Nat) (p q : Prop) (x y : Bool) (u v : Int)
theorem s1 : (a :: l)[0]? = some a := rfl
theorem s2 : (a :: l)[i + 1]? = l[i]? := rfl
theorem s3 : ([] : List α)[i]? = none := rfl
theorem s4 : (a :: l).set 0 b = b :: l := rfl
theorem s5 : (a :: l).set (i + 1) b = a :: l.set i b := rfl
theorem s6 (f : α → Bool) : (a :: l).all f = (f a && l.all f) := rfl
theorem s7 (f : α → Bool) : ([] : List α).all f = true := rfl
theorem s8 : (a :: l).length = l.length + 1 := rfl
theorem s9 : ([] : List α).length = 0 := rfl
theorem s10 : List.replicate (i + 1) a = a :: List.replicate i a := rfl
theorem s11 : List.replicate 0 a = [] := rfl
theorem s12 : (a :: l) ++ m = a :: (l ++ m) := rfl
theorem s13 : [] ++ m = m := rfl
theorem s14 : l ++ [] = l := List.append_nil l
theorem s15 : ([] : List α).Nodup = True := eq_true List.nodup_nil
theorem s16 : (a :: l).Nodup = (a ∉ l ∧ l.Nodup) := propext List.nodup_cons
theorem s17 : (a ∈ (b :: l)) = (a = b ∨ a ∈ l) := propext List.mem_cons
theorem s18 : (a ∈ ([] : List α)) = False := eq_false (by simp)
theorem s19 (f : α → β) : Option.map f (some a) = some (f a) := rfl
theorem s20 (f : α → β) : Option.map f none = none := rfl
theorem s21 : (x && true) = x := Bool.and_true x
theorem s22 : (true && x) = x := Bool.true_and x
theorem s23 : (x && false) = false := Bool.and_false x
theorem s24 : (false && x) = false := Bool.false_and x
theorem s25 : (x || true) = true := Bool.or_true x
theorem s26 : (true || x) = true := Bool.true_or x
theorem s27 : (x || false) = x := Bool.or_false x
theorem s28 : (false || x) = x := Bool.false_or x
theorem s29 : (!true) = false := rfl
theorem s30 : (!false) = true := rfl
theorem s31 : (p ∧ True) = p := and_true p
theorem s32 : (True ∧ p) = p := true_and p
theorem s33 : (p ∧ False) = False := and_false p
theorem s34 : (False ∧ p) = False := false_and p
theorem s35 : (p ∨ False) = p := or_false p
theorem s36 : (False ∨ p) = p := false_or p
theorem s37 : (¬ False) = True := not_false_eq_true
theorem s38 : (¬ True) = False := not_true_eq_false
theorem s39 {_ : Decidable True} : decide True = true := decide_eq_true trivial
theorem s40 {_ : Decidable False} : decide False = false := decide_eq_false not_false
theorem s41 [Decidable p] : (decide p = true) = p := decide_eq_true_eq
theorem s42 [Decidable p] : (decide p = false) = ¬ p := by simp
theorem s43 {_ : Decidable True} : (if True then a else b) = a := if_pos trivial
theorem s44 {_ : Decidable False} : (if False then a else b) = b := if_neg not_false
theorem s45 : (false = true) = False := by simp
theorem s46 : (true = false) = False := by simp
theorem s47 : (a = a) = True := eq_self a
theorem s48 : ((!x) = true) = (x = false) := by cases x <;> simp
theorem s49 : ((!x) = false) = (x = true) := by cases x <;> simp
theorem s50 : ((u == v) = true) = (u = v) := by simp
theorem s51 : ((u == v) = false) = (u ≠ v) := by simp
theorem s52 : (u == u) = true := by simp
theorem s53 : (¬ (p ∧ q)) = (p → ¬ q) := by simp
theorem s54 : (a ≠ b) = ¬ (a = b) := rfl
theorem s55 : (((OfNat.ofNat i : Nat)) : Int) = OfNat.ofNat i := rfl
theorem s56 {_ : Decidable (x = true)} : decide (x = true) = x := by simp
theorem s57 {_ : Decidable (x = false)} : decide (x = false) = !x := by cases x <;> simp
theorem s58 : (0 + i) = i := Nat.zero_add i
theorem s59 (f : α → β) : (l.map f).length = l.length := by simp
theorem s60 : (i ≤ i) = True := by simp
theorem s61 : (0 ≤ (i : Int)) = True := by simp
theorem s62 : ((i : Int).toNat) = i := by simp
theorem s63 : ((x && y) = true) = (x = true ∧ y = true) := by simp
theorem s64 : ((x || y) = true) = (x = true ∨ y = true) := by simp
end
theorem v_add (i j : Int) : binv .add (.int i) (.int j) = some (.int (i + j)) := rfl
theorem v_sub (i j : Int) : binv .sub (.int i) (.int j) = some (.int (i - j)) := rfl
theorem v_mul (i j : Int) : binv .mul (.int i) (.int j) = if mulOk i j = true then some (.int (i * j)) else none := rfl
theorem v_fdiv (i j : Int) : binv .fdiv (.int i) (.int j) = if j ≠ 0 ∧ j.natAbs < 1073741824 then some (.int (i.fdiv j)) else none := rfl
theorem v_mod (i j : Int) : binv .mod (.int i) (.int j) = if j ≠ 0 then some (.int (i.fmod j)) else none := rfl
theorem v_addT {a b : List D} (h : a.length + b.length ≤ big) : binv .add (.tup a) (.tup b) = some (.tup (a ++ b)) := by simp [binv, h]
theorem v_addL {a b : List D} (h : a.length + b.length ≤ big) : binv .add (.lst a) (.lst b) = some (.lst (a ++ b)) := by simp [binv, h]
theorem cut_to {α : Type} (xs : List α) (i : Nat) : cut xs none (some (i : Int)) = xs.take i := by
  unfold cut bnd
  have : ¬ ((i : Int) < 0) := by omega
  simp only [this, if_false, Int.toNat_natCast, List.drop_zero, Nat.sub_zero]
  rcases Nat.le_total i xs.length with h | h
  · rw [Nat.min_eq_left h]
  · rw [Nat.min_eq_right h, List.take_length, List.take_of_length_le h]
theorem cut_from {α : Type} (xs : List α) (i : Nat) : cut xs (some (i : Int)) none = xs.drop i := by
  unfold cut bnd
  have : ¬ ((i : Int) < 0) := by omega
  simp only [this, if_false, Int.toNat_natCast]
  rcases Nat.le_total i xs.length with h | h
  · rw [Nat.min_eq_left h]; exact List.take_of_length_le (by simp)
  · rw [Nat.min_eq_right h]; simp [List.drop_of_length_le h]
theorem sl_toT (xs : List D) (i : Nat) : slv (.tup xs) none (some (i : Int)) = some (.tup (xs.take i)) := by simp only [slv, cut_to]
theorem sl_toL (xs : List D) (i : Nat) : slv (.lst xs) none (some (i : Int)) = some (.lst (xs.take i)) := by simp only [slv, cut_to]
theorem sl_fromT (xs : List D) (i : Nat) : slv (.tup xs) (some (i : Int)) none = some (.tup (xs.drop i)) := by simp only [slv, cut_from]
theorem sl_fromL (xs : List D) (i : Nat) : slv (.lst xs) (some (i : Int)) none = some (.lst (xs.drop i)) := by simp only [slv, cut_from]
theorem sl_fromT1 (xs : List D) (i : Nat) : slv (.tup xs) (some ((i : Int) + 1)) none = some (.tup (xs.drop (i + 1))) := sl_fromT xs (i + 1)
theorem sl_fromL1 (xs : List D) (i : Nat) : slv (.lst xs) (some ((i : Int) + 1)) none = some (.lst (xs.drop (i + 1))) := sl_fromL xs (i + 1)
theorem rg1 {n : Nat} (h : n ≤ big) : rg1R (.d (.int n)) = some (rangeD 0 n) := by
  exact if_pos (by omega)
theorem rg2 {i j : Int} (h1 : -(big : Int) ≤ i) (h2 : i ≤ big) (h3 : -(big : Int) ≤ j) (h4 : j ≤ big) : rg2R (.d (.int i)) (.d (.int j)) = some (rangeD i (j - i).toNat) := by
  exact if_pos ⟨h1, h2, h3, h4⟩
theorem atL (xs : List D) (i : Nat) : atD xs (i : Int) = xs[i]? := by simp [atD]
theorem ixT0 (xs : List D) : idxv (.tup xs) (.int 0) = xs[0]? := atL xs 0
theorem ixT1 (xs : List D) : idxv (.tup xs) (.int 1) = xs[1]? := atL xs 1
theorem ixT2 (xs : List D) : idxv (.tup xs) (.int 2) = xs[2]? := atL xs 2
theorem ixT3 (xs : List D) : idxv (.tup xs) (.int 3) = xs[3]? := atL xs 3
theorem ixT4 (xs : List D) : idxv (.tup xs) (.int 4) = xs[4]? := atL xs 4
theorem ixT5 (xs : List D) : idxv (.tup xs) (.int 5) = xs[5]? := atL xs 5
theorem ixT6 (xs : List D) : idxv (.tup xs) (.int 6) = xs[6]? := atL xs 6
theorem ixL0 (xs : List D) : idxv (.lst xs) (.int 0) = xs[0]? := atL xs 0
theorem ixL1 (xs : List D) : idxv (.lst xs) (.int 1) = xs[1]? := atL xs 1
theorem ixL2 (xs : List D) : idxv (.lst xs) (.int 2) = xs[2]? := atL xs 2
theorem ixL3 (xs : List D) : idxv (.lst xs) (.int 3) = xs[3]? := atL xs 3
theorem ixL4 (xs : List D) : idxv (.lst xs) (.int 4) = xs[4]? := atL xs 4
theorem ixL5 (xs : List D) : idxv (.lst xs) (.int 5) = xs[5]? := atL xs 5
theorem ixL6 (xs : List D) : idxv (.lst xs) (.int 6) = xs[6]? := atL xs 6
theorem ixF0 (xs : List D) : idxv (.frz xs) (.int 0) = xs[0]? := atL xs 0
theorem ixF1 (xs : List D) : idxv (.frz xs) (.int 1) = xs[1]? := atL xs 1
theorem ixF2 (xs : List D) : idxv (.frz xs) (.int 2) = xs[2]? := atL xs 2
theorem ixF3 (xs : List D) : idxv (.frz xs) (.int 3) = xs[3]? := atL xs 3
theorem ixF4 (xs : List D) : idxv (.frz xs) (.int 4) = xs[4]? := atL xs 4
theorem ixF5 (xs : List D) : idxv (.frz xs) (.int 5) = xs[5]? := atL xs 5
theorem ixF6 (xs : List D) : idxv (.frz xs) (.int 6) = xs[6]? := atL xs 6
theorem ixTn (xs : List D) (n : Nat) : idxv (.tup xs) (.int n) = xs[n]? := atL xs n
theorem ixLn (xs : List D) (n : Nat) : idxv (.lst xs) (.int n) = xs[n]? := atL xs n
theorem ixFn (xs : List D) (n : Nat) : idxv (.frz xs) (.int n) = xs[n]? := atL xs n
section
variable (T : List Fn) (a b c : E) (δ : G.Env) (i k : Nat) (d : D) (x : Str) (o' : Bop) (o p : Cop) (t : Blt) (m : Mth)
theorem eR0 : evR T (.var i) δ = (ev T (.var i) δ).bind fun x δ => lift (rtR δ x) δ := rfl
theorem eR1 : evR T (.lit d) δ = (ev T (.lit d) δ).bind fun x δ => lift (rtR δ x) δ := rfl
theorem eR2 : evR T (.con x d) δ = (ev T (.con x d) δ).bind fun x δ => lift (rtR δ x) δ := rfl
theorem eR3 : evR T (.bin o' a b) δ = (ev T (.bin o' a b) δ).bind fun x δ => lift (rtR δ x) δ := rfl
theorem eR4 : evR T (.neg a) δ = (ev T (.neg a) δ).bind fun x δ => lift (rtR δ x) δ := rfl
theorem eR5 : evR T (.not a) δ = (ev T (.not a) δ).bind fun x δ => lift (rtR δ x) δ := rfl
theorem eR6 : evR T (.cmp o a b) δ = (ev T (.cmp o a b) δ).bind fun x δ => lift (rtR δ x) δ := rfl
theorem eR7 : evR T (.chn o p a b c) δ = (ev T (.chn o p a b c) δ).bind fun x δ => lift (rtR δ x) δ := rfl
theorem eR8 : evR T (.and a b) δ = (ev T (.and a b) δ).bind fun x δ => lift (rtR δ x) δ := rfl
theorem eR9 : evR T (.or a b) δ = (ev T (.or a b) δ).bind fun x δ => lift (rtR δ x) δ := rfl
theorem eR10 : evR T (.ifx a b c) δ = (ev T (.ifx a b c) δ).bind fun x δ => lift (rtR δ x) δ := rfl
theorem eR11 : evR T (.idx a b) δ = (ev T (.idx a b) δ).bind fun x δ => lift (rtR δ x) δ := rfl
theorem eR12 : evR T (.sl a b c) δ = (ev T (.sl a b c) δ).bind fun x δ => lift (rtR δ x) δ := rfl
theorem eR13 : evR T (.rev a) δ = (ev T (.rev a) δ).bind fun x δ => lift (rtR δ x) δ := rfl
theorem eR14 : evR T (.blt t a) δ = (ev T (.blt t a) δ).bind fun x δ => lift (rtR δ x) δ := rfl
theorem eR15 : evR T (.mth m a b) δ = (ev T (.mth m a b) δ).bind fun x δ => lift (rtR δ x) δ := rfl
theorem eR16 : evR T (.lrng a) δ = (ev T (.lrng a) δ).bind fun x δ => lift (rtR δ x) δ := rfl
theorem eR17 : evR T (.trng a) δ = (ev T (.trng a) δ).bind fun x δ => lift (rtR δ x) δ := rfl
theorem eRlst : evR T (.lst a) δ = (evs T a δ).bind fun rs δ => (lift (datas rs) δ).bind fun ds δ => .ok (.fr (.lst ds)) δ := rfl
theorem eRtup : evR T (.tup a) δ = (evs T a δ).bind fun rs δ => if mine δ rs then (lift (vals δ rs) δ).bind fun ds δ => .ok (.d (.tup ds)) δ else .no := rfl
theorem eRcall : evR T (.call k a) δ = (evs T a δ).bind fun rs δ => callR T k rs δ := rfl
end
section
open G.M
variable (xs : List D) (x y : D) (i j : Int) (b b' : Bool) (s : Str) (r : Rc) (p : Pl) (q : St)
theorem bl1 : bltv .len [.tup xs] = some (.int xs.length) := rfl
theorem bl2 : bltv .len [.lst xs] = some (.int xs.length) := rfl
theorem bl3 : bltv .len [.frz xs] = some (.int xs.length) := rfl
theorem bl4 : bltv .abs [.int i] = some (.int (if i < 0 then -i else i)) := rfl
theorem bl5 : bltv .int [.int i] = some (.int i) := rfl
theorem bl6 : bltv .int [.bl b] = some (.int (if b then 1 else 0)) := rfl
theorem bl7 : bltv .bool [.bl b] = some (.bl b) := rfl
theorem bl8 : bltv .min2 [.int i, .int j] = some (.int (if j < i then j else i)) := rfl
theorem bl9 : bltv .max2 [.int i, .int j] = some (.int (if j > i then j else i)) := rfl
theorem bl10 : bltv .tuple [.tup xs] = some (.tup xs) := rfl
theorem bl11 : bltv .tuple [.lst xs] = some (.tup xs) := rfl
theorem bl12 : bltv .list [.tup xs] = some (.lst xs) := rfl
theorem bl13 : bltv .list [.lst xs] = some (.lst xs) := rfl
theorem bl14 : bltv .any [.lst xs] = (blsD xs).map fun l => .bl (l.any id) := rfl
theorem bl15 : bltv .all [.lst xs] = (blsD xs).map fun l => .bl (l.all id) := rfl
theorem bl16 : bltv .sum [.lst xs] = (intsD xs).map fun l => .int l.sum := rfl
theorem bl17 : bltv .sorted [.lst xs] = (intsD xs).map fun l => .lst ((sortI l).map .int) := rfl
theorem bl18 : bltv .sset [.lst xs] = (intsD xs).bind fun l => if xs.length ≤ 1000 ∧ (sortU l).length < 63 then some (.lst ((sortU l).map .int)) else none := rfl
theorem bli0 : bltv .isint [x] = some (.bl x.isInt) := rfl
theorem bli1 : bltv .isbool [x] = some (.bl x.isBl) := rfl
theorem bli2 : bltv .isstr [x] = some (.bl x.isStr) := rfl
theorem bli3 : bltv .istuple [x] = some (.bl x.isTup) := rfl
theorem bli4 : bltv .islist [x] = some (.bl x.isLst) := rfl
theorem k_isNon_non : D.isNon D.non = true := rfl
theorem k_isNon_bl : D.isNon (D.bl b) = false := rfl
theorem k_isNon_int : D.isNon (D.int i) = false := rfl
theorem k_isNon_str : D.isNon (D.str s) = false := rfl
theorem k_isNon_tup : D.isNon (D.tup xs) = false := rfl
theorem k_isNon_lst : D.isNon (D.lst xs) = false := rfl
theorem k_isNon_frz : D.isNon (D.frz xs) = false := rfl
theorem k_isInt_non : D.isInt D.non = false := rfl
theorem k_isInt_bl : D.isInt (D.bl b) = true := rfl
theorem k_isInt_int : D.isInt (D.int i) = true := rfl
theorem k_isInt_str : D.isInt (D.str s) = false := rfl
theorem k_isInt_tup : D.isInt (D.tup xs) = false := rfl
theorem k_isInt_lst : D.isInt (D.lst xs) = false := rfl
theorem k_isInt_frz : D.isInt (D.frz xs) = false := rfl
theorem k_isBl_non : D.isBl D.non = false := rfl
theorem k_isBl_bl : D.isBl (D.bl b) = true := rfl
theorem k_isBl_int : D.isBl (D.int i) = false := rfl
theorem k_isBl_str : D.isBl (D.str s) = false := rfl
theorem k_isBl_tup : D.isBl (D.tup xs) = false := rfl
theorem k_isBl_lst : D.isBl (D.lst xs) = false := rfl
theorem k_isBl_frz : D.isBl (D.frz xs) = false := rfl
theorem k_isStr_non : D.isStr D.non = false := rfl
theorem k_isStr_bl : D.isStr (D.bl b) = false := rfl
theorem k_isStr_int : D.isStr (D.int i) = false := rfl
theorem k_isStr_str : D.isStr (D.str s) = true := rfl
theorem k_isStr_tup : D.isStr (D.tup xs) = false := rfl
theorem k_isStr_lst : D.isStr (D.lst xs) = false := rfl
theorem k_isStr_frz : D.isStr (D.frz xs) = false := rfl
theorem k_isTup_non : D.isTup D.non = false := rfl
theorem k_isTup_bl : D.isTup (D.bl b) = false := rfl
theorem k_isTup_int : D.isTup (D.int i) = false := rfl
theorem k_isTup_str : D.isTup (D.str s) = false := rfl
theorem k_isTup_tup : D.isTup (D.tup xs) = true := rfl
theorem k_isTup_lst : D.isTup (D.lst xs) = false := rfl
theorem k_isTup_frz : D.isTup (D.frz xs) = false := rfl
theorem k_isLst_non : D.isLst D.non = false := rfl
theorem k_isLst_bl : D.isLst (D.bl b) = false := rfl
theorem k_isLst_int : D.isLst (D.int i) = false := rfl
theorem k_isLst_str : D.isLst (D.str s) = false := rfl
theorem k_isLst_tup : D.isLst (D.tup xs) = false := rfl
theorem k_isLst_lst : D.isLst (D.lst xs) = true := rfl
theorem k_isLst_frz : D.isLst (D.frz xs) = true := rfl
theorem k_flat_non : D.flat D.non = true := rfl
theorem k_flat_bl : D.flat (D.bl b) = true := rfl
theorem k_flat_int : D.flat (D.int i) = true := rfl
theorem k_flat_str : D.flat (D.str s) = true := rfl
theorem k_flat_tup : D.flat (D.tup xs) = false := rfl
theorem k_flat_lst : D.flat (D.lst xs) = false := rfl
theorem k_flat_frz : D.flat (D.frz xs) = false := rfl
theorem cm1 : cmpv .eq x y = if D.shp 60 x && D.shp 60 y then some (D.eq x y) else none := rfl
theorem cm2 : cmpv .ne x y = if D.shp 60 x && D.shp 60 y then some (!D.eq x y) else none := rfl
theorem cm3 : cmpv .lt (.int i) (.int j) = some (decide (i < j)) := rfl
theorem cm4 : cmpv .le (.int i) (.int j) = some (decide (i ≤ j)) := rfl
theorem cm5 : cmpv .gt (.int i) (.int j) = some (decide (j < i)) := rfl
theorem cm6 : cmpv .ge (.int i) (.int j) = some (decide (j ≤ i)) := rfl
theorem cm7 : cmpv .isin x (.tup xs) = if x.flat && xs.all D.flat then some (xs.any fun z => D.eq z x) else none := rfl
theorem cm8 : cmpv .isin x (.lst xs) = if x.flat && xs.all D.flat then some (xs.any fun z => D.eq z x) else none := rfl
theorem cm9 : cmpv .notin x (.tup xs) = if x.flat && xs.all D.flat then some (!xs.any fun z => D.eq z x) else none := rfl
theorem cm10 : cmpv .notin x (.lst xs) = if x.flat && xs.all D.flat then some (!xs.any fun z => D.eq z x) else none := rfl
theorem cm11 : cmpv .is x .non = some x.isNon := by cases x <;> rfl
theorem cm12 : cmpv .isnot x .non = some (!x.isNon) := by cases x <;> rfl
theorem cm13 : cmpv .is (.bl b) (.bl b') = some (decide (b = b')) := rfl
theorem cm14 : cmpv .isnot (.bl b) (.bl b') = some (!decide (b = b')) := rfl
theorem any0 {α : Type} (f : α → Bool) : ([] : List α).any f = false := rfl
theorem any1 {α : Type} (f : α → Bool) (a : α) (l : List α) : (a :: l).any f = (f a || l.any f) := rfl
theorem tRc : (dRc r).isTup = true := rfl
theorem lRc : bltv .len [dRc r] = some (.int r.length) := by simp only [dRc, bltv, List.length_map]
theorem tPl : (dPl p).isTup = true := rfl
theorem tSt : (dSt q).isTup = true := rfl
theorem nRc : (dRc r).isNon = false := rfl
theorem nPl : (dPl p).isNon = false := rfl
end
end G
/-! Ev2: what was seen, as a dict; courses as data. -/
namespace G
open PySem
open G.M (Pl Sc Rc St En)
def seenOf : Nat → List St → List (D × D)
  | _, [] => []
  | i, s :: h => (dSt s, .int (i : Nat)) :: seenOf (i + 1) h
theorem dget_seen (s : St) : ∀ (h : List St) (i : Nat), dget (dSt s) (seenOf i h) = if s ∈ h then some (.int ((i + h.idxOf s : Nat) : Int)) else none := by
  intro h
  induction h with
  | nil => intro i; simp [seenOf, dget]
  | cons a h ih =>
    intro i
    simp only [seenOf, dget, eq_st, ih]
    by_cases e : a = s
    · subst e; simp
    · have : ¬ s = a := fun x => e x.symm
      simp only [e, decide_false, Bool.false_eq_true, if_false, List.mem_cons, this, false_or]
      split
      · have : (a :: h).idxOf s = h.idxOf s + 1 := by
          rw [List.idxOf_cons]
          have : (a == s) = false := by simpa using e
          rw [this]; rfl
        rw [this]; congr 3; omega
      · rfl
theorem dput_seen (s : St) : ∀ (h : List St) (i : Nat), s ∉ h → dput (dSt s) (.int ((i + h.length : Nat) : Int)) (seenOf i h) = seenOf i (h ++ [s]) := by
  intro h
  induction h with
  | nil => intro i _; simp [seenOf, dput]
  | cons a h ih =>
    intro i hn
    simp only [List.mem_cons, not_or] at hn
    have e : ¬ a = s := fun x => hn.1 x.symm
    simp only [seenOf, dput, eq_st, e, decide_false, Bool.false_eq_true, if_false, List.cons_append]
    have := ih (i + 1) hn.2
    rw [show i + (a :: h).length = i + 1 + h.length by simp; omega, this]
theorem seen_len : ∀ (h : List St) (i : Nat), (seenOf i h).length = h.length := by
  intro h
  induction h with
  | nil => intro i; rfl
  | cons a h ih => intro i; simp [seenOf, ih]
def tOf (h : List St) : List D := h.map fun s => .int s.1
def dCo (v : En × List St × Nat) : D := if v.1 = .caught then .tup [.str (wE .caught), .lst ((tOf v.2.1).take v.2.2), .lst ((tOf v.2.1).drop v.2.2)] else .tup [.str (wE v.1), .lst (tOf v.2.1), .lst []]
theorem tOf_len (h : List St) : (tOf h).length = h.length := by simp [tOf]
theorem tOf_snoc (h : List St) (s : St) : tOf h ++ [.int s.1] = tOf (h ++ [s]) := by simp [tOf]
theorem max_if (a : Int) : (if 1 < a then a else 1) = max 1 a := by
  split <;> omega
theorem dCo0 (v) : idxv (dCo v) (.int 0) = some (.str (wE v.1)) := by
  unfold dCo
  split
  · rename_i h; rw [ixT0, s1, h]
  · rw [ixT0, s1]
theorem dCo_no {v : En × List St × Nat} (h : v.1 ≠ .caught) : dCo v = .tup [.str (wE v.1), .lst (tOf v.2.1), .lst []] := by unfold dCo; rw [if_neg h]
theorem dCo_yes {v : En × List St × Nat} (h : v.1 = .caught) : dCo v = .tup [.str (wE .caught), .lst ((tOf v.2.1).take v.2.2), .lst ((tOf v.2.1).drop v.2.2)] := by unfold dCo; rw [if_pos h]
theorem dCo_any (v) : ∃ a b, dCo v = .tup [.str (wE v.1), .lst a, .lst b] := by
  unfold dCo
  split
  · rename_i h; exact ⟨_, _, by rw [h]⟩
  · exact ⟨_, _, rfl⟩
theorem wE_caught (e : En) : (wE e = Str.ofString "caught") = (e = .caught) := wE_inj e .caught
theorem wE_out (e : En) : (wE e = Str.ofString "out") = (e = .out) := wE_inj e .out
theorem wE_off (e : En) : (wE e = Str.ofString "off") = (e = .off) := wE_inj e .off
theorem rangeD0 (n : Nat) : rangeD 0 n = (List.range n).map fun (i : Nat) => .int i := by simp [rangeD]
theorem mulOk_of {i j : Int} (h : -1000000 ≤ i) (h' : i ≤ 1000000) : mulOk i j = true := by
  unfold mulOk
  simp
  omega
theorem mulOk_of' {i j : Int} (h : -1000000 ≤ j) (h' : j ≤ 1000000) : mulOk i j = true := by
  unfold mulOk
  simp
  omega
end G
/-! Ev3: items and calendars as data. -/
namespace G
open PySem
open G.M (Pl Sc Rc St En It)
def dIt : It → D
  | .non => .non
  | .cau => .str (wE .caught)
  | .num k => .int k
theorem shp_dIt (n) (a : It) : D.shp n (dIt a) = true := by cases a <;> simp only [dIt, shp_non, shp_wE, shp_int]
theorem eq_dIt (a b : It) : D.eq (dIt a) (dIt b) = decide (a = b) := by
  cases a <;> cases b <;> simp [dIt, D.eq, M.It.num.injEq] <;> rfl
def dIts (G : Nat → It) (a n : Nat) : List D := (List.range' a n).map fun i => dIt (G i)
def dAg (G : Nat → It) (s : Nat) (a : Nat) : D := match G a, G (a + s) with
  | .num x, .num y => .tup [.int x, .int (y - x)]
  | b, _ => dIt b
def dCal (G : Nat → It) (s f : Nat) : D := .tup [.tup (dIts G 0 f), .tup ((List.range' f s).map (dAg G s))]
theorem get_dIts (G : Nat → It) {a n i : Nat} (h : i < n) : (dIts G a n)[i]? = some (dIt (G (a + i))) := by
  simp [dIts, List.getElem?_map, List.getElem?_range', h]
theorem dIts_len (G a n) : (dIts G a n).length = n := by simp [dIts]
theorem take_dIts (G : Nat → It) {a n k : Nat} (h : k ≤ n) : (dIts G a n).take k = dIts G a k := by
  unfold dIts
  rw [← List.map_take, show n = k + (n - k) by omega, ← List.range'_append_1, List.take_left' (by simp)]
theorem snoc_dIts (G : Nat → It) (a n : Nat) : dIts G a n ++ [dIt (G (a + n))] = dIts G a (n + 1) := by
  simp [dIts, List.range'_concat]
/-- a list that is handed in: data, or the caller's own -/
def hL (b : Bool) (xs : List D) : Sl := if b then .ow true (.lst xs) else .ro (.lst xs)
end G
/-! Ev4: the law's draws, its states. -/
namespace G
open PySem
open G.M (Pl Sc Rc St En It)
structure Src (a b : Int) : Prop where
  a0 : 0 ≤ a
  b0 : 0 ≤ b
  b1 : b < 2147483237
def dSrc (p : Bool) (a b : Int) : Sl := .ow p (.lst [.int a, .int b])
theorem fm0 {a b : Int} (h : 0 < b) : 0 ≤ a.fmod b := Int.fmod_nonneg_of_pos a h
theorem fm1 {a b : Int} (h : 0 < b) : a.fmod b < b := Int.fmod_lt_of_pos a h
theorem fd0 {a b : Int} (h : 0 ≤ a) (hb : 0 < b) : 0 ≤ a.fdiv b := Int.fdiv_nonneg h (by omega)
theorem fdle {a b : Int} (h : 0 ≤ a) (hb : 0 < b) : a.fdiv b ≤ a := by
  rw [Int.fdiv_eq_ediv_of_nonneg _ (by omega)]
  exact Int.ediv_le_self _ h
theorem v_pow17 : binv .pow (.int 10) (.int 17) = some (.int 100000000000000000) := by rfl
theorem v_pow30 : binv .pow (.int 10) (.int 30) = some (.int 1000000000000000000000000000000) := by rfl
theorem mulOk_r {i j : Int} (h : -(2 ^ 64) < j) (h' : j < 2 ^ 64) : mulOk i j = true := by
  unfold mulOk
  simp
  omega
theorem mulOk_l {i j : Int} (h : -(2 ^ 64) < i) (h' : i < 2 ^ 64) : mulOk i j = true := by
  unfold mulOk
  simp
  omega
/-- a state as the law keeps it: parities -/
def b2i (b : Bool) : Int := if b then 1 else 0
def dPa (ms : List Bool) : D := .tup (ms.map fun b => .int (b2i b))
def dSt2 (s : St) : D := .tup [.int s.1, dPa s.2]
theorem eq_pa (a b : List Bool) : D.eq (dPa a) (dPa b) = decide (a = b) := by
  unfold dPa; rw [D.eq]; exact eqs_map _ (by intro a b; cases a <;> cases b <;> rfl) a b
theorem eq_st2 (a b : St) : D.eq (dSt2 a) (dSt2 b) = decide (a = b) := by
  obtain ⟨t, m⟩ := a; obtain ⟨u, l⟩ := b
  simp only [dSt2, D.eq, D.eqs, eq_pa, Bool.and_true, Prod.mk.injEq, Bool.decide_and]
  congr 1
theorem key_st2 (s : St) : D.key (dSt2 s) = true := by
  simp only [D.key, dSt2, dPa, D.isTup, D.keyIn, D.keysIn, Bool.true_and, Bool.and_true]
  exact keys_map _ _ (by intro a; rfl) _
def seenL : Nat → List St → List (D × D)
  | _, [] => []
  | i, s :: h => (dSt2 s, .int (i : Nat)) :: seenL (i + 1) h
theorem dget_seenL (s : St) : ∀ (h : List St) (i : Nat), dget (dSt2 s) (seenL i h) = if s ∈ h then some (.int ((i + h.idxOf s : Nat) : Int)) else none := by
  intro h
  induction h with
  | nil => intro i; simp [seenL, dget]
  | cons a h ih =>
    intro i
    simp only [seenL, dget, eq_st2, ih]
    by_cases e : a = s
    · subst e; simp
    · have : ¬ s = a := fun x => e x.symm
      simp only [e, decide_false, Bool.false_eq_true, if_false, List.mem_cons, this, false_or]
      split
      · have : (a :: h).idxOf s = h.idxOf s + 1 := by
          rw [List.idxOf_cons]
          have : (a == s) = false := by simpa using e
          rw [this]; rfl
        rw [this]; congr 3; omega
      · rfl
theorem dput_seenL (s : St) : ∀ (h : List St) (i : Nat), s ∉ h → dput (dSt2 s) (.int ((i + h.length : Nat) : Int)) (seenL i h) = seenL i (h ++ [s]) := by
  intro h
  induction h with
  | nil => intro i _; simp [seenL, dput]
  | cons a h ih =>
    intro i hn
    simp only [List.mem_cons, not_or] at hn
    have e : ¬ a = s := fun x => hn.1 x.symm
    simp only [seenL, dput, eq_st2, e, decide_false, Bool.false_eq_true, if_false, List.cons_append]
    have := ih (i + 1) hn.2
    rw [show i + (a :: h).length = i + 1 + h.length by simp; omega, this]
theorem seenL_len : ∀ (h : List St) (i : Nat), (seenL i h).length = h.length := by
  intro h
  induction h with
  | nil => intro i; rfl
  | cons a h ih => intro i; simp [seenL, ih]
def dPy (v : En × List St × Nat) : D := .tup [.str (wE v.1), .lst (tOf v.2.1), if v.1 = .caught then .int (v.2.2 : Nat) else .non]
/-- counts and their parities -/
def par (cs : List Int) : List Bool := cs.map fun c => decide (c.fmod 2 = 1)
end G
/-! Eq: the evaluator's steps; what comes next stands where simp does not look. -/
namespace G
open PySem
class Kt (S α β : Type) where
  f : α → S → Out S β
def bq {S α β : Type} (x : Out S α) [k : Kt S α β] : Out S β := x.bind k.f
theorem bq_ok {S α β : Type} (a : α) (s : S) (f : α → S → Out S β) : @bq S α β (.ok a s) ⟨f⟩ = f a s := rfl
theorem bq_ex {S α β : Type} (c : Exn) (s : S) (f : α → S → Out S β) : @bq S α β (.ex c s) ⟨f⟩ = .ex c s := rfl
theorem bq_no {S α β : Type} (f : α → S → Out S β) : @bq S α β .no ⟨f⟩ = .no := rfl
theorem g_ev1 (T) (i) (δ) : ev T (.var i) δ = match δ[i]? with | some (.ro d) => .ok (.d d) δ | some (.ow _ _) => .ok (.own i) δ | _ => .no := rfl
theorem g_ev2 (T) (d) (δ) : ev T (.lit d) δ = .ok (.d d) δ := rfl
theorem g_ev3 (T) (x0) (d) (δ) : ev T (.con x0 d) δ = .ok (.d d) δ := rfl
theorem g_ev4 (T) (es) (δ) : ev T (.tup es) δ = @bq _ _ _ (evs T es δ) ⟨fun rs δ => @bq _ _ _ (lift (datas rs) δ) ⟨fun ds δ => .ok (.d (.tup ds)) δ⟩⟩ := rfl
theorem g_ev5 (T) (es) (δ) : ev T (.lst es) δ = @bq _ _ _ (evs T es δ) ⟨fun rs δ => @bq _ _ _ (lift (datas rs) δ) ⟨fun ds δ => .ok (.d (.lst ds)) δ⟩⟩ := rfl
theorem g_ev6 (T) (o) (a) (b) (δ) : ev T (.bin o a b) δ = @bq _ _ _ (ev T a δ) ⟨fun x δ => @bq _ _ _ (ev T b δ) ⟨fun y δ => @bq _ _ _ (lift (binR δ o x y) δ) ⟨fun z δ => .ok (.d z) δ⟩⟩⟩ := rfl
theorem g_ev7 (T) (a) (δ) : ev T (.neg a) δ = @bq _ _ _ (ev T a δ) ⟨fun x δ => @bq _ _ _ (lift (negR x) δ) ⟨fun z δ => .ok (.d z) δ⟩⟩ := rfl
theorem g_ev8 (T) (a) (δ) : ev T (.not a) δ = @bq _ _ _ (ev T a δ) ⟨fun x δ => @bq _ _ _ (lift (asBl x) δ) ⟨fun b δ => .ok (.d (.bl (!b))) δ⟩⟩ := rfl
theorem g_ev9 (T) (o) (a) (b) (δ) : ev T (.cmp o a b) δ = @bq _ _ _ (ev T a δ) ⟨fun x δ => @bq _ _ _ (ev T b δ) ⟨fun y δ => @bq _ _ _ (lift (cmpR δ o x y) δ) ⟨fun t δ => .ok (.d (.bl t)) δ⟩⟩⟩ := rfl
theorem g_ev10 (T) (o) (p) (a) (b) (c) (δ) : ev T (.chn o p a b c) δ = @bq _ _ _ (ev T a δ) ⟨fun x δ => @bq _ _ _ (ev T b δ) ⟨fun y δ => @bq _ _ _ (lift (cmpR δ o x y) δ) ⟨fun t δ => if t then @bq _ _ _ (ev T c δ) ⟨fun z δ => @bq _ _ _ (lift (cmpR δ p y z) δ) ⟨fun t δ => .ok (.d (.bl t)) δ⟩⟩ else .ok (.d (.bl false)) δ⟩⟩⟩ := rfl
theorem g_ev11 (T) (a) (b) (δ) : ev T (.and a b) δ = @bq _ _ _ (ev T a δ) ⟨fun x δ => @bq _ _ _ (lift (asBl x) δ) ⟨fun t δ => if t then @bq _ _ _ (ev T b δ) ⟨fun y δ => @bq _ _ _ (lift (asBl y) δ) ⟨fun u δ => .ok (.d (.bl u)) δ⟩⟩ else .ok (.d (.bl false)) δ⟩⟩ := rfl
theorem g_ev12 (T) (a) (b) (δ) : ev T (.or a b) δ = @bq _ _ _ (ev T a δ) ⟨fun x δ => @bq _ _ _ (lift (asBl x) δ) ⟨fun t δ => if t then .ok (.d (.bl true)) δ else @bq _ _ _ (ev T b δ) ⟨fun y δ => @bq _ _ _ (lift (asBl y) δ) ⟨fun u δ => .ok (.d (.bl u)) δ⟩⟩⟩⟩ := rfl
theorem g_ev13 (T) (c) (a) (b) (δ) : ev T (.ifx c a b) δ = @bq _ _ _ (ev T c δ) ⟨fun x δ => @bq _ _ _ (lift (asBl x) δ) ⟨fun t δ => if t then ev T a δ else ev T b δ⟩⟩ := rfl
theorem g_ev14 (T) (a) (b) (δ) : ev T (.idx a b) δ = @bq _ _ _ (ev T a δ) ⟨fun x δ => @bq _ _ _ (ev T b δ) ⟨fun y δ => @bq _ _ _ (lift (idxR δ x y) δ) ⟨fun z δ => .ok (.d z) δ⟩⟩⟩ := rfl
theorem g_ev15 (T) (a) (lo) (hi) (δ) : ev T (.sl a lo hi) δ = @bq _ _ _ (ev T a δ) ⟨fun x δ => @bq _ _ _ (ev T lo δ) ⟨fun l δ => @bq _ _ _ (lift (asBnd (nonE lo) l) δ) ⟨fun l δ => @bq _ _ _ (ev T hi δ) ⟨fun h δ => @bq _ _ _ (lift (asBnd (nonE hi) h) δ) ⟨fun h δ => @bq _ _ _ (lift (slR δ x l h) δ) ⟨fun z δ => .ok (.d z) δ⟩⟩⟩⟩⟩⟩ := rfl
theorem g_ev16 (T) (a) (δ) : ev T (.rev a) δ = @bq _ _ _ (ev T a δ) ⟨fun x δ => @bq _ _ _ (lift (revR δ x) δ) ⟨fun z δ => .ok (.d z) δ⟩⟩ := rfl
theorem g_ev17 (T) (k) (es) (δ) : ev T (.call k es) δ = @bq _ _ _ (evs T es δ) ⟨fun rs δ => @bq _ _ _ (callR T k rs δ) ⟨fun r δ => @bq _ _ _ (lift r.dat δ) ⟨fun z δ => .ok (.d z) δ⟩⟩⟩ := rfl
theorem g_ev18 (T) (b) (es) (δ) : ev T (.blt b es) δ = @bq _ _ _ (evs T es δ) ⟨fun rs δ => @bq _ _ _ (lift (bltR δ b rs) δ) ⟨fun z δ => .ok (.d z) δ⟩⟩ := rfl
theorem g_ev19 (T) (m) (o) (es) (δ) : ev T (.mth m o es) δ = @bq _ _ _ (ev T o δ) ⟨fun x δ => if isLR δ x then @bq _ _ _ (evs T es δ) ⟨fun rs δ => @bq _ _ _ (lift (mthR δ m x rs) δ) ⟨fun z δ => .ok (.d z) δ⟩⟩ else .no⟩ := rfl
theorem g_ev20 (T) (it) (δ) : ev T (.lrng it) δ = @bq _ _ _ (evi T it δ) ⟨fun xs δ => .ok (.d (.lst xs)) δ⟩ := rfl
theorem g_ev21 (T) (it) (δ) : ev T (.trng it) δ = @bq _ _ _ (evi T it δ) ⟨fun xs δ => .ok (.d (.tup xs)) δ⟩ := rfl
theorem g_evs1 (T) (δ) : evs T .nil δ = .ok [] δ := rfl
theorem g_evs2 (T) (e) (es) (δ) : evs T (.cons e es) δ = @bq _ _ _ (ev T e δ) ⟨fun r δ => @bq _ _ _ (evs T es δ) ⟨fun rs δ => .ok (r :: rs) δ⟩⟩ := rfl
theorem g_evi1 (T) (a) (δ) : evi T (.rng1 a) δ = @bq _ _ _ (ev T a δ) ⟨fun x δ => lift (rg1R x) δ⟩ := rfl
theorem g_evi2 (T) (a) (b) (δ) : evi T (.rng2 a b) δ = @bq _ _ _ (ev T a δ) ⟨fun x δ => @bq _ _ _ (ev T b δ) ⟨fun y δ => lift (rg2R x y) δ⟩⟩ := rfl
theorem g_evi3 (T) (a) (δ) : evi T (.enm a) δ = @bq _ _ _ (ev T a δ) ⟨fun x δ => lift (enmR x) δ⟩ := rfl
theorem g_evi4 (T) (a) (δ) : evi T (.itr a) δ = @bq _ _ _ (ev T a δ) ⟨fun x δ => lift (itR x) δ⟩ := rfl
theorem g_evF1 (T) (es) (δ) : evF T (.lst es) δ = @bq _ _ _ (evs T es δ) ⟨fun rs δ => @bq _ _ _ (lift (datas rs) δ) ⟨fun ds δ => .ok (.lst ds) δ⟩⟩ := rfl
theorem g_evF2 (T) (δ) : evF T .dnew δ = .ok (.dct []) δ := rfl
theorem g_evF3 (T) (k) (es) (δ) : evF T (.call k es) δ = @bq _ _ _ (evs T es δ) ⟨fun rs δ => @bq _ _ _ (callR T k rs δ) ⟨fun r δ => match r with | .fr o => .ok o δ | _ => .no⟩⟩ := rfl
theorem g_exs1 (T) (δ) : exs T .skip δ = .ok .nx δ := rfl
theorem g_exs2 (T) (a) (b) (δ) : exs T (.seq a b) δ = @bq _ _ _ (exs T a δ) ⟨fun f δ => match f with | .nx => exs T b δ | f => .ok f δ⟩ := rfl
theorem g_exs3 (T) (i) (e) (δ) : exs T (.asg i e) δ = @bq _ _ _ (ev T e δ) ⟨fun x δ => @bq _ _ _ (lift (asD x) δ) ⟨fun x δ => @bq _ _ _ (lift (setRo δ i x) δ) ⟨fun δ _ => .ok .nx δ⟩⟩⟩ := rfl
theorem g_exs4 (T) (i) (e) (δ) : exs T (.asgO i e) δ = @bq _ _ _ (evF T e δ) ⟨fun o δ => if free δ i then .ok .nx (δ.set i (.ow false o)) else .no⟩ := rfl
theorem g_exs5 (T) (is) (e) (δ) : exs T (.asgT is e) δ = @bq _ _ _ (ev T e δ) ⟨fun x δ => @bq _ _ _ (lift (asD x) δ) ⟨fun x δ => @bq _ _ _ (lift (bindT is x δ) δ) ⟨fun δ _ => .ok .nx δ⟩⟩⟩ := rfl
theorem g_exs6 (T) (is) (es) (δ) : exs T (.asgP is es) δ = @bq _ _ _ (evs T es δ) ⟨fun rs δ => @bq _ _ _ (lift (datas rs) δ) ⟨fun ds δ => @bq _ _ _ (lift (setRos δ is ds) δ) ⟨fun δ _ => .ok .nx δ⟩⟩⟩ := rfl
theorem g_exs7 (T) (i) (k) (e) (δ) : exs T (.setI i k e) δ = @bq _ _ _ (ev T e δ) ⟨fun x δ => @bq _ _ _ (lift (asD x) δ) ⟨fun x δ => if notOwn δ i then .no else @bq _ _ _ (ev T k δ) ⟨fun k δ => @bq _ _ _ (lift (asD k) δ) ⟨fun k δ => @bq _ _ _ (lift (setIR δ i k x) δ) ⟨fun δ _ => .ok .nx δ⟩⟩⟩⟩⟩ := rfl
theorem g_exs8 (T) (i) (e) (δ) : exs T (.app i e) δ = if ownL δ i then @bq _ _ _ (ev T e δ) ⟨fun x δ => @bq _ _ _ (lift (asD x) δ) ⟨fun x δ => @bq _ _ _ (lift (appR δ i x) δ) ⟨fun δ _ => .ok .nx δ⟩⟩⟩ else .no := rfl
theorem g_exs9 (T) (e) (δ) : exs T (.drop e) δ = @bq _ _ _ (ev T e δ) ⟨fun _ δ => .ok .nx δ⟩ := rfl
theorem g_exs10 (T) (e) (δ) : exs T (.ret e) δ = @bq _ _ _ (evR T e δ) ⟨fun r δ => .ok (.rt r) δ⟩ := rfl
theorem g_exs11 (T) (c) (a) (b) (δ) : exs T (.ite c a b) δ = @bq _ _ _ (evB T c δ) ⟨fun t δ => if t then exs T a δ else exs T b δ⟩ := rfl
theorem g_exs12 (T) (i) (it) (b) (δ) : exs T (.for1 i it b) δ = @bq _ _ _ (evi T it δ) ⟨fun xs δ => loopF (fun x δ => setRo δ i x) (exs T b) xs δ⟩ := rfl
theorem g_exs13 (T) (is) (it) (b) (δ) : exs T (.forT is it b) δ = @bq _ _ _ (evi T it δ) ⟨fun xs δ => loopF (bindT is) (exs T b) xs δ⟩ := rfl
theorem g_exs14 (T) (c) (x0) (δ) : exs T (.rais c x0) δ = .ex ⟨c, none⟩ δ := rfl
theorem g_exs15 (T) (δ) : exs T .brk δ = .ok .bk δ := rfl
theorem g_exs16 (T) (δ) : exs T .cnt δ = .ok .ct δ := rfl
theorem g_srt (T) (es) (δ) : ev T (.srt es) δ = @bq _ _ _ (evs T es δ) ⟨fun rs δ => @bq _ _ _ (lift (bltR δ .sset rs) δ) ⟨fun z δ => .ok (.d z) δ⟩⟩ := rfl
theorem g_tryc (T) (w) (ws) (k) (es) (δ) : ev T (.tryc w ws k es) δ = tryO ws (@bq _ _ _ (evs T es δ) ⟨fun rs δ => callR T k rs δ⟩) := rfl
theorem tryO_ok (ws) (r : Rt) (δ : G.Env) : tryO ws (.ok r δ) = .ok (.d (.str (Str.ofString ""))) δ := rfl
theorem tryO_ex (ws) (c : Exn) (δ : G.Env) : tryO ws (.ex c δ) = (match ws.lookup c.c with | some u => .ok (.d (.str u)) δ | none => .no) := rfl
theorem g_asgL (T) (is) (es) (j) (δ) : exs T (.asgL is es j) δ = @bq _ _ _ (evs T es δ) ⟨fun rs δ => @bq _ _ _ (lift (datas rs) δ) ⟨fun ds δ => @bq _ _ _ (lift (setRos δ is ds) δ) ⟨fun δ _ => if free δ j then .ok .nx (δ.set j (.ow false (.lst []))) else .no⟩⟩⟩ := rfl
theorem g_whl (T) (n) (c) (b) (δ) : exs T (.whl n c b) δ = loopW (evB T c) (exs T b) n δ := rfl
theorem g_evB (T) (c) (δ) : evB T c δ = @bq _ _ _ (ev T c δ) ⟨fun x δ => lift (asBl x) δ⟩ := rfl
section
variable (T : List Fn) (a b c : E) (δ : G.Env) (i k : Nat) (d : D) (x : Str) (o' : Bop) (o p : Cop) (t : Blt) (m : Mth)
theorem g_R0 : evR T (.var i) δ = @bq _ _ _ (ev T (.var i) δ) ⟨fun x δ => lift (rtR δ x) δ⟩ := rfl
theorem g_R1 : evR T (.lit d) δ = @bq _ _ _ (ev T (.lit d) δ) ⟨fun x δ => lift (rtR δ x) δ⟩ := rfl
theorem g_R2 : evR T (.con x d) δ = @bq _ _ _ (ev T (.con x d) δ) ⟨fun x δ => lift (rtR δ x) δ⟩ := rfl
theorem g_R3 : evR T (.bin o' a b) δ = @bq _ _ _ (ev T (.bin o' a b) δ) ⟨fun x δ => lift (rtR δ x) δ⟩ := rfl
theorem g_R4 : evR T (.neg a) δ = @bq _ _ _ (ev T (.neg a) δ) ⟨fun x δ => lift (rtR δ x) δ⟩ := rfl
theorem g_R5 : evR T (.not a) δ = @bq _ _ _ (ev T (.not a) δ) ⟨fun x δ => lift (rtR δ x) δ⟩ := rfl
theorem g_R6 : evR T (.cmp o a b) δ = @bq _ _ _ (ev T (.cmp o a b) δ) ⟨fun x δ => lift (rtR δ x) δ⟩ := rfl
theorem g_R7 : evR T (.chn o p a b c) δ = @bq _ _ _ (ev T (.chn o p a b c) δ) ⟨fun x δ => lift (rtR δ x) δ⟩ := rfl
theorem g_R8 : evR T (.and a b) δ = @bq _ _ _ (ev T (.and a b) δ) ⟨fun x δ => lift (rtR δ x) δ⟩ := rfl
theorem g_R9 : evR T (.or a b) δ = @bq _ _ _ (ev T (.or a b) δ) ⟨fun x δ => lift (rtR δ x) δ⟩ := rfl
theorem g_R10 : evR T (.ifx a b c) δ = @bq _ _ _ (ev T (.ifx a b c) δ) ⟨fun x δ => lift (rtR δ x) δ⟩ := rfl
theorem g_R11 : evR T (.idx a b) δ = @bq _ _ _ (ev T (.idx a b) δ) ⟨fun x δ => lift (rtR δ x) δ⟩ := rfl
theorem g_R12 : evR T (.sl a b c) δ = @bq _ _ _ (ev T (.sl a b c) δ) ⟨fun x δ => lift (rtR δ x) δ⟩ := rfl
theorem g_R13 : evR T (.rev a) δ = @bq _ _ _ (ev T (.rev a) δ) ⟨fun x δ => lift (rtR δ x) δ⟩ := rfl
theorem g_R14 : evR T (.blt t a) δ = @bq _ _ _ (ev T (.blt t a) δ) ⟨fun x δ => lift (rtR δ x) δ⟩ := rfl
theorem g_R15 : evR T (.mth m a b) δ = @bq _ _ _ (ev T (.mth m a b) δ) ⟨fun x δ => lift (rtR δ x) δ⟩ := rfl
theorem g_R16 : evR T (.lrng a) δ = @bq _ _ _ (ev T (.lrng a) δ) ⟨fun x δ => lift (rtR δ x) δ⟩ := rfl
theorem g_R17 : evR T (.trng a) δ = @bq _ _ _ (ev T (.trng a) δ) ⟨fun x δ => lift (rtR δ x) δ⟩ := rfl
theorem g_Rsrt : evR T (.srt a) δ = @bq _ _ _ (ev T (.srt a) δ) ⟨fun x δ => lift (rtR δ x) δ⟩ := rfl
theorem g_Rlst : evR T (.lst a) δ = @bq _ _ _ (evs T a δ) ⟨fun rs δ => @bq _ _ _ (lift (datas rs) δ) ⟨fun ds δ => .ok (.fr (.lst ds)) δ⟩⟩ := rfl
theorem g_Rtup : evR T (.tup a) δ = @bq _ _ _ (evs T a δ) ⟨fun rs δ => if mine δ rs then @bq _ _ _ (lift (vals δ rs) δ) ⟨fun ds δ => .ok (.d (.tup ds)) δ⟩ else .no⟩ := rfl
theorem g_Rcall : evR T (.call k a) δ = @bq _ _ _ (evs T a δ) ⟨fun rs δ => callR T k rs δ⟩ := rfl
end
end G
/-! Ev5: rings of the program and of the law agree. -/
namespace G
open PySem
open G.M (Pl Sc Rc St En It)
theorem up_len {l : List Int} {n : Nat} (h : l.Pairwise (· < ·)) (hb : ∀ x ∈ l, 0 ≤ x ∧ x < n) : l.length ≤ n := by
  have nd := nodup_up h
  have : (l.map Int.toNat).Nodup := by
    rw [List.nodup_iff_pairwise_ne, List.pairwise_map]
    refine List.Pairwise.imp_of_mem ?_ h
    intro a b ha hb2 hab e
    have := hb a ha
    have := hb b hb2
    omega
  have := M.nodup_le n (l.map Int.toNat) this (fun x hx => by
    obtain ⟨y, hy, rfl⟩ := List.mem_map.1 hx
    have := hb y hy
    omega)
  simpa using this
theorem map_up {l : List Int} (d : Int) (h : l.Pairwise (· < ·)) : (l.map (· + d)).Pairwise (· < ·) := by
  rw [List.pairwise_map]
  exact h.imp fun hab => by omega
def rgP (r : Rc) (n : Int) (p : Pl) : List Int := if M.en r (M.few r n) (M.raw p (M.few r n)) = .caught then sortU (M.rT false r (M.few r n) (M.raw p (M.few r n))) else []
def rgL (r : Rc) (n : Int) (p : Pl) : List Int := if M.en r (M.small r n) (M.raw p (M.small r n)) = .caught then sortU (M.rT true r (M.small r n) (M.raw p (M.small r n))) else []
theorem rgP_len {r : Rc} (h : M.Ok r) (h3 : r.length ≤ 3) {n : Int} (hn : 1 ≤ n) (p : Pl) : (rgP r n p).length < 63 := by
  have hb := M.few_bd h hn
  unfold rgP
  split
  · refine Nat.lt_of_le_of_lt (up_len (n := 45) (sortU_up _) fun x hx => ?_) (by omega)
    rw [sortU_mem] at hx
    have := M.rT_in h3 (by omega) x hx
    omega
  · simp
theorem ring_eq {r : Rc} (h : M.Ok r) (h3 : r.length ≤ 3) {p : Pl} (hp : p.ok) {n : Int} (hn : 100 ≤ n) :
    (rgL r n p).length < 63 ∧ (rgP r n p).map (fun t => if 2 * t < M.few r n then t else t + n - M.few r n) = (rgL r n p).map (fun t => if t < 30 then t else t + n - M.small r n) := by
  obtain ⟨j, k, e1, e2, e3, e4, b1, b2, b3, b4, b5⟩ := M.small_spec h hn
  have hl := rgP_len h h3 (n := n) (by omega) p
  have he := M.en_at h h3 hp b3 j (by omega)
  rw [← e1] at he
  unfold rgP at *
  unfold rgL
  rw [he]
  by_cases hc : M.en r (M.few r n) (M.raw p (M.few r n)) = .caught
  · rw [if_pos hc] at *
    rw [if_pos hc]
    have m1 := M.mem_rT (al := false) h3 (n := M.few r n) (t := M.raw p (M.few r n)) (by omega) (by omega) hc
    have m2 := M.mem_rT (al := true) h3 (n := M.small r n) (t := M.raw p (M.small r n)) (by omega) (by omega) (he.trans hc)
    have ro := M.ring_at h hp b3 j (M.on_caught h3 (by omega) (by omega) hc)
    unfold M.RingOk at ro
    rw [← e1] at ro
    generalize M.rT false r (M.few r n) (M.raw p (M.few r n)) = A at *
    generalize M.rT true r (M.small r n) (M.raw p (M.small r n)) = B at *
    rcases ro with ⟨a, b⟩ | ⟨a, b⟩
    · have eq : sortU A = sortU B := sortU_the (sortU_up A) fun u => by rw [sortU_mem, m1, m2, a]
      rw [← eq]
      refine ⟨hl, List.map_congr_left fun u hu => ?_⟩
      rw [sortU_mem, m1] at hu
      have := b u hu
      rw [if_pos (by omega), if_pos (by omega)]
    · have eq : (sortU A).map (· + (j : Int) * M.many r) = sortU B := sortU_the (map_up _ (sortU_up A)) fun u => by
        rw [List.mem_map, m2]
        constructor
        · rintro ⟨x, hx, rfl⟩
          rw [sortU_mem, m1] at hx
          exact (a x).2 hx
        · intro hu
          refine ⟨u - j * M.many r, ?_, by omega⟩
          rw [sortU_mem, m1, ← a]
          rw [show u - (j : Int) * M.many r + j * M.many r = u by omega]; exact hu
      rw [← eq]
      refine ⟨by rw [List.length_map]; exact hl, ?_⟩
      rw [List.map_map]
      refine List.map_congr_left fun u hu => ?_
      rw [sortU_mem, m1] at hu
      have := b u hu
      simp only [Function.comp]
      rw [if_neg (by omega), if_neg (by omega)]
      omega
  · rw [if_neg hc, if_neg hc]
    exact ⟨by simp, rfl⟩
/-- numbers of rounds, by the law's small number -/
theorem rd_eq {r : Rc} (h : M.Ok r) (h3 : r.length ≤ 3) {p : Pl} (hp : p.ok) {n : Int} (hn : 100 ≤ n) :
    M.en r (M.small r n) (M.raw p (M.small r n)) = M.en r (M.few r n) (M.raw p (M.few r n)) ∧ M.en r (M.small r n + M.many r) (M.raw p (M.small r n + M.many r)) = M.en r (M.few r n) (M.raw p (M.few r n)) ∧
    (M.en r (M.few r n) (M.raw p (M.few r n)) ≠ .caught → M.rdF r n p = some (M.ln r (M.small r n) (M.raw p (M.small r n)) + ((M.ln r (M.small r n + M.many r) (M.raw p (M.small r n + M.many r)) : Int) - M.ln r (M.small r n) (M.raw p (M.small r n))) * (n - M.small r n).fdiv (M.many r))) := by
  obtain ⟨j, k, e1, e2, e3, e4, b1, b2, b3, b4, b5⟩ := M.small_spec h hn
  have hm := M.many_le h
  have hj1 : M.small r n + M.many r = M.few r n + ((j + 1 : Nat) : Int) * M.many r := by rw [e1, M.sm]; omega
  refine ⟨by rw [e1]; exact M.en_at h h3 hp b3 j (by omega), by rw [hj1]; exact M.en_at h h3 hp b3 (j + 1) (by omega), fun hc => ?_⟩
  obtain ⟨x, H⟩ := M.ln_at h h3 hp b3 (by omega) hc
  have h0 := H j (by omega)
  have h1 := H (j + 1) (by omega)
  have h2 := H 1 (by omega)
  rw [← e1] at h0
  rw [← hj1] at h1
  rw [show M.few r n + ((1 : Nat) : Int) * M.many r = M.few r n + M.many r by omega] at h2
  unfold M.rdF
  rw [if_neg hc, if_neg b5, e3, e4, h0, h1, h2]
  congr 1
  rw [show ((M.ln r (M.few r n) (M.raw p (M.few r n)) + 1 * x : Nat) : Int) - M.ln r (M.few r n) (M.raw p (M.few r n)) = x by omega, show ((M.ln r (M.few r n) (M.raw p (M.few r n)) + (j + 1) * x : Nat) : Int) - ((M.ln r (M.few r n) (M.raw p (M.few r n)) + j * x : Nat) : Int) = x by rw [Nat.succ_mul]; omega]
  simp only [Int.natCast_add, Int.mul_add, Int.natCast_mul]
  rw [Int.mul_comm (j : Int) x]
  omega
theorem cp_eq {r : Rc} (h : M.Ok r) (h3 : r.length ≤ 3) {n : Int} (hn : 100 ≤ n) (w : En) :
    M.cpF r n w = M.cnt r (M.small r n) w + ((M.cnt r (M.small r n + M.many r) w : Int) - M.cnt r (M.small r n) w) * (n - M.small r n).fdiv (M.many r) := by
  obtain ⟨j, k, e1, e2, e3, e4, b1, b2, b3, b4, b5⟩ := M.small_spec h hn
  have hm := M.many_le h
  have hj1 : M.small r n + M.many r = M.few r n + ((j + 1 : Nat) : Int) * M.many r := by rw [e1, M.sm]; omega
  have h0 := M.cnt_steps h h3 b3 w j (by omega)
  have h1 := M.cnt_steps h h3 b3 w (j + 1) (by omega)
  have h2 := M.cnt_steps h h3 b3 w 1 (by omega)
  rw [← e1] at h0
  rw [← hj1] at h1
  rw [show M.few r n + ((1 : Nat) : Int) * M.many r = M.few r n + M.many r by omega] at h2
  unfold M.cpF
  rw [if_neg b5, e3, e4, h0, h1, h2]
  generalize M.new r (M.few r n) w = x
  generalize M.cnt r (M.few r n) w = c
  rw [show ((c + 1 * x : Nat) : Int) - c = x by omega, show ((c + (j + 1) * x : Nat) : Int) - ((c + j * x : Nat) : Int) = x by rw [Nat.succ_mul]; omega]
  simp only [Int.natCast_add, Int.mul_add, Int.natCast_mul]
  rw [Int.mul_comm (j : Int) x]
  omega
end G
/-! Ev6: small numbers of turns: the program's ring, end and rounds are the law's own. -/
namespace G
open PySem
open G.M (Pl Sc Rc St En It)
theorem rgS_len {r : Rc} (h3 : r.length ≤ 3) {n : Int} (hn : n ≤ 62) (t : Int) (al : Bool) : (sortU (M.rT al r n t)).length < 63 := by
  refine Nat.lt_of_le_of_lt (up_len (n := 62) (sortU_up _) fun x hx => ?_) (by omega)
  rw [sortU_mem] at hx
  have := M.rT_in h3 (by omega) x hx
  omega
theorem few_en {r : Rc} (h : M.Ok r) (h3 : r.length ≤ 3) {p : Pl} (hp : p.ok) {n : Int} (h1 : 1 ≤ n) (hn : n ≤ 1000) : M.en r (M.few r n) (M.raw p (M.few r n)) = M.en r n (M.raw p n) := by
  rcases M.few_spec h h1 with ⟨a, b⟩ | ⟨q, a, b, c, d, e⟩
  · rw [a]
  · have := M.en_at h h3 hp d q (by omega)
    rw [← b] at this
    exact this.symm
theorem ring_le {r : Rc} (h : M.Ok r) (h3 : r.length ≤ 3) {p : Pl} (hp : p.ok) {n : Int} (h1 : 1 ≤ n) (hn : n ≤ 62) :
    (rgP r n p).map (fun t => if 2 * t < M.few r n then t else t + n - M.few r n) = if M.en r n (M.raw p n) = .caught then sortU (M.rT true r n (M.raw p n)) else [] := by
  have he := few_en h h3 hp h1 (by omega)
  have hb := M.few_bd h h1
  unfold rgP
  rw [he]
  by_cases hc : M.en r n (M.raw p n) = .caught
  · rw [if_pos hc, if_pos hc]
    have hc' : M.en r (M.few r n) (M.raw p (M.few r n)) = .caught := he.trans hc
    have m1 := M.mem_rT (al := false) h3 (n := M.few r n) (t := M.raw p (M.few r n)) (by omega) (by omega) hc'
    have m2 := M.mem_rT (al := true) h3 (n := n) (t := M.raw p n) (by omega) (by omega) hc
    rcases M.few_spec h h1 with ⟨a, b⟩ | ⟨q, a, b, c, d, e⟩
    · rw [a] at m1 ⊢
      have eq : sortU (M.rT false r n (M.raw p n)) = sortU (M.rT true r n (M.raw p n)) := sortU_the (sortU_up _) fun u => by rw [sortU_mem, m1, m2]
      rw [← eq]
      refine (List.map_congr_left fun u _ => ?_).trans (List.map_id _)
      split <;> simp only [id] <;> omega
    · have ro := M.ring_at h hp d q (M.on_caught h3 (by omega) (by omega) hc')
      unfold M.RingOk at ro
      rw [← b] at ro
      generalize M.rT false r (M.few r n) (M.raw p (M.few r n)) = A at *
      generalize M.rT true r n (M.raw p n) = B at *
      have hd : (q : Int) * M.many r = n - M.few r n := by omega
      rw [hd] at ro
      rcases ro with ⟨x, y⟩ | ⟨x, y⟩
      · have eq : sortU A = sortU B := sortU_the (sortU_up A) fun u => by rw [sortU_mem, m1, m2, ← x]
        rw [← eq]
        refine (List.map_congr_left fun u hu => ?_).trans (List.map_id _)
        rw [sortU_mem, m1] at hu
        have := y u hu
        rw [if_pos (by omega)]; rfl
      · have eq : (sortU A).map (· + (n - M.few r n)) = sortU B := sortU_the (map_up _ (sortU_up A)) fun u => by
          rw [List.mem_map, m2]
          constructor
          · rintro ⟨z, hz, rfl⟩
            rw [sortU_mem, m1] at hz
            exact (x z).2 hz
          · intro hu
            refine ⟨u - (n - M.few r n), ?_, by omega⟩
            rw [sortU_mem, m1, ← x]
            rw [show u - (n - M.few r n) + (n - M.few r n) = u by omega]; exact hu
        rw [← eq]
        refine List.map_congr_left fun u hu => ?_
        rw [sortU_mem, m1] at hu
        have := y u hu
        rw [if_neg (by omega)]
        omega
  · rw [if_neg hc, if_neg hc]; rfl
end G
/-! Ev7: sounds as data, counts of them, the least of rows. -/
namespace G
open PySem
open G.M (Pl Sc Rc St En It)
def iL (l : List Int) : List D := l.map .int
theorem tOf_pos (h : List St) : tOf h = iL (h.map (·.1)) := by simp [tOf, iL]
theorem ints_iL (l : List Int) : intsD (iL l) = some l := intsD_map l
theorem iL_len (l : List Int) : (iL l).length = l.length := by simp [iL]
theorem iL_snoc (l : List Int) (a : Int) : iL l ++ [.int a] = iL (l ++ [a]) := by simp [iL]
theorem iL_take (l : List Int) (k : Nat) : (iL l).take k = iL (l.take k) := by simp [iL]
theorem iL_drop (l : List Int) (k : Nat) : (iL l).drop k = iL (l.drop k) := by simp [iL]
theorem iL_app (l m : List Int) : iL l ++ iL m = iL (l ++ m) := by simp [iL]
theorem shp_iLs (n : Nat) (l : List Int) : D.shps n (iL l) = true := shps_map _ _ (fun a => shp_int n a) l
theorem shp_iL (l : List Int) : D.shp 60 (.lst (iL l)) = true := by simp only [D.shp, shp_iLs]
theorem shp_iT (n : Nat) (l : List Int) : D.shp (n + 1) (.tup (iL l)) = true := by simp only [D.shp, shp_iLs]
theorem eqs_iL (a b : List Int) : D.eqs (iL a) (iL b) = decide (a = b) := eqs_map _ (by intro a b; simp only [D.eq]; by_cases h : a = b <;> simp [h]) a b
theorem eq_iT (a b : List Int) : D.eq (.tup (iL a)) (.tup (iL b)) = decide (a = b) := by rw [D.eq]; exact eqs_iL a b
/-- what sound_of tells -/
def dSnd (x : Bool × List Int) : D := if x.1 then .tup [.str "ever", .tup (iL x.2)] else .tup (iL x.2)
theorem eq_dSnd (x y : Bool × List Int) : D.eq (dSnd x) (dSnd y) = decide (x = y) := by
  obtain ⟨a, l⟩ := x
  obtain ⟨b, m⟩ := y
  cases a <;> cases b <;> simp only [dSnd, Bool.false_eq_true, if_false, if_true, Prod.mk.injEq, true_and, false_and, reduceCtorEq]
  · exact eq_iT l m
  · cases l <;> simp [D.eq, D.eqs, iL]
  · cases m <;> simp [D.eq, D.eqs, iL]
  · rw [D.eq]; simp only [D.eqs, D.eq, decide_true, Bool.true_and, Bool.and_true]; exact eqs_iL l m
theorem shp_dSnd (x : Bool × List Int) : D.shp 60 (dSnd x) = true := by
  unfold dSnd
  split
  · simp only [D.shp, D.shps, shp_iT, shp_iLs, ofS_ok, Bool.and_true, Bool.and_self]
  · exact shp_iT _ _
/-- how many of a menu sound like one -/
def cM (menu : List Rc) (n t : Int) (r : Rc) : Int := ((menu.filter fun r' => decide (M.lsn r' n t = M.lsn r n t)).length : Nat)
def cMs (menu : List Rc) (n t : Int) : List Int := menu.map (cM menu n t)
def mx (menu : List Rc) (n t : Int) : Int := match cMs menu n t with
  | a :: r => r.foldl max a
  | [] => 0
theorem cnt_prog {menu : List Rc} (h : ∀ r ∈ menu, r.length ≤ 3) {n t : Int} (h1 : 1 ≤ n) (hn : n ≤ 100) {r : Rc} (hr : r ∈ menu) :
    (((menu.map fun r => dSnd (M.snd r n t)).filter fun y => D.eq y (dSnd (M.snd r n t))).length : Int) = cM menu n t r := by
  unfold cM
  rw [List.filter_map, List.length_map]
  congr 2
  refine List.filter_congr fun r' hr' => ?_
  simp only [Function.comp]
  rw [eq_dSnd, M.snd_eq (h r' hr') (h r hr) h1 hn]
theorem cnt_law (menu : List Rc) (n t : Int) (r : Rc) :
    (((menu.map fun r => D.tup (iL (M.lsn r n t))).filter fun y => D.eq y (.tup (iL (M.lsn r n t)))).length : Int) = cM menu n t r := by
  unfold cM
  rw [List.filter_map, List.length_map]
  congr 2
  refine List.filter_congr fun r' hr' => ?_
  simp only [Function.comp]
  rw [eq_iT]
theorem max_cMs {menu : List Rc} (h : menu ≠ []) (n t : Int) : bltv .maxl [.lst (iL (cMs menu n t))] = some (.int (mx menu n t)) := by
  show (match intsD (iL (cMs menu n t)) with
    | some (a :: r) => some (D.int (r.foldl max a))
    | _ => none) = _
  rw [ints_iL]
  unfold mx
  cases hm : cMs menu n t with
  | nil => exact absurd (by simpa [cMs] using hm) h
  | cons a r => rfl
/-- the program's best -/
def bst : Option (Int × Int) → List (Int × Int) → Option (Int × Int)
  | b, [] => b
  | none, y :: ys => bst (some y) ys
  | some a, y :: ys => if y.1 < a.1 then bst (some y) ys else bst (some a) ys
theorem bst_min : ∀ (ys : List (Int × Int)) (a : Int × Int), (∀ y ∈ ys, a.2 < y.2) → ys.Pairwise (fun x y => x.2 < y.2) → bst (some a) ys = some (minP a ys) := by
  intro ys
  induction ys with
  | nil => intro a _ _; rfl
  | cons y ys ih =>
    intro a h p
    obtain ⟨p1, p2⟩ := List.pairwise_cons.1 p
    have hy := h y (by simp)
    unfold bst minP
    rw [List.foldl_cons]
    by_cases hl : y.1 < a.1
    · rw [if_pos hl, ih y p1 p2]
      have : ltP y a = true := by simp [ltP, hl]
      rw [this]; rfl
    · rw [if_neg hl, ih a (fun z hz => h z (by simp [hz])) p2]
      have : ltP y a = false := by
        unfold ltP
        rw [decide_eq_false hl, decide_eq_false (by omega : ¬ y.2 < a.2)]
        simp
      rw [this]; rfl
theorem pairs_map : ∀ ps : List (Int × Int), pairsD (ps.map fun p => .tup [.int p.1, .int p.2]) = some ps
  | [] => rfl
  | p :: ps => by rw [List.map_cons, pairsD, pairs_map ps]; rfl
/-! ### comprehensions over encoded items -/
section
variable {α : Type} {T : List Fn} {it c elt : E} {δ : G.Env}
theorem wipe_put {v : Nat} (hlt : v < δ.length) (s : Sl) (y : D) : bindC [v] y (wipeE (δ.set v s) [v]) = some (δ.set v (.ro y)) := by
  simp only [bindC, wipeE, List.set_set, setRo]
  rw [fre_set hlt]
  simp [frS_no]
theorem compM {v : Nat} {l : List α} (f g : α → D) (hit : evi T it δ = .ok (l.map f) δ) (hv : notOwn δ v = true) (hlt : v < δ.length) (hl : l.length ≤ big)
    (hE : ∀ a ∈ l, ev T elt (δ.set v (.ro (f a))) = .ok (.d (g a)) (δ.set v (.ro (f a)))) : ev T (.comp [v] [v] it elt) δ = .ok (.d (.lst (l.map g))) δ := by
  have key : ∀ (ys : List α) (acc : List D) (s : Sl), (∀ x ∈ ys, x ∈ l) → ∃ s', compL (fun x δ' => (lift (bindC [v] x (wipeE δ' [v])) δ').bind fun δ1 _ => (ev T elt δ1).bind fun y δ2 => (lift (asD y) δ2).bind fun y δ => .ok (some y) δ) (ys.map f) acc (δ.set v s) = .ok (acc ++ ys.map g) (δ.set v s') := by
    intro ys
    induction ys with
    | nil => intro acc s _; exact ⟨s, by simp [compL]⟩
    | cons y ys ih =>
      intro acc s hm
      simp only [List.map_cons, compL, wipe_put hlt, lift_some, bnd_ok, hE y (hm y (by simp)), asD_d]
      obtain ⟨s', e⟩ := ih (acc ++ [g y]) (.ro (f y)) (fun x hx => hm x (by simp [hx]))
      exact ⟨s', by rw [e]; simp⟩
  simp only [ev, hit, bnd_ok]
  rw [if_pos ⟨by simp [hv], by simpa using hl⟩]
  obtain ⟨s', e⟩ := key l [] δ[v] (fun _ h => h)
  rw [List.set_getElem_self] at e
  rw [e, bnd_ok]
  simp only [List.nil_append, restE, List.set_set, List.getElem?_eq_getElem hlt]
  rw [List.set_getElem_self]
theorem compcM {v : Nat} {l : List α} (f g : α → D) (p : α → Bool) (hit : evi T it δ = .ok (l.map f) δ) (hv : notOwn δ v = true) (hlt : v < δ.length) (hl : l.length ≤ big)
    (hC : ∀ a ∈ l, ev T c (δ.set v (.ro (f a))) = .ok (.d (.bl (p a))) (δ.set v (.ro (f a))))
    (hE : ∀ a ∈ l, p a = true → ev T elt (δ.set v (.ro (f a))) = .ok (.d (g a)) (δ.set v (.ro (f a)))) : ev T (.compc [v] [v] it c elt) δ = .ok (.d (.lst ((l.filter p).map g))) δ := by
  have key : ∀ (ys : List α) (acc : List D) (s : Sl), (∀ x ∈ ys, x ∈ l) → ∃ s', compL (fun x δ' => (lift (bindC [v] x (wipeE δ' [v])) δ').bind fun δ1 _ => (ev T c δ1).bind fun t δ2 => (lift (asBl t) δ2).bind fun t δ2 =>
        if t then (ev T elt δ2).bind fun y δ3 => (lift (asD y) δ3).bind fun y δ => .ok (some y) δ else .ok none δ2) (ys.map f) acc (δ.set v s) = .ok (acc ++ (ys.filter p).map g) (δ.set v s') := by
    intro ys
    induction ys with
    | nil => intro acc s _; exact ⟨s, by simp [compL]⟩
    | cons y ys ih =>
      intro acc s hm
      cases hp : p y
      · simp only [List.map_cons, compL, wipe_put hlt, lift_some, bnd_ok, hC y (hm y (by simp)), hp, asBl_d, Bool.false_eq_true, if_false]
        obtain ⟨s', e⟩ := ih acc (.ro (f y)) (fun x hx => hm x (by simp [hx]))
        exact ⟨s', by rw [e]; simp [hp]⟩
      · simp only [List.map_cons, compL, wipe_put hlt, lift_some, bnd_ok, hC y (hm y (by simp)), hp, asBl_d, if_true, hE y (hm y (by simp)) hp, asD_d]
        obtain ⟨s', e⟩ := ih (acc ++ [g y]) (.ro (f y)) (fun x hx => hm x (by simp [hx]))
        exact ⟨s', by rw [e]; simp [hp]⟩
  simp only [ev, hit, bnd_ok]
  rw [if_pos ⟨by simp [hv], by simpa using hl⟩]
  obtain ⟨s', e⟩ := key l [] δ[v] (fun _ h => h)
  rw [List.set_getElem_self] at e
  rw [e, bnd_ok]
  simp only [List.nil_append, restE, List.set_set, List.getElem?_eq_getElem hlt]
  rw [List.set_getElem_self]
/-- [i for i, x in enumerate(l) if ..]: u, v = u + 1 the names' slots, the last ones -/
theorem compcE {u : Nat} {δ0 : List Sl} {l : List α} (f : α → D) (p : α → Bool) (hu : u = δ0.length) (hit : evi T it (δ0 ++ [.no, .no]) = .ok (enumF 0 (l.map f)) (δ0 ++ [.no, .no])) (hl : l.length ≤ big)
    (hC : ∀ a ∈ l, ∀ i : Nat, ev T c (δ0 ++ [.ro (.int i), .ro (f a)]) = .ok (.d (.bl (p a))) (δ0 ++ [.ro (.int i), .ro (f a)]))
    (hE : ∀ a ∈ l, ∀ i : Nat, ev T elt (δ0 ++ [.ro (.int i), .ro (f a)]) = .ok (.d (.int i)) (δ0 ++ [.ro (.int i), .ro (f a)])) :
    ev T (.compc [u, u + 1] [u, u + 1] it c elt) (δ0 ++ [.no, .no]) = .ok (.d (.lst (((List.range l.length).filter fun i => (l[i]?).elim false p).map fun i => D.int (i : Nat)))) (δ0 ++ [.no, .no]) := by
  have bnd : ∀ (s t : Sl) (i : Nat) (y : D), bindC [u, u + 1] (.tup [.int i, y]) (wipeE (δ0 ++ [s, t]) [u, u + 1]) = some (δ0 ++ [.ro (.int i), .ro y]) := by
    intro s t i y
    subst hu
    have w : wipeE (δ0 ++ [s, t]) [δ0.length, δ0.length + 1] = δ0 ++ [.no, .no] := by
      simp only [wipeE]
      rw [List.set_append_right _ _ (by omega), List.set_append_right _ _ (by omega)]
      simp
    rw [w]
    have f1 : free (δ0 ++ [Sl.no, .no]) δ0.length = true := by simp [free]
    have f2 : ∀ q, free (δ0 ++ [q, Sl.no]) (δ0.length + 1) = true := by intro q; simp [free]
    simp only [bindC, bindT, setRos, setRo, f1, if_true]
    rw [List.set_append_right _ _ (by omega)]
    simp only [Nat.sub_self, List.set_cons_zero, f2, if_true]
    rw [List.set_append_right _ _ (by omega)]
    simp
  have key : ∀ (ys : List α) (k : Nat) (acc : List D) (s t : Sl), (∀ x ∈ ys, x ∈ l) → ∃ s' t', compL (fun x δ' => (lift (bindC [u, u + 1] x (wipeE δ' [u, u + 1])) δ').bind fun δ1 _ => (ev T c δ1).bind fun t δ2 => (lift (asBl t) δ2).bind fun t δ2 =>
        if t then (ev T elt δ2).bind fun y δ3 => (lift (asD y) δ3).bind fun y δ => .ok (some y) δ else .ok none δ2) (enumF k (ys.map f)) acc (δ0 ++ [s, t]) = .ok (acc ++ ((List.range' k ys.length).filter fun i => (ys[i - k]?).elim false p).map fun i => D.int (i : Nat)) (δ0 ++ [s', t']) := by
    intro ys
    induction ys with
    | nil => intro k acc s t _; exact ⟨s, t, by simp [compL, enumF]⟩
    | cons y ys ih =>
      intro k acc s t hm
      have hr : ((List.range' (k + 1) ys.length).filter fun i => ((y :: ys)[i - k]?).elim false p) = ((List.range' (k + 1) ys.length).filter fun i => (ys[i - (k + 1)]?).elim false p) := by
        refine List.filter_congr fun i hi => ?_
        have := (List.mem_range'_1.1 hi).1
        rw [show i - k = (i - (k + 1)) + 1 by omega, List.getElem?_cons_succ]
      have h0 : ((y :: ys)[k - k]?).elim false p = p y := by simp
      rw [List.length_cons, List.range'_succ, List.filter_cons, hr, h0]
      cases hp : p y
      · simp only [List.map_cons, enumF, compL, bnd, lift_some, bnd_ok, hC y (hm y (by simp)), hp, asBl_d, Bool.false_eq_true, if_false]
        exact ih (k + 1) acc _ _ (fun x hx => hm x (by simp [hx]))
      · simp only [List.map_cons, enumF, compL, bnd, lift_some, bnd_ok, hC y (hm y (by simp)), hp, asBl_d, if_true, hE y (hm y (by simp)), asD_d]
        obtain ⟨s', t', e⟩ := ih (k + 1) (acc ++ [.int k]) (.ro (.int k)) (.ro (f y)) (fun x hx => hm x (by simp [hx]))
        exact ⟨s', t', by rw [e]; simp⟩
  have hz : ∀ (ys : List D) k, (enumF k ys).length = ys.length := by
    intro ys
    induction ys with
    | nil => intro k; rfl
    | cons y ys ih => intro k; simp [enumF, ih]
  simp only [ev, hit, bnd_ok]
  have hv : [u, u + 1].all (notOwn (δ0 ++ [Sl.no, .no])) = true := by
    subst hu
    simp [notOwn]
  rw [if_pos ⟨hv, by rw [hz]; simpa using hl⟩]
  obtain ⟨s', t', e⟩ := key l 0 [] .no .no (fun _ h => h)
  rw [e, bnd_ok, List.range_eq_range']
  simp only [List.nil_append, Nat.sub_zero]
  congr 1
  subst hu
  simp only [restE]
  rw [List.set_append_right _ _ (by omega), List.set_append_right _ _ (by omega)]
  simp
end
/-- items drawn one after another: the source is changed -/
theorem compS {T : List Fn} {v : Nat} {it elt : E} {P : D → Prop} {Δ : Int → Int → List Sl} {δ : List Sl} {xs : List D} {a b : Int} (hs : Src a b) (hit : evi T it δ = .ok xs (Δ a b)) (hv : ∀ a b, notOwn (Δ a b) v = true) (hlt : ∀ a b, v < (Δ a b).length) (hc : ∀ a b a' b', (Δ a b)[v]? = (Δ a' b')[v]?) (hl : xs.length ≤ big)
    (hE : ∀ a b, Src a b → ∀ x, ∃ d a' b', Src a' b' ∧ P d ∧ ev T elt ((Δ a b).set v (.ro x)) = .ok (.d d) ((Δ a' b').set v (.ro x))) :
    ∃ ds a' b', Src a' b' ∧ ds.length = xs.length ∧ (∀ d ∈ ds, P d) ∧ ev T (.comp [v] [v] it elt) δ = .ok (.d (.lst ds)) (Δ a' b') := by
  have key : ∀ (ys : List D) (acc : List D) (s : Sl) (a b : Int), Src a b → ∃ ds a' b' s', Src a' b' ∧ ds.length = ys.length ∧ (∀ d ∈ ds, P d) ∧ compL (fun x δ' => (lift (bindC [v] x (wipeE δ' [v])) δ').bind fun δ1 _ => (ev T elt δ1).bind fun y δ2 => (lift (asD y) δ2).bind fun y δ => .ok (some y) δ) ys acc ((Δ a b).set v s) = .ok (acc ++ ds) ((Δ a' b').set v s') := by
    intro ys
    induction ys with
    | nil => intro acc s a b h; exact ⟨[], a, b, s, h, rfl, fun _ h => by simp at h, by simp [compL]⟩
    | cons y ys ih =>
      intro acc s a b h
      obtain ⟨d, a1, b1, h1, hd, e1⟩ := hE a b h y
      obtain ⟨ds, a2, b2, s', h2, l2, p2, e2⟩ := ih (acc ++ [d]) (.ro y) a1 b1 h1
      refine ⟨d :: ds, a2, b2, s', h2, by simp [l2], fun x hx => ?_, ?_⟩
      · rcases List.mem_cons.1 hx with rfl | hx
        · exact hd
        · exact p2 x hx
      · simp only [compL, wipe_put (hlt a b), lift_some, bnd_ok, e1, asD_d]
        rw [e2]; simp
  obtain ⟨ds, a2, b2, s', h2, l2, p2, e2⟩ := key xs [] ((Δ a b)[v]'(hlt a b)) a b hs
  refine ⟨ds, a2, b2, h2, l2, p2, ?_⟩
  rw [List.set_getElem_self] at e2
  simp only [ev, hit, bnd_ok]
  rw [if_pos ⟨by simp [hv], hl⟩, e2, bnd_ok]
  simp only [List.nil_append, restE, List.set_set]
  rw [hc a b a2 b2, List.getElem?_eq_getElem (hlt a2 b2)]
  simp only
  rw [List.set_getElem_self]
end G
/-! Eq8: the evaluator's steps for texts, written dicts, errors that keep an int. -/
namespace G
open PySem
theorem g_m1 (T) (o) (a) (b) (δ) : ev T (.m1 o a b) δ = @bq _ _ _ (ev T a δ) ⟨fun x δ => if m1ok δ o x then @bq _ _ _ (ev T b δ) ⟨fun y δ => @bq _ _ _ (lift (m1R δ o x y) δ) ⟨fun z δ => .ok (.d z) δ⟩⟩ else .no⟩ := rfl
theorem g_nin (T) (a) (δ) : ev T (.nin a) δ = @bq _ _ _ (ev T a δ) ⟨fun x δ => @bq _ _ _ (lift (ninR δ x) δ) ⟨fun z δ => .ok (.d z) δ⟩⟩ := rfl
theorem g_cget (T) (kvs) (a) (δ) : ev T (.cget kvs a) δ = @bq _ _ _ (ev T a δ) ⟨fun x δ => @bq _ _ _ (lift (cgetR kvs x) δ) ⟨fun z δ => .ok (.d z) δ⟩⟩ := rfl
theorem g_gidx (T) (nm) (kvs) (a) (δ) : ev T (.gidx nm kvs a) δ = @bq _ _ _ (ev T a δ) ⟨fun x δ => @bq _ _ _ (lift (gidxR kvs x) δ) ⟨fun z δ => .ok (.d z) δ⟩⟩ := rfl
theorem g_Rm1 (T) (o) (a) (b) (δ) : evR T (.m1 o a b) δ = @bq _ _ _ (ev T (.m1 o a b) δ) ⟨fun x δ => lift (rtR δ x) δ⟩ := rfl
theorem g_Rnin (T) (a) (δ) : evR T (.nin a) δ = @bq _ _ _ (ev T (.nin a) δ) ⟨fun x δ => lift (rtR δ x) δ⟩ := rfl
theorem g_Rcget (T) (kvs) (a) (δ) : evR T (.cget kvs a) δ = @bq _ _ _ (ev T (.cget kvs a) δ) ⟨fun x δ => lift (rtR δ x) δ⟩ := rfl
theorem g_Rgidx (T) (nm) (kvs) (a) (δ) : evR T (.gidx nm kvs a) δ = @bq _ _ _ (ev T (.gidx nm kvs a) δ) ⟨fun x δ => lift (rtR δ x) δ⟩ := rfl
theorem g_raisN (T) (c) (f) (e) (δ) : exs T (.raisN c f e) δ = @bq _ _ _ (ev T e δ) ⟨fun x δ => match x with | .d (.int i) => .ex ⟨c, some (f, i)⟩ δ | _ => .no⟩ := rfl
/-- what a caught call does -/
def csA (i n : Nat) (c f : Str) : Out Env Rt → Out Env Fl
  | .ok (.d x) δ => (lift (setRo δ i x) δ).bind fun δ _ => .ok .nx δ
  | .ex e δ => (match e.pl with
    | some (g, v) => if e.c = c ∧ g = f ∧ n < δ.length then (lift (setRo (δ.set n .no) i (.int v)) δ).bind fun δ _ => .ok .nx (δ.set n .no) else .no
    | none => .no)
  | _ => .no
theorem g_tryA (T) (i n k) (es) (c f) (δ) : exs T (.tryA i n k es c f) δ = @bq _ _ _ ((evs T es δ).noex) ⟨fun rs δ => csA i n c f (callR T k rs δ)⟩ := by
  simp only [exs]
  cases evs T es δ with
  | ok rs δ1 =>
    simp only [Out.noex, bq_ok]
    cases callR T k rs δ1 with
    | ok r δ2 => cases r <;> rfl
    | ex c' δ2 => rfl
    | no => rfl
  | ex c δ1 => rfl
  | no => rfl
theorem bq_cs {S α : Type} (a : α) (s : S) : (Out.ok a s : Out S α).noex = .ok a s := rfl
theorem c_m1ok (δ) (z : Str) : m1ok δ .spl (.d (.str z)) = true ∧ m1ok δ .joi (.d (.str z)) = true := ⟨rfl, rfl⟩
/-! ### texts -/
section
open TL
theorem spl_ne (S : List Nat) : ∀ (l : List Nat) (k : Nat) (acc : List Nat), spl S k acc l ≠ []
  | [], k, acc => by rw [spl_nil]; simp
  | c :: r, 0, acc => by
    cases h : pre S (c :: r) with
    | true => rw [spl_hit h]; simp
    | false => rw [spl_miss h]; exact spl_ne S r 0 _
  | c :: r, k + 1, acc => spl_ne S r k acc
theorem pre_one {s c : Nat} {r : List Nat} (h : pre [s] (c :: r) = true) : c = s := by
  have : [c] = [s] := eq_of_beq h
  simpa using this
theorem joinL_spl (s : Nat) : ∀ (l acc : List Nat), joinL [s] (spl [s] 0 acc l) = acc ++ l
  | [], acc => by rw [spl_nil]; simp [joinL]
  | c :: r, acc => by
    cases h : pre [s] (c :: r) with
    | true =>
      rw [spl_hit h, pre_one h]
      have ih := joinL_spl s r []
      have hn := spl_ne [s] r 0 []
      show joinL [s] (acc :: spl [s] 0 [] r) = _
      cases hq : spl [s] 0 [] r with
      | nil => exact absurd hq hn
      | cons q rs =>
        rw [hq] at ih
        show acc ++ ([s] ++ joinL [s] (q :: rs)) = _
        rw [ih]
        rfl
    | false => rw [spl_miss h, joinL_spl s r _, List.append_assoc]; rfl
theorem joinL_len (s : Nat) : ∀ l : List (List Nat), (joinL [s] l).length ≤ (l.map List.length).sum + l.length
  | [] => by simp [joinL]
  | [p] => by simp [joinL]
  | p :: q :: r => by
    have ih := joinL_len s (q :: r)
    simp only [joinL, List.length_append, List.map_cons, List.sum_cons, List.length_cons, List.length_nil] at ih ⊢
    omega
theorem spl_sum (s : Nat) : ∀ (l acc : List Nat), ((spl [s] 0 acc l).map List.length).sum + (spl [s] 0 acc l).length = acc.length + l.length + 1
  | [], acc => by rw [spl_nil]; simp
  | c :: r, acc => by
    cases h : pre [s] (c :: r) with
    | true =>
      rw [spl_hit h]
      have ih := spl_sum s r []
      simp only [List.map_cons, List.sum_cons, List.length_cons, List.length_nil, Nat.sub_self] at ih ⊢
      show acc.length + _ + _ = _
      omega
    | false =>
      rw [spl_miss h]
      have ih := spl_sum s r (acc ++ [c])
      simp only [List.length_append, List.length_cons, List.length_nil] at ih ⊢
      omega
end
/-- a separator of one sign -/
structure Sep (y : Str) (s : Nat) : Prop where
  e : y.cps.toList = [s]
  k : y.cps.all (· < 256) = true
theorem sep_sp : Sep " " 32 := ⟨by decide +kernel, by decide +kernel⟩
theorem sep_nl : Sep "\n" 10 := ⟨by decide +kernel, by decide +kernel⟩
section
variable {y : Str} {s : Nat}
theorem Sep.spl (h : Sep y s) (x : Str) : (Txt.split x y).map (fun z => z.cps.toList) = TL.spl [s] 0 [] x.cps.toList := by
  have := TL.split_spl x y (by show y.cps.toList ≠ []; rw [h.e]; simp) (TL.kind_ok h.k)
  rw [show TL.tl y = [s] from h.e] at this
  exact this
theorem Sep.ne (h : Sep y s) (x : Str) : Txt.split x y ≠ [] := fun z => by
  have := h.spl x
  rw [z] at this
  exact spl_ne _ _ _ _ this.symm
theorem Sep.back (h : Sep y s) (x : Str) : Txt.join y (Txt.split x y) = x := by
  rw [TL.join_eq]
  refine TL.ext_tl ?_
  rw [TL.tl_join, show TL.tl y = [s] from h.e, show (Txt.split x y).map TL.tl = _ from h.spl x, joinL_spl]
  rfl
theorem Sep.sum (h : Sep y s) (x : Str) : ((Txt.split x y).map (·.length)).sum + (Txt.split x y).length = x.length + 1 := by
  have e := spl_sum s x.cps.toList []
  rw [← h.spl x, List.map_map, List.length_map] at e
  have f : ((fun l : List Nat => l.length) ∘ fun z : Str => z.cps.toList) = fun z : Str => z.length := by
    funext z
    exact (TL.len_tl z).symm
  rw [show (List.length ∘ fun z : Str => z.cps.toList) = fun z : Str => z.length from f] at e
  rw [TL.len_tl x]
  simpa using e
theorem Sep.jlen (h : Sep y s) (ps : List Str) : (Txt.join y ps).length ≤ (ps.map (·.length)).sum + ps.length := by
  rw [TL.join_eq, TL.len_tl, TL.tl_join, show TL.tl y = [s] from h.e]
  have e := joinL_len s (ps.map TL.tl)
  rw [List.map_map, List.length_map] at e
  have f : (List.length ∘ TL.tl) = fun z : Str => z.length := by
    funext z
    exact (TL.len_tl z).symm
  rw [f] at e
  exact e
theorem Sep.join (h : Sep y s) {ps : List Str} (hn : ps ≠ []) (hp : ∀ p ∈ ps, s ∉ p.cps.toList) : Txt.split (Txt.join y ps) y = ps :=
  TL.split_join (s := s) (S := []) h.e h.k hn hp
theorem Sep.len (h : Sep y s) : y.length = 1 := by rw [TL.len_tl, show TL.tl y = [s] from h.e]; rfl
theorem sum_mem : ∀ {ps : List Str} {p : Str}, p ∈ ps → p.length ≤ (ps.map (·.length)).sum
  | _ :: _, _, h => by
    rcases List.mem_cons.mp h with rfl | h
    · simp only [List.map_cons, List.sum_cons]; omega
    · have := sum_mem h
      simp only [List.map_cons, List.sum_cons]; omega
theorem Sep.part (h : Sep y s) {x p : Str} (hp : p ∈ Txt.split x y) : p.length ≤ x.length := by
  have a := h.sum x
  have b := sum_mem hp
  have c : 1 ≤ (Txt.split x y).length := List.length_pos_of_mem hp
  omega
theorem joinL_free {s : Nat} (S : List Nat) {t : Nat} (ht : t ∉ S) : ∀ {ps : List (List Nat)}, (∀ p ∈ ps, t ∉ p) → t ∉ TL.joinL S ps
  | [], _ => by simp [TL.joinL]
  | [p], h => h p (List.mem_singleton.mpr rfl)
  | p :: q :: r, h => by
    simp only [TL.joinL, List.mem_append, not_or]
    exact ⟨h p List.mem_cons_self, ht, joinL_free (s := s) S ht fun z hz => h z (List.mem_cons_of_mem _ hz)⟩
theorem Sep.free (h : Sep y s) {t : Nat} (ht : t ≠ s) {ps : List Str} (hp : ∀ p ∈ ps, t ∉ p.cps.toList) : t ∉ (Txt.join y ps).cps.toList := by
  rw [TL.join_eq]
  show t ∉ TL.tl _
  rw [TL.tl_join, show TL.tl y = [s] from h.e]
  refine joinL_free (s := s) [s] (by simpa using ht) fun p hq => ?_
  obtain ⟨z, hz, rfl⟩ := List.mem_map.mp hq
  exact hp z hz
end
theorem v_spl {x y : Str} {s : Nat} (h : Sep y s) (hl : x.length ≤ big) : m1v .spl (.str x) (.str y) = some (.lst ((Txt.split x y).map .str)) := by
  have e : (y.length == 0) = false := by rw [h.len]; rfl
  simp only [m1v]
  rw [if_pos ⟨e, hl⟩]
theorem v_joi {y : Str} {s : Nat} (h : Sep y s) {ps : List Str} (hl : (ps.map (·.length)).sum + ps.length ≤ 16000000) : m1v .joi (.str y) (.lst (ps.map .str)) = some (.str (Txt.join y ps)) := by
  simp only [m1v, strsD_map, Option.bind_some]
  rw [if_pos (by rw [h.len]; omega)]
mutual
theorem D.eq_self : ∀ (n : Nat) (d : D), D.shp n d = true → D.eq d d = true
  | _, .non, _ => by simp [D.eq]
  | _, .bl b, _ => by simp [D.eq]
  | _, .int i, _ => by simp [D.eq]
  | _, .str z, _ => by simp [D.eq]
  | 0, .tup xs, h => by simp [D.shp] at h
  | n + 1, .tup xs, h => by simp only [D.eq]; exact D.eqs_self n xs (by simpa [D.shp] using h)
  | 0, .lst xs, h => by simp [D.shp] at h
  | n + 1, .lst xs, h => by simp only [D.eq]; exact D.eqs_self n xs (by simpa [D.shp] using h)
  | 0, .frz xs, h => by simp [D.shp] at h
  | n + 1, .frz xs, h => by simp [D.shp] at h
theorem D.eqs_self : ∀ (n : Nat) (d : List D), D.shps n d = true → D.eqs d d = true
  | _, [], _ => by simp [D.eqs]
  | n, x :: xs, h => by
    simp only [D.shps, Bool.and_eq_true] at h
    simp only [D.eqs, D.eq_self n x h.1, D.eqs_self n xs h.2]
    rfl
end
theorem eqs_str : ∀ xs ys : List Str, D.eqs (xs.map .str) (ys.map .str) = decide (xs = ys)
  | [], [] => by simp [D.eqs]
  | [], _ :: _ => by simp [D.eqs]
  | _ :: _, [] => by simp [D.eqs]
  | x :: xs, y :: ys => by
    simp only [List.map_cons, D.eqs, eqs_str xs ys, D.eq]
    by_cases h : x = y <;> by_cases h2 : xs = ys <;> simp [h, h2]
/-- a text of real signs -/
def Real (x : Str) : Prop := ∀ c ∈ x.cps.toList, c < 0x110000
instance (x : Str) : Decidable (Real x) := inferInstanceAs (Decidable (∀ c ∈ x.cps.toList, c < 0x110000))
theorem Real.shp {x : Str} (h : Real x) (n : Nat) : D.shp n (.str x) = true := by
  have e : x.cps.all (· < 0x110000) = true := by
    rw [← Array.all_toList, List.all_eq_true]
    intro c hc
    exact decide_eq_true (h c hc)
  cases n <;> simpa [D.shp] using e
theorem shps_str (n : Nat) : ∀ xs : List Str, (∀ x ∈ xs, Real x) → D.shps n (xs.map .str) = true
  | [], _ => by simp [D.shps]
  | x :: xs, h => by
    rw [List.map_cons, D.shps, (h x List.mem_cons_self).shp n, shps_str n xs fun z hz => h z (List.mem_cons_of_mem _ hz)]
    rfl
theorem Real.app {x y : Str} (h : Real x) (k : Real y) : Real (x ++ y) := fun c hc => by
  have e : (x ++ y).cps.toList = x.cps.toList ++ y.cps.toList := TL.tl_append x y
  rw [e] at hc
  rcases List.mem_append.mp hc with q | q
  · exact h c q
  · exact k c q
theorem joinL_mem (S : List Nat) : ∀ {ps : List (List Nat)} {c : Nat}, c ∈ TL.joinL S ps → c ∈ S ∨ ∃ p ∈ ps, c ∈ p
  | [], _, h => by simp [TL.joinL] at h
  | [p], _, h => .inr ⟨p, List.mem_singleton.mpr rfl, h⟩
  | p :: q :: r, c, h => by
    simp only [TL.joinL, List.mem_append] at h
    rcases h with h | h | h
    · exact .inr ⟨p, List.mem_cons_self, h⟩
    · exact .inl h
    · rcases joinL_mem S h with q | ⟨z, hz, q⟩
      · exact .inl q
      · exact .inr ⟨z, List.mem_cons_of_mem _ hz, q⟩
theorem Real.join {y : Str} (hy : Real y) {ps : List Str} (h : ∀ p ∈ ps, Real p) : Real (Txt.join y ps) := fun c hc => by
  rw [TL.join_eq] at hc
  have hc : c ∈ TL.tl (Str.join y ps) := hc
  rw [TL.tl_join] at hc
  rcases joinL_mem _ hc with q | ⟨p, hp, q⟩
  · exact hy c q
  · obtain ⟨z, hz, rfl⟩ := List.mem_map.mp hp
    exact h z hz c q
theorem spl_mem (s : Nat) : ∀ (l acc p : List Nat) (c : Nat), p ∈ TL.spl [s] 0 acc l → c ∈ p → c ∈ acc ∨ c ∈ l
  | [], acc, p, c, h, hc => by
    rw [TL.spl_nil] at h
    cases List.mem_singleton.mp h
    exact .inl hc
  | d :: r, acc, p, c, h, hc => by
    cases hp : TL.pre [s] (d :: r) with
    | true =>
      rw [TL.spl_hit hp] at h
      rcases List.mem_cons.mp h with rfl | h
      · exact .inl hc
      · rcases spl_mem s r [] p c h hc with q | q
        · simp at q
        · exact .inr (List.mem_cons_of_mem _ q)
    | false =>
      rw [TL.spl_miss hp] at h
      rcases spl_mem s r _ p c h hc with q | q
      · rcases List.mem_append.mp q with q | q
        · exact .inl q
        · exact .inr (by rw [List.mem_singleton.mp q]; exact List.mem_cons_self)
      · exact .inr (List.mem_cons_of_mem _ q)
theorem Real.part {x y p : Str} {s : Nat} (hs : Sep y s) (h : Real x) (hp : p ∈ Txt.split x y) : Real p := fun c hc => by
  have e := hs.spl x
  have m : p.cps.toList ∈ TL.spl [s] 0 [] x.cps.toList := by rw [← e]; exact List.mem_map_of_mem hp
  rcases spl_mem s _ _ _ c m hc with q | q
  · simp at q
  · exact h c q
end G
local macro_rules | `(tactic| simp! only [$ls,*] $[$loc:location]?) => `(tactic| simp -implicitDefEqProofs only [G.D.eq, G.D.eqs, G.atD, G.RV.val, G.RV.arg, G.vals, G.argsOf, G.datas, G.ownsOf, G.back, G.setRo, G.setRos, G.bindT, G.bindC, G.wipeE, G.restE, G.asBl, G.cmpR, G.idxR, G.binR, G.nonE, G.asBnd, G.slR, G.bltR, G.mthR, G.isLR, G.okOuts, G.callR, G.Rt.dat, G.itv, G.itR, G.enmR, G.negR, G.asD, G.rtR, G.mine, G.ownL, G.appR, G.setIR, G.outs, G.argB, G.run, G.ofS_inj, G.wS_rim, G.wE_inj, G.shp_int, G.shp_bl, G.shp_non, G.shp_wS, G.shp_wE, G.shp_S, G.shp_dPl, G.lift_some, G.lift_none, G.bnd_ok, G.bind_ex, G.bind_no, G.free_zero, G.free_succ, G.notOwn_zero, G.notOwn_succ, G.frS_ro, G.frS_no, G.frS_ow, G.frS_osl, G.noS_ro, G.noS_no, G.noS_ow, G.noS_osl, G.osl_some, G.osl_none, G.blsD_map, G.intsD_map, G.strsD_map, G.s1, G.s2, G.s3, G.s4, G.s5, G.s6, G.s7, G.s8, G.s9, G.s10, G.s11, G.s12, G.s13, G.s14, G.s15, G.s16, G.s17, G.s18, G.s19, G.s20, G.s21, G.s22, G.s23, G.s24, G.s25, G.s26, G.s27, G.s28, G.s29, G.s30, G.s31, G.s32, G.s33, G.s34, G.s35, G.s36, G.s37, G.s38, G.s39, G.s40, G.s41, G.s42, G.s43, G.s44, G.s45, G.s46, G.s47, G.s48, G.s49, G.s50, G.s51, G.s52, G.s53, G.s54, G.s55, G.s56, G.s57, G.s58, G.s59, G.s60, G.s61, G.s62, G.s63, G.s64, G.v_add, G.v_sub, G.v_mul, G.v_fdiv, G.v_mod, G.sl_toT, G.sl_toL, G.sl_fromT, G.sl_fromL, G.sl_fromT1, G.sl_fromL1, G.ixT0, G.ixT1, G.ixT2, G.ixT3, G.ixT4, G.ixT5, G.ixT6, G.ixL0, G.ixL1, G.ixL2, G.ixL3, G.ixL4, G.ixL5, G.ixL6, G.ixF0, G.ixF1, G.ixF2, G.ixF3, G.ixF4, G.ixF5, G.ixF6, G.ixTn, G.ixLn, G.ixFn, G.bl1, G.bl2, G.bl3, G.bl4, G.bl5, G.bl6, G.bl7, G.bl8, G.bl9, G.bl10, G.bl11, G.bl12, G.bl13, G.bl14, G.bl15, G.bl16, G.bl17, G.bl18, G.bli0, G.bli1, G.bli2, G.bli3, G.bli4, G.k_isNon_non, G.k_isNon_bl, G.k_isNon_int, G.k_isNon_str, G.k_isNon_tup, G.k_isNon_lst, G.k_isNon_frz, G.k_isInt_non, G.k_isInt_bl, G.k_isInt_int, G.k_isInt_str, G.k_isInt_tup, G.k_isInt_lst, G.k_isInt_frz, G.k_isBl_non, G.k_isBl_bl, G.k_isBl_int, G.k_isBl_str, G.k_isBl_tup, G.k_isBl_lst, G.k_isBl_frz, G.k_isStr_non, G.k_isStr_bl, G.k_isStr_int, G.k_isStr_str, G.k_isStr_tup, G.k_isStr_lst, G.k_isStr_frz, G.k_isTup_non, G.k_isTup_bl, G.k_isTup_int, G.k_isTup_str, G.k_isTup_tup, G.k_isTup_lst, G.k_isTup_frz, G.k_isLst_non, G.k_isLst_bl, G.k_isLst_int, G.k_isLst_str, G.k_isLst_tup, G.k_isLst_lst, G.k_isLst_frz, G.k_flat_non, G.k_flat_bl, G.k_flat_int, G.k_flat_str, G.k_flat_tup, G.k_flat_lst, G.k_flat_frz, G.cm1, G.cm2, G.cm3, G.cm4, G.cm5, G.cm6, G.cm7, G.cm8, G.cm9, G.cm10, G.cm11, G.cm12, G.cm13, G.cm14, G.any0, G.any1, G.tRc, G.lRc, G.tPl, G.tSt, G.nRc, G.nPl, G.wE_caught, G.wE_out, G.wE_off, G.v_pow17, G.v_pow30, G.g_ev1, G.g_ev2, G.g_ev3, G.g_ev4, G.g_ev5, G.g_ev6, G.g_ev7, G.g_ev8, G.g_ev9, G.g_ev10, G.g_ev11, G.g_ev12, G.g_ev13, G.g_ev14, G.g_ev15, G.g_ev16, G.g_ev17, G.g_ev18, G.g_ev19, G.g_ev20, G.g_ev21, G.g_evs1, G.g_evs2, G.g_evi1, G.g_evi2, G.g_evi3, G.g_evi4, G.g_evF1, G.g_evF2, G.g_evF3, G.g_exs1, G.g_exs2, G.g_exs3, G.g_exs4, G.g_exs5, G.g_exs6, G.g_exs7, G.g_exs8, G.g_exs9, G.g_exs10, G.g_exs11, G.g_exs12, G.g_exs13, G.g_exs14, G.g_exs15, G.g_exs16, G.g_m1, G.g_nin, G.g_cget, G.g_gidx, G.g_raisN, G.g_tryA, G.g_Rm1, G.g_Rnin, G.g_Rcget, G.g_Rgidx, G.bq_cs, G.c_m1ok, G.g_srt, G.g_Rsrt, G.g_whl, G.g_asgL, G.g_evB, G.bq_ok, G.bq_ex, G.bq_no, G.g_R0, G.g_R1, G.g_R2, G.g_R3, G.g_R4, G.g_R5, G.g_R6, G.g_R7, G.g_R8, G.g_R9, G.g_R10, G.g_R11, G.g_R12, G.g_R13, G.g_R14, G.g_R15, G.g_R16, G.g_R17, G.g_Rlst, G.g_Rtup, G.g_Rcall, reduceIte, Nat.reduceAdd, Nat.reduceSub, Nat.reduceMul, Nat.reduceLT, Nat.reduceLeDiff, Nat.reduceEqDiff, Nat.reduceDiv, Nat.reduceMod, Int.reduceLE, Int.reduceLT, Int.reduceEq, Int.reduceNe, Int.reduceAdd, Int.reduceSub, Int.reduceMul, Int.reduceNeg, Int.reduceToNat, Int.reduceBEq, Int.reduceBNe, String.reduceEq, reduceCtorEq, Int.reduceAbs, Int.cast_ofNat_Int, $ls,*] $[$loc]?)
namespace G.k11
open PySem G
def b_is_from : S := (.ret (.and (.blt .isint (.cons (.var 0) .nil)) (.and (.not (.blt .isbool (.cons (.var 0) .nil))) (.chn .le .le (.var 1) (.var 0) (.var 2)))))
def R_is_from : Fn := run [] 3 b_is_from

def b_is_place : S := (.seq (.ite (.or (.not (.blt .istuple (.cons (.var 0) .nil))) (.or (.cmp .ne (.blt .len (.cons (.var 0) .nil)) (.lit (.int 2))) (.not (.blt .isstr (.cons (.idx (.var 0) (.lit (.int 0))) .nil))))) (.ret (.lit (.bl false))) .skip) (.ret (.and (.cmp .isin (.idx (.var 0) (.lit (.int 0))) (.con "SIDES" (.tup [(.str "rim"), (.str "mid")]))) (.call 0 (.cons (.idx (.var 0) (.lit (.int 1))) (.cons (.lit (.int 0)) (.cons (.con "MOST_PLACE" (.int 5)) .nil)))))))
def R_is_place : Fn := run [R_is_from] 1 b_is_place

def b_is_scratch : S := (.seq (.ite (.or (.not (.blt .istuple (.cons (.var 0) .nil))) (.or (.cmp .ne (.blt .len (.cons (.var 0) .nil)) (.lit (.int 4))) (.or (.not (.call 1 (.cons (.idx (.var 0) (.lit (.int 0))) .nil))) (.not (.call 1 (.cons (.idx (.var 0) (.lit (.int 1))) .nil)))))) (.ret (.lit (.bl false))) .skip) (.ret (.and (.call 0 (.cons (.idx (.var 0) (.lit (.int 2))) (.cons (.neg (.con "MOST_JUMP" (.int 3))) (.cons (.con "MOST_JUMP" (.int 3)) .nil)))) (.and (.cmp .ne (.idx (.var 0) (.lit (.int 2))) (.lit (.int 0))) (.call 0 (.cons (.idx (.var 0) (.lit (.int 3))) (.cons (.lit (.int 1)) (.cons (.lit (.int 2)) .nil))))))))
def R_is_scratch : Fn := run [R_is_from, R_is_place] 1 b_is_scratch

def x_has_record_1 : E := (.call 0 (.cons (.var 1) .nil))
def e_has_record_1 : E := (.comp [1] [1] (.itr (.var 0)) x_has_record_1)
def b_has_record : S := (.ret (.and (.blt .istuple (.cons (.var 0) .nil)) (.and (.cmp .le (.blt .len (.cons (.var 0) .nil)) (.con "MOST_SCRATCHES" (.int 3))) (.blt .all (.cons e_has_record_1 .nil)))))
def R_has_record : Fn := run [R_is_scratch] 2 b_has_record

def b_need_record : S := (.ite (.not (.call 0 (.cons (.var 0) .nil))) (.rais "InvalidRecord" "not a record") .skip)
def R_need_record : Fn := run [R_has_record] 1 b_need_record

def b_scratch_line : S := (.seq (.asgT [1, 2, 3, 4] (.var 0)) (.ret (.m1 .joi (.lit (.str " ")) (.lst (.cons (.idx (.var 1) (.lit (.int 0))) (.cons (.blt .str (.cons (.idx (.var 1) (.lit (.int 1))) .nil)) (.cons (.idx (.var 2) (.lit (.int 0))) (.cons (.blt .str (.cons (.idx (.var 2) (.lit (.int 1))) .nil)) (.cons (.blt .str (.cons (.var 3) .nil)) (.cons (.gidx "EVERY" [(1, "always"), (2, "second")] (.var 4)) .nil))))))))))
def R_scratch_line : Fn := run [] 5 b_scratch_line

def x_record_lines_1 : E := (.call 0 (.cons (.var 1) .nil))
def e_record_lines_1 : E := (.comp [1] [1] (.itr (.var 0)) x_record_lines_1)
def b_record_lines : S := (.ret (.bin .add (.lst (.cons (.lit (.str "record")) .nil)) e_record_lines_1))
def R_record_lines : Fn := run [R_scratch_line] 2 b_record_lines

def b_record_text : S := (.seq (.drop (.call 1 (.cons (.var 0) .nil))) (.ret (.m1 .joi (.lit (.str "\n")) (.call 0 (.cons (.var 0) .nil)))))
def R_record_text : Fn := run [R_record_lines, R_need_record] 1 b_record_text

def x_read_item_1 : E := (.blt .str (.cons (.var 3) .nil))
def e_read_item_1 : E := (.comp [3] [3] (.itr (.var 1)) x_read_item_1)
def b_read_item : S := (.seq (.asg 2 e_read_item_1) (.ret (.ifx (.cmp .isin (.var 0) (.var 2)) (.idx (.var 1) (.m1 .lix (.var 2) (.var 0))) (.lit .non))))
def R_read_item : Fn := run [] 4 b_read_item

def b_read_line : S := (.seq (.asg 1 (.m1 .spl (.var 0) (.lit (.str " ")))) (.seq (.ite (.cmp .ne (.blt .len (.cons (.var 1) .nil)) (.lit (.int 6))) (.ret (.lit .non)) .skip) (.seq (.asg 2 (.lrng (.rng1 (.bin .add (.con "MOST_PLACE" (.int 5)) (.lit (.int 1)))))) (.seq (.asg 3 (.lrng (.rng2 (.neg (.con "MOST_JUMP" (.int 3))) (.bin .add (.con "MOST_JUMP" (.int 3)) (.lit (.int 1)))))) (.seq (.asg 4 (.tup (.cons (.idx (.var 1) (.lit (.int 0))) (.cons (.call 1 (.cons (.idx (.var 1) (.lit (.int 1))) (.cons (.var 2) .nil))) .nil)))) (.seq (.asg 5 (.tup (.cons (.idx (.var 1) (.lit (.int 2))) (.cons (.call 1 (.cons (.idx (.var 1) (.lit (.int 3))) (.cons (.var 2) .nil))) .nil)))) (.seq (.asg 6 (.cget [("always", 1), ("second", 2)] (.idx (.var 1) (.lit (.int 5))))) (.seq (.asg 7 (.tup (.cons (.var 4) (.cons (.var 5) (.cons (.call 1 (.cons (.idx (.var 1) (.lit (.int 4))) (.cons (.var 3) .nil))) (.cons (.var 6) .nil)))))) (.ret (.ifx (.call 0 (.cons (.var 7) .nil)) (.var 7) (.lit .non)))))))))))
def R_read_line : Fn := run [R_is_scratch, R_read_item] 8 b_read_line

def b_read_record_1 : S := (.seq (.asg 5 (.call 1 (.cons (.var 4) .nil))) (.seq (.ite (.and (.cmp .is (.var 5) (.lit .non)) (.cmp .ne (.var 4) (.lit (.str "record")))) (.raisN "InvalidText" "line" (.bin .add (.var 3) (.lit (.int 1)))) .skip) (.app 2 (.var 5))))
def l_read_record_1 : S := (.forT [3, 4] (.enm (.var 1)) b_read_record_1)
def b_read_record : S := (.seq (.ite (.not (.blt .isstr (.cons (.var 0) .nil))) (.raisN "InvalidText" "line" (.lit (.int 0))) .skip) (.seq (.asgL [1] (.cons (.m1 .spl (.var 0) (.lit (.str "\n"))) .nil) 2) (.seq l_read_record_1 (.seq (.ite (.or (.cmp .isnot (.idx (.var 2) (.lit (.int 0))) (.lit .non)) (.or (.nin (.sl (.var 2) (.lit (.int 1)) (.lit .non))) (.not (.call 0 (.cons (.blt .tuple (.cons (.sl (.var 2) (.lit (.int 1)) (.lit .non)) .nil)) .nil))))) (.raisN "InvalidText" "line" (.bin .add (.blt .len (.cons (.var 1) .nil)) (.lit (.int 1)))) .skip) (.ret (.blt .tuple (.cons (.sl (.var 2) (.lit (.int 1)) (.lit .non)) .nil)))))))
def R_read_record : Fn := run [R_has_record, R_read_line] 6 b_read_record

def b__law_source : S := (.seq (.asg 2 (.ifx (.cmp .lt (.var 1) (.blt .len (.cons (.var 0) .nil))) (.blt .abs (.cons (.blt .int (.cons (.idx (.var 0) (.var 1)) .nil)) .nil)) (.bin .add (.bin .mul (.lit (.int 107)) (.var 1)) (.lit (.int 59))))) (.ret (.lst (.cons (.ifx (.cmp .gt (.var 2) (.bin .pow (.lit (.int 10)) (.lit (.int 17)))) (.var 2) (.lit (.int 0))) (.cons (.bin .mod (.blt .int (.cons (.bin .add (.bin .add (.bin .mul (.var 2) (.lit (.int 16807))) (.bin .mul (.lit (.int 10039)) (.var 1))) (.lit (.int 79))) .nil)) (.lit (.int 2147483237))) .nil)))))
def R__law_source : Fn := run [] 3 b__law_source

def b__law_draw : S := (.seq (.ite (.cmp .gt (.idx (.var 0) (.lit (.int 0))) (.lit (.int 0))) (.seq (.asg 2 (.bin .mod (.blt .int (.cons (.idx (.var 0) (.lit (.int 0))) .nil)) (.var 1))) (.seq (.setI 0 (.lit (.int 0)) (.bin .fdiv (.idx (.var 0) (.lit (.int 0))) (.var 1))) (.ret (.var 2)))) .skip) (.seq (.setI 0 (.lit (.int 1)) (.bin .mod (.blt .int (.cons (.bin .add (.bin .mul (.idx (.var 0) (.lit (.int 1))) (.lit (.int 48271))) (.lit (.int 83))) .nil)) (.lit (.int 2147483237)))) (.seq (.asg 3 (.bin .mod (.blt .int (.cons (.bin .mul (.idx (.var 0) (.lit (.int 1))) (.bin .add (.bin .fdiv (.idx (.var 0) (.lit (.int 1))) (.lit (.int 41))) (.lit (.int 26)))) .nil)) (.lit (.int 2147483179)))) (.ret (.bin .mod (.blt .int (.cons (.bin .fdiv (.var 3) (.lit (.int 32))) .nil)) (.var 1))))))
def R__law_draw : Fn := run [] 4 b__law_draw

def b__law_choice : S := (.ret (.idx (.var 1) (.call 0 (.cons (.var 0) (.cons (.blt .len (.cons (.var 1) .nil)) .nil)))))
def R__law_choice : Fn := run [R__law_draw] 2 b__law_choice

def b__law_place : S := (.ret (.tup (.cons (.call 1 (.cons (.var 0) (.cons (.lst (.cons (.lit (.str "rim")) (.cons (.lit (.str "mid")) .nil))) .nil))) (.cons (.call 0 (.cons (.var 0) (.cons (.lit (.int 6)) .nil))) .nil))))
def R__law_place : Fn := run [R__law_draw, R__law_choice] 1 b__law_place

def b__law_record_1 : S := (.seq (.asgP [6, 7] (.cons (.call 2 (.cons (.var 0) .nil)) (.cons (.call 2 (.cons (.var 0) .nil)) .nil))) (.seq (.asg 4 (.call 0 (.cons (.var 0) (.cons (.lit (.int 4)) .nil)))) (.seq (.ite (.cmp .eq (.var 4) (.lit (.int 0))) (.asgP [6, 7] (.cons (.tup (.cons (.lit (.str "rim")) (.cons (.idx (.var 6) (.lit (.int 1))) .nil))) (.cons (.tup (.cons (.lit (.str "mid")) (.cons (.idx (.var 7) (.lit (.int 1))) .nil))) .nil))) .skip) (.seq (.ite (.cmp .eq (.var 4) (.lit (.int 1))) (.asg 7 (.var 6)) .skip) (.seq (.asg 5 (.call 1 (.cons (.var 0) (.cons (.lst (.cons (.neg (.lit (.int 3))) (.cons (.neg (.lit (.int 2))) (.cons (.neg (.lit (.int 1))) (.cons (.lit (.int 1)) (.cons (.lit (.int 2)) (.cons (.lit (.int 3)) .nil))))))) .nil)))) (.asg 2 (.bin .add (.var 2) (.tup (.cons (.tup (.cons (.var 6) (.cons (.var 7) (.cons (.var 5) (.cons (.bin .add (.lit (.int 1)) (.call 0 (.cons (.var 0) (.cons (.lit (.int 2)) .nil)))) .nil))))) .nil)))))))))
def l__law_record_1 : S := (.for1 3 (.rng1 (.call 0 (.cons (.var 0) (.cons (.bin .add (.var 1) (.lit (.int 1))) .nil)))) b__law_record_1)
def b__law_record : S := (.seq (.asg 2 (.tup .nil)) (.seq l__law_record_1 (.ret (.var 2))))
def R__law_record : Fn := run [R__law_draw, R__law_choice, R__law_place] 8 b__law_record

def b__law_line_1 : S := (.asg 1 (.bin .add (.var 1) (.lst (.cons (.var 2) (.cons (.blt .str (.cons (.var 3) .nil)) .nil)))))
def l__law_line_1 : S := (.forT [2, 3] (.itr (.sl (.var 0) (.lit .non) (.lit (.int 2)))) b__law_line_1)
def b__law_line : S := (.seq (.asg 1 (.lst .nil)) (.seq l__law_line_1 (.ret (.m1 .joi (.lit (.str " ")) (.bin .add (.var 1) (.lst (.cons (.blt .str (.cons (.idx (.var 0) (.lit (.int 2))) .nil)) (.cons (.idx (.lst (.cons (.lit (.str "always")) (.cons (.lit (.str "second")) .nil))) (.bin .sub (.idx (.var 0) (.lit (.int 3))) (.lit (.int 1)))) .nil))))))))
def R__law_line : Fn := run [] 4 b__law_line

def b__law_is_line : S := (.seq (.asg 1 (.m1 .spl (.var 0) (.lit (.str " ")))) (.seq (.ite (.cmp .eq (.var 1) (.lst (.cons (.lit (.str "record")) .nil))) (.ret (.lit (.bl true))) .skip) (.seq (.ite (.or (.cmp .ne (.blt .len (.cons (.var 1) .nil)) (.lit (.int 6))) (.or (.cmp .notin (.idx (.var 1) (.lit (.int 0))) (.lst (.cons (.lit (.str "rim")) (.cons (.lit (.str "mid")) .nil)))) (.cmp .notin (.idx (.var 1) (.lit (.int 2))) (.lst (.cons (.lit (.str "rim")) (.cons (.lit (.str "mid")) .nil)))))) (.ret (.lit (.bl false))) .skip) (.seq (.asg 2 (.lst (.cons (.lit (.str "0")) (.cons (.lit (.str "1")) (.cons (.lit (.str "2")) (.cons (.lit (.str "3")) (.cons (.lit (.str "4")) (.cons (.lit (.str "5")) .nil)))))))) (.seq (.ite (.or (.cmp .notin (.idx (.var 1) (.lit (.int 1))) (.var 2)) (.or (.cmp .notin (.idx (.var 1) (.lit (.int 3))) (.var 2)) (.cmp .notin (.idx (.var 1) (.lit (.int 5))) (.lst (.cons (.lit (.str "always")) (.cons (.lit (.str "second")) .nil)))))) (.ret (.lit (.bl false))) .skip) (.ret (.cmp .isin (.idx (.var 1) (.lit (.int 4))) (.lst (.cons (.lit (.str "-3")) (.cons (.lit (.str "-2")) (.cons (.lit (.str "-1")) (.cons (.lit (.str "1")) (.cons (.lit (.str "2")) (.cons (.lit (.str "3")) .nil))))))))))))))
def R__law_is_line : Fn := run [] 3 b__law_is_line

def b__law_scratch : S := (.seq (.asg 1 (.m1 .spl (.var 0) (.lit (.str " ")))) (.ret (.tup (.cons (.tup (.cons (.idx (.var 1) (.lit (.int 0))) (.cons (.blt .int (.cons (.idx (.var 1) (.lit (.int 1))) .nil)) .nil))) (.cons (.tup (.cons (.idx (.var 1) (.lit (.int 2))) (.cons (.blt .int (.cons (.idx (.var 1) (.lit (.int 3))) .nil)) .nil))) (.cons (.blt .int (.cons (.idx (.var 1) (.lit (.int 4))) .nil)) (.cons (.bin .add (.lit (.int 1)) (.blt .int (.cons (.cmp .eq (.idx (.var 1) (.lit (.int 5))) (.lit (.str "second"))) .nil))) .nil)))))))
def R__law_scratch : Fn := run [] 2 b__law_scratch

def x__law_due_1 : E := (.call 0 (.cons (.var 3) .nil))
def e__law_due_1 : E := (.comp [3] [3] (.itr (.sl (.var 1) (.lit (.int 1)) (.lit .non))) x__law_due_1)
def b__law_due_1 : S := (.ite (.not (.call 1 (.cons (.var 3) .nil))) (.ret (.bin .add (.var 2) (.lit (.int 1)))) .skip)
def l__law_due_1 : S := (.forT [2, 3] (.enm (.var 1)) b__law_due_1)
def b__law_due : S := (.seq (.asg 1 (.m1 .spl (.var 0) (.lit (.str "\n")))) (.seq l__law_due_1 (.seq (.ite (.or (.cmp .ne (.idx (.var 1) (.lit (.int 0))) (.lit (.str "record"))) (.or (.cmp .gt (.mth .count (.var 1) (.cons (.lit (.str "record")) .nil)) (.lit (.int 1))) (.cmp .gt (.blt .len (.cons (.var 1) .nil)) (.lit (.int 4))))) (.ret (.bin .add (.blt .len (.cons (.var 1) .nil)) (.lit (.int 1)))) .skip) (.ret (.blt .tuple (.cons e__law_due_1 .nil))))))
def R__law_due : Fn := run [R__law_scratch, R__law_is_line] 4 b__law_due

def b__law_bent : S := (.seq (.asg 2 (.lst (.cons (.lit (.str " ")) (.cons (.lit (.str "rim")) (.cons (.lit (.str "mid")) (.cons (.lit (.str "1")) (.cons (.lit (.str "6")) (.cons (.lit (.str "0")) (.cons (.lit (.str "")) (.cons (.lit (.str "-")) (.cons (.lit (.str "\nrecord")) (.cons (.lit (.str "always")) (.cons (.lit (.str "\nrim 0 mid 0 1 second")) (.cons (.lit (.str "+")) (.cons (.lit (.str "x")) .nil))))))))))))))) (.seq (.asg 3 (.call 1 (.cons (.var 0) (.cons (.bin .add (.blt .len (.cons (.var 1) .nil)) (.lit (.int 1))) .nil)))) (.seq (.asg 1 (.bin .add (.bin .add (.sl (.var 1) (.lit .non) (.var 3)) (.call 0 (.cons (.var 0) (.cons (.var 2) .nil)))) (.sl (.var 1) (.bin .add (.var 3) (.call 1 (.cons (.var 0) (.cons (.lit (.int 3)) .nil)))) (.lit .non)))) (.seq (.asg 4 (.m1 .spl (.var 1) (.lit (.str "\n")))) (.seq (.asg 5 (.lst (.cons (.var 1) (.cons (.var 1) (.cons (.var 1) (.cons (.m1 .joi (.lit (.str "\n")) (.rev (.var 4))) (.cons (.m1 .joi (.lit (.str "\n")) (.sl (.var 4) (.lit (.int 1)) (.lit .non))) (.cons (.m1 .joi (.lit (.str "\n")) (.bin .add (.var 4) (.sl (.var 4) (.lit (.int 1)) (.lit .non)))) .nil)))))))) (.ret (.call 0 (.cons (.var 0) (.cons (.var 5) .nil)))))))))
def R__law_bent : Fn := run [R__law_choice, R__law_draw] 6 b__law_bent

def b__law_tried : S := (.seq (.asg 1 (.lit .non)) (.seq (.tryA 1 2 0 (.cons (.var 0) .nil) "InvalidText" "line") (.ret (.var 1))))
def R__law_tried : Fn := run [R_read_record] 3 b__law_tried

def x_law_1 : E := (.call 0 (.cons (.var 5) .nil))
def e_law_1 : E := (.comp [5] [5] (.itr (.var 11)) x_law_1)
def q_law_1 : S := (.ret (.cmp .eq e_law_1 (.var 12)))
def q_law_2 : S := (.asg 12 (.lst (.cons (.lit (.int 1)) (.cons (.tup .nil) (.cons (.tup (.cons (.tup (.cons (.tup (.cons (.lit (.str "rim")) (.cons (.lit (.int 0)) .nil))) (.cons (.tup (.cons (.lit (.str "mid")) (.cons (.lit (.int 5)) .nil))) (.cons (.neg (.lit (.int 3))) (.cons (.lit (.int 2)) .nil))))) .nil)) (.cons (.lit (.int 2)) (.cons (.lit (.int 2)) (.cons (.lit (.int 3)) (.cons (.lit (.int 1)) (.cons (.lit (.int 6)) (.cons (.lit (.int 2)) (.cons (.lit (.int 2)) (.cons (.lit (.int 2)) (.cons (.lit (.int 1)) (.cons (.lit (.int 2)) (.cons (.lit (.int 3)) (.cons (.lit (.int 2)) (.cons (.lit (.int 2)) .nil))))))))))))))))))
def q_law_3 : S := (.asg 11 (.bin .add (.var 11) (.lst (.cons (.bin .add (.var 10) (.lit (.str "rim 00 mid 5 1 always"))) (.cons (.bin .add (.var 10) (.lit (.str "rim 0 mid 5 1 never"))) .nil)))))
def q_law_4 : S := (.asg 11 (.bin .add (.var 11) (.lst (.cons (.bin .add (.var 10) (.lit (.str "rim 0 mid 5 +1 always"))) (.cons (.lit (.str "record ")) (.cons (.bin .add (.bin .add (.var 10) (.var 9)) (.lit (.str " "))) (.cons (.bin .add (.var 9) (.lit (.str "\nrecord"))) .nil)))))))
def q_law_5 : S := (.asg 11 (.bin .add (.var 11) (.lst (.cons (.bin .add (.var 10) (.m1 .joi (.lit (.str "\n")) (.bin .mul (.lst (.cons (.var 9) .nil)) (.lit (.int 4))))) (.cons (.bin .add (.var 10) (.lit (.str "rim 0 mid 6 1 always"))) (.cons (.bin .add (.var 10) (.lit (.str "rim 0 mid 5 0 always"))) .nil))))))
def q_law_6 : S := (.asg 11 (.lst (.cons (.lit (.str "")) (.cons (.lit (.str "record")) (.cons (.bin .add (.var 10) (.var 9)) (.cons (.var 9) (.cons (.var 10) (.cons (.lit (.str "record\nrecord")) (.cons (.lit (.str "records")) .nil)))))))))
def q_law_7 : S := (.asg 10 (.lit (.str "record\n")))
def q_law_8 : S := (.asg 9 (.lit (.str "rim 0 mid 5 -3 second")))
def b_law_1 : S := (.ite (.cmp .ne (.call 0 (.cons (.var 7) .nil)) (.lit (.int 0))) (.ret (.lit (.bl false))) .skip)
def l_law_1 : S := (.for1 7 (.itr (.lst (.cons (.lit .non) (.cons (.lit (.int 5)) (.cons (.tup (.cons (.var 5) .nil)) (.cons (.lst (.cons (.var 5) .nil)) (.cons (.lit (.bl true)) (.cons (.var 3) .nil)))))))) b_law_1)
def q_law_9 : S := (.ite (.cmp .ne (.call 0 (.cons (.var 5) .nil)) (.call 1 (.cons (.var 5) .nil))) (.ret (.lit (.bl false))) .skip)
def q_law_10 : S := (.asg 5 (.sl (.call 2 (.cons (.var 2) (.cons (.ifx (.cmp .eq (.bin .mod (.var 6) (.lit (.int 3))) (.lit (.int 0))) (.var 4) (.var 5)) .nil))) (.lit .non) (.lit (.int 400))))
def b_law_2 : S := (.seq q_law_10 q_law_9)
def l_law_2 : S := (.for1 6 (.rng1 (.lit (.int 20))) b_law_2)
def q_law_11 : S := (.asg 5 (.var 4))
def q_law_12 : S := (.ite (.or (.cmp .ne (.call 4 (.cons (.var 3) .nil)) (.var 4)) (.cmp .ne (.call 3 (.cons (.var 4) .nil)) (.var 3))) (.ret (.lit (.bl false))) .skip)
def x_law_2 : E := (.call 5 (.cons (.var 8) .nil))
def e_law_2 : E := (.comp [8] [8] (.itr (.var 3)) x_law_2)
def q_law_13 : S := (.asg 4 (.m1 .joi (.lit (.str "\n")) (.bin .add (.lst (.cons (.lit (.str "record")) .nil)) e_law_2)))
def q_law_14 : S := (.asg 3 (.call 6 (.cons (.var 2) (.cons (.lit (.int 3)) .nil))))
def q_law_15 : S := (.asgO 2 (.call 7 (.cons (.var 0) (.cons (.var 1) .nil))))
def b_law_3 : S := (.seq q_law_15 (.seq q_law_14 (.seq q_law_13 (.seq q_law_12 (.seq q_law_11 (.seq l_law_2 l_law_1))))))
def l_law_3 : S := (.for1 1 (.rng1 (.bin .add (.lit (.int 1)) (.blt .min2 (.cons (.blt .len (.cons (.var 0) .nil)) (.cons (.lit (.int 10)) .nil))))) b_law_3)
def b_law : S := (.seq l_law_3 (.seq q_law_8 (.seq q_law_7 (.seq q_law_6 (.seq q_law_5 (.seq q_law_4 (.seq q_law_3 (.seq q_law_2 q_law_1))))))))
def R_law : Fn := run [R__law_tried, R__law_due, R__law_bent, R_read_record, R_record_text, R__law_line, R__law_record, R__law_source] 13 b_law

end G.k11
namespace G.k11
open PySem G
open G.M (Pl Sc Rc St En)
structure OkR (r : Rc) : Prop where
  ok : M.Ok r
  le : r.length ≤ 3
theorem r_is_from (v lo hi : Int) : R_is_from [.ro (.int v), .ro (.int lo), .ro (.int hi)] = .ok (.d (.bl (decide (lo ≤ v ∧ v ≤ hi)))) [.ro (.int v), .ro (.int lo), .ro (.int hi)] := by
  simp only [R_is_from, b_is_from]
  by_cases h : lo ≤ v <;> simp! only [h]
theorem r_is_place {p : Pl} (h : p.ok) : R_is_place [.ro (dPl p)] = .ok (.d (.bl true)) [.ro (dPl p)] := by
  obtain ⟨h1, h2⟩ := h
  simp only [R_is_place, b_is_place, dPl]
  cases hr : p.rim <;> simp! only [r_is_from, h1, h2, wS, List.any_cons, List.any_nil, hr]
theorem r_is_scratch {s : Sc} (h : s.ok) : R_is_scratch [.ro (dSc s)] = .ok (.d (.bl true)) [.ro (dSc s)] := by
  obtain ⟨ha, hb, h1, h2, h3⟩ := h
  simp only [R_is_scratch, b_is_scratch, dSc, dEv]
  cases he : s.e <;> simp! only [r_is_from, r_is_place ha, r_is_place hb, h1, h2, h3]
theorem dRc_tup (r : Rc) : dRc r = .tup (r.map dSc) := rfl
theorem r_has_record {r : Rc} (h : OkR r) : R_has_record [.ro (dRc r)] = .ok (.d (.bl true)) [.ro (dRc r)] := by
  obtain ⟨h, hl⟩ := h
  have hc : ev [R_is_scratch] e_has_record_1 [.ro (.tup (r.map dSc)), .no] = .ok (.d (.lst ((r.map fun _ => true).map .bl))) [.ro (.tup (r.map dSc)), .no] := by
    have e : (r.map fun _ => true).map D.bl = (r.map dSc).map fun _ => D.bl true := by simp [List.map_map]
    rw [e]
    unfold e_has_record_1
    refine comp1 (fun _ => .bl true) (by simp! only []) (by rfl) (by simp) (by simp [big]; omega) ?_
    intro x hx
    obtain ⟨s, hs, rfl⟩ := List.mem_map.1 hx
    unfold x_has_record_1
    simp! only [r_is_scratch (h s hs)]
  have h2 : ((r.length : Int) ≤ 3) = True := eq_true (by omega)
  have h4 : ((r.map fun _ => true).all id) = true := by simp
  simp only [R_has_record, b_has_record, dRc]
  simp! only [hc, h4, h2]
theorem r_need_record {r : Rc} (h : OkR r) : R_need_record [.ro (dRc r)] = .ok (.d .non) [.ro (dRc r)] := by
  simp only [R_need_record, b_need_record]
  simp! only [r_has_record h]
def oI : Option (Nat × Sc) → D
  | none => .non
  | some (k, _) => .int k
end G.k11
namespace G.k11
open PySem G
open G.M (Pl Sc Rc St En)
def oR : Option Int → D
  | none => .non
  | some k => .int k
end G.k11
namespace G.k11
open PySem G
open G.M (Pl Sc Rc St En It)
theorem r_source0 (ns : List Int) (k : Nat) (c : Int) (m1 : ∀ i : Int, mulOk i 16807 = true) (m2 : ∀ i : Int, mulOk 10039 i = true) (m3 : ∀ i : Int, mulOk 107 i = true)  (hc : ¬ (100000000000000000 < c)) (h' : ((k : Int) < (ns.length : Int)) = False) (hC : 107 * (k : Int) + 59 = c) :
  R__law_source [.ro (.frz (ns.map .int)), .ro (.int k)] = .ok (.fr (.lst [.int 0, .int ((c * 16807 + 10039 * (k : Int) + 79).fmod 2147483237)])) [.ro (.frz (ns.map .int)), .ro (.int k)] := by
  simp only [R__law_source, b__law_source]
  simp! only [h', m1, m2, m3, gt_iff_lt, hC, hc]
theorem r_source (ns : List Int) (k : Nat) (hk : k ≤ 63) : ∃ a b, Src a b ∧ R__law_source [.ro (.frz (ns.map .int)), .ro (.int k)] = .ok (.fr (.lst [.int a, .int b])) [.ro (.frz (ns.map .int)), .ro (.int k)] := by
  have m1 : ∀ i : Int, mulOk i 16807 = true := fun i => mulOk_of' (by omega) (by omega)
  have m2 : ∀ i : Int, mulOk 10039 i = true := fun i => mulOk_of (by omega) (by omega)
  have m3 : ∀ i : Int, mulOk 107 i = true := fun i => mulOk_of (by omega) (by omega)
  have key : ∀ c : Int, 0 ≤ c → Src c ((c * 16807 + 10039 * (k : Int) + 79).fmod 2147483237) ∧ Src 0 ((c * 16807 + 10039 * (k : Int) + 79).fmod 2147483237) := fun c hc =>
    ⟨⟨hc, fm0 (by omega), fm1 (by omega)⟩, ⟨by omega, fm0 (by omega), fm1 (by omega)⟩⟩
  by_cases h : k < ns.length
  · have g : (ns.map D.int)[k]? = some (.int ns[k]) := by simp [h]
    have h' : ((k : Int) < (ns.length : Int)) = True := eq_true (by omega)
    have hc0 : 0 ≤ (if ns[k] < 0 then -ns[k] else ns[k]) := by split <;> omega
    generalize hC : (if ns[k] < 0 then -ns[k] else ns[k]) = c at *
    by_cases hc : 100000000000000000 < c
    · refine ⟨_, _, (key c hc0).1, ?_⟩
      simp only [R__law_source, b__law_source]
      simp! only [h', g, m1, m2, gt_iff_lt, hC, hc]
    · refine ⟨_, _, (key c hc0).2, ?_⟩
      simp only [R__law_source, b__law_source]
      simp! only [h', g, m1, m2, gt_iff_lt, hC, hc]
  · have h' : ((k : Int) < (ns.length : Int)) = False := eq_false (by omega)
    exact ⟨_, _, (key (107 * (k : Int) + 59) (by omega)).2, r_source0 ns k _ m1 m2 m3 (by omega) h' rfl⟩
theorem r_draw {a b : Int} (h : Src a b) {m : Int} (h1 : 1 ≤ m) (h2 : m < 1073741824) (p : Bool) : ∃ v a' b', Src a' b' ∧ 0 ≤ v ∧ v < m ∧
    R__law_draw [dSrc true a b, .ro (.int m)] = .ok (.d (.int v)) [dSrc true a' b', .ro (.int m)] := by
  obtain ⟨a0, b0, b1⟩ := h
  have m0 : ¬ m = 0 := by omega
  have m1 : (m.natAbs < 1073741824) = True := eq_true (by omega)
  simp only [R__law_draw, b__law_draw, dSrc]
  by_cases hp : 0 < a
  · refine ⟨a.fmod m, a.fdiv m, b, ⟨fd0 a0 (by omega), b0, b1⟩, fm0 (by omega), fm1 (by omega), ?_⟩
    simp! only [gt_iff_lt, hp, m0, m1, setIR]
  · have n0 : 0 ≤ (b * 48271 + 83).fmod 2147483237 := fm0 (by omega)
    have n1 : (b * 48271 + 83).fmod 2147483237 < 2147483237 := fm1 (by omega)
    have q1 : mulOk b 48271 = true := mulOk_of' (by omega) (by omega)
    generalize hc : (b * 48271 + 83).fmod 2147483237 = c at *
    have q2 : ∀ x, mulOk c x = true := fun x => mulOk_l (by omega) (by omega)
    refine ⟨(((c * (c.fdiv 41 + 26)).fmod 2147483179).fdiv 32).fmod m, a, c, ⟨a0, n0, n1⟩, fm0 (by omega), fm1 (by omega), ?_⟩
    simp! only [gt_iff_lt, hp, m0, m1, setIR, q1, hc, q2]
end G.k11
namespace G.k11
open PySem G
open G.M (Pl Sc Rc St En It)
theorem r_choice {a b : Int} (h : Src a b) (xs : List D) (h1 : 1 ≤ xs.length) (h2 : xs.length < 1000) : ∃ x a' b', Src a' b' ∧ x ∈ xs ∧
    R__law_choice [dSrc true a b, .ro (.lst xs)] = .ok (.d x) [dSrc true a' b', .ro (.lst xs)] := by
  obtain ⟨v, a', b', hs, h3, h4, e⟩ := r_draw h (m := xs.length) (by omega) (by omega) true
  have hv : v = (v.toNat : Nat) := by omega
  have hl : v.toNat < xs.length := by omega
  rw [hv] at e
  refine ⟨xs[v.toNat], a', b', hs, List.getElem_mem hl, ?_⟩
  have g : xs[v.toNat]? = some xs[v.toNat] := by simp [hl]
  simp only [R__law_choice, b__law_choice, dSrc] at *
  simp! only [e, g]
theorem r_place {a b : Int} (h : Src a b) : ∃ p a' b', Src a' b' ∧ M.Pl.ok p ∧ R__law_place [dSrc true a b] = .ok (.d (dPl p)) [dSrc true a' b'] := by
  obtain ⟨x, a1, b1, h1, hx, e1⟩ := r_choice h [.str "rim", .str "mid"] (by simp) (by simp)
  obtain ⟨v, a2, b2, h2, h3, h4, e2⟩ := r_draw h1 (m := 6) (by omega) (by omega) true
  have : ∃ c, x = .str (wS c) := by
    simp only [List.mem_cons, List.not_mem_nil, or_false] at hx
    rcases hx with rfl | rfl
    · exact ⟨true, rfl⟩
    · exact ⟨false, rfl⟩
  obtain ⟨c, rfl⟩ := this
  refine ⟨⟨c, v⟩, a2, b2, h2, ⟨h3, by show v ≤ 5; omega⟩, ?_⟩
  simp only [R__law_place, b__law_place, dSrc, dPl] at *
  simp! only [e1, e2]
abbrev E5 (a b : Int) (m : Int) (r : Rc) (o3 o4 o5 o6 o7 : Option D) : List Sl := [dSrc true a b, .ro (.int m), .ro (dRc r), osl o3, osl o4, osl o5, osl o6, osl o7]
theorem b_record {a b : Int} (h : Src a b) (m : Int) {r : Rc} (hr : M.Ok r) (hl : r.length < 3) (x : D) (o4 o5 o6 o7 : Option D) :
    ∃ c a' b' p4 p5 p6 p7, Src a' b' ∧ M.Sc.ok c ∧ exs [R__law_draw, R__law_choice, R__law_place] b__law_record_1 (E5 a b m r (some x) o4 o5 o6 o7) = .ok .nx (E5 a' b' m (r ++ [c]) (some x) p4 p5 p6 p7) := by
  obtain ⟨q1, a1, b1, h1, k1, e1⟩ := r_place h
  obtain ⟨q2, a2, b2, h2, k2, e2⟩ := r_place h1
  obtain ⟨w, a3, b3, h3, w1, w2, e3⟩ := r_draw h2 (m := 4) (by omega) (by omega) true
  obtain ⟨j, a4, b4, h4, hj, e4⟩ := r_choice h3 [.int (-3), .int (-2), .int (-1), .int 1, .int 2, .int 3] (by simp) (by simp)
  obtain ⟨v, a5, b5, h5, v1, v2, e5⟩ := r_draw h4 (m := 2) (by omega) (by omega) true
  have hj' : ∃ i : Int, j = .int i ∧ -3 ≤ i ∧ i ≤ 3 ∧ i ≠ 0 := by
    simp only [List.mem_cons, List.not_mem_nil, or_false] at hj
    rcases hj with rfl | rfl | rfl | rfl | rfl | rfl <;> exact ⟨_, rfl, by omega, by omega, by omega⟩
  obtain ⟨i, rfl, i1, i2, i3⟩ := hj'
  have hv : ∃ e : Bool, dEv e = .int (1 + v) := by
    have : v = 0 ∨ v = 1 := by omega
    rcases this with rfl | rfl
    · exact ⟨false, rfl⟩
    · exact ⟨true, rfl⟩
  obtain ⟨e, he⟩ := hv
  have fin : ∀ s t : Pl, s.ok → t.ok → M.Sc.ok ⟨s, t, i, e⟩ := fun s t hs ht => ⟨hs, ht, i1, i2, i3⟩
  have hadd : ∀ d : D, binv .add (dRc r) (.tup [d]) = some (.tup (r.map dSc ++ [d])) := fun d => v_addT (by simp [big]; omega)
  have hsn : ∀ s t : Pl, D.tup (r.map dSc ++ [.tup [dPl s, dPl t, .int i, .int (1 + v)]]) = dRc (r ++ [⟨s, t, i, e⟩]) := fun s t => by
    simp only [dRc, List.map_append, List.map_cons, List.map_nil, dSc, he]
  have rim : Str.ofString "rim" = wS true := rfl
  have md : Str.ofString "mid" = wS false := rfl
  simp only [b__law_record_1, E5, dSrc, dPl] at *
  by_cases w0 : w = 0
  · refine ⟨⟨⟨true, q1.p⟩, ⟨false, q2.p⟩, i, e⟩, a5, b5, some (.int w), some (.int i), some (dPl ⟨true, q1.p⟩), some (dPl ⟨false, q2.p⟩), h5, fin ⟨true, q1.p⟩ ⟨false, q2.p⟩ k1 k2, ?_⟩
    have g1 : ((0 : Int) = 1) = False := by simp
    simp! only [e1, e2, e3, e4, e5, w0, g1, hadd, rim, md, dPl]
    rw [hsn ⟨true, q1.p⟩ ⟨false, q2.p⟩]
  · by_cases w1 : w = 1
    · refine ⟨⟨q1, q1, i, e⟩, a5, b5, some (.int w), some (.int i), some (dPl q1), some (dPl q1), h5, fin q1 q1 k1 k1, ?_⟩
      have g1 : ((1 : Int) = 0) = False := by simp
      simp! only [e1, e2, e3, e4, e5, w1, g1, hadd]
      rw [hsn q1 q1]
      rfl
    · refine ⟨⟨q1, q2, i, e⟩, a5, b5, some (.int w), some (.int i), some (dPl q1), some (dPl q2), h5, fin q1 q2 k1 k2, ?_⟩
      simp! only [e1, e2, e3, e4, e5, w0, w1, hadd]
      rw [hsn q1 q2]
      rfl
theorem l_record (m : Int) : ∀ (k a : Nat) (sa sb : Int) (r : Rc) (o3 o4 o5 o6 o7 : Option D), Src sa sb → M.Ok r → r.length + k ≤ 3 →
    ∃ r' a' b' p3 p4 p5 p6 p7, Src a' b' ∧ M.Ok r' ∧ r'.length ≤ 3 ∧ loopF (fun x δ => setRo δ 3 x) (exs [R__law_draw, R__law_choice, R__law_place] b__law_record_1) ((List.range' a k).map fun (i : Nat) => D.int i) (E5 sa sb m r o3 o4 o5 o6 o7) = .ok .nx (E5 a' b' m r' p3 p4 p5 p6 p7) := by
  intro k
  induction k with
  | zero => intro a sa sb r o3 o4 o5 o6 o7 h hr hl; exact ⟨r, sa, sb, o3, o4, o5, o6, o7, h, hr, hl, rfl⟩
  | succ k ih =>
    intro a sa sb r o3 o4 o5 o6 o7 h hr hl
    simp -implicitDefEqProofs only [List.range'_succ, List.map_cons, loopF]
    have hs : setRo (E5 sa sb m r o3 o4 o5 o6 o7) 3 (.int a) = some (E5 sa sb m r (some (.int a)) o4 o5 o6 o7) := by
      simp! only [setRo, E5]
    rw [hs]
    simp only [lift_some, bnd_ok]
    obtain ⟨c, a', b', p4, p5, p6, p7, h', hc, e⟩ := b_record h m hr (by omega) (.int a) o4 o5 o6 o7
    rw [e]
    simp only [bnd_ok]
    exact ih (a + 1) a' b' (r ++ [c]) _ _ _ _ _ h' (by
      intro s hs
      rw [List.mem_append] at hs
      rcases hs with hs | hs
      · exact hr s hs
      · simp only [List.mem_singleton] at hs; exact hs ▸ hc) (by simp; omega)
theorem r_record {a b : Int} (h : Src a b) : ∃ r a' b', Src a' b' ∧ OkR r ∧ R__law_record [dSrc true a b, .ro (.int 3)] = .ok (.d (dRc r)) [dSrc true a' b', .ro (.int 3)] := by
  obtain ⟨v, a1, b1, h1, v1, v2, e1⟩ := r_draw h (m := 4) (by omega) (by omega) true
  have hv : v = (v.toNat : Nat) := by omega
  obtain ⟨r, a', b', p3, p4, p5, p6, p7, h', hr, hl, e⟩ := l_record 3 v.toNat 0 a1 b1 [] none none none none none h1 (by intro s hs; simp at hs) (by simp; omega)
  refine ⟨r, a', b', h', ⟨hr, hl⟩, ?_⟩
  have g := rg1 (n := v.toNat) (by unfold big; omega)
  rw [← hv, rangeD0] at g
  rw [← List.range_eq_range'] at e
  simp only [R__law_record, b__law_record, l__law_record_1]
  have e0 : dRc [] = .tup [] := rfl
  simp only [E5, dSrc, e0] at *
  simp! only [] at e
  simp! only [e1, g, e]
end G.k11
namespace G.k11
open PySem G
open G.M (Pl Sc Rc St En)
def fr (lo hi : Int) : D → Bool
  | .int i => decide (lo ≤ i ∧ i ≤ hi)
  | _ => false
def isSide (s : Str) : Bool := decide (Str.ofString "rim" = s) || decide (Str.ofString "mid" = s)
def isP : D → Bool
  | .tup [.str s, x] => isSide s && fr 0 5 x
  | _ => false
def non0 : D → Bool
  | .int i => !decide (i = 0)
  | _ => true
def isSc : D → Bool
  | .tup [a, b, c, d] => isP a && isP b && (fr (-3) 3 c && (non0 c && fr 1 2 d))
  | _ => false
def isR : D → Bool
  | .tup xs => decide (xs.length ≤ 3) && xs.all isSc
  | _ => false
theorem q_from (v : D) (lo hi : Int) : R_is_from [.ro v, .ro (.int lo), .ro (.int hi)] = .ok (.d (.bl (fr lo hi v))) [.ro v, .ro (.int lo), .ro (.int hi)] := by
  cases v with
  | int i => exact r_is_from i lo hi
  | bl b => simp only [R_is_from, b_is_from, fr]; simp! only [Bool.not_true]
  | non => simp only [R_is_from, b_is_from, fr]; simp! only []
  | str s => simp only [R_is_from, b_is_from, fr]; simp! only []
  | tup s => simp only [R_is_from, b_is_from, fr]; simp! only []
  | lst s => simp only [R_is_from, b_is_from, fr]; simp! only []
  | frz s => simp only [R_is_from, b_is_from, fr]; simp! only []
theorem side_T (s : Str) : cmpv .isin (.str s) (.tup [.str "rim", .str "mid"]) = some (isSide s) := by
  simp! only [List.any_cons, List.any_nil, List.all_cons, List.all_nil, Bool.and_self, isSide, Bool.or_false]
theorem side_L (s : Str) : cmpv .isin (.str s) (.lst [.str "rim", .str "mid"]) = some (isSide s) := by
  simp! only [List.any_cons, List.any_nil, List.all_cons, List.all_nil, Bool.and_self, isSide, Bool.or_false]
theorem neq2 (n : Nat) : (((n + 1 + 1 + 1 : Nat) : Int) == 2) = false := by simpa using by omega
theorem q_isP (v : D) : R_is_place [.ro v] = .ok (.d (.bl (isP v))) [.ro v] := by
  cases v with
  | tup xs =>
    match xs with
    | [] => simp only [R_is_place, b_is_place, isP]; simp! only [List.length_nil, Bool.not_true, Bool.not_false, Int.reduceBEq]
    | [a] => simp only [R_is_place, b_is_place, isP]; simp! only [List.length_cons, List.length_nil, Bool.not_true, Bool.not_false]
    | [a, x] =>
      cases a with
      | str s =>
        have e := q_from x 0 5
        have t := side_T s
        simp only [R_is_place, b_is_place, isP]
        cases hs : isSide s with
        | true => rw [hs] at t; simp! only [List.length_cons, List.length_nil, t, e, Bool.not_true, Bool.true_and]
        | false => rw [hs] at t; simp! only [List.length_cons, List.length_nil, t, Bool.not_true, Bool.false_and]
      | _ => simp only [R_is_place, b_is_place, isP]; simp! only [List.length_cons, List.length_nil, Bool.not_true, Bool.not_false]
    | a :: x :: y :: r =>
      have h := neq2 r.length
      simp only [R_is_place, b_is_place, isP]
      simp! only [List.length_cons, h, Bool.not_true, Bool.not_false]
  | non => simp only [R_is_place, b_is_place, isP]; simp! only [Bool.not_false]
  | bl b => simp only [R_is_place, b_is_place, isP]; simp! only [Bool.not_false]
  | int i => simp only [R_is_place, b_is_place, isP]; simp! only [Bool.not_false]
  | str s => simp only [R_is_place, b_is_place, isP]; simp! only [Bool.not_false]
  | lst s => simp only [R_is_place, b_is_place, isP]; simp! only [Bool.not_false]
  | frz s => simp only [R_is_place, b_is_place, isP]; simp! only [Bool.not_false]
theorem neq4 (n : Nat) : (((n + 1 + 1 + 1 + 1 + 1 : Nat) : Int) == 4) = false := by simpa using by omega
theorem fr_int {lo hi : Int} {c : D} (h : fr lo hi c = true) : ∃ i, c = .int i := by
  cases c with
  | int i => exact ⟨i, rfl⟩
  | _ => cases h
theorem non0_int (i : Int) : non0 (.int i) = !(i == 0) := by
  show (!decide (i = 0)) = _
  by_cases h : i = 0 <;> simp [h]
theorem q_isSc (v : D) : R_is_scratch [.ro v] = .ok (.d (.bl (isSc v))) [.ro v] := by
  cases v with
  | tup xs =>
    match xs with
    | [] => simp only [R_is_scratch, b_is_scratch, isSc]; simp! only [List.length_nil, Bool.not_true, Bool.not_false, Int.reduceBEq]
    | [a] => simp only [R_is_scratch, b_is_scratch, isSc]; simp! only [List.length_cons, List.length_nil, Bool.not_true, Bool.not_false]
    | [a, b] => simp only [R_is_scratch, b_is_scratch, isSc]; simp! only [List.length_cons, List.length_nil, Bool.not_true, Bool.not_false]
    | [a, b, c] => simp only [R_is_scratch, b_is_scratch, isSc]; simp! only [List.length_cons, List.length_nil, Bool.not_true, Bool.not_false]
    | [a, b, c, d] =>
      have ea := q_isP a
      have eb := q_isP b
      have ec := q_from c (-3) 3
      have ed := q_from d 1 2
      simp only [R_is_scratch, b_is_scratch, isSc]
      cases ha : isP a with
      | false => rw [ha] at ea; simp! only [List.length_cons, List.length_nil, ea, Bool.not_true, Bool.not_false, Bool.false_and]
      | true =>
        rw [ha] at ea
        cases hb : isP b with
        | false => rw [hb] at eb; simp! only [List.length_cons, List.length_nil, ea, eb, Bool.not_true, Bool.not_false, Bool.false_and, Bool.true_and]
        | true =>
          rw [hb] at eb
          cases hc : fr (-3) 3 c with
          | false => rw [hc] at ec; simp! only [List.length_cons, List.length_nil, ea, eb, ec, Bool.not_true, Bool.not_false, Bool.false_and, Bool.true_and]
          | true =>
            rw [hc] at ec
            obtain ⟨i, rfl⟩ := fr_int hc
            rw [non0_int]
            cases hi : (i == 0) with
            | true => simp! only [List.length_cons, List.length_nil, ea, eb, ec, hi, shp_int, Bool.not_true, Bool.not_false, Bool.false_and, Bool.true_and, Bool.and_self]
            | false => simp! only [List.length_cons, List.length_nil, ea, eb, ec, ed, hi, shp_int, Bool.not_true, Bool.not_false, Bool.false_and, Bool.true_and, Bool.and_self]
    | a :: b :: c :: d :: e :: r =>
      have h := neq4 r.length
      simp only [R_is_scratch, b_is_scratch, isSc]
      simp! only [List.length_cons, h, Bool.not_true, Bool.not_false]
  | non => simp only [R_is_scratch, b_is_scratch, isSc]; simp! only [Bool.not_false]
  | bl b => simp only [R_is_scratch, b_is_scratch, isSc]; simp! only [Bool.not_false]
  | int i => simp only [R_is_scratch, b_is_scratch, isSc]; simp! only [Bool.not_false]
  | str s => simp only [R_is_scratch, b_is_scratch, isSc]; simp! only [Bool.not_false]
  | lst s => simp only [R_is_scratch, b_is_scratch, isSc]; simp! only [Bool.not_false]
  | frz s => simp only [R_is_scratch, b_is_scratch, isSc]; simp! only [Bool.not_false]
theorem q_has (v : D) : R_has_record [.ro v] = .ok (.d (.bl (isR v))) [.ro v] := by
  cases v with
  | tup xs =>
    by_cases hl : xs.length ≤ 3
    · have hc : ev [R_is_scratch] e_has_record_1 [.ro (.tup xs), .no] = .ok (.d (.lst ((xs.map isSc).map .bl))) [.ro (.tup xs), .no] := by
        have e : (xs.map isSc).map D.bl = xs.map fun x => D.bl (isSc x) := by simp [List.map_map]
        rw [e]
        unfold e_has_record_1
        refine comp1 _ (by simp! only []) (by rfl) (by simp) (by unfold big; omega) ?_
        intro x hx
        unfold x_has_record_1
        simp! only [q_isSc x, List.set_cons_succ, List.set_cons_zero]
      have h2 : ((xs.length : Int) ≤ 3) = True := eq_true (by omega)
      have ha : (xs.map isSc).all id = xs.all isSc := by simp [List.all_map]
      simp only [R_has_record, b_has_record, isR, hl, decide_true, Bool.true_and]
      simp! only [hc, h2, ha]
    · have h2 : ((xs.length : Int) ≤ 3) = False := eq_false (by omega)
      simp only [R_has_record, b_has_record, isR, hl, decide_false, Bool.false_and]
      simp! only [h2]
  | non => simp only [R_has_record, b_has_record, isR]; simp! only []
  | bl b => simp only [R_has_record, b_has_record, isR]; simp! only []
  | int i => simp only [R_has_record, b_has_record, isR]; simp! only []
  | str s => simp only [R_has_record, b_has_record, isR]; simp! only []
  | lst s => simp only [R_has_record, b_has_record, isR]; simp! only []
  | frz s => simp only [R_has_record, b_has_record, isR]; simp! only []
end G.k11
namespace G.k11
open PySem G
open G.M (Pl Sc Rc St En)
/-! ### words of a line -/
def sI (i : Int) : Str := (toString i : String)
def digs : List Int := [0, 1, 2, 3, 4, 5]
def jmps : List Int := [-3, -2, -1, 0, 1, 2, 3]
def digW : List Str := ["0", "1", "2", "3", "4", "5"]
def jmpW : List Str := ["-3", "-2", "-1", "1", "2", "3"]
def evW : List Str := ["always", "second"]
def item (w : Str) (xs : List Int) : D := match xs.find? (fun i => decide (sI i = w)) with
  | some i => .int i
  | none => .non
def every (w : Str) : D := match ([("always", 1), ("second", 2)] : List (Str × Int)).lookup w with
  | some i => .int i
  | none => .non
def mkS : List Str → D
  | [a, b, c, d, e, f] => .tup [.tup [.str a, item b digs], .tup [.str c, item d digs], item e jmps, every f]
  | _ => .non
def rl (W : List Str) : D := if isSc (mkS W) then mkS W else .non
def il6 : List Str → Bool
  | [a, b, c, d, e, f] => isSide a && isSide c && decide (b ∈ digW) && decide (d ∈ digW) && decide (f ∈ evW) && decide (e ∈ jmpW)
  | _ => false
def il (W : List Str) : Bool := decide (W = [("record" : Str)]) || il6 W
/-- a scratch by its int texts -/
def sc : List Str → D
  | [a, b, c, d, e, f] => .tup [.tup [.str a, .int ((intText? b).getD 0)], .tup [.str c, .int ((intText? d).getD 0)], .int ((intText? e).getD 0), .int (1 + if f = "second" then 1 else 0)]
  | _ => .non
theorem dig_ok {b : Str} (h : b ∈ digW) : ∃ i : Int, item b digs = .int i ∧ intText? b = some i ∧ 0 ≤ i ∧ i ≤ 5 ∧ b.length ≤ 640 := by
  simp only [digW, List.mem_cons, List.not_mem_nil, or_false] at h
  rcases h with rfl | rfl | rfl | rfl | rfl | rfl
  · exact ⟨0, by rfl, by decide +kernel, by omega, by omega, by decide +kernel⟩
  · exact ⟨1, by rfl, by decide +kernel, by omega, by omega, by decide +kernel⟩
  · exact ⟨2, by rfl, by decide +kernel, by omega, by omega, by decide +kernel⟩
  · exact ⟨3, by rfl, by decide +kernel, by omega, by omega, by decide +kernel⟩
  · exact ⟨4, by rfl, by decide +kernel, by omega, by omega, by decide +kernel⟩
  · exact ⟨5, by rfl, by decide +kernel, by omega, by omega, by decide +kernel⟩
theorem digs_w : digs.map sI = digW := by decide +kernel
theorem jmps_w : ∀ i ∈ jmps, sI i ∈ jmpW ∨ i = 0 := by decide +kernel
theorem find_mem {w : Str} {xs : List Int} {i : Int} (h : xs.find? (fun i => decide (sI i = w)) = some i) : i ∈ xs ∧ sI i = w := ⟨List.mem_of_find?_eq_some h, by simpa using List.find?_some h⟩
theorem dig_no {b : Str} (h : b ∉ digW) : item b digs = .non := by
  unfold item
  split
  · rename_i i hi
    obtain ⟨h1, h2⟩ := find_mem hi
    exact absurd (by rw [← digs_w, ← h2]; exact List.mem_map_of_mem h1) h
  · rfl
theorem jmp_ok {b : Str} (h : b ∈ jmpW) : ∃ i : Int, item b jmps = .int i ∧ intText? b = some i ∧ -3 ≤ i ∧ i ≤ 3 ∧ i ≠ 0 ∧ b.length ≤ 640 := by
  simp only [jmpW, List.mem_cons, List.not_mem_nil, or_false] at h
  rcases h with rfl | rfl | rfl | rfl | rfl | rfl
  · exact ⟨-3, by rfl, by decide +kernel, by omega, by omega, by omega, by decide +kernel⟩
  · exact ⟨-2, by rfl, by decide +kernel, by omega, by omega, by omega, by decide +kernel⟩
  · exact ⟨-1, by rfl, by decide +kernel, by omega, by omega, by omega, by decide +kernel⟩
  · exact ⟨1, by rfl, by decide +kernel, by omega, by omega, by omega, by decide +kernel⟩
  · exact ⟨2, by rfl, by decide +kernel, by omega, by omega, by omega, by decide +kernel⟩
  · exact ⟨3, by rfl, by decide +kernel, by omega, by omega, by omega, by decide +kernel⟩
theorem jmp_no {b : Str} (h : b ∉ jmpW) : item b jmps = .non ∨ item b jmps = .int 0 := by
  unfold item
  split
  · rename_i i hi
    obtain ⟨h1, h2⟩ := find_mem hi
    rcases jmps_w i h1 with q | rfl
    · exact absurd (h2 ▸ q) h
    · exact .inr rfl
  · exact .inl rfl
theorem ev_ok {f : Str} (h : f ∈ evW) : every f = .int (1 + if f = "second" then 1 else 0) ∧ ((every f = .int 1) ∨ (every f = .int 2)) := by
  simp only [evW, List.mem_cons, List.not_mem_nil, or_false] at h
  rcases h with rfl | rfl
  · exact ⟨by rfl, .inl (by rfl)⟩
  · exact ⟨by rfl, .inr (by rfl)⟩
theorem ev_no {f : Str} (h : f ∉ evW) : every f = .non := by
  simp only [evW, List.mem_cons, List.not_mem_nil, or_false, not_or] at h
  have e1 : (f == ("always" : Str)) = false := beq_eq_false_iff_ne.2 h.1
  have e2 : (f == ("second" : Str)) = false := beq_eq_false_iff_ne.2 h.2
  unfold every
  rw [List.lookup_cons, e1, List.lookup_cons, e2]
  rfl
theorem isSc_mk (a b c d e f : Str) : isSc (mkS [a, b, c, d, e, f]) = (isSide a && fr 0 5 (item b digs) && (isSide c && fr 0 5 (item d digs)) && (fr (-3) 3 (item e jmps) && (non0 (item e jmps) && fr 1 2 (every f)))) := by
  simp only [mkS, isSc, isP]
theorem il_mk (a b c d e f : Str) : isSc (mkS [a, b, c, d, e, f]) = il6 [a, b, c, d, e, f] := by
  rw [isSc_mk]
  simp only [il6]
  have hb : fr 0 5 (item b digs) = decide (b ∈ digW) := by
    by_cases h : b ∈ digW
    · obtain ⟨i, e1, _, h1, h2, _⟩ := dig_ok h
      rw [e1]
      simp [fr, h1, h2, h]
    · rw [dig_no h]; simp [fr, h]
  have hd : fr 0 5 (item d digs) = decide (d ∈ digW) := by
    by_cases h : d ∈ digW
    · obtain ⟨i, e1, _, h1, h2, _⟩ := dig_ok h
      rw [e1]
      simp [fr, h1, h2, h]
    · rw [dig_no h]; simp [fr, h]
  have he : (fr (-3) 3 (item e jmps) && (non0 (item e jmps) && fr 1 2 (every f))) = (decide (f ∈ evW) && decide (e ∈ jmpW)) := by
    have hf : fr 1 2 (every f) = decide (f ∈ evW) := by
      by_cases h : f ∈ evW
      · rcases (ev_ok h).2 with q | q <;> rw [q] <;> simp [fr, h]
      · rw [ev_no h]; simp [fr, h]
    rw [hf]
    by_cases h : e ∈ jmpW
    · obtain ⟨i, e1, _, h1, h2, h3, _⟩ := jmp_ok h
      rw [e1]
      simp [fr, non0, h1, h2, h3, h]
    · rcases jmp_no h with q | q <;> rw [q] <;> simp [fr, non0, h]
  rw [hb, hd, he]
  cases isSide a <;> cases isSide c <;> cases decide (b ∈ digW) <;> cases decide (d ∈ digW) <;> cases decide (f ∈ evW) <;> cases decide (e ∈ jmpW) <;> rfl
theorem sc_mk {W : List Str} (h : il6 W = true) : mkS W = sc W := by
  unfold il6 at h
  split at h <;> first | contradiction | skip
  simp only [Bool.and_eq_true, decide_eq_true_eq] at h
  obtain ⟨⟨⟨⟨⟨h1, h2⟩, h3⟩, h4⟩, h5⟩, h6⟩ := h
  obtain ⟨i, i1, i2, _⟩ := dig_ok h3
  obtain ⟨j, j1, j2, _⟩ := dig_ok h4
  obtain ⟨k, k1, k2, _⟩ := jmp_ok h6
  simp only [mkS, sc, i1, i2, j1, j2, k1, k2, (ev_ok h5).1, Option.getD_some]
theorem isSc_rl6 {W : List Str} : isSc (mkS W) = il6 W := by
  match W with
  | [a, b, c, d, e, f] => exact il_mk a b c d e f
  | [] => rfl
  | [_] => rfl
  | [_, _] => rfl
  | [_, _, _] => rfl
  | [_, _, _, _] => rfl
  | [_, _, _, _, _] => rfl
  | _ :: _ :: _ :: _ :: _ :: _ :: _ :: _ => rfl
theorem rl_yes {W : List Str} (h : il6 W = true) : rl W = sc W ∧ isSc (rl W) = true := by
  unfold rl
  rw [isSc_rl6, h, if_pos rfl]
  exact ⟨sc_mk h, by rw [isSc_rl6, h]⟩
theorem rl_no {W : List Str} (h : il6 W = false) : rl W = .non := by
  unfold rl
  rw [isSc_rl6, h, if_neg (by decide)]
theorem rl_rec : rl ["record"] = .non := rl_no rfl
end G.k11
namespace G.k11
open PySem G
open G.M (Pl Sc Rc St En)
/-! ### read_item, read_line -/
theorem str_i {i : Int} (h : i.natAbs ≤ 10) : bltv .str [.int i] = some (.str (sI i)) := by
  simp only [bltv]
  rw [if_pos (Nat.lt_of_le_of_lt h (by decide))]
  rfl
theorem ix_find (w : Str) : ∀ (xs : List Int) (k : Nat), match xs.find? (fun i => decide (sI i = w)) with
    | some i => w ∈ xs.map sI ∧ ∃ j, strIx w (xs.map sI) k = some (k + j) ∧ xs[j]? = some i
    | none => w ∉ xs.map sI
  | [], k => by simp
  | x :: xs, k => by
    rw [List.find?_cons]
    by_cases h : sI x = w
    · simp only [h, decide_true]
      exact ⟨by simp [h], 0, by simp [strIx, h], rfl⟩
    · simp only [h, decide_false]
      have ih := ix_find w xs (k + 1)
      cases hf : xs.find? (fun i => decide (sI i = w)) with
      | none =>
        rw [hf] at ih
        simp only [List.map_cons, List.mem_cons, not_or]
        exact ⟨fun z => h z.symm, ih⟩
      | some i =>
        rw [hf] at ih
        obtain ⟨m, j, e1, e2⟩ := ih
        refine ⟨List.mem_cons_of_mem _ m, j + 1, ?_, by simpa using e2⟩
        simp only [List.map_cons, strIx, if_neg h, e1]
        congr 1
        omega
theorem in_strs (w : Str) (ws : List Str) : cmpv .isin (.str w) (.lst (ws.map .str)) = some (decide (w ∈ ws)) := by
  have h1 : (ws.map D.str).all D.flat = true := by simp [D.flat]
  have h2 : ((ws.map D.str).any fun z => D.eq z (.str w)) = decide (w ∈ ws) := by
    induction ws with
    | nil => simp
    | cons x ws ih =>
      rw [List.map_cons, List.any_cons, ih (by simp [D.flat])]
      by_cases h : x = w
      · subst h; simp [D.eq]
      · have : ¬ w = x := fun z => h z.symm
        simp [D.eq, h, this]
  simp only [cmpv, h1, h2]
  rfl
theorem r_item (w : Str) (xs : List Int) (hx : ∀ i ∈ xs, i.natAbs ≤ 10) (hl : xs.length ≤ 100) : R_read_item [.ro (.str w), .ro (.lst (xs.map .int))] = .ok (.d (item w xs)) [.ro (.str w), .ro (.lst (xs.map .int))] := by
  have hc : ev [] e_read_item_1 [.ro (.str w), .ro (.lst (xs.map .int)), .no, .no] = .ok (.d (.lst ((xs.map sI).map .str))) [.ro (.str w), .ro (.lst (xs.map .int)), .no, .no] := by
    have e : (xs.map sI).map D.str = (xs.map D.int).map fun d => match d with | .int i => .str (sI i) | d => d := by simp [List.map_map]
    rw [e]
    unfold e_read_item_1
    refine comp1 _ (by simp! only []) (by rfl) (by simp) (by simp [big]; omega) ?_
    intro x hx'
    obtain ⟨i, hi, rfl⟩ := List.mem_map.1 hx'
    unfold x_read_item_1
    simp! only [str_i (hx i hi)]
  have hi := in_strs w (xs.map sI)
  have hf := ix_find w xs 0
  simp only [R_read_item, b_read_item]
  unfold item
  cases hq : xs.find? (fun i => decide (sI i = w)) with
  | none =>
    rw [hq] at hf
    simp only [hf, decide_false] at hi
    simp! only [hc, hi]
  | some i =>
    rw [hq] at hf
    obtain ⟨m, j, e1, e2⟩ := hf
    simp only [m, decide_true] at hi
    have hj : m1v .lix (.lst ((xs.map sI).map .str)) (.str w) = some (.int (j : Nat)) := by
      simp only [m1v, strsD_map, Option.bind_some, e1, Nat.zero_add, Option.map_some]
    have hk : (xs.map D.int)[j]? = some (.int i) := by rw [List.getElem?_map, e2]; rfl
    simp! only [hc, hi, m1ok, m1R, hj, hk]
theorem dig_len : ∀ i ∈ digs, i.natAbs ≤ 10 := by decide
theorem jmp_len : ∀ i ∈ jmps, i.natAbs ≤ 10 := by decide
theorem rg_d : rg1R (.d (.int 6)) = some (digs.map .int) := by rfl
theorem rg_j : rg2R (.d (.int (-3))) (.d (.int 4)) = some (jmps.map .int) := by rfl
theorem cg_every (w : Str) : cgetR [("always", 1), ("second", 2)] (.d (.str w)) = some (every w) := by
  unfold every
  show (match ([("always", 1), ("second", 2)] : List (Str × Int)).lookup w with | some i => some (D.int i) | none => some .non) = _
  cases ([("always", 1), ("second", 2)] : List (Str × Int)).lookup w <;> rfl
theorem len6 {W : List Str} (h : W.length = 6) : ∃ a b c d e f, W = [a, b, c, d, e, f] := by
  match W, h with
  | [a, b, c, d, e, f], _ => exact ⟨a, b, c, d, e, f, rfl⟩
theorem mk_no {W : List Str} (h : W.length ≠ 6) : il6 W = false := by
  unfold il6
  split
  · exact absurd rfl h
  · rfl
theorem r_line {l : Str} (hl : l.length ≤ big) : R_read_line [.ro (.str l)] = .ok (.d (rl (Txt.split l " "))) [.ro (.str l)] := by
  have hs := v_spl sep_sp hl
  generalize Txt.split l " " = W at hs ⊢
  by_cases h6 : W.length = 6
  · obtain ⟨a, b, c, d, e, f, rfl⟩ := len6 h6
    have q := q_isSc (mkS [a, b, c, d, e, f])
    have e1 := r_item b digs dig_len (by decide)
    have e2 := r_item d digs dig_len (by decide)
    have e3 := r_item e jmps jmp_len (by decide)
    have hT : isSc (mkS [a, b, c, d, e, f]) = true → rl [a, b, c, d, e, f] = mkS [a, b, c, d, e, f] := fun h => if_pos h
    have hF : isSc (mkS [a, b, c, d, e, f]) = false → rl [a, b, c, d, e, f] = .non := fun h => if_neg (by rw [h]; decide)
    generalize rl [a, b, c, d, e, f] = R at hT hF ⊢
    simp only [R_read_line, b_read_line, mkS, List.map_cons, List.map_nil] at *
    by_cases hh : isSc (D.tup [D.tup [D.str a, item b digs], D.tup [D.str c, item d digs], item e jmps, every f]) = true
    · rw [hh] at q
      rw [hT hh]
      simp! only [m1ok, m1R, hs, rg_d, rg_j, e1, e2, e3, cg_every, q]
    · rw [Bool.not_eq_true] at hh
      rw [hh] at q
      rw [hF hh]
      simp! only [m1ok, m1R, hs, rg_d, rg_j, e1, e2, e3, cg_every, q]
  · have h0 : rl W = .non := rl_no (mk_no h6)
    have hn : (((W.length : Nat) : Int) == 6) = false := by simpa using by omega
    rw [h0]
    simp only [R_read_line, b_read_line]
    simp! only [m1ok, m1R, hs, List.length_map, hn]
end G.k11
namespace G.k11
open PySem G
open G.M (Pl Sc Rc St En)
/-! ### the law's reading of a line -/
theorem cmp_rec (W : List Str) (h : ∀ x ∈ W, Real x) : cmpv .eq (.lst (W.map .str)) (.lst [.str "record"]) = some (decide (W = [("record" : Str)])) := by
  have e1 : D.shp 60 (.lst (W.map .str)) = true := by simp only [D.shp]; exact shps_str 59 W h
  have e2 : D.shp 60 (.lst [.str "record"]) = true := by decide +kernel
  have e3 : D.eq (.lst (W.map .str)) (.lst [.str "record"]) = decide (W = [("record" : Str)]) := by
    simp only [D.eq]
    exact eqs_str W [("record" : Str)]
  simp only [cmpv, e1, e2, e3]
  rfl
theorem nin_strs (w : Str) (ws : List Str) : cmpv .notin (.str w) (.lst (ws.map .str)) = some (!decide (w ∈ ws)) := by
  have h := in_strs w ws
  simp only [cmpv] at h ⊢
  split at h
  · rename_i h1
    rw [if_pos h1, Option.some.inj h]
  · cases h
theorem side_mem (a : Str) : decide (a ∈ [("rim" : Str), "mid"]) = isSide a := by
  unfold isSide
  have e1 : (Str.ofString "rim" = a) = (a = Str.ofString "rim") := propext eq_comm
  have e2 : (Str.ofString "mid" = a) = (a = Str.ofString "mid") := propext eq_comm
  simp only [e1, e2, List.mem_cons, List.not_mem_nil, or_false, Bool.decide_or]
theorem q_il {l : Str} (hl : l.length ≤ big) (hr : Real l) : R__law_is_line [.ro (.str l)] = .ok (.d (.bl (il (Txt.split l " ")))) [.ro (.str l)] := by
  have hs := v_spl sep_sp hl
  have hR : ∀ x ∈ Txt.split l " ", Real x := fun x hx => hr.part sep_sp hx
  generalize Txt.split l " " = W at hs hR ⊢
  have hc := cmp_rec W hR
  by_cases h1 : W = [("record" : Str)]
  · have h0 : il W = true := by unfold il; rw [decide_eq_true h1]; rfl
    rw [decide_eq_true h1] at hc
    rw [h0]
    simp only [R__law_is_line, b__law_is_line]
    simp! only [m1ok, m1R, hs, hc]
  · rw [decide_eq_false h1] at hc
    have h0 : il W = il6 W := by unfold il; rw [decide_eq_false h1]; rfl
    rw [h0]
    by_cases h6 : W.length = 6
    · obtain ⟨a, b, c, d, e, f, rfl⟩ := len6 h6
      have n1 := nin_strs a [("rim" : Str), "mid"]
      have n2 := nin_strs c [("rim" : Str), "mid"]
      have n3 := nin_strs b digW
      have n4 := nin_strs d digW
      have n5 := nin_strs f evW
      have n6 := in_strs e jmpW
      rw [side_mem] at n1 n2
      simp only [il6]
      generalize isSide a = A at n1 ⊢
      generalize isSide c = B at n2 ⊢
      generalize decide (b ∈ digW) = P at n3 ⊢
      generalize decide (d ∈ digW) = Q at n4 ⊢
      generalize decide (f ∈ evW) = R at n5 ⊢
      generalize decide (e ∈ jmpW) = U at n6 ⊢
      simp only [R__law_is_line, b__law_is_line, List.map_cons, List.map_nil, digW, evW, jmpW] at *
      cases A with
      | false => simp! only [m1ok, m1R, hs, hc, n1, Bool.not_false]
      | true =>
        cases B with
        | false => simp! only [m1ok, m1R, hs, hc, n1, n2, Bool.not_false, Bool.not_true]
        | true =>
          cases P with
          | false => simp! only [m1ok, m1R, hs, hc, n1, n2, n3, Bool.not_false, Bool.not_true]
          | true =>
            cases Q with
            | false => simp! only [m1ok, m1R, hs, hc, n1, n2, n3, n4, Bool.not_false, Bool.not_true]
            | true =>
              cases R with
              | false => simp! only [m1ok, m1R, hs, hc, n1, n2, n3, n4, n5, Bool.not_false, Bool.not_true]
              | true => simp! only [m1ok, m1R, hs, hc, n1, n2, n3, n4, n5, n6, Bool.not_false, Bool.not_true]
    · have hn : (((W.length : Nat) : Int) == 6) = false := by simpa using by omega
      rw [mk_no h6]
      simp only [R__law_is_line, b__law_is_line]
      simp! only [m1ok, m1R, hs, hc, List.length_map, hn]
theorem q_sc {l : Str} (hl : l.length ≤ big) (hr : Real l) (h : il6 (Txt.split l " ") = true) : R__law_scratch [.ro (.str l)] = .ok (.d (sc (Txt.split l " "))) [.ro (.str l)] := by
  have hs := v_spl sep_sp hl
  have hR : ∀ x ∈ Txt.split l " ", Real x := fun x hx => hr.part sep_sp hx
  generalize Txt.split l " " = W at hs hR h ⊢
  unfold il6 at h
  split at h <;> first | contradiction | skip
  rename_i a b c d e f
  simp only [Bool.and_eq_true, decide_eq_true_eq] at h
  obtain ⟨⟨⟨⟨⟨h1, h2⟩, h3⟩, h4⟩, h5⟩, h6⟩ := h
  obtain ⟨i, _, i2, _, _, i3⟩ := dig_ok h3
  obtain ⟨j, _, j2, _, _, j3⟩ := dig_ok h4
  obtain ⟨k, _, k2, _, _, _, k3⟩ := jmp_ok h6
  have b1 : bltv .int [.str b] = some (.int i) := by simp only [bltv]; rw [if_pos i3, i2]; rfl
  have b2 : bltv .int [.str d] = some (.int j) := by simp only [bltv]; rw [if_pos j3, j2]; rfl
  have b3 : bltv .int [.str e] = some (.int k) := by simp only [bltv]; rw [if_pos k3, k2]; rfl
  have b4 : cmpv .eq (.str f) (.str "second") = some (decide (f = ("second" : Str))) := by
    have e1 : D.shp 60 (.str f) = true := (hR f (by simp)).shp 60
    have e2 : D.shp 60 (.str "second") = true := by decide +kernel
    simp only [cmpv, e1, e2, D.eq]
    rfl
  have hsc : sc [a, b, c, d, e, f] = .tup [.tup [.str a, .int i], .tup [.str c, .int j], .int k, .int (1 + if f = ("second" : Str) then 1 else 0)] := by
    simp only [sc, i2, j2, k2, Option.getD_some]
  have b5 : bltv .int [.bl true] = some (.int 1) := rfl
  have b6 : bltv .int [.bl false] = some (.int 0) := rfl
  rw [hsc]
  simp only [R__law_scratch, b__law_scratch, List.map_cons, List.map_nil] at *
  by_cases hf : f = ("second" : Str)
  · rw [decide_eq_true hf] at b4
    rw [if_pos hf]
    simp! only [m1ok, m1R, hs, b1, b2, b3, b4, b5, b6]
  · rw [decide_eq_false hf] at b4
    rw [if_neg hf]
    simp! only [m1ok, m1R, hs, b1, b2, b3, b4, b5, b6]
end G.k11
namespace G.k11
open PySem G
open G.M (Pl Sc Rc St En)
/-! ### lines -/
def ilL (l : Str) : Bool := il (Txt.split l " ")
def rlL (l : Str) : D := rl (Txt.split l " ")
theorem rec_split : Txt.split ("record" : Str) " " = [("record" : Str)] := by
  have h := sep_sp.join (ps := [("record" : Str)]) (by simp) (by decide +kernel)
  have e : Txt.join " " [("record" : Str)] = ("record" : Str) := by decide +kernel
  rw [e] at h
  exact h
theorem rec_iff {l : Str} : Txt.split l " " = [("record" : Str)] ↔ l = "record" := by
  constructor
  · intro h
    have b := sep_sp.back l
    rw [h] at b
    rw [← b]
    decide +kernel
  · rintro rfl
    exact rec_split
theorem ilL_rec : ilL "record" = true := by unfold ilL; rw [rec_split]; decide +kernel
theorem rlL_rec : rlL "record" = .non := by unfold rlL; rw [rec_split]; exact rl_rec
theorem ilL_yes {l : Str} (h : ilL l = true) (n : l ≠ "record") : il6 (Txt.split l " ") = true := by
  unfold ilL il at h
  rw [decide_eq_false fun z => n (rec_iff.mp z)] at h
  exact h
theorem rlL_yes {l : Str} (h : ilL l = true) (n : l ≠ "record") : isSc (rlL l) = true := (rl_yes (ilL_yes h n)).2
theorem rlL_sc {l : Str} (h : ilL l = true) (n : l ≠ "record") : rlL l = sc (Txt.split l " ") := (rl_yes (ilL_yes h n)).1
theorem rlL_no {l : Str} (h : ilL l = false) : rlL l = .non := by
  refine rl_no ?_
  unfold ilL il at h
  rw [Bool.or_eq_false_iff] at h
  exact h.2
theorem ne_rec {l : Str} (h : ilL l = false) : l ≠ "record" := fun z => by rw [z, ilL_rec] at h; cases h
theorem isSc_non {d : D} (h : isSc d = true) : d.isNon = false := by
  cases d <;> first | rfl | cases h
theorem isSc_shp (n : Nat) {d : D} (h : isSc d = true) : D.shp (n + 2) d = true := by
  unfold isSc at h
  split at h <;> first | contradiction | skip
  rename_i a b c e
  simp only [Bool.and_eq_true] at h
  obtain ⟨ha, hb, hc, _, he⟩ := by
    obtain ⟨⟨h1, h2⟩, h3, h4, h5⟩ := h
    exact (⟨h1, h2, h3, h4, h5⟩ : _ ∧ _ ∧ _ ∧ _ ∧ _)
  have side : ∀ s : Str, isSide s = true → D.shp n (.str s) = true := fun s hs => by
    unfold isSide at hs
    simp only [Bool.or_eq_true, decide_eq_true_eq] at hs
    rcases hs with rfl | rfl <;> exact Real.shp (by decide +kernel) n
  have pl : ∀ d : D, isP d = true → D.shp (n + 1) d = true := fun d hd => by
    unfold isP at hd
    split at hd <;> first | contradiction | skip
    simp only [Bool.and_eq_true] at hd
    obtain ⟨i, rfl⟩ := fr_int hd.2
    simp only [D.shp, D.shps]
    have := side _ hd.1
    simp only [D.shp] at this
    simp only [this]
    rfl
  obtain ⟨i, rfl⟩ := fr_int hc
  obtain ⟨j, rfl⟩ := fr_int he
  simp only [D.shp, D.shps, pl a ha, pl b hb]
  rfl
def bad (ls : List Str) : Option Nat := ls.findIdx? fun l => !ilL l
def due (t : Str) : D := match bad (Txt.split t "\n") with
  | some j => .int ((j : Nat) + 1)
  | none => if (Txt.split t "\n").head? = some ("record" : Str) ∧ ("record" : Str) ∉ (Txt.split t "\n").tail ∧ (Txt.split t "\n").length ≤ 4 then .tup ((Txt.split t "\n").tail.map rlL) else .int (((Txt.split t "\n").length : Nat) + 1)
theorem ne_str {l : Str} (h : Real l) : cmpv .ne (.str l) (.str "record") = some (!decide (l = ("record" : Str))) := by
  have e1 : D.shp 60 (.str l) = true := h.shp 60
  have e2 : D.shp 60 (.str "record") = true := by decide +kernel
  simp only [cmpv, e1, e2, D.eq]
  rfl
abbrev E6 (t : Str) (al found : List D) (a b c : Option D) : List Sl := [.ro (.str t), .ro (.lst al), .ow false (.lst found), osl a, osl b, osl c]
theorem is_non (x : D) : cmpv .is x .non = some x.isNon := by cases x <;> rfl
theorem isnot_non (x : D) : cmpv .isnot x .non = some (!x.isNon) := by cases x <;> rfl
theorem b_read (t : Str) (al found : List D) (i : Int) {l : Str} (c : Option D) (hl : l.length ≤ big) (hr : Real l) (hf : found.length < big) :
    exs [R_has_record, R_read_line] b_read_record_1 (E6 t al found (some (.int i)) (some (.str l)) c) =
      if ilL l = true then .ok .nx (E6 t al (found ++ [rlL l]) (some (.int i)) (some (.str l)) (some (rlL l))) else .ex ⟨"InvalidText", some ("line", i + 1)⟩ (E6 t al found (some (.int i)) (some (.str l)) (some (rlL l))) := by
  have e1 : R_read_line [.ro (.str l)] = .ok (.d (rlL l)) [.ro (.str l)] := r_line hl
  have e2 := is_non (rlL l)
  have e3 := ne_str hr
  simp only [b_read_record_1, E6]
  by_cases h : ilL l = true
  · rw [if_pos h]
    by_cases n : l = "record"
    · have e4 : rlL l = .non := by rw [n]; exact rlL_rec
      rw [decide_eq_true n] at e3
      rw [e4] at e1 e2 ⊢
      simp! only [e1, e2, e3, hf, Bool.not_true]
    · have e4 := isSc_non (rlL_yes h n)
      rw [e4] at e2
      simp! only [e1, e2, e3, hf, Bool.not_true]
  · rw [if_neg h]
    rw [Bool.not_eq_true] at h
    have e4 := rlL_no h
    rw [decide_eq_false (ne_rec h)] at e3
    rw [e4] at e1 e2 ⊢
    simp! only [e1, e2, e3, Bool.not_false]
theorem l_read (t : Str) (al : List D) : ∀ (ls : List Str) (i : Nat) (found : List D) (a b c : Option D), (∀ l ∈ ls, l.length ≤ big ∧ Real l) → found.length + ls.length < big →
    ∃ f' a' b' c', loopF (bindT [3, 4]) (exs [R_has_record, R_read_line] b_read_record_1) (enumF i (ls.map .str)) (E6 t al found a b c) =
      match bad ls with
      | some j => .ex ⟨"InvalidText", some ("line", ((i + j : Nat) : Int) + 1)⟩ (E6 t al f' a' b' c')
      | none => .ok .nx (E6 t al (found ++ ls.map rlL) a' b' c') := by
  intro ls
  induction ls with
  | nil => intro i found a b c _ _; exact ⟨found, a, b, c, by simp [bad, enumF, loopF]⟩
  | cons l ls ih =>
    intro i found a b c hl hf
    have h0 := hl l List.mem_cons_self
    rw [List.length_cons] at hf
    have e := b_read t al found i c h0.1 h0.2 (by omega)
    by_cases h : ilL l = true
    · rw [if_pos h] at e
      obtain ⟨f', a', b', c', ih⟩ := ih (i + 1) (found ++ [rlL l]) (some (.int i)) (some (.str l)) (some (rlL l)) (fun z hz => hl z (List.mem_cons_of_mem _ hz)) (by simp; omega)
      refine ⟨f', a', b', c', ?_⟩
      have hb : bad (l :: ls) = (bad ls).map (· + 1) := by unfold bad; rw [List.findIdx?_cons, h]; rfl
      simp only [E6, osl_some] at e ih ⊢
      simp! only [List.map_cons, enumF, loopF, e, bnd_ok]
      rw [ih, hb]
      cases bad ls with
      | none => simp
      | some j =>
        simp only [Option.map_some]
        have : i + 1 + j = i + (j + 1) := by omega
        rw [this]
    · rw [if_neg h] at e
      rw [Bool.not_eq_true] at h
      refine ⟨found, some (.int i), some (.str l), some (rlL l), ?_⟩
      have hb : bad (l :: ls) = some 0 := by unfold bad; rw [List.findIdx?_cons, h]; rfl
      simp only [E6, osl_some] at e ⊢
      simp! only [List.map_cons, enumF, loopF, e, bind_ex]
      rw [hb]
      rfl
end G.k11
namespace G.k11
open PySem G
open G.M (Pl Sc Rc St En)
theorem bad_none {ls : List Str} (h : bad ls = none) : ∀ l ∈ ls, ilL l = true := fun l hl => by
  have := List.findIdx?_eq_none_iff.mp h l hl
  simpa using this
/-- the items behind the head -/
theorem any_rec {ls : List Str} (h : ∀ l ∈ ls, ilL l = true) : (ls.map rlL).any D.isNon = decide (("record" : Str) ∈ ls) := by
  induction ls with
  | nil => simp
  | cons l ls ih =>
    rw [List.map_cons, List.any_cons, ih fun z hz => h z (List.mem_cons_of_mem _ hz)]
    by_cases n : l = "record"
    · rw [n, rlL_rec]; simp [D.isNon]
    · have : ¬ ("record" : Str) = l := fun z => n z.symm
      rw [isSc_non (rlL_yes (h l List.mem_cons_self) n)]
      simp [this]
theorem shp_rl (n : Nat) {ls : List Str} (h : ∀ l ∈ ls, ilL l = true) : (ls.map rlL).all (D.shp (n + 2)) = true := by
  rw [List.all_eq_true]
  intro d hd
  obtain ⟨l, hl, rfl⟩ := List.mem_map.mp hd
  by_cases n : l = "record"
  · rw [n, rlL_rec]; simp [D.shp]
  · exact isSc_shp _ (rlL_yes (h l hl) n)
theorem isR_rl {ls : List Str} (h : ∀ l ∈ ls, ilL l = true) (n : ("record" : Str) ∉ ls) : isR (.tup (ls.map rlL)) = decide (ls.length ≤ 3) := by
  have e : (ls.map rlL).all isSc = true := by
    rw [List.all_eq_true]
    intro d hd
    obtain ⟨l, hl, rfl⟩ := List.mem_map.mp hd
    exact rlL_yes (h l hl) fun z => n (z ▸ hl)
  simp only [isR, e, List.length_map, Bool.and_true]
def dueN (l0 : Str) (tl : List Str) : D := if l0 = ("record" : Str) ∧ ("record" : Str) ∉ tl ∧ tl.length ≤ 3 then .tup (tl.map rlL) else .int (((tl.length + 1 : Nat) : Int) + 1)
theorem due_bad {t : Str} {j : Nat} (h : bad (Txt.split t "\n") = some j) : due t = .int ((j : Nat) + 1) := by unfold due; rw [h]
theorem due_cons {t l0 : Str} {tl : List Str} (h : Txt.split t "\n" = l0 :: tl) (hb : bad (l0 :: tl) = none) : due t = dueN l0 tl := by
  unfold due
  rw [h, hb]
  unfold dueN
  simp only [List.head?_cons, List.tail_cons, List.length_cons, Option.some.injEq]
  by_cases p : l0 = ("record" : Str) ∧ ("record" : Str) ∉ tl ∧ tl.length ≤ 3
  · rw [if_pos p, if_pos ⟨p.1, p.2.1, by have := p.2.2; omega⟩]
  · rw [if_neg p, if_neg fun z => p ⟨z.1, z.2.1, by have := z.2.2; omega⟩]
theorem dueN_yes {l0 : Str} {tl : List Str} (h1 : l0 = ("record" : Str)) (h2 : ("record" : Str) ∉ tl) (h3 : tl.length ≤ 3) : dueN l0 tl = .tup (tl.map rlL) := if_pos ⟨h1, h2, h3⟩
theorem dueN_no {l0 : Str} {tl : List Str} (h : ¬ (l0 = ("record" : Str) ∧ ("record" : Str) ∉ tl ∧ tl.length ≤ 3)) : dueN l0 tl = .int (((tl.length + 1 : Nat) : Int) + 1) := if_neg h
def rdO (t : Str) : D → Out (List Sl) Rt
  | .int n => .ex ⟨"InvalidText", some ("line", n)⟩ [.ro (.str t)]
  | d => .ok (.d d) [.ro (.str t)]
theorem r_read {t : Str} (ht : t.length ≤ 100000) (hr : Real t) : R_read_record [.ro (.str t)] = rdO t (due t) := by
  have hs := v_spl sep_nl (x := t) (by simp [big]; omega)
  have hn := sep_nl.ne t
  have hL : ∀ l ∈ Txt.split t "\n", l.length ≤ big ∧ Real l := fun l hl => ⟨by have := sep_nl.part hl; simp [big]; omega, hr.part sep_nl hl⟩
  have hz : (Txt.split t "\n").length ≤ 100001 := by have := sep_nl.sum t; omega
  obtain ⟨f', a', b', c', h⟩ := l_read t ((Txt.split t "\n").map .str) (Txt.split t "\n") 0 [] none none none hL (by simp [big]; omega)
  simp only [E6, osl_none, Nat.zero_add] at h
  cases hb : bad (Txt.split t "\n") with
  | some j =>
    rw [due_bad hb]
    rw [hb] at h
    simp only [rdO] at h ⊢
    simp only [R_read_record, b_read_record, l_read_record_1]
    simp! only [m1ok, m1R, hs, Bool.not_true, enumD_eq, h]
  | none =>
    have hc := @due_cons t
    rw [hb] at h
    simp only [List.nil_append] at h
    have ha := bad_none hb
    generalize hg : Txt.split t "\n" = ls at hs hn hL hz h ha hb
    cases ls with
    | nil => exact absurd rfl hn
    | cons l0 tl =>
      rw [hc hg hb]
      clear hc hg
      simp only [List.length_cons, List.map_cons] at hs hz h
      have ha0 := ha l0 List.mem_cons_self
      have hat : ∀ l ∈ tl, ilL l = true := fun l hl => ha l (List.mem_cons_of_mem _ hl)
      have k1 := any_rec hat
      have k2 : (tl.map rlL).all (D.shp 60) = true := shp_rl 58 hat
      have k3 := q_has (.tup (tl.map rlL))
      have k4 : slv (.lst (rlL l0 :: tl.map rlL)) (some 1) none = some (.lst (tl.map rlL)) := sl_fromL (rlL l0 :: tl.map rlL) 1
      by_cases p1 : l0 = "record"
      · have q1 : (rlL l0).isNon = true := by rw [p1, rlL_rec]; rfl
        by_cases p2 : ("record" : Str) ∈ tl
        · rw [decide_eq_true p2] at k1
          rw [dueN_no (fun z => z.2.1 p2)]
          simp only [R_read_record, b_read_record, l_read_record_1, rdO]
          simp! only [m1ok, m1R, hs, Bool.not_true, enumD_eq, h, List.map_cons, q1, k4, ninR, k2, k1, List.length_cons, List.length_map]
        · rw [decide_eq_false p2] at k1
          have k5 := isR_rl hat p2
          by_cases p3 : tl.length ≤ 3
          · rw [decide_eq_true p3] at k5
            rw [k5] at k3
            rw [dueN_yes p1 p2 p3]
            simp only [R_read_record, b_read_record, l_read_record_1, rdO]
            simp! only [m1ok, m1R, hs, Bool.not_true, enumD_eq, h, List.map_cons, q1, k4, ninR, k2, k1, List.length_cons, List.length_map, k3]
          · rw [decide_eq_false p3] at k5
            rw [k5] at k3
            rw [dueN_no (fun z => p3 z.2.2)]
            simp only [R_read_record, b_read_record, l_read_record_1, rdO]
            simp! only [m1ok, m1R, hs, Bool.not_true, Bool.not_false, enumD_eq, h, List.map_cons, q1, k4, ninR, k2, k1, List.length_cons, List.length_map, k3]
      · have q1 : (rlL l0).isNon = false := isSc_non (rlL_yes ha0 p1)
        rw [dueN_no (fun z => p1 z.1)]
        simp only [R_read_record, b_read_record, l_read_record_1, rdO]
        simp! only [m1ok, m1R, hs, Bool.not_true, enumD_eq, h, List.map_cons, q1, List.length_cons, List.length_map]
theorem due_shp {t : Str} : D.shp 60 (due t) = true := by
  unfold due
  split
  · rfl
  · rename_i hb
    split
    · have := shp_rl 57 (ls := (Txt.split t "\n").tail) fun l hl => bad_none hb l (List.mem_of_mem_tail hl)
      rw [show 57 + 2 = 59 from rfl] at this
      simp only [D.shp]
      generalize (Txt.split t "\n").tail.map rlL = F at this ⊢
      induction F with
      | nil => rfl
      | cons x F ih =>
        rw [List.all_cons, Bool.and_eq_true] at this
        simp only [D.shps, this.1, ih this.2]
        rfl
    · rfl
theorem due_kind (t : Str) : (∃ n, due t = .int n) ∨ ∃ xs, due t = .tup xs := by
  unfold due
  split
  · exact .inl ⟨_, rfl⟩
  · split
    · exact .inr ⟨_, rfl⟩
    · exact .inl ⟨_, rfl⟩
theorem q_tried {t : Str} (ht : t.length ≤ 100000) (hr : Real t) : R__law_tried [.ro (.str t)] = .ok (.d (due t)) [.ro (.str t)] := by
  have h := r_read ht hr
  simp only [R__law_tried, b__law_tried]
  rcases due_kind t with ⟨n, e⟩ | ⟨xs, e⟩
  · rw [e] at h ⊢
    simp only [rdO] at h
    simp! only [h, bq_cs, csA, List.length_cons, List.length_nil]
  · rw [e] at h ⊢
    simp only [rdO] at h
    simp! only [h, bq_cs, csA]
end G.k11
namespace G.k11
open PySem G
open G.M (Pl Sc Rc St En)
abbrev E4 (t : Str) (al : List D) (a b : Option D) : List Sl := [.ro (.str t), .ro (.lst al), osl a, osl b]
theorem b_due (t : Str) (al : List D) (i : Int) {l : Str} (hl : l.length ≤ big) (hr : Real l) : exs [R__law_scratch, R__law_is_line] b__law_due_1 [.ro (.str t), .ro (.lst al), .ro (.int i), .ro (.str l)] =
    .ok (if ilL l = true then .nx else .rt (.d (.int (i + 1)))) [.ro (.str t), .ro (.lst al), .ro (.int i), .ro (.str l)] := by
  have e : R__law_is_line [.ro (.str l)] = .ok (.d (.bl (ilL l))) [.ro (.str l)] := q_il hl hr
  simp only [b__law_due_1]
  cases h : ilL l with
  | true => rw [h] at e; simp! only [e, Bool.not_true]
  | false => rw [h] at e; simp! only [e, Bool.not_false]
theorem l_due (t : Str) (al : List D) : ∀ (ls : List Str) (i : Nat) (a b : Option D), (∀ l ∈ ls, l.length ≤ big ∧ Real l) →
    ∃ a' b', loopF (bindT [2, 3]) (exs [R__law_scratch, R__law_is_line] b__law_due_1) (enumF i (ls.map .str)) (E4 t al a b) =
      .ok (match bad ls with
      | some j => .rt (.d (.int (((i + j : Nat) : Int) + 1)))
      | none => .nx) (E4 t al a' b') := by
  intro ls
  induction ls with
  | nil => intro i a b _; exact ⟨a, b, by simp [bad, enumF, loopF]⟩
  | cons l ls ih =>
    intro i a b hl
    have h0 := hl l List.mem_cons_self
    have e := b_due t al i h0.1 h0.2
    by_cases h : ilL l = true
    · obtain ⟨a', b', ih⟩ := ih (i + 1) (some (.int i)) (some (.str l)) (fun z hz => hl z (List.mem_cons_of_mem _ hz))
      refine ⟨a', b', ?_⟩
      have hb : bad (l :: ls) = (bad ls).map (· + 1) := by unfold bad; rw [List.findIdx?_cons, h]; rfl
      rw [if_pos h] at e
      simp only [E4, osl_some] at ih ⊢
      simp! only [List.map_cons, enumF, loopF, e, bnd_ok]
      rw [ih, hb]
      cases bad ls with
      | none => simp
      | some j =>
        simp only [Option.map_some]
        have : i + 1 + j = i + (j + 1) := by omega
        rw [this]
    · rw [if_neg h] at e
      rw [Bool.not_eq_true] at h
      refine ⟨some (.int i), some (.str l), ?_⟩
      have hb : bad (l :: ls) = some 0 := by unfold bad; rw [List.findIdx?_cons, h]; rfl
      simp only [E4, osl_some]
      simp! only [List.map_cons, enumF, loopF, e, bnd_ok]
      rw [hb]
      rfl
theorem cnt_rec (l0 : Str) (tl : List Str) : mthv .count (.lst (.str l0 :: tl.map .str)) [.str "record"] = some (.int (((l0 :: tl).filter fun y => decide (y = ("record" : Str))).length : Nat)) := by
  have e : strsD (D.str l0 :: tl.map .str) = some (l0 :: tl) := strsD_map (l0 :: tl)
  simp only [mthv, e, Option.map_some]
theorem cnt_gt {l0 : Str} {tl : List Str} (h : l0 = ("record" : Str)) : ((1 : Int) < (((l0 :: tl).filter fun y => decide (y = ("record" : Str))).length : Nat)) = (("record" : Str) ∈ tl) := by
  rw [List.filter_cons_of_pos (by simpa using h), List.length_cons]
  refine propext ⟨fun z => ?_, fun z => ?_⟩
  · have : 0 < (tl.filter fun y => decide (y = ("record" : Str))).length := by omega
    obtain ⟨y, hy⟩ := List.exists_mem_of_length_pos this
    obtain ⟨h1, h2⟩ := List.mem_filter.mp hy
    rw [← of_decide_eq_true h2]
    exact h1
  · have : ("record" : Str) ∈ tl.filter fun y => decide (y = ("record" : Str)) := List.mem_filter.mpr ⟨z, by simp⟩
    have := List.length_pos_of_mem this
    omega
theorem q_due {t : Str} (ht : t.length ≤ 100000) (hr : Real t) : R__law_due [.ro (.str t)] = .ok (.d (due t)) [.ro (.str t)] := by
  have hs := v_spl sep_nl (x := t) (by simp [big]; omega)
  have hn := sep_nl.ne t
  have hL : ∀ l ∈ Txt.split t "\n", l.length ≤ big ∧ Real l := fun l hl => ⟨by have := sep_nl.part hl; simp [big]; omega, hr.part sep_nl hl⟩
  have hz : (Txt.split t "\n").length ≤ 100001 := by have := sep_nl.sum t; omega
  obtain ⟨a', b', h⟩ := l_due t ((Txt.split t "\n").map .str) (Txt.split t "\n") 0 none none hL
  simp only [E4, osl_none, Nat.zero_add] at h
  cases hb : bad (Txt.split t "\n") with
  | some j =>
    rw [due_bad hb]
    rw [hb] at h
    simp only at h
    simp only [R__law_due, b__law_due, l__law_due_1]
    simp! only [m1ok, m1R, hs, enumD_eq, h]
  | none =>
    have hc := @due_cons t
    rw [hb] at h
    simp only at h
    have ha := bad_none hb
    generalize hg : Txt.split t "\n" = ls at hs hn hL hz h ha hb
    cases ls with
    | nil => exact absurd rfl hn
    | cons l0 tl =>
      rw [hc hg hb]
      clear hc hg
      simp only [List.length_cons, List.map_cons] at hs hz h
      have ha0 := ha l0 List.mem_cons_self
      have hat : ∀ l ∈ tl, ilL l = true := fun l hl => ha l (List.mem_cons_of_mem _ hl)
      have n0 := ne_str (hL l0 List.mem_cons_self).2
      have k4 : slv (.lst (D.str l0 :: tl.map D.str)) (some 1) none = some (.lst (tl.map .str)) := sl_fromL (D.str l0 :: tl.map .str) 1
      have kc := cnt_rec l0 tl
      by_cases p1 : l0 = "record"
      · rw [decide_eq_true p1] at n0
        have kg := cnt_gt (tl := tl) p1
        generalize (((l0 :: tl).filter fun y => decide (y = ("record" : Str))).length : Nat) = m at kc kg
        by_cases p2 : ("record" : Str) ∈ tl
        · have kg : ((1 : Int) < (m : Int)) = True := by rw [kg]; exact eq_true p2
          rw [dueN_no (fun z => z.2.1 p2)]
          simp only [R__law_due, b__law_due, l__law_due_1]
          simp! only [m1ok, m1R, hs, enumD_eq, h, List.map_cons, n0, Bool.not_true, kc, kg, List.length_cons, List.length_map]
        · have kg : ((1 : Int) < (m : Int)) = False := by rw [kg]; exact eq_false p2
          by_cases p3 : tl.length ≤ 3
          · have k5 : ((4 : Int) < ((tl.length + 1 : Nat) : Int)) = False := eq_false (by omega)
            have hcomp : ev [R__law_scratch, R__law_is_line] e__law_due_1 [.ro (.str t), .ro (.lst (.str l0 :: tl.map .str)), osl a', osl b'] = .ok (.d (.lst (tl.map rlL))) [.ro (.str t), .ro (.lst (.str l0 :: tl.map .str)), osl a', osl b'] := by
              have e : tl.map rlL = (tl.map D.str).map fun d => match d with | .str l => rlL l | d => d := by simp [List.map_map]
              rw [e]
              unfold e__law_due_1
              refine comp1 _ (by simp! only [k4]) (by cases b' <;> rfl) (by simp) (by simp [big]; omega) ?_
              intro x hx
              obtain ⟨l, hl, rfl⟩ := List.mem_map.1 hx
              have z := hL l (List.mem_cons_of_mem _ hl)
              have nr : l ≠ "record" := fun q => p2 (q ▸ hl)
              have e2 : R__law_scratch [.ro (.str l)] = .ok (.d (rlL l)) [.ro (.str l)] := by rw [rlL_sc (hat l hl) nr]; exact q_sc z.1 z.2 (ilL_yes (hat l hl) nr)
              unfold x__law_due_1
              simp! only [e2]
            rw [dueN_yes p1 p2 p3]
            simp only [R__law_due, b__law_due, l__law_due_1]
            simp! only [m1ok, m1R, hs, enumD_eq, h, List.map_cons, n0, Bool.not_true, kc, kg, k5, List.length_cons, List.length_map, hcomp]
          · have k5 : ((4 : Int) < ((tl.length + 1 : Nat) : Int)) = True := eq_true (by omega)
            rw [dueN_no (fun z => p3 z.2.2)]
            simp only [R__law_due, b__law_due, l__law_due_1]
            simp! only [m1ok, m1R, hs, enumD_eq, h, List.map_cons, n0, Bool.not_true, kc, kg, k5, List.length_cons, List.length_map]
      · rw [decide_eq_false p1] at n0
        rw [dueN_no (fun z => p1 z.1)]
        simp only [R__law_due, b__law_due, l__law_due_1]
        simp! only [m1ok, m1R, hs, enumD_eq, h, List.map_cons, n0, Bool.not_false, List.length_cons, List.length_map]
end G.k11
namespace G.k11
open PySem G
open G.M (Pl Sc Rc St En)
/-! ### what is written -/
def evS (e : Bool) : Str := if e then "second" else "always"
def wordsT (s : Sc) : List Str := [wS s.a.rim, sI s.a.p, wS s.b.rim, sI s.b.p, sI s.j, evS s.e]
def lineT (s : Sc) : Str := Txt.join " " (wordsT s)
def tx (r : Rc) : Str := Txt.join "\n" ("record" :: r.map lineT)
def goodW : List Str := ("rim" : Str) :: "mid" :: (digW ++ jmpW ++ evW)
theorem good_all : ∀ w ∈ goodW, Real w ∧ 32 ∉ w.cps.toList ∧ 10 ∉ w.cps.toList ∧ w.length ≤ 6 := by decide +kernel
theorem dig_cases {p : Int} (h : 0 ≤ p) (h' : p ≤ 5) : sI p ∈ digW ∧ item (sI p) digs = .int p := by
  have : p = 0 ∨ p = 1 ∨ p = 2 ∨ p = 3 ∨ p = 4 ∨ p = 5 := by omega
  rcases this with rfl | rfl | rfl | rfl | rfl | rfl <;> exact ⟨by decide +kernel, by rfl⟩
theorem jmp_cases {p : Int} (h : -3 ≤ p) (h' : p ≤ 3) (n : p ≠ 0) : sI p ∈ jmpW ∧ item (sI p) jmps = .int p := by
  have : p = -3 ∨ p = -2 ∨ p = -1 ∨ p = 1 ∨ p = 2 ∨ p = 3 := by omega
  rcases this with rfl | rfl | rfl | rfl | rfl | rfl <;> exact ⟨by decide +kernel, by rfl⟩
theorem words_good {s : Sc} (h : s.ok) : ∀ w ∈ wordsT s, w ∈ goodW := by
  obtain ⟨⟨a1, a2⟩, ⟨b1, b2⟩, j1, j2, j3⟩ := h
  have side : ∀ b : Bool, wS b ∈ goodW := by decide +kernel
  have evs' : ∀ b : Bool, evS b ∈ goodW := by decide +kernel
  intro w hw
  simp only [wordsT, List.mem_cons, List.not_mem_nil, or_false] at hw
  have dg : ∀ z : Str, z ∈ digW → z ∈ goodW := fun z hz => List.mem_cons_of_mem _ (List.mem_cons_of_mem _ (List.mem_append_left _ (List.mem_append_left _ hz)))
  have jg : ∀ z : Str, z ∈ jmpW → z ∈ goodW := fun z hz => List.mem_cons_of_mem _ (List.mem_cons_of_mem _ (List.mem_append_left _ (List.mem_append_right _ hz)))
  rcases hw with rfl | rfl | rfl | rfl | rfl | rfl
  · exact side _
  · exact dg _ (dig_cases a1 a2).1
  · exact side _
  · exact dg _ (dig_cases b1 b2).1
  · exact jg _ (jmp_cases j1 j2 j3).1
  · exact evs' _
theorem mk_words {s : Sc} (h : s.ok) : mkS (wordsT s) = dSc s := by
  obtain ⟨⟨a1, a2⟩, ⟨b1, b2⟩, j1, j2, j3⟩ := h
  have e : every (evS s.e) = dEv s.e := by cases s.e <;> rfl
  simp only [wordsT, mkS, (dig_cases a1 a2).2, (dig_cases b1 b2).2, (jmp_cases j1 j2 j3).2, e, dSc, dPl]
theorem il6_words {s : Sc} (h : s.ok) : il6 (wordsT s) = true := by
  obtain ⟨⟨a1, a2⟩, ⟨b1, b2⟩, j1, j2, j3⟩ := h
  have side : ∀ b : Bool, isSide (wS b) = true := by decide +kernel
  have ev' : ∀ b : Bool, evS b ∈ evW := by decide +kernel
  simp only [wordsT, il6, side, (dig_cases a1 a2).1, (dig_cases b1 b2).1, (jmp_cases j1 j2 j3).1, ev', decide_true, Bool.and_self]
theorem line_split {s : Sc} (h : s.ok) : Txt.split (lineT s) " " = wordsT s := sep_sp.join (by simp [wordsT]) fun p hp => (good_all p (words_good h p hp)).2.1
theorem line_il {s : Sc} (h : s.ok) : ilL (lineT s) = true := by
  unfold ilL il
  rw [line_split h, il6_words h, Bool.or_true]
theorem line_rl {s : Sc} (h : s.ok) : rlL (lineT s) = dSc s := by
  unfold rlL rl
  rw [line_split h, isSc_rl6, il6_words h, if_pos rfl, mk_words h]
theorem sum_le : ∀ {ps : List Str} {k : Nat}, (∀ p ∈ ps, p.length ≤ k) → (ps.map (·.length)).sum ≤ ps.length * k
  | [], k, _ => by simp
  | p :: ps, k, h => by
    have := sum_le (ps := ps) (k := k) fun z hz => h z (List.mem_cons_of_mem _ hz)
    have := h p List.mem_cons_self
    simp only [List.map_cons, List.sum_cons, List.length_cons, Nat.add_mul, Nat.one_mul]
    omega
theorem words_sum {s : Sc} (h : s.ok) : ((wordsT s).map (·.length)).sum ≤ 36 := sum_le (k := 6) fun p hp => (good_all p (words_good h p hp)).2.2.2
theorem line_len {s : Sc} (h : s.ok) : (lineT s).length ≤ 42 := by
  have a := sep_sp.jlen (wordsT s)
  have b := words_sum h
  have c : (wordsT s).length = 6 := rfl
  show (Txt.join " " (wordsT s)).length ≤ 42
  omega
theorem line_nl {s : Sc} (h : s.ok) : 10 ∉ (lineT s).cps.toList := sep_sp.free (t := 10) (by decide) fun p hp => (good_all p (words_good h p hp)).2.2.1
theorem line_real {s : Sc} (h : s.ok) : Real (lineT s) := Real.join (by decide +kernel) fun p hp => (good_all p (words_good h p hp)).1
theorem tx_split {r : Rc} (h : OkR r) : Txt.split (tx r) "\n" = ("record" : Str) :: r.map lineT := sep_nl.join (by simp) fun p hp => by
  rcases List.mem_cons.mp hp with rfl | hp
  · decide +kernel
  · obtain ⟨s, hs, rfl⟩ := List.mem_map.mp hp
    exact line_nl (h.ok s hs)
theorem tx_real {r : Rc} (h : OkR r) : Real (tx r) := Real.join (by decide +kernel) fun p hp => by
  rcases List.mem_cons.mp hp with rfl | hp
  · decide +kernel
  · obtain ⟨s, hs, rfl⟩ := List.mem_map.mp hp
    exact line_real (h.ok s hs)
theorem lines_sum {r : Rc} (h : OkR r) : ((("record" : Str) :: r.map lineT).map (·.length)).sum ≤ 168 := by
  have a := sum_le (ps := ("record" : Str) :: r.map lineT) (k := 42) fun p hp => by
    rcases List.mem_cons.mp hp with rfl | hp
    · decide +kernel
    · obtain ⟨s, hs, rfl⟩ := List.mem_map.mp hp
      exact line_len (h.ok s hs)
  have b := h.le
  simp only [List.length_cons, List.length_map] at a
  omega
theorem tx_len {r : Rc} (h : OkR r) : (tx r).length ≤ 172 := by
  have a := sep_nl.jlen (("record" : Str) :: r.map lineT)
  have b := lines_sum h
  have c := h.le
  simp only [List.length_cons, List.length_map] at a
  show (Txt.join "\n" (("record" : Str) :: r.map lineT)).length ≤ 172
  omega
theorem due_tx {r : Rc} (h : OkR r) : due (tx r) = dRc r := by
  have hb : bad (("record" : Str) :: r.map lineT) = none := by
    unfold bad
    rw [List.findIdx?_eq_none_iff]
    intro l hl
    rcases List.mem_cons.mp hl with rfl | hl
    · rw [ilL_rec]; rfl
    · obtain ⟨s, hs, rfl⟩ := List.mem_map.mp hl
      rw [line_il (h.ok s hs)]; rfl
  rw [due_cons (tx_split h) hb, dueN_yes rfl ?_ (by rw [List.length_map]; exact h.le)]
  · unfold dRc
    rw [List.map_map]
    congr 1
    refine List.map_congr_left fun s hs => ?_
    exact line_rl (h.ok s hs)
  · intro z
    obtain ⟨s, hs, e⟩ := List.mem_map.mp z
    have a := line_rl (h.ok s hs)
    rw [e, rlL_rec] at a
    cases a
theorem abs5 {p : Int} (h : 0 ≤ p) (h' : p ≤ 5) : p.natAbs ≤ 10 := by omega
theorem abs3 {p : Int} (h : -3 ≤ p) (h' : p ≤ 3) : p.natAbs ≤ 10 := by omega
theorem r_sline {s : Sc} (h : s.ok) : R_scratch_line [.ro (dSc s)] = .ok (.d (.str (lineT s))) [.ro (dSc s)] := by
  have hj := v_joi sep_sp (ps := wordsT s) (by have := words_sum h; have : (wordsT s).length = 6 := rfl; omega)
  have hg : gidxR [(1, "always"), (2, "second")] (.d (dEv s.e)) = some (.str (evS s.e)) := by cases s.e <;> rfl
  obtain ⟨⟨a1, a2⟩, ⟨b1, b2⟩, j1, j2, j3⟩ := h
  have e1 := str_i (abs5 a1 a2)
  have e2 := str_i (abs5 b1 b2)
  have e3 := str_i (abs3 j1 j2)
  simp only [R_scratch_line, b_scratch_line, dSc, dPl, wordsT, List.map_cons, List.map_nil] at *
  simp! only [m1ok, m1R, e1, e2, e3, hg, hj, lineT, wordsT]
theorem r_lline {s : Sc} (h : s.ok) : R__law_line [.ro (dSc s)] = .ok (.d (.str (lineT s))) [.ro (dSc s)] := by
  have hj := v_joi sep_sp (ps := wordsT s) (by have := words_sum h; have : (wordsT s).length = 6 := rfl; omega)
  obtain ⟨⟨a1, a2⟩, ⟨b1, b2⟩, j1, j2, j3⟩ := h
  have e1 := str_i (abs5 a1 a2)
  have e2 := str_i (abs5 b1 b2)
  have e3 := str_i (abs3 j1 j2)
  have k : slv (dSc s) none (some 2) = some (.tup [dPl s.a, dPl s.b]) := sl_toT _ 2
  have q1 : binv .add (.lst []) (.lst [.str (wS s.a.rim), .str (sI s.a.p)]) = some (.lst [.str (wS s.a.rim), .str (sI s.a.p)]) := v_addL (by simp [big])
  have q2 : binv .add (.lst [.str (wS s.a.rim), .str (sI s.a.p)]) (.lst [.str (wS s.b.rim), .str (sI s.b.p)]) = some (.lst [.str (wS s.a.rim), .str (sI s.a.p), .str (wS s.b.rim), .str (sI s.b.p)]) := v_addL (by simp [big])
  have q3 : binv .add (.lst [.str (wS s.a.rim), .str (sI s.a.p), .str (wS s.b.rim), .str (sI s.b.p)]) (.lst [.str (sI s.j), .str (evS s.e)]) = some (.lst [.str (wS s.a.rim), .str (sI s.a.p), .str (wS s.b.rim), .str (sI s.b.p), .str (sI s.j), .str (evS s.e)]) := v_addL (by simp [big])
  have q4 : idxv (.lst [.str "always", .str "second"]) (.int ((if s.e = true then 2 else 1) - 1)) = some (.str (evS s.e)) := by cases s.e <;> rfl
  simp only [R__law_line, b__law_line, l__law_line_1, b__law_line_1, dSc, dPl, dEv, wordsT, List.map_cons, List.map_nil] at *
  simp! only [m1ok, m1R, e1, e2, e3, k, loopF, q1, q2, q3, q4, hj, lineT, wordsT]
end G.k11
namespace G.k11
open PySem G
open G.M (Pl Sc Rc St En)
theorem r_lines {r : Rc} (h : OkR r) : R_record_lines [.ro (dRc r)] = .ok (.d (.lst ((("record" : Str) :: r.map lineT).map .str))) [.ro (dRc r)] := by
  have hl := h.le
  have hc : ev [R_scratch_line] e_record_lines_1 [.ro (.tup (r.map dSc)), .no] = .ok (.d (.lst (r.map fun s => .str (lineT s)))) [.ro (.tup (r.map dSc)), .no] := by
    unfold e_record_lines_1
    refine compM dSc (fun s => .str (lineT s)) (by simp! only []) (by rfl) (by simp) (by simp [big]; omega) ?_
    intro s hs
    unfold x_record_lines_1
    simp! only [r_sline (h.ok s hs)]
  have q : binv .add (.lst [.str "record"]) (.lst (r.map fun s => .str (lineT s))) = some (.lst ([.str "record"] ++ r.map fun s => .str (lineT s))) := v_addL (by simp [big]; omega)
  have e : ((("record" : Str) :: r.map lineT).map D.str) = [.str "record"] ++ r.map fun s => .str (lineT s) := by simp [List.map_map]
  rw [e]
  simp only [R_record_lines, b_record_lines, dRc]
  simp! only [hc, q]
theorem r_rtext {r : Rc} (h : OkR r) : R_record_text [.ro (dRc r)] = .ok (.d (.str (tx r))) [.ro (dRc r)] := by
  have e1 := r_need_record h
  have e2 := r_lines h
  have hj := v_joi sep_nl (ps := ("record" : Str) :: r.map lineT) (by have := lines_sum h; have := h.le; simp only [List.length_cons, List.length_map]; omega)
  simp only [R_record_text, b_record_text]
  simp! only [e1, e2, m1ok, m1R, hj, tx]
/-! ### pieces of texts -/
theorem cut_sub {α : Type} (xs : List α) (lo hi : Option Int) : (cut xs lo hi).length ≤ xs.length ∧ ∀ c ∈ cut xs lo hi, c ∈ xs := by
  unfold cut
  refine ⟨?_, fun c hc => List.mem_of_mem_drop (List.mem_of_mem_take hc)⟩
  rw [List.length_take, List.length_drop]
  omega
theorem cutS {z : Str} (hz : z.length ≤ big) (hr : Real z) (lo hi : Option Int) : ∃ u : Str, slv (.str z) lo hi = some (.str u) ∧ u.length ≤ z.length ∧ Real u := by
  refine ⟨⟨(cut z.cps.toList lo hi).toArray⟩, ?_, ?_, fun c hc => ?_⟩
  · simp only [slv]
    rw [if_pos hz]
  · have := (cut_sub z.cps.toList lo hi).1
    rw [TL.len_tl, TL.len_tl]
    simpa using this
  · exact hr c ((cut_sub z.cps.toList lo hi).2 c (by simpa using hc))
theorem cut400 {z : Str} (hz : z.length ≤ big) (hr : Real z) : ∃ u : Str, slv (.str z) none (some 400) = some (.str u) ∧ u.length ≤ 400 ∧ Real u := by
  refine ⟨⟨(cut z.cps.toList none (some 400)).toArray⟩, ?_, ?_, fun c hc => ?_⟩
  · simp only [slv]
    rw [if_pos hz]
  · have : cut z.cps.toList none (some ((400 : Nat) : Int)) = z.cps.toList.take 400 := cut_to _ 400
    rw [TL.len_tl]
    show (cut z.cps.toList none (some ((400 : Nat) : Int))).length ≤ 400
    rw [this, List.length_take]
    omega
  · exact hr c ((cut_sub z.cps.toList none (some 400)).2 c (by simpa using hc))
theorem app_len (x y : Str) : (x ++ y).length = x.length + y.length := by
  rw [TL.len_tl, TL.tl_append, List.length_append, ← TL.len_tl, ← TL.len_tl]
theorem v_addS {x y : Str} (h : x.length + y.length ≤ big) : binv .add (.str x) (.str y) = some (.str (x ++ y)) := by simp [binv, h]
theorem v_lenS {x : Str} (h : x.length ≤ big) : bltv .len [.str x] = some (.int x.length) := by simp [bltv, h]
theorem sum_app : ∀ xs ys : List Nat, (xs ++ ys).sum = xs.sum + ys.sum
  | [], ys => by simp
  | x :: xs, ys => by rw [List.cons_append, List.sum_cons, List.sum_cons, sum_app xs ys]; omega
theorem sum_rev : ∀ xs : List Nat, xs.reverse.sum = xs.sum
  | [] => rfl
  | x :: xs => by rw [List.reverse_cons, sum_app, sum_rev xs]; simp; omega
theorem sum_drop (xs : List Nat) : (xs.drop 1).sum ≤ xs.sum := by
  cases xs with
  | nil => simp
  | cons x xs => simp
def sgW : List Str := " " :: "rim" :: "mid" :: "1" :: "6" :: "0" :: "" :: "-" :: "\nrecord" :: "always" :: "\nrim 0 mid 0 1 second" :: "+" :: "x" :: []
theorem sg_all : ∀ w ∈ sgW, Real w ∧ w.length ≤ 25 := by decide +kernel
structure Good (n : Nat) (x : Str) : Prop where
  l : x.length ≤ n
  r : Real x
theorem r_bent {a b : Int} (h : Src a b) {t : Str} (ht : Good 400 t) : ∃ u a' b', Src a' b' ∧ Good 4000 u ∧ R__law_bent [dSrc true a b, .ro (.str t)] = .ok (.d (.str u)) [dSrc true a' b', .ro (.str t)] := by
  obtain ⟨ht, hr⟩ := ht
  obtain ⟨v, a1, b1, h1, v0, v1, e1⟩ := r_draw h (m := (t.length : Int) + 1) (by omega) (by omega) true
  obtain ⟨x, a2, b2, h2, hx, e2⟩ := r_choice h1 (sgW.map .str) (by decide) (by decide)
  obtain ⟨sg, hsg, rfl⟩ := List.mem_map.mp hx
  obtain ⟨g1, g2⟩ := sg_all sg hsg
  obtain ⟨w, a3, b3, h3, w0, w1, e3⟩ := r_draw h2 (m := 3) (by omega) (by omega) true
  obtain ⟨u1, s1, l1, r1⟩ := cutS (z := t) (by unfold big; omega) hr none (some v)
  obtain ⟨u2, s2, l2, r2⟩ := cutS (z := t) (by unfold big; omega) hr (some (v + w)) none
  have q1 := v_addS (x := u1) (y := sg) (by unfold big; omega)
  have q2 := v_addS (x := u1 ++ sg) (y := u2) (by rw [app_len]; unfold big; omega)
  have hT : (u1 ++ sg ++ u2).length ≤ 825 := by rw [app_len, app_len]; omega
  have rT : Real (u1 ++ sg ++ u2) := (r1.app g1).app r2
  generalize u1 ++ sg ++ u2 = T at q2 hT rT
  have hs := v_spl sep_nl (x := T) (by unfold big; omega)
  have hsum := sep_nl.sum T
  have hreal : ∀ l ∈ Txt.split T "\n", Real l := fun l hl => rT.part sep_nl hl
  generalize Txt.split T "\n" = ls at hs hsum hreal
  have nl : Real "\n" := by decide +kernel
  have sr : ((ls.reverse).map (·.length)).sum = (ls.map (·.length)).sum := by rw [List.map_reverse, sum_rev]
  have sd : ((ls.drop 1).map (·.length)).sum ≤ (ls.map (·.length)).sum := by rw [List.map_drop]; exact sum_drop _
  have sl : (ls.drop 1).length ≤ ls.length := by rw [List.length_drop]; omega
  have sa : ((ls ++ ls.drop 1).map (·.length)).sum = (ls.map (·.length)).sum + ((ls.drop 1).map (·.length)).sum := by rw [List.map_append, sum_app]
  have j1 := v_joi sep_nl (ps := ls.reverse) (by rw [sr, List.length_reverse]; omega)
  have j2 := v_joi sep_nl (ps := ls.drop 1) (by omega)
  have j3 := v_joi sep_nl (ps := ls ++ ls.drop 1) (by rw [sa, List.length_append]; omega)
  have k1 : Good 4000 (Txt.join "\n" ls.reverse) := ⟨by have := sep_nl.jlen ls.reverse; rw [sr, List.length_reverse] at this; omega, Real.join nl fun p hp => hreal p (by simpa using hp)⟩
  have k2 : Good 4000 (Txt.join "\n" (ls.drop 1)) := ⟨by have := sep_nl.jlen (ls.drop 1); omega, Real.join nl fun p hp => hreal p (List.mem_of_mem_drop hp)⟩
  have k3 : Good 4000 (Txt.join "\n" (ls ++ ls.drop 1)) := ⟨by have := sep_nl.jlen (ls ++ ls.drop 1); rw [sa, List.length_append] at this; omega, Real.join nl fun p hp => by
    rcases List.mem_append.mp hp with hp | hp
    · exact hreal p hp
    · exact hreal p (List.mem_of_mem_drop hp)⟩
  have kT : Good 4000 T := ⟨by omega, rT⟩
  generalize Txt.join "\n" ls.reverse = J1 at j1 k1
  generalize Txt.join "\n" (ls.drop 1) = J2 at j2 k2
  generalize Txt.join "\n" (ls ++ ls.drop 1) = J3 at j3 k3
  rw [List.map_reverse] at j1
  have d1 : slv (.lst (ls.map D.str)) (some 1) none = some (.lst ((ls.drop 1).map .str)) := by
    rw [List.map_drop]
    exact sl_fromL (ls.map D.str) 1
  have d2 : binv .add (.lst (ls.map D.str)) (.lst ((ls.drop 1).map .str)) = some (.lst ((ls ++ ls.drop 1).map .str)) := by
    rw [List.map_append]
    exact v_addL (by simp only [List.length_map]; unfold big; omega)
  obtain ⟨y, a4, b4, h4, hy, e4⟩ := r_choice h3 [.str T, .str T, .str T, .str J1, .str J2, .str J3] (by simp) (by simp)
  have hy' : ∃ u, y = .str u ∧ Good 4000 u := by
    simp only [List.mem_cons, List.not_mem_nil, or_false] at hy
    rcases hy with rfl | rfl | rfl | rfl | rfl | rfl
    · exact ⟨_, rfl, kT⟩
    · exact ⟨_, rfl, kT⟩
    · exact ⟨_, rfl, kT⟩
    · exact ⟨_, rfl, k1⟩
    · exact ⟨_, rfl, k2⟩
    · exact ⟨_, rfl, k3⟩
  obtain ⟨u, rfl, ku⟩ := hy'
  refine ⟨u, a4, b4, h4, ku, ?_⟩
  have vl := v_lenS (x := t) (by unfold big; omega)
  simp only [R__law_bent, b__law_bent, dSrc, sgW, List.map_cons, List.map_nil] at *
  simp! only [vl, e1, e2, e3, s1, s2, q1, q2, m1ok, m1R, hs, revR, j1, d1, j2, d2, j3, e4]
end G.k11
namespace G.k11
open PySem G
open G.M (Pl Sc Rc St En)
abbrev TL : List Fn := [R__law_tried, R__law_due, R__law_bent, R_read_record, R_record_text, R__law_line, R__law_record, R__law_source]
abbrev EM (sc : D) (o1 : Option D) (s2 : Sl) (o3 o4 o5 o6 o7 o8 o9 o10 o11 o12 : Option D) : List Sl := [.ro sc, osl o1, s2, osl o3, osl o4, osl o5, osl o6, osl o7, osl o8, osl o9, osl o10, osl o11, osl o12]
abbrev EL (sc k : D) (a b : Int) (o3 o4 o5 o6 o7 o8 o9 o10 o11 o12 : Option D) : List Sl := [.ro sc, .ro k, .ow false (.lst [.int a, .int b]), osl o3, osl o4, osl o5, osl o6, osl o7, osl o8, osl o9, osl o10, osl o11, osl o12]
theorem ne_self {d : D} (h : D.shp 60 d = true) : cmpv .ne d d = some false := by
  simp only [cmpv, h, D.eq_self 60 d h]
  rfl
theorem q_odd {v : D} (h : v.isStr = false) : R__law_tried [.ro v] = .ok (.d (.int 0)) [.ro v] := by
  have e : bltv .isstr [v] = some (.bl v.isStr) := by cases v <;> rfl
  rw [h] at e
  have h2 : R_read_record [.ro v] = .ex ⟨"InvalidText", some ("line", 0)⟩ [.ro v] := by
    simp only [R_read_record, b_read_record]
    simp! only [e, Bool.not_false]
  simp only [R__law_tried, b__law_tried]
  simp! only [h2, bq_cs, csA, List.length_cons, List.length_nil]
section
variable (sc k : D) (a b : Int) (o3 o4 o5 o6 o7 o8 o9 o10 o11 o12 : Option D)
theorem b1 {d : D} (h : d.isStr = false) : exs TL b_law_1 (EL sc k a b o3 o4 o5 o6 (some d) o8 o9 o10 o11 o12) = .ok .nx (EL sc k a b o3 o4 o5 o6 (some d) o8 o9 o10 o11 o12) := by
  have e := q_odd h
  simp only [b_law_1, EL]
  simp! only [e, Bool.not_true]
theorem lb1 : ∀ (l : List D) (o7 : Option D), (∀ d ∈ l, d.isStr = false) → ∃ q7, loopF (fun x δ => setRo δ 7 x) (exs TL b_law_1) l (EL sc k a b o3 o4 o5 o6 o7 o8 o9 o10 o11 o12) = .ok .nx (EL sc k a b o3 o4 o5 o6 q7 o8 o9 o10 o11 o12) := by
  intro l
  induction l with
  | nil => intro o7 _; exact ⟨o7, rfl⟩
  | cons d l ih =>
    intro o7 hd
    have hset : setRo (EL sc k a b o3 o4 o5 o6 o7 o8 o9 o10 o11 o12) 7 d = some (EL sc k a b o3 o4 o5 o6 (some d) o8 o9 o10 o11 o12) := by
      simp! only [setRo, EL]
    obtain ⟨q7, e⟩ := ih (some d) fun x hx => hd x (by simp [hx])
    refine ⟨q7, ?_⟩
    simp -implicitDefEqProofs only [loopF, hset, lift_some, bnd_ok, b1 sc k a b o3 o4 o5 o6 o8 o9 o10 o11 o12 (hd d (by simp))]
    exact e
theorem l1 (r : Rc) (t : Str) : ∃ q7, exs TL l_law_1 (EL sc k a b (some (dRc r)) o4 (some (.str t)) o6 o7 o8 o9 o10 o11 o12) = .ok .nx (EL sc k a b (some (dRc r)) o4 (some (.str t)) o6 q7 o8 o9 o10 o11 o12) := by
  obtain ⟨q7, e⟩ := lb1 sc k a b (some (dRc r)) o4 (some (.str t)) o6 o8 o9 o10 o11 o12 [.non, .int 5, .tup [.str t], .lst [.str t], .bl true, dRc r] o7 (by
    intro d hd
    simp only [List.mem_cons, List.not_mem_nil, or_false] at hd
    rcases hd with rfl | rfl | rfl | rfl | rfl | rfl <;> rfl)
  refine ⟨q7, ?_⟩
  simp only [EL] at *
  simp! only [] at e
  simp only [l_law_1]
  simp! only [e]
theorem b2 (hs : Src a b) {f t : Str} (hf : Good 400 f) (ht : Good 400 t) (i : Int) : ∃ u a' b', Src a' b' ∧ Good 400 u ∧
    exs TL b_law_2 (EL sc k a b o3 (some (.str f)) (some (.str t)) (some (.int i)) o7 o8 o9 o10 o11 o12) = .ok .nx (EL sc k a' b' o3 (some (.str f)) (some (.str u)) (some (.int i)) o7 o8 o9 o10 o11 o12) := by
  have key : ∀ {z : Str}, Good 400 z → ∃ y u a' b', Src a' b' ∧ Good 400 u ∧ R__law_bent [dSrc true a b, .ro (.str z)] = .ok (.d (.str y)) [dSrc true a' b', .ro (.str z)] ∧ slv (.str y) none (some 400) = some (.str u) ∧
      R__law_tried [.ro (.str u)] = .ok (.d (due u)) [.ro (.str u)] ∧ R__law_due [.ro (.str u)] = .ok (.d (due u)) [.ro (.str u)] := by
    intro z hz
    obtain ⟨y, a', b', h1, h2, e⟩ := r_bent hs hz
    obtain ⟨u, s1, l1, r1⟩ := cut400 (z := y) (by have := h2.l; unfold big; omega) h2.r
    exact ⟨y, u, a', b', h1, ⟨l1, r1⟩, e, s1, q_tried (by omega) r1, q_due (by omega) r1⟩
  by_cases h : i.fmod 3 = 0
  · obtain ⟨y, u, a', b', h1, h2, e1, e2, e3, e4⟩ := key hf
    refine ⟨u, a', b', h1, h2, ?_⟩
    have n := ne_self (due_shp (t := u))
    simp only [b_law_2, q_law_10, q_law_9, EL, dSrc] at *
    generalize due u = du at *
    simp! only [h, e1, e2, e3, e4, n]
  · obtain ⟨y, u, a', b', h1, h2, e1, e2, e3, e4⟩ := key ht
    refine ⟨u, a', b', h1, h2, ?_⟩
    have n := ne_self (due_shp (t := u))
    simp only [b_law_2, q_law_10, q_law_9, EL, dSrc] at *
    generalize due u = du at *
    simp! only [h, e1, e2, e3, e4, n]
end
end G.k11
namespace G.k11
open PySem G
open G.M (Pl Sc Rc St En)
theorem seq_nx {T a b} {δ δ' : List Sl} (h : exs T a δ = .ok .nx δ') : exs T (.seq a b) δ = exs T b δ' := by
  simp only [exs, h, bnd_ok]
section
variable (sc k : D) (a b : Int) (o3 o4 o5 o6 o7 o8 o9 o10 o11 o12 : Option D)
theorem lb2 {f : Str} (hf : Good 400 f) : ∀ (l : List Nat) (a b : Int) (t : Str) (o6 : Option D), Src a b → Good 400 t → ∃ u a' b' q6, Src a' b' ∧ Good 400 u ∧
    loopF (fun x δ => setRo δ 6 x) (exs TL b_law_2) (l.map fun (i : Nat) => D.int i) (EL sc k a b o3 (some (.str f)) (some (.str t)) o6 o7 o8 o9 o10 o11 o12) = .ok .nx (EL sc k a' b' o3 (some (.str f)) (some (.str u)) q6 o7 o8 o9 o10 o11 o12) := by
  intro l
  induction l with
  | nil => intro a b t o6 h1 h2; exact ⟨t, a, b, o6, h1, h2, rfl⟩
  | cons i l ih =>
    intro a b t o6 h1 h2
    have hset : setRo (EL sc k a b o3 (some (.str f)) (some (.str t)) o6 o7 o8 o9 o10 o11 o12) 6 (.int i) = some (EL sc k a b o3 (some (.str f)) (some (.str t)) (some (.int i)) o7 o8 o9 o10 o11 o12) := by
      simp! only [setRo, EL]
    obtain ⟨u, a', b', g1, g2, e1⟩ := b2 sc k a b o3 o7 o8 o9 o10 o11 o12 h1 hf h2 i
    obtain ⟨u', a2, b2', q6, s1, s2, e⟩ := ih a' b' u (some (.int i)) g1 g2
    refine ⟨u', a2, b2', q6, s1, s2, ?_⟩
    simp -implicitDefEqProofs only [List.map_cons, loopF, hset, lift_some, bnd_ok, e1]
    exact e
theorem l2 (hs : Src a b) {f t : Str} (hf : Good 400 f) (ht : Good 400 t) : ∃ u a' b' q6, Src a' b' ∧ Good 400 u ∧
    exs TL l_law_2 (EL sc k a b o3 (some (.str f)) (some (.str t)) o6 o7 o8 o9 o10 o11 o12) = .ok .nx (EL sc k a' b' o3 (some (.str f)) (some (.str u)) q6 o7 o8 o9 o10 o11 o12) := by
  obtain ⟨u, a', b', q6, s1, s2, e⟩ := lb2 sc k o3 o7 o8 o9 o10 o11 o12 hf (List.range 20) a b t o6 hs ht
  have g := rg1 (n := 20) (by unfold big; omega)
  rw [rangeD0] at g
  have g : rg1R (.d (.int 20)) = some ((List.range 20).map fun (i : Nat) => D.int i) := g
  generalize ((List.range 20).map fun (i : Nat) => D.int i) = L at g e
  refine ⟨u, a', b', q6, s1, s2, ?_⟩
  simp only [EL] at *
  simp! only [] at e
  simp only [l_law_2]
  simp! only [g, e]
theorem q14 (hs : Src a b) : ∃ r a' b', Src a' b' ∧ OkR r ∧ exs TL q_law_14 (EL sc k a b o3 o4 o5 o6 o7 o8 o9 o10 o11 o12) = .ok .nx (EL sc k a' b' (some (dRc r)) o4 o5 o6 o7 o8 o9 o10 o11 o12) := by
  obtain ⟨r, a', b', h1, h2, e⟩ := r_record hs
  refine ⟨r, a', b', h1, h2, ?_⟩
  simp only [q_law_14, EL, dSrc] at *
  generalize dRc r = d at *
  simp! only [e]
theorem q13 {r : Rc} (h : OkR r) : exs TL q_law_13 (EL sc k a b (some (dRc r)) o4 o5 o6 o7 o8 o9 o10 o11 o12) = .ok .nx (EL sc k a b (some (dRc r)) (some (.str (tx r))) o5 o6 o7 o8 o9 o10 o11 o12) := by
  have hl := h.le
  have hc : ev TL e_law_2 (EL sc k a b (some (dRc r)) o4 o5 o6 o7 o8 o9 o10 o11 o12) = .ok (.d (.lst (r.map fun s => .str (lineT s)))) (EL sc k a b (some (dRc r)) o4 o5 o6 o7 o8 o9 o10 o11 o12) := by
    unfold e_law_2
    refine compM dSc (fun s => .str (lineT s)) (by simp only [EL, dRc]; simp! only []) (by cases o8 <;> rfl) (by simp) (by simp [big]; omega) ?_
    intro s hs
    unfold x_law_2
    simp only [EL, List.set_cons_succ, List.set_cons_zero]
    simp! only [r_lline (h.ok s hs)]
  have q : binv .add (.lst [.str "record"]) (.lst (r.map fun s => .str (lineT s))) = some (.lst ([.str "record"] ++ r.map fun s => .str (lineT s))) := v_addL (by simp [big]; omega)
  have hj := v_joi sep_nl (ps := ("record" : Str) :: r.map lineT) (by have := lines_sum h; have := h.le; simp only [List.length_cons, List.length_map]; omega)
  have e : ((("record" : Str) :: r.map lineT).map D.str) = [.str "record"] ++ r.map fun s => .str (lineT s) := by simp [List.map_map]
  rw [e] at hj
  simp only [EL, tx] at *
  simp! only [] at hc hj q
  simp only [q_law_13]
  simp! only [hc, q, m1ok, m1R, hj]
theorem q12 {r : Rc} (h : OkR r) : exs TL q_law_12 (EL sc k a b (some (dRc r)) (some (.str (tx r))) o5 o6 o7 o8 o9 o10 o11 o12) = .ok .nx (EL sc k a b (some (dRc r)) (some (.str (tx r))) o5 o6 o7 o8 o9 o10 o11 o12) := by
  have e1 := r_rtext h
  have e2 := r_read (t := tx r) (by have := tx_len h; omega) (tx_real h)
  rw [due_tx h] at e2
  have n1 := ne_self ((tx_real h).shp 60)
  have n2 := ne_self (due_shp (t := tx r))
  rw [due_tx h] at n2
  have e2 : R_read_record [.ro (.str (tx r))] = .ok (.d (dRc r)) [.ro (.str (tx r))] := e2
  generalize dRc r = d at *
  simp only [q_law_12, EL]
  simp! only [e1, e2, n1, n2]
theorem q11 (f : Str) : exs TL q_law_11 (EL sc k a b o3 (some (.str f)) o5 o6 o7 o8 o9 o10 o11 o12) = .ok .nx (EL sc k a b o3 (some (.str f)) (some (.str f)) o6 o7 o8 o9 o10 o11 o12) := by
  simp only [q_law_11, EL]
  simp! only []
end
theorem b3 (ns : List Int) (k : Nat) (hk : k ≤ 63) {s2 : Sl} (h2 : frS s2 = true) (o3 o4 o5 o6 o7 o8 o9 o10 o11 o12 : Option D) : ∃ s2' q3 q4 q5 q6 q7, frS s2' = true ∧
    exs TL b_law_3 (EM (.frz (ns.map .int)) (some (.int k)) s2 o3 o4 o5 o6 o7 o8 o9 o10 o11 o12) = .ok .nx (EM (.frz (ns.map .int)) (some (.int k)) s2' q3 q4 q5 q6 q7 o8 o9 o10 o11 o12) := by
  obtain ⟨a, b, hs, e0⟩ := r_source ns k hk
  have e1 : exs TL q_law_15 (EM (.frz (ns.map .int)) (some (.int k)) s2 o3 o4 o5 o6 o7 o8 o9 o10 o11 o12) = .ok .nx (EL (.frz (ns.map .int)) (.int k) a b o3 o4 o5 o6 o7 o8 o9 o10 o11 o12) := by
    simp only [q_law_15, EM, EL]
    simp! only [e0, h2]
  obtain ⟨r, a1, b1', s1, hr, e2⟩ := q14 (.frz (ns.map .int)) (.int k) a b o3 o4 o5 o6 o7 o8 o9 o10 o11 o12 hs
  have e3 := q13 (.frz (ns.map .int)) (.int k) a1 b1' o4 o5 o6 o7 o8 o9 o10 o11 o12 hr
  have e4 := q12 (.frz (ns.map .int)) (.int k) a1 b1' o5 o6 o7 o8 o9 o10 o11 o12 hr
  have e5 := q11 (.frz (ns.map .int)) (.int k) a1 b1' (some (dRc r)) o5 o6 o7 o8 o9 o10 o11 o12 (tx r)
  have hg : Good 400 (tx r) := ⟨by have := tx_len hr; omega, tx_real hr⟩
  obtain ⟨u, a2, b2', q6, s2', hu, e6⟩ := l2 (.frz (ns.map .int)) (.int k) a1 b1' (some (dRc r)) o6 o7 o8 o9 o10 o11 o12 s1 hg hg
  obtain ⟨q7, e7⟩ := l1 (.frz (ns.map .int)) (.int k) a2 b2' (some (.str (tx r))) q6 o7 o8 o9 o10 o11 o12 r u
  refine ⟨.ow false (.lst [.int a2, .int b2']), some (dRc r), some (.str (tx r)), some (.str u), q6, q7, rfl, ?_⟩
  show exs TL (.seq q_law_15 (.seq q_law_14 (.seq q_law_13 (.seq q_law_12 (.seq q_law_11 (.seq l_law_2 l_law_1)))))) _ = _
  rw [seq_nx e1, seq_nx e2, seq_nx e3, seq_nx e4, seq_nx e5, seq_nx e6, e7]
  rfl
theorem lb3 (ns : List Int) : ∀ (n k : Nat) (o1 : Option D) (s2 : Sl) (o3 o4 o5 o6 o7 o8 o9 o10 o11 o12 : Option D), k + n ≤ 64 → frS s2 = true → ∃ q1 s2' q3 q4 q5 q6 q7,
    loopF (fun x δ => setRo δ 1 x) (exs TL b_law_3) ((List.range' k n).map fun (i : Nat) => D.int i) (EM (.frz (ns.map .int)) o1 s2 o3 o4 o5 o6 o7 o8 o9 o10 o11 o12) = .ok .nx (EM (.frz (ns.map .int)) q1 s2' q3 q4 q5 q6 q7 o8 o9 o10 o11 o12) := by
  intro n
  induction n with
  | zero => intro k o1 s2 o3 o4 o5 o6 o7 o8 o9 o10 o11 o12 _ h; exact ⟨o1, s2, o3, o4, o5, o6, o7, rfl⟩
  | succ n ih =>
    intro k o1 s2 o3 o4 o5 o6 o7 o8 o9 o10 o11 o12 hk h
    have hs : setRo (EM (.frz (ns.map .int)) o1 s2 o3 o4 o5 o6 o7 o8 o9 o10 o11 o12) 1 (.int k) = some (EM (.frz (ns.map .int)) (some (.int k)) s2 o3 o4 o5 o6 o7 o8 o9 o10 o11 o12) := by
      simp! only [setRo, EM]
    obtain ⟨s2', q3, q4, q5, q6, q7, g2, e⟩ := b3 ns k (by omega) h o3 o4 o5 o6 o7 o8 o9 o10 o11 o12
    simp -implicitDefEqProofs only [List.range'_succ, List.map_cons, loopF, hs, lift_some, bnd_ok, e]
    exact ih (k + 1) _ s2' _ _ _ _ _ _ _ _ _ _ (by omega) g2
end G.k11
namespace G.k11
open PySem G
open G.M (Pl Sc Rc St En)
/-! ### the written ones -/
def L0 : Str := "rim 0 mid 5 -3 second"
def H0 : Str := "record\n"
def J4 : Str := Txt.join "\n" [L0, L0, L0, L0]
def rows1 : List Str := ["", "record", H0 ++ L0, L0, H0, "record\nrecord", "records"]
def rows2 : List Str := [H0 ++ J4, H0 ++ "rim 0 mid 6 1 always", H0 ++ "rim 0 mid 5 0 always"]
def rows3 : List Str := [H0 ++ "rim 0 mid 5 +1 always", "record ", H0 ++ L0 ++ " ", L0 ++ "\nrecord"]
def rows4 : List Str := [H0 ++ "rim 00 mid 5 1 always", H0 ++ "rim 0 mid 5 1 never"]
def rows : List Str := rows1 ++ rows2 ++ rows3 ++ rows4
def want : List D := [.int 1, .tup [], .tup [.tup [.tup [.str "rim", .int 0], .tup [.str "mid", .int 5], .int (-3), .int 2]], .int 2, .int 2, .int 3, .int 1, .int 6, .int 2, .int 2, .int 2, .int 1, .int 2, .int 3, .int 2, .int 2]
theorem rows_ok : ∀ w ∈ rows, Real w ∧ w.length ≤ 1000 := by decide +kernel
theorem rows_due : rows.map due = want := by kernel_rfl
theorem want_shp : D.shp 60 (.lst want) = true := by decide +kernel
theorem j4 : binv .mul (.lst [.str L0]) (.int 4) = some (.lst ([L0, L0, L0, L0].map .str)) := by rfl
theorem hj4 : m1v .joi (.str "\n") (.lst ([L0, L0, L0, L0].map .str)) = some (.str J4) := v_joi sep_nl (by decide +kernel)
theorem lenH : H0.length = 7 := by decide +kernel
theorem lenL : L0.length = 21 := by decide +kernel
theorem lenJ : J4.length ≤ 100 := by decide +kernel
section
variable (sc : D) (o1 : Option D) (s2 : Sl) (o3 o4 o5 o6 o7 o8 o9 o10 o11 o12 : Option D)
theorem y8 : exs TL q_law_8 (EM sc o1 s2 o3 o4 o5 o6 o7 o8 o9 o10 o11 o12) = .ok .nx (EM sc o1 s2 o3 o4 o5 o6 o7 o8 (some (.str L0)) o10 o11 o12) := by
  simp only [q_law_8, EM, L0]
  simp! only []
theorem y7 : exs TL q_law_7 (EM sc o1 s2 o3 o4 o5 o6 o7 o8 o9 o10 o11 o12) = .ok .nx (EM sc o1 s2 o3 o4 o5 o6 o7 o8 o9 (some (.str H0)) o11 o12) := by
  simp only [q_law_7, EM, H0]
  simp! only []
theorem y6 : exs TL q_law_6 (EM sc o1 s2 o3 o4 o5 o6 o7 o8 (some (.str L0)) (some (.str H0)) o11 o12) = .ok .nx (EM sc o1 s2 o3 o4 o5 o6 o7 o8 (some (.str L0)) (some (.str H0)) (some (.lst (rows1.map .str))) o12) := by
  have q := v_addS (x := H0) (y := L0) (by rw [lenH, lenL]; unfold big; omega)
  simp only [q_law_6, EM, rows1, List.map_cons, List.map_nil] at *
  generalize H0 ++ L0 = z at *
  generalize L0 = y at *
  generalize H0 = x at *
  simp! only [q]
theorem y5 : exs TL q_law_5 (EM sc o1 s2 o3 o4 o5 o6 o7 o8 (some (.str L0)) (some (.str H0)) (some (.lst (rows1.map .str))) o12) = .ok .nx (EM sc o1 s2 o3 o4 o5 o6 o7 o8 (some (.str L0)) (some (.str H0)) (some (.lst ((rows1 ++ rows2).map .str))) o12) := by
  have q1 := v_addS (x := H0) (y := J4) (by have := lenJ; rw [lenH]; unfold big; omega)
  have q2 := v_addS (x := H0) (y := "rim 0 mid 6 1 always") (by decide +kernel)
  have q3 := v_addS (x := H0) (y := "rim 0 mid 5 0 always") (by decide +kernel)
  have q4 : binv .add (.lst (rows1.map .str)) (.lst (rows2.map .str)) = some (.lst ((rows1 ++ rows2).map .str)) := by
    rw [List.map_append]
    exact v_addL (by decide)
  have m1 := j4
  have m2 := hj4
  simp only [q_law_5, EM]
  generalize (rows1 ++ rows2).map D.str = R2 at *
  generalize rows1.map D.str = R1 at *
  simp only [rows2] at q4
  simp only [List.map_cons, List.map_nil] at *
  generalize H0 ++ J4 = z1 at *
  generalize H0 ++ ("rim 0 mid 6 1 always" : Str) = z2 at *
  generalize H0 ++ ("rim 0 mid 5 0 always" : Str) = z3 at *
  generalize J4 = j at *
  generalize L0 = y at *
  generalize H0 = x at *
  simp! only [m1, m1ok, m1R, m2, q1, q2, q3, q4]
theorem y4 : exs TL q_law_4 (EM sc o1 s2 o3 o4 o5 o6 o7 o8 (some (.str L0)) (some (.str H0)) (some (.lst ((rows1 ++ rows2).map .str))) o12) = .ok .nx (EM sc o1 s2 o3 o4 o5 o6 o7 o8 (some (.str L0)) (some (.str H0)) (some (.lst ((rows1 ++ rows2 ++ rows3).map .str))) o12) := by
  have q1 := v_addS (x := H0) (y := "rim 0 mid 5 +1 always") (by decide +kernel)
  have q2 := v_addS (x := H0) (y := L0) (by decide +kernel)
  have q3 := v_addS (x := H0 ++ L0) (y := " ") (by decide +kernel)
  have q5 := v_addS (x := L0) (y := "\nrecord") (by decide +kernel)
  have q4 : binv .add (.lst ((rows1 ++ rows2).map .str)) (.lst (rows3.map .str)) = some (.lst ((rows1 ++ rows2 ++ rows3).map .str)) := by
    rw [List.map_append (l₁ := rows1 ++ rows2)]
    exact v_addL (by decide)
  simp only [q_law_4, EM]
  generalize (rows1 ++ rows2 ++ rows3).map D.str = R2 at *
  generalize (rows1 ++ rows2).map D.str = R1 at *
  simp only [rows3] at q4
  simp only [List.map_cons, List.map_nil] at *
  generalize H0 ++ ("rim 0 mid 5 +1 always" : Str) = z1 at *
  generalize H0 ++ L0 ++ (" " : Str) = z3 at *
  generalize H0 ++ L0 = z2 at *
  generalize L0 ++ ("\nrecord" : Str) = z4 at *
  generalize L0 = y at *
  generalize H0 = x at *
  simp! only [q1, q2, q3, q4, q5]
theorem y3 : exs TL q_law_3 (EM sc o1 s2 o3 o4 o5 o6 o7 o8 (some (.str L0)) (some (.str H0)) (some (.lst ((rows1 ++ rows2 ++ rows3).map .str))) o12) = .ok .nx (EM sc o1 s2 o3 o4 o5 o6 o7 o8 (some (.str L0)) (some (.str H0)) (some (.lst (rows.map .str))) o12) := by
  have q1 := v_addS (x := H0) (y := "rim 00 mid 5 1 always") (by decide +kernel)
  have q2 := v_addS (x := H0) (y := "rim 0 mid 5 1 never") (by decide +kernel)
  have q4 : binv .add (.lst ((rows1 ++ rows2 ++ rows3).map .str)) (.lst (rows4.map .str)) = some (.lst (rows.map .str)) := by
    unfold rows
    rw [List.map_append (l₁ := rows1 ++ rows2 ++ rows3)]
    exact v_addL (by decide)
  simp only [rows4] at q4
  simp only [q_law_3, EM]
  generalize (rows1 ++ rows2 ++ rows3).map D.str = R1 at *
  generalize rows.map D.str = R2 at *
  simp only [List.map_cons, List.map_nil] at *
  generalize H0 ++ ("rim 00 mid 5 1 always" : Str) = z1 at *
  generalize H0 ++ ("rim 0 mid 5 1 never" : Str) = z2 at *
  generalize L0 = y at *
  generalize H0 = x at *
  simp! only [q1, q2, q4]
theorem y2 : exs TL q_law_2 (EM sc o1 s2 o3 o4 o5 o6 o7 o8 o9 o10 o11 o12) = .ok .nx (EM sc o1 s2 o3 o4 o5 o6 o7 o8 o9 o10 o11 (some (.lst want))) := by
  simp only [q_law_2, EM, want]
  simp! only []
theorem y1 : exs TL q_law_1 (EM sc o1 s2 o3 o4 o5 o6 o7 o8 o9 o10 (some (.lst (rows.map .str))) (some (.lst want))) = .ok (.rt (.d (.bl true))) (EM sc o1 s2 o3 o4 o5 o6 o7 o8 o9 o10 (some (.lst (rows.map .str))) (some (.lst want))) := by
  have hc : ev TL e_law_1 (EM sc o1 s2 o3 o4 o5 o6 o7 o8 o9 o10 (some (.lst (rows.map .str))) (some (.lst want))) = .ok (.d (.lst (rows.map due))) (EM sc o1 s2 o3 o4 o5 o6 o7 o8 o9 o10 (some (.lst (rows.map .str))) (some (.lst want))) := by
    unfold e_law_1
    refine compM D.str due (by simp only [EM]; simp! only []) (by cases o5 <;> rfl) (by simp) (by decide) ?_
    intro w hw
    obtain ⟨h1, h2⟩ := rows_ok w hw
    have e := q_tried (t := w) (by omega) h1
    unfold x_law_1
    simp only [EM, List.set_cons_succ, List.set_cons_zero]
    generalize due w = d at *
    generalize rows.map D.str = R at *
    generalize want = W at *
    simp! only [e]
  rw [rows_due] at hc
  have c : cmpv .eq (.lst want) (.lst want) = some true := by
    simp only [cmpv, want_shp, D.eq_self 60 _ want_shp]
    rfl
  generalize want = X at *
  generalize rows.map D.str = R at *
  simp only [EM] at *
  simp! only [] at hc
  simp only [q_law_1]
  simp! only [hc, c]
end
theorem r_law (ns : List Int) (hl : ns.length ≤ 63) : R_law [.ro (.frz (ns.map .int))] = .ok (.d (.bl true)) [.ro (.frz (ns.map .int))] := by
  obtain ⟨q1, s2', q3, q4, q5, q6, q7, e⟩ := lb3 ns (1 + min ns.length 10) 0 none .no none none none none none none none none none none (by omega) rfl
  have g := rg1 (n := 1 + min ns.length 10) (by unfold big; omega)
  rw [rangeD0, List.range_eq_range'] at g
  have gm : (1 : Int) + (if (10 : Int) < (ns.length : Int) then 10 else (ns.length : Int)) = ((1 + min ns.length 10 : Nat) : Int) := by
    split <;> omega
  have e0 : exs TL l_law_3 [.ro (.frz (ns.map .int)), .no, .no, .no, .no, .no, .no, .no, .no, .no, .no, .no, .no] = .ok .nx (EM (.frz (ns.map .int)) q1 s2' q3 q4 q5 q6 q7 none none none none none) := by
    simp only [EM] at e
    simp! only [] at e
    simp only [l_law_3, EM]
    simp! only [gm, g, e]
  have h : exs TL b_law [.ro (.frz (ns.map .int)), .no, .no, .no, .no, .no, .no, .no, .no, .no, .no, .no, .no] = .ok (.rt (.d (.bl true))) (EM (.frz (ns.map .int)) q1 s2' q3 q4 q5 q6 q7 none (some (.str L0)) (some (.str H0)) (some (.lst (rows.map .str))) (some (.lst want))) := by
    show exs TL (.seq l_law_3 (.seq q_law_8 (.seq q_law_7 (.seq q_law_6 (.seq q_law_5 (.seq q_law_4 (.seq q_law_3 (.seq q_law_2 q_law_1)))))))) _ = _
    rw [seq_nx e0, seq_nx (y8 ..), seq_nx (y7 ..), seq_nx (y6 ..), seq_nx (y5 ..), seq_nx (y4 ..), seq_nx (y3 ..), seq_nx (y2 ..), y1]
  generalize want = W at *
  generalize rows.map D.str = R at *
  simp only [R_law]
  simp! only [h]
end G.k11
namespace G.k11
open PySem PySem.Spec PyProof.Rows L2 G
abbrev top (i : Nat) : Stmt := PySem.Challenge.pw_skipgrooves_k11_texts_of_records.main.body.getD i (.Pass ⟨0, 0, 0, 0⟩)
def dd (x : Str) (i : Nat) : He.DefD := ⟨(x, none), x, x, defArgs (top i), defBody (top i), defScope (top i), [], []⟩
abbrev ini (i j : Nat) : Stmt := match top i with | .ClassDef _ _ _ b _ _ _ _ _ _ _ => b.getD j (.Pass ⟨0, 0, 0, 0⟩) | s => s
def di (x : Str) (qn : Str) (i j : Nat) : He.DefD := ⟨(x, some "__init__"), "__init__", qn, defArgs (ini i j), defBody (ini i j), defScope (ini i j), [], []⟩
def fn : List He.DefD := [dd "is_from" 9, dd "is_place" 10, dd "is_scratch" 11, dd "has_record" 12, dd "need_record" 13, dd "scratch_line" 16, dd "record_lines" 17, dd "record_text" 18, dd "read_item" 19, dd "read_line" 20, dd "read_record" 21, dd "_law_source" 23, dd "_law_draw" 24, dd "_law_choice" 25, dd "_law_place" 26, dd "_law_record" 27, dd "_law_line" 28, dd "_law_is_line" 29, dd "_law_scratch" 30, dd "_law_due" 31, dd "_law_bent" 32, dd "_law_tried" 33, dd "law" 34, di "InvalidText" "InvalidText.__init__" 3 0]
def fa : List He.Fa := [.free "len", .free "abs", .free "int", .free "str", .free "bool", .free "min", .free "max", .free "tuple", .free "list", .free "any", .free "all", .free "sum", .free "sorted", .free "isinstance", .free "range", .free "enumerate", .free "set", .glo "is_from", .glo "is_place", .glo "is_scratch", .glo "has_record", .glo "need_record", .glo "scratch_line", .glo "record_lines", .glo "record_text", .glo "read_item", .glo "read_line", .glo "read_record", .glo "_law_source", .glo "_law_draw", .glo "_law_choice", .glo "_law_place", .glo "_law_record", .glo "_law_line", .glo "_law_is_line", .glo "_law_scratch", .glo "_law_due", .glo "_law_bent", .glo "_law_tried", .glo "law", .exc "InvalidRecord", .glo "InvalidRecord", .glo "InvalidText"]
def others : List Str := (["RecordError", "InvalidRecord", "InvalidText", "SIDES", "MOST_PLACE", "MOST_JUMP", "MOST_SCRATCHES", "is_from", "is_place", "is_scratch", "has_record", "need_record", "EVERY", "scratch_line", "record_lines", "record_text", "read_item", "read_line", "read_record", "_law_source", "_law_draw", "_law_choice", "_law_place", "_law_record", "_law_line", "_law_is_line", "_law_scratch", "_law_due", "_law_bent", "_law_tried"] : List Str)
abbrev R : PySem.W.OpenRow := PySem.W.OpenLaw.row PySem.Challenge.rw_skipgrooves_k11_texts_of_records
def cons : List (Str × D) := [("MOST_PLACE", (.int 5)), ("SIDES", (.tup [(.str "rim"), (.str "mid")])), ("MOST_JUMP", (.int 3)), ("MOST_SCRATCHES", (.int 3)), ("EVERY", (.frz [(.tup [(.int 1), (.str "always")]), (.tup [(.int 2), (.str "second")])]))]
def xs : List Str := ["InvalidRecord", "InvalidText"]
def ens : List (Str × Str × Str) := [("RecordError", "InvalidText", "line")]
theorem si_InvalidText : FnScope ["self", "line"] ["self", "line"] (defScope (ini 3 0)) := ⟨by decide +kernel, by decide +kernel, by decide +kernel, by decide +kernel, by decide +kernel, by decide +kernel, by decide +kernel⟩
theorem c_is_from : isSs ⟨["value", "low", "high"], defScope (top 9), [], cons, []⟩ xs b_is_from (defBody (top 9)) = true := by decide +kernel
theorem s_is_from : FnScope ["value", "low", "high"] ["value", "low", "high"] (defScope (top 9)) := ⟨by decide +kernel, by decide +kernel, by decide +kernel, by decide +kernel, by decide +kernel, by decide +kernel, by decide +kernel⟩
theorem c_is_place : isSs ⟨["value"], defScope (top 10), [("is_from", 3)], cons, []⟩ xs b_is_place (defBody (top 10)) = true := by decide +kernel
theorem s_is_place : FnScope ["value"] ["value"] (defScope (top 10)) := ⟨by decide +kernel, by decide +kernel, by decide +kernel, by decide +kernel, by decide +kernel, by decide +kernel, by decide +kernel⟩
theorem c_is_scratch : isSs ⟨["value"], defScope (top 11), [("is_from", 3), ("is_place", 1)], cons, []⟩ xs b_is_scratch (defBody (top 11)) = true := by decide +kernel
theorem s_is_scratch : FnScope ["value"] ["value"] (defScope (top 11)) := ⟨by decide +kernel, by decide +kernel, by decide +kernel, by decide +kernel, by decide +kernel, by decide +kernel, by decide +kernel⟩
theorem c_has_record : isSs ⟨["value", "one"], defScope (top 12), [("is_scratch", 1)], cons, []⟩ xs b_has_record (defBody (top 12)) = true := by decide +kernel
theorem s_has_record : FnScope ["value", "one"] ["value"] (defScope (top 12)) := ⟨by decide +kernel, by decide +kernel, by decide +kernel, by decide +kernel, by decide +kernel, by decide +kernel, by decide +kernel⟩
theorem c_need_record : isSs ⟨["value"], defScope (top 13), [("has_record", 1)], cons, []⟩ xs b_need_record (defBody (top 13)) = true := by decide +kernel
theorem s_need_record : FnScope ["value"] ["value"] (defScope (top 13)) := ⟨by decide +kernel, by decide +kernel, by decide +kernel, by decide +kernel, by decide +kernel, by decide +kernel, by decide +kernel⟩
theorem c_scratch_line : isSs ⟨["scratch", "first", "last", "jump", "every"], defScope (top 16), [], cons, []⟩ xs b_scratch_line (defBody (top 16)) = true := by decide +kernel
theorem s_scratch_line : FnScope ["scratch", "first", "last", "jump", "every"] ["scratch"] (defScope (top 16)) := ⟨by decide +kernel, by decide +kernel, by decide +kernel, by decide +kernel, by decide +kernel, by decide +kernel, by decide +kernel⟩
theorem c_record_lines : isSs ⟨["record", "scratch"], defScope (top 17), [("scratch_line", 1)], cons, []⟩ xs b_record_lines (defBody (top 17)) = true := by decide +kernel
theorem s_record_lines : FnScope ["record", "scratch"] ["record"] (defScope (top 17)) := ⟨by decide +kernel, by decide +kernel, by decide +kernel, by decide +kernel, by decide +kernel, by decide +kernel, by decide +kernel⟩
theorem c_record_text : isSs ⟨["record"], defScope (top 18), [("record_lines", 1), ("need_record", 1)], cons, []⟩ xs b_record_text (defBody (top 18)) = true := by decide +kernel
theorem s_record_text : FnScope ["record"] ["record"] (defScope (top 18)) := ⟨by decide +kernel, by decide +kernel, by decide +kernel, by decide +kernel, by decide +kernel, by decide +kernel, by decide +kernel⟩
theorem c_read_item : isSs ⟨["word", "some", "words", "item"], defScope (top 19), [], cons, []⟩ xs b_read_item (defBody (top 19)) = true := by decide +kernel
theorem s_read_item : FnScope ["word", "some", "words", "item"] ["word", "some"] (defScope (top 19)) := ⟨by decide +kernel, by decide +kernel, by decide +kernel, by decide +kernel, by decide +kernel, by decide +kernel, by decide +kernel⟩
theorem c_read_line : isSs ⟨["line", "words", "numbers", "jumps", "first", "last", "every", "scratch"], defScope (top 20), [("is_scratch", 1), ("read_item", 2)], cons, []⟩ xs b_read_line (defBody (top 20)) = true := by decide +kernel
theorem s_read_line : FnScope ["line", "words", "numbers", "jumps", "first", "last", "every", "scratch"] ["line"] (defScope (top 20)) := ⟨by decide +kernel, by decide +kernel, by decide +kernel, by decide +kernel, by decide +kernel, by decide +kernel, by decide +kernel⟩
theorem c_read_record : isSs ⟨["value", "lines", "found", "at", "line", "scratch"], defScope (top 21), [("has_record", 1), ("read_line", 1)], cons, []⟩ xs b_read_record (defBody (top 21)) = true := by decide +kernel
theorem s_read_record : FnScope ["value", "lines", "found", "at", "line", "scratch"] ["value"] (defScope (top 21)) := ⟨by decide +kernel, by decide +kernel, by decide +kernel, by decide +kernel, by decide +kernel, by decide +kernel, by decide +kernel⟩
theorem c__law_source : isSs ⟨["_law_script", "_law_k", "_law_cell"], defScope (top 23), [], cons, []⟩ xs b__law_source (defBody (top 23)) = true := by decide +kernel
theorem s__law_source : FnScope ["_law_script", "_law_k", "_law_cell"] ["_law_script", "_law_k"] (defScope (top 23)) := ⟨by decide +kernel, by decide +kernel, by decide +kernel, by decide +kernel, by decide +kernel, by decide +kernel, by decide +kernel⟩
theorem c__law_draw : isSs ⟨["_law_source_here", "_law_many", "_law_rest", "_law_wide"], defScope (top 24), [], cons, []⟩ xs b__law_draw (defBody (top 24)) = true := by decide +kernel
theorem s__law_draw : FnScope ["_law_source_here", "_law_many", "_law_rest", "_law_wide"] ["_law_source_here", "_law_many"] (defScope (top 24)) := ⟨by decide +kernel, by decide +kernel, by decide +kernel, by decide +kernel, by decide +kernel, by decide +kernel, by decide +kernel⟩
theorem c__law_choice : isSs ⟨["_law_source_here", "_law_some"], defScope (top 25), [("_law_draw", 2)], cons, []⟩ xs b__law_choice (defBody (top 25)) = true := by decide +kernel
theorem s__law_choice : FnScope ["_law_source_here", "_law_some"] ["_law_source_here", "_law_some"] (defScope (top 25)) := ⟨by decide +kernel, by decide +kernel, by decide +kernel, by decide +kernel, by decide +kernel, by decide +kernel, by decide +kernel⟩
theorem c__law_place : isSs ⟨["_law_source_here"], defScope (top 26), [("_law_draw", 2), ("_law_choice", 2)], cons, []⟩ xs b__law_place (defBody (top 26)) = true := by decide +kernel
theorem s__law_place : FnScope ["_law_source_here"] ["_law_source_here"] (defScope (top 26)) := ⟨by decide +kernel, by decide +kernel, by decide +kernel, by decide +kernel, by decide +kernel, by decide +kernel, by decide +kernel⟩
theorem c__law_record : isSs ⟨["_law_source_here", "_law_most", "_law_found", "_law_turn", "_law_way", "_law_jump", "_law_first", "_law_last"], defScope (top 27), [("_law_draw", 2), ("_law_choice", 2), ("_law_place", 1)], cons, []⟩ xs b__law_record (defBody (top 27)) = true := by decide +kernel
theorem s__law_record : FnScope ["_law_source_here", "_law_most", "_law_found", "_law_turn", "_law_way", "_law_jump", "_law_first", "_law_last"] ["_law_source_here", "_law_most"] (defScope (top 27)) := ⟨by decide +kernel, by decide +kernel, by decide +kernel, by decide +kernel, by decide +kernel, by decide +kernel, by decide +kernel⟩
theorem c__law_line : isSs ⟨["_law_scratch_here", "_law_words", "_law_side", "_law_number"], defScope (top 28), [], cons, []⟩ xs b__law_line (defBody (top 28)) = true := by decide +kernel
theorem s__law_line : FnScope ["_law_scratch_here", "_law_words", "_law_side", "_law_number"] ["_law_scratch_here"] (defScope (top 28)) := ⟨by decide +kernel, by decide +kernel, by decide +kernel, by decide +kernel, by decide +kernel, by decide +kernel, by decide +kernel⟩
theorem c__law_is_line : isSs ⟨["_law_line_here", "_law_words", "_law_numbers"], defScope (top 29), [], cons, []⟩ xs b__law_is_line (defBody (top 29)) = true := by decide +kernel
theorem s__law_is_line : FnScope ["_law_line_here", "_law_words", "_law_numbers"] ["_law_line_here"] (defScope (top 29)) := ⟨by decide +kernel, by decide +kernel, by decide +kernel, by decide +kernel, by decide +kernel, by decide +kernel, by decide +kernel⟩
theorem c__law_scratch : isSs ⟨["_law_line_here", "_law_words"], defScope (top 30), [], cons, []⟩ xs b__law_scratch (defBody (top 30)) = true := by decide +kernel
theorem s__law_scratch : FnScope ["_law_line_here", "_law_words"] ["_law_line_here"] (defScope (top 30)) := ⟨by decide +kernel, by decide +kernel, by decide +kernel, by decide +kernel, by decide +kernel, by decide +kernel, by decide +kernel⟩
theorem c__law_due : isSs ⟨["_law_text", "_law_lines", "_law_at", "_law_line_here"], defScope (top 31), [("_law_scratch", 1), ("_law_is_line", 1)], cons, []⟩ xs b__law_due (defBody (top 31)) = true := by decide +kernel
theorem s__law_due : FnScope ["_law_text", "_law_lines", "_law_at", "_law_line_here"] ["_law_text"] (defScope (top 31)) := ⟨by decide +kernel, by decide +kernel, by decide +kernel, by decide +kernel, by decide +kernel, by decide +kernel, by decide +kernel⟩
theorem c__law_bent : isSs ⟨["_law_source_here", "_law_text", "_law_signs", "_law_at", "_law_lines", "_law_some"], defScope (top 32), [("_law_choice", 2), ("_law_draw", 2)], cons, []⟩ xs b__law_bent (defBody (top 32)) = true := by decide +kernel
theorem s__law_bent : FnScope ["_law_source_here", "_law_text", "_law_signs", "_law_at", "_law_lines", "_law_some"] ["_law_source_here", "_law_text"] (defScope (top 32)) := ⟨by decide +kernel, by decide +kernel, by decide +kernel, by decide +kernel, by decide +kernel, by decide +kernel, by decide +kernel⟩
theorem c__law_tried : isSs ⟨["_law_value", "_law_found", "e"], defScope (top 33), [("read_record", 1)], cons, []⟩ xs b__law_tried (defBody (top 33)) = true := by decide +kernel
theorem s__law_tried : FnScope ["_law_value", "_law_found", "e"] ["_law_value"] (defScope (top 33)) := ⟨by decide +kernel, by decide +kernel, by decide +kernel, by decide +kernel, by decide +kernel, by decide +kernel, by decide +kernel⟩
theorem c_law : isSs ⟨["_law_script", "_law_k", "_law_source_here", "_law_record_here", "_law_first", "_law_text", "_law_turn", "_law_odd", "_law_scratch_here", "_law_line_here", "_law_head", "_law_rows", "_law_due_here"], defScope (top 34), [("_law_tried", 1), ("_law_due", 1), ("_law_bent", 2), ("read_record", 1), ("record_text", 1), ("_law_line", 1), ("_law_record", 2), ("_law_source", 2)], cons, []⟩ xs b_law (defBody (top 34)) = true := by decide +kernel
theorem s_law : FnScope ["_law_script", "_law_k", "_law_source_here", "_law_record_here", "_law_first", "_law_text", "_law_turn", "_law_odd", "_law_scratch_here", "_law_line_here", "_law_head", "_law_rows", "_law_due_here"] ["_law_script"] (defScope (top 34)) := ⟨by decide +kernel, by decide +kernel, by decide +kernel, by decide +kernel, by decide +kernel, by decide +kernel, by decide +kernel⟩
abbrev hk : PySem.W.Hook := hookG 5 fa fn cons ens
def ob (s : PySem.W.SharedT) : AlG := obsG 5 fa fn cons ens (HandSHeadRun.getT s)
theorem ob_eq (s : PySem.W.SharedT) : ob s = hk.obs s.abs := obsG_eq (HandSHeadRun.getT_eq s)
theorem run_t (w : World) : HandSHeadRun.RunEq R (PySem.W.view R.prog [34]) hk ob 6000 others (setF w true) := by
  intro os
  kernel_rfl
theorem run_f (w : World) : HandSHeadRun.RunEq R (PySem.W.view R.prog [34]) hk ob 6000 others (setF w false) := by
  intro os
  kernel_rfl
theorem run (w : World) : HandSHeadRun.RunEq R (PySem.W.view R.prog [34]) hk ob 6000 others w := by
  rw [← setF_eq w]
  cases w.params.followText "special-get-raises" with
  | true => exact run_t w
  | false => exact run_f w
theorem f_is_from {P : Program} {w : World} {K : PySem.W.Frag} {h : Heap} {mg : Str → Option Value} {base : Heap} (X : K.In h) (G : h.Ns mainGlobals mg) (c : He.SaysD fa fn K) (M : ModOk P K mg (clX K xs) cons xs) : FnAt P w K mg base (clX K xs) 3 "is_from" 3 R_is_from := by
  obtain ⟨fd, F⟩ := c.def_ 0 (d := dd "is_from" 9) rfl
  exact fn_atD (k := 2) (fns := []) (T := []) M F s_is_from (AllFn.get trivial) c_is_from (by decide +kernel) (He.glo_ok X G (c.fact 17 (f := .glo "is_from") rfl)) (FunD.bindsN F fun _ _ _ _ _ _ us hl => match us, hl with | [_, _, _], _ => rfl)
theorem f_is_place {P : Program} {w : World} {K : PySem.W.Frag} {h : Heap} {mg : Str → Option Value} {base : Heap} (X : K.In h) (G : h.Ns mainGlobals mg) (c : He.SaysD fa fn K) (M : ModOk P K mg (clX K xs) cons xs) : FnAt P w K mg base (clX K xs) 4 "is_place" 1 R_is_place := by
  obtain ⟨fd, F⟩ := c.def_ 1 (d := dd "is_place" 10) rfl
  exact fn_atD (k := 3) (fns := [("is_from", 3)]) (T := [R_is_from]) M F s_is_place (AllFn.get ⟨FnAt.mono (f_is_from X G c M) (by decide), trivial⟩) c_is_place (by decide +kernel) (He.glo_ok X G (c.fact 18 (f := .glo "is_place") rfl)) (FunD.bindsN F fun _ _ _ _ _ _ us hl => match us, hl with | [_], _ => rfl)
theorem f_is_scratch {P : Program} {w : World} {K : PySem.W.Frag} {h : Heap} {mg : Str → Option Value} {base : Heap} (X : K.In h) (G : h.Ns mainGlobals mg) (c : He.SaysD fa fn K) (M : ModOk P K mg (clX K xs) cons xs) : FnAt P w K mg base (clX K xs) 5 "is_scratch" 1 R_is_scratch := by
  obtain ⟨fd, F⟩ := c.def_ 2 (d := dd "is_scratch" 11) rfl
  exact fn_atD (k := 4) (fns := [("is_from", 3), ("is_place", 1)]) (T := [R_is_from, R_is_place]) M F s_is_scratch (AllFn.get ⟨FnAt.mono (f_is_from X G c M) (by decide), FnAt.mono (f_is_place X G c M) (by decide), trivial⟩) c_is_scratch (by decide +kernel) (He.glo_ok X G (c.fact 19 (f := .glo "is_scratch") rfl)) (FunD.bindsN F fun _ _ _ _ _ _ us hl => match us, hl with | [_], _ => rfl)
theorem f_has_record {P : Program} {w : World} {K : PySem.W.Frag} {h : Heap} {mg : Str → Option Value} {base : Heap} (X : K.In h) (G : h.Ns mainGlobals mg) (c : He.SaysD fa fn K) (M : ModOk P K mg (clX K xs) cons xs) : FnAt P w K mg base (clX K xs) 6 "has_record" 1 R_has_record := by
  obtain ⟨fd, F⟩ := c.def_ 3 (d := dd "has_record" 12) rfl
  exact fn_atD (k := 5) (fns := [("is_scratch", 1)]) (T := [R_is_scratch]) M F s_has_record (AllFn.get ⟨FnAt.mono (f_is_scratch X G c M) (by decide), trivial⟩) c_has_record (by decide +kernel) (He.glo_ok X G (c.fact 20 (f := .glo "has_record") rfl)) (FunD.bindsN F fun _ _ _ _ _ _ us hl => match us, hl with | [_], _ => rfl)
theorem f_need_record {P : Program} {w : World} {K : PySem.W.Frag} {h : Heap} {mg : Str → Option Value} {base : Heap} (X : K.In h) (G : h.Ns mainGlobals mg) (c : He.SaysD fa fn K) (M : ModOk P K mg (clX K xs) cons xs) : FnAt P w K mg base (clX K xs) 7 "need_record" 1 R_need_record := by
  obtain ⟨fd, F⟩ := c.def_ 4 (d := dd "need_record" 13) rfl
  exact fn_atD (k := 6) (fns := [("has_record", 1)]) (T := [R_has_record]) M F s_need_record (AllFn.get ⟨FnAt.mono (f_has_record X G c M) (by decide), trivial⟩) c_need_record (by decide +kernel) (He.glo_ok X G (c.fact 21 (f := .glo "need_record") rfl)) (FunD.bindsN F fun _ _ _ _ _ _ us hl => match us, hl with | [_], _ => rfl)
theorem f_scratch_line {P : Program} {w : World} {K : PySem.W.Frag} {h : Heap} {mg : Str → Option Value} {base : Heap} (X : K.In h) (G : h.Ns mainGlobals mg) (c : He.SaysD fa fn K) (M : ModOk P K mg (clX K xs) cons xs) : FnAt P w K mg base (clX K xs) 3 "scratch_line" 1 R_scratch_line := by
  obtain ⟨fd, F⟩ := c.def_ 5 (d := dd "scratch_line" 16) rfl
  exact fn_atD (k := 2) (fns := []) (T := []) M F s_scratch_line (AllFn.get trivial) c_scratch_line (by decide +kernel) (He.glo_ok X G (c.fact 22 (f := .glo "scratch_line") rfl)) (FunD.bindsN F fun _ _ _ _ _ _ us hl => match us, hl with | [_], _ => rfl)
theorem f_record_lines {P : Program} {w : World} {K : PySem.W.Frag} {h : Heap} {mg : Str → Option Value} {base : Heap} (X : K.In h) (G : h.Ns mainGlobals mg) (c : He.SaysD fa fn K) (M : ModOk P K mg (clX K xs) cons xs) : FnAt P w K mg base (clX K xs) 4 "record_lines" 1 R_record_lines := by
  obtain ⟨fd, F⟩ := c.def_ 6 (d := dd "record_lines" 17) rfl
  exact fn_atD (k := 3) (fns := [("scratch_line", 1)]) (T := [R_scratch_line]) M F s_record_lines (AllFn.get ⟨FnAt.mono (f_scratch_line X G c M) (by decide), trivial⟩) c_record_lines (by decide +kernel) (He.glo_ok X G (c.fact 23 (f := .glo "record_lines") rfl)) (FunD.bindsN F fun _ _ _ _ _ _ us hl => match us, hl with | [_], _ => rfl)
theorem f_record_text {P : Program} {w : World} {K : PySem.W.Frag} {h : Heap} {mg : Str → Option Value} {base : Heap} (X : K.In h) (G : h.Ns mainGlobals mg) (c : He.SaysD fa fn K) (M : ModOk P K mg (clX K xs) cons xs) : FnAt P w K mg base (clX K xs) 8 "record_text" 1 R_record_text := by
  obtain ⟨fd, F⟩ := c.def_ 7 (d := dd "record_text" 18) rfl
  exact fn_atD (k := 7) (fns := [("record_lines", 1), ("need_record", 1)]) (T := [R_record_lines, R_need_record]) M F s_record_text (AllFn.get ⟨FnAt.mono (f_record_lines X G c M) (by decide), FnAt.mono (f_need_record X G c M) (by decide), trivial⟩) c_record_text (by decide +kernel) (He.glo_ok X G (c.fact 24 (f := .glo "record_text") rfl)) (FunD.bindsN F fun _ _ _ _ _ _ us hl => match us, hl with | [_], _ => rfl)
theorem f_read_item {P : Program} {w : World} {K : PySem.W.Frag} {h : Heap} {mg : Str → Option Value} {base : Heap} (X : K.In h) (G : h.Ns mainGlobals mg) (c : He.SaysD fa fn K) (M : ModOk P K mg (clX K xs) cons xs) : FnAt P w K mg base (clX K xs) 3 "read_item" 2 R_read_item := by
  obtain ⟨fd, F⟩ := c.def_ 8 (d := dd "read_item" 19) rfl
  exact fn_atD (k := 2) (fns := []) (T := []) M F s_read_item (AllFn.get trivial) c_read_item (by decide +kernel) (He.glo_ok X G (c.fact 25 (f := .glo "read_item") rfl)) (FunD.bindsN F fun _ _ _ _ _ _ us hl => match us, hl with | [_, _], _ => rfl)
theorem f_read_line {P : Program} {w : World} {K : PySem.W.Frag} {h : Heap} {mg : Str → Option Value} {base : Heap} (X : K.In h) (G : h.Ns mainGlobals mg) (c : He.SaysD fa fn K) (M : ModOk P K mg (clX K xs) cons xs) : FnAt P w K mg base (clX K xs) 6 "read_line" 1 R_read_line := by
  obtain ⟨fd, F⟩ := c.def_ 9 (d := dd "read_line" 20) rfl
  exact fn_atD (k := 5) (fns := [("is_scratch", 1), ("read_item", 2)]) (T := [R_is_scratch, R_read_item]) M F s_read_line (AllFn.get ⟨FnAt.mono (f_is_scratch X G c M) (by decide), FnAt.mono (f_read_item X G c M) (by decide), trivial⟩) c_read_line (by decide +kernel) (He.glo_ok X G (c.fact 26 (f := .glo "read_line") rfl)) (FunD.bindsN F fun _ _ _ _ _ _ us hl => match us, hl with | [_], _ => rfl)
theorem f_read_record {P : Program} {w : World} {K : PySem.W.Frag} {h : Heap} {mg : Str → Option Value} {base : Heap} (X : K.In h) (G : h.Ns mainGlobals mg) (c : He.SaysD fa fn K) (M : ModOk P K mg (clX K xs) cons xs) : FnAt P w K mg base (clX K xs) 7 "read_record" 1 R_read_record := by
  obtain ⟨fd, F⟩ := c.def_ 10 (d := dd "read_record" 21) rfl
  exact fn_atD (k := 6) (fns := [("has_record", 1), ("read_line", 1)]) (T := [R_has_record, R_read_line]) M F s_read_record (AllFn.get ⟨FnAt.mono (f_has_record X G c M) (by decide), FnAt.mono (f_read_line X G c M) (by decide), trivial⟩) c_read_record (by decide +kernel) (He.glo_ok X G (c.fact 27 (f := .glo "read_record") rfl)) (FunD.bindsN F fun _ _ _ _ _ _ us hl => match us, hl with | [_], _ => rfl)
theorem f__law_source {P : Program} {w : World} {K : PySem.W.Frag} {h : Heap} {mg : Str → Option Value} {base : Heap} (X : K.In h) (G : h.Ns mainGlobals mg) (c : He.SaysD fa fn K) (M : ModOk P K mg (clX K xs) cons xs) : FnAt P w K mg base (clX K xs) 3 "_law_source" 2 R__law_source := by
  obtain ⟨fd, F⟩ := c.def_ 11 (d := dd "_law_source" 23) rfl
  exact fn_atD (k := 2) (fns := []) (T := []) M F s__law_source (AllFn.get trivial) c__law_source (by decide +kernel) (He.glo_ok X G (c.fact 28 (f := .glo "_law_source") rfl)) (FunD.bindsN F fun _ _ _ _ _ _ us hl => match us, hl with | [_, _], _ => rfl)
theorem f__law_draw {P : Program} {w : World} {K : PySem.W.Frag} {h : Heap} {mg : Str → Option Value} {base : Heap} (X : K.In h) (G : h.Ns mainGlobals mg) (c : He.SaysD fa fn K) (M : ModOk P K mg (clX K xs) cons xs) : FnAt P w K mg base (clX K xs) 3 "_law_draw" 2 R__law_draw := by
  obtain ⟨fd, F⟩ := c.def_ 12 (d := dd "_law_draw" 24) rfl
  exact fn_atD (k := 2) (fns := []) (T := []) M F s__law_draw (AllFn.get trivial) c__law_draw (by decide +kernel) (He.glo_ok X G (c.fact 29 (f := .glo "_law_draw") rfl)) (FunD.bindsN F fun _ _ _ _ _ _ us hl => match us, hl with | [_, _], _ => rfl)
theorem f__law_choice {P : Program} {w : World} {K : PySem.W.Frag} {h : Heap} {mg : Str → Option Value} {base : Heap} (X : K.In h) (G : h.Ns mainGlobals mg) (c : He.SaysD fa fn K) (M : ModOk P K mg (clX K xs) cons xs) : FnAt P w K mg base (clX K xs) 4 "_law_choice" 2 R__law_choice := by
  obtain ⟨fd, F⟩ := c.def_ 13 (d := dd "_law_choice" 25) rfl
  exact fn_atD (k := 3) (fns := [("_law_draw", 2)]) (T := [R__law_draw]) M F s__law_choice (AllFn.get ⟨FnAt.mono (f__law_draw X G c M) (by decide), trivial⟩) c__law_choice (by decide +kernel) (He.glo_ok X G (c.fact 30 (f := .glo "_law_choice") rfl)) (FunD.bindsN F fun _ _ _ _ _ _ us hl => match us, hl with | [_, _], _ => rfl)
theorem f__law_place {P : Program} {w : World} {K : PySem.W.Frag} {h : Heap} {mg : Str → Option Value} {base : Heap} (X : K.In h) (G : h.Ns mainGlobals mg) (c : He.SaysD fa fn K) (M : ModOk P K mg (clX K xs) cons xs) : FnAt P w K mg base (clX K xs) 5 "_law_place" 1 R__law_place := by
  obtain ⟨fd, F⟩ := c.def_ 14 (d := dd "_law_place" 26) rfl
  exact fn_atD (k := 4) (fns := [("_law_draw", 2), ("_law_choice", 2)]) (T := [R__law_draw, R__law_choice]) M F s__law_place (AllFn.get ⟨FnAt.mono (f__law_draw X G c M) (by decide), FnAt.mono (f__law_choice X G c M) (by decide), trivial⟩) c__law_place (by decide +kernel) (He.glo_ok X G (c.fact 31 (f := .glo "_law_place") rfl)) (FunD.bindsN F fun _ _ _ _ _ _ us hl => match us, hl with | [_], _ => rfl)
theorem f__law_record {P : Program} {w : World} {K : PySem.W.Frag} {h : Heap} {mg : Str → Option Value} {base : Heap} (X : K.In h) (G : h.Ns mainGlobals mg) (c : He.SaysD fa fn K) (M : ModOk P K mg (clX K xs) cons xs) : FnAt P w K mg base (clX K xs) 6 "_law_record" 2 R__law_record := by
  obtain ⟨fd, F⟩ := c.def_ 15 (d := dd "_law_record" 27) rfl
  exact fn_atD (k := 5) (fns := [("_law_draw", 2), ("_law_choice", 2), ("_law_place", 1)]) (T := [R__law_draw, R__law_choice, R__law_place]) M F s__law_record (AllFn.get ⟨FnAt.mono (f__law_draw X G c M) (by decide), FnAt.mono (f__law_choice X G c M) (by decide), FnAt.mono (f__law_place X G c M) (by decide), trivial⟩) c__law_record (by decide +kernel) (He.glo_ok X G (c.fact 32 (f := .glo "_law_record") rfl)) (FunD.bindsN F fun _ _ _ _ _ _ us hl => match us, hl with | [_, _], _ => rfl)
theorem f__law_line {P : Program} {w : World} {K : PySem.W.Frag} {h : Heap} {mg : Str → Option Value} {base : Heap} (X : K.In h) (G : h.Ns mainGlobals mg) (c : He.SaysD fa fn K) (M : ModOk P K mg (clX K xs) cons xs) : FnAt P w K mg base (clX K xs) 3 "_law_line" 1 R__law_line := by
  obtain ⟨fd, F⟩ := c.def_ 16 (d := dd "_law_line" 28) rfl
  exact fn_atD (k := 2) (fns := []) (T := []) M F s__law_line (AllFn.get trivial) c__law_line (by decide +kernel) (He.glo_ok X G (c.fact 33 (f := .glo "_law_line") rfl)) (FunD.bindsN F fun _ _ _ _ _ _ us hl => match us, hl with | [_], _ => rfl)
theorem f__law_is_line {P : Program} {w : World} {K : PySem.W.Frag} {h : Heap} {mg : Str → Option Value} {base : Heap} (X : K.In h) (G : h.Ns mainGlobals mg) (c : He.SaysD fa fn K) (M : ModOk P K mg (clX K xs) cons xs) : FnAt P w K mg base (clX K xs) 3 "_law_is_line" 1 R__law_is_line := by
  obtain ⟨fd, F⟩ := c.def_ 17 (d := dd "_law_is_line" 29) rfl
  exact fn_atD (k := 2) (fns := []) (T := []) M F s__law_is_line (AllFn.get trivial) c__law_is_line (by decide +kernel) (He.glo_ok X G (c.fact 34 (f := .glo "_law_is_line") rfl)) (FunD.bindsN F fun _ _ _ _ _ _ us hl => match us, hl with | [_], _ => rfl)
theorem f__law_scratch {P : Program} {w : World} {K : PySem.W.Frag} {h : Heap} {mg : Str → Option Value} {base : Heap} (X : K.In h) (G : h.Ns mainGlobals mg) (c : He.SaysD fa fn K) (M : ModOk P K mg (clX K xs) cons xs) : FnAt P w K mg base (clX K xs) 3 "_law_scratch" 1 R__law_scratch := by
  obtain ⟨fd, F⟩ := c.def_ 18 (d := dd "_law_scratch" 30) rfl
  exact fn_atD (k := 2) (fns := []) (T := []) M F s__law_scratch (AllFn.get trivial) c__law_scratch (by decide +kernel) (He.glo_ok X G (c.fact 35 (f := .glo "_law_scratch") rfl)) (FunD.bindsN F fun _ _ _ _ _ _ us hl => match us, hl with | [_], _ => rfl)
theorem f__law_due {P : Program} {w : World} {K : PySem.W.Frag} {h : Heap} {mg : Str → Option Value} {base : Heap} (X : K.In h) (G : h.Ns mainGlobals mg) (c : He.SaysD fa fn K) (M : ModOk P K mg (clX K xs) cons xs) : FnAt P w K mg base (clX K xs) 4 "_law_due" 1 R__law_due := by
  obtain ⟨fd, F⟩ := c.def_ 19 (d := dd "_law_due" 31) rfl
  exact fn_atD (k := 3) (fns := [("_law_scratch", 1), ("_law_is_line", 1)]) (T := [R__law_scratch, R__law_is_line]) M F s__law_due (AllFn.get ⟨FnAt.mono (f__law_scratch X G c M) (by decide), FnAt.mono (f__law_is_line X G c M) (by decide), trivial⟩) c__law_due (by decide +kernel) (He.glo_ok X G (c.fact 36 (f := .glo "_law_due") rfl)) (FunD.bindsN F fun _ _ _ _ _ _ us hl => match us, hl with | [_], _ => rfl)
theorem f__law_bent {P : Program} {w : World} {K : PySem.W.Frag} {h : Heap} {mg : Str → Option Value} {base : Heap} (X : K.In h) (G : h.Ns mainGlobals mg) (c : He.SaysD fa fn K) (M : ModOk P K mg (clX K xs) cons xs) : FnAt P w K mg base (clX K xs) 5 "_law_bent" 2 R__law_bent := by
  obtain ⟨fd, F⟩ := c.def_ 20 (d := dd "_law_bent" 32) rfl
  exact fn_atD (k := 4) (fns := [("_law_choice", 2), ("_law_draw", 2)]) (T := [R__law_choice, R__law_draw]) M F s__law_bent (AllFn.get ⟨FnAt.mono (f__law_choice X G c M) (by decide), FnAt.mono (f__law_draw X G c M) (by decide), trivial⟩) c__law_bent (by decide +kernel) (He.glo_ok X G (c.fact 37 (f := .glo "_law_bent") rfl)) (FunD.bindsN F fun _ _ _ _ _ _ us hl => match us, hl with | [_, _], _ => rfl)
theorem f__law_tried {P : Program} {w : World} {K : PySem.W.Frag} {h : Heap} {mg : Str → Option Value} {base : Heap} (X : K.In h) (G : h.Ns mainGlobals mg) (c : He.SaysD fa fn K) (M : ModOk P K mg (clX K xs) cons xs) : FnAt P w K mg base (clX K xs) 8 "_law_tried" 1 R__law_tried := by
  obtain ⟨fd, F⟩ := c.def_ 21 (d := dd "_law_tried" 33) rfl
  exact fn_atD (k := 7) (fns := [("read_record", 1)]) (T := [R_read_record]) M F s__law_tried (AllFn.get ⟨FnAt.mono (f_read_record X G c M) (by decide), trivial⟩) c__law_tried (by decide +kernel) (He.glo_ok X G (c.fact 38 (f := .glo "_law_tried") rfl)) (FunD.bindsN F fun _ _ _ _ _ _ us hl => match us, hl with | [_], _ => rfl)
theorem f_law {P : Program} {w : World} {K : PySem.W.Frag} {h : Heap} {mg : Str → Option Value} {base : Heap} (X : K.In h) (G : h.Ns mainGlobals mg) (c : He.SaysD fa fn K) (M : ModOk P K mg (clX K xs) cons xs) : FnAt P w K mg base (clX K xs) 9 "law" 1 R_law := by
  obtain ⟨fd, F⟩ := c.def_ 22 (d := dd "law" 34) rfl
  exact fn_atD (k := 8) (fns := [("_law_tried", 1), ("_law_due", 1), ("_law_bent", 2), ("read_record", 1), ("record_text", 1), ("_law_line", 1), ("_law_record", 2), ("_law_source", 2)]) (T := [R__law_tried, R__law_due, R__law_bent, R_read_record, R_record_text, R__law_line, R__law_record, R__law_source]) M F s_law (AllFn.get ⟨FnAt.mono (f__law_tried X G c M) (by decide), FnAt.mono (f__law_due X G c M) (by decide), FnAt.mono (f__law_bent X G c M) (by decide), FnAt.mono (f_read_record X G c M) (by decide), FnAt.mono (f_record_text X G c M) (by decide), FnAt.mono (f__law_line X G c M) (by decide), FnAt.mono (f__law_record X G c M) (by decide), FnAt.mono (f__law_source X G c M) (by decide), trivial⟩) c_law (by decide +kernel) (He.glo_ok X G (c.fact 39 (f := .glo "law") rfl)) (FunD.bindsN F fun _ _ _ _ _ _ us hl => match us, hl with | [_], _ => rfl)
theorem m_ok {P : Program} {K : PySem.W.Frag} {h : Heap} {mg : Str → Option Value} (X : K.In h) (G : h.Ns mainGlobals mg) (c : He.SaysD fa fn K) (hc : (cons.all (conB K) && ens.all (exnE K)) = true) : ModOk P K mg (clX K xs) cons xs := by
  refine mod_ok X G c (He.ba hc).1 (by decide +kernel) (by decide +kernel) fun x hx f hf => ?_
  have key : ∀ x ∈ xs, exnF x = none ∨ x = "InvalidText" := by decide +kernel
  rcases key x hx with z | rfl
  · rw [z] at hf; cases hf
  · have e : exnF "InvalidText" = some "line" := by decide +kernel
    rw [e] at hf
    cases hf
    obtain ⟨fd, F⟩ := c.def_ 23 (d := di "InvalidText" "InvalidText.__init__" 3 0) rfl
    exact ⟨He.ga K "InvalidText", by unfold clX; rw [if_pos (by decide +kernel)], exn_ok X G (List.all_eq_true.mp (He.ba hc).2 ("RecordError", "InvalidText", "line") (by decide +kernel)) F si_InvalidText (by decide +kernel) (FunD.bindsN (ps := ["self", "line"]) F fun _ _ _ _ _ _ us hl => match us, hl with | [_, _], _ => rfl) (by decide +kernel)⟩
theorem law_of (hlaw : ∀ ns : List Int, ns.length ≤ 63 → ∃ os, R_law [.ro (.frz (ns.map .int))] = .ok (.d (.bl true)) os) : PySem.Challenge.rw_skipgrooves_k11_texts_of_records.Holds := by
  open PySem.W PySem.Calls in
  w_on; o_law
  refine HandSHeadRun.head_any (r := OpenLaw.row PySem.Challenge.rw_skipgrooves_k11_texts_of_records) (q := view (OpenLaw.row PySem.Challenge.rw_skipgrooves_k11_texts_of_records).prog [34]) (H := hk) (ob := ob) (M := 6000) (loose := others) (d := HandSHeadRun.topDef (OpenLaw.row PySem.Challenge.rw_skipgrooves_k11_texts_of_records).prog 34) (kwd := []) ob_eq
    (by kernel_rfl) (fun s => by kernel_rfl) run (by kernel_rfl) (by kernel_rfl) (by kernel_rfl) (by rfl) (by first | assumption | decide +kernel) (by decide +kernel) ⟨rfl, rfl, rfl, rfl, rfl, by decide +kernel⟩ ?hw ?hc
  case hw => w_witness2
  case hc =>
    refine walk_ofW (l := PySem.Challenge.rw_skipgrooves_k11_texts_of_records) (n := 63) (k := 9) (x := "_law_script") (CX := fun w => L2.CX PySem.Challenge.rw_skipgrooves_k11_texts_of_records.prog w) rfl (by decide) (by kernel_rfl) ⟨rfl, by decide, by decide⟩ ?F no_cx
    intro w mg fa h Y G hmg0
    obtain ⟨K, KX, c, hc⟩ := Y
    have hmg : mg ("law" : PySem.Str) = some (.ref fa) := by
      have e : (HandSHeadRun.topDef (OpenLaw.row PySem.Challenge.rw_skipgrooves_k11_texts_of_records).prog 34).name = ("law" : PySem.Str) := by kernel_rfl
      rw [← e]
      exact hmg0
    obtain ⟨fd, F⟩ := c.def_ 22 (d := dd "law" 34) rfl
    have gl := He.glo_ok KX G (c.fact 39 (f := .glo "law") rfl)
    have e := hmg.symm.trans gl
    cases e
    have b := FunD.bindsA (ps := ["_law_script"]) F fun _ _ _ _ _ _ us hl => match us, hl with | [_], _ => rfl
    refine ⟨K, fd, spD PySem.Challenge.rw_skipgrooves_k11_texts_of_records.prog w K (clX K xs) 1 R_law, KX, fun s v => b s [v] rfl, fun H a ns hl _ hS => law_sp hS (hlaw ns hl), fun base _ _ => ?_⟩
    have M := m_ok (P := PySem.Challenge.rw_skipgrooves_k11_texts_of_records.prog) KX G c hc
    exact fn_okD (k := 8) (fns := [("_law_tried", 1), ("_law_due", 1), ("_law_bent", 2), ("read_record", 1), ("record_text", 1), ("_law_line", 1), ("_law_record", 2), ("_law_source", 2)]) (T := [R__law_tried, R__law_due, R__law_bent, R_read_record, R_record_text, R__law_line, R__law_record, R__law_source]) M F s_law (AllFn.get ⟨FnAt.mono (f__law_tried KX G c M) (by decide), FnAt.mono (f__law_due KX G c M) (by decide), FnAt.mono (f__law_bent KX G c M) (by decide), FnAt.mono (f_read_record KX G c M) (by decide), FnAt.mono (f_record_text KX G c M) (by decide), FnAt.mono (f__law_line KX G c M) (by decide), FnAt.mono (f__law_record KX G c M) (by decide), FnAt.mono (f__law_source KX G c M) (by decide), trivial⟩) c_law (by decide +kernel)
end G.k11
theorem PySem.Challenge.cw_skipgrooves_k11_texts_of_records_holds : PySem.Challenge.rw_skipgrooves_k11_texts_of_records.Holds := by
  exact G.k11.law_of fun ns h => ⟨_, G.k11.r_law ns h⟩
